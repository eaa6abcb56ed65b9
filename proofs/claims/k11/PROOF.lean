import PyProof.Rows.All
import Wide.All
import OpenK.AllK
import Wide.FinOn
import HandS.ForMost
import HandS.SortInts
import HandS.SetBool
import HandS.TupSets
import HandS.DictComp
import HandS.DeepEq
import HandS.OwnEq
import HandS.Property
import HandS.ClsMeth
import HandS.NoneIn
import HandS.Conv
import HandS.Codes
import HandS.More
import HandS.Flow
import HandS.Style
import HandS.SortKw
import PySem.Challenge.RW_threadmark_k11_whole_changes_in_any_orde
import KE.SortCalls
import KE.KDictSum
import HandS.ListItems
import HandS.Walk
section
set_option autoImplicit false
set_option linter.all false
/-! The plain law: webs as lists; cutting, contracting, components. No program in sight. -/
namespace TM
variable {ι : Type} [DecidableEq ι]

/-- a web: its nodes, their marks, its edges (a name, the lesser end, the greater end) -/
structure Wb (ι : Type) where
  ns : List Int
  M : Int → Int
  es : List (ι × Int × Int)

structure Wb.Ok (W : Wb ι) : Prop where
  asc : W.ns.Pairwise (· < ·)
  mr : ∀ n ∈ W.ns, W.M n = 0 ∨ W.M n = 1
  rg : ∀ n ∈ W.ns, 0 ≤ n ∧ n < 12
  nd : (W.es.map (·.1)).Nodup
  en : ∀ e ∈ W.es, e.2.1 ∈ W.ns ∧ e.2.2 ∈ W.ns ∧ e.2.1 < e.2.2

theorem nodup_of_asc : ∀ {l : List Int}, l.Pairwise (· < ·) → l.Nodup := fun h => h.imp fun {a b} x => Int.ne_of_lt x
theorem Wb.Ok.nn {W : Wb ι} (h : W.Ok) : W.ns.Nodup := nodup_of_asc h.asc

def ren (k g x : Int) : Int := if x = g then k else x
def srt (p : Int × Int) : Int × Int := if p.1 ≤ p.2 then p else (p.2, p.1)

/-- what an edge becomes -/
def cstep (k g : Int) (e : ι × Int × Int) : Option (ι × Int × Int) :=
  if ren k g e.2.1 = ren k g e.2.2 then none else some (e.1, srt (ren k g e.2.1, ren k g e.2.2))
def con (k g : Int) (W : Wb ι) : Wb ι where
  ns := W.ns.filter fun n => decide (n ≠ g)
  M := fun n => if n = k then (W.M k + W.M g) % 2 else W.M n
  es := W.es.filterMap (cstep k g)
def cut (x : ι) (W : Wb ι) : Wb ι := { W with es := W.es.filter fun e => decide (e.1 ≠ x) }

/-- the same nodes, marks, edges -/
structure Eqw (W W' : Wb ι) : Prop where
  ns : W.ns = W'.ns
  M : ∀ n ∈ W.ns, W.M n = W'.M n
  es : W.es = W'.es

/-! ### keeping in form -/
theorem ren_ne {k g x : Int} (h : k ≠ g) : ren k g x ≠ g := by
  unfold ren
  split <;> assumption
theorem ren_mem {k g x : Int} {l : List Int} (hk : k ∈ l) (hx : x ∈ l) : ren k g x ∈ l := by
  unfold ren
  split <;> assumption
theorem srt_lt {a b : Int} (h : a ≠ b) : (srt (a, b)).1 < (srt (a, b)).2 := by
  unfold srt
  split <;> (rename_i q; simp at q ⊢; omega)
theorem srt_cases (a b : Int) : srt (a, b) = (a, b) ∨ srt (a, b) = (b, a) := by
  unfold srt
  split <;> simp
theorem cstep_some {k g : Int} {e f : ι × Int × Int} (h : cstep k g e = some f) : ren k g e.2.1 ≠ ren k g e.2.2 ∧ f = (e.1, srt (ren k g e.2.1, ren k g e.2.2)) := by
  unfold cstep at h
  split at h
  · cases h
  · rename_i q
    exact ⟨q, (Option.some.inj h).symm⟩
theorem map_fst_sub {k g : Int} : ∀ (l : List (ι × Int × Int)), ((l.filterMap (cstep k g)).map (·.1)).Sublist (l.map (·.1))
  | [] => by simp
  | e :: r => by
    cases q : cstep k g e with
    | none =>
      rw [List.filterMap_cons_none q, List.map_cons]
      exact (map_fst_sub r).cons _
    | some f =>
      obtain ⟨_, rfl⟩ := cstep_some q
      rw [List.filterMap_cons_some q, List.map_cons, List.map_cons]
      exact (map_fst_sub r).cons_cons _

theorem con_ok {W : Wb ι} (h : W.Ok) {k g : Int} (hk : k ∈ W.ns) (hg : g ∈ W.ns) (hkg : k ≠ g) : (con k g W).Ok where
  asc := h.asc.filter _
  mr := fun n hn => by
    have hn' := (List.mem_filter.mp hn).1
    show (if n = k then (W.M k + W.M g) % 2 else W.M n) = 0 ∨ (if n = k then (W.M k + W.M g) % 2 else W.M n) = 1
    split
    · omega
    · exact h.mr n hn'
  rg := fun n hn => h.rg n (List.mem_filter.mp hn).1
  nd := (map_fst_sub W.es).nodup h.nd
  en := fun f hf => by
    obtain ⟨e, he, q⟩ := List.mem_filterMap.mp hf
    obtain ⟨hne, rfl⟩ := cstep_some q
    obtain ⟨h1, h2, _⟩ := h.en e he
    have m : ∀ x, x ∈ W.ns → ren k g x ∈ (con k g W).ns := fun x hx => List.mem_filter.mpr ⟨ren_mem hk hx, by simpa using ren_ne hkg⟩
    refine ⟨?_, ?_, srt_lt hne⟩
    · rcases srt_cases (ren k g e.2.1) (ren k g e.2.2) with z | z <;> rw [z]
      · exact m _ h1
      · exact m _ h2
    · rcases srt_cases (ren k g e.2.1) (ren k g e.2.2) with z | z <;> rw [z]
      · exact m _ h2
      · exact m _ h1
theorem cut_ok {W : Wb ι} (h : W.Ok) (x : ι) : (cut x W).Ok where
  asc := h.asc
  mr := h.mr
  rg := h.rg
  nd := (List.filter_sublist.map _).nodup h.nd
  en := fun e he => h.en e (List.mem_filter.mp he).1

/-! ### any order -/
theorem cut_cut (W : Wb ι) (x y : ι) : Eqw (cut x (cut y W)) (cut y (cut x W)) where
  ns := rfl
  M := fun _ _ => rfl
  es := by
    show (W.es.filter _).filter _ = (W.es.filter _).filter _
    rw [List.filter_filter, List.filter_filter]
    exact List.filter_congr fun e _ => Bool.and_comm _ _

theorem cut_con (W : Wb ι) (x : ι) (k g : Int) : Eqw (con k g (cut x W)) (cut x (con k g W)) where
  ns := rfl
  M := fun _ _ => rfl
  es := by
    show (W.es.filter _).filterMap _ = (W.es.filterMap _).filter _
    induction W.es with
    | nil => rfl
    | cons e r ih =>
      by_cases hx : e.1 = x
      · rw [List.filter_cons_of_neg (by simp [hx])]
        cases q : cstep k g e with
        | none => rw [List.filterMap_cons_none q]; exact ih
        | some f =>
          obtain ⟨_, rfl⟩ := cstep_some q
          rw [List.filterMap_cons_some q, List.filter_cons_of_neg (by simp [hx])]
          exact ih
      · rw [List.filter_cons_of_pos (by simp [hx])]
        cases q : cstep k g e with
        | none => rw [List.filterMap_cons_none q, List.filterMap_cons_none q]; exact ih
        | some f =>
          obtain ⟨_, rfl⟩ := cstep_some q
          rw [List.filterMap_cons_some q, List.filterMap_cons_some q, List.filter_cons_of_pos (by simp [hx]), ih]

/-- two contractions, edge by edge -/
theorem cstep_twice {k g k' g' : Int} (e : ι × Int × Int) : (cstep k g e).bind (cstep k' g') =
    if ren k' g' (ren k g e.2.1) = ren k' g' (ren k g e.2.2) then none else some (e.1, srt (ren k' g' (ren k g e.2.1), ren k' g' (ren k g e.2.2))) := by
  by_cases h : ren k g e.2.1 = ren k g e.2.2
  · have q : cstep k g e = none := by unfold cstep; rw [if_pos h]
    rw [q, h, if_pos rfl]
    rfl
  · have q : cstep k g e = some (e.1, srt (ren k g e.2.1, ren k g e.2.2)) := by unfold cstep; rw [if_neg h]
    rw [q]
    show cstep k' g' (e.1, srt (ren k g e.2.1, ren k g e.2.2)) = _
    unfold cstep
    rcases srt_cases (ren k g e.2.1) (ren k g e.2.2) with z | z <;> rw [z]
    show (if ren k' g' (ren k g e.2.2) = ren k' g' (ren k g e.2.1) then none else some (e.1, srt (ren k' g' (ren k g e.2.2), ren k' g' (ren k g e.2.1)))) = _
    by_cases c : ren k' g' (ren k g e.2.1) = ren k' g' (ren k g e.2.2)
    · rw [if_pos c, if_pos c.symm]
    · rw [if_neg c, if_neg fun x => c x.symm]
      have : srt (ren k' g' (ren k g e.2.2), ren k' g' (ren k g e.2.1)) = srt (ren k' g' (ren k g e.2.1), ren k' g' (ren k g e.2.2)) := by
        unfold srt
        simp only
        split <;> split <;> first | rfl | (exfalso; omega)
      rw [this]

/-- the ends of the second edge behind the first contraction -/
abbrev ends2 (k g k' g' : Int) : Int × Int := srt (ren k g k', ren k g g')

theorem ren_of {k g x : Int} (h : x ≠ g) : ren k g x = x := if_neg h
theorem ren_at {k g : Int} : ren k g g = k := if_pos rfl
theorem srt_le {a b : Int} (h : a ≤ b) : srt (a, b) = (a, b) := if_pos h
theorem srt_gt {a b : Int} (h : b < a) : srt (a, b) = (b, a) := if_neg (show ¬ a ≤ b by omega)

theorem ends2_cases {k1 g1 k2 g2 : Int} (h1 : k1 < g1) (h2 : k2 < g2) (hne : ¬ (k1 = k2 ∧ g1 = g2)) :
    (g1 = g2 ∧ k1 < k2 ∧ ends2 k1 g1 k2 g2 = (k1, k2) ∧ ends2 k2 g2 k1 g1 = (k1, k2)) ∨
    (g1 = g2 ∧ k2 < k1 ∧ ends2 k1 g1 k2 g2 = (k2, k1) ∧ ends2 k2 g2 k1 g1 = (k2, k1)) ∨
    (k1 = k2 ∧ g1 ≠ g2 ∧ ends2 k1 g1 k2 g2 = (k1, g2) ∧ ends2 k2 g2 k1 g1 = (k1, g1)) ∨
    (g1 = k2 ∧ ends2 k1 g1 k2 g2 = (k1, g2) ∧ ends2 k2 g2 k1 g1 = (k1, g1)) ∨
    (k1 = g2 ∧ ends2 k1 g1 k2 g2 = (k2, g2) ∧ ends2 k2 g2 k1 g1 = (k2, g1)) ∨
    (k1 ≠ k2 ∧ k1 ≠ g2 ∧ g1 ≠ k2 ∧ g1 ≠ g2 ∧ ends2 k1 g1 k2 g2 = (k2, g2) ∧ ends2 k2 g2 k1 g1 = (k1, g1)) := by
  unfold ends2
  by_cases a : g1 = g2
  · subst a
    rcases Int.lt_trichotomy k1 k2 with c | c | c
    · refine .inl ⟨rfl, c, ?_, ?_⟩
      · rw [ren_of (by omega), ren_at, srt_gt c]
      · rw [ren_of (by omega), ren_at, srt_le (by omega)]
    · exact absurd ⟨c, rfl⟩ hne
    · refine .inr (.inl ⟨rfl, c, ?_, ?_⟩)
      · rw [ren_of (by omega), ren_at, srt_le (by omega)]
      · rw [ren_of (by omega), ren_at, srt_gt c]
  · by_cases b : k1 = k2
    · subst b
      refine .inr (.inr (.inl ⟨rfl, a, ?_, ?_⟩))
      · rw [ren_of (by omega), ren_of (by omega), srt_le (by omega)]
      · rw [ren_of (by omega), ren_of (by omega), srt_le (by omega)]
    · by_cases c : g1 = k2
      · subst c
        refine .inr (.inr (.inr (.inl ⟨rfl, ?_, ?_⟩)))
        · rw [ren_at, ren_of (by omega), srt_le (by omega)]
        · rw [ren_of (by omega), ren_of (by omega), srt_le (by omega)]
      · by_cases d : k1 = g2
        · subst d
          refine .inr (.inr (.inr (.inr (.inl ⟨rfl, ?_, ?_⟩))))
          · rw [ren_of (by omega), ren_of (by omega), srt_le (by omega)]
          · rw [ren_at, ren_of (by omega), srt_le (by omega)]
        · refine .inr (.inr (.inr (.inr (.inr ⟨b, d, c, a, ?_, ?_⟩))))
          · rw [ren_of (by omega), ren_of (by omega), srt_le (by omega)]
          · rw [ren_of (by omega), ren_of (by omega), srt_le (by omega)]

theorem ren_comm {k1 g1 k2 g2 : Int} (h1 : k1 < g1) (h2 : k2 < g2) (hne : ¬ (k1 = k2 ∧ g1 = g2)) (x : Int) :
    ren (ends2 k1 g1 k2 g2).1 (ends2 k1 g1 k2 g2).2 (ren k1 g1 x) = ren (ends2 k2 g2 k1 g1).1 (ends2 k2 g2 k1 g1).2 (ren k2 g2 x) := by
  rcases ends2_cases h1 h2 hne with ⟨a, b, e, f⟩ | ⟨a, b, e, f⟩ | ⟨a, b, e, f⟩ | ⟨a, e, f⟩ | ⟨a, e, f⟩ | ⟨a, b, c, d, e, f⟩
  all_goals
    rw [e, f]
    unfold ren
    simp only
    repeat' (first | rfl | omega | split)

theorem fmap_congr {α β : Type} {f g : α → Option β} : ∀ {l : List α}, (∀ x ∈ l, f x = g x) → l.filterMap f = l.filterMap g
  | [], _ => rfl
  | a :: r, h => by
    rw [List.filterMap_cons, List.filterMap_cons, h a List.mem_cons_self, fmap_congr fun x hx => h x (List.mem_cons_of_mem _ hx)]

theorem con_con {W : Wb ι} (h : W.Ok) {k1 g1 k2 g2 : Int} (hk1 : k1 ∈ W.ns) (hg1 : g1 ∈ W.ns) (hk2 : k2 ∈ W.ns) (hg2 : g2 ∈ W.ns) (h1 : k1 < g1) (h2 : k2 < g2) (hne : ¬ (k1 = k2 ∧ g1 = g2)) :
    Eqw (con (ends2 k1 g1 k2 g2).1 (ends2 k1 g1 k2 g2).2 (con k1 g1 W)) (con (ends2 k2 g2 k1 g1).1 (ends2 k2 g2 k1 g1).2 (con k2 g2 W)) where
  ns := by
    show (W.ns.filter _).filter _ = (W.ns.filter _).filter _
    rw [List.filter_filter, List.filter_filter]
    refine List.filter_congr fun n _ => ?_
    rw [← Bool.decide_and, ← Bool.decide_and]
    refine decide_eq_decide.mpr ?_
    rcases ends2_cases h1 h2 hne with ⟨a, b, e, f⟩ | ⟨a, b, e, f⟩ | ⟨a, b, e, f⟩ | ⟨a, e, f⟩ | ⟨a, e, f⟩ | ⟨a, b, c, d, e, f⟩
    all_goals
      rw [e, f]
      simp only
      omega
  M := fun n hn => by
    have hn1 : n ≠ g1 ∧ n ≠ (ends2 k1 g1 k2 g2).2 := by
      obtain ⟨a, b⟩ := List.mem_filter.mp hn
      obtain ⟨c, d⟩ := List.mem_filter.mp a
      exact ⟨of_decide_eq_true d, of_decide_eq_true b⟩
    have a1 := h.mr k1 hk1
    have a2 := h.mr g1 hg1
    have a3 := h.mr k2 hk2
    have a4 := h.mr g2 hg2
    show (if n = (ends2 k1 g1 k2 g2).1 then ((if (ends2 k1 g1 k2 g2).1 = k1 then (W.M k1 + W.M g1) % 2 else W.M (ends2 k1 g1 k2 g2).1) + (if (ends2 k1 g1 k2 g2).2 = k1 then (W.M k1 + W.M g1) % 2 else W.M (ends2 k1 g1 k2 g2).2)) % 2 else (if n = k1 then (W.M k1 + W.M g1) % 2 else W.M n)) =
      (if n = (ends2 k2 g2 k1 g1).1 then ((if (ends2 k2 g2 k1 g1).1 = k2 then (W.M k2 + W.M g2) % 2 else W.M (ends2 k2 g2 k1 g1).1) + (if (ends2 k2 g2 k1 g1).2 = k2 then (W.M k2 + W.M g2) % 2 else W.M (ends2 k2 g2 k1 g1).2)) % 2 else (if n = k2 then (W.M k2 + W.M g2) % 2 else W.M n))
    revert hn1
    rcases ends2_cases h1 h2 hne with ⟨a, b, e, f⟩ | ⟨a, b, e, f⟩ | ⟨a, b, e, f⟩ | ⟨a, e, f⟩ | ⟨a, e, f⟩ | ⟨a, b, c, d, e, f⟩
    all_goals
      rw [e, f]
      simp only
      intro hn1
      by_cases c1 : n = k1 <;> by_cases c2 : n = k2
      all_goals (try subst c1)
      all_goals (try subst c2)
      all_goals (try subst a)
      all_goals repeat' (first | rfl | omega | exact absurd trivial (by assumption) | split)
  es := by
    show (W.es.filterMap _).filterMap _ = (W.es.filterMap _).filterMap _
    rw [List.filterMap_filterMap, List.filterMap_filterMap]
    refine fmap_congr fun e _ => ?_
    rw [cstep_twice, cstep_twice, ren_comm h1 h2 hne, ren_comm h1 h2 hne]

/-! ### components -/
def Adj (W : Wb ι) (x y : Int) : Prop := ∃ e ∈ W.es, (e.2.1 = x ∧ e.2.2 = y) ∨ (e.2.1 = y ∧ e.2.2 = x)
inductive Conn (W : Wb ι) (x : Int) : Int → Prop
  | here : Conn W x x
  | step {y z : Int} : Conn W x y → Adj W y z → Conn W x z
theorem Adj.symm {W : Wb ι} {x y : Int} (h : Adj W x y) : Adj W y x := by
  obtain ⟨e, he, q⟩ := h
  exact ⟨e, he, q.symm⟩
theorem Conn.trans {W : Wb ι} {x y z : Int} (h : Conn W x y) (k : Conn W y z) : Conn W x z := by
  induction k with
  | here => exact h
  | step _ a ih => exact .step ih a
theorem Conn.symm {W : Wb ι} {x y : Int} (h : Conn W x y) : Conn W y x := by
  induction h with
  | here => exact .here
  | step _ a ih => exact Conn.trans (.step .here a.symm) ih
theorem Conn.mem {W : Wb ι} (h : W.Ok) {x y : Int} (hx : x ∈ W.ns) (c : Conn W x y) : y ∈ W.ns := by
  cases c with
  | here => exact hx
  | step _ a =>
    obtain ⟨e, he, q⟩ := a
    obtain ⟨h1, h2, _⟩ := h.en e he
    rcases q with ⟨_, rfl⟩ | ⟨rfl, _⟩ <;> assumption

open Classical in
/-- the component of a node, ascending -/
noncomputable def comp (W : Wb ι) (n : Int) : List Int := W.ns.filter fun m => decide (Conn W n m)
open Classical in
theorem mem_comp {W : Wb ι} {n m : Int} : m ∈ comp W n ↔ m ∈ W.ns ∧ Conn W n m := by
  unfold comp
  rw [List.mem_filter, decide_eq_true_eq]
theorem self_comp {W : Wb ι} {n : Int} (h : n ∈ W.ns) : n ∈ comp W n := mem_comp.mpr ⟨h, .here⟩
open Classical in
theorem comp_eq {W : Wb ι} {n m : Int} (h : Conn W n m) : comp W n = comp W m := by
  unfold comp
  refine List.filter_congr fun x _ => ?_
  exact decide_eq_decide.mpr ⟨fun c => h.symm.trans c, fun c => h.trans c⟩
theorem comp_asc {W : Wb ι} (h : W.Ok) (n : Int) : (comp W n).Pairwise (· < ·) := h.asc.filter _

/-- the sum of marks over some nodes -/
def sumM (M : Int → Int) (l : List Int) : Int := (l.map M).sum
/-- is a component odd -/
def oddC (W : Wb ι) (c : List Int) : Bool := decide (sumM W.M c % 2 = 1)
def par (W : Wb ι) : Int := sumM W.M W.ns % 2

/-- the marks behind a contraction, over nodes of which k and g are both or none -/
theorem sum_con (M : Int → Int) {k g : Int} (hkg : k ≠ g) : ∀ {l : List Int}, l.Nodup →
    sumM (fun n => if n = k then (M k + M g) % 2 else M n) (l.filter fun n => decide (n ≠ g)) =
      sumM M l - (if g ∈ l then M g else 0) + (if k ∈ l then (M k + M g) % 2 - M k else 0)
  | [], _ => by simp [sumM]
  | a :: r, h => by
    obtain ⟨ha, hr⟩ := List.nodup_cons.mp h
    have ih := sum_con M hkg hr
    by_cases e : a = g
    · subst e
      rw [List.filter_cons_of_neg (by simp), ih]
      have e1 : (if a ∈ a :: r then M a else 0) = M a := if_pos List.mem_cons_self
      have e2 : (if a ∈ r then M a else 0) = 0 := if_neg ha
      have e3 : (if k ∈ a :: r then (M k + M a) % 2 - M k else 0) = (if k ∈ r then (M k + M a) % 2 - M k else 0) := by simp [hkg]
      have e4 : sumM M (a :: r) = M a + sumM M r := by simp [sumM]
      rw [e1, e2, e3, e4]
      omega
    · rw [List.filter_cons_of_pos (by simp [e])]
      have e0 : ∀ l, sumM (fun n => if n = k then (M k + M g) % 2 else M n) (a :: l) = (if a = k then (M k + M g) % 2 else M a) + sumM (fun n => if n = k then (M k + M g) % 2 else M n) l := fun l => by simp [sumM]
      have e4 : sumM M (a :: r) = M a + sumM M r := by simp [sumM]
      have e1 : (if g ∈ a :: r then M g else 0) = (if g ∈ r then M g else 0) := by
        have : ¬ g = a := fun z => e z.symm
        simp [this]
      rw [e0, e4, e1, ih]
      by_cases c : a = k
      · subst c
        have e5 : (if a ∈ a :: r then (M a + M g) % 2 - M a else 0) = (M a + M g) % 2 - M a := if_pos List.mem_cons_self
        have e6 : (if a ∈ r then (M a + M g) % 2 - M a else 0) = 0 := if_neg ha
        rw [e5, e6, if_pos rfl]
        omega
      · have c' : ¬ k = a := fun z => c z.symm
        have e5 : (if k ∈ a :: r then (M k + M g) % 2 - M k else 0) = (if k ∈ r then (M k + M g) % 2 - M k else 0) := by simp [c']
        rw [e5, if_neg c]
        omega
theorem sum_con2 (M : Int → Int) {k g : Int} (hkg : k ≠ g) {l : List Int} (h : l.Nodup) (b : k ∈ l ↔ g ∈ l) :
    sumM (fun n => if n = k then (M k + M g) % 2 else M n) (l.filter fun n => decide (n ≠ g)) % 2 = sumM M l % 2 := by
  rw [sum_con M hkg h]
  by_cases c : g ∈ l
  · rw [if_pos c, if_pos (b.mpr c)]
    omega
  · rw [if_neg c, if_neg (fun x => c (b.mp x))]
    omega

theorem par_con {W : Wb ι} (h : W.Ok) {k g : Int} (hk : k ∈ W.ns) (hg : g ∈ W.ns) (hkg : k ≠ g) : par (con k g W) = par W :=
  sum_con2 W.M hkg h.nn ⟨fun _ => hg, fun _ => hk⟩

/-- an edge that is there -/
structure Edge (W : Wb ι) (x : ι) (k g : Int) : Prop where
  mem : (x, k, g) ∈ W.es
theorem Edge.adj {W : Wb ι} {x : ι} {k g : Int} (e : Edge W x k g) : Adj W k g := ⟨_, e.mem, .inl ⟨rfl, rfl⟩⟩
theorem Edge.k {W : Wb ι} {x : ι} {k g : Int} (e : Edge W x k g) (h : W.Ok) : k ∈ W.ns := (h.en _ e.mem).1
theorem Edge.g {W : Wb ι} {x : ι} {k g : Int} (e : Edge W x k g) (h : W.Ok) : g ∈ W.ns := (h.en _ e.mem).2.1
theorem Edge.lt {W : Wb ι} {x : ι} {k g : Int} (e : Edge W x k g) (h : W.Ok) : k < g := (h.en _ e.mem).2.2
theorem nd_inj {α β : Type} {f : α → β} : ∀ {l : List α}, (l.map f).Nodup → ∀ {a b}, a ∈ l → b ∈ l → f a = f b → a = b
  | [], _, _, _, h, _, _ => by cases h
  | c :: r, h, a, b, ha, hb, e => by
    rw [List.map_cons] at h
    obtain ⟨h1, h2⟩ := List.nodup_cons.mp h
    rcases List.mem_cons.mp ha with rfl | ha'
    · rcases List.mem_cons.mp hb with rfl | hb'
      · rfl
      · exact absurd (List.mem_map.mpr ⟨b, hb', e.symm⟩) h1
    · rcases List.mem_cons.mp hb with rfl | hb'
      · exact absurd (List.mem_map.mpr ⟨a, ha', e⟩) h1
      · exact nd_inj h2 ha' hb' e
theorem Edge.uniq {W : Wb ι} {x : ι} {k g k' g' : Int} (h : W.Ok) (e : Edge W x k g) (e' : Edge W x k' g') : k = k' ∧ g = g' := by
  have q := nd_inj h.nd e.mem e'.mem rfl
  injection q with _ q
  injection q with q1 q2
  exact ⟨q1, q2⟩
theorem Edge.cut {W : Wb ι} {x y : ι} {k g : Int} (e : Edge W x k g) (h : x ≠ y) : Edge (cut y W) x k g := ⟨List.mem_filter.mpr ⟨e.mem, by simpa using h⟩⟩
/-- an edge that is not parallel stays -/
theorem Edge.con {W : Wb ι} {x y : ι} {k g k' g' : Int} (h : W.Ok) (e : Edge W x k g) (e' : Edge W y k' g') (hne : ¬ (k = k' ∧ g = g')) : Edge (con k' g' W) x (srt (ren k' g' k, ren k' g' g)).1 (srt (ren k' g' k, ren k' g' g)).2 := by
  refine ⟨List.mem_filterMap.mpr ⟨_, e.mem, ?_⟩⟩
  have a := e.lt h
  have b := e'.lt h
  unfold cstep
  rw [if_neg]
  show ¬ ren k' g' k = ren k' g' g
  unfold ren
  split <;> split <;> omega

section
variable {W : Wb ι} (h : W.Ok) {x : ι} {k g : Int} (e : Edge W x k g)
include h e
theorem conn_fwd {a b : Int} (c : Conn W a b) : Conn (con k g W) (ren k g a) (ren k g b) := by
  induction c with
  | here => exact .here
  | @step y z _ ad ih =>
    obtain ⟨f, hf, q⟩ := ad
    by_cases c : ren k g f.2.1 = ren k g f.2.2
    · have : ren k g y = ren k g z := by rcases q with ⟨rfl, rfl⟩ | ⟨rfl, rfl⟩ <;> simp [c]
      rw [← this]
      exact ih
    · refine .step ih ⟨(f.1, srt (ren k g f.2.1, ren k g f.2.2)), List.mem_filterMap.mpr ⟨f, hf, by unfold cstep; rw [if_neg c]⟩, ?_⟩
      rcases srt_cases (ren k g f.2.1) (ren k g f.2.2) with z | z <;> rw [z] <;> rcases q with ⟨rfl, rfl⟩ | ⟨rfl, rfl⟩
      · exact .inl ⟨rfl, rfl⟩
      · exact .inr ⟨rfl, rfl⟩
      · exact .inr ⟨rfl, rfl⟩
      · exact .inl ⟨rfl, rfl⟩
theorem conn_ren (a : Int) : Conn W (ren k g a) a := by
  unfold ren
  split
  · rename_i q
    subst q
    exact .step .here e.adj
  · exact .here
theorem conn_bwd {a b : Int} (c : Conn (con k g W) a b) : Conn W a b := by
  induction c with
  | here => exact .here
  | @step y z _ ad ih =>
    obtain ⟨f', hf', q⟩ := ad
    obtain ⟨f, hf, r⟩ := List.mem_filterMap.mp hf'
    obtain ⟨_, rfl⟩ := cstep_some r
    have ed : Conn W (ren k g f.2.1) (ren k g f.2.2) := ((conn_ren h e f.2.1).trans (.step .here ⟨f, hf, .inl ⟨rfl, rfl⟩⟩)).trans (conn_ren h e f.2.2).symm
    refine ih.trans ?_
    rcases srt_cases (ren k g f.2.1) (ren k g f.2.2) with z | z <;> rw [z] at q <;> rcases q with ⟨rfl, rfl⟩ | ⟨rfl, rfl⟩
    · exact ed
    · exact ed.symm
    · exact ed.symm
    · exact ed
open Classical in
theorem comp_con {n : Int} (hn : n ≠ g) : comp (con k g W) n = (comp W n).filter fun m => decide (m ≠ g) := by
  unfold comp
  show (W.ns.filter _).filter _ = _
  rw [List.filter_filter, List.filter_filter]
  refine List.filter_congr fun m _ => ?_
  rw [Bool.and_comm]
  by_cases c : m = g
  · simp [c]
  · have : decide (m ≠ g) = true := by simp [c]
    rw [this, Bool.true_and, Bool.true_and]
    refine decide_eq_decide.mpr ⟨conn_bwd h e, fun d => ?_⟩
    have q := conn_fwd h e d
    rwa [ren_of hn, ren_of c] at q
theorem odd_con {n : Int} (hn : n ≠ g) : oddC (con k g W) (comp (con k g W) n) = oddC W (comp W n) := by
  unfold oddC
  rw [comp_con h e hn]
  have q : sumM (con k g W).M ((comp W n).filter fun m => decide (m ≠ g)) % 2 = sumM W.M (comp W n) % 2 := by
    refine sum_con2 W.M (Int.ne_of_lt (e.lt h)) (nodup_of_asc (comp_asc h n)) ?_
    rw [mem_comp, mem_comp]
    exact ⟨fun z => ⟨e.g h, .step z.2 e.adj⟩, fun z => ⟨e.k h, .step z.2 e.adj.symm⟩⟩
  rw [q]
end

/-- a list of the components -/
structure Comps (W : Wb ι) (L : List (List Int)) : Prop where
  nd : L.Nodup
  all : ∀ c, c ∈ L ↔ ∃ n ∈ W.ns, c = comp W n
theorem nodup_map {α β : Type} {f : α → β} : ∀ {l : List α}, (∀ a ∈ l, ∀ b ∈ l, f a = f b → a = b) → l.Nodup → (l.map f).Nodup
  | [], _, _ => List.nodup_nil
  | a :: r, hi, h => by
    obtain ⟨h1, h2⟩ := List.nodup_cons.mp h
    rw [List.map_cons]
    refine List.nodup_cons.mpr ⟨fun m => ?_, nodup_map (fun x hx y hy => hi x (List.mem_cons_of_mem _ hx) y (List.mem_cons_of_mem _ hy)) h2⟩
    obtain ⟨b, hb, e⟩ := List.mem_map.mp m
    have := hi b (List.mem_cons_of_mem _ hb) a List.mem_cons_self e
    subst this
    exact h1 hb
theorem comps_con {W : Wb ι} (h : W.Ok) {x : ι} {k g : Int} (e : Edge W x k g) {L L' : List (List Int)} (cL : Comps W L) (cL' : Comps (con k g W) L') :
    (L'.map (oddC (con k g W))).Perm (L.map (oddC W)) := by
  have hkg := Int.ne_of_lt (e.lt h)
  -- each component is that of a node other than g
  have rep : ∀ c ∈ L, ∃ n ∈ W.ns, n ≠ g ∧ c = comp W n := fun c hc => by
    obtain ⟨n, hn, rfl⟩ := (cL.all c).mp hc
    by_cases q : n = g
    · subst q
      exact ⟨k, e.k h, hkg, comp_eq (.step .here e.adj.symm)⟩
    · exact ⟨n, hn, q, rfl⟩
  have p : L'.Perm (L.map fun c => c.filter fun m => decide (m ≠ g)) := by
    refine (List.perm_ext_iff_of_nodup cL'.nd (nodup_map (fun a ha b hb q => ?_) cL.nd)).mpr fun c => ?_
    · obtain ⟨n, hn, ng, rfl⟩ := rep a ha
      obtain ⟨m, hm, mg, rfl⟩ := rep b hb
      have z : n ∈ (comp W n).filter fun m => decide (m ≠ g) := List.mem_filter.mpr ⟨self_comp hn, by simpa using ng⟩
      rw [q] at z
      exact comp_eq (mem_comp.mp (List.mem_filter.mp z).1).2.symm
    · rw [cL'.all, List.mem_map]
      constructor
      · rintro ⟨n, hn, rfl⟩
        obtain ⟨h1, h2⟩ := List.mem_filter.mp hn
        have ng : n ≠ g := of_decide_eq_true h2
        exact ⟨comp W n, (cL.all _).mpr ⟨n, h1, rfl⟩, (comp_con h e ng).symm⟩
      · rintro ⟨c, hc, rfl⟩
        obtain ⟨n, hn, ng, rfl⟩ := rep c hc
        exact ⟨n, List.mem_filter.mpr ⟨hn, by simpa using ng⟩, (comp_con h e ng).symm⟩
  refine (p.map (oddC (con k g W))).trans ?_
  rw [List.map_map]
  have : L.map (oddC (con k g W) ∘ fun c => c.filter fun m => decide (m ≠ g)) = L.map (oddC W) := by
    refine List.map_congr_left fun c hc => ?_
    obtain ⟨n, hn, ng, rfl⟩ := rep c hc
    show oddC (con k g W) ((comp W n).filter fun m => decide (m ≠ g)) = _
    rw [← comp_con h e ng]
    exact odd_con h e ng
  rw [this]
/-- the first node of a component names it -/
theorem comps_head {W : Wb ι} {L : List (List Int)} (cL : Comps W L) {c : List Int} (hc : c ∈ L) : ∃ n r, c = n :: r ∧ n ∈ W.ns ∧ comp W n = c := by
  obtain ⟨n, hn, rfl⟩ := (cL.all c).mp hc
  cases q : comp W n with
  | nil => exact absurd (self_comp hn) (by rw [q]; simp)
  | cons a r =>
    have ha : a ∈ comp W n := by rw [q]; exact List.mem_cons_self
    obtain ⟨h1, h2⟩ := mem_comp.mp ha
    exact ⟨a, r, rfl, h1, (comp_eq h2).symm.trans q⟩

/-! ### lists in order are one -/
theorem asc_uniq : ∀ {l m : List Int}, l.Pairwise (· < ·) → m.Pairwise (· < ·) → (∀ x, x ∈ l ↔ x ∈ m) → l = m
  | [], [], _, _, _ => rfl
  | [], b :: m, _, _, h => absurd ((h b).mpr List.mem_cons_self) (by simp)
  | a :: l, [], _, _, h => absurd ((h a).mp List.mem_cons_self) (by simp)
  | a :: l, b :: m, hl, hm, h => by
    obtain ⟨l1, l2⟩ := List.pairwise_cons.mp hl
    obtain ⟨m1, m2⟩ := List.pairwise_cons.mp hm
    have e : a = b := by
      rcases List.mem_cons.mp ((h a).mp List.mem_cons_self) with z | z
      · exact z
      · rcases List.mem_cons.mp ((h b).mpr List.mem_cons_self) with y | y
        · exact y.symm
        · have := l1 b y
          have := m1 a z
          omega
    subst e
    rw [asc_uniq l2 m2 fun x => ?_]
    constructor
    · intro hx
      rcases List.mem_cons.mp ((h x).mp (List.mem_cons_of_mem _ hx)) with z | z
      · have := l1 x hx
        omega
      · exact z
    · intro hx
      rcases List.mem_cons.mp ((h x).mpr (List.mem_cons_of_mem _ hx)) with z | z
      · have := m1 x hx
        omega
      · exact z
theorem asc_of_le {l : List Int} (h : l.Pairwise (· ≤ ·)) (nd : l.Nodup) : l.Pairwise (· < ·) := by
  have := h.and nd
  exact this.imp fun {a b} z => by
    obtain ⟨z1, z2⟩ := z
    omega
end TM
end
section
set_option Elab.async false
set_option linter.all false
set_option maxRecDepth 100000
set_option maxHeartbeats 4000000
/-! The text by places. -/
namespace TK
open PySem PySem.Spec PyProof.Rows L2
abbrev Prg : Program := PySem.Challenge.pw_threadmark_k11_whole_changes_in_any_orde
def top (i : Nat) : Stmt := PySem.Challenge.pw_threadmark_k11_whole_changes_in_any_orde.main.body.getD i (.Pass ⟨0, 0, 0, 0⟩)
abbrev sIsNode : Stmt := top 12
abbrev sIsName : Stmt := top 13
abbrev sCheck : Stmt := top 14
abbrev sInit : Stmt := inClass (top 15) 2
abbrev sEq : Stmt := inClass (top 15) 4
abbrev sParity : Stmt := inClass (top 15) 11
abbrev sEdges : Stmt := inClass (top 15) 13
abbrev sMark : Stmt := inClass (top 15) 14
abbrev sEnds : Stmt := inClass (top 15) 15
abbrev sEdgesOf : Stmt := inClass (top 15) 16
abbrev sOther : Stmt := inClass (top 15) 17
abbrev sCompOf : Stmt := inClass (top 15) 19
abbrev sComps : Stmt := inClass (top 15) 20
abbrev sIsOdd : Stmt := inClass (top 15) 21
abbrev sCut : Stmt := inClass (top 15) 28
abbrev sCon : Stmt := inClass (top 15) 29
abbrev sBag : Stmt := top 17
abbrev sPull : Stmt := top 18
abbrev sOf : Stmt := top 19
abbrev sMixed : Stmt := top 20
abbrev sLetters : Stmt := top 21
abbrev sRaw : Stmt := top 22
abbrev sFive : Stmt := top 23
abbrev sSix : Stmt := top 24
abbrev sRenamed : Stmt := top 25
abbrev sHard : Stmt := top 26
abbrev sSome : Stmt := top 27
abbrev sWeb : Stmt := top 28
abbrev sLaw : Stmt := top 29
end TK
end
section
set_option Elab.async false
set_option linter.all false
set_option maxRecDepth 100000
set_option maxHeartbeats 4000000
/-! The bag of draws: _law_bag, _law_pull, _law_of. -/
namespace TK
open PySem PySem.Spec PyProof.Rows L2

/-- nothing but b is changed -/
def Keep (b : Addr) (H H' : Hp) : Prop := ∀ a o, a ≠ b → H a = some o → H' a = some o
theorem Keep.refl {b : Addr} {H : Hp} : Keep b H H := fun _ _ _ h => h
theorem Keep.trans {b : Addr} {H H1 H2 : Hp} (a : Keep b H H1) (c : Keep b H1 H2) : Keep b H H2 := fun x o n h => c x o n (a x o n h)
theorem Keep.same {b : Addr} {H H1 : Hp} (a : Same H H1) : Keep b H H1 := fun x o _ h => a x o h
theorem Keep.wr {b : Addr} {H : Hp} {o : HO} : Keep b H (upd H b o) := fun x u n h => by rw [upd_ne n]; exact h
theorem same_upd {H : Hp} {p : Addr} {o : HO} (h : H p = none) : Same H (upd H p o) := fun a u e => by rw [upd_ne (ne_of_none e h)]; exact e
theorem keep_upd {b : Addr} {H : Hp} {p : Addr} {o : HO} (h : H p = none) : Keep b H (upd H p o) := Keep.same (same_upd h)
theorem Keep.updr {b p : Addr} {H H1 : Hp} {o : HO} (k : Keep b H H1) (h : H p = none) : Keep b H (upd H1 p o) := fun a u n e => by rw [upd_ne (ne_of_none e h)]; exact k a u n e
theorem Same.updr {p : Addr} {H H1 : Hp} {o : HO} (k : Same H H1) (h : H p = none) : Same H (upd H1 p o) := fun a u e => by rw [upd_ne (ne_of_none e h)]; exact k a u e

def Mo : Int := 2147483549
def bagL (c : Addr) (i h s : Int) : List V := [.ref c, .int i, .int h, .int s]
/-- a bag stands at b -/
structure BagAt (H : Hp) (b c : Addr) : Prop where
  ex : ∃ (i h s : Int) (ns : List Int), H b = some (.lst (bagL c i h s)) ∧ H c = some (.lst (ns.map V.int)) ∧ 0 ≤ i ∧ 0 ≤ h ∧ 0 ≤ s ∧ s < Mo ∧ ns.length ≤ 63
theorem bag_ne {c : Addr} {i h s : Int} {ns : List Int} : HO.lst (bagL c i h s) ≠ .lst (ns.map V.int) := fun z => by
  injection z with z
  cases ns with
  | nil => cases z
  | cons n r => 
    injection z with z _
    cases z
theorem BagAt.lst {H : Hp} {b c : Addr} (B : BagAt H b c) : ∃ xs, H b = some (.lst xs) := by
  obtain ⟨i, h, s, ns, e, _⟩ := B.ex
  exact ⟨_, e⟩
/-- what is no list is not the bag -/
theorem BagAt.ne {H : Hp} {b c a : Addr} {o : HO} (B : BagAt H b c) (h : H a = some o) (n : ∀ xs, o ≠ .lst xs) : a ≠ b := by
  obtain ⟨xs, e⟩ := B.lst
  exact ne_of h e (n xs)
theorem BagAt.nn {H : Hp} {b c p : Addr} (B : BagAt H b c) (h : H p = none) : p ≠ b := by
  obtain ⟨xs, e⟩ := B.lst
  exact (ne_of_none e h).symm
theorem BagAt.nc {H : Hp} {b c p : Addr} (B : BagAt H b c) (h : H p = none) : p ≠ c := by
  obtain ⟨i, h', s, ns, _, e, _⟩ := B.ex
  exact (ne_of_none e h).symm
theorem BagAt.same {H H' : Hp} {b c : Addr} (B : BagAt H b c) (k : Same H H') : BagAt H' b c := by
  obtain ⟨i, h, s, ns, e1, e2, r⟩ := B.ex
  exact ⟨i, h, s, ns, k _ _ e1, k _ _ e2, r⟩
theorem BagAt.new {H : Hp} {b c p : Addr} {o : HO} (B : BagAt H b c) (h : H p = none) : BagAt (upd H p o) b c := B.same (same_upd h)
/-- what was new beside a bag is written -/
theorem BagAt.out {H H1 : Hp} {b c p : Addr} {o : HO} (B : BagAt H b c) (h : H p = none) (B1 : BagAt H1 b c) : BagAt (upd H1 p o) b c := by
  obtain ⟨i, h', s, ns, e1, e2, r⟩ := B1.ex
  exact ⟨i, h', s, ns, by rw [upd_ne (B.nn h).symm]; exact e1, by rw [upd_ne (B.nc h).symm]; exact e2, r⟩
/-- an object that is not the bag, nor its cells, is written: said by what it was -/
theorem Keep.free {b p : Addr} {H H' : Hp} (k : Keep b H H') (h : H' p = none) (n : p ≠ b) : H p = none := by
  cases q : H p with
  | none => rfl
  | some o => rw [k p o n q] at h; cases h

/-- what of the top the walks ask -/
structure Txt (K : PySem.W.Frag) (mg : Str → Option Value) (C : Addr) : Prop where
  list : mg "list" = none
  len : mg "len" = none
  sorted : mg "sorted" = none
  range : mg "range" = none
  dict : mg "dict" = none
  min : mg "min" = none
  max : mg "max" = none
  sum : mg "sum" = none
  tuple : mg "tuple" = none
  isi : mg "isinstance" = none
  mgC : mg "Web" = some (.ref C)
  cl : Cls K C
  nM : NoAttr K C "node_marks"
  nE : NoAttr K C "edge_ends"
  ins : C8.InsC K C
  rd : ∃ mc u, ClX.CRead K C mc ∧ ClX.CVal K C mc "MAX_NODES" (.int 12) u
  names : ∃ u, mg "NAMES" = some u ∧ RelV (.str "abcdefghijklmnopqrstuvwx") u

section
variable {P : Program} {w : World} {K : PySem.W.Frag} {mg : Str → Option Value} {base : Heap} {C : Addr}

/-! ### _law_pull -/
def spPull : Sp := fun vs H Q _ => ∃ (b c : Addr) (m : Int), vs = [.ref b, .int m] ∧ BagAt H b c ∧ 1 ≤ m ∧ m ≤ 1000 ∧
  ∀ (d : Int) (H' : Hp), 0 ≤ d → d < m → BagAt H' b c → Keep b H H' → Q (.int d) H'
theorem scPull : FnScope ["_law_bag_here", "_law_many", "_law_cell", "_law_digit", "_law_square"] ["_law_bag_here", "_law_many"] (C8.fnScope sPull) := C8.fnScope_by (by decide +kernel)

theorem atL0 {c : Addr} {i h s : Int} : atI (bagL c i h s) 0 = some (.ref c) := rfl
theorem atL1 {c : Addr} {i h s : Int} : atI (bagL c i h s) 1 = some (.int i) := rfl
theorem atL2 {c : Addr} {i h s : Int} : atI (bagL c i h s) 2 = some (.int h) := rfl
theorem atL3 {c : Addr} {i h s : Int} : atI (bagL c i h s) 3 = some (.int s) := rfl

theorem cal_pull {f : Addr} {fd : FuncData} (T : Txt K mg C) (F : C8.Def K mg "_law_pull" sPull f fd) (b : Binds K fd ["_law_bag_here", "_law_many"] []) : C8.Cal P w K mg base 1 "_law_pull" spPull [] := by
  refine C8.cal0 F b .nil scPull (fun vs H Q E h => ?_) (fun cdv A outer s H vs Q E hr h => ?_)
  · obtain ⟨b, c, m, rfl, _⟩ := h
    rfl
  · obtain ⟨b, c, m, rfl, B, m1, m2, k⟩ := h
    have nd := scPull.nd
    refine ⟨_, C8.pss_cut
      (ps_if (PW.pt (pw_and (pt_cmpR op_lt (pe_ix ix_list (pv 0) pe_int (fun _ _ => rfl)) (pv 1) (nomark _))
          (pw_and1 (pt_cmpR op_lt (pe_ix ix_list (pv 0) pe_int (fun _ _ => rfl)) (pe_callB call_len_seq (by rfl) T.len PySem.boot_len (pa_cons (pe_ix ix_list (pv 0) pe_int (fun _ _ => rfl)) pa_nil)) (nomark _)))))
        (pss_cons (ps_set (i := 2) nd rfl (.inl rfl) (pe_ix ix_list (pe_ix ix_list (pv 0) pe_int (fun _ _ => rfl)) (pe_ix ix_list (pv 0) pe_int (fun _ _ => rfl)) (fun _ _ => rfl)))
        (pss_cons (ps_asg (pe_op op_add (pe_ix ix_list (pv 0) pe_int (fun _ _ => rfl)) pe_int) (pg_sub (pv 0) pe_int set_list))
        (pss_cons (ps_asg pe_int (pg_sub (pv 0) pe_int set_list))
        (pss_one (ps_if (pt_cmpR op_ge (pv 2) (pe_op op_pow pe_int pe_int) (nomark _))
          (pss_one (ps_asg (pv 2) (pg_sub (pv 0) pe_int set_list)))
          (pss_one (ps_asg (pe_op op_mod (pe_op op_add (pe_op op_add (pe_op op_mul (pe_ix ix_list (pv 0) pe_int (fun _ _ => rfl)) pe_int) (pe_op op_mul (pe_op op_mod (pv 2) pe_int) pe_int)) pe_int) pe_int) (pg_sub (pv 0) pe_int set_list))))))))
        pss_nil)
      (C8.pss_cut
      (ps_if (pt_cmpR op_ge (pe_ix ix_list (pv 0) pe_int (fun _ _ => rfl)) (pv 1) (nomark _))
        (pss_cons (ps_set (i := 3) nd rfl (.inl rfl) (pe_op op_mod (pe_ix ix_list (pv 0) pe_int (fun _ _ => rfl)) (pv 1)))
        (pss_cons (ps_asg (pe_op op_fdivN (pe_ix ix_list (pv 0) pe_int (fun _ _ => rfl)) (pv 1)) (pg_sub (pv 0) pe_int set_list))
        (pss_one (ps_ret (pv 3)))))
        pss_nil)
      (pss_cons (ps_set (i := 4) nd rfl (.inl rfl) (pe_op op_mod (pe_op op_mul (pe_ix ix_list (pv 0) pe_int (fun _ _ => rfl)) (pe_ix ix_list (pv 0) pe_int (fun _ _ => rfl))) pe_int))
      (pss_cons (ps_asg (pe_op op_mod (pe_op op_add (pe_op op_add (pe_op op_mul (pv 4) pe_int) (pe_op op_mul (pe_ix ix_list (pv 0) pe_int (fun _ _ => rfl)) pe_int)) pe_int) pe_int) (pg_sub (pv 0) pe_int set_list))
      (pss_one (ps_ret (pe_op op_mod (pe_op op_add (pe_op op_fdiv (pe_ix ix_list (pv 0) pe_int (fun _ _ => rfl)) pe_int) (pe_op op_mul (pe_op op_mod (pe_ix ix_list (pv 0) pe_int (fun _ _ => rfl)) pe_int) pe_int)) (pv 1))))))), ?_⟩
    obtain ⟨i, hg, sa, ns, e1, e2, i0, h0, s0, s1, hl⟩ := B.ex
    have ncb : c ≠ b := (ne_of e1 e2 bag_ne).symm
    have hMo : Mo = 2147483549 := rfl
    -- the first if: from any bag to a bag
    refine ⟨fun σ H' => ∃ v2 i' h' s', σ = [some (.ref b), some (.int m), v2, none, none] ∧ H' b = some (.lst (bagL c i' h' s')) ∧ H' c = some (.lst (ns.map V.int)) ∧ Keep b H H' ∧ 0 ≤ i' ∧ 0 ≤ h' ∧ 0 ≤ s' ∧ s' < Mo, ?_, ?_⟩
    · refine ⟨_, rfl, b, _, _, _, rfl, rfl, SqL.of e1, atL2, _, rfl, _, _, rfl, rfl, _, rfl, ?_⟩
      refine ite2 (fun c1 => ?_) (fun c1 => ?_)
      · refine ⟨_, rfl, b, _, _, _, rfl, rfl, SqL.of e1, atL1, _, rfl, b, _, _, _, rfl, rfl, SqL.of e1, atL0, c, _, rfl, .inl (SqL.of e2), _, _, rfl, rfl, _, rfl, ?_⟩
        refine ite2 (fun c2 => ?_) (fun c2 => ?_)
        · have c2' : i < ((ns.map V.int).length : Int) := of_decide_eq_true c2
          rw [List.length_map] at c2'
          have hi : i.toNat < ns.length := by omega
          have hat : atI (ns.map V.int) i = some (.int ns[i.toNat]) := by
            refine at_of (j := i.toNat) (by omega) ?_
            rw [List.getElem?_map, List.getElem?_eq_getElem hi]
            rfl
          generalize ns[i.toNat] = z at hat
          -- cell = ..; bag[1] = ..; bag[2] = 0
          refine ⟨_, rfl, b, _, _, _, rfl, rfl, SqL.of e1, atL0, _, rfl, b, _, _, _, rfl, rfl, SqL.of e1, atL1, c, _, _, _, rfl, rfl, SqL.of e2, hat, ?_⟩
          refine ⟨_, rfl, b, _, _, _, rfl, rfl, SqL.of e1, atL1, _, _, rfl, rfl, _, rfl, b, _, _, 1, rfl, rfl, e1, rfl, ?_⟩
          refine ⟨_, rfl, b, _, _, 2, rfl, rfl, upd_same, rfl, ?_⟩
          refine ⟨_, rfl, _, _, rfl, rfl, ⟨by decide, by decide, by decide⟩, _, _, rfl, rfl, _, rfl, ?_⟩
          have f1 : (upd (upd H b (.lst ((bagL c i hg sa).set 1 (.int (i + 1))))) b (.lst (((bagL c i hg sa).set 1 (.int (i + 1))).set 2 (.int 0)))) b = some (.lst (bagL c (i + 1) 0 sa)) := upd_same
          have f2 : (upd (upd H b (.lst ((bagL c i hg sa).set 1 (.int (i + 1))))) b (.lst (((bagL c i hg sa).set 1 (.int (i + 1))).set 2 (.int 0)))) c = some (.lst (ns.map V.int)) := by rw [upd_ne ncb, upd_ne ncb]; exact e2
          have f3 : Keep b H (upd (upd H b (.lst ((bagL c i hg sa).set 1 (.int (i + 1))))) b (.lst (((bagL c i hg sa).set 1 (.int (i + 1))).set 2 (.int 0)))) := Keep.wr.trans Keep.wr
          generalize (upd (upd H b (.lst ((bagL c i hg sa).set 1 (.int (i + 1))))) b (.lst (((bagL c i hg sa).set 1 (.int (i + 1))).set 2 (.int 0)))) = H1 at f1 f2 f3 ⊢
          refine ite2 (fun c3 => ?_) (fun c3 => ?_)
          · have c3' : (10 : Int) ^ (18 : Int).toNat ≤ z := of_decide_eq_true c3
            have p : (0 : Int) ≤ 10 ^ (18 : Int).toNat := by decide
            refine ⟨_, rfl, _, rfl, b, _, _, 2, rfl, rfl, f1, rfl, ?_⟩
            exact ⟨_, i + 1, z, sa, rfl, upd_same, by rw [upd_ne ncb]; exact f2, f3.trans Keep.wr, by omega, by omega, s0, s1⟩
          · refine ⟨_, rfl, b, _, _, _, rfl, rfl, SqL.of f1, atL3, _, _, rfl, rfl, .inr ⟨by decide, by decide⟩, _, rfl, _, _, rfl, rfl, (by show (0 : Int) < 2147483549; decide), _, _, rfl, rfl, .inr ⟨by decide, by decide⟩, _, _, rfl, rfl, _, _, rfl, rfl, _, _, rfl, rfl, (by show (0 : Int) < 2147483549; decide), ?_⟩
            refine ⟨_, rfl, b, _, _, 3, rfl, rfl, f1, rfl, ?_⟩
            refine ⟨_, i + 1, 0, (sa * 52571 + z % 2147483549 * 41 + 29) % 2147483549, rfl, upd_same, by rw [upd_ne ncb]; exact f2, f3.trans Keep.wr, by omega, by omega, ?_, ?_⟩
            · exact Int.emod_nonneg _ (by decide)
            · exact Int.emod_lt_of_pos _ (by decide)
        · exact ⟨none, i, hg, sa, rfl, e1, e2, Keep.refl, i0, h0, s0, s1⟩
      · exact ⟨none, i, hg, sa, rfl, e1, e2, Keep.refl, i0, h0, s0, s1⟩
    · rintro σ H1 ⟨v2, i', h', s', rfl, f1, f2, f3, i0', h0', s0', s1'⟩
      refine ⟨fun σ H' => σ = [some (.ref b), some (.int m), v2, none, none] ∧ H' = H1, ?_, ?_⟩
      · refine ⟨_, rfl, b, _, _, _, rfl, rfl, SqL.of f1, atL2, _, rfl, _, _, rfl, rfl, _, rfl, ?_⟩
        refine ite2 (fun c1 => ?_) (fun c1 => ?_)
        · refine ⟨_, rfl, b, _, _, _, rfl, rfl, SqL.of f1, atL2, _, rfl, _, _, rfl, rfl, (by show 0 < m; omega), ?_⟩
          refine ⟨_, rfl, b, _, _, _, rfl, rfl, SqL.of f1, atL2, _, rfl, _, _, rfl, rfl, ⟨by omega, by omega⟩, _, rfl, b, _, _, 2, rfl, rfl, f1, rfl, ?_⟩
          refine ⟨_, rfl, ?_⟩
          refine k _ _ (Int.emod_nonneg _ (by omega)) (Int.emod_lt_of_pos _ (by omega)) ⟨i', h'.fdiv m, s', ns, upd_same, by rw [upd_ne ncb]; exact f2, i0', ?_, s0', s1', hl⟩ (f3.trans Keep.wr)
          rw [Int.fdiv_eq_ediv_of_nonneg _ (by omega)]
          exact Int.ediv_nonneg h0' (by omega)
        · exact ⟨rfl, rfl⟩
      · rintro σ H2 ⟨rfl, rfl⟩
        refine ⟨_, rfl, b, _, _, _, rfl, rfl, SqL.of f1, atL3, _, rfl, b, _, _, _, rfl, rfl, SqL.of f1, atL3, _, _, rfl, rfl, .inl ⟨by omega, by omega⟩, _, _, rfl, rfl, (by show (0 : Int) < 2147483549; decide), ?_⟩
        refine ⟨_, rfl, _, _, rfl, rfl, .inr ⟨by decide, by decide⟩, _, rfl, b, _, _, _, rfl, rfl, SqL.of f1, atL3, _, _, rfl, rfl, .inr ⟨by decide, by decide⟩, _, _, rfl, rfl, _, _, rfl, rfl, _, _, rfl, rfl, (by show (0 : Int) < 2147483549; decide), _, rfl, b, _, _, 3, rfl, rfl, f1, rfl, ?_⟩
        have g1 : 0 ≤ (s' * s' % 2147483549 * 40699 + s' * 30323 + 12347) % 2147483549 := Int.emod_nonneg _ (by decide)
        have g2 : (s' * s' % 2147483549 * 40699 + s' * 30323 + 12347) % 2147483549 < Mo := Int.emod_lt_of_pos _ (by decide)
        obtain ⟨t, et⟩ : ∃ t, t = (s' * s' % 2147483549 * 40699 + s' * 30323 + 12347) % 2147483549 := ⟨_, rfl⟩
        rw [← et] at g1 g2
        have f4 : (upd H2 b (.lst ((bagL c i' h' s').set 3 (.int ((s' * s' % 2147483549 * 40699 + s' * 30323 + 12347) % 2147483549))))) b = some (.lst (bagL c i' h' t)) := by rw [← et]; exact upd_same
        refine ⟨_, rfl, b, _, _, _, rfl, rfl, SqL.of f4, atL3, _, _, rfl, rfl, ⟨by decide, by decide⟩, _, rfl, b, _, _, _, rfl, rfl, SqL.of f4, atL3, _, _, rfl, rfl, (by show (0 : Int) < 7919; decide), _, _, rfl, rfl, .inr ⟨by decide, by decide⟩, _, _, rfl, rfl, _, rfl, _, _, rfl, rfl, (by show 0 < m; omega), ?_⟩
        exact k _ _ (Int.emod_nonneg _ (by omega)) (Int.emod_lt_of_pos _ (by omega)) ⟨i', h', t, ns, f4, by rw [upd_ne ncb]; exact f2, i0', h0', g1, g2, hl⟩ (f3.trans Keep.wr)
end
end TK
end
section
set_option Elab.async false
set_option linter.all false
set_option maxRecDepth 100000
set_option maxHeartbeats 4000000
/-! _law_bag, _law_of, _law_mixed, _law_letters. -/
namespace TK
open PySem PySem.Spec PyProof.Rows L2

theorem cut_map {α : Type} (f : α → V) (l : List α) (lo hi : Option Int) : ∃ m : List α, cutV (l.map f) lo hi = m.map f ∧ m.Sublist l := by
  unfold cutV
  refine ⟨(l.drop (HT.sIx (l.map f).length 0 lo)).take (HT.sIx (l.map f).length (l.map f).length hi - HT.sIx (l.map f).length 0 lo), ?_, (List.take_sublist _ _).trans (List.drop_sublist _ _)⟩
  rw [← List.map_drop, ← List.map_take]
theorem int_of_map {ns : List Int} {i : Nat} {x : V} (h : (ns.map V.int)[i]? = some x) : ∃ n, ns[i]? = some n ∧ x = .int n := by
  rw [List.getElem?_map] at h
  cases e : ns[i]? with
  | none => rw [e] at h; cases h
  | some n =>
    rw [e] at h
    exact ⟨n, rfl, (Option.some.inj h).symm⟩
theorem small63 {n : Nat} (h : n ≤ 63) : n ≤ sizeLine := Nat.le_trans h (by decide)

section
variable {P : Program} {w : World} {K : PySem.W.Frag} {mg : Str → Option Value} {base : Heap} {C : Addr}

/-! ### _law_bag -/
def spBag (K : PySem.W.Frag) : Sp := fun vs H Q _ => ∃ (a : Addr) (ns : List Int), vs = [.ref a] ∧ SqL K H a (ns.map V.int) ∧ ns.length ≤ 63 ∧
  ∀ (b c : Addr) (H' : Hp), BagAt H' b c → H b = none → Same H H' → Q (.ref b) H'
theorem scBag : FnScope ["_law_script", "_law_salt", "_law_cell"] ["_law_script"] (C8.fnScope sBag) := C8.fnScope_by (by decide +kernel)
theorem cal_bag {f : Addr} {fd : FuncData} (T : Txt K mg C) (F : C8.Def K mg "_law_bag" sBag f fd) (b : Binds K fd ["_law_script"] []) : C8.Cal P w K mg base 1 "_law_bag" (spBag K) [] := by
  refine C8.cal0 F b .nil scBag (fun vs H Q E h => ?_) (fun cdv A outer s H vs Q E hr h => ?_)
  · obtain ⟨b, m, rfl, _⟩ := h
    rfl
  · obtain ⟨a, ns, rfl, hS, hl, k⟩ := h
    have nd := scBag.nd
    refine ⟨_, pss_cons (ps_set (i := 1) nd rfl (.inl rfl) pe_int)
      (pss_cons (ps_for PassesOwn.never rfl (pi_list (pe_slice sl_list (pv 0) po_none (po_some pe_int))) (pg_name (i := 2) nd rfl (.inl rfl))
        (pss_one (ps_set (i := 1) nd rfl (.inl rfl) (pe_op op_mod (pe_op op_add (pe_op op_add (pe_op op_mul (pv 1) pe_int) (pe_op op_mod (pv 2) pe_int)) pe_int) pe_int))))
      (pss_one (ps_ret (pe_lst (pa_cons (pe_callTy call_list_of (by rfl) T.list PyProof.Rows.boot_list (pa_cons (pe_slice sl_list (pv 0) po_none (po_some pe_int)) pa_nil)) (pa_cons pe_int (pa_cons pe_int (pa_cons (pv 1) pa_nil)))))))), ?_⟩
    obtain ⟨ms, em, hsub⟩ := cut_map V.int ns none (some 63)
    have hml : ms.length ≤ 63 := Nat.le_trans hsub.length_le hl
    refine ⟨_, rfl, _, rfl, a, _, rfl, hS, fun p np => ?_⟩
    rw [em]
    refine ⟨p, rfl, ⟨_, SqL.of upd_same⟩, for_list (K := K) (a := p) (xs := ms.map V.int) (fun i σ H' => H' = upd H p (.lst (ms.map V.int)) ∧ ∃ (sa : Int) (v : Option V), σ = [some (.ref a), some (.int sa), v] ∧ 0 ≤ sa ∧ sa < Mo)
      ⟨rfl, 3808, none, rfl, by decide, by decide⟩ (fun i σ H' _ ⟨e, _⟩ => by rw [e]; exact SqL.of upd_same) ?_ ?_⟩
    · rintro i x σ H' hi ⟨rfl, sa, v, rfl, s0, s1⟩
      obtain ⟨z, _, rfl⟩ := int_of_map hi
      have hMo : Mo = 2147483549 := rfl
      refine ⟨_, rfl, _, _, rfl, rfl, .inr ⟨by decide, by decide⟩, _, rfl, _, _, rfl, rfl, (by show (0 : Int) < 2147483549; decide), _, _, rfl, rfl, _, _, rfl, rfl, _, _, rfl, rfl, (by show (0 : Int) < 2147483549; decide), ?_⟩
      exact ⟨rfl, _, _, rfl, Int.emod_nonneg _ (by decide), Int.emod_lt_of_pos _ (by decide)⟩
    · rintro σ H' ⟨rfl, sa, v, rfl, s0, s1⟩
      have s1' : Same H (upd H p (.lst (ms.map V.int))) := same_upd np
      refine ⟨_, rfl, _, rfl, a, _, rfl, s1'.seq hS, fun q nq => ?_⟩
      rw [em]
      refine ⟨q, _, rfl, .inl (SqL.of upd_same), fun c nc => ?_⟩
      refine ⟨_, rfl, (by show 4 ≤ sizeLine; decide), fun b nb => ?_⟩
      refine k b c _ ⟨0, 0, sa, ms, upd_same, ?_, by decide, by decide, s0, s1, hml⟩ ((((same_upd np).trans (same_upd nq)).trans (same_upd nc)).free nb) ?_
      · rw [upd_ne (ne_of_none upd_same nb)]
        exact upd_same
      · exact (((same_upd np).trans (same_upd nq)).trans (same_upd nc)).trans (same_upd nb)

/-! ### _law_of -/
theorem Keep.seq {b t : Addr} {H H' : Hp} {xs : List V} (k : Keep b H H') (n : t ≠ b) (h : SqL K H t xs) : SqL K H' t xs := by
  rcases h with (h | ⟨o, h⟩) | h
  · exact .inl (.inl (k _ _ n h))
  · exact .inl (.inr ⟨o, k _ _ n h⟩)
  · exact .inr h
def spOf (K : PySem.W.Frag) : Sp := fun vs H Q _ => ∃ (b c t : Addr) (xs : List V), vs = [.ref b, .ref t] ∧ BagAt H b c ∧ t ≠ b ∧ SqL K H t xs ∧ 1 ≤ xs.length ∧ xs.length ≤ 1000 ∧
  ∀ (x : V) (H' : Hp), x ∈ xs → BagAt H' b c → Keep b H H' → Q x H'
theorem scOf : FnScope ["_law_bag_here", "_law_things"] ["_law_bag_here", "_law_things"] (C8.fnScope sOf) := C8.fnScope_by (by decide +kernel)
theorem cal_of {f : Addr} {fd : FuncData} (T : Txt K mg C) (F : C8.Def K mg "_law_of" sOf f fd) (b : Binds K fd ["_law_bag_here", "_law_things"] []) (cP : C8.Cal P w K mg base 1 "_law_pull" spPull []) : C8.Cal P w K mg base 2 "_law_of" (spOf K) [] := by
  refine C8.cal0 F b .nil scOf (fun vs H Q E h => ?_) (fun cdv A outer s H vs Q E hr h => ?_)
  · obtain ⟨b, c, m, _, rfl, _⟩ := h
    rfl
  · obtain ⟨b, c, t, xs, rfl, B, n, hS, h1, h2, k⟩ := h
    refine ⟨_, pss_one (ps_ret (pe_ix ix_list (pv 1) (C8.pe_c cP hr (by decide) (by rfl) (pa_cons (pv 0) (pa_cons (pe_callB call_len_seq (by rfl) T.len PySem.boot_len (pa_cons (pv 1) pa_nil)) pa_nil))) (fun _ _ => rfl))), ?_⟩
    refine ⟨_, rfl, _, rfl, _, rfl, t, _, rfl, .inl hS, b, c, _, rfl, B, by omega, by omega, fun d H' d0 d1 B' kp => ?_⟩
    have hd : d.toNat < xs.length := by omega
    refine ⟨t, xs, d, xs[d.toNat], rfl, rfl, kp.seq n hS, at_of (j := d.toNat) (by omega) (List.getElem?_eq_getElem hd), ?_⟩
    exact k _ _ (List.getElem_mem hd) B' kp

/-! ### _law_mixed -/
theorem perm_erase {α : Type} : ∀ {l : List α} {k : Nat} {y : α}, l[k]? = some y → (y :: l.eraseIdx k).Perm l
  | [], _, _, h => by simp at h
  | a :: r, 0, y, h => by
    have e : a = y := Option.some.inj h
    subst e
    exact List.Perm.refl _
  | a :: r, k + 1, y, h => by
    have ih := perm_erase (l := r) (k := k) (y := y) h
    show (y :: a :: r.eraseIdx k).Perm (a :: r)
    exact (List.Perm.swap a y _).trans (ih.cons a)
def spMixed (K : PySem.W.Frag) : Sp := fun vs H Q _ => ∃ (b c t : Addr) (xs : List V), vs = [.ref b, .ref t] ∧ BagAt H b c ∧ t ≠ b ∧ SqL K H t xs ∧ xs.length ≤ 100 ∧
  ∀ (p : Addr) (ys : List V) (H' : Hp), ys.Perm xs → H' p = some (.lst ys) → p ≠ b → H p = none → BagAt H' b c → Keep b H H' → Q (.ref p) H'
theorem scMixed : FnScope ["_law_bag_here", "_law_things", "_law_left", "_law_found", "_law_turn"] ["_law_bag_here", "_law_things"] (C8.fnScope sMixed) := C8.fnScope_by (by decide +kernel)
theorem cal_mixed {f : Addr} {fd : FuncData} (T : Txt K mg C) (F : C8.Def K mg "_law_mixed" sMixed f fd) (b : Binds K fd ["_law_bag_here", "_law_things"] []) (cP : C8.Cal P w K mg base 1 "_law_pull" spPull []) : C8.Cal P w K mg base 2 "_law_mixed" (spMixed K) [] := by
  refine C8.cal0 F b .nil scMixed (fun vs H Q E h => ?_) (fun cdv A outer s H vs Q E hr h => ?_)
  · obtain ⟨b, c, m, _, rfl, _⟩ := h
    rfl
  · obtain ⟨b, c, t, xs, rfl, B, n, hS, h2, k⟩ := h
    have nd := scMixed.nd
    refine ⟨_, pss_cons (ps_par (i := 2) (j := 3) (by rfl) nd rfl rfl (by decide) rfl rfl (pa_cons (pe_callTy call_list_of (by rfl) T.list PyProof.Rows.boot_list (pa_cons (pv 1) pa_nil)) (pa_cons (pe_lst pa_nil) pa_nil)) (by rfl))
      (pss_cons (ps_for PassesOwn.never rfl (pi_range1 (by rfl) T.range (pa_cons (pe_callB call_len_seq (by rfl) T.len PySem.boot_len (pa_cons (pv 1) pa_nil)) pa_nil)) (pg_name (i := 4) nd rfl (.inl rfl))
        (pss_one (ps_expr (pe_bm PySem.F.plainAttrs_list PySem.F.slot_list_append PySem.F.type_list_append mt_append (pv 3)
          (pa_cons (pe_bm PySem.F.plainAttrs_list PySem.F.slot_list_pop PySem.F.type_list_pop mt_popAt (pv 2)
            (pa_cons (C8.pe_c cP hr (by decide) (by rfl) (pa_cons (pv 0) (pa_cons (pe_callB call_len_seq (by rfl) T.len PySem.boot_len (pa_cons (pv 2) pa_nil)) pa_nil))) pa_nil)) pa_nil)))))
      (pss_one (ps_ret (pv 3)))), ?_⟩
    refine ⟨_, rfl, t, _, rfl, .inl hS, fun l nl => ?_⟩
    refine ⟨by show 0 ≤ sizeLine; decide, fun g ng => ?_⟩
    have ng0 : H g = none := (same_upd nl).free ng
    have nlg : l ≠ g := ne_of_none upd_same ng
    have nlb : l ≠ b := B.nn nl
    have ngb : g ≠ b := B.nn ng0
    have k0 : Keep b H (upd (upd H l (.lst xs)) g (.lst [])) := (keep_upd nl).updr ng0
    have B0 : BagAt (upd (upd H l (.lst xs)) g (.lst [])) b c := (B.new nl).new ng
    refine ⟨_, _, rfl, ?_⟩
    refine ⟨_, rfl, t, _, rfl, .inl (k0.seq n hS), _, rfl, by omega, by omega, ?_⟩
    rw [Int.toNat_natCast]
    refine for_range (lo := 0) (n := xs.length) (fun i σ H' => ∃ (ls fs : List V) (v : Option V), σ = [some (.ref b), some (.ref t), some (.ref l), some (.ref g), v] ∧ BagAt H' b c ∧ H' l = some (.lst ls) ∧ H' g = some (.lst fs) ∧ ls.length + i = xs.length ∧ (fs ++ ls).Perm xs ∧ Keep b H H')
      ⟨xs, [], none, rfl, B0, by rw [upd_ne nlg]; exact upd_same, upd_same, rfl, List.Perm.refl _, k0⟩ ?_ ?_
    · rintro i σ H' hi ⟨ls, fs, v, rfl, B', hl, hg, hn, hp, kp⟩
      refine ⟨_, rfl, .inl ⟨rfl, _, SqL.of hg⟩, _, rfl, .inl ⟨rfl, _, SqL.of hl⟩, _, rfl, _, rfl, l, _, rfl, .inl (SqL.of hl), b, c, _, rfl, B', by omega, by omega, fun d H2 d0 d1 B2 kp2 => ?_⟩
      have hd : d.toNat < ls.length := by omega
      have hl2 : H2 l = some (.lst ls) := kp2 _ _ nlb hl
      have hg2 : H2 g = some (.lst fs) := kp2 _ _ ngb hg
      refine ⟨l, ls, d, d.toNat, ls[d.toNat], rfl, rfl, hl2, by omega, by omega, ?_, List.getElem?_eq_getElem hd, ?_⟩
      · exact PyProof.Rows.seqIndex_at (by omega) (by omega)
      · have hfl : fs.length ≤ 100 := by
          have := hp.length_eq
          rw [List.length_append] at this
          omega
        refine ⟨g, fs, ls[d.toNat], rfl, rfl, by rw [upd_ne nlg.symm]; exact hg2, ?_, ?_⟩
        · exact small1000 (by omega)
        · have hle : (ls.eraseIdx d.toNat).length + 1 = ls.length := by
            rw [List.length_eraseIdx]
            rw [if_pos hd]
            omega
          refine ⟨ls.eraseIdx d.toNat, fs ++ [ls[d.toNat]], _, rfl, ?_, by rw [upd_ne nlg]; exact upd_same, upd_same, by omega, ?_, ((kp.trans kp2).updr nl).updr ng0⟩
          · exact B.out ng0 (B.out nl B2)
          · rw [List.append_assoc]
            exact (List.Perm.append_left fs (perm_erase (List.getElem?_eq_getElem hd))).trans hp
    · rintro σ H' ⟨ls, fs, v, rfl, B', hl, hg, hn, hp, kp⟩
      have e : ls = [] := List.eq_nil_of_length_eq_zero (by omega)
      subst e
      rw [List.append_nil] at hp
      exact ⟨_, rfl, k g fs H' hp hg ngb ng0 B' kp⟩
end
end TK
end
section
set_option Elab.async false
set_option linter.all false
set_option maxRecDepth 100000
set_option maxHeartbeats 4000000
/-! sorted: a list of truth values; a set of tuples of ints of any lengths (some arrangement of it). -/
namespace TK
open PySem PySem.Spec PyProof.Rows L2

/-! ### truth values -/
def bv : Value → Int
  | .bool b => b2i b
  | _ => 0
def ltBv (v u : Value) : Bool := decide (bv v < bv u)
theorem swo_bv : SrtO.Swo ltBv := by
  refine ⟨fun x y h => ?_, fun x y z h1 h2 => ?_⟩
  · have a := of_decide_eq_true (p := bv x < bv y) h
    exact decide_eq_false (p := bv y < bv x) (by omega)
  · have a := of_decide_eq_false (p := bv y < bv x) h1
    have b := of_decide_eq_false (p := bv z < bv y) h2
    exact decide_eq_false (p := bv z < bv x) (by omega)
theorem vals_bl : ∀ {bs : List Bool} {us : List Value}, Vals (bs.map V.bl) us → us = bs.map Value.bool
  | [], _, .nil => rfl
  | b :: bs, _, .cons r t => by
    cases (show _ = Value.bool b from r)
    rw [vals_bl t]
    rfl
theorem bl_vals : ∀ (bs : List Bool), Vals (bs.map V.bl) (bs.map Value.bool)
  | [] => .nil
  | b :: bs => .cons rfl (bl_vals bs)
section
variable {prog : Program} {w : World} {A : Around} {E : Value → Shared → Prop} {s : Shared}
theorem bl_sortable {a : Addr} {bs : List Bool} (h2 : 2 ≤ (bs.map Value.bool).length) : SrtO.SortableO prog w A s a (bs.map Value.bool) ltBv := by
  intro h' _
  refine ⟨oneType', fun Q E hq => PySem.W.kas_kind (T := .type "bool") h2 (fun v hv => ?_) (by decide +kernel) (by decide +kernel) hq, ?_⟩
  · obtain ⟨b, _, rfl⟩ := List.mem_map.mp hv
    exact PySem.W.Looks.of_pure rfl
  · intro p q hm hm'
    obtain ⟨b, _, e⟩ := List.mem_map.mp hm
    obtain ⟨c, _, e'⟩ := List.mem_map.mp hm'
    show wpAny (model prog w) A (keyLt' oneType' p.1 q.1) (fun r s' => s' = _ ∧ r = ltBv p.1 q.1) (fun _ _ => False) _
    rw [← e, ← e', keyLt'_oneType]
    exact PySem.W.oneLt_bool ⟨rfl, rfl⟩
end
def leB (x y : Bool) : Prop := b2i x ≤ b2i y
theorem bl_uniq : ∀ {l m : List Bool}, l.Pairwise leB → m.Pairwise leB → l.Perm m → l = m
  | [], m, _, _, h => (List.Perm.eq_nil h.symm).symm
  | a :: l, [], _, _, h => absurd h.length_eq (by simp)
  | a :: l, b :: m, hl, hm, h => by
    obtain ⟨l1, l2⟩ := List.pairwise_cons.mp hl
    obtain ⟨m1, m2⟩ := List.pairwise_cons.mp hm
    have e : a = b := by
      rcases List.mem_cons.mp (h.mem_iff.mp (List.mem_cons_self (a := a) (l := l))) with z | z
      · exact z
      · rcases List.mem_cons.mp (h.mem_iff.mpr (List.mem_cons_self (a := b) (l := m))) with y | y
        · exact y.symm
        · have p := l1 b y
          have q := m1 a z
          revert p q
          cases a <;> cases b <;> simp [leB, b2i]
    subst e
    rw [bl_uniq l2 m2 h.cons_inv]
def rSortedB (K : PySem.W.Frag) : List V → Hp → VK → Prop := fun vs H Q => ∃ (a : Addr) (bs : List Bool), vs = [V.ref a] ∧ SqL K H a (bs.map V.bl) ∧
  ∀ (cs : List Bool) (p : Addr), cs.Perm bs → cs.Pairwise leB → H p = none → Q (.ref p) (upd H p (.lst (cs.map V.bl)))
section
variable {X : Cx}
theorem cr_sortedB : CallR X (.builtin "sorted") (rSortedB X.K) := by
  intro pins s σ H vs us Q I r h
  obtain ⟨a, bs, rfl, hs, q⟩ := h
  obtain ⟨its, rv, hl, hz⟩ := I.list hs
  rw [Vals.ref1 r]
  have ei := vals_bl rv
  subst ei
  refine SrtO.sorted_ord swo_bv hl.isList (by rw [List.length_map] at hz ⊢; exact hz) (fun h2 h₁ a' _ _ => bl_sortable h2) fun out h1 h2 => ?_
  -- the values are truth values again
  obtain ⟨cs, ec⟩ : ∃ cs : List Bool, out = cs.map Value.bool := by
    have hm : ∀ v ∈ out, ∃ b, v = Value.bool b := fun v hv => by
      obtain ⟨b, _, e⟩ := List.mem_map.mp (h2.perm.mem_iff.mp hv)
      exact ⟨b, e.symm⟩
    clear h1 h2
    induction out with
    | nil => exact ⟨[], rfl⟩
    | cons v out ih =>
      obtain ⟨cs, e⟩ := ih fun u hu => hm u (List.mem_cons_of_mem _ hu)
      obtain ⟨b, e'⟩ := hm v List.mem_cons_self
      exact ⟨b :: cs, by rw [e, e']; rfl⟩
  subst ec
  have k2 : cs.Perm bs := by
    have z := h2.perm.map fun v => match v with | Value.bool b => b | _ => false
    rw [List.map_map, List.map_map] at z
    have e1 : ∀ l : List Bool, l.map ((fun v => match v with | Value.bool b => b | _ => false) ∘ Value.bool) = l := fun l => by
      induction l with
      | nil => rfl
      | cons b l ih => rw [List.map_cons, ih]; rfl
    rw [e1, e1] at z
    exact z
  have k3 : cs.Pairwise leB := by
    have z := List.pairwise_map.mp h1
    exact z.imp fun {x y} h => Int.not_lt.mp (of_decide_eq_false (p := bv (.bool y) < bv (.bool x)) h)
  obtain ⟨ep, he'⟩ := PyProof.Rows.sortedAll_at s.heap (bs.map Value.bool) (cs.map Value.bool).toArray
  have hlen : (cs.map V.bl).length ≤ sizeLine := by
    rw [List.length_map, k2.length_eq]
    rw [List.length_map] at hz
    exact hz
  exact ⟨.ref _, upd H (s.heap.objs.size + 1) (.lst (cs.map V.bl)), I.laid (t' := s.toks) (fun _ _ => PyProof.Rows.sortedAll_old) (Nat.le_succ _) ⟨hlen, cs.map Value.bool, ep, bl_vals cs, he'⟩, rfl, q _ _ k2 k3 (I.hok.fresh (Nat.le_succ _))⟩
end

/-! ### a set of tuples of ints, none empty -/
def tupD (ns : List Int) : PyData := .tuple (ns.map PyData.int)
theorem alikeAll_ints : ∀ (ns ms : List Int), PySem.W.alikeAll (ns.map PyData.int) (ms.map PyData.int) = true
  | [], ms => by cases ms <;> simp [PySem.W.alikeAll]
  | n :: ns, [] => by simp [PySem.W.alikeAll]
  | n :: ns, m :: ms => by
    have := alikeAll_ints ns ms
    simp [PySem.W.alikeAll, PySem.W.alike, this]
theorem depth_ints : ∀ ns : List Int, (tupD ns).depth ≤ 2 := fun ns => by
  have e : ∀ l : List Int, PyData.depthAll (l.map PyData.int) ≤ 1 := fun l => by
    induction l with
    | nil => simp [PyData.depthAll]
    | cons n l ih => simp [PyData.depthAll, PyData.depth]; omega
  have := e ns
  simp [tupD, PyData.depth]
  omega
section
variable {P : Program} {w : World}
theorem reads_ints {h : Heap} : ∀ {k : List Int} {vs : List Value}, ItemsAre (intKind P w) k vs → ∃ as, ReadsAll h vs (k.map PyData.int) as := by
  intro k vs x
  induction x with
  | nil => exact ⟨_, .nil⟩
  | @cons k0 v ks vs h1 _ ih =>
    obtain ⟨t, rfl⟩ := Value.isInt_shape h1
    obtain ⟨as, r⟩ := ih
    exact ⟨_, .cons (.int k0 t) r⟩
theorem reads_tup {h : Heap} {k : List Int} {b : Addr} (x : IsT P w h k b) : ∃ as, Reads h (.ref b) (tupD k) as := by
  obtain ⟨o, items, n, ho, hc, hd, hi⟩ := x
  obtain ⟨as, r⟩ := reads_ints (h := h) hi
  exact ⟨as, .tuple ho hc hd r⟩
end
section
variable {P : Program} {w : World} {A : Around} {E : Value → Shared → Prop} {s : Shared}
theorem each_tups {h : Heap} : ∀ {L : List (Addr × List Int)}, (∀ q ∈ L, IsT P w h q.2 q.1) → PySem.W.EachIs (fun v d => ∃ as, Reads h v d as) (L.map fun q => Value.ref q.1) (L.map fun q => tupD q.2)
  | [], _ => .nil
  | q :: L, hL => .cons (reads_tup (hL q List.mem_cons_self)) (each_tups fun r hr => hL r (List.mem_cons_of_mem _ hr))
theorem refs_of_mem : ∀ {vs : List Value} {L : List (Addr × List Int)}, (∀ v ∈ vs, ∃ q ∈ L, v = Value.ref q.1) → ∃ L1 : List (Addr × List Int), vs = L1.map (fun q => Value.ref q.1) ∧ ∀ q ∈ L1, q ∈ L
  | [], L, _ => ⟨[], rfl, fun q hq => by cases hq⟩
  | v :: vs, L, hv => by
    obtain ⟨q, hq, e⟩ := hv v List.mem_cons_self
    obtain ⟨L1, e1, h1⟩ := refs_of_mem (vs := vs) fun u hu => hv u (List.mem_cons_of_mem _ hu)
    refine ⟨q :: L1, by rw [List.map_cons, e, e1], fun r hr => ?_⟩
    rcases List.mem_cons.mp hr with z | z
    · rw [z]; exact hq
    · exact h1 r z
theorem sortVals_perm (κ : PyProof.Rows.KeyKind) (vs : List Value) : (PySem.W.sortVals κ false vs vs).Perm vs := by
  unfold PySem.W.sortVals
  have z := (List.mergeSort_perm (vs.zip vs) (PySem.W.sortLe κ.toKeyOrd false fun p : Keyed => PySem.W.keyD κ p.1)).map Prod.snd
  rw [List.map_snd_zip (Nat.le_refl _)] at z
  exact z
/-- sorted(a set of non-empty tuples of ints): a new list of its members in some order -/
theorem sorted_anyT {a : Addr} {L : List (Addr × List Int)} {es : Array (Int × Value)} {ep : Nat} {t : SetTable} {Q : Value → Shared → Prop} (R : SetTR P w s.heap a L es ep t) (hh : A.handled = none) (hu : A.units + 64 < cLine)
    (hne : ∀ p ∈ L, p.2 ≠ [])
    (hQ : ∀ (s' : Shared) (p : Addr) (out : List Value) (c : Nat) (L' : List (Addr × List Int)), (∀ b o, s.heap.get? b = some o → s'.heap.get? b = some o) → s'.gens = s.gens → s'.os = s.os → s.heap.objs.size ≤ p →
      s'.heap.get? p = some (seqObj "list" out.toArray c) → out = L'.map (fun q => Value.ref q.1) → L'.Perm L → Q (.ref p) s') :
    wpAny (model P w) A (call (.builtin "sorted") [.ref a]) Q E s := by
  obtain ⟨o, ho, hex, hd⟩ := R.ob
  have few := R.few
  have size := R.size
  refine Calls.call_function_entry kind_sorted plain_sorted entry_sorted (args_sorted1 _) ?_
  unfold Builtin.«sorted»
  refine wpAny_bind (m := checkCount "sorted" 1 1 _) (wpAny_pure ?_)
  refine wpAny_bind (collect_set (A := A.in1) hh ⟨o, ho, hex.1, hd⟩ R.fits (by unfold scanBound; omega) R.tab.ris R.led fun s1 vs k1 hz g1 o1 pm => ?_)
  have hes : es.toList.map (·.2) = L.map fun q => Value.ref q.1 := by
    rw [R.rows]
    unfold rowsOf
    rw [List.map_map]
    rfl
  rw [hes] at pm
  have hvl : vs.length < 64 := by rw [pm.length_eq, List.length_map]; exact few
  have hvz : vs.length ≤ sizeLine := Nat.le_trans (Nat.le_of_lt hvl) (by decide)
  have uniq : ∀ q ∈ L, ∀ r ∈ L, q.1 = r.1 → q = r := fun q hq r hr e => by
    have a1 := R.tup q hq
    rw [e] at a1
    exact Prod.ext e (a1.inj (R.tup r hr))
  have toL : ∀ L1 : List (Addr × List Int), (∀ q ∈ L1, q ∈ L) → (L1.map (fun q => Value.ref q.1)).Perm (L.map fun q => Value.ref q.1) → L1.Perm L := by
    intro L1 hs pm1
    have nL : L.Nodup := nodup_of_map R.nd
    have nref : (L.map fun q => Value.ref q.1).Nodup := by
      refine List.pairwise_map.mpr (List.Pairwise.imp_of_mem (fun {q r} hq hr hne e => ?_) nL)
      injection e with e
      exact hne (uniq q hq r hr e)
    have n1 : L1.Nodup := nodup_of_map (pm1.nodup_iff.mpr nref)
    refine (List.perm_ext_iff_of_nodup n1 nL).mpr fun q => ⟨hs q, fun hq => ?_⟩
    obtain ⟨r, hr, e⟩ := List.mem_map.mp (pm1.mem_iff.mpr (List.mem_map.mpr ⟨q, hq, rfl⟩))
    injection e with e
    rw [← uniq r (hs r hr) q hq e]
    exact hr
  obtain ⟨L1, e1, h1⟩ := refs_of_mem (vs := vs) (L := L) fun v hv => by
    obtain ⟨q, hq, e⟩ := List.mem_map.mp (pm.mem_iff.mp hv)
    exact ⟨q, hq, e.symm⟩
  refine wpAny_bind (wpAny_newList ?_ hvz)
  have hoL : (s1.heap.push (seqObj "list" vs.toArray 0)).get? s1.heap.objs.size = some (seqObj "list" vs.toArray 0) := Heap.get?_push_size _ rfl
  have old : ∀ b u, s.heap.get? b = some u → (PySem.W.sortingHeap (s1.heap.push (seqObj "list" vs.toArray 0)) s1.heap.objs.size vs).get? b = some u := fun b u e => by
    have q := k1 b u e
    exact PySem.W.sortingHeap_old (Nat.ne_of_lt (Heap.lt_size q)) (Heap.get?_push_of_some _ q)
  have S : PySem.W.SortsAt P w A.in1.in1 { ({ s1 with heap := s1.heap.push (seqObj "list" vs.toArray 0) } : Shared) with heap := PySem.W.sortingHeap (s1.heap.push (seqObj "list" vs.toArray 0)) s1.heap.objs.size vs } (PySem.W.dataKind (PySem.W.sortingHeap (s1.heap.push (seqObj "list" vs.toArray 0)) s1.heap.objs.size vs) (L1.map fun q => tupD q.2)) vs := by
    rw [e1]
    rw [e1] at old
    refine PySem.W.SortsAt.data (each_tups fun q hq => isT_keep (R.tup q (h1 q hq)) old) (fun d hd d' hd' => ?_) (.inl fun d hd => ?_) fun d hd => ?_
    · obtain ⟨q, _, rfl⟩ := List.mem_map.mp hd
      obtain ⟨r, _, rfl⟩ := List.mem_map.mp hd'
      show PySem.W.alike (.tuple _) (.tuple _) = true
      unfold PySem.W.alike
      exact alikeAll_ints _ _
    · obtain ⟨q, hq, rfl⟩ := List.mem_map.mp hd
      cases e : q.2 with
      | nil => exact absurd e (hne q (h1 q hq))
      | cons n r => exact ⟨.int n, r.map PyData.int, rfl⟩
    · obtain ⟨q, _, rfl⟩ := List.mem_map.mp hd
      have := depth_ints q.2
      show A.units + 1 + 1 + _ < cLine
      omega
  refine wpAny_bind (wpAny_holding (wpAny_call_entry slot_list_sort ⟨_, hoL, rfl⟩ entry_list_sort ?_ (args_list_sort _)))
  refine PySem.W.list_sort_vals (s := { s1 with heap := s1.heap.push (seqObj "list" vs.toArray 0) }) hoL S hvz ⟨_, rfl, ?_⟩
  generalize ho : PySem.W.sortVals _ false vs vs = out
  have po : out.Perm vs := by rw [← ho]; exact sortVals_perm _ vs
  obtain ⟨c, hc⟩ := sortedHeap_at (vs := vs) (out := out.toArray) hoL
  obtain ⟨L', e', h'⟩ := refs_of_mem (vs := out) (L := L) fun v hv => by
    obtain ⟨q, hq, e⟩ := List.mem_map.mp (pm.mem_iff.mp (po.mem_iff.mp hv))
    exact ⟨q, hq, e.symm⟩
  refine wpAny_pure ⟨_, rfl, hQ _ s1.heap.objs.size out c L' (fun b u e => ?_) g1 o1 hz hc e' (toL L' h' (by rw [← e']; exact po.trans pm))⟩
  have q := k1 b u e
  have hlt := Heap.lt_size q
  show (sortedHeap (s1.heap.push (seqObj "list" vs.toArray 0)) s1.heap.objs.size vs out.toArray).get? b = some u
  rw [sortedHeap_old (Nat.ne_of_lt hlt) (by rw [size_push']; exact Nat.lt_succ_of_lt hlt)]
  exact Heap.get?_push_of_some _ q
end
/-- .. over the layer -/
def rSortedU (K : PySem.W.Frag) (P : Program) (w : World) : List V → Hp → VK → Prop := fun vs H Q => ∃ (a : Addr) (L : List (Addr × List Int)), vs = [V.ref a] ∧ H a = some (SetTO P w a L) ∧ (∀ p ∈ L, SqT K H p.1 (p.2.map V.int)) ∧ (∀ p ∈ L, p.2 ≠ []) ∧
  ∀ (L' : List (Addr × List Int)) (p : Addr), L'.Perm L → (L'.map (·.2)).Nodup → H p = none → Q (.ref p) (upd H p (.lst (L'.map fun q => V.ref q.1)))
section
variable {X : Cx}
theorem cr_sortedU (hc : X.calm = true) (hu : X.A.units + 64 < cLine) : CallR X (.builtin "sorted") (rSortedU X.K X.prog X.w) := by
  intro pins s σ H vs us Q I r h
  obtain ⟨a, L, rfl, ha, hk, hne, q⟩ := h
  have R0 : SetT0 X.prog X.w s.heap a L := (I.hok a _ ha).1
  obtain ⟨es, ep, t, R⟩ := R0.full fun p hp => I.isT (hk p hp)
  rw [Vals.ref1 r]
  refine sorted_anyT R (I.ok.hd hc) hu hne fun s' p out c L' k g o hp hout e pm => ?_
  have few : L'.length < 64 := by rw [pm.length_eq]; exact R.few
  have hlen : (L'.map fun q => V.ref q.1).length ≤ sizeLine := by rw [List.length_map]; exact Nat.le_trans (Nat.le_of_lt few) (by decide)
  have hn : H p = none := I.hok.fresh hp
  have hv : Vals (L'.map fun q => V.ref q.1) out := by rw [e]; exact vals_of_refs L'
  have J : Inv X pins σ (upd H p (.lst (L'.map fun q => V.ref q.1))) s' :=
    I.call' (ch := []) o (Un.laid k hp hn) (I.hok.laid k hp ⟨hlen, out, c, hv, hout⟩) (by rw [g]; exact I.bare) (fun _ z => nomatch z)
  exact ⟨.ref p, _, J, rfl, q L' p pm ((pm.map (·.2)).nodup_iff.mpr R.nd) hn⟩
end
end TK
end
section
set_option Elab.async false
set_option linter.all false
set_option maxRecDepth 100000
set_option maxHeartbeats 4000000
/-! A set comprehension whose elements are tuples of ints. -/
namespace TK
open PySem PySem.Spec PyProof.Rows L2

section
variable {P : Program} {w : World} {A : Around} {E : Value → Shared → Prop} {s : Shared}
/-- d.add(t), t a tuple of ints -/
theorem addT_call {a : Addr} {L : List (Addr × List Int)} {es : Array (Int × Value)} {ep : Nat} {t : SetTable} {x : Addr} {k : List Int} {Q : Value → Shared → Prop} (R : SetTR P w s.heap a L es ep t) (hx : IsT P w s.heap k x) (hu : A.units + 64 < cLine) (few : L.length + 1 < 64)
    (hQ : ∀ (h' : Heap) (L' : List (Addr × List Int)) (es' : Array (Int × Value)) (ep' : Nat) (t' : SetTable) (tk : Nat), Heap.SameBut a s.heap h' → SetTR P w h' a L' es' ep' t' → (k ∈ L.map (·.2) → L' = L) → (k ∉ L.map (·.2) → L'.Perm ((x, k) :: L)) → Q .none { s with heap := h', toks := tk }) :
    wpAny (model P w) A (call (.builtin "set.add") [.ref a, .ref x]) Q E s := by
  obtain ⟨o, ho, hex, hd⟩ := R.ob
  have hT : s.TypeIs (.ref a) "set" := ⟨o, ho, hex.1⟩
  refine wpAny_call_entry F.slot_set_add hT F.entry_set_add ?_ (F.args_set_add_2 _ _)
  unfold Builtin.«set.add» Builtin.Frozenset.oneOther
  simp only [List.isEmpty_nil, bind_assoc]
  unfold Builtin.Frozenset.addrOf setAdd
  refine wpAny_bind (wpAny_pure ?_)
  try dsimp only
  refine wpAny_bind (wpAny_pure ?_)
  try dsimp only
  refine wpAny_bind ?_
  refine wpAny_holding ?_
  have hu1 : A.in1.units < cLine := by show A.units + 1 < cLine; omega
  refine wpAny_bind (wpAny_pyHash_tuple hu1 hx ?_)
  refine add_at (s := { s with toks := s.toks + (k.length + 1) }) R hx hu1 few fun b h' L' es' ep' t' sb R' c1 c2 => ?_
  show wpAny _ _ (ret Value.none) _ _ _
  exact wpAny_pure ⟨_, rfl, hQ h' L' es' ep' t' _ sb R' c1 c2⟩
end
section
variable {X : Cx}
theorem addT_ok {pins : List (Addr × Obj)} {σ : L2.St} {H : Hp} {s : Shared} {E : Value → Shared → Prop} {D x : Addr} {k : List Int} {L : List (Addr × List Int)} {Q : Value → Shared → Prop} (I : Inv X pins σ H s) (hu : X.A.units + 64 < cLine) (hD : H D = some (SetTO X.prog X.w D L)) (hL : ∀ p ∈ L, SqT X.K H p.1 (p.2.map V.int)) (hx : SqT X.K H x (k.map V.int)) (few : L.length + 1 < 64)
    (h : ∀ s' L', Inv X pins σ (upd H D (SetTO X.prog X.w D L')) s' → (k ∈ L.map (·.2) → L' = L) → (k ∉ L.map (·.2) → L'.Perm ((x, k) :: L)) → Q .none s') : wpAny (model X.prog X.w) X.A (call (.builtin "set.add") [.ref D, .ref x]) Q E s := by
  have R0 : SetT0 X.prog X.w s.heap D L := (I.hok D _ hD).1
  obtain ⟨es, ep, t, R⟩ := R0.full fun p hp => I.isT (hL p hp)
  refine addT_call R (I.isT hx) hu few fun h' L' es' ep' t' tk sb R' c1 c2 => h _ L' ?_ c1 c2
  have he : ∃ u, h'.get? D = some u := by
    obtain ⟨o, ho, _⟩ := R'.ob
    exact ⟨o, ho⟩
  exact I.write (e := D) (t' := tk) (by rw [hD]; trivial) (.inl rfl) (fun b u hb hu => (sb.2 b hb).trans hu) he (setTO_new R'.t0)

/-- {elt for target in iter if ..}, elt a tuple of ints: D the new set -/
def tSt (P : Program) (w : World) (K : PySem.W.Frag) (wi : TI) (g : TG) (tt : TT) (te : TE) (vs : List Nat) : TE := fun σ H Q => wi σ H fun J H1 => ∀ D, H1 D = none → ∃ W : Nat → Nat → Hp → Prop, (∃ m, W 0 m (upd H1 D (SetTO P w D []))) ∧ ∀ i m H, W i m H →
  (J.stop i H ∧ Q (.ref D) H) ∨ (J.go i H ∧ ∃ Nx : Hp → Prop, (∀ H', Nx H' → ∃ m', m' < m ∧ W (i + 1) m' H') ∧ ∀ x H', J.yld i H x H' → g x (wipe σ vs) H' fun σ2 H2 => wipe σ2 vs = wipe σ vs ∧ tt σ2 H2 fun b H3 =>
    if b = true then te σ2 H3 fun y H4 => ∃ (t : Addr) (k : List Int) (L : List (Addr × List Int)), y = .ref t ∧ SqT K H4 t (k.map V.int) ∧ H4 D = some (SetTO P w D L) ∧ (∀ p ∈ L, SqT K H4 p.1 (p.2.map V.int)) ∧ L.length + 1 < 64 ∧
      ∀ L', (k ∈ L.map (·.2) → L' = L) → (k ∉ L.map (·.2) → L'.Perm ((t, k) :: L)) → Nx (upd H4 D (SetTO P w D L')) else Nx H3)
theorem st_core {pins : List (Addr × Obj)} {s : Shared} {σ : L2.St} {H : Hp} {Q : VK} {elt tg iter : Expr} {ifs : List Expr} {scope : Scope} {own : List (PySem.Str × Nat)} {pos pos' : Pos} {wi : TI} {g : TG} {tt : TT} {te : TE} {use : Option (Value → Sem Unit)} {Qf : Value → Shared → Prop}
    (hc : X.calm = true) (hu : X.A.units + 64 < cLine) (hN : X.N.Nodup) (I : Inv X pins σ H s) (hi : PI X tg iter wi) (ok : BlkOk X.N X.env.scope scope own)
    (hg : ∀ (s : Shared) (H : Hp) (C : Addr) (cl : List (PySem.Str × Addr)) (fp : List Addr), PG (X.blk s H scope (compEnvC scope cl C X.env) fp) tg g) (ht : ∀ (s : Shared) (H : Hp) (C : Addr) (cl : List (PySem.Str × Addr)) (fp : List Addr), PTs (X.blk s H scope (compEnvC scope cl C X.env) fp) ifs tt)
    (he : ∀ (s : Shared) (H : Hp) (C : Addr) (cl : List (PySem.Str × Addr)) (fp : List Addr), PE (X.blk s H scope (compEnvC scope cl C X.env) fp) elt te) (hs : ∀ x, foldedSetIterable iter X.env x = pure x)
    (h : tSt X.prog X.w X.K wi g tt te (own.map (·.2)) σ H Q)
    (hRR : ∀ D C s' m H', Inv X pins σ H' s' → Q (.ref D) H' → s'.heap.Ns C m → FpOk X pins H' C → compPost (model X.prog X.w) X.A X.xe use Qf (.ref D) C (.ok .next) s') :
    wpAny (model X.prog X.w) X.A (comprehension (.SetComp elt [⟨tg, iter, ifs, 0⟩] scope pos) scope X.env pos' (newSet (.type "set")) false (eval iter X.env) use) Qf X.xe s := by
  have captured : ∀ y ∈ scope.names, y.2 = .free → ∃ c, X.env.cells.lookup y.1 = some c := fun y hy e => by
    rcases ok.free y hy e with k | k
    · exact I.ok.has _ (.inl k)
    · exact I.ok.has _ (.inr k)
  refine wpAny_comprehension_free (use := use) rfl hs (closure_ok captured) ok.kind (fun y hy e => by rw [ok.uniq y hy, e])
    (thn (hi.run pins s σ H _ I h) fun xv s1 hx => thn hx fun itv s2 h2 => ?_)
  obtain ⟨it, fp, tn, J, H2, e, I2, T, st2, f2, q⟩ := h2
  subst e
  refine PpSet.newSet_ok (newEnv_comp ?_)
  generalize hD : s2.heap.objs.size = D
  have hDn : H2 D = none := I2.hok.fresh (Nat.le_of_eq hD)
  obtain ⟨W, ⟨m0, w0⟩, turn⟩ := q D hDn
  -- the new set
  generalize hs3 : ({ s2 with heap := s2.heap.push { cls := .type "set", dict := none, data := .set #[] 0 (.fresh 0 0 (!X.w.params.followText "set-order")) } } : Shared) = s3
  have I3 : Inv X pins σ (upd H2 D (SetTO X.prog X.w D [])) s3 := by
    rw [← hs3]
    refine I2.laid (t' := s2.toks) (fun b o e => Heap.get?_push_of_some _ e) (Nat.le_of_eq hD) ?_
    rw [← hD]
    exact setTO_new (setTR_fresh (Heap.get?_push_size _ rfl)).t0
  have h3 : s3.heap = s2.heap.push { cls := .type "set", dict := none, data := .set #[] 0 (.fresh 0 0 (!X.w.params.followText "set-order")) } := by rw [← hs3]
  have young : ∀ b ∈ fp, b < s2.heap.objs.size := fun b hb => by
    obtain ⟨o, e, _⟩ := T.obj _ _ st2 b hb
    exact Heap.lt_size e
  have f3 : ∀ b ∈ fp, FpOk X pins (upd H2 D (SetTO X.prog X.w D [])) b ∧ b < s3.heap.objs.size := fun b hb => by
    have hlt := young b hb
    refine ⟨⟨?_, (f2 b hb).2⟩, by rw [h3, Heap.size_push]; exact Nat.lt_succ_of_lt hlt⟩
    rw [upd_ne (by rw [← hD]; exact Nat.ne_of_lt hlt)]
    exact (f2 b hb).1
  have st3 : tn 0 s3.heap := T.keep _ _ _ st2 fun b _ o e => by rw [h3]; exact Heap.get?_push_of_some _ e
  have I4 := block_start I3 ok hN f3
  have pg := hg s3 (upd H2 D (SetTO X.prog X.w D [])) s3.heap.objs.size (cellsFrom (s3.heap.objs.size + 1) scope.names (cloFrom X.env.cells scope.names [])) fp
  have pt := ht s3 (upd H2 D (SetTO X.prog X.w D [])) s3.heap.objs.size (cellsFrom (s3.heap.objs.size + 1) scope.names (cloFrom X.env.cells scope.names [])) fp
  have pe := he s3 (upd H2 D (SetTO X.prog X.w D [])) s3.heap.objs.size (cellsFrom (s3.heap.objs.size + 1) scope.names (cloFrom X.env.cells scope.names [])) fp
  show codeAny _ _ (.compStart (.SetComp elt [⟨tg, iter, ifs, 0⟩] scope pos) 0 (.ref it) (.ref D) (compEnvC scope (cellsFrom (s3.heap.objs.size + 1) scope.names (cloFrom X.env.cells scope.names [])) s3.heap.objs.size X.env)) (compPost (model X.prog X.w) X.A X.xe use Qf (.ref D) s3.heap.objs.size) { s3 with heap := pushCells (s3.heap.push { cls := .type "dict", data := .dict #[] }) scope.names }
  have nfp : ∀ b ∈ fp, (upd H2 D (SetTO X.prog X.w D [])) b = none := fun b hb => (f3 b hb).1.1
  generalize hce : compEnvC scope (cellsFrom (s3.heap.objs.size + 1) scope.names (cloFrom X.env.cells scope.names [])) s3.heap.objs.size X.env = ce at I4 pg pt pe ⊢
  have cL : ce.locals = s3.heap.objs.size := by subst hce; rfl
  generalize hH3 : upd H2 D (SetTO X.prog X.w D []) = H3 at I3 I4 pg pt pe w0 nfp f3
  generalize hs4 : ({ s3 with heap := pushCells (s3.heap.push { cls := .type "dict", data := .dict #[] }) scope.names } : Shared) = s4 at I4 ⊢
  have st4 : tn 0 s4.heap := T.keep _ _ _ st3 fun b _ o e => by rw [← hs4]; exact pushCells_keeps _ _ _ _ (Heap.get?_push_of_some _ e)
  have stat : ∀ {σ' : L2.St} {H' : Hp} {s' : Shared}, Inv (X.blk s3 H3 scope ce fp) [] σ' H' s' → (∀ b ∈ fp, H' b = none) → ∀ b ∈ fp, FpOk (X.blk s3 H3 scope ce fp) [] H' b := fun {σ' H' s'} I' hn b hb =>
    ⟨hn b hb, (I'.ok.exf b hb).1, I'.ok.exfs b hb, .inl hb, fun x c e => (I'.ok.exf b hb).2 x c e, fun p hp => absurd (show p ∈ ([] : List (Addr × Obj)) ++ [] from hp) (by simp)⟩
  have loop : codeAny (model X.prog X.w) X.A (.compLoop (.SetComp elt [⟨tg, iter, ifs, 0⟩] scope pos) 0 (.ref it) (.ref D) ce) (compPost (model X.prog X.w) X.A X.xe use Qf (.ref D) s3.heap.objs.size) s4 := by
    refine PpSet.compLoopS_any (fun n s' => ∃ i H', Inv (X.blk s3 H3 scope ce fp) [] (wipe σ (own.map (·.2))) H' s' ∧ tn i s'.heap ∧ (∀ b ∈ fp, H' b = none) ∧ W i n H') ?_ m0 ⟨0, H3, I4, st4, nfp, w0⟩
    rintro n s5 ⟨i, H5, I5, st5, n5, w5⟩
    rcases turn i n H5 w5 with ⟨stop, qq⟩ | ⟨go, Nx, hNx, step⟩
    · have td := T.done (X.blk s3 H3 scope ce fp) rfl rfl rfl hc i [] s5 _ H5 (fun _ _ => False) I5 (stat I5 n5) st5 stop
      refine thnF td fun r s6 ⟨hr, I6⟩ => ?_
      subst hr
      have I7 : Inv X pins σ H5 s6 := I3.call' (ch := fp) I6.os I6.base I6.hok I6.bare fun b hb => ⟨(f3 b hb).1.2.2.2.1, (f3 b hb).1.2.1, (f3 b hb).1.2.2.2.2.1, (f3 b hb).1.2.2.2.2.2⟩
      have nC : H5 s3.heap.objs.size = none := by
        have z : H5 ce.locals = none := I6.free
        rw [cL] at z
        exact z
      obtain ⟨m, hn, _⟩ := I6.loc
      have hn : s6.heap.Ns ce.locals m := hn
      rw [cL] at hn
      exact hRR D s3.heap.objs.size s6 m H5 I7 qq hn (I3.fpOk (Nat.le_refl _) nC)
    · have ti := T.item (X.blk s3 H3 scope ce fp) rfl rfl rfl hc i [] s5 _ H5 (fun _ _ => False) I5 (stat I5 n5) st5 go
      refine thnF ti fun r s6 ⟨u, hr, h6⟩ => ?_
      subst hr
      refine thnF h6 fun _ s7 ⟨x, H7, I7, r7, y7, st7, n7⟩ => ?_
      have I7' := I7.pinned (stat I7 n7) (T.obj _ _ st7)
      refine thnF (pg.run _ s7 _ H7 x u _ I7' r7 (step x H7 y7)) fun _ s8 ⟨σ8, H8, I8, hw8, q8⟩ => ?_
      refine thnF (pt.run _ s8 σ8 H8 _ I8 q8) fun b s9 ⟨H9, I9, q9⟩ => ?_
      -- how a turn ends
      have fin : ∀ {s' : Shared} {H' : Hp}, Inv (X.blk s3 H3 scope ce fp) ([] ++ pinsAt fp s7.heap) σ8 H' s' → Nx H' → ∃ m, m < n ∧ ∃ i H', Inv (X.blk s3 H3 scope ce fp) [] (wipe σ (own.map (·.2))) H' s' ∧ tn i s'.heap ∧ (∀ b ∈ fp, H' b = none) ∧ W i m H' := fun {s' H'} I' nx => by
        obtain ⟨m', hm, w'⟩ := hNx H' nx
        have pin' : ∀ b ∈ fp, ∀ o, s7.heap.get? b = some o → s'.heap.get? b = some o ∧ H' b = none := fun b hb o e =>
          let z := I'.pin (b, o) (List.mem_append_right _ (List.mem_append_right _ (mem_pinsAt hb e)))
          ⟨z.1, z.2.1⟩
        have hl : (wipe σ (own.map (·.2))).length = σ8.length := by rw [← hw8, wipe_length]
        refine ⟨m', hm, i + 1, H', (I'.unpinned (pins := [])).weak hl (fun j v e => ?_), T.keep _ _ _ st7 fun b hb o e => (pin' b hb o e).1, fun b hb => ?_, w'⟩
        · rw [← hw8] at e
          exact (wipe_some e).1
        · obtain ⟨o, e, _⟩ := T.obj _ _ st7 b hb
          exact (pin' b hb o e).2
      cases b with
      | false =>
        simp only [Bool.false_eq_true, if_false] at q9 ⊢
        exact fin I9 q9
      | true =>
        simp only [if_true] at q9 ⊢
        refine thnF (pe.run _ s9 σ8 H9 _ I9 q9) fun z s10 ⟨yv, H10, I10, r10, tb, kk, L0, ey, tk10, hD10, hL10, few, nx⟩ => ?_
        subst ey
        cases (show z = Value.ref tb from r10)
        exact addT_ok (X := X.blk s3 H3 scope ce fp) I10 hu hD10 hL10 tk10 few fun s11 L' I11 c1 c2 => fin I11 (nx L' c1 c2)
  exact PpSet.codeAny_compStart_set loop (T.self X.A 0 _ _ _ st4 loop)
theorem pe_st {elt tg iter : Expr} {ifs : List Expr} {scope : Scope} {own : List (PySem.Str × Nat)} {pos : Pos} {wi : TI} {g : TG} {tt : TT} {te : TE} (hc : X.calm = true) (hu : X.A.units + 64 < cLine) (hN : X.N.Nodup) (hi : PI X tg iter wi) (ok : BlkOk X.N X.env.scope scope own)
    (hg : ∀ (s : Shared) (H : Hp) (C : Addr) (cl : List (PySem.Str × Addr)) (fp : List Addr), PG (X.blk s H scope (compEnvC scope cl C X.env) fp) tg g) (ht : ∀ (s : Shared) (H : Hp) (C : Addr) (cl : List (PySem.Str × Addr)) (fp : List Addr), PTs (X.blk s H scope (compEnvC scope cl C X.env) fp) ifs tt)
    (he : ∀ (s : Shared) (H : Hp) (C : Addr) (cl : List (PySem.Str × Addr)) (fp : List Addr), PE (X.blk s H scope (compEnvC scope cl C X.env) fp) elt te) (hs : ∀ x, foldedSetIterable iter X.env x = pure x := by intro _; rfl) :
    PE X (.SetComp elt [⟨tg, iter, ifs, 0⟩] scope pos) (tSt X.prog X.w X.K wi g tt te (own.map (·.2))) := by
  refine ⟨fun pins s σ H Q I h => ?_⟩
  rw [PpSet.eval_SetComp]
  refine st_core hc hu hN I hi ok hg ht he hs h fun D C s' m H' I' q hn f => ⟨m, hn, fun h'' sb => ?_⟩
  obtain ⟨f0, f1, f2, f3, f4, f5⟩ := f
  exact ⟨.ref D, H', I'.turned (t' := s'.toks) (fun b o hb e => (sb.2 b hb).trans e) f0 f1 f3 f4 f5, rfl, q⟩
end
end TK
end
section
set_option Elab.async false
set_option linter.all false
set_option maxRecDepth 100000
set_option maxHeartbeats 4000000
/-! Rules of our own: list(text), sorted(tuple of ints), sum(d.values()), == of dicts with tuples, != by an own ==. -/
namespace TK
open PySem PySem.Spec PyProof.Rows L2

theorem int_of_map2 {ns : List Int} {i : Nat} {x : V} (h : (ns.map V.int)[i]? = some x) : ∃ n, ns[i]? = some n ∧ x = .int n := by
  rw [List.getElem?_map] at h
  cases e : ns[i]? with
  | none => rw [e] at h; cases h
  | some n =>
    rw [e] at h
    exact ⟨n, rfl, (Option.some.inj h).symm⟩
/-! ### list(text) -/
def signsOf (x : Str) : List Str := x.cps.toList.map fun c => ⟨#[c]⟩
theorem vals_signs {x : Str} {acc : Array Value} (h : ItemsOf (SignAt x) acc x.cps.size) : Vals ((signsOf x).map V.str) acc.toList := by
  have hl : acc.toList.length = x.cps.size := by rw [Array.length_toList]; exact h.1
  refine vals_of_at (by unfold signsOf; rw [List.length_map, List.length_map, Array.length_toList, hl]) fun j v u h1 h2 => ?_
  obtain ⟨c, t, e1, e2⟩ := h.2 j u (by rw [← Array.getElem?_toList]; exact h2)
  unfold signsOf at h1
  rw [List.map_map, List.getElem?_map, Array.getElem?_toList, e1] at h1
  have e3 := Option.some.inj h1
  rw [← e3, e2]
  exact ⟨t, rfl⟩
section
variable {X : Cx}
theorem call_listTxt (hc : X.calm = true) : CallR X (.type "list") (fun xs H Q => ∃ x : Str, xs = [.str x] ∧ x.cps.size ≤ 1000 ∧ ∀ p, H p = none → Q (.ref p) (upd H p (.lst ((signsOf x).map V.str)))) := by
  intro pins s σ H xs us Q I r h
  obtain ⟨x, rfl, hx, q⟩ := h
  obtain ⟨u, rfl, ru⟩ := vals1 r
  obtain ⟨t, rfl⟩ := ru
  have hn : x.cps.size ≤ sizeLine := Nat.le_trans hx (by decide)
  refine call_list_str (I.ok.hd hc) x t (fun h' tk acc c hk hS hacc => ?_) hn
  have hv := vals_signs hacc
  have hl : ((signsOf x).map V.str).length ≤ sizeLine := by rw [hv.length, Array.length_toList, hacc.1]; exact hn
  exact ⟨.ref s.heap.objs.size, upd H s.heap.objs.size (.lst ((signsOf x).map V.str)), I.laid (t' := tk) hk (Nat.le_refl _)
    (show ObjOk X.prog X.w _ _ _ (.lst ((signsOf x).map V.str)) from ⟨hl, acc.toList, c, hv, by rw [Array.toArray_toList]; exact hS⟩), rfl, q _ (I.hok.fresh (Nat.le_refl _))⟩
end

/-! ### sorted(tuple of ints) -/
section
variable {X : Cx}
theorem call_sortedTup : CallR X (.builtin "sorted") (fun xs H Q => ∃ (a : Addr) (ns : List Int), xs = [.ref a] ∧ SqT X.K H a (ns.map V.int) ∧ ns.length < 64 ∧
    ∀ (ys : List Int) (p : Addr), ys.Perm ns → ys.Pairwise (· ≤ ·) → H p = none → Q (.ref p) (upd H p (.lst (ys.map V.int)))) := by
  intro pins s σ H xs us Q I r q
  obtain ⟨a, ns, rfl, hs, h64, q⟩ := q
  obtain ⟨u, rfl, rx⟩ := vals1 r
  cases rx
  obtain ⟨its, rv, ⟨o, ho, hc, n, hd⟩, hz⟩ := I.tuple hs
  have hi := rv.ints
  have hal : its.length = ns.length := by rw [← rv.length, List.length_map]
  refine Calls.call_function_entry kind_sorted plain_sorted entry_sorted (args_sorted1 _) ?_
  unfold Builtin.«sorted»
  refine wpAny_bind (m := checkCount "sorted" 1 1 _) (wpAny_pure ?_)
  refine wpAny_bind (wpAny_collect_seq (A := X.A.in1) a (.inr rfl) ho hc hd (fun h' hk => ?_) (by rw [List.size_toArray, hal]; exact Nat.le_trans (Nat.le_of_lt h64) (by decide)))
  have I1 : Inv X pins σ H { s with heap := h' } := I.kept (t' := s.toks) hk
  have e0 : its.toArray.toList = its := by simp
  rw [e0]
  refine wpAny_bind (wpAny_newList ?_ (by rw [hal]; exact Nat.le_trans (Nat.le_of_lt h64) (by decide)))
  have hoL : (h'.push (seqObj "list" its.toArray 0)).get? h'.objs.size = some (seqObj "list" its.toArray 0) := Heap.get?_push_size _ rfl
  show wpAny _ _ _ _ _ { s with heap := h'.push (seqObj "list" its.toArray 0) }
  refine wpAny_bind (wpAny_holding (wpAny_call_entry slot_list_sort ⟨_, hoL, rfl⟩ entry_list_sort
    (list_sort_tree (s := { s with heap := h'.push (seqObj "list" its.toArray 0) }) hoL hi (by rw [hal]; exact h64) fun out ys g1 g2 g3 => ⟨_, rfl, ?_⟩) (args_list_sort _)))
  obtain ⟨c', hc'⟩ := sortedHeap_at (vs := its) (out := out) hoL
  have hlen : (ys.map V.int).length ≤ sizeLine := by
    rw [List.length_map, g2.length_eq]
    exact Nat.le_trans (Nat.le_of_lt h64) (by decide)
  refine wpAny_pure ⟨_, rfl, .ref h'.objs.size, upd H h'.objs.size (.lst (ys.map V.int)), I1.laid (t' := s.toks) (fun b v e => ?_) (Nat.le_refl _)
    (show ObjOk X.prog X.w _ _ _ (.lst (ys.map V.int)) from ⟨hlen, out.toList, c', vals_of_ints g1, by rw [Array.toArray_toList]; exact hc'⟩), rfl, q ys _ g2 g3 (I1.hok.fresh (Nat.le_refl _))⟩
  have hb : b < h'.objs.size := Heap.lt_size e
  rw [sortedHeap_old (Nat.ne_of_lt hb) (by rw [size_push']; exact Nat.lt_succ_of_lt hb)]
  exact Heap.get?_push_of_some _ e
end

/-! ### sum(d.values()) -/
section
variable {prog : Program} {w : World} {A : Around} {E : Value → Shared → Prop} {s : Shared} {T : String} {r d : Addr} {n : Nat} {P : Nat → Value → Prop} {OK : Heap → Prop} {Q : Value → Shared → Prop}
theorem sum_src (S : PySem.W.KdlSrc prog w T r d n P OK) (hh : A.handled = none) (hok : OK s.heap) (val : Nat → Int) (hval : ∀ (i : Nat) (v : Value), P i v → ∃ t : Tok, v = Value.int (val i) t)
    (h : ∀ (h' : Heap) (tk : Nat) (t' : Tok), (∀ b o, s.heap.get? b = some o → h'.get? b = some o) → Q (.int (preSum val n) t') { s with heap := h', toks := tk }) :
    wpAny (model prog w) A (call (.builtin "sum") [.ref r]) Q E s := by
  refine call_sum_walkAnyS ?_
  obtain ⟨oI, St, hit, W, st⟩ := S.iter A.in1 s hh hok
  refine hit _ _ ⟨s.heap.objs.size, _, _, _, n, P, _, val, rfl, W.toS, st, fun b hb => ?_, hval, fun s' t' hm => ?_⟩
  · show b < (s.heap.push oI).objs.size
    rw [size_push']
    rcases List.mem_cons.mp hb with e | hb
    · rw [e]; exact Nat.lt_succ_self _
    · rw [List.mem_singleton.mp hb]; exact Nat.lt_succ_of_lt (S.there _ hok).2
  · rw [Moved.eq_with hm]
    exact h s'.heap s'.toks t' fun b o e => hm.heap b o (fun hI => absurd (Heap.lt_size e) (by rw [List.mem_singleton.mp hI]; exact Nat.lt_irrefl _)) (Heap.get?_push_of_some _ e)
end
theorem preSum_take (f : Nat → Int) (ns : List Int) (h : ∀ i, i < ns.length → ns[i]? = some (f i)) : ∀ n, n ≤ ns.length → preSum f n = (ns.take n).sum
  | 0, _ => rfl
  | n + 1, hn => by
    have ih := preSum_take f ns h n (by omega)
    show preSum f n + f n = (ns.take (n + 1)).sum
    rw [sum_take (h n hn), ih]
def tSumV (te : TE) : TE := fun σ H Q => te σ H fun x H1 => ∃ (d : Addr) (kvs : List (Key × V)) (ns : List Int), x = .ref d ∧ Rd H1 d (.dK kvs) ∧ kvs.map (·.2) = ns.map V.int ∧ Q (.int ns.sum) H1
section
variable {X : Cx} {e : Expr} {te : TE} {p apos cpos pos : Pos}
theorem pe_sumVals (hc : X.calm = true) (he : PE X e te) (hg : Gl X "sum") (hm : X.mg "sum" = none) (hbase : attributeBase e "values" X.env (eval e X.env) = eval e X.env := by rfl) (hline : (apos.endLine == cpos.line) = true := by rfl)
    (hs : starEach [.Call (.Attribute e "values" apos) [] [] cpos] X.env = (false, eval (.Call (.Attribute e "values" apos) [] [] cpos) X.env) :: starEach [] X.env := by rfl) :
    PE X (.Call (.Name "sum" p) [.Call (.Attribute e "values" apos) [] [] cpos] [] pos) (tSumV te) := by
  refine ⟨fun pins s σ H Q I hq => ?_⟩
  refine wpAny_Call_Name_kw (ld_blt I hg hm (show bootBuiltins "sum" = some (.builtin "sum") by decide +kernel) ?_)
  refine PyProof.Rows.callWith_builtin1 ?_ hs rfl
  rw [hs]
  show wpAny _ _ (spliced ((false, eval (.Call (.Attribute e "values" apos) [] [] cpos) X.env) :: backTo pos (starEach [] X.env))) _ _ s
  refine Calls.spliced_cons ?_
  refine wpAny_Call_method (T := "dict") (id := "dict.values") hbase rfl hline F.plainAttrs_dict F.slot_dict_values F.type_dict_values (thn (he.run pins s σ H _ I hq) fun u s1 ⟨x, H1, I1, rx, d, kvs, ns, ex, hd, hk, q⟩ => ?_)
  subst ex
  obtain rfl : u = Value.ref d := rx
  obtain ⟨hz, lo, vs, kv, hdo⟩ := dk_rd I1.hok hd
  obtain ⟨ep, hat⟩ := hdo.dictAt
  have I2 : Inv X pins σ H1 { s1 with heap := s1.heap.push { cls := .type "dict_values", data := .fields #[.ref d] } } := I1.kept (t' := s1.toks) fun b ob q => Heap.get?_push_of_some _ q
  refine ⟨hdo.typeIs, hdo.mapOf.noDict, ?_⟩
  show wpAny _ _ (callWith cpos (.builtin "dict.values") [.ref d] [] []) _ X.xe s1
  refine method_meetsIn F.slot_dict_values F.entry_dict_values rfl (PySem.evalArgs_none ⟨rfl, hdo.typeIs, F.args_dict_values_1 _, _, meets_dict_values (mixKind X.prog X.w) d lo, ⟨vs, hdo⟩, ?_⟩)
  refine Calls.spliced_nil ?_
  -- the values are the ints
  have key : ∀ (i : Nat) (v : Value), (∃ k, vs[i]? = some (k, v)) → ∃ t : Tok, v = Value.int (ns.getD i 0) t := fun i v ⟨k, e⟩ => by
    have hi : i < kvs.length := by
      have := (List.getElem?_eq_some_iff.mp e).1
      rw [Paired.length kv]
      exact this
    obtain ⟨y, ey, r1, r2⟩ := LiI.paired_get kv (List.getElem?_eq_getElem hi)
    rw [e] at ey
    have ey' := Option.some.inj ey
    have e2 : (kvs.map (·.2))[i]? = some kvs[i].2 := by rw [List.getElem?_map, List.getElem?_eq_getElem hi]; rfl
    rw [hk] at e2
    obtain ⟨n, en, ev⟩ := int_of_map2 e2
    rw [ev, ← ey'] at r2
    obtain ⟨t, et⟩ := r2
    refine ⟨t, ?_⟩
    have : ns.getD i 0 = n := by simp [List.getD, en]
    rw [this]
    exact et
  have hln : vs.length = ns.length := by
    rw [← Paired.length kv]
    have := congrArg List.length hk
    rwa [List.length_map, List.length_map] at this
  refine sum_src (PySem.W.kdl_values (knd := mixKind X.prog X.w) (kvs := vs) (ep := ep)) (I1.ok.hd hc) ⟨⟨_, Heap.get?_push_size _ rfl, rfl, rfl⟩, hat.push _⟩ (fun i => ns.getD i 0) key fun h' tk t' hkp => ?_
  have es : preSum (fun i => ns.getD i 0) vs.length = ns.sum := by
    rw [hln, preSum_take _ ns (fun i hi => by simp [List.getD, hi]) ns.length (Nat.le_refl _), List.take_length]
  rw [es]
  exact ⟨.int ns.sum, H1, I2.kept hkp, ⟨t', rfl⟩, q⟩
end

/-! ### == of dicts whose values are ints, texts or tuples of ints: where they are equal -/
def EqTV (K : PySem.W.Frag) (H : Hp) (x y : V) : Prop := (x = y ∧ flatB x = true) ∨ ∃ (t u : Addr) (ns : List Int), x = .ref t ∧ y = .ref u ∧ SqT K H t (ns.map V.int) ∧ SqT K H u (ns.map V.int)
def rEqDT (K : PySem.W.Frag) : R2 := fun x y H Q => ∃ (a b : Addr) (ks ls : List (Key × V)), x = .ref a ∧ y = .ref b ∧ H a = some (.dK ks) ∧ H b = some (.dK ls) ∧ ks.length = ls.length ∧ (∀ p ∈ ks, ∃ u, valV ls p.1 = some u ∧ EqTV K H p.2 u) ∧ Q (.bl true) H
section
variable {X : Cx} {pins : List (Addr × Obj)} {σ : L2.St} {H : Hp} {s : Shared}
theorem Inv.rdT (I : Inv X pins σ H s) {t : Addr} {ns : List Int} (h : SqT X.K H t (ns.map V.int)) : ∃ as, Reads s.heap (.ref t) (tupD ns) as := reads_tup (P := X.prog) (w := X.w) (I.isT h)
theorem eqTV_run (I : Inv X pins σ H s) {A : Around} (hu : A.units + 64 < cLine) (x y : V) (v u : Value) (h : EqTV X.K H x y) (rx : RelV x v) (ry : RelV y u) : SeqAt.EqP X.prog X.w A s v u true := by
  rcases h with ⟨rfl, f⟩ | ⟨t, t', ns, rfl, rfl, h1, h2⟩
  · exact (eqAt_same rx ry f).eqP
  · cases (show v = Value.ref t from rx)
    cases (show u = Value.ref t' from ry)
    obtain ⟨as, r1⟩ := Inv.rdT I h1
    obtain ⟨bs, r2⟩ := Inv.rdT I h2
    have al : PySem.W.alike (tupD ns) (tupD ns) = true := by
      unfold tupD PySem.W.alike
      exact alikeAll_ints ns ns
    have q := PySem.W.eqAt_alike (tupD ns) (tupD ns) A s _ _ as bs r1 r2 al (by have := depth_ints ns; omega)
    rw [PySem.W.eqv_refl_alike _ al] at q
    exact q.eqP
end
section
variable {X : Cx}
theorem op_eqDT (hu : X.A.units + 64 < cLine) (hu2 : X.A.in1.units + 64 < cLine) : OpR X (compareOp .Eq) (rEqDT X.K) := by
  intro pins s σ H x y v u Q I rx ry h
  obtain ⟨a, b, ks, ls, rfl, rfl, ha, hb, hl, hp, q⟩ := h
  cases (show v = Value.ref a from rx)
  cases (show u = Value.ref b from ry)
  obtain ⟨_, ya, va, ra, da⟩ := (show ObjOk X.prog X.w H s.heap a (.dK ks) from I.hok a _ ha)
  obtain ⟨_, yb, vb, rb, db⟩ := (show ObjOk X.prog X.w H s.heap b (.dK ls) from I.hok b _ hb)
  refine PySem.W.rcP_dicts (knd := mixKind X.prog X.w) (r := true) ya yb da db (by omega) (fun _ => hits_run (fun x y v u h r1 r2 => eqTV_run I hu2 x y v u h r1 r2) rb ra hp) _ _ ?_
  have e : va.length = vb.length := by rw [← ra.length, ← rb.length]; exact hl
  rw [show (va.length == vb.length && true) = true from by rw [e]; simp]
  exact ⟨.bl true, H, I, rfl, q⟩
end

/-! ### a != b of an own class that has == alone: where == gives True -/
section
variable {prog : Program} {w : World} {A : Around} {E : Value → Shared → Prop} {s : Shared} {K : PySem.W.Frag} {x y C f : Addr} {ox oy : Obj} {odx ody : Option Obj}
theorem ne_by_eq {Q : Value → Shared → Prop} (hu : A.units + 64 < cLine) (X : K.In s.heap) (I : PySem.W.InstAt s.heap x ox C odx) (J : PySem.W.InstAt s.heap y oy C ody)
    (hne : PySem.W.findIn K (.ref C) "__ne__" = some (some (.builtin "object.__ne__"))) (heq : PySem.W.findIn K (.ref C) "__eq__" = some (some (.ref f))) (hf : PySem.W.isFn K (.ref f) = true) (hob : PySem.W.mroIn K C (.type "object") = some true)
    (h : wpAny (model prog w) A.in1 (call (.ref f) [.ref x, .ref y]) (fun r s' => r = .bool true ∧ Q (.bool false) s') E s) : wpAny (model prog w) A (richCompare .NotEq (.ref x) (.ref y)) Q E s := by
  have one : wpAny (model prog w) A (tryCompare (.ref x) "__ne__" (.ref y)) (fun r s' => ∃ v, r = some v ∧ Q v s') E s := by
    unfold tryCompare
    have body : wpAny (model prog w) A (call (.builtin "object.__ne__") ([.ref x] ++ [.ref y])) (fun v s' => ∃ r, v = r ∧ r = .bool false ∧ Q (.bool false) s') E s := by
      refine wpAny_call (codeAny_call_builtin PySem.F.slot_object_ne.plain PySem.F.entry_object_ne (PySem.W.check_slot F.cmpKind_ne F.cmpSplit_ne ((I.type).andThen (PySem.W.looks_subIn (t := .ref C) X hob)) (F.cmpArgs_ne _ _) ?_))
      unfold Builtin.«object.__ne__»
      refine wpAny_bind (wpAny_pure ?_)
      dsimp only
      refine wpAny_bind (wpAny_cRoomFor (by show A.units + 1 < cLine; omega) ?_)
      refine wpAny_bind (PySem.W.ifBound_K X I heq hf (wpAny_mono h (fun r s' hr => ?_) fun _ _ e => e))
      obtain ⟨rfl, q⟩ := hr
      dsimp only
      refine wpAny_bind (wpAny_truthy_bool ?_)
      exact wpAny_pure ⟨_, rfl, rfl, q⟩
    have bound : wpAny (model prog w) A (callSpecialIfBound? (.ref x) "__ne__" [.ref y]) (fun r s' => r = some (.bool false) ∧ Q (.bool false) s') E s := by
      simp only [callSpecialIfBound?, bindSpecialIfBound?]
      refine wpAny_holding (wpAny_bind (wpAny_bind (wpAny_bind (I.type.here ((PySem.W.looks_findIn X hne).here ?_)))))
      refine wpAny_bind (wpAny_askSetting (wpAny_ite ?_))
      have fin : wpAny (model prog w) A (call (.builtin "object.__ne__") ([.ref x] ++ [.ref y]) >>= fun v => pure (some v)) (fun r s' => r = some (.bool false) ∧ Q (.bool false) s') E s :=
        wpAny_bind (wpAny_mono body (fun v s' h' => by obtain ⟨r, rfl, rfl, q⟩ := h'; exact wpAny_pure ⟨rfl, q⟩) fun _ _ h' => h')
      simp only [PySem.F.slot_object_ne.bind]
      split
      · exact wpAny_bind (wpAny_pure (wpAny_pure (by exact fin)))
      · exact wpAny_tryCatch (wpAny_bind (wpAny_pure (wpAny_pure (by exact fin))))
    refine wpAny_bind (wpAny_mono bound (fun r s' hr => ?_) fun _ _ e => e)
    obtain ⟨rfl, q⟩ := hr
    exact wpAny_pure ⟨_, rfl, q⟩
  unfold richCompare
  simp only [oneThing_ref]
  refine wpAny_holding (wpAny_bind (wpAny_cRoomFor (by omega) ?_))
  refine wpAny_bind (I.type.here (wpAny_bind (J.type.here ?_)))
  rw [show (Value.ref C != Value.ref C) = false from by simp]
  simp only [Bool.false_eq_true, if_false]
  refine wpAny_bind (wpAny_pure ?_)
  simp only [Bool.false_eq_true, if_false]
  refine wpAny_bind (wpAny_mono one (fun r s' z => ?_) fun _ _ e => e)
  obtain ⟨v, rfl, hq⟩ := z
  exact wpAny_pure hq
end
/-- what of the class is asked -/
structure NeC (K : PySem.W.Frag) (C f : Addr) : Prop where
  ne : PySem.W.findIn K (.ref C) "__ne__" = some (some (.builtin "object.__ne__"))
  eq : PySem.W.findIn K (.ref C) "__eq__" = some (some (.ref f))
  fn : PySem.W.isFn K (.ref f) = true
  ob : PySem.W.mroIn K C (.type "object") = some true
def rNeOwn (C : Addr) (R : Addr → Addr → Hp → Prop) : R2 := fun x y H Q => ∃ a b dx dy fs gs, x = .ref a ∧ y = .ref b ∧ H a = some (.ins C dx fs) ∧ H b = some (.ins C dy gs) ∧ R a b H ∧ ∀ H', Ext H H' → Q (.bl false) H'
theorem op_neOwn {X : Cx} {CX : CXT} {n : Nat} {C f : Addr} {fd : FuncData} {ps : List Str} {R : Addr → Addr → Hp → Prop} {E : XK} (F : FnOk X.prog X.w X.K X.mg X.base CX n f fd ps (spEq R)) (c : NeC X.K C f) (hb : Binds X.K fd ps []) (hx : Passes CX X E) (hr : Room (n + 1) X.A) :
    OpR X (compareOp .NotEq) (rNeOwn C R) := by
  intro pins s σ H x y v u Q I rx ry h
  obtain ⟨a, b, dx, dy, fs, gs, rfl, rfl, ha, hb', hR, q⟩ := h
  cases rx
  cases ry
  obtain ⟨mA, J, _⟩ := ins_get I.hok ha
  obtain ⟨mB, J', _⟩ := ins_get I.hok hb'
  obtain ⟨od, J, _⟩ := J.look
  obtain ⟨od', J', _⟩ := J'.look
  show wpAny (model X.prog X.w) X.A (richCompare .NotEq (.ref a) (.ref b)) (EP X pins σ Q) X.xe s
  refine ne_by_eq hr.units I.kIn J J' c.ne c.eq c.fn c.ob ?_
  have hsp : spEq R [.ref a, .ref b] H (fun v H' => v = .bl true ∧ Ext H H') E := ⟨a, b, rfl, hR, fun H' e => ⟨rfl, e⟩⟩
  have hl := F.len _ _ _ _ hsp
  have r2 : Vals [V.ref a, V.ref b] [Value.ref a, Value.ref b] := .cons rfl (.cons rfl .nil)
  refine wpAny_call (codeAny_mono (F.run X.A.in1 X.stack s H ⟨[.ref a, .ref b], []⟩ [.ref a, .ref b] [.ref a, .ref b] _ E hr.in1 I.env0.in1 (by
    have := hb s [.ref a, .ref b] I.kIn (by simpa using hl)
    simpa using this) r2 hsp) fun r s' hq => ?_)
  cases r with
  | error e => exact hx pins σ H s e s' I hq
  | ok fl =>
    cases fl with
    | ret w =>
      obtain ⟨z, H', I', rz, ez, ex⟩ := I.after hq
      subst ez
      cases rz
      exact ⟨rfl, .bl false, H', I', rfl, q H' ex⟩
    | next => exact False.elim hq
    | brk => exact False.elim hq
    | cont => exact False.elim hq
end TK
end
section
set_option Elab.async false
set_option linter.all false
set_option autoImplicit false
set_option maxRecDepth 100000
set_option maxHeartbeats 4000000
/-! How a web stands in the heap. -/
namespace TK
open PySem PySem.Spec PyProof.Rows L2

/-! ### dicts -/
section
variable {κ : Type} [DecidableEq κ]
theorem valV_mem : ∀ {kvs : List (κ × V)} {k : κ} {v : V}, (kvs.map (·.1)).Nodup → (k, v) ∈ kvs → valV kvs k = some v
  | [], _, _, _, h => by cases h
  | p :: r, k, v, nd, h => by
    rw [List.map_cons] at nd
    obtain ⟨n1, n2⟩ := List.nodup_cons.mp nd
    rcases List.mem_cons.mp h with e | h
    · subst e
      exact valV_pos rfl
    · rw [valV_neg]
      · exact valV_mem n2 h
      · intro e
        exact n1 (List.mem_map.mpr ⟨(k, v), h, e.symm⟩)
theorem valV_no : ∀ {kvs : List (κ × V)} {k : κ}, k ∉ kvs.map (·.1) → valV kvs k = none
  | [], _, _ => rfl
  | p :: r, k, h => by
    rw [List.map_cons] at h
    rw [valV_neg fun e => h (by rw [← e]; exact List.mem_cons_self)]
    exact valV_no fun z => h (List.mem_cons_of_mem _ z)
end
/-- nodes and their marks; names of edges and their tuples -/
def marksK (ns : List Int) (M : Int → Int) : List (Key × V) := ns.map fun n => (Sum.inl n, V.int (M n))
def edgesK (ks : List (Str × Addr × Int × Int)) : List (Key × V) := ks.map fun k => (Sum.inr k.1, V.ref k.2.1)
theorem marksK_keys (ns : List Int) (M : Int → Int) : (marksK ns M).map (·.1) = ns.map Sum.inl := by
  unfold marksK
  rw [List.map_map]
  rfl
theorem edgesK_keys (ks : List (Str × Addr × Int × Int)) : (edgesK ks).map (·.1) = (ks.map (·.1)).map Sum.inr := by
  unfold edgesK
  rw [List.map_map, List.map_map]
  rfl
theorem nodup_inl {ns : List Int} (h : ns.Nodup) : (ns.map (Sum.inl : Int → Key)).Nodup := TM.nodup_map (fun a _ b _ e => Sum.inl.inj e) h
theorem nodup_inr {ns : List Str} (h : ns.Nodup) : (ns.map (Sum.inr : Str → Key)).Nodup := TM.nodup_map (fun a _ b _ e => Sum.inr.inj e) h
theorem marks_val {ns : List Int} {M : Int → Int} (nd : ns.Nodup) {n : Int} (h : n ∈ ns) : valV (marksK ns M) (Sum.inl n : Key) = some (.int (M n)) :=
  valV_mem (by rw [marksK_keys]; exact nodup_inl nd) (List.mem_map.mpr ⟨n, h, rfl⟩)
theorem edges_val {ks : List (Str × Addr × Int × Int)} (nd : (ks.map (·.1)).Nodup) {nm : Str} {t : Addr} {a b : Int} (h : (nm, t, a, b) ∈ ks) : valV (edgesK ks) (Sum.inr nm : Key) = some (.ref t) :=
  valV_mem (by rw [edgesK_keys]; exact nodup_inr nd) (List.mem_map.mpr ⟨_, h, rfl⟩)

/-! ### names: one letter from a to x -/
def letters : Str := "abcdefghijklmnopqrstuvwx"
def Letter (x : Str) : Prop := x ∈ signsOf letters

/-! ### a web -/
theorem kne : ¬ (("node_marks" : Str) = "edge_ends") := by decide +kernel
def wfl (m e : Addr) : List (Str × V) := putF "edge_ends" (.ref e) (putF "node_marks" (.ref m) [])
theorem wfl_m (m e : Addr) : (wfl m e).lookup ("node_marks" : Str) = some (.ref m) := by
  unfold wfl
  rw [lookup_putF, if_neg kne, lookup_putF, if_pos rfl]
theorem wfl_e (m e : Addr) : (wfl m e).lookup ("edge_ends" : Str) = some (.ref e) := by
  unfold wfl
  rw [lookup_putF, if_pos rfl]
theorem wfl_no (m e : Addr) {f : Str} (h1 : ¬ f = "edge_ends") (h2 : ¬ f = "node_marks") : (wfl m e).lookup f = none := by
  unfold wfl
  rw [lookup_putF, if_neg h1, lookup_putF, if_neg h2]
  rfl

abbrev Wb := TM.Wb Str
structure Good (W : Wb) : Prop where
  ok : W.Ok
  nm : ∀ e ∈ W.es, Letter e.1

/-- the instance at x, its dicts at m and e (m may be walked meanwhile) -/
structure WebX (K : PySem.W.Frag) (C : Addr) (H : Hp) (x dx m e : Addr) (ns : List Int) (ks : List (Str × Addr × Int × Int)) (W : Wb) : Prop where
  ob : H x = some (.ins C dx (wfl m e))
  md : Rd H m (.dK (marksK ns W.M))
  ed : H e = some (.dK (edgesK ks))
  tu : ∀ k ∈ ks, SqT K H k.2.1 [.int k.2.2.1, .int k.2.2.2]
  pn : ns.Perm W.ns
  pe : (ks.map fun k => (k.1, k.2.2)).Perm W.es
  gd : Good W
  me : m ≠ e
/-- a web stands at x -/
structure WebAt (K : PySem.W.Frag) (C : Addr) (H : Hp) (x : Addr) (W : Wb) : Prop where
  ex : ∃ dx m e ns ks, WebX K C H x dx m e ns ks W ∧ H m = some (.dK (marksK ns W.M))
/-- .. its nodes' dict may be walked -/
structure WebR (K : PySem.W.Frag) (C : Addr) (H : Hp) (x : Addr) (W : Wb) : Prop where
  ex : ∃ dx m e ns ks, WebX K C H x dx m e ns ks W
theorem WebAt.r {K : PySem.W.Frag} {C : Addr} {H : Hp} {x : Addr} {W : Wb} (w : WebAt K C H x W) : WebR K C H x W := by
  obtain ⟨dx, m, e, ns, ks, h, _⟩ := w.ex
  exact ⟨dx, m, e, ns, ks, h⟩
theorem Same.rd {H H' : Hp} {a : Addr} {u : HO} (s : Same H H') (r : Rd H a u) : Rd H' a u := r.elim (fun h => .inl (s _ _ h)) fun ⟨o, h⟩ => .inr ⟨o, s _ _ h⟩
theorem Same.sqt {K : PySem.W.Frag} {H H' : Hp} {a : Addr} {xs : List V} (s : Same H H') (h : SqT K H a xs) : SqT K H' a xs := SqT.ext h s
theorem WebX.same {K : PySem.W.Frag} {C : Addr} {H H' : Hp} {x dx m e : Addr} {ns : List Int} {ks : List (Str × Addr × Int × Int)} {W : Wb} (w : WebX K C H x dx m e ns ks W) (s : Same H H') : WebX K C H' x dx m e ns ks W :=
  ⟨s _ _ w.ob, Same.rd s w.md, s _ _ w.ed, fun k hk => Same.sqt s (w.tu k hk), w.pn, w.pe, w.gd, w.me⟩
theorem WebAt.same {K : PySem.W.Frag} {C : Addr} {H H' : Hp} {x : Addr} {W : Wb} (w : WebAt K C H x W) (s : Same H H') : WebAt K C H' x W := by
  obtain ⟨dx, m, e, ns, ks, h, hm⟩ := w.ex
  exact ⟨dx, m, e, ns, ks, h.same s, s _ _ hm⟩
theorem WebR.same {K : PySem.W.Frag} {C : Addr} {H H' : Hp} {x : Addr} {W : Wb} (w : WebR K C H x W) (s : Same H H') : WebR K C H' x W := by
  obtain ⟨dx, m, e, ns, ks, h⟩ := w.ex
  exact ⟨dx, m, e, ns, ks, h.same s⟩
section
variable {K : PySem.W.Frag} {C : Addr} {H : Hp} {x dx m e : Addr} {ns : List Int} {ks : List (Str × Addr × Int × Int)} {W : Wb}
theorem WebX.ndn (w : WebX K C H x dx m e ns ks W) : ns.Nodup := w.pn.nodup_iff.mpr w.gd.ok.nn
theorem names_map (ks : List (Str × Addr × Int × Int)) : (ks.map fun k => (k.1, k.2.2)).map (·.1) = ks.map (·.1) := by
  rw [List.map_map]
  rfl
theorem WebX.nde (w : WebX K C H x dx m e ns ks W) : (ks.map (·.1)).Nodup := by
  have h := (w.pe.map (·.1)).nodup_iff.mpr w.gd.ok.nd
  rwa [names_map] at h
theorem WebX.edge (w : WebX K C H x dx m e ns ks W) {nm : Str} {a b : Int} (h : (nm, a, b) ∈ W.es) : ∃ t, (nm, t, a, b) ∈ ks := by
  obtain ⟨k, hk, e⟩ := List.mem_map.mp (w.pe.mem_iff.mpr h)
  obtain ⟨n, t, a', b'⟩ := k
  cases e
  exact ⟨t, hk⟩
theorem WebX.back (w : WebX K C H x dx m e ns ks W) {k : Str × Addr × Int × Int} (h : k ∈ ks) : (k.1, k.2.2) ∈ W.es := w.pe.mem_iff.mp (List.mem_map.mpr ⟨k, h, rfl⟩)
end
theorem ns_len {W : Wb} (g : Good W) : W.ns.length ≤ 12 := by
  have h1 : ∀ n ∈ W.ns, n ∈ (List.range 12).map fun i : Nat => (i : Int) := fun n hn => by
    obtain ⟨a, b⟩ := g.ok.rg n hn
    exact List.mem_map.mpr ⟨n.toNat, List.mem_range.mpr (by omega), by omega⟩
  have h2 := g.ok.nn
  exact Nat.le_trans (len_sub h2 h1) (by simp)
where
  len_sub {l m : List Int} (nd : l.Nodup) (h : ∀ x ∈ l, x ∈ m) : l.length ≤ m.length := by
    induction l generalizing m with
    | nil => exact Nat.zero_le _
    | cons a r ih =>
      obtain ⟨h1, h2⟩ := List.nodup_cons.mp nd
      have ha : a ∈ m := h a List.mem_cons_self
      have hr : ∀ x ∈ r, x ∈ m.erase a := fun x hx => (List.mem_erase_of_ne (fun e => h1 (by rw [← e]; exact hx))).mpr (h x (List.mem_cons_of_mem _ hx))
      have := ih h2 hr
      rw [List.length_erase_of_mem ha] at this
      have : 0 < m.length := List.length_pos_of_mem ha
      rw [List.length_cons]
      omega
end TK
end
section
set_option Elab.async false
set_option linter.all false
set_option autoImplicit false
set_option maxRecDepth 100000
set_option maxHeartbeats 4000000
/-! Web's small methods: mark, ends, other_end, edges, parity, edges_of. -/
namespace TK
open PySem PySem.Spec PyProof.Rows L2
section
variable {P : Program} {w : World} {K : PySem.W.Frag} {mg : Str → Option Value} {base : Heap} {C : Addr}

/-! ### mark -/
def spMark (K : PySem.W.Frag) (C : Addr) : Sp := fun vs H Q _ => ∃ (x : Addr) (n : Int) (W : Wb), vs = [.ref x, .int n] ∧ WebR K C H x W ∧ n ∈ W.ns ∧ Q (.int (W.M n)) H
theorem scMark : FnScope ["self", "node"] ["self", "node"] (C8.fnScope sMark) := C8.fnScope_by (by decide +kernel)
theorem met_mark {f : Addr} {fd : FuncData} (T : Txt K mg C) (F : C8.Fun K "mark" "Web.mark" sMark f fd) (b : Binds K fd ["self", "node"] []) (me : Meth K C "mark" f) : C8.Met P w K mg base 1 C "mark" (spMark K C) [] := by
  refine C8.met0 T.cl me F b scMark (fun vs H Q E h => ?_) (fun cdv A outer s H vs Q E hr h => ?_)
  · obtain ⟨x, n, W, rfl, _⟩ := h
    rfl
  · obtain ⟨x, n, W, rfl, wb, hn, q⟩ := h
    have hu := hu_of hr
    obtain ⟨dx, m, e, ns, ks, wx⟩ := wb.ex
    have hv := marks_val (M := W.M) wx.ndn (wx.pn.mem_iff.mpr hn)
    refine ⟨_, pss_cons (ps_if (pt_cmp (pc_dnotin hu (pv 1) (pe_fld (pv 0) rfl))) (pss_one ps_never) pss_nil) (pss_one (ps_ret (pe_dget hu (pe_fld (pv 0) rfl) (pv 1) (fun _ _ => rfl)))), ?_⟩
    refine ⟨_, rfl, _, rfl, x, C, dx, _, _, rfl, wx.ob, T.cl, T.nM, wfl_m _ _, m, _, rfl, .inl ⟨_, Sum.inl n, wx.md, rfl, rfl⟩, _, rfl, ?_⟩
    rw [hv]
    refine iteF ?_
    refine ⟨_, rfl, x, C, dx, _, _, rfl, wx.ob, T.cl, T.nM, wfl_m _ _, _, rfl, m, _, rfl, .inl ⟨_, Sum.inl n, wx.md, rfl, hv.symm⟩, q⟩

/-! ### ends -/
def spEnds (K : PySem.W.Frag) (C : Addr) : Sp := fun vs H Q _ => ∃ (x : Addr) (nm : Str) (k g : Int) (W : Wb), vs = [.ref x, .str nm] ∧ WebR K C H x W ∧ (nm, k, g) ∈ W.es ∧ ∀ t, SqT K H t [.int k, .int g] → Q (.ref t) H
theorem scEnds : FnScope ["self", "edge"] ["self", "edge"] (C8.fnScope sEnds) := C8.fnScope_by (by decide +kernel)
theorem met_ends {f : Addr} {fd : FuncData} (T : Txt K mg C) (F : C8.Fun K "ends" "Web.ends" sEnds f fd) (b : Binds K fd ["self", "edge"] []) (me : Meth K C "ends" f) : C8.Met P w K mg base 1 C "ends" (spEnds K C) [] := by
  refine C8.met0 T.cl me F b scEnds (fun vs H Q E h => ?_) (fun cdv A outer s H vs Q E hr h => ?_)
  · obtain ⟨x, n, k, g, W, rfl, _⟩ := h
    rfl
  · obtain ⟨x, nm, k, g, W, rfl, wb, hn, q⟩ := h
    have hu := hu_of hr
    obtain ⟨dx, m, e, ns, ks, wx⟩ := wb.ex
    obtain ⟨t, ht⟩ := wx.edge hn
    have hv := edges_val wx.nde ht
    refine ⟨_, pss_cons (ps_if (pt_cmp (pc_dnotin hu (pv 1) (pe_fld (pv 0) rfl))) (pss_one ps_never) pss_nil) (pss_one (ps_ret (pe_dget hu (pe_fld (pv 0) rfl) (pv 1) (fun _ _ => rfl)))), ?_⟩
    refine ⟨_, rfl, _, rfl, x, C, dx, _, _, rfl, wx.ob, T.cl, T.nE, wfl_e _ _, e, _, rfl, .inl ⟨_, Sum.inr nm, .inl wx.ed, rfl, rfl⟩, _, rfl, ?_⟩
    rw [hv]
    refine iteF ?_
    exact ⟨_, rfl, x, C, dx, _, _, rfl, wx.ob, T.cl, T.nE, wfl_e _ _, _, rfl, e, _, rfl, .inl ⟨_, Sum.inr nm, .inl wx.ed, rfl, hv.symm⟩, q t (wx.tu _ ht)⟩

/-! ### other_end -/
def oth (n k g : Int) : Int := if n = k then g else k
def spOther (K : PySem.W.Frag) (C : Addr) : Sp := fun vs H Q _ => ∃ (x : Addr) (nm : Str) (n k g : Int) (W : Wb), vs = [.ref x, .str nm, .int n] ∧ WebR K C H x W ∧ (nm, k, g) ∈ W.es ∧ Q (.int (oth n k g)) H
theorem scOther : FnScope ["self", "edge", "node", "one", "other"] ["self", "edge", "node"] (C8.fnScope sOther) := C8.fnScope_by (by decide +kernel)
theorem met_other {f : Addr} {fd : FuncData} (T : Txt K mg C) (F : C8.Fun K "other_end" "Web.other_end" sOther f fd) (b : Binds K fd ["self", "edge", "node"] []) (me : Meth K C "other_end" f) : C8.Met P w K mg base 1 C "other_end" (spOther K C) [] := by
  refine C8.met0 T.cl me F b scOther (fun vs H Q E h => ?_) (fun cdv A outer s H vs Q E hr h => ?_)
  · obtain ⟨x, nm, n, k, g, W, rfl, _⟩ := h
    rfl
  · obtain ⟨x, nm, n, k, g, W, rfl, wb, hn, q⟩ := h
    have hu := hu_of hr
    have nd := scOther.nd
    obtain ⟨dx, m, e, ns, ks, wx⟩ := wb.ex
    obtain ⟨t, ht⟩ := wx.edge hn
    have hv := edges_val wx.nde ht
    refine ⟨_, pss_cons (ps_asg (pe_dget hu (pe_fld (pv 0) rfl) (pv 1) (fun _ _ => rfl)) (pg_tup (by rfl) (pgs_cons (pg_name (i := 3) nd rfl (.inl rfl)) (pgs_cons (pg_name (i := 4) nd rfl (.inl rfl)) pgs_nil))))
      (pss_one (ps_ret (pe_ifExp (pt_cmpR op_eq (pv 2) (pv 3) (nomark _)) (pv 4) (pv 3)))), ?_⟩
    refine ⟨_, rfl, x, C, dx, _, _, rfl, wx.ob, T.cl, T.nE, wfl_e _ _, _, rfl, e, _, rfl, .inl ⟨_, Sum.inr nm, .inl wx.ed, rfl, hv.symm⟩, t, _, rfl, wx.tu _ ht, rfl, _, _, rfl, _, _, rfl, rfl, ?_⟩
    refine ⟨_, rfl, _, rfl, rfl, _, rfl, ?_⟩
    have dq : decide (V.int n = V.int k) = decide (n = k) := by
      by_cases c : n = k
      · rw [c]; simp
      · rw [decide_eq_false c, decide_eq_false fun z => c (V.int.inj z)]
    rw [dq]
    unfold oth at q
    by_cases c : n = k
    · rw [decide_eq_true c]
      rw [if_pos c] at q
      exact iteT ⟨_, rfl, q⟩
    · rw [decide_eq_false c]
      rw [if_neg c] at q
      exact iteF ⟨_, rfl, q⟩

/-! ### edges -/
def spEdges (K : PySem.W.Frag) (C : Addr) : Sp := fun vs H Q _ => ∃ (x : Addr) (W : Wb), vs = [.ref x] ∧ WebR K C H x W ∧
  ∀ (p : Addr) (ys : List Str), H p = none → ys.Perm (W.es.map (·.1)) → Q (.ref p) (upd H p (.lst (ys.map V.str)))
theorem scEdges : FnScope ["self"] ["self"] (C8.fnScope sEdges) := C8.fnScope_by (by decide +kernel)
theorem met_edges {f : Addr} {fd : FuncData} (T : Txt K mg C) (F : C8.Fun K "edges" "Web.edges" sEdges f fd) (b : Binds K fd ["self"] []) (me : Meth K C "edges" f) : C8.Met P w K mg base 1 C "edges" (spEdges K C) [] := by
  refine C8.met0 T.cl me F b scEdges (fun vs H Q E h => ?_) (fun cdv A outer s H vs Q E hr h => ?_)
  · obtain ⟨x, W, rfl, _⟩ := h
    rfl
  · obtain ⟨x, W, rfl, wb, q⟩ := h
    obtain ⟨dx, m, e, ns, ks, wx⟩ := wb.ex
    refine ⟨_, pss_one (ps_ret (pe_callTy (call_listD rfl) (by rfl) T.list PyProof.Rows.boot_list (pa_cons (pe_fld (pv 0) rfl) pa_nil))), ?_⟩
    refine ⟨_, rfl, x, C, dx, _, _, rfl, wx.ob, T.cl, T.nE, wfl_e _ _, e, _, rfl, .inl wx.ed, fun p np => ?_⟩
    have ee : ((edgesK ks).map fun kv => kV kv.1) = (ks.map (·.1)).map V.str := by
      unfold edgesK
      rw [List.map_map, List.map_map]
      rfl
    rw [ee]
    refine q p _ np ?_
    have h := wx.pe.map (·.1)
    rwa [names_map] at h

/-! ### parity -/
def spParity (K : PySem.W.Frag) (C : Addr) : Sp := fun vs H Q _ => ∃ (x : Addr) (W : Wb), vs = [.ref x] ∧ WebR K C H x W ∧ Q (.int (TM.par W)) H
theorem scParity : FnScope ["self"] ["self"] (C8.fnScope sParity) := C8.fnScope_by (by decide +kernel)
theorem sum_perm {l m : List Int} (h : l.Perm m) : l.sum = m.sum := by
  induction h with
  | nil => rfl
  | cons x _ ih => rw [List.sum_cons, List.sum_cons, ih]
  | swap x y l => rw [List.sum_cons, List.sum_cons, List.sum_cons, List.sum_cons]; omega
  | trans _ _ h1 h2 => rw [h1, h2]
theorem fn_parity {f : Addr} {fd : FuncData} (T : Txt K mg C) (F : C8.Fun K "parity" "Web.parity" sParity f fd) : FnOk P w K mg base C8.CX0 1 f fd ["self"] (spParity K C) := by
  refine C8.fn0 F scParity (fun vs H Q E h => ?_) (fun cdv A outer s H vs Q E hr h => ?_)
  · obtain ⟨x, W, rfl, _⟩ := h
    rfl
  · obtain ⟨x, W, rfl, wb, q⟩ := h
    obtain ⟨dx, m, e, ns, ks, wx⟩ := wb.ex
    refine ⟨_, pss_one (ps_ret (pe_op op_mod (pe_sumVals rfl (pe_fld (pv 0) rfl) (by rfl) T.sum) pe_int)), ?_⟩
    refine ⟨_, rfl, x, C, dx, _, _, rfl, wx.ob, T.cl, T.nM, wfl_m _ _, m, _, ns.map W.M, rfl, wx.md, ?_, _, _, rfl, rfl, (by show (0 : Int) < 2; decide), ?_⟩
    · unfold marksK
      rw [List.map_map, List.map_map]
      rfl
    · have e : (ns.map W.M).sum = TM.sumM W.M W.ns := sum_perm (wx.pn.map W.M)
      rw [e]
      exact q
end
end TK
end
section
set_option Elab.async false
set_option linter.all false
set_option autoImplicit false
set_option maxRecDepth 100000
set_option maxHeartbeats 4000000
/-! Web.edges_of. -/
namespace TK
open PySem PySem.Spec PyProof.Rows L2

theorem edgesK_len (ks : List (Str × Addr × Int × Int)) : (edgesK ks).length = ks.length := by unfold edgesK; rw [List.length_map]
theorem edges_at {ks : List (Str × Addr × Int × Int)} {i : Nat} (hi : i < ks.length) : (edgesK ks)[i]? = some (Sum.inr ks[i].1, V.ref ks[i].2.1) := by
  unfold edgesK
  rw [List.getElem?_map, List.getElem?_eq_getElem hi]
  rfl
/-! ### letters -/
theorem letter_one {x : Str} (h : Letter x) : ∃ c : Nat, x = SX.S [c] := by
  obtain ⟨c, _, e⟩ := List.mem_map.mp h
  exact ⟨c, e.symm⟩
theorem joinL_ones : ∀ cs : List Nat, TL.joinL [] (cs.map fun c => [c]) = cs
  | [] => rfl
  | [c] => rfl
  | c :: d :: r => by
    show [c] ++ ([] ++ TL.joinL [] ((d :: r).map fun c => [c])) = c :: d :: r
    rw [joinL_ones (d :: r)]
    rfl
theorem join_letters {ys : List Str} (h : ∀ y ∈ ys, Letter y) : signsOf (Txt.join (SX.S []) ys) = ys := by
  obtain ⟨cs, e⟩ : ∃ cs : List Nat, ys = (cs.map fun c => [c]).map SX.S := by
    induction ys with
    | nil => exact ⟨[], rfl⟩
    | cons y ys ih =>
      obtain ⟨cs, e⟩ := ih fun z hz => h z (List.mem_cons_of_mem _ hz)
      obtain ⟨c, ec⟩ := letter_one (h y List.mem_cons_self)
      exact ⟨c :: cs, by rw [e, ec]; rfl⟩
  rw [e, SX.join_S, joinL_ones, List.map_map]
  show ((SX.S cs).cps.toList.map fun c => (⟨#[c]⟩ : Str)) = cs.map (SX.S ∘ fun c => [c])
  have e2 : (SX.S cs).cps.toList = cs := by simp [SX.S]
  rw [e2]
  rfl
theorem letter_len {x : Str} (h : Letter x) : x.length = 1 := by
  obtain ⟨c, e⟩ := letter_one h
  rw [e, SX.S_len]
  rfl
theorem sum_ones : ∀ {ys : List Str}, (∀ y ∈ ys, Letter y) → (ys.map (·.length)).sum = ys.length
  | [], _ => rfl
  | y :: ys, h => by
    rw [List.map_cons, List.sum_cons, letter_len (h y List.mem_cons_self), sum_ones fun z hz => h z (List.mem_cons_of_mem _ hz), List.length_cons]
    omega
/-- fewer than 25 letters -/
theorem letters_len : (signsOf letters).length = 24 := by decide +kernel
theorem es_len {W : Wb} (g : Good W) : W.es.length ≤ 24 := by
  have h : ∀ l m : List Str, l.Nodup → (∀ x ∈ l, x ∈ m) → l.length ≤ m.length := by
    intro l
    induction l with
    | nil => intro m _ _; exact Nat.zero_le _
    | cons a r ih =>
      intro m nd h
      obtain ⟨h1, h2⟩ := List.nodup_cons.mp nd
      have ha : a ∈ m := h a List.mem_cons_self
      have := ih (m.erase a) h2 fun x hx => (List.mem_erase_of_ne (fun e => h1 (by rw [← e]; exact hx))).mpr (h x (List.mem_cons_of_mem _ hx))
      rw [List.length_erase_of_mem ha] at this
      have : 0 < m.length := List.length_pos_of_mem ha
      rw [List.length_cons]
      omega
  have := h (W.es.map (·.1)) (signsOf letters) g.ok.nd fun x hx => by
    obtain ⟨e, he, rfl⟩ := List.mem_map.mp hx
    exact g.nm e he
  rw [List.length_map, letters_len] at this
  exact this

theorem ks_len {K : PySem.W.Frag} {C : Addr} {H : Hp} {x dx m e : Addr} {ns : List Int} {ks : List (Str × Addr × Int × Int)} {W : Wb} (w : WebX K C H x dx m e ns ks W) : ks.length ≤ 24 := by
  have hl := w.pe.length_eq
  rw [List.length_map] at hl
  rw [hl]
  exact es_len w.gd
/-- a node is an end of an edge -/
def incB (n : Int) (k : Str × Addr × Int × Int) : Bool := decide (n = k.2.2.1) || decide (n = k.2.2.2)
theorem incB_iff {n : Int} {k : Str × Addr × Int × Int} : incB n k = true ↔ (n = k.2.2.1 ∨ n = k.2.2.2) := by
  unfold incB
  rw [Bool.or_eq_true, decide_eq_true_eq, decide_eq_true_eq]
theorem in_pair (n a b : Int) : inV (V.int n) [V.int a, V.int b] = (decide (n = a) || decide (n = b)) := by
  show ((a == n) || ((b == n) || false)) = _
  rw [Bool.or_false]
  have e : ∀ c : Int, (c == n) = decide (n = c) := fun c => by
    by_cases h : n = c
    · rw [decide_eq_true h, h, beq_self_eq_true]
    · rw [decide_eq_false h]
      exact beq_eq_false_iff_ne.mpr fun z => h z.symm
  rw [e, e]
section
variable {P : Program} {w : World} {K : PySem.W.Frag} {mg : Str → Option Value} {base : Heap} {C : Addr}
/-- the names of a node's edges -/
def Inc (W : Wb) (n : Int) (nm : Str) : Prop := ∃ a b, (nm, a, b) ∈ W.es ∧ (n = a ∨ n = b)
def spEdgesOf (K : PySem.W.Frag) (C : Addr) : Sp := fun vs H Q _ => ∃ (x : Addr) (n : Int) (W : Wb), vs = [.ref x, .int n] ∧ WebR K C H x W ∧ n ∈ W.ns ∧
  ∀ (z : Str) (H' : Hp), Same H H' → (∀ nm, nm ∈ signsOf z ↔ Inc W n nm) → Q (.str z) H'
theorem scEdgesOf : FnScope ["self", "node", "name", "pair"] ["self", "node"] (C8.fnScope sEdgesOf) := C8.fnScope_by (by decide +kernel)
theorem met_edgesOf {f : Addr} {fd : FuncData} (T : Txt K mg C) (F : C8.Fun K "edges_of" "Web.edges_of" sEdgesOf f fd) (b : Binds K fd ["self", "node"] []) (me : Meth K C "edges_of" f) (cM : C8.Met P w K mg base 1 C "mark" (spMark K C) []) : C8.Met P w K mg base 2 C "edges_of" (spEdgesOf K C) [] := by
  refine C8.met0 T.cl me F b scEdgesOf (fun vs H Q E h => ?_) (fun cdv A outer s H vs Q E hr h => ?_)
  · obtain ⟨x, n, W, rfl, _⟩ := h
    rfl
  · obtain ⟨x, n, W, rfl, wb, hn, q⟩ := h
    have hu := hu_of hr
    have nd := scEdgesOf.nd
    obtain ⟨dx, m, e, ns, ks, wx⟩ := id wb.ex
    have ndw := wx.nde
    refine ⟨_, pss_cons (ps_expr (C8.pe_mt cM hr (by decide) (pv 0) (pa_cons (pv 1) pa_nil)))
      (pss_one (ps_ret (pe_join pe_str (pe_lock (pe_lc (own := [("name", 2), ("pair", 3)]) (g := gTup K 2 (gCons (gName 2) (gCons (gName 3) gNil))) (tt := tTest (tOp (rIn K false) (tVar 1) (tVar 3))) (te := tVar 2) (by rfl) nd (pi_items (pe_fld (pv 0) rfl)) (blkOk_by (own := [("name", 2), ("pair", 3)]) (N := ["self", "node", "name", "pair"]) (sc := C8.fnScope sEdgesOf) (by decide +kernel))
        (fun _ _ _ _ _ => pg_tup (by rfl) (pgs_cons (pg_name (i := 2) nd rfl (.inl rfl)) (pgs_cons (pg_name (i := 3) nd rfl (.inl rfl)) pgs_nil)))
        (fun _ _ _ _ _ => pts_one (pt_cmpR op_in_seq (pv 1) (pv 3) (by rfl)))
        (fun _ _ _ _ _ => pv 2)))))), ?_⟩
    refine ⟨_, rfl, x, dx, _, rfl, wx.ob, wfl_no _ _ (by decide +kernel) (by decide +kernel), _, rfl, x, n, W, rfl, wb, hn, ?_⟩
    have nxe : x ≠ e := ne_of wx.ob wx.ed (by intro z; cases z)
    refine ⟨⟨_, rfl⟩, e, _, wx.ed, trivial, fun od => ?_⟩
    have ob1 : (upd H e (.frz od (.dK (edgesK ks)))) x = some (.ins C dx (wfl m e)) := by rw [upd_ne nxe]; exact wx.ob
    have sq1 : ∀ {t : Addr} {xs : List V}, SqT K H t xs → SqT K (upd H e (.frz od (.dK (edgesK ks)))) t xs := fun {t xs} h => by
      have nt : ∀ o, H t = some o → (∀ kvs, o ≠ .dK kvs) → t ≠ e := fun o h1 h2 => ne_of h1 wx.ed (h2 _)
      rcases h with (h | ⟨o, h⟩) | h
      · exact .inl (.inl (by rw [upd_ne (nt _ h fun _ z => by cases z)]; exact h))
      · exact .inl (.inr ⟨o, by rw [upd_ne (nt _ h fun _ z => by cases z)]; exact h⟩)
      · exact .inr h
    have tu1 : ∀ k ∈ ks, SqT K (upd H e (.frz od (.dK (edgesK ks)))) k.2.1 [.int k.2.2.1, .int k.2.2.2] := fun k hk => sq1 (wx.tu k hk)
    have at1 : (upd H e (.frz od (.dK (edgesK ks)))) e = some (.frz od (.dK (edgesK ks))) := upd_same
    have out1 : ∀ {H'}, Same (upd H e (.frz od (.dK (edgesK ks)))) H' → Same H (upd H' e (.dK (edgesK ks))) := fun {H'} s1 c o h => by
      by_cases hc : c = e
      · subst hc
        rw [upd_same]
        exact wx.ed.symm.trans h
      · rw [upd_ne hc]
        exact s1 c o (by rw [upd_ne hc]; exact h)
    generalize upd H e (.frz od (.dK (edgesK ks))) = H1 at ob1 tu1 at1 out1 ⊢
    refine ⟨_, rfl, x, C, dx, _, _, rfl, ob1, T.cl, T.nE, wfl_e _ _, e, od, _, rfl, at1, fun D nD => ?_⟩
    refine lc_it walk_items (fun i H' => Same H1 H' ∧ H' D = some (.lst ((((ks.take i).filter (incB n)).map (·.1)).map V.str)))
      ⟨same_upd nD, upd_same⟩ (fun i H' _ ⟨s1, _⟩ => s1 _ _ at1) ?_ ?_
    · rintro i v H' H2 hi ⟨s1, hD⟩ ⟨t, y, z, rfl, nt, rfl, hy, hz⟩
      have hi : i < ks.length := by rw [edgesK_len] at hi; exact hi
      change Option.map _ (edgesK ks)[i]? = some y at hy
      change Option.map _ (edgesK ks)[i]? = some z at hz
      rw [edges_at hi] at hy hz
      obtain rfl : V.str ks[i].1 = y := Option.some.inj hy
      obtain rfl : V.ref ks[i].2.1 = z := Option.some.inj hz
      have s2 : Same H1 (upd H' t (.tup [.str ks[i].1, .ref ks[i].2.1])) := Same.updr s1 (s1.free nt)
      have hD2 : (upd H' t (.tup [.str ks[i].1, .ref ks[i].2.1])) D = _ := (upd_ne (ne_of_none hD nt)).trans hD
      refine ⟨t, _, rfl, SqT.of upd_same, rfl, _, _, rfl, _, _, rfl, rfl, rfl, ?_⟩
      refine ⟨_, rfl, _, rfl, _, _, rfl, .inr (Same.sqt s2 (tu1 _ (List.getElem_mem hi))), rfl, rfl, _, rfl, ?_⟩
      have tk : ks.take (i + 1) = ks.take i ++ [ks[i]] := by rw [List.take_succ, List.getElem?_eq_getElem hi]; rfl
      have ei : inV (V.int n) [V.int ks[i].2.2.1, V.int ks[i].2.2.2] = incB n ks[i] := in_pair _ _ _
      show if inV (V.int n) [V.int ks[i].2.2.1, V.int ks[i].2.2.2] = true then _ else _
      rw [ei]
      cases c : incB n ks[i] with
      | true =>
        refine iteT ⟨_, rfl, _, hD2, ?_, Same.updr s2 nD, ?_⟩
        · rw [List.length_map, List.length_map]
          refine Nat.lt_of_le_of_lt (List.length_filter_le _ _) (Nat.lt_of_le_of_lt (List.length_take_le _ _) ?_)
          exact small1000 (by have := ks_len wx; omega)
        · rw [upd_same, tk, List.filter_append, List.map_append, List.map_append, List.filter_cons_of_pos c]
          rfl
      | false =>
        refine iteF ⟨s2, ?_⟩
        rw [tk, List.filter_append, List.filter_cons_of_neg (by rw [c]; decide), List.filter_nil, List.append_nil]
        exact hD2
    · rintro H' ⟨s1, hD⟩
      refine ⟨s1 _ _ at1, ?_⟩
      rw [edgesK_len, List.take_length] at hD
      have nDe : D ≠ e := (ne_of_none at1 nD).symm
      have hlet : ∀ y ∈ ((ks.filter (incB n)).map (·.1)), Letter y := fun y hy => by
        obtain ⟨k, hk, rfl⟩ := List.mem_map.mp hy
        exact wx.gd.nm _ (wx.back (List.mem_filter.mp hk).1)
      refine ⟨_, D, _, rfl, rfl, .inl (SqL.of (by rw [upd_ne nDe]; exact hD)), ?_, ?_⟩
      · rw [sum_ones hlet]
        have hle : (((ks.filter (incB n)).map (·.1))).length ≤ 24 := by
          rw [List.length_map]
          refine Nat.le_trans (List.length_filter_le _ _) ?_
          exact ks_len wx
        have e0 : (Str.ofString "").length = 0 := by decide +kernel
        rw [e0]
        omega
      · refine q _ _ (out1 s1) fun nm => ?_
        have e0 : Str.ofString "" = SX.S [] := by decide +kernel
        rw [e0, join_letters hlet]
        constructor
        · intro hm
          obtain ⟨k, hk, rfl⟩ := List.mem_map.mp hm
          obtain ⟨h1, h2⟩ := List.mem_filter.mp hk
          have h3 := wx.back h1
          obtain ⟨k1, k2, a, b'⟩ := k
          exact ⟨a, b', h3, incB_iff.mp h2⟩
        · rintro ⟨a, b', h1, h2⟩
          obtain ⟨t, ht⟩ := wx.edge h1
          exact List.mem_map.mpr ⟨_, List.mem_filter.mpr ⟨ht, incB_iff.mpr h2⟩, rfl⟩
end
end TK
end
section
set_option Elab.async false
set_option linter.all false
set_option autoImplicit false
set_option maxRecDepth 100000
set_option maxHeartbeats 4000000
/-! Web.component_of. -/
namespace TK
open PySem PySem.Spec PyProof.Rows L2

/-! ### flat lists as data -/
def flatD : V → PyData
  | .bl b => .bool b
  | .int i => .int i
  | _ => .none
def plainV : V → Bool
  | .bl _ => true
  | .int _ => true
  | _ => false
theorem dp_all {K : PySem.W.Frag} {H : Hp} : ∀ {xs : List V}, (∀ x ∈ xs, plainV x = true) → DpAll K H xs (xs.map flatD)
  | [], _ => .nil
  | x :: xs, h => by
    refine .cons ?_ (dp_all fun y hy => h y (List.mem_cons_of_mem _ hy))
    have hx := h x List.mem_cons_self
    cases x with
    | bl b => exact .bl b
    | int i => exact .int i
    | _ => cases hx
theorem lay_all : ∀ xs : List V, PyData.canLayAll0 (xs.map flatD) = true
  | [] => by simp [PyData.canLayAll0]
  | x :: xs => by
    have := lay_all xs
    cases x <;> simp [PyData.canLayAll0, PyData.canLay0, flatD, this]
theorem depth_all : ∀ xs : List V, PyData.depthAll (xs.map flatD) = 0
  | [] => by simp [PyData.depthAll]
  | x :: xs => by
    have := depth_all xs
    cases x <;> simp [PyData.depthAll, PyData.depth, flatD, this]
theorem shaped_list (xs : List V) : SeqAt.shaped (.list (xs.map flatD)) = true := by
  unfold SeqAt.shaped
  simp [PyData.canLay0, lay_all, PyData.depth, depth_all]
theorem shaped_tup (xs : List V) : SeqAt.shaped (.tuple (xs.map flatD)) = true := by
  unfold SeqAt.shaped
  simp [PyData.canLay0, lay_all, PyData.depth, depth_all]
theorem eqv_empty (xs : List V) : PyData.eqv (.list (xs.map flatD)) (.list []) = xs.isEmpty := by
  cases xs <;> simp [PyData.eqv, PyData.eqvAll]

/-! ### the search -/
theorem adj_inc {W : Wb} (ok : W.Ok) {n b : Int} : TM.Adj W n b ↔ ∃ nm k g, (nm, k, g) ∈ W.es ∧ (n = k ∨ n = g) ∧ b = oth n k g := by
  constructor
  · rintro ⟨⟨nm, k, g⟩, he, q⟩
    have hlt := (ok.en _ he).2.2
    refine ⟨nm, k, g, he, ?_⟩
    unfold oth
    rcases q with ⟨rfl, rfl⟩ | ⟨rfl, rfl⟩
    · exact ⟨.inl rfl, (if_pos rfl).symm⟩
    · exact ⟨.inr rfl, (if_neg (Int.ne_of_gt hlt)).symm⟩
  · rintro ⟨nm, k, g, he, q, rfl⟩
    refine ⟨_, he, ?_⟩
    unfold oth
    rcases q with rfl | rfl
    · rw [if_pos rfl]
      exact .inl ⟨rfl, rfl⟩
    · by_cases c : n = k
      · rw [if_pos c]
        exact .inl ⟨c.symm, rfl⟩
      · rw [if_neg c]
        exact .inr ⟨rfl, rfl⟩
/-- found and line -/
structure Srch (W : Wb) (n : Int) (fs ls : List Int) : Prop where
  nd : fs.Nodup
  sub : ∀ a ∈ fs, a ∈ W.ns ∧ TM.Conn W n a
  root : n ∈ fs
  line : ∀ a ∈ ls, a ∈ fs
theorem Srch.len {W : Wb} {n : Int} {fs ls : List Int} (s : Srch W n fs ls) : fs.length ≤ W.ns.length := ns_len.len_sub s.nd fun a ha => (s.sub a ha).1
/-- all neighbours are found -/
def Shut (W : Wb) (fs : List Int) (a : Int) : Prop := ∀ b, TM.Adj W a b → b ∈ fs
theorem srch_done {W : Wb} {n : Int} {fs ns' : List Int} (g : Good W) (s : Srch W n fs []) (h : ∀ a ∈ fs, Shut W fs a) (p : ns'.Perm fs) (o : ns'.Pairwise (· ≤ ·)) : ns' = TM.comp W n := by
  refine TM.asc_uniq (TM.asc_of_le o (p.nodup_iff.mpr s.nd)) (TM.comp_asc g.ok n) fun x => ?_
  rw [p.mem_iff, TM.mem_comp]
  refine ⟨s.sub x, fun c => ?_⟩
  replace c := c.2
  induction c with
  | here => exact s.root
  | step _ a ih => exact h _ ih _ a
theorem mem_signs {z : Str} {i c : Nat} (h : z.cps[i]? = some c) : (⟨#[c]⟩ : Str) ∈ signsOf z :=
  List.mem_map.mpr ⟨c, List.mem_of_getElem? (by rw [Array.getElem?_toList]; exact h), rfl⟩
theorem signs_mem {z nm : Str} (h : nm ∈ signsOf z) : ∃ i c, i < z.cps.size ∧ z.cps[i]? = some c ∧ nm = ⟨#[c]⟩ := by
  obtain ⟨c, hc, rfl⟩ := List.mem_map.mp h
  obtain ⟨i, hi, e⟩ := List.mem_iff_getElem.mp hc
  rw [Array.length_toList] at hi
  refine ⟨i, c, hi, ?_, rfl⟩
  rw [Array.getElem?_eq_getElem hi, ← e, Array.getElem_toList]
theorem inInts {a : Int} {fs : List Int} : inV (V.int a) (fs.map V.int) = decide (a ∈ fs) := by
  unfold inV
  rw [List.any_map]
  induction fs with
  | nil => simp
  | cons b r ih =>
    rw [List.any_cons, ih]
    show ((b == a) || _) = _
    by_cases h : a = b
    · simp [h]
    · have h' : (b == a) = false := beq_eq_false_iff_ne.mpr fun z => h z.symm
      rw [h', Bool.false_or]
      refine decide_eq_decide.mpr ⟨fun z => List.mem_cons_of_mem _ z, fun z => ?_⟩
      rcases List.mem_cons.mp z with z | z
      · exact absurd z h
      · exact z
theorem flat_ints (fs : List Int) : (fs.map V.int).all flatV = true := by
  rw [List.all_map]
  exact List.all_eq_true.mpr fun _ _ => rfl

section
variable {P : Program} {w : World} {K : PySem.W.Frag} {mg : Str → Option Value} {base : Heap} {C : Addr}
def spCompOf (K : PySem.W.Frag) (C : Addr) : Sp := fun vs H Q _ => ∃ (x : Addr) (n : Int) (W : Wb), vs = [.ref x, .int n] ∧ WebR K C H x W ∧ n ∈ W.ns ∧
  ∀ (t : Addr) (H' : Hp), Same H H' → SqT K H' t ((TM.comp W n).map V.int) → Q (.ref t) H'
theorem scCompOf : FnScope ["self", "node", "found", "line", "here", "edge", "there"] ["self", "node"] (C8.fnScope sCompOf) := C8.fnScope_by (by decide +kernel)
theorem met_compOf {f : Addr} {fd : FuncData} (T : Txt K mg C) (F : C8.Fun K "component_of" "Web.component_of" sCompOf f fd) (b : Binds K fd ["self", "node"] []) (me : Meth K C "component_of" f) (cM : C8.Met P w K mg base 1 C "mark" (spMark K C) [])
    (cE : C8.Met P w K mg base 2 C "edges_of" (spEdgesOf K C) []) (cO : C8.Met P w K mg base 1 C "other_end" (spOther K C) []) : C8.Met P w K mg base 3 C "component_of" (spCompOf K C) [] := by
  refine C8.met0 T.cl me F b scCompOf (fun vs H Q E h => ?_) (fun cdv A outer s H vs Q E hr h => ?_)
  · obtain ⟨x, n, W, rfl, _⟩ := h
    rfl
  · obtain ⟨x, n, W, rfl, wb, hn, q⟩ := h
    have nd := scCompOf.nd
    have gd : Good W := by obtain ⟨dx, m, e, ns, ks, wx⟩ := wb.ex; exact wx.gd
    have hN := ns_len gd
    refine ⟨_, pss_cons (ps_expr (C8.pe_mt cM hr (by decide) (pv 0) (pa_cons (pv 1) pa_nil)))
      (pss_cons (ps_par (i := 2) (j := 3) (by rfl) nd rfl rfl (by decide) rfl rfl (pa_cons (pe_lst (pa_cons (pv 1) pa_nil)) (pa_cons (pe_lst (pa_cons (pv 1) pa_nil)) pa_nil)) (by rfl))
      (pss_cons (ps_while PassesOwn.never (pt_cmpR (op_neD hr.units) (pv 3) (pe_lst pa_nil) (nomark _))
        (pss_cons (ps_set (i := 4) nd rfl (.inl rfl) (pe_bm0 PySem.F.plainAttrs_list PySem.F.slot_list_pop PySem.F.type_list_pop mt_pop (pv 3)))
        (pss_one (ps_for PassesOwn.never rfl (pi_str (C8.pe_mt cE hr (by decide) (pv 0) (pa_cons (pv 4) pa_nil))) (pg_name (i := 5) nd rfl (.inl rfl))
          (pss_cons (ps_set (i := 6) nd rfl (.inl rfl) (C8.pe_mt cO hr (by decide) (pv 0) (pa_cons (pv 5) (pa_cons (pv 4) pa_nil))))
          (pss_one (ps_if (pt_cmpR op_notIn_seq (pv 6) (pv 2) (by rfl))
            (pss_cons (ps_expr (pe_bm PySem.F.plainAttrs_list PySem.F.slot_list_append PySem.F.type_list_append mt_append (pv 2) (pa_cons (pv 6) pa_nil)))
            (pss_one (ps_expr (pe_bm PySem.F.plainAttrs_list PySem.F.slot_list_append PySem.F.type_list_append mt_append (pv 3) (pa_cons (pv 6) pa_nil)))))
            pss_nil)))))))
      (pss_one (ps_ret (pe_callTy call_tuple_of (by rfl) T.tuple PyProof.Rows.boot_tuple (pa_cons (pe_callB cr_sorted (by rfl) T.sorted (by decide +kernel) (pa_cons (pv 2) pa_nil)) pa_nil)))))), ?_⟩
    obtain ⟨dx0, m0, e0, ns0, ks0, wx0⟩ := id wb.ex
    refine ⟨_, rfl, x, dx0, _, rfl, wx0.ob, wfl_no _ _ (by decide +kernel) (by decide +kernel), _, rfl, x, n, W, rfl, wb, hn, ?_⟩
    refine ⟨_, rfl, by show 1 ≤ sizeLine; decide, fun l nl => ?_⟩
    refine ⟨_, rfl, by show 1 ≤ sizeLine; decide, fun g ng => ⟨_, _, rfl, ?_⟩⟩
    have ng0 : H g = none := (same_upd nl).free ng
    have nlg : l ≠ g := ne_of_none upd_same ng
    have s0 : Same H (upd (upd H l (.lst [.int n])) g (.lst [.int n])) := Same.updr (same_upd nl) ng0
    refine ⟨fun mm σ H' => ∃ (fs ls : List Int) (v4 v5 v6 : Option V), σ = [some (.ref x), some (.int n), some (.ref l), some (.ref g), v4, v5, v6] ∧ Same H H' ∧ H' l = some (.lst (fs.map V.int)) ∧ H' g = some (.lst (ls.map V.int)) ∧
        Srch W n fs ls ∧ (∀ a ∈ fs, a ∉ ls → Shut W fs a) ∧ ls.length ≤ fs.length ∧ mm = 2 * (W.ns.length - fs.length) + ls.length,
      ⟨_, [n], [n], none, none, none, rfl, s0, by rw [upd_ne nlg]; exact upd_same, upd_same, ⟨by simp, fun a ha => by rw [List.mem_singleton.mp ha]; exact ⟨hn, .here⟩, by simp, fun a ha => ha⟩, fun a ha hb => absurd ha hb, Nat.le_refl _, rfl⟩, ?_⟩
    rintro mm σ H1 ⟨fs, ls, v4, v5, v6, rfl, s1, hl, hg, S, cl, hz, rfl⟩
    -- line != []
    refine ⟨_, rfl, by show 0 ≤ sizeLine; decide, fun p np => ?_⟩
    have s2 : Same H (upd H1 p (.lst [])) := Same.updr s1 (s1.free np)
    have hl2 : (upd H1 p (.lst [])) l = some (.lst (fs.map V.int)) := by rw [upd_ne (ne_of_none hl np)]; exact hl
    have hg2 : (upd H1 p (.lst [])) g = some (.lst (ls.map V.int)) := by rw [upd_ne (ne_of_none hg np)]; exact hg
    have hpl : ∀ v ∈ ls.map V.int, plainV v = true := fun v hv => by
      obtain ⟨i, _, rfl⟩ := List.mem_map.mp hv
      rfl
    refine ⟨.list ((ls.map V.int).map flatD), .list [], .lst (SqL.of hg2) (dp_all hpl), .lst (SqL.of upd_same) .nil, shaped_list _, shaped_list [], _, rfl, ?_⟩
    rw [eqv_empty]
    generalize upd H1 p (.lst []) = H2 at s2 hl2 hg2 ⊢
    by_cases hemp : ls = []
    · subst hemp
      refine iteF ?_
      -- return tuple(sorted(found))
      refine ⟨_, rfl, l, fs, rfl, SqL.of hl2, by have := S.len; omega, fun ns' p2 pm so np2 => ?_⟩
      have e := srch_done gd S (fun a ha => cl a ha (by simp)) pm so
      refine ⟨p2, _, rfl, .inl ⟨SqL.of upd_same, fun t nt => ?_⟩⟩
      rw [e] at nt ⊢
      exact q t _ (Same.updr (Same.updr s2 (s2.free np2)) ((Same.updr s2 (s2.free np2)).free nt)) (SqT.of upd_same)
    · obtain ⟨here, hlast⟩ : ∃ y, ls[ls.length - 1]? = some y := by
        have : ls.length - 1 < ls.length := by
          have := List.length_pos_iff.mpr hemp
          omega
        exact ⟨ls[ls.length - 1], List.getElem?_eq_getElem this⟩
      have hemp2 : (!(ls.map V.int).isEmpty) = true := by cases ls with | nil => exact absurd rfl hemp | cons a r => rfl
      rw [hemp2]
      refine iteT ?_
      have hmem : here ∈ ls := List.mem_of_getElem? hlast
      have hhere := S.sub here (S.line here hmem)
      have hsp : ls = ls.dropLast ++ [here] := by
        have h1 := List.dropLast_concat_getLast hemp
        have h2 : ls.getLast hemp = here := by
          rw [List.getLast_eq_getElem]
          rw [List.getElem?_eq_getElem (by have := List.length_pos_iff.mpr hemp; omega)] at hlast
          exact Option.some.inj hlast
        rw [h2] at h1
        exact h1.symm
      have hlen : ls.length = ls.dropLast.length + 1 := by
        have := congrArg List.length hsp
        rw [List.length_append, List.length_singleton] at this
        exact this
      refine ⟨fun σ' H' => ∃ mm, mm < 2 * (W.ns.length - fs.length) + ls.length ∧ _, fun σ' H' h => h, ?_⟩
      -- here = line.pop()
      refine ⟨_, rfl, .inl ⟨rfl, _, SqL.of hg2⟩, g, _, .int here, rfl, rfl, hg2, by rw [List.length_map, List.getElem?_map, hlast]; rfl, ?_⟩
      rw [← List.map_dropLast]
      have s3 : Same H (upd H2 g (.lst (ls.dropLast.map V.int))) := Same.updr s2 ng0
      have hl3 : (upd H2 g (.lst (ls.dropLast.map V.int))) l = some (.lst (fs.map V.int)) := by rw [upd_ne nlg]; exact hl2
      have hg3 : (upd H2 g (.lst (ls.dropLast.map V.int))) g = some (.lst (ls.dropLast.map V.int)) := upd_same
      generalize upd H2 g (.lst (ls.dropLast.map V.int)) = H3 at s3 hl3 hg3 ⊢
      have wb3 := wb.same s3
      obtain ⟨dx, m, e, ns, ks, wx⟩ := id wb3.ex
      -- for edge in self.edges_of(here)
      refine ⟨_, rfl, x, dx, _, rfl, wx.ob, wfl_no _ _ (by decide +kernel) (by decide +kernel), _, rfl, x, here, W, rfl, wb3, hhere.1, fun z H4 s4 hz4 => ⟨z, rfl, ?_⟩⟩
      refine for_it walk_str (fun i σ' H' => ∃ (fs' ls' : List Int) (v5 v6 : Option V), σ' = [some (.ref x), some (.int n), some (.ref l), some (.ref g), some (.int here), v5, v6] ∧ Same H H' ∧ H' l = some (.lst (fs'.map V.int)) ∧ H' g = some (.lst (ls'.map V.int)) ∧
          Srch W n fs' ls' ∧ (∀ a ∈ fs', a ∉ ls' → a = here ∨ Shut W fs' a) ∧ ls'.length + fs.length ≤ ls.length - 1 + fs'.length ∧ fs.length ≤ fs'.length ∧ 
          ∀ j c k g', j < i → z.cps[j]? = some c → ((⟨#[c]⟩ : Str), k, g') ∈ W.es → oth here k g' ∈ fs')
        ⟨fs, ls.dropLast, v5, v6, rfl, s3.trans s4, s4 _ _ hl3, s4 _ _ hg3, ⟨S.nd, S.sub, S.root, fun a ha => S.line a (List.dropLast_subset ls ha)⟩, fun a ha hb => ?_, by omega, Nat.le_refl _, fun j c k g' hj => absurd hj (Nat.not_lt_zero j)⟩ (fun _ _ _ _ _ => trivial) ?_ ?_
      · by_cases c : a = here
        · exact .inl c
        · refine .inr (cl a ha fun h => ?_)
          rw [hsp] at h
          rcases List.mem_append.mp h with h | h
          · exact hb h
          · exact c (List.mem_singleton.mp h)
      · rintro i v σ' H5 H5' hi ⟨fs', ls', v5, v6, rfl, s5, hl5, hg5, S5, cl5, hm5, hf5, done5⟩ ⟨rfl, c, hc, rfl⟩
        have wb5 := wb.same s5
        obtain ⟨dx, m, e, ns, ks, wx⟩ := id wb5.ex
        obtain ⟨k, g', hes, hinc⟩ := (hz4 _).mp (mem_signs hc)
        -- there = self.other_end(edge, here)
        refine ⟨_, rfl, x, dx, _, rfl, wx.ob, wfl_no _ _ (by decide +kernel) (by decide +kernel), _, rfl, _, rfl, x, _, here, k, g', W, rfl, wb5, hes, ?_⟩
        have hadj : TM.Adj W here (oth here k g') := (adj_inc gd.ok).mpr ⟨_, k, g', hes, hinc, rfl⟩
        have hthere : oth here k g' ∈ W.ns ∧ TM.Conn W n (oth here k g') := by
          have c2 : TM.Conn W n (oth here k g') := .step hhere.2 hadj
          exact ⟨c2.mem gd.ok hn, c2⟩
        have uniq : ∀ k2 g2, ((⟨#[c]⟩ : Str), k2, g2) ∈ W.es → oth here k2 g2 = oth here k g' := fun k2 g2 h => by
          obtain ⟨e1, e2⟩ := TM.Edge.uniq gd.ok ⟨h⟩ ⟨hes⟩
          rw [e1, e2]
        refine ⟨_, rfl, _, rfl, l, _, rfl, .inl (SqL.of hl5), rfl, flat_ints _, _, rfl, ?_⟩
        show if (!inV (V.int (oth here k g')) (fs'.map V.int)) = true then _ else _
        rw [inInts]
        generalize oth here k g' = y at hadj hthere uniq ⊢
        by_cases hin : y ∈ fs'
        · rw [decide_eq_true hin]
          refine iteF ⟨fs', ls', _, _, rfl, s5, hl5, hg5, S5, cl5, hm5, hf5, fun j c' k2 g2 hj hc' h => ?_⟩
          rcases Nat.lt_succ_iff_lt_or_eq.mp hj with hj | rfl
          · exact done5 j c' k2 g2 hj hc' h
          · rw [hc] at hc'
            cases hc'
            rw [uniq _ _ h]
            exact hin
        · rw [decide_eq_false hin]
          refine iteT ?_
          have hfl : fs'.length ≤ 12 := Nat.le_trans S5.len hN
          refine ⟨_, rfl, .inl ⟨rfl, _, SqL.of hl5⟩, _, rfl, l, _, _, rfl, rfl, hl5, by rw [List.length_map]; exact small1000 (by omega), ?_⟩
          have hg6 : (upd H5' l (.lst (fs'.map V.int ++ [.int y]))) g = some (.lst (ls'.map V.int)) := by rw [upd_ne nlg.symm]; exact hg5
          refine ⟨_, rfl, .inl ⟨rfl, _, SqL.of hg6⟩, _, rfl, g, _, _, rfl, rfl, hg6, by rw [List.length_map]; exact small1000 (by omega), ?_⟩
          refine ⟨fs' ++ [y], ls' ++ [y], _, _, rfl, Same.updr (Same.updr s5 nl) ng0, ?_, ?_, ⟨?_, ?_, ?_, ?_⟩, ?_, ?_, ?_, ?_⟩
          · rw [upd_ne nlg, upd_same, List.map_append]
            rfl
          · rw [upd_same, List.map_append]
            rfl
          · exact nd_snoc S5.nd hin
          · intro a ha
            rcases List.mem_append.mp ha with h | h
            · exact S5.sub a h
            · rw [List.mem_singleton.mp h]
              exact hthere
          · exact List.mem_append_left _ S5.root
          · intro a ha
            rcases List.mem_append.mp ha with h | h
            · exact List.mem_append_left _ (S5.line a h)
            · exact List.mem_append_right _ h
          · intro a ha hb
            have hb' : a ∉ ls' := fun h => hb (List.mem_append_left _ h)
            have hy : a ≠ y := fun h => hb (List.mem_append_right _ (List.mem_singleton.mpr h))
            rcases List.mem_append.mp ha with h | h
            · rcases cl5 a h hb' with h2 | h2
              · exact .inl h2
              · exact .inr fun b hb => List.mem_append_left _ (h2 b hb)
            · exact absurd (List.mem_singleton.mp h) hy
          · simp only [List.length_append, List.length_singleton]
            omega
          · simp only [List.length_append, List.length_singleton]
            omega
          · intro j c' k2 g2 hj hc' h
            rcases Nat.lt_succ_iff_lt_or_eq.mp hj with hj | rfl
            · exact List.mem_append_left _ (done5 j c' k2 g2 hj hc' h)
            · rw [hc] at hc'
              cases hc'
              rw [uniq _ _ h]
              exact List.mem_append_right _ (List.mem_singleton.mpr rfl)
      · rintro σ' H5 ⟨fs', ls', v5, v6, rfl, s5, hl5, hg5, S5, cl5, hm5, hf5, done5⟩
        have hfl := S5.len
        refine ⟨2 * (W.ns.length - fs'.length) + ls'.length, by omega, fs', ls', _, _, _, rfl, s5, hl5, hg5, S5, fun a ha hb => ?_, by omega, rfl⟩
        rcases cl5 a ha hb with rfl | h
        · intro b hadj
          obtain ⟨nm, k, g', he, hinc, rfl⟩ := (adj_inc gd.ok).mp hadj
          obtain ⟨i, c, hi, hc, rfl⟩ := signs_mem ((hz4 nm).mpr ⟨k, g', he, hinc⟩)
          exact done5 i c k g' hi hc he
        · exact h
end
end TK
end
section
set_option Elab.async false
set_option linter.all false
set_option autoImplicit false
set_option maxRecDepth 100000
set_option maxHeartbeats 4000000
/-! Web.components, Web.is_odd. -/
namespace TK
open PySem PySem.Spec PyProof.Rows L2

/-! ### a dict that is locked meanwhile -/
theorem same_out {H H' : Hp} {d : Addr} {od : Obj} {u : HO} (hd : H d = some u) (s : Same (upd H d (.frz od u)) H') : Same H (upd H' d u) := fun c o h => by
  by_cases hc : c = d
  · subst hc
    rw [upd_same]
    exact hd.symm.trans h
  · rw [upd_ne hc]
    exact s c o (by rw [upd_ne hc]; exact h)
theorem ne_lock {H : Hp} {c d : Addr} {od : Obj} {u o : HO} (h : H c = some o) (n : c ≠ d) : (upd H d (.frz od u)) c = some o := by rw [upd_ne n]; exact h
theorem sqt_upd {K : PySem.W.Frag} {H : Hp} {t d : Addr} {xs : List V} {o u : HO} (h : SqT K H t xs) (hd : H d = some o) (n1 : ∀ ys, o ≠ .tup ys) (n2 : ∀ b ys, o ≠ .frz b (.tup ys)) : SqT K (upd H d u) t xs := by
  rcases h with (h | ⟨b, h⟩) | h
  · exact .inl (.inl (by rw [upd_ne (ne_of h hd fun z => n1 _ z.symm)]; exact h))
  · exact .inl (.inr ⟨b, by rw [upd_ne (ne_of h hd fun z => n2 _ _ z.symm)]; exact h⟩)
  · exact .inr h
theorem WebX.lockM {K : PySem.W.Frag} {C : Addr} {H : Hp} {x dx m e : Addr} {ns : List Int} {ks : List (Str × Addr × Int × Int)} {W : Wb} (w : WebX K C H x dx m e ns ks W) (hm : H m = some (.dK (marksK ns W.M))) (od : Obj) :
    WebX K C (upd H m (.frz od (.dK (marksK ns W.M)))) x dx m e ns ks W where
  ob := ne_lock w.ob (ne_of w.ob hm (by intro z; cases z))
  md := .inr ⟨od, upd_same⟩
  ed := ne_lock w.ed w.me.symm
  tu := fun k hk => sqt_upd (w.tu k hk) hm (fun _ z => by cases z) fun _ _ z => by cases z
  pn := w.pn
  pe := w.pe
  gd := w.gd
  me := w.me

/-! ### a set comprehension over any walk -/
theorem st_it {P : Program} {w : World} {K : PySem.W.Frag} {J : It} {n : Nat} {G : Hp → Prop} {Y : Nat → Hp → V → Hp → Prop} (wk : Walk J n G Y) {g : TG} {tt : TT} {te : TE} {vs : List Nat} {σ : L2.St} {H1 : Hp} {D : Addr} {Qd : Hp → Prop} (Pv : Nat → Hp → Prop) (h0 : Pv 0 (upd H1 D (SetTO P w D []))) (hG : ∀ i H, i ≤ n → Pv i H → G H)
    (hs : ∀ i x H H', i < n → Pv i H → Y i H x H' → g x (wipe σ vs) H' fun σ2 H2 => wipe σ2 vs = wipe σ vs ∧ tt σ2 H2 fun b H3 =>
      if b = true then te σ2 H3 fun y H4 => ∃ (t : Addr) (k : List Int) (L : List (Addr × List Int)), y = .ref t ∧ SqT K H4 t (k.map V.int) ∧ H4 D = some (SetTO P w D L) ∧ (∀ p ∈ L, SqT K H4 p.1 (p.2.map V.int)) ∧ L.length + 1 < 64 ∧
        ∀ L', (k ∈ L.map (·.2) → L' = L) → (k ∉ L.map (·.2) → L'.Perm ((t, k) :: L)) → Pv (i + 1) (upd H4 D (SetTO P w D L')) else Pv (i + 1) H3) (hd : ∀ H, Pv n H → Qd H) :
    ∃ W : Nat → Nat → Hp → Prop, (∃ m, W 0 m (upd H1 D (SetTO P w D []))) ∧ ∀ i m H, W i m H →
      (J.stop i H ∧ Qd H) ∨ (J.go i H ∧ ∃ Nx : Hp → Prop, (∀ H', Nx H' → ∃ m', m' < m ∧ W (i + 1) m' H') ∧ ∀ x H', J.yld i H x H' → g x (wipe σ vs) H' fun σ2 H2 => wipe σ2 vs = wipe σ vs ∧ tt σ2 H2 fun b H3 =>
        if b = true then te σ2 H3 fun y H4 => ∃ (t : Addr) (k : List Int) (L : List (Addr × List Int)), y = .ref t ∧ SqT K H4 t (k.map V.int) ∧ H4 D = some (SetTO P w D L) ∧ (∀ p ∈ L, SqT K H4 p.1 (p.2.map V.int)) ∧ L.length + 1 < 64 ∧
          ∀ L', (k ∈ L.map (·.2) → L' = L) → (k ∉ L.map (·.2) → L'.Perm ((t, k) :: L)) → Nx (upd H4 D (SetTO P w D L')) else Nx H3) := by
  refine ⟨fun i m H => m = n - i ∧ i ≤ n ∧ Pv i H, ⟨n, by simp, Nat.zero_le _, h0⟩, ?_⟩
  rintro i m H ⟨rfl, hi, p⟩
  have q := hG i H hi p
  by_cases hlt : i < n
  · exact .inr ⟨wk.goes i H hlt q, Pv (i + 1), fun H' p' => ⟨n - (i + 1), by omega, rfl, hlt, p'⟩, fun x H' y => hs i x H H' hlt p (wk.yields i H x H' hlt q y)⟩
  · have e : i = n := by omega
    subst e
    exact .inl ⟨wk.stops H q, hd H p⟩
theorem marks_at {ns : List Int} {M : Int → Int} {i : Nat} (hi : i < ns.length) : (marksK ns M)[i]? = some (Sum.inl ns[i], V.int (M ns[i])) := by
  unfold marksK
  rw [List.getElem?_map, List.getElem?_eq_getElem hi]
  rfl
theorem marksK_len (ns : List Int) (M : Int → Int) : (marksK ns M).length = ns.length := by unfold marksK; rw [List.length_map]

section
variable {P : Program} {w : World} {K : PySem.W.Frag} {mg : Str → Option Value} {base : Heap} {C : Addr}
def spComps (K : PySem.W.Frag) (C : Addr) : Sp := fun vs H Q _ => ∃ (x : Addr) (W : Wb), vs = [.ref x] ∧ WebAt K C H x W ∧
  ∀ (p : Addr) (L : List (Addr × List Int)) (H' : Hp), Same H H' → H' p = some (.lst (L.map fun q => V.ref q.1)) → (∀ q ∈ L, SqT K H' q.1 (q.2.map V.int)) → TM.Comps W (L.map (·.2)) → Q (.ref p) H'
theorem scComps : FnScope ["self", "node"] ["self"] (C8.fnScope sComps) := C8.fnScope_by (by decide +kernel)
theorem met_comps {f : Addr} {fd : FuncData} (T : Txt K mg C) (F : C8.Fun K "components" "Web.components" sComps f fd) (b : Binds K fd ["self"] []) (me : Meth K C "components" f) (cC : C8.Met P w K mg base 3 C "component_of" (spCompOf K C) []) : C8.Met P w K mg base 4 C "components" (spComps K C) [] := by
  refine C8.met0 T.cl me F b scComps (fun vs H Q E h => ?_) (fun cdv A outer s H vs Q E hr h => ?_)
  · obtain ⟨x, W, rfl, _⟩ := h
    rfl
  · obtain ⟨x, W, rfl, wb, q⟩ := h
    have nd := scComps.nd
    obtain ⟨dx, m, e, ns, ks, wx, hm⟩ := id wb.ex
    have hN := ns_len wx.gd
    have hnl := wx.pn.length_eq
    refine ⟨_, pss_one (ps_ret (pe_callB (cr_sortedU rfl hr.units) (by rfl) T.sorted (by decide +kernel) (pa_cons (pe_lock
      (pe_st (own := [("node", 1)]) (g := gName 1) (tt := tYes) (te := tMeth C "component_of" (spCompOf K C) [] C8.E0 (tVar 0) (tCons (tVar 1) tNil)) rfl hr.units nd (pi_keys (pe_fld (pv 0) rfl)) (blkOk_by (own := [("node", 1)]) (N := ["self", "node"]) (sc := C8.fnScope sComps) (by decide +kernel))
        (fun _ _ _ _ _ => pg_name (i := 1) nd rfl (.inl rfl)) (fun _ _ _ _ _ => pts_nil)
        (fun _ _ _ _ _ => C8.pe_mt cC hr (by decide) (pv 0) (pa_cons (pv 1) pa_nil)))) pa_nil))), ?_⟩
    refine ⟨m, _, hm, trivial, fun od => ?_⟩
    have w1 := wx.lockM hm od
    have at1 : (upd H m (.frz od (.dK (marksK ns W.M)))) m = some (.frz od (.dK (marksK ns W.M))) := upd_same
    have out1 : ∀ {H'}, Same (upd H m (.frz od (.dK (marksK ns W.M)))) H' → Same H (upd H' m (.dK (marksK ns W.M))) := fun {H'} s1 => same_out hm s1
    generalize upd H m (.frz od (.dK (marksK ns W.M))) = H1 at w1 at1 out1 ⊢
    refine ⟨_, rfl, x, C, dx, _, _, rfl, w1.ob, T.cl, T.nM, wfl_m _ _, m, od, rfl, .inl ⟨_, at1, fun D nD => ?_⟩⟩
    refine st_it walk_keys (fun i H' => Same H1 H' ∧ ∃ L : List (Addr × List Int), H' D = some (SetTO P w D L) ∧ (∀ p ∈ L, SqT K H' p.1 (p.2.map V.int)) ∧ L.length ≤ i ∧ (L.map fun q : Addr × List Int => q.2).Nodup ∧ ∀ c : List Int, c ∈ (L.map fun q : Addr × List Int => q.2) ↔ ∃ n ∈ ns.take i, c = TM.comp W n)
      ⟨same_upd nD, [], upd_same, (fun p hp => by cases hp), Nat.le_refl _, List.nodup_nil, fun c => by simp⟩ (fun i H' _ ⟨s1, _⟩ => s1 _ _ at1) ?_ ?_
    · rintro i v H' H2 hi ⟨s1, L, hD, hL, hln, ndL, mem⟩ ⟨rfl, k, v2, hk, rfl⟩
      have hi : i < ns.length := by rw [marksK_len] at hi; exact hi
      rw [marks_at hi] at hk
      obtain ⟨rfl, rfl⟩ := Prod.mk.inj (Option.some.inj hk)
      have w2 := w1.same s1
      have hn : ns[i] ∈ W.ns := wx.pn.mem_iff.mp (List.getElem_mem hi)
      refine ⟨rfl, ?_⟩
      refine ⟨_, rfl, x, dx, _, rfl, w2.ob, wfl_no _ _ (by decide +kernel) (by decide +kernel), _, rfl, x, ns[i], W, rfl, ⟨dx, m, e, ns, ks, w2⟩, hn, fun t H3 s3 ht => ?_⟩
      have tk : ns.take (i + 1) = ns.take i ++ [ns[i]] := by rw [List.take_succ, List.getElem?_eq_getElem hi]; rfl
      refine ⟨t, _, L, rfl, ht, s3 _ _ hD, fun p hp => Same.sqt s3 (hL p hp), by omega, fun L' c1 c2 => ?_⟩
      have hk2 : ∀ {u : Addr} {xs : List V}, SqT K H3 u xs → SqT K (upd H3 D (SetTO P w D L')) u xs := fun {u xs} h => sqt_upd h (s3 _ _ hD) (fun _ z => by cases z) fun _ _ z => by cases z
      refine ⟨Same.updr (s1.trans s3) nD, L', upd_same, ?_⟩
      by_cases c : TM.comp W ns[i] ∈ L.map (·.2)
      · obtain rfl := c1 c
        refine ⟨fun p hp => hk2 (Same.sqt s3 (hL p hp)), by omega, ndL, fun d => ?_⟩
        rw [mem d, tk]
        constructor
        · rintro ⟨n, hn, rfl⟩
          exact ⟨n, List.mem_append_left _ hn, rfl⟩
        · rintro ⟨n, hn, rfl⟩
          rcases List.mem_append.mp hn with h | h
          · exact ⟨n, h, rfl⟩
          · rw [List.mem_singleton.mp h]
            exact (mem _).mp c
      · have pm := c2 c
        refine ⟨fun p hp => ?_, by rw [pm.length_eq, List.length_cons]; omega, ?_, fun d => ?_⟩
        · rcases List.mem_cons.mp (pm.mem_iff.mp hp) with rfl | h
          · exact hk2 ht
          · exact hk2 (Same.sqt s3 (hL p h))
        · exact ((pm.map (·.2)).nodup_iff).mpr (List.nodup_cons.mpr ⟨c, ndL⟩)
        · rw [(pm.map (·.2)).mem_iff, List.map_cons, List.mem_cons, mem d, tk]
          constructor
          · rintro (rfl | ⟨n, hn, rfl⟩)
            · exact ⟨_, List.mem_append_right _ (List.mem_singleton.mpr rfl), rfl⟩
            · exact ⟨n, List.mem_append_left _ hn, rfl⟩
          · rintro ⟨n, hn, rfl⟩
            rcases List.mem_append.mp hn with h | h
            · exact .inr ⟨n, h, rfl⟩
            · exact .inl (by rw [List.mem_singleton.mp h])
    · rintro H' ⟨s1, L, hD, hL, hln, ndL, mem⟩
      have mem' : ∀ c, c ∈ L.map (·.2) ↔ ∃ n ∈ W.ns, c = TM.comp W n := fun c => by
        rw [mem c, marksK_len, List.take_length]
        exact ⟨fun ⟨n, hn, e⟩ => ⟨n, wx.pn.mem_iff.mp hn, e⟩, fun ⟨n, hn, e⟩ => ⟨n, wx.pn.mem_iff.mpr hn, e⟩⟩
      have at2 := s1 _ _ at1
      refine ⟨at2, D, L, rfl, ?_, fun p hp => ?_, fun p hp => ?_, fun L' p pm nd' np => ?_⟩
      · rw [upd_ne (ne_of_none at1 nD).symm]
        exact hD
      · exact sqt_upd (hL p hp) at2 (fun _ z => by cases z) fun _ _ z => by cases z
      · obtain ⟨n, hn, e⟩ := (mem' p.2).mp (List.mem_map.mpr ⟨p, hp, rfl⟩)
        rw [e]
        intro z
        have := TM.self_comp (W := W) hn
        rw [z] at this
        cases this
      · have so := out1 s1
        refine q p L' _ (Same.updr so (so.free np)) upd_same (fun r hr => ?_) ⟨nd', fun c => ?_⟩
        · refine Same.sqt (same_upd np) (sqt_upd (hL r (pm.mem_iff.mp hr)) at2 (fun _ z => by cases z) fun _ _ z => by cases z)
        · rw [(pm.map (·.2)).mem_iff, mem' c]

/-! ### is_odd -/
def spIsOdd (K : PySem.W.Frag) (C : Addr) : Sp := fun vs H Q _ => ∃ (x : Addr) (n : Int) (W : Wb), vs = [.ref x, .int n] ∧ WebR K C H x W ∧ n ∈ W.ns ∧
  ∀ (H' : Hp), Same H H' → Q (.bl (TM.oddC W (TM.comp W n))) H'
theorem scIsOdd : FnScope ["self", "node", "one"] ["self", "node"] (C8.fnScope sIsOdd) := C8.fnScope_by (by decide +kernel)
theorem met_isOdd {f : Addr} {fd : FuncData} (T : Txt K mg C) (F : C8.Fun K "is_odd" "Web.is_odd" sIsOdd f fd) (b : Binds K fd ["self", "node"] []) (me : Meth K C "is_odd" f) (cC : C8.Met P w K mg base 3 C "component_of" (spCompOf K C) []) : C8.Met P w K mg base 4 C "is_odd" (spIsOdd K C) [] := by
  refine C8.met0 T.cl me F b scIsOdd (fun vs H Q E h => ?_) (fun cdv A outer s H vs Q E hr h => ?_)
  · obtain ⟨x, n, W, rfl, _⟩ := h
    rfl
  · obtain ⟨x, n, W, rfl, wb, hn, q⟩ := h
    have hu := hu_of hr
    have nd := scIsOdd.nd
    obtain ⟨dx, m, e, ns, ks, wx⟩ := id wb.ex
    refine ⟨_, pss_one (ps_ret (pe_cmpR op_eq (pe_op op_mod (pe_callB (cr_sum rfl) (by rfl) T.sum (by decide +kernel) (pa_cons
      (pe_lc (own := [("one", 2)]) (g := gName 2) (tt := tYes) (te := tDGet (tFld K (tVar 0) "node_marks") (tVar 2)) (by rfl) nd (pi_tup (C8.pe_mt cC hr (by decide) (pv 0) (pa_cons (pv 1) pa_nil))) (blkOk_by (own := [("one", 2)]) (N := ["self", "node", "one"]) (sc := C8.fnScope sIsOdd) (by decide +kernel))
        (fun _ _ _ _ _ => pg_name (i := 2) nd rfl (.inl rfl)) (fun _ _ _ _ _ => pts_nil) (fun _ _ _ _ _ => pe_dget hu (pe_fld (pv 0) rfl) (pv 2) (fun _ _ => rfl))) pa_nil)) pe_int) pe_int (nomark _))), ?_⟩
    refine ⟨_, rfl, x, dx, _, rfl, wx.ob, wfl_no _ _ (by decide +kernel) (by decide +kernel), _, rfl, x, n, W, rfl, wb, hn, fun t H1 s1 ht => ⟨t, rfl, ⟨_, ht⟩, fun D nD => ?_⟩⟩
    have w1 := wx.same s1
    refine lc_it (walk_tup (xs := (TM.comp W n).map V.int)) (fun i H' => Same H1 H' ∧ H' D = some (.lst ((((TM.comp W n).take i).map W.M).map V.int)))
      ⟨same_upd nD, upd_same⟩ (fun i H' _ ⟨s2, _⟩ => Same.sqt s2 ht) ?_ ?_
    · rintro i v H' H2 hi ⟨s2, hD⟩ ⟨rfl, hv⟩
      obtain ⟨a, ha, rfl⟩ := int_of_map hv
      have hi : i < (TM.comp W n).length := by rw [List.length_map] at hi; exact hi
      have ham : a ∈ W.ns := (TM.mem_comp.mp (List.mem_of_getElem? ha)).1
      have w2 := w1.same s2
      have hval := marks_val (M := W.M) w2.ndn (w2.pn.mem_iff.mpr ham)
      refine ⟨rfl, ?_⟩
      have hl12 : (TM.comp W n).length ≤ 12 := Nat.le_trans (List.length_filter_le _ _) (ns_len wx.gd)
      refine ⟨_, rfl, x, C, dx, _, _, rfl, w2.ob, T.cl, T.nM, wfl_m _ _, _, rfl, m, _, rfl, .inl ⟨_, Sum.inl a, w2.md, rfl, hval.symm⟩, _, hD, ?_, Same.updr s2 nD, ?_⟩
      · rw [List.length_map, List.length_map]
        exact small1000 (by have := List.length_take_le i (TM.comp W n); omega)
      · rw [upd_same, List.take_succ, ha, List.map_append, List.map_append]
        rfl
    · rintro H' ⟨s2, hD⟩
      rw [List.length_map, List.take_length] at hD
      refine ⟨D, _, rfl, SqL.of hD, _, _, rfl, rfl, (by show (0 : Int) < 2; decide), rfl, ?_⟩
      have e : decide (V.int (((TM.comp W n).map W.M).sum % 2) = V.int 1) = TM.oddC W (TM.comp W n) := by
        unfold TM.oddC TM.sumM
        refine decide_eq_decide.mpr ⟨fun z => V.int.inj z, fun z => by rw [z]⟩
      show Q (.bl (decide (V.int (((TM.comp W n).map W.M).sum % 2) = V.int 1))) H'
      rw [e]
      exact q H' (s1.trans s2)
end
end TK
end
section
set_option Elab.async false
set_option linter.all false
set_option autoImplicit false
set_option maxRecDepth 100000
set_option maxHeartbeats 4000000
/-! check_parts, Web.__init__. -/
namespace TK
open PySem PySem.Spec PyProof.Rows L2

theorem dc_it {J : It} {n : Nat} {G : Hp → Prop} {Y : Nat → Hp → V → Hp → Prop} (wk : Walk J n G Y) {g : TG} {tt : TT} {tk tv : TE} {vs : List Nat} {σ : L2.St} {H1 : Hp} {D : Addr} {Qd : Hp → Prop} (Pv : Nat → Hp → Prop) (h0 : Pv 0 (upd H1 D (.dK []))) (hG : ∀ i H, i ≤ n → Pv i H → G H)
    (hs : ∀ i x H H', i < n → Pv i H → Y i H x H' → g x (wipe σ vs) H' fun σ2 H2 => wipe σ2 vs = wipe σ vs ∧ tt σ2 H2 fun b H3 =>
      if b = true then tk σ2 H3 fun y H4 => tv σ2 H4 fun z H5 => ∃ kvs k, y = kV k ∧ H5 D = some (.dK kvs) ∧ kvs.length < sizeLine ∧ Pv (i + 1) (upd H5 D (.dK (putK kvs k z))) else Pv (i + 1) H3) (hd : ∀ H, Pv n H → Qd H) :
    ∃ W : Nat → Nat → Hp → Prop, (∃ m, W 0 m (upd H1 D (.dK []))) ∧ ∀ i m H, W i m H →
      (J.stop i H ∧ Qd H) ∨ (J.go i H ∧ ∃ Nx : Hp → Prop, (∀ H', Nx H' → ∃ m', m' < m ∧ W (i + 1) m' H') ∧ ∀ x H', J.yld i H x H' → g x (wipe σ vs) H' fun σ2 H2 => wipe σ2 vs = wipe σ vs ∧ tt σ2 H2 fun b H3 =>
        if b = true then tk σ2 H3 fun y H4 => tv σ2 H4 fun z H5 => ∃ kvs k, y = kV k ∧ H5 D = some (.dK kvs) ∧ kvs.length < sizeLine ∧ Nx (upd H5 D (.dK (putK kvs k z))) else Nx H3) := by
  refine ⟨fun i m H => m = n - i ∧ i ≤ n ∧ Pv i H, ⟨n, by simp, Nat.zero_le _, h0⟩, ?_⟩
  rintro i m H ⟨rfl, hi, p⟩
  have q := hG i H hi p
  by_cases hlt : i < n
  · exact .inr ⟨wk.goes i H hlt q, Pv (i + 1), fun H' p' => ⟨n - (i + 1), by omega, rfl, hlt, p'⟩, fun x H' y => hs i x H H' hlt p (wk.yields i H x H' hlt q y)⟩
  · have e : i = n := by omega
    subst e
    exact .inl ⟨wk.stops H q, hd H p⟩

/-- two dicts of which a web can be made -/
structure RawX (K : PySem.W.Frag) (H : Hp) (m e : Addr) (ns : List Int) (ks : List (Str × Addr × Int × Int)) (W : Wb) : Prop where
  md : H m = some (.dK (marksK ns W.M))
  ed : H e = some (.dK (edgesK ks))
  tu : ∀ k ∈ ks, SqT K H k.2.1 [.int k.2.2.1, .int k.2.2.2]
  pn : ns.Perm W.ns
  pe : (ks.map fun k => (k.1, TM.srt k.2.2)).Perm W.es
  gd : Good W
structure RawAt (K : PySem.W.Frag) (H : Hp) (m e : Addr) (W : Wb) : Prop where
  ex : ∃ ns ks, RawX K H m e ns ks W
section
variable {K : PySem.W.Frag} {H H' : Hp} {m e : Addr} {ns : List Int} {ks : List (Str × Addr × Int × Int)} {W : Wb}
theorem RawX.same (r : RawX K H m e ns ks W) (s : Same H H') : RawX K H' m e ns ks W := ⟨s _ _ r.md, s _ _ r.ed, fun k hk => Same.sqt s (r.tu k hk), r.pn, r.pe, r.gd⟩
theorem RawAt.same (r : RawAt K H m e W) (s : Same H H') : RawAt K H' m e W := by
  obtain ⟨ns, ks, h⟩ := r.ex
  exact ⟨ns, ks, h.same s⟩
theorem RawX.ndn (w : RawX K H m e ns ks W) : ns.Nodup := w.pn.nodup_iff.mpr w.gd.ok.nn
theorem RawX.names (w : RawX K H m e ns ks W) : (ks.map (·.1)).Perm (W.es.map (·.1)) := by
  have h := w.pe.map (·.1)
  rw [List.map_map] at h
  exact h
theorem RawX.nde (w : RawX K H m e ns ks W) : (ks.map (·.1)).Nodup := w.names.nodup_iff.mpr w.gd.ok.nd
theorem RawX.len (w : RawX K H m e ns ks W) : ks.length ≤ 24 := by
  have h := w.names.length_eq
  rw [List.length_map, List.length_map] at h
  rw [h]
  exact es_len w.gd
theorem RawX.lenN (w : RawX K H m e ns ks W) : ns.length ≤ 12 := by
  rw [w.pn.length_eq]
  exact ns_len w.gd
theorem RawX.back (w : RawX K H m e ns ks W) {k : Str × Addr × Int × Int} (h : k ∈ ks) : (k.1, TM.srt k.2.2) ∈ W.es := w.pe.mem_iff.mp (List.mem_map.mpr ⟨k, h, rfl⟩)
theorem RawX.letter (w : RawX K H m e ns ks W) {k : Str × Addr × Int × Int} (h : k ∈ ks) : Letter k.1 := w.gd.nm _ (w.back h)
theorem RawX.ends (w : RawX K H m e ns ks W) {k : Str × Addr × Int × Int} (h : k ∈ ks) : k.2.2.1 ≠ k.2.2.2 ∧ k.2.2.1 ∈ ns ∧ k.2.2.2 ∈ ns := by
  obtain ⟨h1, h2, h3⟩ := w.gd.ok.en _ (w.back h)
  dsimp only at h1 h2 h3
  obtain ⟨nm, t, a, b⟩ := k
  dsimp only at h1 h2 h3 ⊢
  have hm : ∀ {z}, z ∈ W.ns → z ∈ ns := fun hz => w.pn.mem_iff.mpr hz
  rcases TM.srt_cases a b with z | z
  · rw [z] at h1 h2 h3
    exact ⟨Int.ne_of_lt h3, hm h1, hm h2⟩
  · rw [z] at h1 h2 h3
    exact ⟨Int.ne_of_gt h3, hm h2, hm h1⟩
end
theorem str_of_mem {ks : List (Str × Addr × Int × Int)} {nm : Str} (h : nm ∈ ks.map (·.1)) : ∃ t a b, (nm, t, a, b) ∈ ks := by
  obtain ⟨⟨n, t, a, b⟩, hk, rfl⟩ := List.mem_map.mp h
  exact ⟨t, a, b, hk⟩
theorem str_of_map {ss : List Str} {i : Nat} {x : V} (h : (ss.map V.str)[i]? = some x) : ∃ n, ss[i]? = some n ∧ x = .str n := by
  rw [List.getElem?_map] at h
  cases e : ss[i]? with
  | none => rw [e] at h; cases h
  | some n =>
    rw [e] at h
    exact ⟨n, rfl, (Option.some.inj h).symm⟩

section
variable {P : Program} {w : World} {K : PySem.W.Frag} {mg : Str → Option Value} {base : Heap} {C : Addr}

/-! ### is_node_number, is_edge_name -/
def spIsNode : Sp := fun vs H Q _ => ∃ n : Int, vs = [.int n] ∧ 0 ≤ n ∧ n < 12 ∧ Q (.bl true) H
theorem scIsNode : FnScope ["node"] ["node"] (C8.fnScope sIsNode) := C8.fnScope_by (by decide +kernel)
theorem cal_isNode {f : Addr} {fd : FuncData} (T : Txt K mg C) (F : C8.Def K mg "is_node_number" sIsNode f fd) (b : Binds K fd ["node"] []) : C8.Cal P w K mg base 1 "is_node_number" spIsNode [] := by
  refine C8.cal0 F b .nil scIsNode (fun vs H Q E h => ?_) (fun cdv A outer s H vs Q E hr h => ?_)
  · obtain ⟨n, rfl, _⟩ := h
    rfl
  · obtain ⟨n, rfl, h0, h1, q⟩ := h
    obtain ⟨mc, u, r1, r2⟩ := T.rd
    refine ⟨_, pss_one (ps_ret (pe_chain op_le op_lt pe_int (pv 0) (ClX.pe_cval (pe_glob (v := .ref C) (by rfl) T.mgC rfl)))), ?_⟩
    refine ⟨_, rfl, _, _, rfl, rfl, _, rfl, ?_⟩
    rw [decide_eq_true h0]
    refine iteT ⟨C, mc, _, u, rfl, r1, r2, _, _, rfl, rfl, ?_⟩
    show Q (.bl (decide (n < 12))) H
    rw [decide_eq_true h1]
    exact q
def spIsName : Sp := fun vs H Q _ => ∃ x : Str, vs = [.str x] ∧ Letter x ∧ Q (.bl true) H
theorem scIsName : FnScope ["name"] ["name"] (C8.fnScope sIsName) := C8.fnScope_by (by decide +kernel)
theorem cal_isName {f : Addr} {fd : FuncData} (T : Txt K mg C) (F : C8.Def K mg "is_edge_name" sIsName f fd) (b : Binds K fd ["name"] []) : C8.Cal P w K mg base 1 "is_edge_name" spIsName [] := by
  refine C8.cal0 F b .nil scIsName (fun vs H Q E h => ?_) (fun cdv A outer s H vs Q E hr h => ?_)
  · obtain ⟨n, rfl, _⟩ := h
    rfl
  · obtain ⟨x, rfl, hx, q⟩ := h
    obtain ⟨c, hc, rfl⟩ := List.mem_map.mp hx
    refine ⟨_, pss_one (ps_ret (pe_and (pe_cmpR op_eq (pe_callB call_len_str (by rfl) T.len PySem.boot_len (pa_cons (pv 0) pa_nil)) pe_int (nomark _)) (pe_one (pe_cmpR op_in_sign (pv 0) (C8.pe_gc (v := .str letters) (by rfl) T.names) (by rfl))))), ?_⟩
    refine ⟨_, rfl, _, rfl, by show 1 ≤ sizeLine; decide, rfl, _, rfl, ?_⟩
    refine iteT ⟨_, rfl, c, letters, rfl, rfl, ?_⟩
    rw [decide_eq_true hc]
    exact q

/-! ### check_parts -/
def spCheck (K : PySem.W.Frag) : Sp := fun vs H Q _ => ∃ (m e : Addr) (W : Wb), vs = [.ref m, .ref e] ∧ RawAt K H m e W ∧ ∀ H', Same H H' → Q .non H'
theorem scCheck : FnScope ["marks", "edges", "node", "name", "one", "other"] ["marks", "edges"] (C8.fnScope sCheck) := C8.fnScope_by (by decide +kernel)
theorem cal_check {f : Addr} {fd : FuncData} (T : Txt K mg C) (F : C8.Def K mg "check_parts" sCheck f fd) (b : Binds K fd ["marks", "edges"] []) (cN : C8.Cal P w K mg base 1 "is_node_number" spIsNode []) (cE : C8.Cal P w K mg base 1 "is_edge_name" spIsName []) : C8.Cal P w K mg base 2 "check_parts" (spCheck K) [] := by
  refine C8.cal0 F b .nil scCheck (fun vs H Q E h => ?_) (fun cdv A outer s H vs Q E hr h => ?_)
  · obtain ⟨m, e, W, rfl, _⟩ := h
    rfl
  · obtain ⟨m, e, W, rfl, raw, q⟩ := h
    obtain ⟨ns, ks, rx⟩ := raw.ex
    have hu := hu_of hr
    have nd := scCheck.nd
    refine ⟨_, C8.pss_cut (ps_for PassesOwn.never rfl (pi_list (pe_callB (call_sortedDI rfl) (by rfl) T.sorted (by decide +kernel) (pa_cons (pv 0) pa_nil))) (pg_name (i := 2) nd rfl (.inl rfl))
        (pss_one (ps_if (pt_not (pt_val (C8.pe_c cN hr (by decide) (by rfl) (pa_cons (pv 2) pa_nil)))) (pss_one ps_never) pss_nil)))
      (C8.pss_cut (ps_for PassesOwn.never rfl (pi_list (pe_callB (call_sortedDI rfl) (by rfl) T.sorted (by decide +kernel) (pa_cons (pv 0) pa_nil))) (pg_name (i := 2) nd rfl (.inl rfl))
        (pss_one (ps_if (pt_cmpR op_notIn_seq (pe_dget hu (pv 0) (pv 2) (fun _ _ => rfl)) (pe_tup (pa_cons pe_int (pa_cons pe_int pa_nil))) (by rfl)) (pss_one ps_never) pss_nil)))
      (C8.pss_cut (ps_for PassesOwn.never rfl (pi_list (pe_callB (call_sortedD rfl) (by rfl) T.sorted (by decide +kernel) (pa_cons (pv 1) pa_nil))) (pg_name (i := 3) nd rfl (.inl rfl))
        (pss_one (ps_if (pt_not (pt_val (C8.pe_c cE hr (by decide) (by rfl) (pa_cons (pv 3) pa_nil)))) (pss_one ps_never) pss_nil)))
      (pss_one (ps_for PassesOwn.never rfl (pi_list (pe_callB (call_sortedD rfl) (by rfl) T.sorted (by decide +kernel) (pa_cons (pv 1) pa_nil))) (pg_name (i := 3) nd rfl (.inl rfl))
        (pss_cons (ps_asg (pe_dget hu (pv 1) (pv 3) (fun _ _ => rfl)) (pg_tup (by rfl) (pgs_cons (pg_name (i := 4) nd rfl (.inl rfl)) (pgs_cons (pg_name (i := 5) nd rfl (.inl rfl)) pgs_nil))))
        (pss_one (ps_if (PW.pt (pw_or (pt_cmpR op_eq (pv 4) (pv 5) (nomark _)) (pw_or (pt_cmp (pc_dnotin hu (pv 4) (pv 0))) (pw_or1 (pt_cmp (pc_dnotin hu (pv 5) (pv 0))))))) (pss_one ps_never) pss_nil))))))), ?_⟩
    have kN : (marksK ns W.M).map (·.1) = ns.map Sum.inl := marksK_keys ns W.M
    have kE : (edgesK ks).map (·.1) = (ks.map (·.1)).map Sum.inr := edgesK_keys ks
    have lN := rx.lenN
    have lE := rx.len
    -- the first loop
    refine ⟨fun σ H' => ∃ v2, σ = [some (.ref m), some (.ref e), v2, none, none, none] ∧ Same H H', ?_, ?_⟩
    · refine ⟨_, rfl, m, _, ns, rfl, .inl rx.md, kN, by omega, fun ys p pm so np => ⟨p, rfl, ⟨_, SqL.of upd_same⟩, ?_⟩⟩
      refine for_it (walk_list (xs := ys.map V.int)) (fun i σ H' => ∃ v2, σ = [some (.ref m), some (.ref e), v2, none, none, none] ∧ Same (upd H p (.lst (ys.map V.int))) H') ⟨none, rfl, Same.refl _⟩ (fun i σ H' _ ⟨_, _, s1⟩ => Same.seq s1 (SqL.of upd_same)) ?_ ?_
      · rintro i x σ H' H2 hi ⟨v2, rfl, s1⟩ ⟨rfl, hx⟩
        obtain ⟨n, hn, rfl⟩ := int_of_map hx
        have hm : n ∈ W.ns := rx.pn.mem_iff.mp (pm.mem_iff.mp (List.mem_of_getElem? hn))
        obtain ⟨h0, h1⟩ := rx.gd.ok.rg n hm
        exact ⟨_, rfl, n, rfl, h0, h1, _, rfl, ⟨_, rfl, s1⟩⟩
      · rintro σ H' ⟨v2, rfl, s1⟩
        exact ⟨v2, rfl, (same_upd np).trans s1⟩
    rintro σ H1 ⟨v2, rfl, s1⟩
    have r1 := rx.same s1
    -- the second
    refine ⟨fun σ H' => ∃ v2, σ = [some (.ref m), some (.ref e), v2, none, none, none] ∧ Same H H', ?_, ?_⟩
    · refine ⟨_, rfl, m, _, ns, rfl, .inl r1.md, kN, by omega, fun ys p pm so np => ⟨p, rfl, ⟨_, SqL.of upd_same⟩, ?_⟩⟩
      refine for_it (walk_list (xs := ys.map V.int)) (fun i σ H' => ∃ v2, σ = [some (.ref m), some (.ref e), v2, none, none, none] ∧ Same (upd H1 p (.lst (ys.map V.int))) H') ⟨v2, rfl, Same.refl _⟩ (fun i σ H' _ ⟨_, _, s1⟩ => Same.seq s1 (SqL.of upd_same)) ?_ ?_
      · rintro i x σ H' H2 hi ⟨v2, rfl, s2⟩ ⟨rfl, hx⟩
        obtain ⟨n, hn, rfl⟩ := int_of_map hx
        have hm' : n ∈ ns := pm.mem_iff.mp (List.mem_of_getElem? hn)
        have r2 := r1.same ((same_upd np).trans s2)
        have hval := marks_val (M := W.M) r2.ndn hm'
        refine ⟨_, rfl, _, rfl, m, _, rfl, .inl ⟨_, Sum.inl n, .inl r2.md, rfl, hval.symm⟩, by show 2 ≤ sizeLine; decide, fun t nt => ?_⟩
        refine ⟨t, _, rfl, .inr (SqT.of upd_same), rfl, rfl, _, rfl, ?_⟩
        have hz : inV (V.int (W.M n)) [V.int 0, V.int 1] = true := by
          rw [in_pair]
          rcases rx.gd.ok.mr n (rx.pn.mem_iff.mp hm') with z | z <;> rw [z] <;> decide
        show if (!inV (V.int (W.M n)) [V.int 0, V.int 1]) = true then _ else _
        rw [hz]
        exact iteF ⟨_, rfl, Same.updr s2 (s2.free nt)⟩
      · rintro σ H' ⟨v2, rfl, s2⟩
        exact ⟨v2, rfl, s1.trans ((same_upd np).trans s2)⟩
    clear r1 s1
    rintro σ H1 ⟨v2, rfl, s1⟩
    have r1 := rx.same s1
    -- the third
    refine ⟨fun σ H' => ∃ v3, σ = [some (.ref m), some (.ref e), v2, v3, none, none] ∧ Same H H', ?_, ?_⟩
    · refine ⟨_, rfl, e, _, ks.map (·.1), rfl, .inl r1.ed, kE, by rw [List.length_map]; omega, fun ys p pm so np => ⟨p, rfl, ⟨_, SqL.of upd_same⟩, ?_⟩⟩
      refine for_it (walk_list (xs := ys.map V.str)) (fun i σ H' => ∃ v3, σ = [some (.ref m), some (.ref e), v2, v3, none, none] ∧ Same (upd H1 p (.lst (ys.map V.str))) H') ⟨none, rfl, Same.refl _⟩ (fun i σ H' _ ⟨_, _, s1⟩ => Same.seq s1 (SqL.of upd_same)) ?_ ?_
      · rintro i x σ H' H2 hi ⟨v3, rfl, s2⟩ ⟨rfl, hx⟩
        obtain ⟨n, hn, rfl⟩ := str_of_map hx
        obtain ⟨t, a, b, hk⟩ := str_of_mem (pm.mem_iff.mp (List.mem_of_getElem? hn))
        exact ⟨_, rfl, n, rfl, rx.letter hk, _, rfl, ⟨_, rfl, s2⟩⟩
      · rintro σ H' ⟨v3, rfl, s2⟩
        exact ⟨v3, rfl, s1.trans ((same_upd np).trans s2)⟩
    clear r1 s1
    rintro σ H1 ⟨v3, rfl, s1⟩
    have r1 := rx.same s1
    -- the fourth
    refine ⟨_, rfl, e, _, ks.map (·.1), rfl, .inl r1.ed, kE, by rw [List.length_map]; omega, fun ys p pm so np => ⟨p, rfl, ⟨_, SqL.of upd_same⟩, ?_⟩⟩
    refine for_it (walk_list (xs := ys.map V.str)) (fun i σ H' => ∃ v3 v4 v5, σ = [some (.ref m), some (.ref e), v2, v3, v4, v5] ∧ Same (upd H1 p (.lst (ys.map V.str))) H') ⟨_, _, _, rfl, Same.refl _⟩ (fun i σ H' _ ⟨_, _, _, _, s1⟩ => Same.seq s1 (SqL.of upd_same)) ?_ ?_
    · rintro i x σ H' H2 hi ⟨v3, v4, v5, rfl, s2⟩ ⟨rfl, hx⟩
      obtain ⟨n, hn, rfl⟩ := str_of_map hx
      obtain ⟨t, a, b, hk⟩ := str_of_mem (pm.mem_iff.mp (List.mem_of_getElem? hn))
      have r2 := r1.same ((same_upd np).trans s2)
      have hval := edges_val r2.nde hk
      obtain ⟨hne, ha, hb⟩ := r2.ends hk
      have va := marks_val (M := W.M) r2.ndn ha
      have vb := marks_val (M := W.M) r2.ndn hb
      dsimp only at hne va vb
      refine ⟨_, rfl, _, rfl, e, _, rfl, .inl ⟨_, Sum.inr n, .inl r2.ed, rfl, hval.symm⟩, t, _, rfl, r2.tu _ hk, rfl, _, _, rfl, _, _, rfl, rfl, ?_⟩
      refine ⟨_, rfl, _, rfl, rfl, _, rfl, ?_⟩
      have d1 : decide (V.int a = V.int b) = false := decide_eq_false fun z => hne (V.int.inj z)
      rw [d1]
      refine iteF ⟨_, rfl, _, rfl, m, _, rfl, .inl ⟨_, Sum.inl a, .inl r2.md, rfl, rfl⟩, _, rfl, ?_⟩
      rw [va]
      refine iteF ⟨_, rfl, _, rfl, m, _, rfl, .inl ⟨_, Sum.inl b, .inl r2.md, rfl, rfl⟩, _, rfl, ?_⟩
      rw [vb]
      exact iteF ⟨_, _, _, rfl, s2⟩
    · rintro σ H' ⟨_, _, _, rfl, s2⟩
      exact q H' (s1.trans ((same_upd np).trans s2))
end
end TK
end
section
set_option Elab.async false
set_option linter.all false
set_option autoImplicit false
set_option maxRecDepth 100000
set_option maxHeartbeats 4000000
/-! Web.__init__. -/
namespace TK
open PySem PySem.Spec PyProof.Rows L2

theorem take_step {α : Type} {l : List α} {i : Nat} (h : i < l.length) : l.take (i + 1) = l.take i ++ [l[i]] := by rw [List.take_add_one, List.getElem?_eq_getElem h]; rfl
theorem not_taken {α : Type} {l : List α} (nd : l.Nodup) {i : Nat} (h : i < l.length) : l[i] ∉ l.take i := by
  intro z
  obtain ⟨j, hj, e⟩ := List.mem_take_iff_getElem.mp z
  have hj' : j < l.length := by omega
  have := List.pairwise_iff_getElem.mp nd j i hj' h (by omega)
  exact this e
theorem marksK_put {ys : List Int} {M : Int → Int} {y z : Int} (n : y ∉ ys) (hz : M y = z) : putK (marksK ys M) (Sum.inl y : Key) (V.int z) = marksK (ys ++ [y]) M := by
  subst hz
  rw [putK_new _ (valV_no fun h => n (by
    rw [marksK_keys] at h
    obtain ⟨a, ha, e⟩ := List.mem_map.mp h
    exact Sum.inl.inj e ▸ ha))]
  unfold marksK
  rw [List.map_append]
  rfl
theorem edgesK_put {ks : List (Str × Addr × Int × Int)} {nm : Str} {t : Addr} {a b : Int} (n : nm ∉ ks.map (·.1)) : putK (edgesK ks) (Sum.inr nm : Key) (V.ref t) = edgesK (ks ++ [(nm, t, a, b)]) := by
  rw [putK_new _ (valV_no fun h => n (by
    rw [edgesK_keys] at h
    obtain ⟨a, ha, e⟩ := List.mem_map.mp h
    exact Sum.inr.inj e ▸ ha))]
  unfold edgesK
  rw [List.map_append]
  rfl
theorem asc2 {a b : Int} {ys : List Int} (pm : ys.Perm [a, b]) (so : ys.Pairwise (· ≤ ·)) : ys = [(TM.srt (a, b)).1, (TM.srt (a, b)).2] := by
  have hl := pm.length_eq
  match ys, hl with
  | [x, y], _ =>
    have h1 : x ≤ y := by
      have := (List.pairwise_cons.mp so).1 y (by simp)
      exact this
    have hx : x = a ∨ x = b := by simpa using pm.mem_iff.mp (List.mem_cons_self (a := x) (l := [y]))
    have hy : y = a ∨ y = b := by simpa using pm.mem_iff.mp (show y ∈ [x, y] by simp)
    have ha : a = x ∨ a = y := by simpa using pm.mem_iff.mpr (show a ∈ [a, b] by simp)
    have hb : b = x ∨ b = y := by simpa using pm.mem_iff.mpr (show b ∈ [a, b] by simp)
    rcases Int.le_total a b with z | z
    · rw [TM.srt_le z]
      simp only [List.cons.injEq, and_true]
      omega
    · by_cases e : a = b
      · subst e
        rw [TM.srt_le (Int.le_refl _)]
        simp only [List.cons.injEq, and_true]
        omega
      · rw [TM.srt_gt (by omega)]
        simp only [List.cons.injEq, and_true]
        omega
/-- the entry of a name among such -/
theorem raw_perm {ks ks' : List (Str × Addr × Int × Int)} (nd : (ks.map (·.1)).Nodup) (pm : (ks'.map (·.1)).Perm (ks.map (·.1))) (h : ∀ k' ∈ ks', ∃ k ∈ ks, k.1 = k'.1 ∧ k'.2.2 = TM.srt k.2.2) :
    (ks'.map fun k => (k.1, k.2.2)).Perm (ks.map fun k => (k.1, TM.srt k.2.2)) := by
  have nd' : (ks'.map (·.1)).Nodup := pm.nodup_iff.mpr nd
  have n1 : (ks'.map fun k => (k.1, k.2.2)).Nodup := by
    refine nodup_of_map (f := Prod.fst) ?_
    rw [List.map_map]
    exact nd'
  have n2 : (ks.map fun k => (k.1, TM.srt k.2.2)).Nodup := by
    refine nodup_of_map (f := Prod.fst) ?_
    rw [List.map_map]
    exact nd
  refine (List.perm_ext_iff_of_nodup n1 n2).mpr fun z => ⟨fun hz => ?_, fun hz => ?_⟩
  · obtain ⟨k', hk', rfl⟩ := List.mem_map.mp hz
    obtain ⟨k, hk, e1, e2⟩ := h k' hk'
    exact List.mem_map.mpr ⟨k, hk, by rw [e1, e2]⟩
  · obtain ⟨k, hk, rfl⟩ := List.mem_map.mp hz
    obtain ⟨k', hk', e1⟩ := List.mem_map.mp (pm.mem_iff.mpr (List.mem_map.mpr ⟨k, hk, rfl⟩))
    obtain ⟨k2, hk2, e2, e3⟩ := h k' hk'
    have : k2 = k := TM.nd_inj nd hk2 hk (e2.trans e1)
    subst this
    exact List.mem_map.mpr ⟨k', hk', by rw [← e2, e3]⟩

section
variable {P : Program} {w : World} {K : PySem.W.Frag} {mg : Str → Option Value} {base : Heap} {C : Addr}
def rTupOf (K : PySem.W.Frag) : List V → Hp → VK → Prop := fun xs H Q => ∃ p ys, xs = [.ref p] ∧ ((SqL K H p ys ∧ ∀ l, H l = none → Q (.ref l) (upd H l (.tup ys))) ∨ (SqT K H p ys ∧ Q (.ref p) H))
def rSortedT (K : PySem.W.Frag) : List V → Hp → VK → Prop := fun xs H Q => ∃ (a : Addr) (ns : List Int), xs = [.ref a] ∧ SqT K H a (ns.map V.int) ∧ ns.length < 64 ∧
    ∀ (ys : List Int) (p : Addr), ys.Perm ns → ys.Pairwise (· ≤ ·) → H p = none → Q (.ref p) (upd H p (.lst (ys.map V.int)))
theorem cr_tupOf {X : Cx} : CallR X (.type "tuple") (rTupOf X.K) := call_tuple_of
theorem cr_sortedT {X : Cx} : CallR X (.builtin "sorted") (rSortedT X.K) := call_sortedTup
def spInit (K : PySem.W.Frag) (C : Addr) : Sp := fun vs H Q _ => ∃ (x dx m e : Addr) (W : Wb), vs = [.ref x, .ref m, .ref e] ∧ H x = some (.ins C dx []) ∧ RawAt K H m e W ∧
  ∀ H', (∀ a o, a ≠ x → H a = some o → H' a = some o) → WebAt K C H' x W → Q .non H'
theorem scInit : FnScope ["self", "marks", "edges", "node", "name"] ["self", "marks", "edges"] (C8.fnScope sInit) := C8.fnScope_by (by decide +kernel)
theorem mak_web {f : Addr} {fd : FuncData} (T : Txt K mg C) (M : Mk K C f) (F : C8.Fun K "__init__" "Web.__init__" sInit f fd) (b : Binds K fd ["self", "marks", "edges"] []) (cC : C8.Cal P w K mg base 2 "check_parts" (spCheck K) []) : C8.Mak P w K mg base 3 "Web" C (spInit K C) [] := by
  refine C8.mak0 M T.mgC F b .nil scInit (fun vs H Q E h => ?_) (fun cdv A outer s H vs Q E hr h => ?_)
  · obtain ⟨x, dx, m, e, W, rfl, _⟩ := h
    rfl
  · obtain ⟨x, dx, m, e, W, rfl, ob, raw, q⟩ := h
    have hu := hu_of hr
    have nd := scInit.nd
    refine ⟨_, pss_cons (ps_expr (C8.pe_c cC hr (by decide) (by rfl) (pa_cons (pv 1) (pa_cons (pv 2) pa_nil))))
      (pss_cons (ps_fld (pv 0) (pe_dc (own := [("node", 3)]) (g := gName 3) (tt := tYes) (tk := tVar 3) (tv := tDGet (tVar 1) (tVar 3)) rfl nd (pi_list (pe_callB (call_sortedDI rfl) (by rfl) T.sorted (by decide +kernel) (pa_cons (pv 1) pa_nil)))
          (blkOk_by (own := [("node", 3)]) (N := ["self", "marks", "edges", "node", "name"]) (sc := C8.fnScope sInit) (by decide +kernel))
          (fun _ _ _ _ _ => pg_name (i := 3) nd rfl (.inl rfl)) (fun _ _ _ _ _ => pts_nil) (fun _ _ _ _ _ => pv 3) (fun _ _ _ _ _ => pe_dget hu (pv 1) (pv 3) (fun _ _ => rfl))) rfl)
      (pss_one (ps_fld (pv 0) (pe_dc (own := [("name", 4)]) (g := gName 4) (tt := tYes) (tk := tVar 4) (tv := tCB (rTupOf K) (tCons (tCB (rSortedT K) (tCons (tDGet (tVar 2) (tVar 4)) tNil)) tNil)) rfl nd (pi_list (pe_callB (call_sortedD rfl) (by rfl) T.sorted (by decide +kernel) (pa_cons (pv 2) pa_nil)))
          (blkOk_by (own := [("name", 4)]) (N := ["self", "marks", "edges", "node", "name"]) (sc := C8.fnScope sInit) (by decide +kernel))
          (fun _ _ _ _ _ => pg_name (i := 4) nd rfl (.inl rfl)) (fun _ _ _ _ _ => pts_nil) (fun _ _ _ _ _ => pv 4)
          (fun _ _ _ _ _ => pe_callTy cr_tupOf (by rfl) T.tuple (by decide +kernel) (pa_cons (pe_callB cr_sortedT (by rfl) T.sorted (by decide +kernel) (pa_cons (pe_dget hu (pv 2) (pv 4) (fun _ _ => rfl)) pa_nil)) pa_nil))) rfl))), ?_⟩
    refine ⟨_, rfl, _, rfl, m, e, W, rfl, raw, fun H1 s1 => ?_⟩
    have r1 := raw.same s1
    obtain ⟨ns, ks, rx⟩ := r1.ex
    have ob1 := s1 _ _ ob
    have lN := rx.lenN
    have lE := rx.len
    have kN : (marksK ns W.M).map (·.1) = ns.map Sum.inl := marksK_keys ns W.M
    have kE : (edgesK ks).map (·.1) = (ks.map (·.1)).map Sum.inr := edgesK_keys ks
    refine ⟨_, rfl, m, _, ns, rfl, .inl rx.md, kN, by omega, fun ys p pm so np => ⟨p, rfl, ⟨_, SqL.of upd_same⟩, fun D hD => ?_⟩⟩
    have ndy : ys.Nodup := pm.nodup_iff.mpr rx.ndn
    have sD : Same H1 (upd (upd H1 p (.lst (ys.map V.int))) D (.dK [])) := Same.updr (same_upd np) ((same_upd np).free hD)
    refine dc_it (walk_list (xs := ys.map V.int)) (fun i H' => Same (upd H1 p (.lst (ys.map V.int))) H' ∧ H' D = some (.dK (marksK (ys.take i) W.M))) ⟨same_upd hD, upd_same⟩ (fun i H' _ ⟨s2, _⟩ => Same.seq s2 (SqL.of upd_same)) ?_ ?_
    · rintro i v H' H2 hi ⟨s2, d2⟩ ⟨rfl, hx⟩
      obtain ⟨n, hn, rfl⟩ := int_of_map hx
      have r2 := rx.same ((same_upd np).trans s2)
      have hm : n ∈ ns := pm.mem_iff.mp (List.mem_of_getElem? hn)
      have hval := marks_val (M := W.M) r2.ndn hm
      rw [List.length_map] at hi
      rw [List.getElem?_eq_getElem hi] at hn
      obtain rfl := Option.some.inj hn
      refine ⟨rfl, ?_⟩
      refine ⟨_, rfl, _, rfl, _, rfl, m, _, rfl, .inl ⟨_, Sum.inl ys[i], .inl r2.md, rfl, hval.symm⟩, _, Sum.inl ys[i], rfl, d2, ?_, Same.updr s2 hD, ?_⟩
      · rw [marksK_len, List.length_take]
        exact Nat.lt_of_le_of_lt (Nat.min_le_left _ _) (Nat.lt_of_lt_of_le hi (by rw [pm.length_eq]; exact Nat.le_trans lN (by decide)))
      · rw [upd_same, take_step hi, marksK_put (not_taken ndy hi) rfl]
    rintro H2 ⟨s2, d2⟩
    rw [List.length_map, List.take_length] at d2
    have s12 := (same_upd np).trans s2
    have ob2 := s12 _ _ ob1
    have r2 := rx.same s12
    have hDx : D ≠ x := ne_of d2 ob2 (by intro z; cases z)
    refine ⟨_, rfl, x, C, dx, [], rfl, ob2, T.cl, T.nM, (by show 0 < 1000; decide), ?_⟩
    have ed3 : (upd H2 x (.ins C dx (putF "node_marks" (.ref D) []))) e = some (.dK (edgesK ks)) := by
      rw [upd_ne (ne_of r2.ed ob2 (by intro z; cases z))]
      exact r2.ed
    have d3 : (upd H2 x (.ins C dx (putF "node_marks" (.ref D) []))) D = some (.dK (marksK ys W.M)) := by
      rw [upd_ne hDx]
      exact d2
    have tu3 : ∀ k ∈ ks, SqT K (upd H2 x (.ins C dx (putF "node_marks" (.ref D) []))) k.2.1 [.int k.2.2.1, .int k.2.2.2] := fun k hk => sqt_upd (r2.tu k hk) ob2 (fun _ z => by cases z) fun _ _ z => by cases z
    have ob3 : (upd H2 x (.ins C dx (putF "node_marks" (.ref D) []))) x = some (.ins C dx (putF "node_marks" (.ref D) [])) := upd_same
    have kp3 : ∀ a o, a ≠ x → H a = some o → (upd H2 x (.ins C dx (putF "node_marks" (.ref D) []))) a = some o := fun a o n h => by
      rw [upd_ne n]
      exact s12 _ _ (s1 _ _ h)
    generalize upd H2 x (.ins C dx (putF "node_marks" (.ref D) [])) = H3 at ed3 d3 tu3 ob3 kp3 ⊢
    refine ⟨_, rfl, e, _, ks.map (·.1), rfl, .inl ed3, kE, by rw [List.length_map]; omega, fun zs p2 pm2 so2 np2 => ⟨p2, rfl, ⟨_, SqL.of upd_same⟩, fun D2 hD2 => ?_⟩⟩
    have ndz : zs.Nodup := pm2.nodup_iff.mpr rx.nde
    have lz : zs.length ≤ 24 := by rw [pm2.length_eq, List.length_map]; exact lE
    refine dc_it (walk_list (xs := zs.map V.str)) (fun i H' => Same (upd H3 p2 (.lst (zs.map V.str))) H' ∧ ∃ ks' : List (Str × Addr × Int × Int), H' D2 = some (.dK (edgesK ks')) ∧ ks'.map (·.1) = zs.take i ∧ (∀ k ∈ ks', SqT K H' k.2.1 [.int k.2.2.1, .int k.2.2.2]) ∧ ∀ k' ∈ ks', ∃ k ∈ ks, k.1 = k'.1 ∧ k'.2.2 = TM.srt k.2.2)
      ⟨same_upd hD2, [], upd_same, rfl, (fun k hk => by cases hk), fun k hk => by cases hk⟩ (fun i H' _ ⟨s2, _⟩ => Same.seq s2 (SqL.of upd_same)) ?_ ?_
    · rintro i v H4' H' hi ⟨s4, ks', hd, hk', ht, he⟩ ⟨rfl, hx⟩
      obtain ⟨n, hn, rfl⟩ := str_of_map hx
      obtain ⟨t, a, b, hk⟩ := str_of_mem (pm2.mem_iff.mp (List.mem_of_getElem? hn))
      have s34 := (same_upd np2).trans s4
      have hval := edges_val rx.nde hk
      rw [List.length_map] at hi
      rw [List.getElem?_eq_getElem hi] at hn
      obtain rfl := Option.some.inj hn
      refine ⟨rfl, ?_⟩
      refine ⟨_, rfl, _, rfl, _, rfl, e, _, rfl, .inl ⟨_, Sum.inr zs[i], .inl (s34 _ _ ed3), rfl, hval.symm⟩, t, [a, b], rfl, Same.sqt s34 (tu3 _ hk), (by show 2 < 64; decide), fun ws p3 pm3 so3 np3 => ?_⟩
      obtain rfl := asc2 pm3 so3
      refine ⟨p3, _, rfl, .inl ⟨SqL.of upd_same, fun l nl => ?_⟩⟩
      have nl' := (same_upd np3).free nl
      have s5 : Same H' (upd (upd H' p3 (.lst ([(TM.srt (a, b)).1, (TM.srt (a, b)).2].map V.int))) l (.tup ([(TM.srt (a, b)).1, (TM.srt (a, b)).2].map V.int))) := Same.updr (same_upd np3) nl'
      have hd5 := s5 _ _ hd
      refine ⟨edgesK ks', Sum.inr zs[i], rfl, hd5, ?_, Same.updr (s4.trans s5) hD2, ks' ++ [(zs[i], l, TM.srt (a, b))], ?_, ?_, fun k hk2 => ?_, fun k hk2 => ?_⟩
      · rw [edgesK_len, ← List.length_map (f := fun x : Str × Addr × Int × Int => x.1), hk', List.length_take]
        exact Nat.lt_of_le_of_lt (Nat.min_le_left _ _) (Nat.lt_of_lt_of_le hi (Nat.le_trans lz (by decide)))
      · rw [upd_same, edgesK_put (a := (TM.srt (a, b)).1) (b := (TM.srt (a, b)).2) (by rw [hk']; exact not_taken ndz hi)]
      · rw [List.map_append, hk', take_step hi]
        rfl
      · refine sqt_upd ?_ hd5 (fun _ z => by cases z) fun _ _ z => by cases z
        rcases List.mem_append.mp hk2 with h | h
        · exact Same.sqt s5 (ht k h)
        · rw [List.mem_singleton.mp h]
          exact SqT.of upd_same
      · rcases List.mem_append.mp hk2 with h | h
        · exact he k h
        · rw [List.mem_singleton.mp h]
          exact ⟨_, hk, rfl, rfl⟩
    rintro H4 ⟨s4, ks', hd, hk', ht, he⟩
    rw [List.length_map, List.take_length] at hk'
    have s34 := (same_upd np2).trans s4
    have ob4 := s34 _ _ ob3
    have d4 := s34 _ _ d3
    have hD2x : D2 ≠ x := ne_of hd ob4 (by intro z; cases z)
    have hDD : D ≠ D2 := by
      intro z
      subst z
      rw [upd_ne (ne_of_none d3 np2)] at hD2
      rw [hD2] at d3
      cases d3
    refine ⟨_, rfl, x, C, dx, _, rfl, ob4, T.cl, T.nE, (by show 1 < 1000; decide), ?_⟩
    refine q _ (fun a o n h => ?_) ⟨dx, D, D2, ys, ks', ⟨upd_same, .inl ?_, ?_, (fun k hk => sqt_upd (ht k hk) ob4 (fun _ z => by cases z) fun _ _ z => by cases z), pm.trans rx.pn, ?_, rx.gd, hDD⟩, ?_⟩
    · rw [upd_ne n]
      exact s34 _ _ (kp3 a o n h)
    · rw [upd_ne hDx]
      exact d4
    · rw [upd_ne hD2x]
      exact hd
    · exact (raw_perm rx.nde (by rw [hk']; exact pm2) he).trans rx.pe
    · rw [upd_ne hDx]
      exact d4
end
end TK
end
section
set_option Elab.async false
set_option linter.all false
set_option autoImplicit false
set_option maxRecDepth 100000
set_option maxHeartbeats 4000000
/-! Web.__eq__, Web.cut. -/
namespace TK
open PySem PySem.Spec PyProof.Rows L2

section
variable {K : PySem.W.Frag} {C : Addr} {H : Hp} {x dx m e : Addr} {ns : List Int} {ks : List (Str × Addr × Int × Int)} {W : Wb}
theorem WebX.lockE (w : WebX K C H x dx m e ns ks W) (od : Obj) (hm : H m = some (.dK (marksK ns W.M))) :
    (upd H e (.frz od (.dK (edgesK ks)))) x = some (.ins C dx (wfl m e)) ∧ (upd H e (.frz od (.dK (edgesK ks)))) m = some (.dK (marksK ns W.M)) ∧ (upd H e (.frz od (.dK (edgesK ks)))) e = some (.frz od (.dK (edgesK ks))) ∧
      ∀ k ∈ ks, SqT K (upd H e (.frz od (.dK (edgesK ks)))) k.2.1 [.int k.2.2.1, .int k.2.2.2] :=
  ⟨ne_lock w.ob (ne_of w.ob w.ed (by intro z; cases z)), ne_lock hm w.me, upd_same, fun k hk => sqt_upd (w.tu k hk) w.ed (fun _ z => by cases z) fun _ _ z => by cases z⟩
theorem WebX.lt (w : WebX K C H x dx m e ns ks W) {k : Str × Addr × Int × Int} (h : k ∈ ks) : k.2.2.1 < k.2.2.2 := (w.gd.ok.en _ (w.back h)).2.2
theorem WebX.srt (w : WebX K C H x dx m e ns ks W) {k : Str × Addr × Int × Int} (h : k ∈ ks) : TM.srt k.2.2 = k.2.2 := TM.srt_le (a := k.2.2.1) (b := k.2.2.2) (Int.le_of_lt (w.lt h))
end

section
variable {P : Program} {w : World} {K : PySem.W.Frag} {mg : Str → Option Value} {base : Heap} {C : Addr}
/-! ### __eq__ -/
def RWeb (K : PySem.W.Frag) (C : Addr) : Addr → Addr → Hp → Prop := fun a b H => ∃ W W', WebAt K C H a W ∧ WebAt K C H b W' ∧ TM.Eqw W W'
theorem scEq : FnScope ["self", "other"] ["self", "other"] (C8.fnScope sEq) := C8.fnScope_by (by decide +kernel)
theorem fn_eq {f : Addr} {fd : FuncData} (T : Txt K mg C) (F : C8.Fun K "__eq__" "Web.__eq__" sEq f fd) : FnOk P w K mg base C8.CX0 2 f fd ["self", "other"] (spEq (RWeb K C)) := by
  refine C8.fn0 F scEq (fun vs H Q E h => ?_) (fun cdv A outer s H vs Q E hr h => ?_)
  · obtain ⟨a, b, rfl, _⟩ := h
    rfl
  · obtain ⟨a, b, rfl, ⟨W, W', wa, wb, eq⟩, q⟩ := h
    have hu := hu_of hr
    obtain ⟨dx, m, e, ns, ks, wx, hm⟩ := wa.ex
    obtain ⟨dx', m', e', ns', ks', wx', hm'⟩ := wb.ex
    refine ⟨_, pss_one (ps_ret (pe_and (pe_callB (C8.call_isC T.ins) (by rfl) T.isi (by decide +kernel) (pa_cons (pv 1) (pa_cons (pe_glob (v := .ref C) (by rfl) T.mgC rfl) pa_nil)))
      (pe_and (pe_cmpR (op_eq_dictA (Nat.lt_of_succ_lt hu)) (pe_fld (pv 0) rfl) (pe_fld (pv 1) rfl) (nomark _)) (pe_one (pe_cmpR (op_eqDT hr.units hr.in1.units) (pe_fld (pv 0) rfl) (pe_fld (pv 1) rfl) (nomark _)))))), ?_⟩
    refine ⟨_, rfl, b, dx', _, rfl, wx'.ob, _, rfl, iteT ?_⟩
    refine ⟨_, rfl, a, C, dx, _, _, rfl, wx.ob, T.cl, T.nM, wfl_m _ _, _, rfl, b, C, dx', _, _, rfl, wx'.ob, T.cl, T.nM, wfl_m _ _, m, m', _, _, rfl, rfl, hm, hm', ?_, fun p hp => ?_, _, rfl, iteT ?_⟩
    · rw [marksK_len, marksK_len, wx.pn.length_eq, wx'.pn.length_eq, eq.ns]
    · obtain ⟨n, hn, rfl⟩ := List.mem_map.mp hp
      have hW : n ∈ W.ns := wx.pn.mem_iff.mp hn
      refine ⟨?_, rfl⟩
      dsimp only
      rw [marks_val wx'.ndn (wx'.pn.mem_iff.mpr (eq.ns ▸ hW)), eq.M n hW]
    refine ⟨_, rfl, a, C, dx, _, _, rfl, wx.ob, T.cl, T.nE, wfl_e _ _, _, rfl, b, C, dx', _, _, rfl, wx'.ob, T.cl, T.nE, wfl_e _ _, e, e', _, _, rfl, rfl, wx.ed, wx'.ed, ?_, fun p hp => ?_, q _ fun _ _ h => h⟩
    · rw [edgesK_len, edgesK_len, ← List.length_map (f := fun k : Str × Addr × Int × Int => (k.1, k.2.2)), wx.pe.length_eq, eq.es, ← wx'.pe.length_eq, List.length_map]
    · obtain ⟨k, hk, rfl⟩ := List.mem_map.mp hp
      have hb := wx.back hk
      rw [eq.es] at hb
      obtain ⟨t, ht⟩ := wx'.edge hb
      exact ⟨_, edges_val wx'.nde ht, .inr ⟨k.2.1, t, [k.2.2.1, k.2.2.2], rfl, rfl, wx.tu k hk, wx'.tu _ ht⟩⟩

/-! ### cut -/
theorem cut_good {W : Wb} (g : Good W) (x : Str) : Good (TM.cut x W) := ⟨TM.cut_ok g.ok x, fun e he => g.nm e (List.mem_filter.mp he).1⟩
def spCut (K : PySem.W.Frag) (C : Addr) : Sp := fun vs H Q _ => ∃ (x : Addr) (nm : Str) (k g : Int) (W : Wb), vs = [.ref x, .str nm] ∧ WebAt K C H x W ∧ (nm, k, g) ∈ W.es ∧
  ∀ y H', Same H H' → WebAt K C H' y (TM.cut nm W) → Q (.ref y) H'
theorem scCut : FnScope ["self", "edge", "name", "pair"] ["self", "edge"] (C8.fnScope sCut) := C8.fnScope_by (by decide +kernel)
theorem met_cut {f : Addr} {fd : FuncData} (T : Txt K mg C) (F : C8.Fun K "cut" "Web.cut" sCut f fd) (b : Binds K fd ["self", "edge"] []) (me : Meth K C "cut" f) (cE : C8.Met P w K mg base 1 C "ends" (spEnds K C) []) (cI : C8.Mak P w K mg base 3 "Web" C (spInit K C) []) : C8.Met P w K mg base 5 C "cut" (spCut K C) [] := by
  refine C8.met0 T.cl me F b scCut (fun vs H Q E h => ?_) (fun cdv A outer s H vs Q E hr h => ?_)
  · obtain ⟨x, nm, k, g, W, rfl, _⟩ := h
    rfl
  · obtain ⟨x, nm, k, g, W, rfl, wb, hn, q⟩ := h
    have hu := hu_of hr
    have nd := scCut.nd
    obtain ⟨dx, m, e, ns, ks, wx, hm⟩ := id wb.ex
    have ndw := wx.nde
    refine ⟨_, pss_cons (ps_expr (C8.pe_mt cE hr (by decide) (pv 0) (pa_cons (pv 1) pa_nil)))
      (pss_one (ps_ret (C8.pe_mk cI hr (by decide) (by rfl) (pa_cons (pe_fld (pv 0) rfl) (pa_cons (pe_lock (pe_dc (own := [("name", 2), ("pair", 3)]) (g := gTup K 2 (gCons (gName 2) (gCons (gName 3) gNil))) (tk := tVar 2) (tv := tVar 3) (by rfl) nd (pi_items (pe_fld (pv 0) rfl)) (blkOk_by (own := [("name", 2), ("pair", 3)]) (N := ["self", "edge", "name", "pair"]) (sc := C8.fnScope sCut) (by decide +kernel))
        (fun _ _ _ _ _ => pg_tup (by rfl) (pgs_cons (pg_name (i := 2) nd rfl (.inl rfl)) (pgs_cons (pg_name (i := 3) nd rfl (.inl rfl)) pgs_nil)))
        (fun _ _ _ _ _ => pts_one (pt_cmpR op_ne (pv 2) (pv 1) (nomark _)))
        (fun _ _ _ _ _ => pv 2) (fun _ _ _ _ _ => pv 3))) pa_nil))))), ?_⟩
    refine ⟨_, rfl, x, dx, _, rfl, wx.ob, wfl_no _ _ (by decide +kernel) (by decide +kernel), _, rfl, x, nm, k, g, W, rfl, wb.r, hn, fun t ht => ?_⟩
    refine ⟨_, rfl, x, C, dx, _, _, rfl, wx.ob, T.cl, T.nM, wfl_m _ _, e, _, wx.ed, trivial, fun od => ?_⟩
    obtain ⟨ob1, hm1, at1, tu1⟩ := wx.lockE od hm
    have out1 : ∀ {H'}, Same (upd H e (.frz od (.dK (edgesK ks)))) H' → Same H (upd H' e (.dK (edgesK ks))) := fun {H'} s1 => same_out wx.ed s1
    generalize upd H e (.frz od (.dK (edgesK ks))) = H1 at ob1 hm1 tu1 at1 out1 ⊢
    refine ⟨_, rfl, x, C, dx, _, _, rfl, ob1, T.cl, T.nE, wfl_e _ _, e, od, _, rfl, at1, fun D nD => ?_⟩
    refine dc_it walk_items (fun i H' => Same H1 H' ∧ H' D = some (.dK (edgesK ((ks.take i).filter fun k => decide (k.1 ≠ nm))))) ⟨same_upd nD, upd_same⟩ (fun i H' _ ⟨s1, _⟩ => s1 _ _ at1) ?_ ?_
    · rintro i v H' H2 hi ⟨s1, hD⟩ ⟨t, y, z, rfl, nt, rfl, hy, hz⟩
      have hi : i < ks.length := by rw [edgesK_len] at hi; exact hi
      change Option.map _ (edgesK ks)[i]? = some y at hy
      change Option.map _ (edgesK ks)[i]? = some z at hz
      rw [edges_at hi] at hy hz
      obtain rfl : V.str ks[i].1 = y := Option.some.inj hy
      obtain rfl : V.ref ks[i].2.1 = z := Option.some.inj hz
      have s2 : Same H1 (upd H' t (.tup [.str ks[i].1, .ref ks[i].2.1])) := Same.updr s1 (s1.free nt)
      have hD2 : (upd H' t (.tup [.str ks[i].1, .ref ks[i].2.1])) D = _ := (upd_ne (ne_of_none hD nt)).trans hD
      refine ⟨t, _, rfl, SqT.of upd_same, rfl, _, _, rfl, _, _, rfl, rfl, rfl, ?_⟩
      refine ⟨_, rfl, _, rfl, rfl, _, rfl, ?_⟩
      have tk := take_step hi
      by_cases c : ks[i].1 = nm
      · have c1 : decide (V.str ks[i].1 = V.str nm) = true := decide_eq_true (congrArg V.str c)
        have c2 : decide (ks[i].1 ≠ nm) = false := decide_eq_false fun z => z c
        show if (!decide (V.str ks[i].1 = V.str nm)) = true then _ else _
        rw [c1]
        refine iteF ⟨s2, ?_⟩
        rw [tk, List.filter_append, List.filter_cons_of_neg (by rw [c2]; decide), List.filter_nil, List.append_nil]
        exact hD2
      · have c1 : decide (V.str ks[i].1 = V.str nm) = false := decide_eq_false fun z => c (V.str.inj z)
        have c2 : decide (ks[i].1 ≠ nm) = true := decide_eq_true c
        show if (!decide (V.str ks[i].1 = V.str nm)) = true then _ else _
        rw [c1]
        refine iteT ⟨_, rfl, _, rfl, _, Sum.inr ks[i].1, rfl, hD2, ?_, Same.updr s2 nD, ?_⟩
        · rw [edgesK_len]
          refine Nat.lt_of_le_of_lt (List.length_filter_le _ _) (Nat.lt_of_le_of_lt (List.length_take_le _ _) ?_)
          exact small1000 (by have := ks_len wx; omega)
        · rw [upd_same, tk, List.filter_append, List.filter_cons_of_pos (p := fun k : Str × Addr × Int × Int => decide (k.1 ≠ nm)) c2]
          refine congrArg (fun z => some (HO.dK z)) ?_
          refine edgesK_put (a := ks[i].2.2.1) (b := ks[i].2.2.2) fun hz => ?_
          obtain ⟨k', hk', e'⟩ := List.mem_map.mp hz
          have ht := (List.mem_filter.mp hk').1
          refine not_taken ndw (i := i) (by rw [List.length_map]; exact hi) ?_
          rw [← List.map_take, List.getElem_map]
          exact List.mem_map.mpr ⟨k', ht, e'⟩
    · rintro H' ⟨s1, hD⟩
      rw [edgesK_len, List.take_length] at hD
      have nDe : D ≠ e := (ne_of_none at1 nD).symm
      refine ⟨s1 _ _ at1, ?_⟩
      have so := out1 s1
      have w2 := wx.same so
      have raw : RawAt K (upd H' e (.dK (edgesK ks))) m D (TM.cut nm W) := by
        refine ⟨ns, ks.filter fun k => decide (k.1 ≠ nm), so _ _ hm, by rw [upd_ne nDe]; exact hD, fun k hk => w2.tu k (List.mem_filter.mp hk).1, wx.pn, ?_, cut_good wx.gd nm⟩
        have e1 : (ks.filter fun k => decide (k.1 ≠ nm)).map (fun k => (k.1, TM.srt k.2.2)) = (ks.map fun k => (k.1, k.2.2)).filter fun e => decide (e.1 ≠ nm) := by
          rw [List.filter_map]
          refine List.map_congr_left fun k hk => ?_
          rw [wx.srt (List.mem_filter.mp hk).1]
        rw [e1]
        exact wx.pe.filter _
      refine fun x' dx' nx ndx nex => ?_
      have s3 : Same (upd H' e (.dK (edgesK ks))) (upd (upd (upd H' e (.dK (edgesK ks))) dx' (.own x')) x' (.ins C dx' [])) := Same.updr (same_upd ndx) nx
      refine ⟨x', dx', m, D, TM.cut nm W, rfl, upd_same, raw.same s3, fun H3 kp wb' => ⟨rfl, q x' H3 (fun a o h => ?_) wb'⟩⟩
      exact kp a o (ne_of_none (so _ _ h) nx) (s3 _ _ (so _ _ h))
end
end TK
end
section
set_option Elab.async false
set_option linter.all false
set_option autoImplicit false
set_option maxRecDepth 100000
set_option maxHeartbeats 4000000
/-! Web.contracted. -/
namespace TK
open PySem PySem.Spec PyProof.Rows L2

section
variable {X : Cx}
theorem sw_trueD {kx vx : Expr} {gs : List Comprehension} {scope : Scope} {pos py : Pos} {y : Str} {l : Nat} {env : Env} (hk : env.scope.kind = .function) (hy : env.scope.names.lookup y = some .local) (hl : (py.line == pos.line) = true)
    (ha : (scope.names.any fun (n, k) => n == y && (k == .local || k == .cell)) = false) : swapsWith (.DictComp kx vx gs scope pos) (some (.Name y py)) l env = pure true := by
  have ky : env.kindOf y = some .local := hy
  have hb : env.blockKind = .function := by unfold Env.blockKind; rw [hk]; rfl
  unfold swapsWith
  simp only [hb, ky, ha, Expr.pos, hl]
  rfl
/-- name = {..} on one line, the name a local -/
theorem ps_setDc {i : Nat} {y : Str} {py : Pos} {kx vx tg iter : Expr} {ifs : List Expr} {scope : Scope} {own : List (Str × Nat)} {pos spos : Pos} {wi : TI} {g : TG} {tt : TT} {tk tv : TE} (hc : X.calm = true) (hN : X.N.Nodup) (hy : X.N[i]? = some y) (hyl : X.env.scope.names.lookup y = some .local)
    (hsw : swapsWith (.DictComp kx vx [⟨tg, iter, ifs, 0⟩] scope pos) (some (.Name y py)) spos.line X.env = pure true) (hi : PI X tg iter wi) (ok : BlkOk X.N X.env.scope scope own)
    (hg : ∀ (s : Shared) (H : Hp) (C : Addr) (cl : List (Str × Addr)) (fp : List Addr), PG (X.blk s H scope (compEnvC scope cl C X.env) fp) tg g) (ht : ∀ (s : Shared) (H : Hp) (C : Addr) (cl : List (Str × Addr)) (fp : List Addr), PTs (X.blk s H scope (compEnvC scope cl C X.env) fp) ifs tt)
    (hk : ∀ (s : Shared) (H : Hp) (C : Addr) (cl : List (Str × Addr)) (fp : List Addr), PE (X.blk s H scope (compEnvC scope cl C X.env) fp) kx tk)
    (he : ∀ (s : Shared) (H : Hp) (C : Addr) (cl : List (Str × Addr)) (fp : List Addr), PE (X.blk s H scope (compEnvC scope cl C X.env) fp) vx tv) (hs : ∀ x, foldedSetIterable iter X.env x = pure x := by intro _; rfl) :
    PS X (.Assign [.Name y py] (.DictComp kx vx [⟨tg, iter, ifs, 0⟩] scope pos) spos) (tAsg (tDc wi g tt tk tv (own.map (·.2))) (gName i)) := by
  refine ⟨fun pins s σ H D I h => ?_⟩
  rw [exec_Assign_Name_used _ _ _ _ hsw]
  refine wpAny_bind (wpAny_standAt (wpAny_bind ?_))
  show wpAny _ X.A (do let _ ← comprehension (.DictComp kx vx [⟨tg, iter, ifs, 0⟩] scope pos) scope X.env (firstIterPos [⟨tg, iter, ifs, 0⟩] pos) newDict false (eval iter X.env) (some (assign (.Name y py) X.env))) _ _ s
  have h : tDc wi g tt tk tv (own.map (·.2)) σ H (fun x H1 => gName i x σ H1 D.nx) := h
  refine wpAny_bind (thn (dc_core (Qf := fun _ s' => SP X pins D .next s') hc hN I hi ok hg ht hk he hs h fun L C s' m H' I' q hn f => ?_) fun _ s' hq => wpAny_pure (wpAny_pure hq))
  show wpAny _ _ (assign (.Name y py) X.env (.ref L)) _ _ _
  refine wpAny_assign_Name (store_ok2 (v := V.ref L) I' hN hy (.inl hyl) rfl (fun s2 I2 ⟨a, sb, ha⟩ => ?_) (.inr hyl))
  obtain ⟨f0, f1, f2, f3, f4, f5⟩ := f
  have haC : C ≠ a := by
    rcases ha with z | z
    · rw [z]; exact f1
    · exact fun e => f4 y a z e.symm
  refine ⟨m, hn.sameBut sb haC, fun h3 sb3 => ?_⟩
  exact ⟨_, H', I2.turned (t' := s2.toks) (fun b o hb e => (sb3.2 b hb).trans e) f0 f1 f3 f4 f5, q⟩
end

theorem marksK_upd {ns : List Int} {M : Int → Int} {k z : Int} (h : k ∈ ns) : putK (marksK ns M) (Sum.inl k : Key) (V.int z) = marksK ns fun n => if n = k then z else M n := by
  unfold putK
  have ha : ((marksK ns M).any fun kv => decide (kv.1 = (Sum.inl k : Key))) = true := List.any_eq_true.mpr ⟨_, List.mem_map.mpr ⟨k, h, rfl⟩, decide_eq_true rfl⟩
  rw [if_pos ha]
  unfold marksK
  rw [List.map_map]
  refine List.map_congr_left fun n _ => ?_
  show (if (Sum.inl n : Key) = Sum.inl k then ((Sum.inl n : Key), V.int z) else ((Sum.inl n : Key), V.int (M n))) = ((Sum.inl n : Key), V.int (if n = k then z else M n))
  by_cases c : n = k
  · rw [if_pos (congrArg _ c), if_pos c]
  · rw [if_neg (fun e => c (Sum.inl.inj e)), if_neg c]
theorem dec_int (a b : Int) : decide (V.int a = V.int b) = decide (a = b) := by
  by_cases c : a = b
  · rw [c]; simp
  · rw [decide_eq_false c, decide_eq_false fun z => c (V.int.inj z)]
theorem t_ren {σ : L2.St} {H : Hp} {Q : VK} {k g a : Int} {i j : Nat} (hi : σ[i]? = some (some (.int k))) (hj : σ[j]? = some (some (.int a))) (h : Q (.int (TM.ren k g a)) H) :
    if decide (V.int a = V.int g) = true then tVar i σ H Q else tVar j σ H Q := by
  rw [dec_int]
  unfold TM.ren at h
  by_cases c : a = g
  · rw [if_pos c] at h
    rw [if_pos (decide_eq_true c)]
    exact ⟨_, hi, h⟩
  · rw [if_neg c] at h
    rw [if_neg (by simpa using c)]
    exact ⟨_, hj, h⟩
theorem con_good {W : Wb} (g : Good W) {k h : Int} (hk : k ∈ W.ns) (hh : h ∈ W.ns) (n : k ≠ h) : Good (TM.con k h W) := ⟨TM.con_ok g.ok hk hh n, fun e he => by
  obtain ⟨f, hf, e'⟩ := List.mem_filterMap.mp he
  obtain ⟨_, rfl⟩ := TM.cstep_some e'
  exact g.nm f hf⟩

section
variable {P : Program} {w : World} {K : PySem.W.Frag} {mg : Str → Option Value} {base : Heap} {C : Addr}
theorem lock_free {H : Hp} {d c : Addr} {o : HO} (h : (upd H d o) c = none) : H c = none := by
  by_cases hc : c = d
  · subst hc
    rw [upd_same] at h
    cases h
  · rwa [upd_ne hc] at h
theorem same_cong {H H' : Hp} {d : Addr} {o : HO} (s : Same H H') : Same (upd H d o) (upd H' d o) := fun a u h => by
  by_cases hc : a = d
  · subst hc
    rw [upd_same] at h ⊢
    exact h
  · rw [upd_ne hc] at h ⊢
    exact s _ _ h
def spCon (K : PySem.W.Frag) (C : Addr) : Sp := fun vs H Q _ => ∃ (x : Addr) (nm : Str) (k g : Int) (W : Wb), vs = [.ref x, .str nm] ∧ WebAt K C H x W ∧ (nm, k, g) ∈ W.es ∧
  ∀ y H', Same H H' → WebAt K C H' y (TM.con k g W) → Q (.ref y) H'
abbrev nCon : List Str := ["self", "edge", "keep", "gone", "marks", "edges", "name", "one", "other", "pair", "node", "mark"]
theorem scCon : FnScope nCon ["self", "edge"] (C8.fnScope sCon) := C8.fnScope_by (by decide +kernel)
theorem met_con {f : Addr} {fd : FuncData} (T : Txt K mg C) (F : C8.Fun K "contracted" "Web.contracted" sCon f fd) (b : Binds K fd ["self", "edge"] []) (me : Meth K C "contracted" f) (cE : C8.Met P w K mg base 1 C "ends" (spEnds K C) []) (cI : C8.Mak P w K mg base 3 "Web" C (spInit K C) []) : C8.Met P w K mg base 5 C "contracted" (spCon K C) [] := by
  refine C8.met0 T.cl me F b scCon (fun vs H Q E h => ?_) (fun cdv A outer s H vs Q E hr h => ?_)
  · obtain ⟨x, nm, k, g, W, rfl, _⟩ := h
    rfl
  · obtain ⟨x, nm, k, g, W, rfl, wb, hn, q⟩ := h
    have hu := hu_of hr
    have nd := scCon.nd
    obtain ⟨dx, m, e, ns, ks, wx, hm⟩ := id wb.ex
    have ndw := wx.nde
    refine ⟨_, pss_cons (ps_asg (C8.pe_mt cE hr (by decide) (pv 0) (pa_cons (pv 1) pa_nil)) (pg_tup (by rfl) (pgs_cons (pg_name (i := 2) nd rfl (.inl rfl)) (pgs_cons (pg_name (i := 3) nd rfl (.inr rfl)) pgs_nil))))
      (pss_cons (ps_lock (ps_setDc (i := 4) (own := [("node", 10), ("mark", 11)]) (g := gTup K 2 (gCons (gName 10) (gCons (gName 11) gNil))) (tk := tVar 10) (tv := tVar 11) (by rfl) nd rfl rfl (sw_trueD rfl rfl rfl (by decide +kernel)) (pi_items (pe_fld (pv 0) rfl)) (blkOk_by (own := [("node", 10), ("mark", 11)]) (N := nCon) (sc := C8.fnScope sCon) (by decide +kernel))
        (fun _ _ _ _ _ => pg_tup (by rfl) (pgs_cons (pg_name (i := 10) nd rfl (.inl rfl)) (pgs_cons (pg_name (i := 11) nd rfl (.inl rfl)) pgs_nil)))
        (fun _ _ _ _ _ => pts_one (pt_cmpR op_ne (pv 10) (pv 3) (nomark _)))
        (fun _ _ _ _ _ => pv 10) (fun _ _ _ _ _ => pv 11)))
      (pss_cons (ps_dput hu (pv 4) (pv 2) (pe_op op_mod (pe_op op_add (pe_dget hu (pe_fld (pv 0) rfl) (pv 2) (fun _ _ => rfl)) (pe_dget hu (pe_fld (pv 0) rfl) (pv 3) (fun _ _ => rfl))) pe_int) rfl)
      (pss_cons (ps_set (i := 5) nd rfl (.inl rfl) pe_dnewK)
      (pss_cons (ps_lock (ps_for PassesOwn.never rfl (pi_items (pe_fld (pv 0) rfl)) (pg_tup (by rfl) (pgs_cons (pg_name (i := 6) nd rfl (.inl rfl)) (pgs_cons (pg_tup (by rfl) (pgs_cons (pg_name (i := 7) nd rfl (.inl rfl)) (pgs_cons (pg_name (i := 8) nd rfl (.inl rfl)) pgs_nil))) pgs_nil)))
        (pss_cons (ps_set (i := 9) nd rfl (.inl rfl) (pe_tup (pa_cons (pe_ifExp (pt_cmpR op_eq (pv 7) (pv 3) (nomark _)) (pv 2) (pv 7)) (pa_cons (pe_ifExp (pt_cmpR op_eq (pv 8) (pv 3) (nomark _)) (pv 2) (pv 8)) pa_nil))))
        (pss_one (ps_if (pt_cmpR op_ne (pe_ix ix_tup (pv 9) pe_int (fun _ _ => rfl)) (pe_ix ix_tup (pv 9) pe_int (fun _ _ => rfl)) (nomark _)) (pss_one (ps_dput hu (pv 5) (pv 6) (pv 9) rfl)) pss_nil)))))
      (pss_one (ps_ret (C8.pe_mk cI hr (by decide) (by rfl) (pa_cons (pv 4) (pa_cons (pv 5) pa_nil))))))))), ?_⟩
    have hkn : k ∈ W.ns := (wx.gd.ok.en _ hn).1
    have hgn : g ∈ W.ns := (wx.gd.ok.en _ hn).2.1
    have hkg : k ≠ g := Int.ne_of_lt (wx.gd.ok.en _ hn).2.2
    have lN : ns.length ≤ 12 := by rw [wx.pn.length_eq]; exact ns_len wx.gd
    have lE : ks.length ≤ 24 := ks_len wx
    refine ⟨_, rfl, x, dx, _, rfl, wx.ob, wfl_no _ _ (by decide +kernel) (by decide +kernel), _, rfl, x, nm, k, g, W, rfl, wb.r, hn, fun t ht => ?_⟩
    refine ⟨t, _, rfl, ht, rfl, _, _, rfl, _, _, rfl, rfl, ?_⟩
    -- marks
    refine ⟨m, _, hm, trivial, fun od => ?_⟩
    have w1 := wx.lockM hm od
    have at1 : (upd H m (.frz od (.dK (marksK ns W.M)))) m = some (.frz od (.dK (marksK ns W.M))) := upd_same
    have out1 : ∀ {H'}, Same (upd H m (.frz od (.dK (marksK ns W.M)))) H' → Same H (upd H' m (.dK (marksK ns W.M))) := fun {H'} s1 => same_out hm s1
    have in1 : ∀ {c}, (upd H m (.frz od (.dK (marksK ns W.M)))) c = none → H c = none := fun {c} h => lock_free h
    generalize upd H m (.frz od (.dK (marksK ns W.M))) = H1 at w1 at1 out1 in1 ⊢
    refine ⟨_, rfl, x, C, dx, _, _, rfl, w1.ob, T.cl, T.nM, wfl_m _ _, m, od, _, rfl, at1, fun D nD => ?_⟩
    refine dc_it walk_items (fun i H' => Same H1 H' ∧ H' D = some (.dK (marksK ((ns.take i).filter fun n => decide (n ≠ g)) W.M))) ⟨same_upd nD, upd_same⟩ (fun i H' _ ⟨s1, _⟩ => s1 _ _ at1) ?_ ?_
    · rintro i v H' H2 hi ⟨s1, hD⟩ ⟨t, y, z, rfl, nt, rfl, hy, hz⟩
      have hi : i < ns.length := by rw [marksK_len] at hi; exact hi
      change Option.map _ (marksK ns W.M)[i]? = some y at hy
      change Option.map _ (marksK ns W.M)[i]? = some z at hz
      rw [marks_at hi] at hy hz
      obtain rfl : V.int ns[i] = y := Option.some.inj hy
      obtain rfl : V.int (W.M ns[i]) = z := Option.some.inj hz
      have s2 : Same H1 (upd H' t (.tup [.int ns[i], .int (W.M ns[i])])) := Same.updr s1 (s1.free nt)
      have hD2 : (upd H' t (.tup [.int ns[i], .int (W.M ns[i])])) D = _ := (upd_ne (ne_of_none hD nt)).trans hD
      refine ⟨t, _, rfl, SqT.of upd_same, rfl, _, _, rfl, _, _, rfl, rfl, rfl, ?_⟩
      refine ⟨_, rfl, _, rfl, rfl, _, rfl, ?_⟩
      have tk := take_step hi
      show if (!decide (V.int ns[i] = V.int g)) = true then _ else _
      rw [dec_int]
      by_cases c : ns[i] = g
      · have c2 : decide (ns[i] ≠ g) = false := decide_eq_false fun z => z c
        rw [decide_eq_true c]
        refine iteF ⟨s2, ?_⟩
        rw [tk, List.filter_append, List.filter_cons_of_neg (by rw [c2]; decide), List.filter_nil, List.append_nil]
        exact hD2
      · have c2 : decide (ns[i] ≠ g) = true := decide_eq_true c
        rw [decide_eq_false c]
        refine iteT ⟨_, rfl, _, rfl, _, Sum.inl ns[i], rfl, hD2, ?_, Same.updr s2 nD, ?_⟩
        · rw [marksK_len]
          refine Nat.lt_of_le_of_lt (List.length_filter_le _ _) (Nat.lt_of_le_of_lt (List.length_take_le _ _) ?_)
          exact small1000 (by omega)
        · rw [upd_same, tk, List.filter_append, List.filter_cons_of_pos (p := fun n : Int => decide (n ≠ g)) c2]
          refine congrArg (fun z => some (HO.dK z)) ?_
          exact marksK_put (fun hz => not_taken wx.ndn hi (List.mem_filter.mp hz).1) rfl
    rintro H2 ⟨s2, hD⟩
    rw [marksK_len, List.take_length] at hD
    refine ⟨s2 _ _ at1, ?_⟩
    have nDm : D ≠ m := (ne_of_none at1 nD).symm
    have so2 := out1 s2
    have hD3 : (upd H2 m (.dK (marksK ns W.M))) D = some (.dK (marksK (ns.filter fun n => decide (n ≠ g)) W.M)) := by rw [upd_ne nDm]; exact hD
    have nDH : H D = none := in1 nD
    generalize upd H2 m (.dK (marksK ns W.M)) = H3 at so2 hD3 ⊢
    -- marks[keep]
    have w3 := wx.same so2
    have hm3 := so2 _ _ hm
    have ek := marks_val (M := W.M) wx.ndn (wx.pn.mem_iff.mpr hkn)
    have eg := marks_val (M := W.M) wx.ndn (wx.pn.mem_iff.mpr hgn)
    refine ⟨_, rfl, x, C, dx, _, _, rfl, w3.ob, T.cl, T.nM, wfl_m _ _, _, rfl, m, _, rfl, .inl ⟨_, Sum.inl k, .inl hm3, rfl, ek.symm⟩, ?_⟩
    refine ⟨_, rfl, x, C, dx, _, _, rfl, w3.ob, T.cl, T.nM, wfl_m _ _, _, rfl, m, _, rfl, .inl ⟨_, Sum.inl g, .inl hm3, rfl, eg.symm⟩, ?_⟩
    refine ⟨_, _, rfl, rfl, _, _, rfl, rfl, (by show (0 : Int) < 2; decide), _, rfl, _, rfl, D, _, rfl, DPut.k (k := Sum.inl k) hD3 ?_, ?_⟩
    · rw [marksK_len]
      have l1 : ns.length < 1000 := by omega
      exact small1000 (Nat.le_trans (List.length_filter_le _ _) (by omega))
    have hk2 : k ∈ ns.filter fun n => decide (n ≠ g) := List.mem_filter.mpr ⟨wx.pn.mem_iff.mpr hkn, decide_eq_true hkg⟩
    have so4 : Same H (upd H3 D (.dK (putK (marksK (ns.filter fun n => decide (n ≠ g)) W.M) (Sum.inl k : Key) (.int ((W.M k + W.M g) % 2))))) := Same.updr so2 nDH
    have hD4 : (upd H3 D (.dK (putK (marksK (ns.filter fun n => decide (n ≠ g)) W.M) (Sum.inl k : Key) (.int ((W.M k + W.M g) % 2))))) D = some (.dK (marksK (ns.filter fun n => decide (n ≠ g)) (TM.con k g W).M)) := by
      rw [upd_same, marksK_upd hk2]
      rfl
    generalize upd H3 D (.dK (putK (marksK (ns.filter fun n => decide (n ≠ g)) W.M) (Sum.inl k : Key) (.int ((W.M k + W.M g) % 2)))) = H4 at so4 hD4 ⊢
    -- edges
    refine fun E nE => ?_
    have w4 := wx.same so4
    have hm4 := so4 _ _ hm
    have he5 := (same_upd (o := .dK []) nE) _ _ w4.ed
    refine ⟨e, _, he5, trivial, fun od => ?_⟩
    obtain ⟨ob6, hm6, at6, tu6⟩ := w4.lockE od hm4
    have out6 : ∀ {H'}, Same (upd H4 e (.frz od (.dK (edgesK ks)))) H' → Same H4 (upd H' e (.dK (edgesK ks))) := fun {H'} s1 => same_out w4.ed s1
    have nEe : E ≠ e := (ne_of_none w4.ed nE).symm
    have hD6 : (upd H4 e (.frz od (.dK (edgesK ks)))) D = some (.dK (marksK (ns.filter fun n => decide (n ≠ g)) (TM.con k g W).M)) := by
      rw [upd_ne]
      · exact hD4
      · intro z
        rw [z, wx.ed] at nDH
        cases nDH
    have st6 : Same (upd H4 e (.frz od (.dK (edgesK ks)))) (upd (upd H4 E (.dK [])) e (.frz od (.dK (edgesK ks)))) := same_cong (same_upd nE)
    have nE6 : (upd H4 e (.frz od (.dK (edgesK ks)))) E = none := by rw [upd_ne nEe]; exact nE
    have hE6 : (upd (upd H4 E (.dK [])) e (.frz od (.dK (edgesK ks)))) E = some (.dK (edgesK [])) := by rw [upd_ne nEe, upd_same]; rfl
    generalize upd (upd H4 E (.dK [])) e (.frz od (.dK (edgesK ks))) = H5 at st6 hE6 ⊢
    generalize upd H4 e (.frz od (.dK (edgesK ks))) = H6 at ob6 hm6 at6 tu6 out6 hD6 st6 nE6
    refine ⟨_, rfl, x, C, dx, _, _, rfl, st6 _ _ ob6, T.cl, T.nE, wfl_e _ _, e, od, _, rfl, st6 _ _ at6, ?_⟩
    refine for_it walk_items (fun i σ H' => ∃ v6 v7 v8 v9, σ = [some (.ref x), some (.str nm), some (.int k), some (.int g), some (.ref D), some (.ref E), v6, v7, v8, v9, none, none] ∧ Same H6 H' ∧ ∃ ks' : List (Str × Addr × Int × Int), H' E = some (.dK (edgesK ks')) ∧ (∀ q ∈ ks', SqT K H' q.2.1 [.int q.2.2.1, .int q.2.2.2]) ∧ ks'.length ≤ i ∧
        ks'.map (fun q => (q.1, TM.srt q.2.2)) = ((ks.take i).map fun q => (q.1, q.2.2)).filterMap (TM.cstep k g))
      ⟨none, none, none, none, rfl, st6, [], hE6, (fun _ h => by cases h), Nat.le_refl _, rfl⟩ (fun i σ H' _ ⟨_, _, _, _, _, s1, _⟩ => s1 _ _ at6) ?_ ?_
    · rintro i v σ H' H2 hi ⟨v6, v7, v8, v9, rfl, s1, ks', hE, hT, hl, hks⟩ ⟨t, y, z, rfl, nt, rfl, hy, hz⟩
      have hi : i < ks.length := by rw [edgesK_len] at hi; exact hi
      change Option.map _ (edgesK ks)[i]? = some y at hy
      change Option.map _ (edgesK ks)[i]? = some z at hz
      rw [edges_at hi] at hy hz
      obtain rfl : V.str ks[i].1 = y := Option.some.inj hy
      obtain rfl : V.ref ks[i].2.1 = z := Option.some.inj hz
      have s2 : Same H' (upd H' t (.tup [.str ks[i].1, .ref ks[i].2.1])) := same_upd nt
      refine ⟨t, _, rfl, SqT.of upd_same, rfl, _, _, rfl, _, _, rfl, ks[i].2.1, _, rfl, Same.sqt (s1.trans s2) (tu6 _ (List.getElem_mem hi)), rfl, _, _, rfl, _, _, rfl, rfl, rfl, ?_⟩
      generalize upd H' t (.tup [.str ks[i].1, .ref ks[i].2.1]) = H7 at s2 ⊢
      refine ⟨_, rfl, _, rfl, rfl, _, rfl, t_ren rfl rfl ?_⟩
      refine ⟨_, rfl, _, rfl, rfl, _, rfl, t_ren rfl rfl ?_⟩
      refine ⟨by show 2 ≤ sizeLine; decide, fun t2 nt2 => ?_⟩
      have s3 : Same H' (upd H7 t2 (.tup [.int (TM.ren k g ks[i].2.2.1), .int (TM.ren k g ks[i].2.2.2)])) := s2.trans (same_upd nt2)
      have ht2 : SqT K (upd H7 t2 (.tup [.int (TM.ren k g ks[i].2.2.1), .int (TM.ren k g ks[i].2.2.2)])) t2 [.int (TM.ren k g ks[i].2.2.1), .int (TM.ren k g ks[i].2.2.2)] := SqT.of upd_same
      generalize upd H7 t2 (.tup [.int (TM.ren k g ks[i].2.2.1), .int (TM.ren k g ks[i].2.2.2)]) = H8 at s3 ht2 ⊢
      refine ⟨_, rfl, t2, _, _, _, rfl, rfl, ht2, rfl, _, rfl, t2, _, _, _, rfl, rfl, ht2, rfl, rfl, _, rfl, ?_⟩
      show if (!decide (V.int (TM.ren k g ks[i].2.2.1) = V.int (TM.ren k g ks[i].2.2.2))) = true then _ else _
      rw [dec_int]
      have tk := take_step hi
      have hE8 := s3 _ _ hE
      by_cases c : TM.ren k g ks[i].2.2.1 = TM.ren k g ks[i].2.2.2
      · rw [decide_eq_true c]
        refine iteF ⟨_, _, _, _, rfl, s1.trans s3, ks', hE8, fun q hq => Same.sqt s3 (hT q hq), Nat.le_succ_of_le hl, ?_⟩
        rw [hks, tk, List.map_append, List.filterMap_append]
        have : TM.cstep k g (ks[i].1, ks[i].2.2) = none := if_pos c
        simp [this]
      · rw [decide_eq_false c]
        refine iteT ⟨_, rfl, _, rfl, _, rfl, E, _, rfl, DPut.k (k := Sum.inr ks[i].1) hE8 ?_, _, _, _, _, rfl, Same.updr (s1.trans s3) nE6, ks' ++ [(ks[i].1, t2, TM.ren k g ks[i].2.2.1, TM.ren k g ks[i].2.2.2)], ?_, fun q hq => ?_, ?_, ?_⟩
        · rw [edgesK_len]
          exact small1000 (by omega)
        · rw [upd_same]
          refine congrArg (fun z => some (HO.dK z)) (edgesK_put fun hz => ?_)
          have e1 : ks'.map (·.1) = (((ks.take i).map fun q => (q.1, q.2.2)).filterMap (TM.cstep k g)).map (·.1) := by
            rw [← hks, List.map_map]
            rfl
          rw [e1] at hz
          have hz2 := (TM.map_fst_sub _).subset hz
          rw [List.map_map] at hz2
          refine not_taken ndw (i := i) (by rw [List.length_map]; exact hi) ?_
          rw [← List.map_take, List.getElem_map]
          exact hz2
        · refine sqt_upd ?_ hE8 (fun _ z => by cases z) fun _ _ z => by cases z
          rcases List.mem_append.mp hq with h | h
          · exact Same.sqt s3 (hT q h)
          · rw [List.mem_singleton.mp h]
            exact ht2
        · rw [List.length_append]
          exact Nat.succ_le_succ hl
        · rw [List.map_append, hks, tk, List.map_append, List.filterMap_append]
          have : TM.cstep k g (ks[i].1, ks[i].2.2) = some (ks[i].1, TM.srt (TM.ren k g ks[i].2.2.1, TM.ren k g ks[i].2.2.2)) := if_neg c
          simp [this]
    rintro σ H' ⟨v6, v7, v8, v9, rfl, s1, ks', hE, hT, hl, hks⟩
    rw [edgesK_len, List.take_length] at hks
    refine ⟨s1 _ _ at6, ?_⟩
    have so7 := so4.trans (out6 s1)
    have at7 := s1 _ _ at6
    have hD7 : (upd H' e (.dK (edgesK ks))) D = some (.dK (marksK (ns.filter fun n => decide (n ≠ g)) (TM.con k g W).M)) := out6 s1 _ _ hD4
    have raw : RawAt K (upd H' e (.dK (edgesK ks))) D E (TM.con k g W) := by
      refine ⟨ns.filter fun n => decide (n ≠ g), ks', hD7, by rw [upd_ne nEe]; exact hE, (fun q hq => sqt_upd (hT q hq) at7 (fun _ z => by cases z) fun _ _ z => by cases z), wx.pn.filter _, ?_, con_good wx.gd hkn hgn hkg⟩
      rw [hks]
      exact wx.pe.filterMap _
    generalize upd H' e (.dK (edgesK ks)) = H9 at so7 raw ⊢
    refine ⟨_, rfl, _, rfl, fun x' dx' nx ndx nex => ?_⟩
    have s3 : Same H9 (upd (upd H9 dx' (.own x')) x' (.ins C dx' [])) := Same.updr (same_upd ndx) nx
    refine ⟨x', dx', D, E, TM.con k g W, rfl, upd_same, raw.same s3, fun H3 kp wb' => ⟨rfl, q x' H3 (fun a o h => ?_) wb'⟩⟩
    exact kp a o (ne_of_none (so7 _ _ h) nx) (s3 _ _ (so7 _ _ h))
end
end TK
end
section
set_option Elab.async false
set_option linter.all false
set_option autoImplicit false
set_option maxRecDepth 100000
set_option maxHeartbeats 4000000
/-! Facts for the drawn webs; _law_letters, _law_five, _law_six. -/
namespace TK
open PySem PySem.Spec PyProof.Rows L2

theorem cut_take (ys : List V) (n : Nat) : cutV ys none (some (n : Int)) = ys.take n := by
  unfold cutV
  rw [HT.sIx_nat, HT.sIx_none, List.drop_zero, Nat.sub_zero]
  rcases Nat.le_total n ys.length with h | h
  · rw [Nat.min_eq_left h]
  · rw [Nat.min_eq_right h, List.take_length, List.take_of_length_le h]
theorem perm_of_map {α β : Type} {f : α → β} {ys : List β} {l : List α} (h : ys.Perm (l.map f)) : ∃ m : List α, ys = m.map f ∧ m.Perm l := by
  have go : ∀ {a b : List β}, a.Perm b → ∀ l : List α, b = l.map f → ∃ m : List α, a = m.map f ∧ m.Perm l := by
    intro a b hp
    induction hp with
    | nil =>
      intro l e
      cases l with
      | nil => exact ⟨[], rfl, .refl _⟩
      | cons _ _ => cases e
    | cons x _ ih =>
      intro l e
      cases l with
      | nil => cases e
      | cons y r =>
        rw [List.map_cons] at e
        injection e with e1 e2
        obtain ⟨m, e3, pm⟩ := ih r e2
        exact ⟨y :: m, by rw [List.map_cons, e1, e3], pm.cons y⟩
    | swap x y _ =>
      intro l e
      match l, e with
      | a :: b :: r, e =>
        rw [List.map_cons, List.map_cons] at e
        injection e with e1 e2
        injection e2 with e2 e3
        exact ⟨b :: a :: r, by rw [List.map_cons, List.map_cons, e1, e2, e3], .swap _ _ _⟩
    | trans _ _ ih1 ih2 =>
      intro l e
      obtain ⟨m, e1, p1⟩ := ih2 l e
      obtain ⟨m2, e2, p2⟩ := ih1 m e1
      exact ⟨m2, e2, p2.trans p1⟩
  exact go h l rfl
/-- the ints from 0 on -/
def upTo (n : Nat) : List Int := (List.range n).map fun i : Nat => (i : Int)
theorem rg_upTo (n : Nat) : rgV 0 (n : Int) = (upTo n).map V.int := by
  unfold rgV upTo
  rw [List.map_map]
  show List.map _ (List.range ((n : Int) - 0).toNat) = _
  rw [show ((n : Int) - 0).toNat = n by omega]
  exact List.map_congr_left fun i _ => by simp
theorem mem_upTo {n : Nat} {x : Int} : x ∈ upTo n ↔ 0 ≤ x ∧ x < n := by
  unfold upTo
  rw [List.mem_map]
  constructor
  · rintro ⟨i, hi, rfl⟩
    have := List.mem_range.mp hi
    omega
  · rintro ⟨h0, h1⟩
    exact ⟨x.toNat, List.mem_range.mpr (by omega), by omega⟩
theorem upTo_nd (n : Nat) : (upTo n).Nodup := TM.nodup_map (fun a _ b _ e => by exact Int.ofNat.inj e) List.nodup_range
theorem upTo_len (n : Nat) : (upTo n).length = n := by unfold upTo; rw [List.length_map, List.length_range]
/-- merged pairs with new keys -/
theorem merge_nd : ∀ {more kvs : List (Key × V)}, ((kvs ++ more).map (·.1)).Nodup → mergeK kvs more = kvs ++ more
  | [], kvs, _ => by rw [List.append_nil]; rfl
  | p :: r, kvs, nd => by
    have hn : p.1 ∉ kvs.map (·.1) := by
      intro h
      rw [List.map_append, List.map_cons] at nd
      have := (List.nodup_append.mp nd).2.2 _ h p.1 List.mem_cons_self
      exact this rfl
    show mergeK (putK kvs p.1 p.2) r = _
    rw [putK_new _ (valV_no hn), merge_nd (by rw [List.append_assoc]; exact nd), List.append_assoc]
    rfl

/-! ### kept while the bag is drawn from -/
section
variable {K : PySem.W.Frag} {C : Addr} {H H' : Hp} {b c : Addr}
theorem Keep.sqt {t : Addr} {xs : List V} (B : BagAt H b c) (k : Keep b H H') (h : SqT K H t xs) : SqT K H' t xs := by
  rcases h with (h | ⟨o, h⟩) | h
  · exact .inl (.inl (k _ _ (B.ne h fun _ z => by cases z) h))
  · exact .inl (.inr ⟨o, k _ _ (B.ne h fun _ z => by cases z) h⟩)
  · exact .inr h
theorem RawAt.keep {m e : Addr} {W : Wb} (B : BagAt H b c) (k : Keep b H H') (r : RawAt K H m e W) : RawAt K H' m e W := by
  obtain ⟨ns, ks, x⟩ := r.ex
  exact ⟨ns, ks, k _ _ (B.ne x.md fun _ z => by cases z) x.md, k _ _ (B.ne x.ed fun _ z => by cases z) x.ed, fun q hq => k.sqt B (x.tu q hq), x.pn, x.pe, x.gd⟩
theorem WebAt.keep {x : Addr} {W : Wb} (B : BagAt H b c) (k : Keep b H H') (r : WebAt K C H x W) : WebAt K C H' x W := by
  obtain ⟨dx, m, e, ns, ks, wx, hm⟩ := r.ex
  refine ⟨dx, m, e, ns, ks, ⟨k _ _ (B.ne wx.ob fun _ z => by cases z) wx.ob, .inl ?_, k _ _ (B.ne wx.ed fun _ z => by cases z) wx.ed, fun q hq => k.sqt B (wx.tu q hq), wx.pn, wx.pe, wx.gd, wx.me⟩, ?_⟩ <;>
    exact k _ _ (B.ne hm fun _ z => by cases z) hm
end
section
variable {X : Cx} {k j : Nat} {x : Str} {sp : Sp} {dvs : List V} {p pos : Pos}
theorem pe_c0 (c : C8.Cal X.prog X.w X.K X.mg X.base k x sp dvs) (hr : Room j X.A) (hk : k ≤ j) (hg : Gl X x) (hdb : (x == ("__debug__" : Str)) = false := by decide) :
    PE X (.Call (.Name x p) [] [] pos) (tCall sp dvs C8.E0 tNil) := by
  obtain ⟨f, fd, ps, ds, F, hm, kp, b, d⟩ := c.ex
  exact pe_call0 F (hr.mono hk) hg hm kp b d pass0 hdb
end

section
variable {P : Program} {w : World} {K : PySem.W.Frag} {mg : Str → Option Value} {base : Heap} {C : Addr}
/-! ### _law_letters, _law_five, _law_six -/
def spLetters : Sp := fun vs H Q _ => vs = [] ∧ Q (.str letters) H
theorem scLetters : FnScope [] [] (C8.fnScope sLetters) := C8.fnScope_by (by decide +kernel)
theorem cal_letters {f : Addr} {fd : FuncData} (F : C8.Def K mg "_law_letters" sLetters f fd) (b : Binds K fd [] []) : C8.Cal P w K mg base 1 "_law_letters" spLetters [] := by
  refine C8.cal0 F b .nil scLetters (fun vs H Q E h => ?_) (fun cdv A outer s H vs Q E hr h => ?_)
  · obtain ⟨rfl, _⟩ := h
    rfl
  · obtain ⟨rfl, q⟩ := h
    exact ⟨_, pss_one (ps_ret pe_str), q⟩
/-- a list of pairs of places below n -/
structure Pairs (K : PySem.W.Frag) (H : Hp) (p : Addr) (n : Int) (L : List (Addr × Int × Int)) : Prop where
  at' : H p = some (.lst (L.map fun q => V.ref q.1))
  tu : ∀ q ∈ L, SqT K H q.1 [.int q.2.1, .int q.2.2]
  ok : ∀ q ∈ L, q.2.1 ≠ q.2.2 ∧ 0 ≤ q.2.1 ∧ q.2.1 < n ∧ 0 ≤ q.2.2 ∧ q.2.2 < n
def taPairs : List (Int × Int) → TA
  | [] => tNil
  | z :: r => tCons (tTup (tCons (tC (.int z.1)) (tCons (tC (.int z.2)) tNil))) (taPairs r)
theorem pairs_ta {σ : L2.St} : ∀ (zs : List (Int × Int)) {H : Hp} {Q : List V → Hp → Prop}, (∀ (L : List (Addr × Int × Int)) (H' : Hp), Same H H' → L.map (·.2) = zs → (∀ q ∈ L, SqT K H' q.1 [.int q.2.1, .int q.2.2]) → Q (L.map fun q => V.ref q.1) H') → taPairs zs σ H Q
  | [], H, Q, h => h [] H (Same.refl _) rfl fun _ h => by cases h
  | z :: r, H, Q, h => by
    refine ⟨by show 2 ≤ sizeLine; decide, fun t nt => pairs_ta r fun L H' s e tu => ?_⟩
    refine h ((t, z.1, z.2) :: L) H' ((same_upd nt).trans s) (by rw [List.map_cons, e]) fun q hq => ?_
    rcases List.mem_cons.mp hq with rfl | hq
    · exact Same.sqt s (SqT.of upd_same)
    · exact tu q hq
/-- a display of such pairs, returned -/
theorem pairs_ret {σ : L2.St} {H : Hp} {Q : VK} {n : Int} {zs : List (Int × Int)} (hz : ∀ z ∈ zs, z.1 ≠ z.2 ∧ 0 ≤ z.1 ∧ z.1 < n ∧ 0 ≤ z.2 ∧ z.2 < n) (h63 : zs.length ≤ 63)
    (h : ∀ (p : Addr) (L : List (Addr × Int × Int)) (H' : Hp), Same H H' → H p = none → Pairs K H' p n L → L.length = zs.length → Q (.ref p) H') : tLst (taPairs zs) σ H Q := by
  refine pairs_ta (K := K) zs fun L H' s e tu => ?_
  have hl : L.length = zs.length := by rw [← e, List.length_map]
  refine ⟨by rw [List.length_map, hl]; exact small63 h63, fun p np => ?_⟩
  refine h p L _ (Same.updr s (s.free np)) (s.free np) ⟨upd_same, fun q hq => Same.sqt (same_upd np) (tu q hq), fun q hq => hz q.2 (by rw [← e]; exact List.mem_map.mpr ⟨q, hq, rfl⟩)⟩ hl
def spPairs (K : PySem.W.Frag) (n : Int) (len : Nat) : Sp := fun vs H Q _ => vs = [] ∧ ∀ (p : Addr) (L : List (Addr × Int × Int)) (H' : Hp), Same H H' → H p = none → Pairs K H' p n L → L.length = len → Q (.ref p) H'
theorem scFive : FnScope [] [] (C8.fnScope sFive) := C8.fnScope_by (by decide +kernel)
theorem scSix : FnScope [] [] (C8.fnScope sSix) := C8.fnScope_by (by decide +kernel)
theorem cal_five {f : Addr} {fd : FuncData} (F : C8.Def K mg "_law_five" sFive f fd) (b : Binds K fd [] []) : C8.Cal P w K mg base 1 "_law_five" (spPairs K 5 10) [] := by
  refine C8.cal0 F b .nil scFive (fun vs H Q E h => ?_) (fun cdv A outer s H vs Q E hr h => ?_)
  · obtain ⟨rfl, _⟩ := h
    rfl
  · obtain ⟨rfl, q⟩ := h
    refine ⟨_, pss_one (ps_ret (pe_lst (pa_cons (pe_tup (pa_cons pe_int (pa_cons pe_int pa_nil))) (pa_cons (pe_tup (pa_cons pe_int (pa_cons pe_int pa_nil))) (pa_cons (pe_tup (pa_cons pe_int (pa_cons pe_int pa_nil))) (pa_cons (pe_tup (pa_cons pe_int (pa_cons pe_int pa_nil))) (pa_cons (pe_tup (pa_cons pe_int (pa_cons pe_int pa_nil)))
      (pa_cons (pe_tup (pa_cons pe_int (pa_cons pe_int pa_nil))) (pa_cons (pe_tup (pa_cons pe_int (pa_cons pe_int pa_nil))) (pa_cons (pe_tup (pa_cons pe_int (pa_cons pe_int pa_nil))) (pa_cons (pe_tup (pa_cons pe_int (pa_cons pe_int pa_nil))) (pa_cons (pe_tup (pa_cons pe_int (pa_cons pe_int pa_nil))) pa_nil)))))))))))), ?_⟩
    exact pairs_ret (K := K) (n := 5) (zs := [(0, 1), (0, 2), (0, 3), (0, 4), (1, 2), (1, 3), (1, 4), (2, 3), (2, 4), (3, 4)]) (by decide) (by decide) fun p L H' s np ps e => q p L H' s np ps e
theorem cal_six {f : Addr} {fd : FuncData} (F : C8.Def K mg "_law_six" sSix f fd) (b : Binds K fd [] []) : C8.Cal P w K mg base 1 "_law_six" (spPairs K 6 9) [] := by
  refine C8.cal0 F b .nil scSix (fun vs H Q E h => ?_) (fun cdv A outer s H vs Q E hr h => ?_)
  · obtain ⟨rfl, _⟩ := h
    rfl
  · obtain ⟨rfl, q⟩ := h
    refine ⟨_, pss_one (ps_ret (pe_lst (pa_cons (pe_tup (pa_cons pe_int (pa_cons pe_int pa_nil))) (pa_cons (pe_tup (pa_cons pe_int (pa_cons pe_int pa_nil))) (pa_cons (pe_tup (pa_cons pe_int (pa_cons pe_int pa_nil))) (pa_cons (pe_tup (pa_cons pe_int (pa_cons pe_int pa_nil))) (pa_cons (pe_tup (pa_cons pe_int (pa_cons pe_int pa_nil)))
      (pa_cons (pe_tup (pa_cons pe_int (pa_cons pe_int pa_nil))) (pa_cons (pe_tup (pa_cons pe_int (pa_cons pe_int pa_nil))) (pa_cons (pe_tup (pa_cons pe_int (pa_cons pe_int pa_nil))) (pa_cons (pe_tup (pa_cons pe_int (pa_cons pe_int pa_nil))) pa_nil))))))))))), ?_⟩
    exact pairs_ret (K := K) (n := 6) (zs := [(0, 3), (0, 4), (0, 5), (1, 3), (1, 4), (1, 5), (2, 3), (2, 4), (2, 5)]) (by decide) (by decide) fun p L H' s np ps e => q p L H' s np ps e
end
end TK
end
section
set_option Elab.async false
set_option linter.all false
set_option autoImplicit false
set_option maxRecDepth 100000
set_option maxHeartbeats 4000000
/-! The marks drawn; what a drawn pair of dicts is. -/
namespace TK
open PySem PySem.Spec PyProof.Rows L2

def tePull (bi pi : Nat) : TE := tTup (tCons (tVar pi) (tCons (tCall spPull [] C8.E0 (tCons (tVar bi) (tCons (tC (.int 2)) tNil))) tNil))
theorem pulls_it {K : PySem.W.Frag} {σ : L2.St} {bi pi : Nat} {b c a D : Addr} {ns : List Int} {H1 : Hp} {Qd : Hp → Prop} (nd : ns.Nodup) (hl : ns.length ≤ 12) (hb : σ[bi]? = some (some (.ref b))) (hne : bi ≠ pi) (hp : pi < σ.length)
    (B : BagAt H1 b c) (hS : SqL K H1 a (ns.map V.int)) (hab : a ≠ b) (nD : H1 D = none)
    (hd : ∀ H' (M : Int → Int) (L : List (Addr × Int)), BagAt H' b c → Keep b H1 H' → H' D = some (.lst (L.map fun q => V.ref q.1)) → L.map (·.2) = ns → (∀ q ∈ L, SqT K H' q.1 [.int q.2, .int (M q.2)]) → (∀ n, M n = 0 ∨ M n = 1) → Qd H') :
    ∃ W : Nat → Nat → Hp → Prop, (∃ m, W 0 m (upd H1 D (.lst []))) ∧ ∀ i m H, W i m H →
      ((Itl K a).stop i H ∧ Qd H) ∨ ((Itl K a).go i H ∧ ∃ Nx : Hp → Prop, (∀ H', Nx H' → ∃ m', m' < m ∧ W (i + 1) m' H') ∧ ∀ x H', (Itl K a).yld i H x H' → gName pi x (wipe σ [pi]) H' fun σ2 H2 => wipe σ2 [pi] = wipe σ [pi] ∧ tYes σ2 H2 fun b H3 =>
        if b = true then tePull bi pi σ2 H3 fun y H4 => ∃ acc, H4 D = some (.lst acc) ∧ acc.length < sizeLine ∧ Nx (upd H4 D (.lst (acc ++ [y]))) else Nx H3) := by
  have nDb : D ≠ b := B.nn nD
  refine lc_it (walk_list (xs := ns.map V.int)) (fun i H' => Keep b H1 H' ∧ BagAt H' b c ∧ ∃ (M : Int → Int) (L : List (Addr × Int)), H' D = some (.lst (L.map fun q => V.ref q.1)) ∧ L.map (·.2) = ns.take i ∧ (∀ q ∈ L, SqT K H' q.1 [.int q.2, .int (M q.2)]) ∧ ∀ n, M n = 0 ∨ M n = 1)
    ⟨keep_upd nD, B.new nD, fun _ => 0, [], upd_same, rfl, (fun _ h => by cases h), fun _ => .inl rfl⟩ (fun i H' _ ⟨k, _⟩ => k.seq hab hS) ?_ ?_
  · rintro i x H' H2 hi ⟨kp, B2, M, L, hD, hL, ht, hM⟩ ⟨rfl, hx⟩
    obtain ⟨n, hn, rfl⟩ := int_of_map hx
    rw [List.length_map] at hi
    rw [List.getElem?_eq_getElem hi] at hn
    obtain rfl := Option.some.inj hn
    have hlen : L.length ≤ 12 := by
      have := congrArg List.length hL
      rw [List.length_map, List.length_take] at this
      omega
    have hnn : ns[i] ∉ L.map (·.2) := by rw [hL]; exact not_taken nd hi
    refine ⟨by simp [wipe], ?_⟩
    have e1 : ((wipe σ [pi]).set pi (some (V.int ns[i])))[pi]? = some (some (.int ns[i])) := by simp [wipe, hp]
    have e2 : ((wipe σ [pi]).set pi (some (V.int ns[i])))[bi]? = some (some (.ref b)) := by
      rw [List.getElem?_set_ne hne.symm]
      show ((σ.set pi none)[bi]?) = _
      rw [List.getElem?_set_ne hne.symm]
      exact hb
    refine ⟨_, e1, _, e2, b, c, 2, rfl, B2, by decide, by decide, fun d H3 d0 d1 B3 k3 => ?_⟩
    refine ⟨by show 2 ≤ sizeLine; decide, fun t nt => ?_⟩
    have hD3 := k3 _ _ nDb hD
    have hD4 : (upd H3 t (.tup [.int ns[i], .int d])) D = _ := (upd_ne (ne_of_none hD3 nt)).trans hD3
    refine ⟨_, hD4, ?_, ((kp.trans k3).trans (keep_upd nt)).updr nD, ?_, fun n => if n = ns[i] then d else M n, L ++ [(t, ns[i])], ?_, ?_, fun q hq => ?_, fun n => ?_⟩
    · rw [List.length_map]
      exact small1000 (by omega)
    · exact B.out nD (B3.new nt)
    · rw [upd_same, List.map_append]
      rfl
    · rw [List.map_append, hL, take_step hi]
      rfl
    · have hu : ∀ {t' : Addr} {xs : List V}, SqT K (upd H3 t (.tup [.int ns[i], .int d])) t' xs → SqT K (upd (upd H3 t (.tup [.int ns[i], .int d])) D (.lst (L.map (fun q => V.ref q.1) ++ [.ref t]))) t' xs := fun h => sqt_upd h hD4 (fun _ z => by cases z) fun _ _ z => by cases z
      rcases List.mem_append.mp hq with h | h
      · have : q.2 ≠ ns[i] := fun e => hnn (e ▸ List.mem_map.mpr ⟨q, h, rfl⟩)
        dsimp only
        rw [if_neg this]
        exact hu (Same.sqt (same_upd nt) (k3.sqt B2 (ht q h)))
      · rw [List.mem_singleton.mp h]
        dsimp only
        rw [if_pos rfl]
        exact hu (SqT.of upd_same)
    · dsimp only
      by_cases c : n = ns[i]
      · rw [if_pos c]
        omega
      · rw [if_neg c]
        exact hM n
  · rintro H' ⟨kp, B2, M, L, hD, hL, ht, hM⟩
    rw [List.length_map, List.take_length] at hL
    exact hd H' M L B2 kp hD hL ht hM
/-- dict([..]) of such pairs -/
theorem paired_marks {K : PySem.W.Frag} {H : Hp} {M : Int → Int} : ∀ {L : List (Addr × Int)}, (∀ q ∈ L, SqT K H q.1 [.int q.2, .int (M q.2)]) → Paired (fun p kv => SqT K H p [kV kv.1, kv.2]) (L.map (·.1)) (marksK (L.map (·.2)) M)
  | [], _ => .nil
  | q :: r, h => .cons (h q List.mem_cons_self) (paired_marks fun x hx => h x (List.mem_cons_of_mem _ hx))
theorem merge_marks {ns : List Int} {M : Int → Int} (nd : ns.Nodup) : mergeK [] (marksK ns M) = marksK ns M := by
  rw [merge_nd (by rw [List.nil_append, marksK_keys]; exact nodup_inl nd), List.nil_append]

/-- what a drawn pair of dicts is -/
theorem mk_good {ns : List Int} {M : Int → Int} {ks : List (Str × Addr × Int × Int)} (asc : ns.Pairwise (· < ·)) (mr : ∀ n ∈ ns, M n = 0 ∨ M n = 1) (rg : ∀ n ∈ ns, 0 ≤ n ∧ n < 12) (nd : (ks.map (·.1)).Nodup)
    (en : ∀ k ∈ ks, k.2.2.1 ≠ k.2.2.2 ∧ k.2.2.1 ∈ ns ∧ k.2.2.2 ∈ ns) (nm : ∀ k ∈ ks, Letter k.1) : Good ⟨ns, M, ks.map fun k => (k.1, TM.srt k.2.2)⟩ := by
  refine ⟨⟨asc, mr, rg, ?_, fun e he => ?_⟩, fun e he => ?_⟩
  · dsimp only
    rw [List.map_map]
    exact nd
  · obtain ⟨⟨x, t, a, b⟩, hk, rfl⟩ := List.mem_map.mp he
    obtain ⟨h1, h2, h3⟩ := en _ hk
    dsimp only at h1 h2 h3 ⊢
    refine ⟨?_, ?_, TM.srt_lt h1⟩ <;> (rcases TM.srt_cases a b with z | z <;> rw [z] <;> assumption)
  · obtain ⟨k, hk, rfl⟩ := List.mem_map.mp he
    exact nm k hk
theorem mk_raw {K : PySem.W.Frag} {H : Hp} {m e : Addr} {ns : List Int} {M : Int → Int} {ks : List (Str × Addr × Int × Int)} (hm : H m = some (.dK (marksK ns M))) (he : H e = some (.dK (edgesK ks))) (ht : ∀ k ∈ ks, SqT K H k.2.1 [.int k.2.2.1, .int k.2.2.2])
    (g : Good ⟨ns, M, ks.map fun k => (k.1, TM.srt k.2.2)⟩) : RawAt K H m e ⟨ns, M, ks.map fun k => (k.1, TM.srt k.2.2)⟩ := ⟨ns, ks, hm, he, ht, .refl _, .refl _, g⟩
def RawPost (K : PySem.W.Frag) (b c : Addr) (H : Hp) (Q : VK) : Prop := ∀ (t m e : Addr) (W : Wb) (H' : Hp), SqT K H' t [.ref m, .ref e] → RawAt K H' m e W → BagAt H' b c → Keep b H H' → Q (.ref t) H'
end TK
end
section
set_option Elab.async false
set_option linter.all false
set_option autoImplicit false
set_option maxRecDepth 100000
set_option maxHeartbeats 4000000
/-! _law_raw. -/
namespace TK
open PySem PySem.Spec PyProof.Rows L2
theorem other_place {k f d : Int} (f0 : 0 ≤ f) (f1 : f < k) (d0 : 0 ≤ d) (d1 : d < k - 1) : 0 ≤ (f + 1 + d) % k ∧ (f + 1 + d) % k < k ∧ (f + 1 + d) % k ≠ f := by
  have hk : 0 < k := by omega
  refine ⟨Int.emod_nonneg _ (by omega), Int.emod_lt_of_pos _ hk, ?_⟩
  by_cases c : f + 1 + d < k
  · rw [Int.emod_eq_of_lt (by omega) c]
    omega
  · have e : f + 1 + d = (f + 1 + d - k) + k := by omega
    rw [e, Int.add_emod_right, Int.emod_eq_of_lt (by omega) (by omega)]
    omega
theorem letters_nd : (signsOf letters).Nodup := by decide +kernel
theorem letters_24 : (signsOf letters).length = 24 := by decide +kernel
/-- the value at a place of a list of ints -/
theorem at_int {ns : List Int} {z : Int} (h0 : 0 ≤ z) (h1 : z < ns.length) : ∃ (j : Nat) (hj : j < ns.length), z = (j : Int) ∧ atI (ns.map V.int) z = some (.int ns[j]) := by
  refine ⟨z.toNat, by omega, by omega, at_of (j := z.toNat) (by omega) ?_⟩
  rw [List.getElem?_map, List.getElem?_eq_getElem (by omega)]
  rfl

section
variable {P : Program} {w : World} {K : PySem.W.Frag} {mg : Str → Option Value} {base : Heap} {C : Addr}
def spRaw (K : PySem.W.Frag) : Sp := fun vs H Q _ => ∃ (b c : Addr) (wide many : Int), vs = [.ref b, .int wide, .int many] ∧ BagAt H b c ∧ 0 ≤ wide ∧ wide ≤ 11 ∧ 0 ≤ many ∧ many ≤ 24 ∧ RawPost K b c H Q
abbrev nRaw : List Str := ["_law_bag_here", "_law_wide", "_law_many", "_law_size", "_law_points", "_law_marks", "_law_ends", "_law_most", "_law_letter", "_law_first", "_law_last", "_law_point"]
theorem scRaw : FnScope nRaw ["_law_bag_here", "_law_wide", "_law_many"] (C8.fnScope sRaw) := C8.fnScope_by (by decide +kernel)
theorem cal_raw {f : Addr} {fd : FuncData} (T : Txt K mg C) (F : C8.Def K mg "_law_raw" sRaw f fd) (b : Binds K fd ["_law_bag_here", "_law_wide", "_law_many"] []) (cP : C8.Cal P w K mg base 1 "_law_pull" spPull []) (cM : C8.Cal P w K mg base 2 "_law_mixed" (spMixed K) []) (cL : C8.Cal P w K mg base 1 "_law_letters" spLetters []) :
    C8.Cal P w K mg base 3 "_law_raw" (spRaw K) [] := by
  refine C8.cal0 F b .nil scRaw (fun vs H Q E h => ?_) (fun cdv A outer s H vs Q E hr h => ?_)
  · obtain ⟨b, c, _, _, rfl, _⟩ := h
    rfl
  · obtain ⟨b, c, wide, many, rfl, B, w0, w1, m0, m1, q⟩ := h
    have hu := hu_of hr
    have nd := scRaw.nd
    refine ⟨_, pss_cons (ps_set (i := 3) nd rfl (.inl rfl) (C8.pe_c cP hr (by decide) (by rfl) (pa_cons (pv 0) (pa_cons (pe_op op_add (pv 1) pe_int) pa_nil))))
      (pss_cons (ps_set (i := 4) nd rfl (.inl rfl) (pe_callB cr_sorted (by rfl) T.sorted (by decide +kernel) (pa_cons (pe_slice sl_list (C8.pe_c cM hr (by decide) (by rfl) (pa_cons (pv 0) (pa_cons (pe_listRg rfl (by rfl) T.list (prg_1 (by rfl) T.range pe_int)) pa_nil))) po_none (po_some (pv 3))) pa_nil)))
      (pss_cons (ps_set (i := 5) nd rfl (.inl rfl) (pe_callTy (call_dictP rfl) (by rfl) T.dict (by decide +kernel) (pa_cons (pe_lc (own := [("_law_point", 11)]) (g := gName 11) (tt := tYes) (te := tePull 0 11) (by rfl) nd (pi_list (pv 4)) (blkOk_by (own := [("_law_point", 11)]) (N := nRaw) (sc := C8.fnScope sRaw) (by decide +kernel))
          (fun _ _ _ _ _ => pg_name (i := 11) nd rfl (.inl rfl)) (fun _ _ _ _ _ => pts_nil) (fun _ _ _ _ _ => pe_tup (pa_cons (pv 11) (pa_cons (C8.pe_c cP hr (by decide) (by rfl) (pa_cons (pv 0) (pa_cons pe_int pa_nil))) pa_nil)))) pa_nil)))
      (pss_cons (ps_set (i := 6) nd rfl (.inl rfl) pe_dnewK)
      (C8.pss_cut (ps_set (i := 7) nd rfl (.inl rfl) (pe_ifExp (pt_cmpR op_gt (pv 3) pe_int (nomark _)) (C8.pe_c cP hr (by decide) (by rfl) (pa_cons (pv 0) (pa_cons (pe_op op_add (pv 2) pe_int) pa_nil))) pe_int))
      (pss_cons (ps_for PassesOwn.never rfl (pi_list (pe_callB cr_sortedS (by rfl) T.sorted (by decide +kernel) (pa_cons (pe_slice sl_list (C8.pe_c cM hr (by decide) (by rfl) (pa_cons (pv 0) (pa_cons (pe_callTy (call_listTxt rfl) (by rfl) T.list PyProof.Rows.boot_list (pa_cons (pe_c0 cL hr (by decide) (by rfl)) pa_nil)) pa_nil))) po_none (po_some (pv 7))) pa_nil))) (pg_name (i := 8) nd rfl (.inl rfl))
          (pss_cons (ps_set (i := 9) nd rfl (.inl rfl) (C8.pe_c cP hr (by decide) (by rfl) (pa_cons (pv 0) (pa_cons (pv 3) pa_nil))))
          (pss_cons (ps_set (i := 10) nd rfl (.inl rfl) (pe_op op_mod (pe_op op_add (pe_op op_add (pv 9) pe_int) (C8.pe_c cP hr (by decide) (by rfl) (pa_cons (pv 0) (pa_cons (pe_op op_sub (pv 3) pe_int) pa_nil)))) (pv 3)))
          (pss_one (ps_dput hu (pv 6) (pv 8) (pe_tup (pa_cons (pe_ix ix_list (pv 4) (pe_callB (call_min2 rfl) (by rfl) T.min (by decide +kernel) (pa_cons (pv 9) (pa_cons (pv 10) pa_nil))) (fun _ _ => rfl)) (pa_cons (pe_ix ix_list (pv 4) (pe_callB (call_max2 rfl) (by rfl) T.max (by decide +kernel) (pa_cons (pv 9) (pa_cons (pv 10) pa_nil))) (fun _ _ => rfl)) pa_nil))) rfl)))))
      (pss_one (ps_ret (pe_tup (pa_cons (pv 5) (pa_cons (pv 6) pa_nil)))))))))), ?_⟩
    refine ⟨_, rfl, _, rfl, _, _, rfl, rfl, b, c, wide + 1, rfl, B, by omega, by omega, fun sz H1 s0 s1 B1 k1 => ?_⟩
    -- the points
    refine ⟨_, rfl, 12, rfl, ⟨by decide, by decide, by decide, by decide, by decide⟩, fun p0 np0 => ?_⟩
    have e12 : rgV 0 12 = (upTo 12).map V.int := rg_upTo 12
    rw [e12]
    refine ⟨b, c, p0, _, rfl, B1.new np0, B1.nn np0, SqL.of upd_same, by rw [List.length_map, upTo_len]; decide, fun p1 ys H2 pmV h1 n1 f1 B2 k2 => ?_⟩
    have k12 : Keep b H H2 := (k1.trans (keep_upd np0)).trans k2
    obtain ⟨ms, rfl, pm⟩ := perm_of_map pmV
    obtain ⟨k, rfl⟩ : ∃ k : Nat, sz = (k : Int) := ⟨sz.toNat, by omega⟩
    refine ⟨_, rfl, _, rfl, p1, _, rfl, SqL.of h1, fun p2 np2 => ?_⟩
    rw [cut_take, ← List.map_take]
    have hml : (ms.take k).length = k := by
      have := pm.length_eq
      rw [upTo_len] at this
      rw [List.length_take]
      omega
    have hms : (ms.take k).Nodup := ((List.take_sublist k ms).nodup (pm.nodup_iff.mpr (upTo_nd 12)))
    refine ⟨p2, _, rfl, SqL.of upd_same, by omega, fun ns p3 pm3 so3 np3 => ?_⟩
    have hnl : ns.length = k := by rw [pm3.length_eq, hml]
    have ndn : ns.Nodup := pm3.nodup_iff.mpr hms
    have asc : ns.Pairwise (· < ·) := TM.asc_of_le so3 ndn
    have rg : ∀ n ∈ ns, 0 ≤ n ∧ n < 12 := fun n hn => mem_upTo.mp (pm.mem_iff.mp (List.mem_of_mem_take (pm3.mem_iff.mp hn)))
    have B3 : BagAt (upd (upd H2 p2 (.lst ((ms.take k).map V.int))) p3 (.lst (ns.map V.int))) b c := (B2.new np2).new np3
    have k3 : Keep b H (upd (upd H2 p2 (.lst ((ms.take k).map V.int))) p3 (.lst (ns.map V.int))) := (k12.trans (keep_upd np2)).trans (keep_upd np3)
    have n3 : p3 ≠ b := (B2.new np2).nn np3
    have h3 : (upd (upd H2 p2 (.lst ((ms.take k).map V.int))) p3 (.lst (ns.map V.int))) p3 = some (.lst (ns.map V.int)) := upd_same
    generalize upd (upd H2 p2 (.lst ((ms.take k).map V.int))) p3 (.lst (ns.map V.int)) = H3 at B3 k3 h3 ⊢
    -- the marks
    refine ⟨_, rfl, p3, rfl, ⟨_, SqL.of h3⟩, fun D nD => ?_⟩
    refine pulls_it ndn (by omega) rfl (by decide) (by show 11 < 12; decide) B3 (SqL.of h3) n3 nD fun H4 M L B4 k4 hD4 hL4 ht4 hM4 => ?_
    refine ⟨D, L.map (·.1), marksK ns M, rfl, SqL.of (by rw [List.map_map]; exact hD4), by rw [← hL4]; exact paired_marks ht4, fun m nm => ?_⟩
    rw [merge_marks ndn]
    have B5 := B4.new (o := .dK (marksK ns M)) nm
    have k5 : Keep b H (upd H4 m (.dK (marksK ns M))) := (k3.trans k4).trans (keep_upd nm)
    have h35 : (upd H4 m (.dK (marksK ns M))) p3 = some (.lst (ns.map V.int)) := (keep_upd nm) _ _ n3 (k4 _ _ n3 h3)
    have hm5 : (upd H4 m (.dK (marksK ns M))) m = some (.dK (marksK ns M)) := upd_same
    generalize upd H4 m (.dK (marksK ns M)) = H5 at B5 k5 h35 hm5 ⊢
    refine fun E nE => ?_
    have nEb : E ≠ b := B5.nn nE
    have B6 := B5.new (o := .dK []) nE
    have hE6 : (upd H5 E (.dK [])) E = some (.dK (edgesK [])) := upd_same
    have s56 : Same H5 (upd H5 E (.dK [])) := same_upd nE
    generalize upd H5 E (.dK []) = H6 at B6 hE6 s56 ⊢
    -- how many
    refine ⟨fun σ' H' => ∃ mo : Nat, σ' = [some (.ref b), some (.int wide), some (.int many), some (.int (k : Int)), some (.ref p3), some (.ref m), some (.ref E), some (.int (mo : Int)), none, none, none, none] ∧ Keep b H6 H' ∧ BagAt H' b c ∧ mo ≤ 24 ∧ (0 < mo → 1 < k), ?_, ?_⟩
    · refine ⟨_, rfl, _, _, rfl, rfl, _, rfl, ?_⟩
      by_cases hk : (1 : Int) < (k : Int)
      · show if decide ((1 : Int) < (k : Int)) = true then _ else _
        rw [decide_eq_true hk]
        refine iteT ⟨_, rfl, _, rfl, _, _, rfl, rfl, b, c, many + 1, rfl, B6, by omega, by omega, fun mo H' mo0 mo1 B' k' => ?_⟩
        exact ⟨mo.toNat, by rw [show ((mo.toNat : Nat) : Int) = mo by omega]; rfl, k', B', by omega, fun _ => by omega⟩
      · show if decide ((1 : Int) < (k : Int)) = true then _ else _
        rw [decide_eq_false hk]
        exact iteF ⟨0, rfl, Keep.refl, B6, by omega, fun z => by omega⟩
    rintro σ7 H7 ⟨mo, rfl, k67, B7, mo24, mok⟩
    -- the letters
    refine ⟨_, rfl, rfl, _, rfl, by show 24 ≤ 1000; decide, fun p4 np4 => ?_⟩
    refine ⟨b, c, p4, _, rfl, B7.new np4, B7.nn np4, SqL.of upd_same, by rw [List.length_map, letters_24]; decide, fun p5 ys H8 pmV h8 n8 f8 B8 k8 => ?_⟩
    have k68 : Keep b H6 H8 := (k67.trans (keep_upd np4)).trans k8
    obtain ⟨ls, rfl, pmL⟩ := perm_of_map pmV
    refine ⟨_, rfl, _, rfl, p5, _, rfl, SqL.of h8, fun p6 np6 => ?_⟩
    rw [cut_take, ← List.map_take]
    refine ⟨p6, _, rfl, SqL.of upd_same, by rw [List.length_take]; omega, fun zs p7 pm7 so7 np7 => ?_⟩
    have zln : zs.length ≤ mo := by
      rw [pm7.length_eq, List.length_take]
      omega
    have ndz : zs.Nodup := pm7.nodup_iff.mpr ((List.take_sublist mo ls).nodup (pmL.nodup_iff.mpr letters_nd))
    have hlet : ∀ z ∈ zs, Letter z := fun z hz => pmL.mem_iff.mp (List.mem_of_mem_take (pm7.mem_iff.mp hz))
    have B9 : BagAt (upd (upd H8 p6 (.lst ((ls.take mo).map V.str))) p7 (.lst (zs.map V.str))) b c := (B8.new np6).new np7
    have k69 : Keep b H6 (upd (upd H8 p6 (.lst ((ls.take mo).map V.str))) p7 (.lst (zs.map V.str))) := (k68.trans (keep_upd np6)).trans (keep_upd np7)
    have n7 : p7 ≠ b := (B8.new np6).nn np7
    have h9 : (upd (upd H8 p6 (.lst ((ls.take mo).map V.str))) p7 (.lst (zs.map V.str))) p7 = some (.lst (zs.map V.str)) := upd_same
    refine ⟨p7, rfl, ⟨_, SqL.of h9⟩, ?_⟩
    generalize upd (upd H8 p6 (.lst ((ls.take mo).map V.str))) p7 (.lst (zs.map V.str)) = H9 at B9 k69 h9 ⊢
    have hE9 := k69 _ _ nEb hE6
    have h39 := k69 _ _ n3 (s56 _ _ h35)
    have hm9 := k69 _ _ (B6.ne (s56 _ _ hm5) (fun _ z => by cases z)) (s56 _ _ hm5)
    have nE7 : p7 ≠ E := ne_of h9 hE9 (by intro z; cases z)
    have nE3 : p3 ≠ E := ne_of h39 hE9 (by intro z; cases z)
    have nEm : m ≠ E := by
      intro z
      rw [z, nE] at hm5
      cases hm5
    refine for_it (walk_list (xs := zs.map V.str)) (fun i σ H' => ∃ v8 v9 v10, ∃ ks' : List (Str × Addr × Int × Int), σ = [some (.ref b), some (.int wide), some (.int many), some (.int (k : Int)), some (.ref p3), some (.ref m), some (.ref E), some (.int (mo : Int)), v8, v9, v10, none] ∧
        (∀ a o, a ≠ b → a ≠ E → H9 a = some o → H' a = some o) ∧ BagAt H' b c ∧ H' E = some (.dK (edgesK ks')) ∧ ks'.map (·.1) = zs.take i ∧ (∀ q ∈ ks', SqT K H' q.2.1 [.int q.2.2.1, .int q.2.2.2]) ∧ ∀ q ∈ ks', q.2.2.1 ≠ q.2.2.2 ∧ q.2.2.1 ∈ ns ∧ q.2.2.2 ∈ ns)
      ⟨none, none, none, [], rfl, (fun a o _ _ h => h), B9, hE9, rfl, (fun _ h => by cases h), fun _ h => by cases h⟩ (fun i σ H' _ ⟨_, _, _, _, _, kp, _⟩ => SqL.of (kp _ _ n7 nE7 h9)) ?_ ?_
    · rintro i x σ H0' H' hi ⟨v8, v9, v10, ks', rfl, kp, B', hE, hks, hT, hen⟩ ⟨rfl, hx⟩
      obtain ⟨y, hy, rfl⟩ := str_of_map hx
      rw [List.length_map] at hi
      rw [List.getElem?_eq_getElem hi] at hy
      obtain rfl := Option.some.inj hy
      have hk1 := mok (by omega)
      have h3' := kp _ _ n3 nE3 h39
      refine ⟨_, rfl, _, rfl, b, c, (k : Int), rfl, B', by omega, by omega, fun fi H10 f0 f1 B10 k10 => ?_⟩
      refine ⟨_, rfl, _, _, rfl, rfl, _, rfl, _, rfl, _, _, rfl, rfl, b, c, (k : Int) - 1, rfl, B10, by omega, by omega, fun d H11 d0 d1 B11 k11 => ?_⟩
      refine ⟨_, _, rfl, rfl, _, rfl, _, _, rfl, rfl, by show (0 : Int) < (k : Int); omega, ?_⟩
      obtain ⟨l0, l1, lne⟩ := other_place f0 f1 d0 d1
      have k11' : Keep b H' H11 := k10.trans k11
      have h311 := k11' _ _ n3 h3'
      have hE11 := k11' _ _ nEb hE
      obtain ⟨j1, hj1, e1, a1⟩ := at_int (ns := ns) (z := if (fi + 1 + d) % (k : Int) < fi then (fi + 1 + d) % (k : Int) else fi) (by split <;> omega) (by rw [hnl]; split <;> omega)
      obtain ⟨j2, hj2, e2, a2⟩ := at_int (ns := ns) (z := if (fi + 1 + d) % (k : Int) > fi then (fi + 1 + d) % (k : Int) else fi) (by split <;> omega) (by rw [hnl]; split <;> omega)
      have jne : j1 ≠ j2 := by
        intro z
        subst z
        rw [← e1] at e2
        split at e2 <;> split at e2 <;> omega
      have vne : ns[j1] ≠ ns[j2] := by
        rcases Nat.lt_or_gt_of_ne jne with z | z
        · exact Int.ne_of_lt (List.pairwise_iff_getElem.mp asc j1 j2 hj1 hj2 z)
        · exact Int.ne_of_gt (List.pairwise_iff_getElem.mp asc j2 j1 hj2 hj1 z)
      refine ⟨_, rfl, _, rfl, _, rfl, _, _, rfl, p3, _, _, _, rfl, rfl, SqL.of h311, a1, ?_⟩
      refine ⟨_, rfl, _, rfl, _, rfl, _, _, rfl, p3, _, _, _, rfl, rfl, SqL.of h311, a2, ?_⟩
      refine ⟨by show 2 ≤ sizeLine; decide, fun t nt => ?_⟩
      have hE12 := (same_upd (o := .tup [.int ns[j1], .int ns[j2]]) nt) _ _ hE11
      have ht12 : SqT K (upd H11 t (.tup [.int ns[j1], .int ns[j2]])) t [.int ns[j1], .int ns[j2]] := SqT.of upd_same
      have B12 := B11.new (o := .tup [.int ns[j1], .int ns[j2]]) nt
      have k12' : Keep b H' (upd H11 t (.tup [.int ns[j1], .int ns[j2]])) := k11'.trans (keep_upd nt)
      generalize upd H11 t (.tup [.int ns[j1], .int ns[j2]]) = H12 at hE12 ht12 B12 k12' ⊢
      have hkl : ks'.length ≤ 24 := by
        have := congrArg List.length hks
        rw [List.length_map, List.length_take] at this
        omega
      refine ⟨_, rfl, _, rfl, E, _, rfl, DPut.k (k := Sum.inr zs[i]) hE12 (by rw [edgesK_len]; exact small1000 (by omega)), _, _, _, ks' ++ [(zs[i], t, ns[j1], ns[j2])], rfl, fun a o na ne h => ?_, ?_, ?_, ?_, fun q hq => ?_, fun q hq => ?_⟩
      · rw [upd_ne ne]
        exact k12' _ _ na (kp _ _ na ne h)
      · obtain ⟨i', h', s', cs, g1, g2, r⟩ := B12.ex
        exact ⟨i', h', s', cs, by rw [upd_ne nEb.symm]; exact g1, by rw [upd_ne (ne_of g2 hE12 (by intro z; cases z))]; exact g2, r⟩
      · rw [upd_same]
        refine congrArg (fun z => some (HO.dK z)) (edgesK_put ?_)
        rw [hks]
        exact not_taken ndz hi
      · rw [List.map_append, hks, take_step hi]
        rfl
      · refine sqt_upd ?_ hE12 (fun _ z => by cases z) fun _ _ z => by cases z
        rcases List.mem_append.mp hq with h | h
        · exact k12'.sqt B' (hT q h)
        · rw [List.mem_singleton.mp h]
          exact ht12
      · rcases List.mem_append.mp hq with h | h
        · exact hen q h
        · rw [List.mem_singleton.mp h]
          exact ⟨vne, List.getElem_mem hj1, List.getElem_mem hj2⟩
    rintro σ H' ⟨v8, v9, v10, ks', rfl, kp, B', hE, hks, hT, hen⟩
    rw [List.length_map, List.take_length] at hks
    refine ⟨_, rfl, _, rfl, by show 2 ≤ sizeLine; decide, fun t nt => ?_⟩
    have g : Good ⟨ns, M, ks'.map fun k => (k.1, TM.srt k.2.2)⟩ := mk_good asc (fun n _ => hM4 n) rg (by rw [hks]; exact ndz) hen fun q hq => hlet _ (by rw [← hks]; exact List.mem_map.mpr ⟨q, hq, rfl⟩)
    have hmb : m ≠ b := B6.ne (s56 _ _ hm5) fun _ z => by cases z
    refine q t m E _ _ (SqT.of upd_same) ((mk_raw (kp _ _ hmb nEm hm9) hE hT g).same (same_upd nt)) (B'.new nt) ?_
    intro a o na h
    have h5 := k5 _ _ na h
    have nE' : a ≠ E := by
      intro z
      rw [z, nE] at h5
      cases h5
    exact (same_upd nt) _ _ (kp _ _ na nE' (k69 _ _ na (s56 _ _ h5)))
end
end TK
end
section
set_option Elab.async false
set_option linter.all false
set_option autoImplicit false
set_option maxRecDepth 100000
set_option maxHeartbeats 4000000
/-! _law_renamed. -/
namespace TK
open PySem PySem.Spec PyProof.Rows L2
theorem bag_upd {H : Hp} {b c E : Addr} {kvs : List (Key × V)} {o : HO} (B : BagAt H b c) (hE : H E = some (.dK kvs)) : BagAt (upd H E o) b c := by
  obtain ⟨i', h', s', cs, g1, g2, r⟩ := B.ex
  exact ⟨i', h', s', cs, by rw [upd_ne (ne_of g1 hE (by intro z; cases z))]; exact g1, by rw [upd_ne (ne_of g2 hE (by intro z; cases z))]; exact g2, r⟩
section
variable {P : Program} {w : World} {K : PySem.W.Frag} {mg : Str → Option Value} {base : Heap} {C : Addr}
def spRenamed (K : PySem.W.Frag) : Sp := fun vs H Q _ => ∃ (b c p : Addr) (n n' : Int) (L : List (Addr × Int × Int)), vs = [.ref b, .int n, .ref p] ∧ BagAt H b c ∧ p ≠ b ∧ Pairs K H p n' L ∧ n' ≤ n ∧ 0 ≤ n ∧ n ≤ 12 ∧ L.length ≤ 24 ∧ RawPost K b c H Q
abbrev nRenamed : List Str := ["_law_bag_here", "_law_size", "_law_pairs", "_law_points", "_law_letters_here", "_law_marks", "_law_ends", "_law_at", "_law_one", "_law_other", "_law_first", "_law_last", "_law_point"]
theorem scRenamed : FnScope nRenamed ["_law_bag_here", "_law_size", "_law_pairs"] (C8.fnScope sRenamed) := C8.fnScope_by (by decide +kernel)
theorem cal_renamed {f : Addr} {fd : FuncData} (T : Txt K mg C) (F : C8.Def K mg "_law_renamed" sRenamed f fd) (b : Binds K fd ["_law_bag_here", "_law_size", "_law_pairs"] []) (cP : C8.Cal P w K mg base 1 "_law_pull" spPull []) (cM : C8.Cal P w K mg base 2 "_law_mixed" (spMixed K) []) (cL : C8.Cal P w K mg base 1 "_law_letters" spLetters []) :
    C8.Cal P w K mg base 3 "_law_renamed" (spRenamed K) [] := by
  refine C8.cal0 F b .nil scRenamed (fun vs H Q E h => ?_) (fun cdv A outer s H vs Q E hr h => ?_)
  · obtain ⟨b, c, _, _, _, _, rfl, _⟩ := h
    rfl
  · obtain ⟨b, c, p, n, n', L0, rfl, B, nbp, P0, nn, n0, n12, hL0, q⟩ := h
    have hu := hu_of hr
    have nd := scRenamed.nd
    refine ⟨_, pss_cons (ps_set (i := 3) nd rfl (.inl rfl) (pe_slice sl_list (C8.pe_c cM hr (by decide) (by rfl) (pa_cons (pv 0) (pa_cons (pe_listRg rfl (by rfl) T.list (prg_1 (by rfl) T.range pe_int)) pa_nil))) po_none (po_some (pv 1))))
      (pss_cons (ps_set (i := 4) nd rfl (.inl rfl) (C8.pe_c cM hr (by decide) (by rfl) (pa_cons (pv 0) (pa_cons (pe_callTy (call_listTxt rfl) (by rfl) T.list PyProof.Rows.boot_list (pa_cons (pe_c0 cL hr (by decide) (by rfl)) pa_nil)) pa_nil))))
      (pss_cons (ps_set (i := 5) nd rfl (.inl rfl) (pe_callTy (call_dictP rfl) (by rfl) T.dict (by decide +kernel) (pa_cons (pe_lc (own := [("_law_point", 12)]) (g := gName 12) (tt := tYes) (te := tePull 0 12) (by rfl) nd (pi_list (pe_callB cr_sorted (by rfl) T.sorted (by decide +kernel) (pa_cons (pv 3) pa_nil))) (blkOk_by (own := [("_law_point", 12)]) (N := nRenamed) (sc := C8.fnScope sRenamed) (by decide +kernel))
          (fun _ _ _ _ _ => pg_name (i := 12) nd rfl (.inl rfl)) (fun _ _ _ _ _ => pts_nil) (fun _ _ _ _ _ => pe_tup (pa_cons (pv 12) (pa_cons (C8.pe_c cP hr (by decide) (by rfl) (pa_cons (pv 0) (pa_cons pe_int pa_nil))) pa_nil)))) pa_nil)))
      (pss_cons (ps_set (i := 6) nd rfl (.inl rfl) pe_dnewK)
      (pss_cons (ps_for PassesOwn.never rfl (pi_range1 (by rfl) T.range (pa_cons (pe_callB call_len_seq (by rfl) T.len PySem.boot_len (pa_cons (pv 2) pa_nil)) pa_nil)) (pg_name (i := 7) nd rfl (.inl rfl))
          (pss_cons (ps_asg (pe_ix ix_list (pv 2) (pv 7) (fun _ _ => rfl)) (pg_tup (by rfl) (pgs_cons (pg_name (i := 8) nd rfl (.inl rfl)) (pgs_cons (pg_name (i := 9) nd rfl (.inl rfl)) pgs_nil))))
          (pss_cons (ps_par (i := 10) (j := 11) (by rfl) nd rfl rfl (by decide) rfl rfl (pa_cons (pe_ix ix_list (pv 3) (pv 8) (fun _ _ => rfl)) (pa_cons (pe_ix ix_list (pv 3) (pv 9) (fun _ _ => rfl)) pa_nil)) (by rfl))
          (pss_one (ps_dput hu (pv 6) (pe_ix ix_list (pv 4) (pv 7) (fun _ _ => rfl)) (pe_tup (pa_cons (pe_callB (call_min2 rfl) (by rfl) T.min (by decide +kernel) (pa_cons (pv 10) (pa_cons (pv 11) pa_nil))) (pa_cons (pe_callB (call_max2 rfl) (by rfl) T.max (by decide +kernel) (pa_cons (pv 10) (pa_cons (pv 11) pa_nil))) pa_nil))) rfl)))))
      (pss_one (ps_ret (pe_tup (pa_cons (pv 5) (pa_cons (pv 6) pa_nil))))))))), ?_⟩
    -- the points
    refine ⟨_, rfl, 12, rfl, ⟨by decide, by decide, by decide, by decide, by decide⟩, fun p0 np0 => ?_⟩
    have e12 : rgV 0 12 = (upTo 12).map V.int := rg_upTo 12
    rw [e12]
    refine ⟨b, c, p0, _, rfl, B.new np0, B.nn np0, SqL.of upd_same, by rw [List.length_map, upTo_len]; decide, fun p1 ys H2 pmV h1 n1 f1 B2 k2 => ?_⟩
    have k12 : Keep b H H2 := (keep_upd np0).trans k2
    obtain ⟨ms, rfl, pm⟩ := perm_of_map pmV
    obtain ⟨k, rfl⟩ : ∃ k : Nat, n = (k : Int) := ⟨n.toNat, by omega⟩
    refine ⟨_, rfl, _, rfl, p1, _, rfl, SqL.of h1, fun p2 np2 => ?_⟩
    rw [cut_take, ← List.map_take]
    have hml : (ms.take k).length = k := by
      have := pm.length_eq
      rw [upTo_len] at this
      rw [List.length_take]
      omega
    have hms : (ms.take k).Nodup := ((List.take_sublist k ms).nodup (pm.nodup_iff.mpr (upTo_nd 12)))
    have hmr : ∀ n ∈ ms.take k, 0 ≤ n ∧ n < 12 := fun n hn => mem_upTo.mp (pm.mem_iff.mp (List.mem_of_mem_take hn))
    generalize ms.take k = ps at hml hms hmr ⊢
    have B3 : BagAt (upd H2 p2 (.lst (ps.map V.int))) b c := B2.new np2
    have k3 : Keep b H (upd H2 p2 (.lst (ps.map V.int))) := k12.trans (keep_upd np2)
    have n2 : p2 ≠ b := B2.nn np2
    have h2 : (upd H2 p2 (.lst (ps.map V.int))) p2 = some (.lst (ps.map V.int)) := upd_same
    generalize upd H2 p2 (.lst (ps.map V.int)) = H3 at B3 k3 h2 ⊢
    -- the letters
    refine ⟨_, rfl, rfl, _, rfl, by show 24 ≤ 1000; decide, fun p4 np4 => ?_⟩
    refine ⟨b, c, p4, _, rfl, B3.new np4, B3.nn np4, SqL.of upd_same, by rw [List.length_map, letters_24]; decide, fun p5 ys H4 pmV h5 n5 f5 B4 k4 => ?_⟩
    obtain ⟨ls, rfl, pmL⟩ := perm_of_map pmV
    have k34 : Keep b H3 H4 := (keep_upd np4).trans k4
    have ndl : ls.Nodup := pmL.nodup_iff.mpr letters_nd
    have hll : ls.length = 24 := by rw [pmL.length_eq, letters_24]
    have h24 := k34 _ _ n2 h2
    -- the marks
    refine ⟨_, rfl, p2, _, rfl, SqL.of h24, by omega, fun ns p6 pm6 so6 np6 => ?_⟩
    have hnl : ns.length = k := by rw [pm6.length_eq, hml]
    have ndn : ns.Nodup := pm6.nodup_iff.mpr hms
    have asc : ns.Pairwise (· < ·) := TM.asc_of_le so6 ndn
    have rg : ∀ n ∈ ns, 0 ≤ n ∧ n < 12 := fun n hn => hmr n (pm6.mem_iff.mp hn)
    refine ⟨p6, rfl, ⟨_, SqL.of upd_same⟩, fun D nD => ?_⟩
    refine pulls_it ndn (by omega) rfl (by decide) (by show 12 < 13; decide) (B4.new np6) (SqL.of upd_same) (B4.nn np6) nD fun H6 M L B6 k6 hD6 hL6 ht6 hM6 => ?_
    refine ⟨D, L.map (·.1), marksK ns M, rfl, SqL.of (by rw [List.map_map]; exact hD6), by rw [← hL6]; exact paired_marks ht6, fun m nm => ?_⟩
    rw [merge_marks ndn]
    have B7 := B6.new (o := .dK (marksK ns M)) nm
    have k47 : Keep b H4 (upd H6 m (.dK (marksK ns M))) := ((keep_upd np6).trans k6).trans (keep_upd nm)
    have hm7 : (upd H6 m (.dK (marksK ns M))) m = some (.dK (marksK ns M)) := upd_same
    generalize upd H6 m (.dK (marksK ns M)) = H7 at B7 k47 hm7 ⊢
    refine fun E nE => ?_
    have nEb : E ≠ b := B7.nn nE
    have kH7 : Keep b H H7 := (k3.trans k34).trans k47
    have h27 := k47 _ _ n2 h24
    have h57 := k47 _ _ n5 h5
    have hp7 := kH7 _ _ nbp P0.at'
    refine ⟨_, rfl, p, _, rfl, .inl (SqL.of ((same_upd nE) _ _ hp7)), _, rfl, by omega, by rw [List.length_map]; omega, ?_⟩
    rw [List.length_map, Int.toNat_natCast]
    refine for_range (lo := 0) (n := L0.length) (fun i σ H' => ∃ v7 v8 v9 v10 v11, ∃ ks' : List (Str × Addr × Int × Int), σ = [some (.ref b), some (.int (k : Int)), some (.ref p), some (.ref p2), some (.ref p5), some (.ref m), some (.ref E), v7, v8, v9, v10, v11, none] ∧
        Keep b H7 H' ∧ BagAt H' b c ∧ H' E = some (.dK (edgesK ks')) ∧ ks'.map (·.1) = ls.take i ∧ (∀ q ∈ ks', SqT K H' q.2.1 [.int q.2.2.1, .int q.2.2.2]) ∧ ∀ q ∈ ks', q.2.2.1 ≠ q.2.2.2 ∧ q.2.2.1 ∈ ns ∧ q.2.2.2 ∈ ns)
      ⟨none, none, none, none, none, [], rfl, keep_upd nE, B7.new nE, upd_same, rfl, (fun _ h => by cases h), fun _ h => by cases h⟩ ?_ ?_
    · rintro i σ H' hi ⟨v7, v8, v9, v10, v11, ks', rfl, kp, B', hE, hks, hT, hen⟩
      have hp' := kp _ _ nbp hp7
      have hil : i < ls.length := by omega
      obtain ⟨hne, a0, a1, b0, b1⟩ := P0.ok _ (List.getElem_mem hi)
      refine ⟨_, rfl, _, rfl, p, _, _, _, rfl, rfl, SqL.of hp', at_of (j := i) (by omega) (by rw [List.getElem?_map, List.getElem?_eq_getElem hi]; rfl), L0[i].1, _, rfl, (kH7.trans kp).sqt B (P0.tu _ (List.getElem_mem hi)), rfl, _, _, rfl, _, _, rfl, rfl, ?_⟩
      obtain ⟨j1, hj1, e1, at1⟩ := at_int (ns := ps) (z := L0[i].2.1) a0 (by omega)
      obtain ⟨j2, hj2, e2, at2⟩ := at_int (ns := ps) (z := L0[i].2.2) b0 (by omega)
      have jne : j1 ≠ j2 := by
        intro z
        subst z
        exact hne (e1.trans e2.symm)
      have vne : ps[j1] ≠ ps[j2] := fun z => by
        rcases Nat.lt_or_gt_of_ne jne with y | y
        · exact List.pairwise_iff_getElem.mp hms j1 j2 hj1 hj2 y z
        · exact List.pairwise_iff_getElem.mp hms j2 j1 hj2 hj1 y z.symm
      have m1 : ps[j1] ∈ ns := pm6.mem_iff.mpr (List.getElem_mem hj1)
      have m2 : ps[j2] ∈ ns := pm6.mem_iff.mpr (List.getElem_mem hj2)
      have h2' := kp _ _ n2 h27
      have h5' := kp _ _ n5 h57
      refine ⟨_, rfl, _, rfl, p2, _, _, _, rfl, rfl, SqL.of h2', at1, _, rfl, _, rfl, p2, _, _, _, rfl, rfl, SqL.of h2', at2, _, _, rfl, ?_⟩
      refine ⟨_, rfl, _, rfl, _, _, rfl, _, rfl, _, rfl, _, _, rfl, by show 2 ≤ sizeLine; decide, fun t nt => ?_⟩
      have hE12 := (same_upd (o := .tup [.int (if ps[j2] < ps[j1] then ps[j2] else ps[j1]), .int (if ps[j2] > ps[j1] then ps[j2] else ps[j1])]) nt) _ _ hE
      have h512 := (same_upd (o := .tup [.int (if ps[j2] < ps[j1] then ps[j2] else ps[j1]), .int (if ps[j2] > ps[j1] then ps[j2] else ps[j1])]) nt) _ _ h5'
      have ht12 : SqT K (upd H' t (.tup [.int (if ps[j2] < ps[j1] then ps[j2] else ps[j1]), .int (if ps[j2] > ps[j1] then ps[j2] else ps[j1])])) t [.int (if ps[j2] < ps[j1] then ps[j2] else ps[j1]), .int (if ps[j2] > ps[j1] then ps[j2] else ps[j1])] := SqT.of upd_same
      have B12 := B'.new (o := .tup [.int (if ps[j2] < ps[j1] then ps[j2] else ps[j1]), .int (if ps[j2] > ps[j1] then ps[j2] else ps[j1])]) nt
      have k12' : Keep b H' (upd H' t (.tup [.int (if ps[j2] < ps[j1] then ps[j2] else ps[j1]), .int (if ps[j2] > ps[j1] then ps[j2] else ps[j1])])) := keep_upd nt
      have hlo : (if ps[j2] < ps[j1] then ps[j2] else ps[j1]) ≠ (if ps[j2] > ps[j1] then ps[j2] else ps[j1]) ∧ (if ps[j2] < ps[j1] then ps[j2] else ps[j1]) ∈ ns ∧ (if ps[j2] > ps[j1] then ps[j2] else ps[j1]) ∈ ns := by
        refine ⟨?_, ?_, ?_⟩
        · split <;> split <;> omega
        · split <;> assumption
        · split <;> assumption
      generalize upd H' t (.tup [.int (if ps[j2] < ps[j1] then ps[j2] else ps[j1]), .int (if ps[j2] > ps[j1] then ps[j2] else ps[j1])]) = H12 at hE12 h512 ht12 B12 k12' ⊢
      generalize (if ps[j2] < ps[j1] then ps[j2] else ps[j1]) = lo at ht12 hlo ⊢
      generalize (if ps[j2] > ps[j1] then ps[j2] else ps[j1]) = hi at ht12 hlo ⊢
      have hkl : ks'.length ≤ 24 := by
        have := congrArg List.length hks
        rw [List.length_map, List.length_take] at this
        omega
      refine ⟨_, rfl, _, rfl, _, rfl, p5, _, _, _, rfl, rfl, SqL.of h512, at_of (j := i) (by omega) (by rw [List.getElem?_map, List.getElem?_eq_getElem hil]; rfl), ?_⟩
      refine ⟨E, _, rfl, DPut.k (k := Sum.inr ls[i]) hE12 (by rw [edgesK_len]; exact small1000 (by omega)), _, _, _, _, _, ks' ++ [(ls[i], t, lo, hi)], rfl, ?_, ?_, ?_, ?_, fun q hq => ?_, fun q hq => ?_⟩
      · exact (kp.trans k12').updr nE
      · exact bag_upd B12 hE12
      · rw [upd_same]
        refine congrArg (fun z => some (HO.dK z)) (edgesK_put ?_)
        rw [hks]
        exact not_taken ndl hil
      · rw [List.map_append, hks, take_step hil]
        rfl
      · refine sqt_upd ?_ hE12 (fun _ z => by cases z) fun _ _ z => by cases z
        rcases List.mem_append.mp hq with h | h
        · exact k12'.sqt B' (hT q h)
        · rw [List.mem_singleton.mp h]
          exact ht12
      · rcases List.mem_append.mp hq with h | h
        · exact hen q h
        · rw [List.mem_singleton.mp h]
          exact hlo
    rintro σ H' ⟨v7, v8, v9, v10, v11, ks', rfl, kp, B', hE, hks, hT, hen⟩
    refine ⟨_, rfl, _, rfl, by show 2 ≤ sizeLine; decide, fun t nt => ?_⟩
    have g : Good ⟨ns, M, ks'.map fun k => (k.1, TM.srt k.2.2)⟩ := mk_good asc (fun n _ => hM6 n) rg (by rw [hks]; exact (List.take_sublist _ _).nodup ndl) hen fun q hq => pmL.mem_iff.mp (List.mem_of_mem_take (by rw [← hks]; exact List.mem_map.mpr ⟨q, hq, rfl⟩))
    have hmb : m ≠ b := B7.ne hm7 fun _ z => by cases z
    exact q t m E _ _ (SqT.of upd_same) ((mk_raw (kp _ _ hmb hm7) hE hT g).same (same_upd nt)) (B'.new nt) ((kH7.trans kp).trans (keep_upd nt))
end
end TK
end
section
set_option Elab.async false
set_option linter.all false
set_option autoImplicit false
set_option maxRecDepth 100000
set_option maxHeartbeats 4000000
/-! _law_hard, _law_some, _law_web. -/
namespace TK
open PySem PySem.Spec PyProof.Rows L2
theorem map_erase {α β : Type} (f : α → β) : ∀ (l : List α) (k : Nat), (l.map f).eraseIdx k = (l.eraseIdx k).map f
  | [], _ => rfl
  | a :: r, 0 => rfl
  | a :: r, k + 1 => by
    show f a :: (r.map f).eraseIdx k = f a :: (r.eraseIdx k).map f
    rw [map_erase f r k]
section
variable {K : PySem.W.Frag} {H H' : Hp} {b c p : Addr} {n : Int} {L : List (Addr × Int × Int)}
theorem Pairs.keep (P : Pairs K H p n L) (B : BagAt H b c) (nb : p ≠ b) (k : Keep b H H') : Pairs K H' p n L := ⟨k _ _ nb P.at', fun q hq => k.sqt B (P.tu q hq), P.ok⟩
theorem Pairs.same (P : Pairs K H p n L) (s : Same H H') : Pairs K H' p n L := ⟨s _ _ P.at', fun q hq => Same.sqt s (P.tu q hq), P.ok⟩
theorem Pairs.pop (P : Pairs K H p n L) (i : Nat) : Pairs K (upd H p (.lst ((L.map fun q => V.ref q.1).eraseIdx i))) p n (L.eraseIdx i) :=
  ⟨by rw [upd_same, map_erase], (fun q hq => sqt_upd (P.tu q (List.mem_of_mem_eraseIdx hq)) P.at' (fun _ z => by cases z) fun _ _ z => by cases z), fun q hq => P.ok q (List.mem_of_mem_eraseIdx hq)⟩
theorem bag_lst {o : HO} {xs : List V} (B : BagAt H b c) (h : H p = some (.lst xs)) (nb : p ≠ b) (nc : p ≠ c) : BagAt (upd H p o) b c := by
  obtain ⟨i', h', s', cs, g1, g2, r⟩ := B.ex
  exact ⟨i', h', s', cs, by rw [upd_ne nb.symm]; exact g1, by rw [upd_ne nc.symm]; exact g2, r⟩
end
section
variable {P : Program} {w : World} {K : PySem.W.Frag} {mg : Str → Option Value} {base : Heap} {C : Addr}
def spHard (K : PySem.W.Frag) : Sp := fun vs H Q _ => ∃ (b c : Addr), vs = [.ref b] ∧ BagAt H b c ∧ RawPost K b c H Q
abbrev nHard : List Str := ["_law_bag_here", "_law_pairs", "_law_size", "_law_turn", "_law_first", "_law_last"]
theorem scHard : FnScope nHard ["_law_bag_here"] (C8.fnScope sHard) := C8.fnScope_by (by decide +kernel)
/-- what stands between the steps -/
structure Hst (K : PySem.W.Frag) (b c : Addr) (H H' : Hp) (p : Addr) (L : List (Addr × Int × Int)) (sz : Int) (l1 : Nat) (s1 : Int) : Prop where
  pr : Pairs K H' p sz L
  bg : BagAt H' b c
  kp : Keep b H H'
  nw : H p = none
  lo : 7 ≤ L.length
  hi : L.length ≤ l1
  s0 : 5 ≤ sz
  s1 : sz ≤ s1
theorem Hst.keep {b c : Addr} {H H' H'' : Hp} {p : Addr} {L : List (Addr × Int × Int)} {sz : Int} {l1 : Nat} {s1 : Int} (st : Hst K b c H H' p L sz l1 s1) (B : BagAt H b c) (B' : BagAt H'' b c) (k : Keep b H' H'') : Hst K b c H H'' p L sz l1 s1 :=
  ⟨st.pr.keep st.bg (B.nn st.nw) k, B', st.kp.trans k, st.nw, st.lo, st.hi, st.s0, st.s1⟩
theorem len_erase {α : Type} {l : List α} {i : Nat} (h : i < l.length) : (l.eraseIdx i).length + 1 = l.length := by
  rw [List.length_eraseIdx, if_pos h]
  omega
theorem Hst.pop {b c : Addr} {H H' : Hp} {p : Addr} {L : List (Addr × Int × Int)} {sz : Int} {l1 : Nat} {s1 : Int} (st : Hst K b c H H' p L sz l1 s1) (B : BagAt H b c) {i : Nat} (hi : i < L.length) (h8 : 8 ≤ L.length) :
    Hst K b c H (upd H' p (.lst ((L.map fun q => V.ref q.1).eraseIdx i))) p (L.eraseIdx i) sz l1 s1 :=
  ⟨st.pr.pop i, bag_lst st.bg st.pr.at' (B.nn st.nw) (B.nc st.nw), st.kp.updr st.nw, st.nw, by have := len_erase hi; omega, by have := len_erase hi; have := st.hi; omega, st.s0, st.s1⟩
theorem cal_hard {f : Addr} {fd : FuncData} (T : Txt K mg C) (F : C8.Def K mg "_law_hard" sHard f fd) (b : Binds K fd ["_law_bag_here"] []) (cP : C8.Cal P w K mg base 1 "_law_pull" spPull []) (cO : C8.Cal P w K mg base 2 "_law_of" (spOf K) []) (c5 : C8.Cal P w K mg base 1 "_law_five" (spPairs K 5 10) []) (c6 : C8.Cal P w K mg base 1 "_law_six" (spPairs K 6 9) [])
    (cR : C8.Cal P w K mg base 3 "_law_renamed" (spRenamed K) []) : C8.Cal P w K mg base 4 "_law_hard" (spHard K) [] := by
  refine C8.cal0 F b .nil scHard (fun vs H Q E h => ?_) (fun cdv A outer s H vs Q E hr h => ?_)
  · obtain ⟨b, c, rfl, _⟩ := h
    rfl
  · obtain ⟨b, c, rfl, B, q⟩ := h
    have hu := hu_of hr
    have nd := scHard.nd
    refine ⟨_, pss_cons (ps_set (i := 1) nd rfl (.inl rfl) (C8.pe_c cO hr (by decide) (by rfl) (pa_cons (pv 0) (pa_cons (pe_lst (pa_cons (pe_c0 c5 hr (by decide) (by rfl)) (pa_cons (pe_c0 c6 hr (by decide) (by rfl)) pa_nil))) pa_nil))))
      (C8.pss_cut (ps_set (i := 2) nd rfl (.inl rfl) (pe_ifExp (pt_cmpR op_eq (pe_callB call_len_seq (by rfl) T.len PySem.boot_len (pa_cons (pv 1) pa_nil)) pe_int (nomark _)) pe_int pe_int))
      (C8.pss_cut (ps_if (pt_cmpR op_eq (C8.pe_c cP hr (by decide) (by rfl) (pa_cons (pv 0) (pa_cons pe_int pa_nil))) pe_int (nomark _))
          (pss_one (ps_expr (pe_bm PySem.F.plainAttrs_list PySem.F.slot_list_pop PySem.F.type_list_pop mt_popAt (pv 1) (pa_cons (C8.pe_c cP hr (by decide) (by rfl) (pa_cons (pv 0) (pa_cons (pe_callB call_len_seq (by rfl) T.len PySem.boot_len (pa_cons (pv 1) pa_nil)) pa_nil))) pa_nil)))) pss_nil)
      (pss_cons (ps_for PassesOwn.never rfl (pi_range1 (by rfl) T.range (pa_cons (C8.pe_c cP hr (by decide) (by rfl) (pa_cons (pv 0) (pa_cons pe_int pa_nil))) pa_nil)) (pg_name (i := 3) nd rfl (.inl rfl))
          (pss_cons (ps_asg (pe_bm PySem.F.plainAttrs_list PySem.F.slot_list_pop PySem.F.type_list_pop mt_popAt (pv 1) (pa_cons (C8.pe_c cP hr (by decide) (by rfl) (pa_cons (pv 0) (pa_cons (pe_callB call_len_seq (by rfl) T.len PySem.boot_len (pa_cons (pv 1) pa_nil)) pa_nil))) pa_nil)) (pg_tup (by rfl) (pgs_cons (pg_name (i := 4) nd rfl (.inl rfl)) (pgs_cons (pg_name (i := 5) nd rfl (.inl rfl)) pgs_nil))))
          (pss_cons (ps_set (i := 1) nd rfl (.inl rfl) (pe_op op_cat (pv 1) (pe_lst (pa_cons (pe_tup (pa_cons (pv 4) (pa_cons (pv 2) pa_nil))) (pa_cons (pe_tup (pa_cons (pv 2) (pa_cons (pv 5) pa_nil))) pa_nil)))))
          (pss_one (ps_set (i := 2) nd rfl (.inl rfl) (pe_op op_add (pv 2) pe_int))))))
      (pss_cons (ps_for PassesOwn.never rfl (pi_range1 (by rfl) T.range (pa_cons (C8.pe_c cP hr (by decide) (by rfl) (pa_cons (pv 0) (pa_cons pe_int pa_nil))) pa_nil)) (pg_name (i := 3) nd rfl (.inl rfl))
          (pss_cons (ps_set (i := 4) nd rfl (.inl rfl) (C8.pe_c cP hr (by decide) (by rfl) (pa_cons (pv 0) (pa_cons (pv 2) pa_nil))))
          (pss_one (ps_expr (pe_bm PySem.F.plainAttrs_list PySem.F.slot_list_append PySem.F.type_list_append mt_append (pv 1) (pa_cons (pe_tup (pa_cons (pv 4) (pa_cons (pe_op op_mod (pe_op op_add (pe_op op_add (pv 4) pe_int) (C8.pe_c cP hr (by decide) (by rfl) (pa_cons (pv 0) (pa_cons (pe_op op_sub (pv 2) pe_int) pa_nil)))) (pv 2)) pa_nil))) pa_nil))))))
      (pss_one (ps_ret (C8.pe_c cR hr (by decide) (by rfl) (pa_cons (pv 0) (pa_cons (pe_op op_add (pv 2) (C8.pe_c cP hr (by decide) (by rfl) (pa_cons (pv 0) (pa_cons pe_int pa_nil)))) (pa_cons (pv 1) pa_nil)))))))))), ?_⟩
    refine ⟨_, rfl, rfl, fun p5 L5 H1 s1 n5 P5 e5 => ⟨rfl, fun p6 L6 H2 s2 n6 P6 e6 => ⟨by show 2 ≤ sizeLine; decide, fun pl npl => ?_⟩⟩⟩
    have B2 := B.same (s1.trans s2)
    refine ⟨b, c, pl, _, rfl, B2.new npl, B2.nn npl, SqL.of upd_same, by show 1 ≤ 2; decide, by show 2 ≤ 1000; decide, fun x H3 hx B3 k3 => ?_⟩
    have n6' : H p6 = none := s1.free n6
    have kH3 : Keep b H H3 := (Keep.same ((s1.trans s2).trans (same_upd npl))).trans k3
    have hst : ∃ (p : Addr) (L : List (Addr × Int × Int)) (sz : Int), x = .ref p ∧ Hst K b c H H3 p L sz 10 6 ∧ 9 ≤ L.length ∧ (decide ((L.length : Int) = 10) = true → sz = 5) ∧ (decide ((L.length : Int) = 10) = false → sz = 6) := by
      rcases List.mem_cons.mp hx with rfl | hx
      · exact ⟨p5, L5, 5, rfl, ⟨((P5.same s2).same (same_upd npl)).keep (B2.new npl) (B.nn n5) k3, B3, kH3, n5, by omega, by omega, by omega, by omega⟩, by omega, fun _ => rfl, fun z => by simp [e5] at z⟩
      · obtain rfl := List.mem_singleton.mp hx
        exact ⟨p6, L6, 6, rfl, ⟨(P6.same (same_upd npl)).keep (B2.new npl) (B.nn n6') k3, B3, kH3, n6', by omega, by omega, by omega, by omega⟩, by omega, fun z => by simp [e6] at z, fun _ => rfl⟩
    obtain ⟨p, L, sz, rfl, st, l9, hs1, hs2⟩ := hst
    -- the size
    refine ⟨fun σ' H' => σ' = [some (.ref b), some (.ref p), some (.int sz), none, none, none] ∧ H' = H3, ?_, ?_⟩
    · refine ⟨_, rfl, p, _, rfl, .inl (SqL.of st.pr.at'), rfl, _, rfl, ?_⟩
      show if decide (V.int ((L.map fun q => V.ref q.1).length : Int) = V.int 10) = true then _ else _
      rw [dec_int, List.length_map]
      cases hd : decide ((L.length : Int) = 10) with
      | true =>
        rw [hs1 hd]
        exact iteT ⟨rfl, rfl⟩
      | false =>
        rw [hs2 hd]
        exact iteF ⟨rfl, rfl⟩
    rintro _ _ ⟨rfl, rfl⟩
    -- one may go
    refine ⟨fun σ' H' => ∃ L' : List (Addr × Int × Int), σ' = [some (.ref b), some (.ref p), some (.int sz), none, none, none] ∧ Hst K b c H H' p L' sz 10 6 ∧ 8 ≤ L'.length, ?_, ?_⟩
    · refine ⟨_, rfl, b, c, 3, rfl, st.bg, by decide, by decide, fun d H4 d0 d1 B4 k4 => ⟨rfl, _, rfl, ?_⟩⟩
      have st4 := st.keep B B4 k4
      show if decide (V.int d = V.int 0) = true then _ else _
      rw [dec_int]
      by_cases hd : d = 0
      · rw [decide_eq_true hd]
        refine iteT ⟨_, rfl, .inl ⟨rfl, _, SqL.of st4.pr.at'⟩, _, rfl, _, rfl, p, _, rfl, .inl (SqL.of st4.pr.at'), b, c, _, rfl, B4, ?_, ?_, fun e H5 e0 e1 B5 k5 => ?_⟩
        · rw [List.length_map]; omega
        · have := st4.hi; rw [List.length_map]; omega
        rw [List.length_map] at e1
        have st5 := st4.keep B B5 k5
        have he : e.toNat < L.length := by omega
        refine ⟨p, _, e, e.toNat, _, rfl, rfl, st5.pr.at', by omega, by have := st5.hi; omega, PyProof.Rows.seqIndex_at (by omega) (by rw [List.length_map]; omega), by rw [List.getElem?_map, List.getElem?_eq_getElem he]; rfl, ?_⟩
        exact ⟨L.eraseIdx e.toNat, rfl, st5.pop B he (by omega), by have := len_erase he; omega⟩
      · rw [decide_eq_false hd]
        exact iteF ⟨L, rfl, st4, by omega⟩
    rintro σ4 H4 ⟨L4, rfl, st4, l8⟩
    -- the subdivided
    refine ⟨_, rfl, b, c, 3, rfl, st4.bg, by decide, by decide, fun d H5 d0 d1 B5 k5 => ⟨_, rfl, by omega, by omega, ?_⟩⟩
    have st5 := st4.keep B B5 k5
    refine for_range (lo := 0) (n := d.toNat) (fun i σ H' => ∃ (p : Addr) (L : List (Addr × Int × Int)) (sz : Int) (v3 v4 v5 : Option V), σ = [some (.ref b), some (.ref p), some (.int sz), v3, v4, v5] ∧ Hst K b c H H' p L sz (10 + i) (6 + i) ∧ 8 ≤ L.length)
      ⟨p, L4, sz, none, none, none, rfl, ⟨st5.pr, st5.bg, st5.kp, st5.nw, st5.lo, st5.hi, st5.s0, by have := st5.s1; omega⟩, l8⟩ ?_ ?_
    · rintro i σ H' hi ⟨p, L, sz, v3, v4, v5, rfl, st, l8⟩
      refine ⟨_, rfl, .inl ⟨rfl, _, SqL.of st.pr.at'⟩, _, rfl, _, rfl, p, _, rfl, .inl (SqL.of st.pr.at'), b, c, _, rfl, st.bg, ?_, ?_, fun e H6 e0 e1 B6 k6 => ?_⟩
      · rw [List.length_map]; omega
      · have := st.hi; rw [List.length_map]; omega
      rw [List.length_map] at e1
      have st6 := st.keep B B6 k6
      have he : e.toNat < L.length := by omega
      refine ⟨p, _, e, e.toNat, _, rfl, rfl, st6.pr.at', by omega, by have := st6.hi; omega, PyProof.Rows.seqIndex_at (by omega) (by rw [List.length_map]; omega), by rw [List.getElem?_map, List.getElem?_eq_getElem he]; rfl, ?_⟩
      have st7 := st6.pop B he (by omega)
      have hle := len_erase he
      have htu := sqt_upd (u := .lst ((L.map fun q => V.ref q.1).eraseIdx e.toNat)) (st6.pr.tu _ (List.getElem_mem he)) st6.pr.at' (fun _ z => by cases z) fun _ _ z => by cases z
      obtain ⟨hne, a0, a1, b0, b1⟩ := st6.pr.ok _ (List.getElem_mem he)
      generalize upd H6 p (.lst ((L.map fun q => V.ref q.1).eraseIdx e.toNat)) = H7 at st7 htu ⊢
      refine ⟨L[e.toNat].1, _, rfl, htu, rfl, _, _, rfl, _, _, rfl, rfl, ?_⟩
      refine ⟨_, rfl, _, rfl, _, rfl, by show 2 ≤ sizeLine; decide, fun t1 n1 => ?_⟩
      refine ⟨_, rfl, _, rfl, by show 2 ≤ sizeLine; decide, fun t2 n2 => ?_⟩
      refine ⟨by show 2 ≤ sizeLine; decide, fun l nl => ?_⟩
      have s8 : Same H7 (upd (upd (upd H7 t1 (.tup [.int L[e.toNat].2.1, .int sz])) t2 (.tup [.int sz, .int L[e.toNat].2.2])) l (.lst [.ref t1, .ref t2])) := ((same_upd n1).trans (same_upd n2)).trans (same_upd nl)
      have ht1 : SqT K (upd (upd (upd H7 t1 (.tup [.int L[e.toNat].2.1, .int sz])) t2 (.tup [.int sz, .int L[e.toNat].2.2])) l (.lst [.ref t1, .ref t2])) t1 [.int L[e.toNat].2.1, .int sz] := Same.sqt ((same_upd n2).trans (same_upd nl)) (SqT.of upd_same)
      have ht2 : SqT K (upd (upd (upd H7 t1 (.tup [.int L[e.toNat].2.1, .int sz])) t2 (.tup [.int sz, .int L[e.toNat].2.2])) l (.lst [.ref t1, .ref t2])) t2 [.int sz, .int L[e.toNat].2.2] := Same.sqt (same_upd nl) (SqT.of upd_same)
      have hl8 : (upd (upd (upd H7 t1 (.tup [.int L[e.toNat].2.1, .int sz])) t2 (.tup [.int sz, .int L[e.toNat].2.2])) l (.lst [.ref t1, .ref t2])) l = some (.lst [.ref t1, .ref t2]) := upd_same
      generalize upd (upd (upd H7 t1 (.tup [.int L[e.toNat].2.1, .int sz])) t2 (.tup [.int sz, .int L[e.toNat].2.2])) l (.lst [.ref t1, .ref t2]) = H8 at s8 ht1 ht2 hl8 ⊢
      have st8 := st7.keep B (st7.bg.same s8) (Keep.same s8)
      have hhi := st8.hi
      refine ⟨p, l, _, _, rfl, rfl, st8.pr.at', hl8, ?_, fun p' np' => ?_⟩
      · rw [List.length_map]
        exact small63 (by show _ + 2 ≤ 63; omega)
      refine ⟨_, rfl, _, _, rfl, rfl, p', L.eraseIdx e.toNat ++ [(t1, L[e.toNat].2.1, sz), (t2, sz, L[e.toNat].2.2)], sz + 1, _, _, _, rfl, ⟨⟨?_, fun q hq => ?_, fun q hq => ?_⟩, st8.bg.new np', st8.kp.trans (keep_upd np'), st8.kp.free np' (st8.bg.nn np'), ?_, ?_, ?_, ?_⟩, ?_⟩
      · rw [upd_same, List.map_append]
        rfl
      · refine Same.sqt (same_upd np') ?_
        rcases List.mem_append.mp hq with h | h
        · exact st8.pr.tu q h
        · rcases List.mem_cons.mp h with rfl | h
          · exact ht1
          · rw [List.mem_singleton.mp h]
            exact ht2
      · have h5 := st8.s0
        rcases List.mem_append.mp hq with h | h
        · have := st8.pr.ok q h
          omega
        · rcases List.mem_cons.mp h with rfl | h
          · dsimp only
            omega
          · rw [List.mem_singleton.mp h]
            dsimp only
            omega
      · rw [List.length_append]
        show 7 ≤ _ + 2
        omega
      · rw [List.length_append]
        show _ + 2 ≤ _
        have := st6.hi
        omega
      · have := st8.s0
        omega
      · have := st8.s1
        omega
      · rw [List.length_append]
        show 8 ≤ _ + 2
        omega
    rintro σ5 H6 ⟨p, L, sz, v3, v4, v5, rfl, st6, l6⟩
    -- the added
    refine ⟨_, rfl, b, c, 3, rfl, st6.bg, by decide, by decide, fun d2 H7 d20 d21 B7 k7 => ⟨_, rfl, by omega, by omega, ?_⟩⟩
    have st7 := st6.keep B B7 k7
    refine for_range (lo := 0) (n := d2.toNat) (fun i σ H' => ∃ (L : List (Addr × Int × Int)) (v3 v4 v5 : Option V), σ = [some (.ref b), some (.ref p), some (.int sz), v3, v4, v5] ∧ Hst K b c H H' p L sz (12 + i) 8)
      ⟨L, _, _, _, rfl, st7.pr, st7.bg, st7.kp, st7.nw, st7.lo, by have := st7.hi; omega, st7.s0, by have := st7.s1; omega⟩ ?_ ?_
    · rintro i σ H' hi ⟨L, v3, v4, v5, rfl, st⟩
      have h5 := st.s0
      have h8 := st.s1
      refine ⟨_, rfl, _, rfl, b, c, sz, rfl, st.bg, by omega, by omega, fun fi H8 f0 f1 B8 k8 => ?_⟩
      have st8 := st.keep B B8 k8
      refine ⟨_, rfl, .inl ⟨rfl, _, SqL.of st8.pr.at'⟩, _, rfl, _, rfl, _, _, rfl, rfl, _, rfl, _, rfl, _, _, rfl, rfl, b, c, sz - 1, rfl, B8, by omega, by omega, fun d H9 d0 d1 B9 k9 => ?_⟩
      have st9 := st8.keep B B9 k9
      obtain ⟨l0, l1, lne⟩ := other_place f0 f1 d0 d1
      refine ⟨_, _, rfl, rfl, _, rfl, _, _, rfl, rfl, by show (0 : Int) < sz; omega, by show 2 ≤ sizeLine; decide, fun t nt => ?_⟩
      dsimp only
      generalize (fi + 1 + d) % sz = la at l0 l1 lne ⊢
      have st10 := st9.keep B (B9.new (o := .tup [.int fi, .int la]) nt) (keep_upd nt)
      have ht : SqT K (upd H9 t (.tup [.int fi, .int la])) t [.int fi, .int la] := SqT.of upd_same
      generalize upd H9 t (.tup [.int fi, .int la]) = H10 at st10 ht ⊢
      have hhi := st10.hi
      refine ⟨p, _, .ref t, rfl, rfl, st10.pr.at', ?_, L ++ [(t, fi, la)], _, _, _, rfl, ⟨?_, fun q hq => ?_, fun q hq => ?_⟩, bag_lst st10.bg st10.pr.at' (B.nn st10.nw) (B.nc st10.nw), st10.kp.updr st10.nw, st10.nw, ?_, ?_, h5, h8⟩
      · rw [List.length_map]
        exact small1000 (by omega)
      · rw [upd_same, List.map_append]
        rfl
      · refine sqt_upd ?_ st10.pr.at' (fun _ z => by cases z) fun _ _ z => by cases z
        rcases List.mem_append.mp hq with h | h
        · exact st10.pr.tu q h
        · rw [List.mem_singleton.mp h]
          exact ht
      · rcases List.mem_append.mp hq with h | h
        · exact st10.pr.ok q h
        · rw [List.mem_singleton.mp h]
          dsimp only
          omega
      · rw [List.length_append]
        have := st10.lo
        omega
      · rw [List.length_append]
        show _ + 1 ≤ _
        omega
    rintro σ8 H8 ⟨L, v3, v4, v5, rfl, st8⟩
    have h5 := st8.s0
    have h8 := st8.s1
    have hhi := st8.hi
    refine ⟨_, rfl, _, rfl, _, rfl, b, c, 2, rfl, st8.bg, by decide, by decide, fun d H9 d0 d1 B9 k9 => ?_⟩
    have st9 := st8.keep B B9 k9
    refine ⟨_, _, rfl, rfl, _, rfl, b, c, p, sz + d, sz, L, rfl, B9, B.nn st9.nw, st9.pr, by omega, by omega, by omega, by omega, fun t m e W H' h1 h2 h3 k => ?_⟩
    exact q t m e W H' h1 h2 h3 (st9.kp.trans k)
end
end TK
end
section
set_option Elab.async false
set_option linter.all false
set_option autoImplicit false
set_option maxRecDepth 100000
set_option maxHeartbeats 4000000
/-! _law_some, _law_web. -/
namespace TK
open PySem PySem.Spec PyProof.Rows L2
section
variable {P : Program} {w : World} {K : PySem.W.Frag} {mg : Str → Option Value} {base : Heap} {C : Addr}
theorem scSome : FnScope ["_law_bag_here"] ["_law_bag_here"] (C8.fnScope sSome) := C8.fnScope_by (by decide +kernel)
theorem cal_some {f : Addr} {fd : FuncData} (T : Txt K mg C) (F : C8.Def K mg "_law_some" sSome f fd) (b : Binds K fd ["_law_bag_here"] []) (cP : C8.Cal P w K mg base 1 "_law_pull" spPull []) (cH : C8.Cal P w K mg base 4 "_law_hard" (spHard K) []) (cR : C8.Cal P w K mg base 3 "_law_raw" (spRaw K) []) : C8.Cal P w K mg base 5 "_law_some" (spHard K) [] := by
  refine C8.cal0 F b .nil scSome (fun vs H Q E h => ?_) (fun cdv A outer s H vs Q E hr h => ?_)
  · obtain ⟨b, c, rfl, _⟩ := h
    rfl
  · obtain ⟨b, c, rfl, B, q⟩ := h
    refine ⟨_, pss_one (ps_ret (pe_ifExp (pt_cmpR op_eq (C8.pe_c cP hr (by decide) (by rfl) (pa_cons (pv 0) (pa_cons pe_int pa_nil))) pe_int (nomark _)) (C8.pe_c cH hr (by decide) (by rfl) (pa_cons (pv 0) pa_nil)) (C8.pe_c cR hr (by decide) (by rfl) (pa_cons (pv 0) (pa_cons pe_int (pa_cons pe_int pa_nil)))))), ?_⟩
    refine ⟨_, rfl, b, c, 3, rfl, B, by decide, by decide, fun d H1 d0 d1 B1 k1 => ⟨rfl, _, rfl, ?_⟩⟩
    have q1 : RawPost K b c H1 Q := fun t m e W H' h1 h2 h3 k => q t m e W H' h1 h2 h3 (k1.trans k)
    show if decide (V.int d = V.int 0) = true then _ else _
    cases decide (V.int d = V.int 0) with
    | true => exact iteT ⟨_, rfl, b, c, rfl, B1, q1⟩
    | false => exact iteF ⟨_, rfl, b, c, 6, 9, rfl, B1, by decide, by decide, by decide, by decide, q1⟩
def spWeb (K : PySem.W.Frag) (C : Addr) : Sp := fun vs H Q _ => ∃ (t m e : Addr) (W : Wb), vs = [.ref t] ∧ SqT K H t [.ref m, .ref e] ∧ RawAt K H m e W ∧ ∀ x H', Same H H' → WebAt K C H' x W → Q (.ref x) H'
theorem scWeb : FnScope ["_law_raw_here"] ["_law_raw_here"] (C8.fnScope sWeb) := C8.fnScope_by (by decide +kernel)
theorem cal_web {f : Addr} {fd : FuncData} (T : Txt K mg C) (F : C8.Def K mg "_law_web" sWeb f fd) (b : Binds K fd ["_law_raw_here"] []) (cI : C8.Mak P w K mg base 3 "Web" C (spInit K C) []) : C8.Cal P w K mg base 5 "_law_web" (spWeb K C) [] := by
  refine C8.cal0 F b .nil scWeb (fun vs H Q E h => ?_) (fun cdv A outer s H vs Q E hr h => ?_)
  · obtain ⟨t, m, e, W, rfl, _⟩ := h
    rfl
  · obtain ⟨t, m, e, W, rfl, ht, raw, q⟩ := h
    refine ⟨_, pss_one (ps_ret (C8.pe_mk cI hr (by decide) (by rfl) (pa_cons (pe_callTy call_dictD (by rfl) T.dict (by decide +kernel) (pa_cons (pe_ix ix_tup (pv 0) pe_int (fun _ _ => rfl)) pa_nil)) (pa_cons (pe_callTy call_dictD (by rfl) T.dict (by decide +kernel) (pa_cons (pe_ix ix_tup (pv 0) pe_int (fun _ _ => rfl)) pa_nil)) pa_nil)))), ?_⟩
    obtain ⟨ns, ks, rx⟩ := raw.ex
    refine ⟨_, rfl, t, _, _, _, rfl, rfl, ht, rfl, m, _, rfl, .inl rx.md, fun m' nm => ?_⟩
    have s1 : Same H (upd H m' (.dK (marksK ns W.M))) := same_upd nm
    have hm : (upd H m' (.dK (marksK ns W.M))) m' = some (.dK (marksK ns W.M)) := upd_same
    generalize upd H m' (.dK (marksK ns W.M)) = H1 at s1 hm ⊢
    refine ⟨_, rfl, t, _, _, _, rfl, rfl, Same.sqt s1 ht, rfl, e, _, rfl, .inl (s1 _ _ rx.ed), fun e' ne => ?_⟩
    have s2 : Same H1 (upd H1 e' (.dK (edgesK ks))) := same_upd ne
    have he : (upd H1 e' (.dK (edgesK ks))) e' = some (.dK (edgesK ks)) := upd_same
    generalize upd H1 e' (.dK (edgesK ks)) = H2 at s2 he ⊢
    have raw2 : RawAt K H2 m' e' W := ⟨ns, ks, s2 _ _ hm, he, fun k hk => Same.sqt (s1.trans s2) (rx.tu k hk), rx.pn, rx.pe, rx.gd⟩
    refine fun x' dx' nx ndx nex => ?_
    have s3 : Same H2 (upd (upd H2 dx' (.own x')) x' (.ins C dx' [])) := Same.updr (same_upd ndx) nx
    refine ⟨x', dx', m', e', W, rfl, upd_same, raw2.same s3, fun H3 kp wb' => ⟨rfl, q x' H3 (fun a o h => ?_) wb'⟩⟩
    have h2 := s2 _ _ (s1 _ _ h)
    exact kp a o (ne_of_none h2 nx) (s3 _ _ h2)
end
end TK
end
section
set_option Elab.async false
set_option linter.all false
set_option autoImplicit false
set_option maxRecDepth 100000
set_option maxHeartbeats 4000000
/-! What the law asks of lists, tuples, components. -/
namespace TK
open PySem PySem.Spec PyProof.Rows L2

theorem len_sub {α : Type} [DecidableEq α] {l m : List α} (nd : l.Nodup) (h : ∀ x ∈ l, x ∈ m) : l.length ≤ m.length := by
  induction l generalizing m with
  | nil => exact Nat.zero_le _
  | cons a r ih =>
    obtain ⟨h1, h2⟩ := List.nodup_cons.mp nd
    have ha : a ∈ m := h a List.mem_cons_self
    have hr : ∀ x ∈ r, x ∈ m.erase a := fun x hx => (List.mem_erase_of_ne (fun e => h1 (by rw [← e]; exact hx))).mpr (h x (List.mem_cons_of_mem _ hx))
    have := ih h2 hr
    rw [List.length_erase_of_mem ha] at this
    have : 0 < m.length := List.length_pos_of_mem ha
    rw [List.length_cons]
    omega
theorem comps_len {W : Wb} (g : Good W) {L : List (List Int)} (c : TM.Comps W L) : L.length ≤ 12 := by
  have h : ∀ x ∈ L, x ∈ W.ns.map (TM.comp W) := fun x hx => by
    obtain ⟨n, hn, rfl⟩ := (c.all x).mp hx
    exact List.mem_map.mpr ⟨n, hn, rfl⟩
  have := len_sub c.nd h
  rw [List.length_map] at this
  exact Nat.le_trans this (ns_len g)

/-! ### != of lists and tuples -/
section
variable {K : PySem.W.Frag} {H : Hp} {Q : VK}
theorem lay_list (xs : List V) : PyData.canLay0 (.list (xs.map flatD)) = true := by simp [PyData.canLay0, lay_all]
theorem plain_bl (bs : List Bool) : ∀ x ∈ bs.map V.bl, plainV x = true := fun x hx => by
  obtain ⟨b, _, rfl⟩ := List.mem_map.mp hx
  rfl
theorem ne_bools {a b : Addr} {bs : List Bool} (ha : SqL K H a (bs.map V.bl)) (hb : SqL K H b (bs.map V.bl)) (q : Q (.bl false) H) : rNeD K (.ref a) (.ref b) H Q := by
  refine ⟨_, _, .lst ha (dp_all (plain_bl bs)), .lst hb (dp_all (plain_bl bs)), shaped_list _, shaped_list _, ?_⟩
  rw [SeqAt.eqv_refl _ (lay_list _)]
  exact q
theorem ne_pair {t u : Addr} {k g k' g' : Int} (ht : SqT K H t [.int k, .int g]) (hu : SqT K H u [.int k', .int g']) (q : Q (.bl (!decide (k = k' ∧ g = g'))) H) : rNeD K (.ref t) (.ref u) H Q := by
  have pl : ∀ a b : Int, ∀ x ∈ [V.int a, V.int b], plainV x = true := fun a b x hx => by
    rcases List.mem_cons.mp hx with rfl | hx
    · rfl
    · rw [List.mem_singleton.mp hx]
      rfl
  refine ⟨_, _, .tup ht (dp_all (pl k g)), .tup hu (dp_all (pl k' g')), shaped_tup _, shaped_tup _, ?_⟩
  have e : PyData.eqv (.tuple ([V.int k, V.int g].map flatD)) (.tuple ([V.int k', V.int g'].map flatD)) = decide (k = k' ∧ g = g') := by
    by_cases c : k = k' <;> by_cases d : g = g' <;> simp [PyData.eqv, PyData.eqvAll, flatD, c, d]
  rw [e]
  exact q
end

/-! ### which components are odd -/
def teOdd (K : PySem.W.Frag) (C : Addr) (bi pi : Nat) : TE := tMeth C "is_odd" (spIsOdd K C) [] C8.E0 (tVar bi) (tCons (tOp (rIxT K) (tVar pi) (tC (.int 0))) tNil)
theorem odds_it {K : PySem.W.Frag} {C : Addr} {σ : L2.St} {bi pi : Nat} {x a D : Addr} {W : Wb} {L : List (Addr × List Int)} {H1 : Hp} {Qd : Hp → Prop} (hb : σ[bi]? = some (some (.ref x))) (hne : bi ≠ pi) (hp : pi < σ.length)
    (wb : WebAt K C H1 x W) (ha : H1 a = some (.lst (L.map fun q => V.ref q.1))) (ht : ∀ q ∈ L, SqT K H1 q.1 (q.2.map V.int)) (cL : TM.Comps W (L.map (·.2))) (nD : H1 D = none)
    (hd : ∀ H', Same H1 H' → H' D = some (.lst ((L.map fun q => TM.oddC W q.2).map V.bl)) → Qd H') :
    ∃ W : Nat → Nat → Hp → Prop, (∃ m, W 0 m (upd H1 D (.lst []))) ∧ ∀ i m H, W i m H →
      ((Itl K a).stop i H ∧ Qd H) ∨ ((Itl K a).go i H ∧ ∃ Nx : Hp → Prop, (∀ H', Nx H' → ∃ m', m' < m ∧ W (i + 1) m' H') ∧ ∀ x H', (Itl K a).yld i H x H' → gName pi x (wipe σ [pi]) H' fun σ2 H2 => wipe σ2 [pi] = wipe σ [pi] ∧ tYes σ2 H2 fun b H3 =>
        if b = true then teOdd K C bi pi σ2 H3 fun y H4 => ∃ acc, H4 D = some (.lst acc) ∧ acc.length < sizeLine ∧ Nx (upd H4 D (.lst (acc ++ [y]))) else Nx H3) := by
  obtain ⟨dx0, m0, e0, ns0, ks0, wx0, hm0⟩ := id wb.ex
  have hlen : L.length ≤ 12 := by
    have := comps_len wx0.gd cL
    rwa [List.length_map] at this
  refine lc_it (walk_list (xs := L.map fun q => V.ref q.1)) (fun i H' => Same H1 H' ∧ H' D = some (.lst (((L.take i).map fun q => TM.oddC W q.2).map V.bl))) ⟨same_upd nD, upd_same⟩ (fun i H' _ ⟨s, _⟩ => SqL.of (s _ _ ha)) ?_ ?_
  · rintro i y H' H2 hi ⟨s, hD⟩ ⟨rfl, hy⟩
    rw [List.length_map] at hi
    rw [List.getElem?_map, List.getElem?_eq_getElem hi] at hy
    obtain rfl : V.ref L[i].1 = y := Option.some.inj hy
    have e1 : ((wipe σ [pi]).set pi (some (V.ref L[i].1)))[pi]? = some (some (.ref L[i].1)) := by simp [wipe, hp]
    have e2 : ((wipe σ [pi]).set pi (some (V.ref L[i].1)))[bi]? = some (some (.ref x)) := by
      rw [List.getElem?_set_ne hne.symm]
      show ((σ.set pi none)[bi]?) = _
      rw [List.getElem?_set_ne hne.symm]
      exact hb
    refine ⟨by simp [wipe], ?_⟩
    have wb' := wb.same s
    obtain ⟨dx, m, e, ns, ks, wx, hm⟩ := id wb'.ex
    obtain ⟨n, r, ec, hn, ecomp⟩ := TM.comps_head cL (c := L[i].2) (List.mem_map.mpr ⟨L[i], List.getElem_mem hi, rfl⟩)
    have ht' := Same.sqt s (ht _ (List.getElem_mem hi))
    refine ⟨_, e2, x, dx, _, rfl, wx.ob, wfl_no _ _ (by decide +kernel) (by decide +kernel), ?_⟩
    refine ⟨_, e1, L[i].1, _, 0, .int n, rfl, rfl, ht', ?_, x, n, W, rfl, wb'.r, hn, fun H3 s3 => ?_⟩
    · rw [ec]
      exact at_of (j := 0) rfl rfl
    · refine ⟨_, s3 _ _ hD, ?_, Same.updr (s.trans s3) nD, ?_⟩
      · rw [List.length_map, List.length_map, List.length_take]
        exact small1000 (by omega)
      · rw [upd_same, take_step hi, List.map_append, List.map_append, ecomp]
        rfl
  · rintro H' ⟨s, hD⟩
    rw [List.length_map, List.take_length] at hD
    exact hd H' s hD

/-! ### webs as values -/
section
variable {K : PySem.W.Frag} {C : Addr}
/-- the expression gives a web -/
def WV (K : PySem.W.Frag) (C : Addr) (t : TE) (σ : L2.St) (H : Hp) (W : Wb) : Prop := ∀ Q : VK, (∀ y H', Same H H' → WebAt K C H' y W → Q (.ref y) H') → t σ H Q
theorem wv_var {σ : L2.St} {H : Hp} {i : Nat} {x : Addr} {W : Wb} (h : σ[i]? = some (some (.ref x))) (wb : WebAt K C H x W) : WV K C (tVar i) σ H W := fun Q q => ⟨_, h, q x H (Same.refl _) wb⟩
theorem wv_cut {σ : L2.St} {H : Hp} {t : TE} {j : Nat} {nm : Str} {k g : Int} {W : Wb} (h : WV K C t σ H W) (hj : σ[j]? = some (some (.str nm))) (e : TM.Edge W nm k g) : WV K C (tMeth C "cut" (spCut K C) [] C8.E0 t (tCons (tVar j) tNil)) σ H (TM.cut nm W) := fun Q q => by
  refine h _ fun y H' s wb => ?_
  obtain ⟨dx, m, e', ns, ks, wx, _⟩ := id wb.ex
  exact ⟨y, dx, _, rfl, wx.ob, wfl_no _ _ (by decide +kernel) (by decide +kernel), _, hj, y, nm, k, g, W, rfl, wb, e.mem, fun z H2 s2 wz => q z H2 (s.trans s2) wz⟩
theorem wv_con {σ : L2.St} {H : Hp} {t : TE} {j : Nat} {nm : Str} {k g : Int} {W : Wb} (h : WV K C t σ H W) (hj : σ[j]? = some (some (.str nm))) (e : TM.Edge W nm k g) : WV K C (tMeth C "contracted" (spCon K C) [] C8.E0 t (tCons (tVar j) tNil)) σ H (TM.con k g W) := fun Q q => by
  refine h _ fun y H' s wb => ?_
  obtain ⟨dx, m, e', ns, ks, wx, _⟩ := id wb.ex
  exact ⟨y, dx, _, rfl, wx.ob, wfl_no _ _ (by decide +kernel) (by decide +kernel), _, hj, y, nm, k, g, W, rfl, wb, e.mem, fun z H2 s2 wz => q z H2 (s.trans s2) wz⟩
/-- equal webs are not != -/
theorem ne_webs {σ : L2.St} {H : Hp} {t u : TE} {W W' : Wb} {Q : Bool → Hp → Prop} (h1 : WV K C t σ H W) (h2 : ∀ H', Same H H' → WV K C u σ H' W') (e : TM.Eqw W W') (q : ∀ H', Same H H' → Q false H') : tTest (tOp (rNeOwn C (RWeb K C)) t u) σ H Q := by
  refine h1 _ fun y H1 s1 w1 => h2 H1 s1 _ fun z H2 s2 w2 => ?_
  have w1' := w1.same s2
  obtain ⟨dx, m, e1, ns, ks, wx, _⟩ := id w1'.ex
  obtain ⟨dx', m', e2, ns', ks', wx', _⟩ := id w2.ex
  exact ⟨y, z, dx, dx', _, _, rfl, rfl, wx.ob, wx'.ob, ⟨W, W', w1', w2, e⟩, fun H3 s3 => ⟨false, rfl, q H3 ((s1.trans s2).trans s3)⟩⟩
/-- a name among names -/
theorem in_strs {ys : List Str} {nm : Str} (h : nm ∈ ys) : inV (.str nm) (ys.map V.str) = true := by
  unfold inV
  refine List.any_eq_true.mpr ⟨_, List.mem_map.mpr ⟨nm, h, rfl⟩, ?_⟩
  simp [eqV]
theorem flat_strs (ys : List Str) : (ys.map V.str).all flatV = true := List.all_eq_true.mpr fun x hx => by
  obtain ⟨n, _, rfl⟩ := List.mem_map.mp hx
  rfl
/-- e.edges() has that name -/
theorem in_edges {σ : L2.St} {H : Hp} {i j : Nat} {x : Addr} {nm : Str} {k g : Int} {W : Wb} {Q : VK} (hi : σ[i]? = some (some (.str nm))) (hj : σ[j]? = some (some (.ref x))) (wb : WebAt K C H x W) (e : TM.Edge W nm k g) (q : ∀ H', Same H H' → Q (.bl true) H') :
    tOp (rIn K false) (tVar i) (tMeth C "edges" (spEdges K C) [] C8.E0 (tVar j) tNil) σ H Q := by
  obtain ⟨dx, m, e', ns, ks, wx, _⟩ := id wb.ex
  refine ⟨_, hi, _, hj, x, dx, _, rfl, wx.ob, wfl_no _ _ (by decide +kernel) (by decide +kernel), x, W, rfl, wb.r, fun p ys np pm => ?_⟩
  refine ⟨p, _, rfl, .inl (SqL.of upd_same), rfl, flat_strs _, ?_⟩
  have hm : nm ∈ ys := pm.mem_iff.mpr (List.mem_map.mpr ⟨_, e.mem, rfl⟩)
  show Q (.bl (inV (.str nm) (ys.map V.str))) _
  rw [in_strs hm]
  exact q _ (same_upd np)
end
end TK
end
section
set_option Elab.async false
set_option linter.all false
set_option autoImplicit false
set_option maxRecDepth 100000
set_option maxHeartbeats 4000000
/-! law. -/
namespace TK
open PySem PySem.Spec PyProof.Rows L2
section
variable {P : Program} {w : World} {K : PySem.W.Frag} {mg : Str → Option Value} {base : Heap} {C : Addr}
/-- what the law calls -/
structure Calls (P : Program) (w : World) (K : PySem.W.Frag) (mg : Str → Option Value) (base : Heap) (C : Addr) : Prop where
  bag : C8.Cal P w K mg base 1 "_law_bag" (spBag K) []
  pull : C8.Cal P w K mg base 1 "_law_pull" spPull []
  mixed : C8.Cal P w K mg base 2 "_law_mixed" (spMixed K) []
  some' : C8.Cal P w K mg base 5 "_law_some" (spHard K) []
  raw : C8.Cal P w K mg base 3 "_law_raw" (spRaw K) []
  web : C8.Cal P w K mg base 5 "_law_web" (spWeb K C) []
  con : C8.Met P w K mg base 5 C "contracted" (spCon K C) []
  cut : C8.Met P w K mg base 5 C "cut" (spCut K C) []
  ends : C8.Met P w K mg base 1 C "ends" (spEnds K C) []
  edges : C8.Met P w K mg base 1 C "edges" (spEdges K C) []
  comps : C8.Met P w K mg base 4 C "components" (spComps K C) []
  odd : C8.Met P w K mg base 4 C "is_odd" (spIsOdd K C) []
  par : ∃ (p g : Addr) (fd : FuncData), PropOf K C "parity" p g ∧ FnOk P w K mg base C8.CX0 1 g fd ["self"] (spParity K C) ∧ Binds K fd ["self"] []
  eq : ∃ (f : Addr) (fd : FuncData), NeC K C f ∧ FnOk P w K mg base C8.CX0 2 f fd ["self", "other"] (spEq (RWeb K C)) ∧ Binds K fd ["self", "other"] []
def spLaw (K : PySem.W.Frag) : Sp := fun vs H Q _ => ∃ (a : Addr) (ns : List Int), vs = [.ref a] ∧ SqL K H a (ns.map V.int) ∧ ns.length ≤ 63 ∧ ∀ H', Q (.bl true) H'
abbrev nLaw : List Str := ["_law_script", "_law_bag_here", "_law_turn", "_law_raw_here", "_law_made", "_law_letter", "_law_near", "_law_parts", "_law_letters_here", "_law_one", "_law_two", "_law_left", "_law_right", "_law_both", "_law_part"]
theorem scLaw : FnScope nLaw ["_law_script"] (C8.fnScope sLaw) := C8.fnScope_by (by decide +kernel)
theorem fn_law {f : Addr} {fd : FuncData} (T : Txt K mg C) (cs : Calls P w K mg base C) (F : C8.Fun K "law" "law" sLaw f fd) : FnOk P w K mg base C8.CX0 6 f fd ["_law_script"] (spLaw K) := by
  obtain ⟨pp, pg, pfd, hpp, fpp, bpp⟩ := cs.par
  obtain ⟨ef, efd, hne, feq, beq⟩ := cs.eq
  refine C8.fn0 F scLaw (fun vs H Q E h => ?_) (fun cdv A outer s H vs Q E hr h => ?_)
  · obtain ⟨a, ns, rfl, _⟩ := h
    rfl
  · obtain ⟨a, ns, rfl, hS, hlen, k⟩ := h
    have hu := hu_of hr
    have nd := scLaw.nd
    refine ⟨_, pss_cons (ps_set (i := 1) nd rfl (.inl rfl) (C8.pe_c cs.bag hr (by decide) (by rfl) (pa_cons (pv 0) pa_nil)))
      (pss_cons (ps_for PassesOwn.never rfl (pi_range1 (by rfl) T.range (pa_cons pe_int pa_nil)) (pg_name (i := 2) nd rfl (.inl rfl))
        (C8.pss_cut (ps_set (i := 3) nd rfl (.inl rfl) (pe_ifExp (pt_cmpR op_eq (C8.pe_c cs.pull hr (by decide) (by rfl) (pa_cons (pv 1) (pa_cons pe_int pa_nil))) pe_int (nomark _)) (C8.pe_c cs.some' hr (by decide) (by rfl) (pa_cons (pv 1) pa_nil)) (C8.pe_c cs.raw hr (by decide) (by rfl) (pa_cons (pv 1) (pa_cons pe_int (pa_cons pe_int pa_nil))))))
        (pss_cons (ps_set (i := 4) nd rfl (.inr rfl) (C8.pe_c cs.web hr (by decide) (by rfl) (pa_cons (pv 3) pa_nil)))
        (C8.pss_cut (ps_for PassesOwn.never rfl (pi_list (pe_callB (call_sortedD rfl) (by rfl) T.sorted (by decide +kernel) (pa_cons (pe_ix ix_tup (pv 3) pe_int (fun _ _ => rfl)) pa_nil))) (pg_name (i := 5) nd rfl (.inl rfl))
            (pss_cons (ps_set (i := 6) nd rfl (.inr rfl) (C8.pe_mt cs.con hr (by decide) (pv 4) (pa_cons (pv 5) pa_nil)))
            (pss_cons (ps_setLc (i := 7) (own := [("_law_part", 14)]) (g := gName 14) (tt := tYes) (te := teOdd K C 4 14) (by rfl) nd rfl rfl (sw_true rfl rfl rfl (by decide +kernel)) (pi_list (C8.pe_mt0 cs.comps hr (by decide) (pv 4))) (blkOk_by (own := [("_law_part", 14)]) (N := nLaw) (sc := C8.fnScope sLaw) (by decide +kernel))
                (fun _ _ _ _ _ => pg_name (i := 14) nd rfl (.inl rfl)) (fun _ _ _ _ _ => pts_nil) (fun _ _ _ _ _ => C8.pe_mt cs.odd hr (by decide) (pv 4) (pa_cons (pe_ix ix_tup (pv 14) pe_int (fun _ _ => rfl)) pa_nil)))
            (pss_one (ps_if (PW.pt (pw_or (pt_cmpR op_ne (pe_prop (E := C8.E0) (pv 6) T.cl hpp fpp (hr.mono (by decide)) bpp .nil C8.pass0 rfl) (pe_prop (E := C8.E0) (pv 4) T.cl hpp fpp (hr.mono (by decide)) bpp .nil C8.pass0 rfl) (nomark _))
                (pw_or1 (pt_cmpR (op_neD hr.units) (pe_callB cr_sortedB (by rfl) T.sorted (by decide +kernel) (pa_cons (pe_lc (own := [("_law_part", 14)]) (g := gName 14) (tt := tYes) (te := teOdd K C 6 14) (by rfl) nd (pi_list (C8.pe_mt0 cs.comps hr (by decide) (pv 6))) (blkOk_by (own := [("_law_part", 14)]) (N := nLaw) (sc := C8.fnScope sLaw) (by decide +kernel))
                (fun _ _ _ _ _ => pg_name (i := 14) nd rfl (.inl rfl)) (fun _ _ _ _ _ => pts_nil) (fun _ _ _ _ _ => C8.pe_mt cs.odd hr (by decide) (pv 6) (pa_cons (pe_ix ix_tup (pv 14) pe_int (fun _ _ => rfl)) pa_nil))) pa_nil))
                  (pe_callB cr_sortedB (by rfl) T.sorted (by decide +kernel) (pa_cons (pv 7) pa_nil)) (nomark _))))) (pss_one (ps_ret pe_bl)) pss_nil)))))
        (pss_cons (ps_set (i := 8) nd rfl (.inl rfl) (pe_callB (call_sortedD rfl) (by rfl) T.sorted (by decide +kernel) (pa_cons (pe_ix ix_tup (pv 3) pe_int (fun _ _ => rfl)) pa_nil)))
        (pss_one (ps_if (pt_cmpR op_gt (pe_callB call_len_seq (by rfl) T.len PySem.boot_len (pa_cons (pv 8) pa_nil)) pe_int (nomark _))
          (pss_cons (ps_asg (pe_slice sl_list (C8.pe_c cs.mixed hr (by decide) (by rfl) (pa_cons (pv 1) (pa_cons (pv 8) pa_nil))) po_none (po_some pe_int)) (pg_unl (by rfl) (pgs_cons (pg_name (i := 9) nd rfl (.inl rfl)) (pgs_cons (pg_name (i := 10) nd rfl (.inl rfl)) pgs_nil))))
          (pss_cons (ps_if (pt_cmpR (op_neOwn (E := C8.E0) feq hne beq C8.pass0 (hr.mono (by decide))) (C8.pe_mt cs.cut hr (by decide) (C8.pe_mt cs.cut hr (by decide) (pv 4) (pa_cons (pv 9) pa_nil)) (pa_cons (pv 10) pa_nil)) (C8.pe_mt cs.cut hr (by decide) (C8.pe_mt cs.cut hr (by decide) (pv 4) (pa_cons (pv 10) pa_nil)) (pa_cons (pv 9) pa_nil)) (nomark _)) (pss_one (ps_ret pe_bl)) pss_nil)
          (pss_one (ps_if (pt_cmpR (op_neD hr.units) (C8.pe_mt cs.ends hr (by decide) (pv 4) (pa_cons (pv 9) pa_nil)) (C8.pe_mt cs.ends hr (by decide) (pv 4) (pa_cons (pv 10) pa_nil)) (nomark _))
            (pss_cons (ps_if (pt_cmpR (op_neOwn (E := C8.E0) feq hne beq C8.pass0 (hr.mono (by decide))) (C8.pe_mt cs.con hr (by decide) (C8.pe_mt cs.cut hr (by decide) (pv 4) (pa_cons (pv 9) pa_nil)) (pa_cons (pv 10) pa_nil)) (C8.pe_mt cs.cut hr (by decide) (C8.pe_mt cs.con hr (by decide) (pv 4) (pa_cons (pv 10) pa_nil)) (pa_cons (pv 9) pa_nil)) (nomark _)) (pss_one (ps_ret pe_bl)) pss_nil)
            (pss_cons (ps_par (i := 11) (j := 12) (by rfl) nd rfl rfl (by decide) rfl rfl (pa_cons (C8.pe_mt cs.con hr (by decide) (pv 4) (pa_cons (pv 9) pa_nil)) (pa_cons (C8.pe_mt cs.con hr (by decide) (pv 4) (pa_cons (pv 10) pa_nil)) pa_nil)) (by rfl))
            (pss_cons (ps_set (i := 13) nd rfl (.inl rfl) (pe_lst (pa_cons (pe_cmpR op_in_seq (pv 10) (C8.pe_mt0 cs.edges hr (by decide) (pv 11)) (by rfl)) (pa_cons (pe_cmpR op_in_seq (pv 9) (C8.pe_mt0 cs.edges hr (by decide) (pv 12)) (by rfl)) pa_nil))))
            (pss_one (ps_if (PW.pt (pw_or (pt_cmpR (op_neD hr.units) (pv 13) (pe_lst (pa_cons pe_bl (pa_cons pe_bl pa_nil))) (nomark _))
                (pw_or1 (pt_cmpR (op_neOwn (E := C8.E0) feq hne beq C8.pass0 (hr.mono (by decide))) (C8.pe_mt cs.con hr (by decide) (pv 11) (pa_cons (pv 10) pa_nil)) (C8.pe_mt cs.con hr (by decide) (pv 12) (pa_cons (pv 9) pa_nil)) (nomark _))))) (pss_one (ps_ret pe_bl)) pss_nil))))) pss_nil)))) pss_nil)))))))
      (pss_one (ps_ret pe_bl))), ?_⟩
    refine ⟨_, rfl, a, ns, rfl, hS, hlen, fun b c H1 B1 nb s1 => ?_⟩
    refine ⟨4, rfl, by decide, by decide, ?_⟩
    refine for_range (lo := 0) (n := (4 : Int).toNat) (fun i σ H' => ∃ v2 v3 v4 v5 v6 v7 v8 v9 v10 v11 v12 v13, σ = [some (.ref a), some (.ref b), v2, v3, v4, v5, v6, v7, v8, v9, v10, v11, v12, v13, none] ∧ BagAt H' b c)
      ⟨none, none, none, none, none, none, none, none, none, none, none, none, rfl, B1⟩ ?_ (fun σ H' _ => k H')
    rintro i σ H2 hi ⟨v2, v3, v4, v5, v6, v7, v8, v9, v10, v11, v12, v13, rfl, B2⟩
    generalize hv2 : (some (V.int (0 + (i : Int))) : Option V) = w2
    -- the dicts drawn
    refine ⟨fun σ' H' => ∃ (t m e : Addr) (W : Wb), σ' = [some (.ref a), some (.ref b), w2, some (.ref t), v4, v5, v6, v7, v8, v9, v10, v11, v12, v13, none] ∧ SqT K H' t [.ref m, .ref e] ∧ RawAt K H' m e W ∧ BagAt H' b c, ?_, ?_⟩
    · refine ⟨_, rfl, b, c, 2, rfl, B2, by decide, by decide, fun d H3 d0 d1 B3 k3 => ⟨rfl, _, rfl, ?_⟩⟩
      show if decide (V.int d = V.int 0) = true then _ else _
      cases decide (V.int d = V.int 0) with
      | true => exact iteT ⟨_, rfl, b, c, rfl, B3, fun t m e W H' h1 h2 h3 _ => ⟨t, m, e, W, by rw [← hv2]; rfl, h1, h2, h3⟩⟩
      | false => exact iteF ⟨_, rfl, b, c, 8, 12, rfl, B3, by decide, by decide, by decide, by decide, fun t m e W H' h1 h2 h3 _ => ⟨t, m, e, W, by rw [← hv2]; rfl, h1, h2, h3⟩⟩
    rintro σ' H3 ⟨t, m, e, W, rfl, ht3, raw3, B3⟩
    -- the web
    refine ⟨_, rfl, t, m, e, W, rfl, ht3, raw3, fun x H4 s34 wb4 => ?_⟩
    have ht4 := Same.sqt s34 ht3
    have raw4 := raw3.same s34
    have B4 := B3.same s34
    obtain ⟨ns4, ks4, rx4⟩ := id raw4.ex
    have ok : W.Ok := rx4.gd.ok
    have kE : (edgesK ks4).map (·.1) = (ks4.map (·.1)).map Sum.inr := edgesK_keys ks4
    have lE := rx4.len
    have toE : ∀ y, y ∈ ks4.map (·.1) → ∃ k g, TM.Edge W y k g := fun y hy => by
      obtain ⟨⟨y', k, g⟩, he, rfl⟩ := List.mem_map.mp (rx4.names.mem_iff.mp hy)
      exact ⟨k, g, ⟨he⟩⟩
    -- one by one
    refine ⟨fun σ' H' => ∃ v5 v6 v7, σ' = [some (.ref a), some (.ref b), w2, some (.ref t), some (.ref x), v5, v6, v7, v8, v9, v10, v11, v12, v13, none] ∧ Same H4 H', ?_, ?_⟩
    · refine ⟨_, rfl, t, _, _, _, rfl, rfl, ht4, rfl, e, _, ks4.map (·.1), rfl, .inl rx4.ed, kE, by rw [List.length_map]; omega, fun ys p pm so np => ⟨p, rfl, ⟨_, SqL.of upd_same⟩, ?_⟩⟩
      refine for_it (walk_list (xs := ys.map V.str)) (fun i σ' H' => ∃ v5 v6 v7, σ' = [some (.ref a), some (.ref b), w2, some (.ref t), some (.ref x), v5, v6, v7, v8, v9, v10, v11, v12, v13, none] ∧ Same (upd H4 p (.lst (ys.map V.str))) H')
        ⟨_, _, _, rfl, Same.refl _⟩ (fun i σ H' _ ⟨_, _, _, _, s⟩ => Same.seq s (SqL.of upd_same)) ?_ ?_
      · rintro j y σ' H5' H5 hj ⟨u5, u6, u7, rfl, s5⟩ ⟨rfl, hy⟩
        obtain ⟨n, hn, rfl⟩ := str_of_map hy
        obtain ⟨kk, gg, he⟩ := toE n (pm.mem_iff.mp (List.mem_of_getElem? hn))
        have wb5 := wb4.same ((same_upd np).trans s5)
        refine wv_con (K := K) (C := C) (wv_var rfl wb5) rfl he _ fun z H6 s6 wz6 => ?_
        -- its parts
        have wb6 := wb5.same s6
        obtain ⟨dx, m6, e6, ns6, ks6, wx6, _⟩ := id wb6.ex
        refine ⟨_, rfl, x, dx, _, rfl, wx6.ob, wfl_no _ _ (by decide +kernel) (by decide +kernel), x, W, rfl, wb6, fun p1 L1 H7 s7 hp1 hL1 cL1 => ⟨p1, rfl, ⟨_, SqL.of hp1⟩, fun D1 nD1 => ?_⟩⟩
        refine odds_it rfl (by decide) (by show 14 < 15; decide) (wb6.same s7) hp1 hL1 cL1 nD1 fun H8 s8 hD1 => ?_
        have s68 := s7.trans s8
        have wb8 := wb6.same s68
        have wz8 := wz6.same s68
        obtain ⟨dx8, m8, e8, ns8, ks8, wx8, _⟩ := id wb8.ex
        obtain ⟨dz8, mz8, ez8, nsz8, ksz8, wz8x, _⟩ := id wz8.ex
        refine ⟨_, rfl, z, dz8, _, rfl, wz8x.ob, z, _, rfl, wz8.r, _, rfl, x, dx8, _, rfl, wx8.ob, x, _, rfl, wb8.r, rfl, _, rfl, ?_⟩
        show if (!decide (V.int (TM.par (TM.con kk gg W)) = V.int (TM.par W))) = true then _ else _
        rw [TM.par_con ok (he.k ok) (he.g ok) (Int.ne_of_lt (he.lt ok)), dec_int, decide_eq_true rfl]
        refine iteF ?_
        refine ⟨_, rfl, z, dz8, _, rfl, wz8x.ob, wfl_no _ _ (by decide +kernel) (by decide +kernel), z, _, rfl, wz8, fun p2 L2 H9 s9 hp2 hL2 cL2 => ⟨p2, rfl, ⟨_, SqL.of hp2⟩, fun D2 nD2 => ?_⟩⟩
        refine odds_it rfl (by decide) (by show 14 < 15; decide) (wz8.same s9) hp2 hL2 cL2 nD2 fun H10 s10 hD2 => ?_
        refine ⟨D2, _, rfl, SqL.of hD2, fun cs p3 pc so nc => ?_⟩
        have s11 : Same H8 (upd H10 p3 (.lst (cs.map V.bl))) := (s9.trans s10).trans (same_upd nc)
        refine ⟨_, rfl, D1, _, rfl, SqL.of (s11 _ _ hD1), fun cs2 p4 pc2 so2 nc2 => ?_⟩
        have ecs : cs2 = cs := by
          refine bl_uniq so2 so ((pc2.trans ?_).trans pc.symm)
          have h := TM.comps_con ok he cL1 cL2
          rw [List.map_map, List.map_map] at h
          exact h.symm
        subst ecs
        refine ne_bools (bs := cs2) (SqL.of ((same_upd nc2) _ _ upd_same)) (SqL.of upd_same) ⟨_, rfl, iteF ⟨_, _, _, rfl, ?_⟩⟩
        exact ((((s5.trans s6).trans s68).trans s11).trans (same_upd nc2))
      · rintro σ' H' ⟨u5, u6, u7, rfl, s5⟩
        exact ⟨u5, u6, u7, rfl, (same_upd np).trans s5⟩
    rintro σ' H5 ⟨u5, u6, u7, rfl, s45⟩
    have ht5 := Same.sqt s45 ht4
    have B5 := B4.same s45
    have wb5 := wb4.same s45
    have ed5 := s45 _ _ rx4.ed
    -- the names in order
    refine ⟨_, rfl, t, _, _, _, rfl, rfl, ht5, rfl, e, _, ks4.map (·.1), rfl, .inl ed5, kE, by rw [List.length_map]; omega, fun ys p pm so np => ?_⟩
    have ndy : ys.Nodup := pm.nodup_iff.mpr rx4.nde
    have lys : ys.length ≤ 24 := by
      rw [pm.length_eq, List.length_map]
      exact lE
    have B6 := B5.new (o := .lst (ys.map V.str)) np
    have wb6 := wb5.same (same_upd (o := .lst (ys.map V.str)) np)
    have n6 : p ≠ b := B5.nn np
    have h6 : (upd H5 p (.lst (ys.map V.str))) p = some (.lst (ys.map V.str)) := upd_same
    generalize upd H5 p (.lst (ys.map V.str)) = H6 at B6 wb6 h6 ⊢
    refine ⟨_, rfl, p, _, rfl, .inl (SqL.of h6), _, _, rfl, rfl, _, rfl, ?_⟩
    rw [List.length_map]
    by_cases h1 : (1 : Int) < (ys.length : Int)
    · rw [decide_eq_true h1]
      refine iteT ?_
      -- two of them
      refine ⟨_, rfl, _, rfl, b, c, p, _, rfl, B6, n6, SqL.of h6, by rw [List.length_map]; omega, fun p5 zs H7 pmV h7 n7 f7 B7 k7 => ?_⟩
      have wb7 := wb6.keep B6 k7
      obtain ⟨ls, rfl, pmL⟩ := perm_of_map pmV
      have ndl : ls.Nodup := pmL.nodup_iff.mpr ndy
      have hll : ls.length = ys.length := pmL.length_eq
      have inL : ∀ y ∈ ls, ∃ k g, TM.Edge W y k g := fun y hy => toE y (pm.mem_iff.mp (pmL.mem_iff.mp hy))
      match ls, hll, ndl, inL, h7 with
      | one :: two :: r, hll, ndl, inL, h7 =>
        refine ⟨_, rfl, p5, _, rfl, SqL.of h7, fun p6 np6 => ?_⟩
        rw [show (2 : Int) = ((2 : Nat) : Int) from rfl, cut_take]
        refine ⟨p6, _, rfl, SqL.of upd_same, rfl, _, _, rfl, _, _, rfl, rfl, ?_⟩
        have B8 := B7.new (o := .lst [.str one, .str two]) np6
        have wb8 := wb7.same (same_upd (o := .lst [.str one, .str two]) np6)
        have e12 : one ≠ two := fun z => (List.nodup_cons.mp ndl).1 (z ▸ List.mem_cons_self)
        obtain ⟨k1, g1, he1⟩ := inL one List.mem_cons_self
        obtain ⟨k2, g2, he2⟩ := inL two (List.mem_cons_of_mem _ List.mem_cons_self)
        have ok1 : (TM.con k1 g1 W).Ok := TM.con_ok ok (he1.k ok) (he1.g ok) (Int.ne_of_lt (he1.lt ok))
        have ok2 : (TM.con k2 g2 W).Ok := TM.con_ok ok (he2.k ok) (he2.g ok) (Int.ne_of_lt (he2.lt ok))
        generalize upd H7 p6 (.lst (List.map V.str [one, two])) = H8 at B8 wb8 ⊢
        -- cut, cut
        refine ne_webs (wv_cut (wv_cut (wv_var rfl wb8) rfl he1) rfl (he2.cut e12.symm)) (fun H' s => wv_cut (wv_cut (wv_var rfl (wb8.same s)) rfl he2) rfl (he1.cut e12)) (TM.cut_cut W two one) fun H9 s9 => iteF ?_
        have wb9 := wb8.same s9
        have B9 := B8.same s9
        obtain ⟨dx, m9, e9, ns9, ks9, wx9, _⟩ := id wb9.ex
        -- are they parallel?
        refine ⟨_, rfl, x, dx, _, rfl, wx9.ob, wfl_no _ _ (by decide +kernel) (by decide +kernel), _, rfl, x, one, k1, g1, W, rfl, wb9.r, he1.mem, fun t1 ht1 => ?_⟩
        refine ⟨_, rfl, x, dx, _, rfl, wx9.ob, wfl_no _ _ (by decide +kernel) (by decide +kernel), _, rfl, x, two, k2, g2, W, rfl, wb9.r, he2.mem, fun t2 ht2 => ?_⟩
        refine ne_pair ht1 ht2 ⟨_, rfl, ?_⟩
        by_cases c12 : k1 = k2 ∧ g1 = g2
        · rw [decide_eq_true c12]
          exact iteF ⟨_, _, _, _, _, _, _, _, _, _, _, _, rfl, B9⟩
        · rw [decide_eq_false c12]
          refine iteT ?_
          have c21 : ¬ (k2 = k1 ∧ g2 = g1) := fun z => c12 ⟨z.1.symm, z.2.symm⟩
          have f1 := TM.Edge.con ok he1 he2 c12
          have f2 := TM.Edge.con ok he2 he1 c21
          -- cut, contracted
          refine ne_webs (wv_con (wv_cut (wv_var rfl wb9) rfl he1) rfl (he2.cut e12.symm)) (fun H' s => wv_cut (wv_con (wv_var rfl (wb9.same s)) rfl he2) rfl f1) (TM.cut_con W one k2 g2) fun H10 s10 => iteF ?_
          have wb10 := wb9.same s10
          -- contracted, contracted
          refine wv_con (wv_var rfl wb10) rfl he1 _ fun yl H11 s11 wl => ?_
          refine wv_con (wv_var rfl (wb10.same s11)) rfl he2 _ fun yr H12 s12 wr => ?_
          refine ⟨_, _, rfl, ?_⟩
          have wl12 := wl.same s12
          refine in_edges rfl rfl wl12 f2 fun H13 s13 => ?_
          refine in_edges rfl rfl (wr.same s13) f1 fun H14 s14 => ?_
          refine ⟨by show 2 ≤ sizeLine; decide, fun pl npl => ?_⟩
          have wl15 := (wl12.same (s13.trans s14)).same (same_upd (o := .lst [.bl true, .bl true]) npl)
          have wr15 := (wr.same (s13.trans s14)).same (same_upd (o := .lst [.bl true, .bl true]) npl)
          have B15 := B9.same (((((s10.trans s11).trans s12).trans s13).trans s14).trans (same_upd (o := .lst [.bl true, .bl true]) npl))
          have hp15 : (upd H14 pl (.lst [.bl true, .bl true])) pl = some (.lst ([true, true].map V.bl)) := upd_same
          generalize upd H14 pl (.lst [.bl true, .bl true]) = H15 at wl15 wr15 B15 hp15 ⊢
          refine ⟨_, rfl, by show 2 ≤ sizeLine; decide, fun p2 np2 => ?_⟩
          refine ne_bools (bs := [true, true]) (SqL.of ((same_upd np2) _ _ hp15)) (SqL.of upd_same) ⟨_, rfl, iteF ?_⟩
          have s16 : Same H15 (upd H15 p2 (.lst [.bl true, .bl true])) := same_upd np2
          refine ne_webs (wv_con (wv_var rfl (wl15.same s16)) rfl f2) (fun H' s => wv_con (wv_var rfl ((wr15.same s16).same s)) rfl f1) (TM.con_con ok (he1.k ok) (he1.g ok) (he2.k ok) (he2.g ok) (he1.lt ok) (he2.lt ok) c12) fun H17 s17 => iteF ?_
          exact ⟨_, _, _, _, _, _, _, _, _, _, _, _, rfl, (B15.same s16).same s17⟩
      | [_], hll, _, _, _ =>
        have : ([] : List Str).length + 1 = ys.length := hll
        rw [← this] at h1
        exact absurd h1 (by decide)
      | [], hll, _, _, _ =>
        have : 0 = ys.length := hll
        rw [← this] at h1
        exact absurd h1 (by decide)
    · rw [decide_eq_false h1]
      exact iteF ⟨_, _, _, _, _, _, _, _, _, _, _, _, rfl, B6⟩
end
end TK
end
section
set_option Elab.async false
set_option linter.all false
set_option autoImplicit false
set_option maxRecDepth 100000
set_option maxHeartbeats 4000000
/-! What the top has written; the law. -/
namespace TK
open PySem PySem.Spec PyProof.Rows L2

theorem all_mk {l : PySem.W.OpenLaw} {w : World} {K : PySem.W.Frag} {h : Heap} {mg : Str → Option Value} {fa C pp : Addr} {rest : List Value} {tM tN : Tok} {zN : Str} (X : K.In h) (G : h.Ns mainGlobals mg) (hfa : mg "law" = some (.ref fa))
    {f_isNode f_isName f_check f_bag f_pull f_of f_mixed f_letters f_raw f_five f_six f_renamed f_hard f_some f_web f_law f_init f_eq f_edges f_mark f_ends f_edgesOf f_other f_compOf f_comps f_isOdd f_cut f_con f_par : Addr}
    {od_isNode an_isNode od_isName an_isName od_check an_check od_bag an_bag od_pull an_pull od_of an_of od_mixed an_mixed od_letters an_letters od_raw an_raw od_five an_five od_six an_six od_renamed an_renamed od_hard an_hard od_some an_some od_web an_web od_law an_law od_init an_init od_eq an_eq od_edges an_edges od_mark an_mark od_ends an_ends od_edgesOf an_edgesOf od_other an_other od_compOf an_compOf od_comps an_comps od_isOdd an_isOdd od_cut an_cut od_con an_con od_par an_par : Option Addr}
    {os_isNode os_isName os_check os_bag os_pull os_of os_mixed os_letters os_raw os_five os_six os_renamed os_hard os_some os_web os_law os_init os_eq os_edges os_mark os_ends os_edgesOf os_other os_compOf os_comps os_isOdd os_cut os_con os_par : Array (Option Value)}
    {oc_isNode kV_isNode dc_isNode pm_isNode cd_isNode ct_isNode oc_isName kV_isName dc_isName pm_isName cd_isName ct_isName oc_check kV_check dc_check pm_check cd_check ct_check oc_bag kV_bag dc_bag pm_bag cd_bag ct_bag oc_pull kV_pull dc_pull pm_pull cd_pull ct_pull oc_of kV_of dc_of pm_of cd_of ct_of oc_mixed kV_mixed dc_mixed pm_mixed cd_mixed ct_mixed oc_letters kV_letters dc_letters pm_letters cd_letters ct_letters oc_raw kV_raw dc_raw pm_raw cd_raw ct_raw oc_five kV_five dc_five pm_five cd_five ct_five oc_six kV_six dc_six pm_six cd_six ct_six oc_renamed kV_renamed dc_renamed pm_renamed cd_renamed ct_renamed oc_hard kV_hard dc_hard pm_hard cd_hard ct_hard oc_some kV_some dc_some pm_some cd_some ct_some oc_web kV_web dc_web pm_web cd_web ct_web oc_law kV_law dc_law pm_law cd_law ct_law oc_init kV_init dc_init pm_init cd_init ct_init oc_eq kV_eq dc_eq pm_eq cd_eq ct_eq oc_edges kV_edges dc_edges pm_edges cd_edges ct_edges oc_mark kV_mark dc_mark pm_mark cd_mark ct_mark oc_ends kV_ends dc_ends pm_ends cd_ends ct_ends oc_edgesOf kV_edgesOf dc_edgesOf pm_edgesOf cd_edgesOf ct_edgesOf oc_other kV_other dc_other pm_other cd_other ct_other oc_compOf kV_compOf dc_compOf pm_compOf cd_compOf ct_compOf oc_comps kV_comps dc_comps pm_comps cd_comps ct_comps oc_isOdd kV_isOdd dc_isOdd pm_isOdd cd_isOdd ct_isOdd oc_cut kV_cut dc_cut pm_cut cd_cut ct_cut oc_con kV_con dc_con pm_con cd_con ct_con oc_par kV_par dc_par pm_par cd_par ct_par : Value}
    (aC : PySem.W.nsIn K mainGlobals "Web" = some (some (.ref C)))
    (a_isNode : PySem.W.nsIn K mainGlobals "is_node_number" = some (some (.ref f_isNode)))
    (l_isNode : K.lookup f_isNode = some ⟨oc_isNode, od_isNode, .func (PySem.W.fnOf "is_node_number" "is_node_number" (C8.fnArgs sIsNode) (C8.fnBody sIsNode) (C8.fnScope sIsNode) .none kV_isNode dc_isNode pm_isNode an_isNode cd_isNode ct_isNode), os_isNode⟩)
    (c_isNode : PySem.W.codeIn K cd_isNode "is_node_number" = true)
    (k_isNode : PySem.W.keepIn K (.ref f_isNode) = true)
    (a_isName : PySem.W.nsIn K mainGlobals "is_edge_name" = some (some (.ref f_isName)))
    (l_isName : K.lookup f_isName = some ⟨oc_isName, od_isName, .func (PySem.W.fnOf "is_edge_name" "is_edge_name" (C8.fnArgs sIsName) (C8.fnBody sIsName) (C8.fnScope sIsName) .none kV_isName dc_isName pm_isName an_isName cd_isName ct_isName), os_isName⟩)
    (c_isName : PySem.W.codeIn K cd_isName "is_edge_name" = true)
    (k_isName : PySem.W.keepIn K (.ref f_isName) = true)
    (a_check : PySem.W.nsIn K mainGlobals "check_parts" = some (some (.ref f_check)))
    (l_check : K.lookup f_check = some ⟨oc_check, od_check, .func (PySem.W.fnOf "check_parts" "check_parts" (C8.fnArgs sCheck) (C8.fnBody sCheck) (C8.fnScope sCheck) .none kV_check dc_check pm_check an_check cd_check ct_check), os_check⟩)
    (c_check : PySem.W.codeIn K cd_check "check_parts" = true)
    (k_check : PySem.W.keepIn K (.ref f_check) = true)
    (a_bag : PySem.W.nsIn K mainGlobals "_law_bag" = some (some (.ref f_bag)))
    (l_bag : K.lookup f_bag = some ⟨oc_bag, od_bag, .func (PySem.W.fnOf "_law_bag" "_law_bag" (C8.fnArgs sBag) (C8.fnBody sBag) (C8.fnScope sBag) .none kV_bag dc_bag pm_bag an_bag cd_bag ct_bag), os_bag⟩)
    (c_bag : PySem.W.codeIn K cd_bag "_law_bag" = true)
    (k_bag : PySem.W.keepIn K (.ref f_bag) = true)
    (a_pull : PySem.W.nsIn K mainGlobals "_law_pull" = some (some (.ref f_pull)))
    (l_pull : K.lookup f_pull = some ⟨oc_pull, od_pull, .func (PySem.W.fnOf "_law_pull" "_law_pull" (C8.fnArgs sPull) (C8.fnBody sPull) (C8.fnScope sPull) .none kV_pull dc_pull pm_pull an_pull cd_pull ct_pull), os_pull⟩)
    (c_pull : PySem.W.codeIn K cd_pull "_law_pull" = true)
    (k_pull : PySem.W.keepIn K (.ref f_pull) = true)
    (a_of : PySem.W.nsIn K mainGlobals "_law_of" = some (some (.ref f_of)))
    (l_of : K.lookup f_of = some ⟨oc_of, od_of, .func (PySem.W.fnOf "_law_of" "_law_of" (C8.fnArgs sOf) (C8.fnBody sOf) (C8.fnScope sOf) .none kV_of dc_of pm_of an_of cd_of ct_of), os_of⟩)
    (c_of : PySem.W.codeIn K cd_of "_law_of" = true)
    (k_of : PySem.W.keepIn K (.ref f_of) = true)
    (a_mixed : PySem.W.nsIn K mainGlobals "_law_mixed" = some (some (.ref f_mixed)))
    (l_mixed : K.lookup f_mixed = some ⟨oc_mixed, od_mixed, .func (PySem.W.fnOf "_law_mixed" "_law_mixed" (C8.fnArgs sMixed) (C8.fnBody sMixed) (C8.fnScope sMixed) .none kV_mixed dc_mixed pm_mixed an_mixed cd_mixed ct_mixed), os_mixed⟩)
    (c_mixed : PySem.W.codeIn K cd_mixed "_law_mixed" = true)
    (k_mixed : PySem.W.keepIn K (.ref f_mixed) = true)
    (a_letters : PySem.W.nsIn K mainGlobals "_law_letters" = some (some (.ref f_letters)))
    (l_letters : K.lookup f_letters = some ⟨oc_letters, od_letters, .func (PySem.W.fnOf "_law_letters" "_law_letters" (C8.fnArgs sLetters) (C8.fnBody sLetters) (C8.fnScope sLetters) .none kV_letters dc_letters pm_letters an_letters cd_letters ct_letters), os_letters⟩)
    (c_letters : PySem.W.codeIn K cd_letters "_law_letters" = true)
    (k_letters : PySem.W.keepIn K (.ref f_letters) = true)
    (a_raw : PySem.W.nsIn K mainGlobals "_law_raw" = some (some (.ref f_raw)))
    (l_raw : K.lookup f_raw = some ⟨oc_raw, od_raw, .func (PySem.W.fnOf "_law_raw" "_law_raw" (C8.fnArgs sRaw) (C8.fnBody sRaw) (C8.fnScope sRaw) .none kV_raw dc_raw pm_raw an_raw cd_raw ct_raw), os_raw⟩)
    (c_raw : PySem.W.codeIn K cd_raw "_law_raw" = true)
    (k_raw : PySem.W.keepIn K (.ref f_raw) = true)
    (a_five : PySem.W.nsIn K mainGlobals "_law_five" = some (some (.ref f_five)))
    (l_five : K.lookup f_five = some ⟨oc_five, od_five, .func (PySem.W.fnOf "_law_five" "_law_five" (C8.fnArgs sFive) (C8.fnBody sFive) (C8.fnScope sFive) .none kV_five dc_five pm_five an_five cd_five ct_five), os_five⟩)
    (c_five : PySem.W.codeIn K cd_five "_law_five" = true)
    (k_five : PySem.W.keepIn K (.ref f_five) = true)
    (a_six : PySem.W.nsIn K mainGlobals "_law_six" = some (some (.ref f_six)))
    (l_six : K.lookup f_six = some ⟨oc_six, od_six, .func (PySem.W.fnOf "_law_six" "_law_six" (C8.fnArgs sSix) (C8.fnBody sSix) (C8.fnScope sSix) .none kV_six dc_six pm_six an_six cd_six ct_six), os_six⟩)
    (c_six : PySem.W.codeIn K cd_six "_law_six" = true)
    (k_six : PySem.W.keepIn K (.ref f_six) = true)
    (a_renamed : PySem.W.nsIn K mainGlobals "_law_renamed" = some (some (.ref f_renamed)))
    (l_renamed : K.lookup f_renamed = some ⟨oc_renamed, od_renamed, .func (PySem.W.fnOf "_law_renamed" "_law_renamed" (C8.fnArgs sRenamed) (C8.fnBody sRenamed) (C8.fnScope sRenamed) .none kV_renamed dc_renamed pm_renamed an_renamed cd_renamed ct_renamed), os_renamed⟩)
    (c_renamed : PySem.W.codeIn K cd_renamed "_law_renamed" = true)
    (k_renamed : PySem.W.keepIn K (.ref f_renamed) = true)
    (a_hard : PySem.W.nsIn K mainGlobals "_law_hard" = some (some (.ref f_hard)))
    (l_hard : K.lookup f_hard = some ⟨oc_hard, od_hard, .func (PySem.W.fnOf "_law_hard" "_law_hard" (C8.fnArgs sHard) (C8.fnBody sHard) (C8.fnScope sHard) .none kV_hard dc_hard pm_hard an_hard cd_hard ct_hard), os_hard⟩)
    (c_hard : PySem.W.codeIn K cd_hard "_law_hard" = true)
    (k_hard : PySem.W.keepIn K (.ref f_hard) = true)
    (a_some : PySem.W.nsIn K mainGlobals "_law_some" = some (some (.ref f_some)))
    (l_some : K.lookup f_some = some ⟨oc_some, od_some, .func (PySem.W.fnOf "_law_some" "_law_some" (C8.fnArgs sSome) (C8.fnBody sSome) (C8.fnScope sSome) .none kV_some dc_some pm_some an_some cd_some ct_some), os_some⟩)
    (c_some : PySem.W.codeIn K cd_some "_law_some" = true)
    (k_some : PySem.W.keepIn K (.ref f_some) = true)
    (a_web : PySem.W.nsIn K mainGlobals "_law_web" = some (some (.ref f_web)))
    (l_web : K.lookup f_web = some ⟨oc_web, od_web, .func (PySem.W.fnOf "_law_web" "_law_web" (C8.fnArgs sWeb) (C8.fnBody sWeb) (C8.fnScope sWeb) .none kV_web dc_web pm_web an_web cd_web ct_web), os_web⟩)
    (c_web : PySem.W.codeIn K cd_web "_law_web" = true)
    (k_web : PySem.W.keepIn K (.ref f_web) = true)
    (a_law : PySem.W.nsIn K mainGlobals "law" = some (some (.ref f_law)))
    (l_law : K.lookup f_law = some ⟨oc_law, od_law, .func (PySem.W.fnOf "law" "law" (C8.fnArgs sLaw) (C8.fnBody sLaw) (C8.fnScope sLaw) .none kV_law dc_law pm_law an_law cd_law ct_law), os_law⟩)
    (c_law : PySem.W.codeIn K cd_law "law" = true)
    (k_law : PySem.W.keepIn K (.ref f_law) = true)
    (a_init : PySem.W.findIn K (.ref C) "__init__" = some (some (.ref f_init)))
    (i_init : PySem.W.isFn K (.ref f_init) = true)
    (l_init : K.lookup f_init = some ⟨oc_init, od_init, .func (PySem.W.fnOf "__init__" "Web.__init__" (C8.fnArgs sInit) (C8.fnBody sInit) (C8.fnScope sInit) .none kV_init dc_init pm_init an_init cd_init ct_init), os_init⟩)
    (c_init : PySem.W.codeIn K cd_init "Web.__init__" = true)
    (k_init : PySem.W.keepIn K (.ref f_init) = true)
    (a_eq : PySem.W.findIn K (.ref C) "__eq__" = some (some (.ref f_eq)))
    (i_eq : PySem.W.isFn K (.ref f_eq) = true)
    (l_eq : K.lookup f_eq = some ⟨oc_eq, od_eq, .func (PySem.W.fnOf "__eq__" "Web.__eq__" (C8.fnArgs sEq) (C8.fnBody sEq) (C8.fnScope sEq) .none kV_eq dc_eq pm_eq an_eq cd_eq ct_eq), os_eq⟩)
    (c_eq : PySem.W.codeIn K cd_eq "Web.__eq__" = true)
    (k_eq : PySem.W.keepIn K (.ref f_eq) = true)
    (a_edges : PySem.W.findIn K (.ref C) "edges" = some (some (.ref f_edges)))
    (i_edges : PySem.W.isFn K (.ref f_edges) = true)
    (l_edges : K.lookup f_edges = some ⟨oc_edges, od_edges, .func (PySem.W.fnOf "edges" "Web.edges" (C8.fnArgs sEdges) (C8.fnBody sEdges) (C8.fnScope sEdges) .none kV_edges dc_edges pm_edges an_edges cd_edges ct_edges), os_edges⟩)
    (c_edges : PySem.W.codeIn K cd_edges "Web.edges" = true)
    (k_edges : PySem.W.keepIn K (.ref f_edges) = true)
    (a_mark : PySem.W.findIn K (.ref C) "mark" = some (some (.ref f_mark)))
    (i_mark : PySem.W.isFn K (.ref f_mark) = true)
    (l_mark : K.lookup f_mark = some ⟨oc_mark, od_mark, .func (PySem.W.fnOf "mark" "Web.mark" (C8.fnArgs sMark) (C8.fnBody sMark) (C8.fnScope sMark) .none kV_mark dc_mark pm_mark an_mark cd_mark ct_mark), os_mark⟩)
    (c_mark : PySem.W.codeIn K cd_mark "Web.mark" = true)
    (k_mark : PySem.W.keepIn K (.ref f_mark) = true)
    (a_ends : PySem.W.findIn K (.ref C) "ends" = some (some (.ref f_ends)))
    (i_ends : PySem.W.isFn K (.ref f_ends) = true)
    (l_ends : K.lookup f_ends = some ⟨oc_ends, od_ends, .func (PySem.W.fnOf "ends" "Web.ends" (C8.fnArgs sEnds) (C8.fnBody sEnds) (C8.fnScope sEnds) .none kV_ends dc_ends pm_ends an_ends cd_ends ct_ends), os_ends⟩)
    (c_ends : PySem.W.codeIn K cd_ends "Web.ends" = true)
    (k_ends : PySem.W.keepIn K (.ref f_ends) = true)
    (a_edgesOf : PySem.W.findIn K (.ref C) "edges_of" = some (some (.ref f_edgesOf)))
    (i_edgesOf : PySem.W.isFn K (.ref f_edgesOf) = true)
    (l_edgesOf : K.lookup f_edgesOf = some ⟨oc_edgesOf, od_edgesOf, .func (PySem.W.fnOf "edges_of" "Web.edges_of" (C8.fnArgs sEdgesOf) (C8.fnBody sEdgesOf) (C8.fnScope sEdgesOf) .none kV_edgesOf dc_edgesOf pm_edgesOf an_edgesOf cd_edgesOf ct_edgesOf), os_edgesOf⟩)
    (c_edgesOf : PySem.W.codeIn K cd_edgesOf "Web.edges_of" = true)
    (k_edgesOf : PySem.W.keepIn K (.ref f_edgesOf) = true)
    (a_other : PySem.W.findIn K (.ref C) "other_end" = some (some (.ref f_other)))
    (i_other : PySem.W.isFn K (.ref f_other) = true)
    (l_other : K.lookup f_other = some ⟨oc_other, od_other, .func (PySem.W.fnOf "other_end" "Web.other_end" (C8.fnArgs sOther) (C8.fnBody sOther) (C8.fnScope sOther) .none kV_other dc_other pm_other an_other cd_other ct_other), os_other⟩)
    (c_other : PySem.W.codeIn K cd_other "Web.other_end" = true)
    (k_other : PySem.W.keepIn K (.ref f_other) = true)
    (a_compOf : PySem.W.findIn K (.ref C) "component_of" = some (some (.ref f_compOf)))
    (i_compOf : PySem.W.isFn K (.ref f_compOf) = true)
    (l_compOf : K.lookup f_compOf = some ⟨oc_compOf, od_compOf, .func (PySem.W.fnOf "component_of" "Web.component_of" (C8.fnArgs sCompOf) (C8.fnBody sCompOf) (C8.fnScope sCompOf) .none kV_compOf dc_compOf pm_compOf an_compOf cd_compOf ct_compOf), os_compOf⟩)
    (c_compOf : PySem.W.codeIn K cd_compOf "Web.component_of" = true)
    (k_compOf : PySem.W.keepIn K (.ref f_compOf) = true)
    (a_comps : PySem.W.findIn K (.ref C) "components" = some (some (.ref f_comps)))
    (i_comps : PySem.W.isFn K (.ref f_comps) = true)
    (l_comps : K.lookup f_comps = some ⟨oc_comps, od_comps, .func (PySem.W.fnOf "components" "Web.components" (C8.fnArgs sComps) (C8.fnBody sComps) (C8.fnScope sComps) .none kV_comps dc_comps pm_comps an_comps cd_comps ct_comps), os_comps⟩)
    (c_comps : PySem.W.codeIn K cd_comps "Web.components" = true)
    (k_comps : PySem.W.keepIn K (.ref f_comps) = true)
    (a_isOdd : PySem.W.findIn K (.ref C) "is_odd" = some (some (.ref f_isOdd)))
    (i_isOdd : PySem.W.isFn K (.ref f_isOdd) = true)
    (l_isOdd : K.lookup f_isOdd = some ⟨oc_isOdd, od_isOdd, .func (PySem.W.fnOf "is_odd" "Web.is_odd" (C8.fnArgs sIsOdd) (C8.fnBody sIsOdd) (C8.fnScope sIsOdd) .none kV_isOdd dc_isOdd pm_isOdd an_isOdd cd_isOdd ct_isOdd), os_isOdd⟩)
    (c_isOdd : PySem.W.codeIn K cd_isOdd "Web.is_odd" = true)
    (k_isOdd : PySem.W.keepIn K (.ref f_isOdd) = true)
    (a_cut : PySem.W.findIn K (.ref C) "cut" = some (some (.ref f_cut)))
    (i_cut : PySem.W.isFn K (.ref f_cut) = true)
    (l_cut : K.lookup f_cut = some ⟨oc_cut, od_cut, .func (PySem.W.fnOf "cut" "Web.cut" (C8.fnArgs sCut) (C8.fnBody sCut) (C8.fnScope sCut) .none kV_cut dc_cut pm_cut an_cut cd_cut ct_cut), os_cut⟩)
    (c_cut : PySem.W.codeIn K cd_cut "Web.cut" = true)
    (k_cut : PySem.W.keepIn K (.ref f_cut) = true)
    (a_con : PySem.W.findIn K (.ref C) "contracted" = some (some (.ref f_con)))
    (i_con : PySem.W.isFn K (.ref f_con) = true)
    (l_con : K.lookup f_con = some ⟨oc_con, od_con, .func (PySem.W.fnOf "contracted" "Web.contracted" (C8.fnArgs sCon) (C8.fnBody sCon) (C8.fnScope sCon) .none kV_con dc_con pm_con an_con cd_con ct_con), os_con⟩)
    (c_con : PySem.W.codeIn K cd_con "Web.contracted" = true)
    (k_con : PySem.W.keepIn K (.ref f_con) = true)
    (pAt : PySem.W.findIn K (.ref C) "parity" = some (some (.ref pp)))
    (pGet : PySem.W.specialIn K (.ref pp) "__get__" = some (some (.builtin "property.__get__")))
    (pTak : PySem.W.takesIn K (.ref pp) = some true)
    (pRec : PySem.W.recIn K pp "property" = some (.ref f_par :: rest))
    (l_par : K.lookup f_par = some ⟨oc_par, od_par, .func (PySem.W.fnOf "parity" "Web.parity" (C8.fnArgs sParity) (C8.fnBody sParity) (C8.fnScope sParity) .none kV_par dc_par pm_par an_par cd_par ct_par), os_par⟩)
    (c_par : PySem.W.codeIn K cd_par "Web.parity" = true)
    (pg : PySem.W.plainGet K C Str.empty = true)
    (hd : PySem.W.hasDictIn K C = true)
    (po : PySem.W.plainOver K C = true)
    (sa : PySem.W.findIn K (.ref C) "__setattr__" = some (some (.builtin "object.__setattr__")))
    (mk : PySem.W.makesIn K C = true)
    (kc : PySem.W.keepIn K (.ref C) = true)
    (nM : PySem.W.findIn K (.ref C) "node_marks" = some none)
    (nE : PySem.W.findIn K (.ref C) "edge_ends" = some none)
    (ic : PySem.W.findIn K (.ref C) "__class__" = some (some (.builtin "object.__class__")))
    (ig : PySem.W.specialIn K (.builtin "object.__class__") "__get__" = some (some (.builtin "getset_descriptor.__get__")))
    (it : PySem.W.takesIn K (.builtin "object.__class__") = some true)
    (im : PySem.W.mroIn K C (.type "object") = some true)
    (en : PySem.W.findIn K (.ref C) "__ne__" = some (some (.builtin "object.__ne__")))
    (rr : PySem.W.readsIn K C (.type "type") = true)
    (rg : PySem.W.specialIn K (.ref C) "__getattribute__" = some (some (.builtin "type.__getattribute__")))
    (rv : PySem.W.findCls K (.ref C) (.type "type") "MAX_NODES" = some (.val (.int 12 tM)))
    (aN : PySem.W.nsIn K mainGlobals "NAMES" = some (some (.str zN tN)))
    (hN : zN = letters)
    (z_list : PySem.W.nsIn K mainGlobals "list" = some none)
    (z_len : PySem.W.nsIn K mainGlobals "len" = some none)
    (z_sorted : PySem.W.nsIn K mainGlobals "sorted" = some none)
    (z_range : PySem.W.nsIn K mainGlobals "range" = some none)
    (z_dict : PySem.W.nsIn K mainGlobals "dict" = some none)
    (z_min : PySem.W.nsIn K mainGlobals "min" = some none)
    (z_max : PySem.W.nsIn K mainGlobals "max" = some none)
    (z_sum : PySem.W.nsIn K mainGlobals "sum" = some none)
    (z_tuple : PySem.W.nsIn K mainGlobals "tuple" = some none)
    (z_isinstance : PySem.W.nsIn K mainGlobals "isinstance" = some none)
    : ∃ fd : FuncData, (∀ (s : Shared) (v : Value), BindsTo s fd ⟨[v], []⟩ [("_law_script", v)]) ∧ ∀ base : Heap, K.In base → base.Ns mainGlobals mg → FnOk l.prog w K mg base C8.CX0 6 fa fd ["_law_script"] (spLaw K) := by
  have e := hfa.symm.trans (PySem.W.mg_of X G a_law)
  cases e
  have cl : Cls K C := ⟨pg, hd, po, sa⟩
  have T : Txt K mg C := {
    list := PySem.W.mg_none_of X G z_list, len := PySem.W.mg_none_of X G z_len, sorted := PySem.W.mg_none_of X G z_sorted, range := PySem.W.mg_none_of X G z_range, dict := PySem.W.mg_none_of X G z_dict
    min := PySem.W.mg_none_of X G z_min, max := PySem.W.mg_none_of X G z_max, sum := PySem.W.mg_none_of X G z_sum, tuple := PySem.W.mg_none_of X G z_tuple, isi := PySem.W.mg_none_of X G z_isinstance
    mgC := PySem.W.mg_of X G aC, cl := cl, nM := nM, nE := nE
    ins := { cl := cl, ha := ic, hn := ig, htk := it, hm := im, me := if_pos (beq_self_eq_true _) }
    rd := ⟨.type "type", .int 12 tM, ⟨rr, rg⟩, ⟨rv, ⟨tM, rfl⟩⟩⟩
    names := ⟨_, PySem.W.mg_of X G aN, ⟨tN, by rw [hN]; rfl⟩⟩ }
  have F_isNode : C8.Fun K "is_node_number" "is_node_number" sIsNode f_isNode _ := ⟨⟨_, _, _, _, _, _, _, _, _, _, rfl, l_isNode, c_isNode⟩⟩
  have b_isNode := C8.Fun.binds (ps := ["node"]) F_isNode rfl fun _ _ _ _ _ _ us hl => match us, hl with | [_], _ => rfl
  have F_isName : C8.Fun K "is_edge_name" "is_edge_name" sIsName f_isName _ := ⟨⟨_, _, _, _, _, _, _, _, _, _, rfl, l_isName, c_isName⟩⟩
  have b_isName := C8.Fun.binds (ps := ["name"]) F_isName rfl fun _ _ _ _ _ _ us hl => match us, hl with | [_], _ => rfl
  have F_check : C8.Fun K "check_parts" "check_parts" sCheck f_check _ := ⟨⟨_, _, _, _, _, _, _, _, _, _, rfl, l_check, c_check⟩⟩
  have b_check := C8.Fun.binds (ps := ["marks", "edges"]) F_check rfl fun _ _ _ _ _ _ us hl => match us, hl with | [_, _], _ => rfl
  have F_bag : C8.Fun K "_law_bag" "_law_bag" sBag f_bag _ := ⟨⟨_, _, _, _, _, _, _, _, _, _, rfl, l_bag, c_bag⟩⟩
  have b_bag := C8.Fun.binds (ps := ["_law_script"]) F_bag rfl fun _ _ _ _ _ _ us hl => match us, hl with | [_], _ => rfl
  have F_pull : C8.Fun K "_law_pull" "_law_pull" sPull f_pull _ := ⟨⟨_, _, _, _, _, _, _, _, _, _, rfl, l_pull, c_pull⟩⟩
  have b_pull := C8.Fun.binds (ps := ["_law_bag_here", "_law_many"]) F_pull rfl fun _ _ _ _ _ _ us hl => match us, hl with | [_, _], _ => rfl
  have F_of : C8.Fun K "_law_of" "_law_of" sOf f_of _ := ⟨⟨_, _, _, _, _, _, _, _, _, _, rfl, l_of, c_of⟩⟩
  have b_of := C8.Fun.binds (ps := ["_law_bag_here", "_law_things"]) F_of rfl fun _ _ _ _ _ _ us hl => match us, hl with | [_, _], _ => rfl
  have F_mixed : C8.Fun K "_law_mixed" "_law_mixed" sMixed f_mixed _ := ⟨⟨_, _, _, _, _, _, _, _, _, _, rfl, l_mixed, c_mixed⟩⟩
  have b_mixed := C8.Fun.binds (ps := ["_law_bag_here", "_law_things"]) F_mixed rfl fun _ _ _ _ _ _ us hl => match us, hl with | [_, _], _ => rfl
  have F_letters : C8.Fun K "_law_letters" "_law_letters" sLetters f_letters _ := ⟨⟨_, _, _, _, _, _, _, _, _, _, rfl, l_letters, c_letters⟩⟩
  have b_letters := C8.Fun.binds (ps := []) F_letters rfl fun _ _ _ _ _ _ us hl => match us, hl with | [], _ => rfl
  have F_raw : C8.Fun K "_law_raw" "_law_raw" sRaw f_raw _ := ⟨⟨_, _, _, _, _, _, _, _, _, _, rfl, l_raw, c_raw⟩⟩
  have b_raw := C8.Fun.binds (ps := ["_law_bag_here", "_law_wide", "_law_many"]) F_raw rfl fun _ _ _ _ _ _ us hl => match us, hl with | [_, _, _], _ => rfl
  have F_five : C8.Fun K "_law_five" "_law_five" sFive f_five _ := ⟨⟨_, _, _, _, _, _, _, _, _, _, rfl, l_five, c_five⟩⟩
  have b_five := C8.Fun.binds (ps := []) F_five rfl fun _ _ _ _ _ _ us hl => match us, hl with | [], _ => rfl
  have F_six : C8.Fun K "_law_six" "_law_six" sSix f_six _ := ⟨⟨_, _, _, _, _, _, _, _, _, _, rfl, l_six, c_six⟩⟩
  have b_six := C8.Fun.binds (ps := []) F_six rfl fun _ _ _ _ _ _ us hl => match us, hl with | [], _ => rfl
  have F_renamed : C8.Fun K "_law_renamed" "_law_renamed" sRenamed f_renamed _ := ⟨⟨_, _, _, _, _, _, _, _, _, _, rfl, l_renamed, c_renamed⟩⟩
  have b_renamed := C8.Fun.binds (ps := ["_law_bag_here", "_law_size", "_law_pairs"]) F_renamed rfl fun _ _ _ _ _ _ us hl => match us, hl with | [_, _, _], _ => rfl
  have F_hard : C8.Fun K "_law_hard" "_law_hard" sHard f_hard _ := ⟨⟨_, _, _, _, _, _, _, _, _, _, rfl, l_hard, c_hard⟩⟩
  have b_hard := C8.Fun.binds (ps := ["_law_bag_here"]) F_hard rfl fun _ _ _ _ _ _ us hl => match us, hl with | [_], _ => rfl
  have F_some : C8.Fun K "_law_some" "_law_some" sSome f_some _ := ⟨⟨_, _, _, _, _, _, _, _, _, _, rfl, l_some, c_some⟩⟩
  have b_some := C8.Fun.binds (ps := ["_law_bag_here"]) F_some rfl fun _ _ _ _ _ _ us hl => match us, hl with | [_], _ => rfl
  have F_web : C8.Fun K "_law_web" "_law_web" sWeb f_web _ := ⟨⟨_, _, _, _, _, _, _, _, _, _, rfl, l_web, c_web⟩⟩
  have b_web := C8.Fun.binds (ps := ["_law_raw_here"]) F_web rfl fun _ _ _ _ _ _ us hl => match us, hl with | [_], _ => rfl
  have F_law : C8.Fun K "law" "law" sLaw fa _ := ⟨⟨_, _, _, _, _, _, _, _, _, _, rfl, l_law, c_law⟩⟩
  have b_law := C8.Fun.binds (ps := ["_law_script"]) F_law rfl fun _ _ _ _ _ _ us hl => match us, hl with | [_], _ => rfl
  have F_init : C8.Fun K "__init__" "Web.__init__" sInit f_init _ := ⟨⟨_, _, _, _, _, _, _, _, _, _, rfl, l_init, c_init⟩⟩
  have b_init := C8.Fun.binds (ps := ["self", "marks", "edges"]) F_init rfl fun _ _ _ _ _ _ us hl => match us, hl with | [_, _, _], _ => rfl
  have F_eq : C8.Fun K "__eq__" "Web.__eq__" sEq f_eq _ := ⟨⟨_, _, _, _, _, _, _, _, _, _, rfl, l_eq, c_eq⟩⟩
  have b_eq := C8.Fun.binds (ps := ["self", "other"]) F_eq rfl fun _ _ _ _ _ _ us hl => match us, hl with | [_, _], _ => rfl
  have F_edges : C8.Fun K "edges" "Web.edges" sEdges f_edges _ := ⟨⟨_, _, _, _, _, _, _, _, _, _, rfl, l_edges, c_edges⟩⟩
  have b_edges := C8.Fun.binds (ps := ["self"]) F_edges rfl fun _ _ _ _ _ _ us hl => match us, hl with | [_], _ => rfl
  have F_mark : C8.Fun K "mark" "Web.mark" sMark f_mark _ := ⟨⟨_, _, _, _, _, _, _, _, _, _, rfl, l_mark, c_mark⟩⟩
  have b_mark := C8.Fun.binds (ps := ["self", "node"]) F_mark rfl fun _ _ _ _ _ _ us hl => match us, hl with | [_, _], _ => rfl
  have F_ends : C8.Fun K "ends" "Web.ends" sEnds f_ends _ := ⟨⟨_, _, _, _, _, _, _, _, _, _, rfl, l_ends, c_ends⟩⟩
  have b_ends := C8.Fun.binds (ps := ["self", "edge"]) F_ends rfl fun _ _ _ _ _ _ us hl => match us, hl with | [_, _], _ => rfl
  have F_edgesOf : C8.Fun K "edges_of" "Web.edges_of" sEdgesOf f_edgesOf _ := ⟨⟨_, _, _, _, _, _, _, _, _, _, rfl, l_edgesOf, c_edgesOf⟩⟩
  have b_edgesOf := C8.Fun.binds (ps := ["self", "node"]) F_edgesOf rfl fun _ _ _ _ _ _ us hl => match us, hl with | [_, _], _ => rfl
  have F_other : C8.Fun K "other_end" "Web.other_end" sOther f_other _ := ⟨⟨_, _, _, _, _, _, _, _, _, _, rfl, l_other, c_other⟩⟩
  have b_other := C8.Fun.binds (ps := ["self", "edge", "node"]) F_other rfl fun _ _ _ _ _ _ us hl => match us, hl with | [_, _, _], _ => rfl
  have F_compOf : C8.Fun K "component_of" "Web.component_of" sCompOf f_compOf _ := ⟨⟨_, _, _, _, _, _, _, _, _, _, rfl, l_compOf, c_compOf⟩⟩
  have b_compOf := C8.Fun.binds (ps := ["self", "node"]) F_compOf rfl fun _ _ _ _ _ _ us hl => match us, hl with | [_, _], _ => rfl
  have F_comps : C8.Fun K "components" "Web.components" sComps f_comps _ := ⟨⟨_, _, _, _, _, _, _, _, _, _, rfl, l_comps, c_comps⟩⟩
  have b_comps := C8.Fun.binds (ps := ["self"]) F_comps rfl fun _ _ _ _ _ _ us hl => match us, hl with | [_], _ => rfl
  have F_isOdd : C8.Fun K "is_odd" "Web.is_odd" sIsOdd f_isOdd _ := ⟨⟨_, _, _, _, _, _, _, _, _, _, rfl, l_isOdd, c_isOdd⟩⟩
  have b_isOdd := C8.Fun.binds (ps := ["self", "node"]) F_isOdd rfl fun _ _ _ _ _ _ us hl => match us, hl with | [_, _], _ => rfl
  have F_cut : C8.Fun K "cut" "Web.cut" sCut f_cut _ := ⟨⟨_, _, _, _, _, _, _, _, _, _, rfl, l_cut, c_cut⟩⟩
  have b_cut := C8.Fun.binds (ps := ["self", "edge"]) F_cut rfl fun _ _ _ _ _ _ us hl => match us, hl with | [_, _], _ => rfl
  have F_con : C8.Fun K "contracted" "Web.contracted" sCon f_con _ := ⟨⟨_, _, _, _, _, _, _, _, _, _, rfl, l_con, c_con⟩⟩
  have b_con := C8.Fun.binds (ps := ["self", "edge"]) F_con rfl fun _ _ _ _ _ _ us hl => match us, hl with | [_, _], _ => rfl
  have F_par : C8.Fun K "parity" "Web.parity" sParity f_par _ := ⟨⟨_, _, _, _, _, _, _, _, _, _, rfl, l_par, c_par⟩⟩
  have b_par := C8.Fun.binds (ps := ["self"]) F_par rfl fun _ _ _ _ _ _ us hl => match us, hl with | [_], _ => rfl
  have D_isNode : C8.Def K mg "is_node_number" sIsNode f_isNode _ := ⟨F_isNode, PySem.W.mg_of X G a_isNode, k_isNode⟩
  have D_isName : C8.Def K mg "is_edge_name" sIsName f_isName _ := ⟨F_isName, PySem.W.mg_of X G a_isName, k_isName⟩
  have D_check : C8.Def K mg "check_parts" sCheck f_check _ := ⟨F_check, PySem.W.mg_of X G a_check, k_check⟩
  have D_bag : C8.Def K mg "_law_bag" sBag f_bag _ := ⟨F_bag, PySem.W.mg_of X G a_bag, k_bag⟩
  have D_pull : C8.Def K mg "_law_pull" sPull f_pull _ := ⟨F_pull, PySem.W.mg_of X G a_pull, k_pull⟩
  have D_of : C8.Def K mg "_law_of" sOf f_of _ := ⟨F_of, PySem.W.mg_of X G a_of, k_of⟩
  have D_mixed : C8.Def K mg "_law_mixed" sMixed f_mixed _ := ⟨F_mixed, PySem.W.mg_of X G a_mixed, k_mixed⟩
  have D_letters : C8.Def K mg "_law_letters" sLetters f_letters _ := ⟨F_letters, PySem.W.mg_of X G a_letters, k_letters⟩
  have D_raw : C8.Def K mg "_law_raw" sRaw f_raw _ := ⟨F_raw, PySem.W.mg_of X G a_raw, k_raw⟩
  have D_five : C8.Def K mg "_law_five" sFive f_five _ := ⟨F_five, PySem.W.mg_of X G a_five, k_five⟩
  have D_six : C8.Def K mg "_law_six" sSix f_six _ := ⟨F_six, PySem.W.mg_of X G a_six, k_six⟩
  have D_renamed : C8.Def K mg "_law_renamed" sRenamed f_renamed _ := ⟨F_renamed, PySem.W.mg_of X G a_renamed, k_renamed⟩
  have D_hard : C8.Def K mg "_law_hard" sHard f_hard _ := ⟨F_hard, PySem.W.mg_of X G a_hard, k_hard⟩
  have D_some : C8.Def K mg "_law_some" sSome f_some _ := ⟨F_some, PySem.W.mg_of X G a_some, k_some⟩
  have D_web : C8.Def K mg "_law_web" sWeb f_web _ := ⟨F_web, PySem.W.mg_of X G a_web, k_web⟩
  have D_law : C8.Def K mg "law" sLaw fa _ := ⟨F_law, PySem.W.mg_of X G a_law, k_law⟩
  have m_edges : Meth K C "edges" f_edges := ⟨a_edges, i_edges, k_edges⟩
  have m_mark : Meth K C "mark" f_mark := ⟨a_mark, i_mark, k_mark⟩
  have m_ends : Meth K C "ends" f_ends := ⟨a_ends, i_ends, k_ends⟩
  have m_edgesOf : Meth K C "edges_of" f_edgesOf := ⟨a_edgesOf, i_edgesOf, k_edgesOf⟩
  have m_other : Meth K C "other_end" f_other := ⟨a_other, i_other, k_other⟩
  have m_compOf : Meth K C "component_of" f_compOf := ⟨a_compOf, i_compOf, k_compOf⟩
  have m_comps : Meth K C "components" f_comps := ⟨a_comps, i_comps, k_comps⟩
  have m_isOdd : Meth K C "is_odd" f_isOdd := ⟨a_isOdd, i_isOdd, k_isOdd⟩
  have m_cut : Meth K C "cut" f_cut := ⟨a_cut, i_cut, k_cut⟩
  have m_con : Meth K C "contracted" f_con := ⟨a_con, i_con, k_con⟩
  refine ⟨_, fun s v => .of_eq rfl, fun base _ _ => fn_law (base := base) T ?_ F_law⟩
  have cPull := cal_pull (P := l.prog) (w := w) (base := base) T D_pull b_pull
  have cMixed := cal_mixed T D_mixed b_mixed cPull
  have cOf := cal_of T D_of b_of cPull
  have cLet := cal_letters (P := l.prog) (w := w) (base := base) (mg := mg) D_letters b_letters
  have cFive := cal_five (P := l.prog) (w := w) (base := base) (mg := mg) D_five b_five
  have cSix := cal_six (P := l.prog) (w := w) (base := base) (mg := mg) D_six b_six
  have cRaw := cal_raw T D_raw b_raw cPull cMixed cLet
  have cRen := cal_renamed T D_renamed b_renamed cPull cMixed cLet
  have cHard := cal_hard T D_hard b_hard cPull cOf cFive cSix cRen
  have cSome := cal_some T D_some b_some cPull cHard cRaw
  have cIsNode := cal_isNode (P := l.prog) (w := w) (base := base) T D_isNode b_isNode
  have cIsName := cal_isName (P := l.prog) (w := w) (base := base) T D_isName b_isName
  have cCheck := cal_check T D_check b_check cIsNode cIsName
  have mMark := met_mark (P := l.prog) (w := w) (mg := mg) (base := base) T F_mark b_mark m_mark
  have mEnds := met_ends (P := l.prog) (w := w) (mg := mg) (base := base) T F_ends b_ends m_ends
  have mOther := met_other (P := l.prog) (w := w) (mg := mg) (base := base) T F_other b_other m_other
  have mEdges := met_edges (P := l.prog) (w := w) (mg := mg) (base := base) T F_edges b_edges m_edges
  have mEdgesOf := met_edgesOf T F_edgesOf b_edgesOf m_edgesOf mMark
  have mCompOf := met_compOf T F_compOf b_compOf m_compOf mMark mEdgesOf mOther
  have mComps := met_comps T F_comps b_comps m_comps mCompOf
  have mIsOdd := met_isOdd T F_isOdd b_isOdd m_isOdd mCompOf
  have cInit := mak_web T ⟨mk, a_init, i_init, kc⟩ F_init b_init cCheck
  have mCut := met_cut T F_cut b_cut m_cut mEnds cInit
  have mCon := met_con T F_con b_con m_con mEnds cInit
  have cWeb := cal_web T D_web b_web cInit
  exact { bag := cal_bag T D_bag b_bag, pull := cPull, mixed := cMixed, some' := cSome, raw := cRaw, web := cWeb, con := mCon, cut := mCut, ends := mEnds, edges := mEdges, comps := mComps, odd := mIsOdd
          par := ⟨pp, f_par, _, ⟨pAt, pGet, pTak, ⟨rest, pRec⟩⟩, fn_parity T F_par, b_par⟩
          eq := ⟨f_eq, _, ⟨en, a_eq, i_eq, im⟩, fn_eq T F_eq, b_eq⟩ }
theorem walk {l : PySem.W.OpenLaw} {q : Program} {loose : List Str} {XP : (Str → Option Value) → Heap → Prop} {YP : World → Heap → Prop} {d : DefRec} {K : Params → PySem.W.Frag} (hn : l.most = some 63) (hdf : d.params.defaults = [])
    (hY : ∀ (w : World) (h : Heap), YP w h → (K w.params).In h)
    (F : ∀ (w : World) (mg : Str → Option Value) (fa : Addr) (h : Heap), (K w.params).In h → h.Ns mainGlobals mg → mg d.name = some (.ref fa) →
      ∃ fd : FuncData, (∀ (s : Shared) (u : Value), BindsTo s fd ⟨[u], []⟩ [("_law_script", u)]) ∧ ∀ base : Heap, (K w.params).In base → base.Ns mainGlobals mg → FnOk l.prog w (K w.params) mg base C8.CX0 6 fa fd ["_law_script"] (spLaw (K w.params))) :
    PySem.W.WalkO q loose XP YP l.row.toRowW d [] (fun f vs => PySem.call f vs) :=
  L2.walk_of (n := 63) (k := 6) (x := "_law_script") (CX := fun _ => C8.CX0) (sp := fun w => spLaw (K w.params)) hn (by decide) hdf ⟨rfl, by decide, by decide⟩ hY F (fun _ _ a ns hl _ hS => ⟨a, ns, rfl, hS, hl, fun _ => rfl⟩) fun _ _ _ _ _ z => z
end TK
end
set_option Elab.async false
set_option linter.all false
open PySem PySem.W PyProof.Rows
set_option maxRecDepth 100000 in
set_option maxHeartbeats 0 in
theorem PySem.Challenge.cw_threadmark_k11_whole_changes_in_any_orde_holds : PySem.Challenge.rw_threadmark_k11_whole_changes_in_any_orde.Holds := by
  w_on; o_law; k_head; (case hw => w_witness2)
  k_fill
  refine TK.walk (l := PySem.Challenge.rw_threadmark_k11_whole_changes_in_any_orde) rfl rfl (fun w h Y => PySem.W.kIn_of Y) ?F
  case F =>
    intro w mg fa h KX G hmg
    refine' TK.all_mk KX G hmg ?aC ?a_isNode ?l_isNode ?c_isNode ?k_isNode ?a_isName ?l_isName ?c_isName ?k_isName ?a_check ?l_check ?c_check ?k_check ?a_bag ?l_bag ?c_bag ?k_bag ?a_pull ?l_pull ?c_pull ?k_pull ?a_of ?l_of ?c_of ?k_of ?a_mixed ?l_mixed ?c_mixed ?k_mixed ?a_letters ?l_letters ?c_letters ?k_letters ?a_raw ?l_raw ?c_raw ?k_raw ?a_five ?l_five ?c_five ?k_five ?a_six ?l_six ?c_six ?k_six ?a_renamed ?l_renamed ?c_renamed ?k_renamed ?a_hard ?l_hard ?c_hard ?k_hard ?a_some ?l_some ?c_some ?k_some ?a_web ?l_web ?c_web ?k_web ?a_law ?l_law ?c_law ?k_law ?a_init ?i_init ?l_init ?c_init ?k_init ?a_eq ?i_eq ?l_eq ?c_eq ?k_eq ?a_edges ?i_edges ?l_edges ?c_edges ?k_edges ?a_mark ?i_mark ?l_mark ?c_mark ?k_mark ?a_ends ?i_ends ?l_ends ?c_ends ?k_ends ?a_edgesOf ?i_edgesOf ?l_edgesOf ?c_edgesOf ?k_edgesOf ?a_other ?i_other ?l_other ?c_other ?k_other ?a_compOf ?i_compOf ?l_compOf ?c_compOf ?k_compOf ?a_comps ?i_comps ?l_comps ?c_comps ?k_comps ?a_isOdd ?i_isOdd ?l_isOdd ?c_isOdd ?k_isOdd ?a_cut ?i_cut ?l_cut ?c_cut ?k_cut ?a_con ?i_con ?l_con ?c_con ?k_con ?pAt ?pGet ?pTak ?pRec ?l_par ?c_par ?pg ?hd ?po ?sa ?mk ?kc ?nM ?nE ?ic ?ig ?it ?im ?en ?rr ?rg ?rv ?aN ?hN ?z_list ?z_len ?z_sorted ?z_range ?z_dict ?z_min ?z_max ?z_sum ?z_tuple ?z_isinstance
    (case aC => k_is); (case a_isNode => k_is); (case l_isNode => k_is); (case c_isNode => k_is); (case k_isNode => k_is); (case a_isName => k_is); (case l_isName => k_is); (case c_isName => k_is)
    (case k_isName => k_is); (case a_check => k_is); (case l_check => k_is); (case c_check => k_is); (case k_check => k_is); (case a_bag => k_is); (case l_bag => k_is); (case c_bag => k_is)
    (case k_bag => k_is); (case a_pull => k_is); (case l_pull => k_is); (case c_pull => k_is); (case k_pull => k_is); (case a_of => k_is); (case l_of => k_is); (case c_of => k_is)
    (case k_of => k_is); (case a_mixed => k_is); (case l_mixed => k_is); (case c_mixed => k_is); (case k_mixed => k_is); (case a_letters => k_is); (case l_letters => k_is); (case c_letters => k_is)
    (case k_letters => k_is); (case a_raw => k_is); (case l_raw => k_is); (case c_raw => k_is); (case k_raw => k_is); (case a_five => k_is); (case l_five => k_is); (case c_five => k_is)
    (case k_five => k_is); (case a_six => k_is); (case l_six => k_is); (case c_six => k_is); (case k_six => k_is); (case a_renamed => k_is); (case l_renamed => k_is); (case c_renamed => k_is)
    (case k_renamed => k_is); (case a_hard => k_is); (case l_hard => k_is); (case c_hard => k_is); (case k_hard => k_is); (case a_some => k_is); (case l_some => k_is); (case c_some => k_is)
    (case k_some => k_is); (case a_web => k_is); (case l_web => k_is); (case c_web => k_is); (case k_web => k_is); (case a_law => k_is); (case l_law => k_is); (case c_law => k_is)
    (case k_law => k_is); (case a_init => k_is); (case i_init => k_is); (case l_init => k_is); (case c_init => k_is); (case k_init => k_is); (case a_eq => k_is); (case i_eq => k_is)
    (case l_eq => k_is); (case c_eq => k_is); (case k_eq => k_is); (case a_edges => k_is); (case i_edges => k_is); (case l_edges => k_is); (case c_edges => k_is); (case k_edges => k_is)
    (case a_mark => k_is); (case i_mark => k_is); (case l_mark => k_is); (case c_mark => k_is); (case k_mark => k_is); (case a_ends => k_is); (case i_ends => k_is); (case l_ends => k_is)
    (case c_ends => k_is); (case k_ends => k_is); (case a_edgesOf => k_is); (case i_edgesOf => k_is); (case l_edgesOf => k_is); (case c_edgesOf => k_is); (case k_edgesOf => k_is); (case a_other => k_is)
    (case i_other => k_is); (case l_other => k_is); (case c_other => k_is); (case k_other => k_is); (case a_compOf => k_is); (case i_compOf => k_is); (case l_compOf => k_is); (case c_compOf => k_is)
    (case k_compOf => k_is); (case a_comps => k_is); (case i_comps => k_is); (case l_comps => k_is); (case c_comps => k_is); (case k_comps => k_is); (case a_isOdd => k_is); (case i_isOdd => k_is)
    (case l_isOdd => k_is); (case c_isOdd => k_is); (case k_isOdd => k_is); (case a_cut => k_is); (case i_cut => k_is); (case l_cut => k_is); (case c_cut => k_is); (case k_cut => k_is)
    (case a_con => k_is); (case i_con => k_is); (case l_con => k_is); (case c_con => k_is); (case k_con => k_is); (case pAt => k_is); (case pGet => k_is); (case pTak => k_is)
    (case pRec => k_is); (case l_par => k_is); (case c_par => k_is); (case pg => k_is); (case hd => k_is); (case po => k_is); (case sa => k_is); (case mk => k_is)
    (case kc => k_is); (case nM => k_is); (case nE => k_is); (case ic => k_is); (case ig => k_is); (case it => k_is); (case im => k_is); (case en => k_is)
    (case rr => k_is); (case rg => k_is); (case rv => k_is); (case aN => k_is); (case z_list => k_is); (case z_len => k_is); (case z_sorted => k_is); (case z_range => k_is)
    (case z_dict => k_is); (case z_min => k_is); (case z_max => k_is); (case z_sum => k_is); (case z_tuple => k_is); (case z_isinstance => k_is)
    (case hN => first | rfl | decide +kernel)
