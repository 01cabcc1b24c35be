import PyProof.Rows.All
import PyKm559
import Wide.All
import OpenK.AllK
import Wide.FinOn
import PyProof.EqAt
import PyProof.EqKinds
import PyProof.TupleCall
import HandS.ForMost
import HandS.ForSpec
import HandS.SortKw
import Open.SpecLaws
import KE.OsGo
import HandS.Conv
import HandS.RevRange
import HandS.Style
import HandS.ExcInit
import HandS.ExcField
import HandS.CallLocal
import HandS.Codes
import PySem.Challenge.RW_iceline_s01_answers
set_option Elab.async false
set_option linter.all false
set_option maxRecDepth 100000
set_option maxHeartbeats 4000000
/-! The plain law of iceline: no program in sight. Mirror functions over lists of Nat, and that the specification says the same. -/
namespace Ic
open Km559 (distance)

/-! ### distance -/
theorem dist_self (a : Nat) : distance a a = 0 := by unfold distance; omega
theorem dist_comm (a b : Nat) : distance a b = distance b a := by unfold distance; omega
theorem dist_tri (a b c : Nat) : distance a c ≤ distance a b + distance b c := by unfold distance; omega
theorem dist_cast (a b : Nat) : ((distance a b : Nat) : Int) = if (a : Int) - b < 0 then -((a : Int) - b) else (a : Int) - b := by
  unfold distance; split <;> omega
theorem dist_pos {a b : Nat} (h : a ≠ b) : 0 < distance a b := by unfold distance; omega

/-! ### the least of a list -/
def minL : List Nat → Nat
  | [] => 0
  | x :: xs => xs.foldl min x
theorem le_foldl_min (x : Nat) : ∀ (l : List Nat) (a : Nat), x ≤ l.foldl min a ↔ x ≤ a ∧ ∀ y ∈ l, x ≤ y
  | [], a => by simp
  | b :: l, a => by
    rw [List.foldl_cons, le_foldl_min x l (min a b)]
    simp only [List.mem_cons, forall_eq_or_imp]
    constructor
    · rintro ⟨h, k⟩; exact ⟨by omega, by omega, k⟩
    · rintro ⟨h, h2, k⟩; exact ⟨by omega, k⟩
theorem le_minL {l : List Nat} (h : l ≠ []) (x : Nat) : x ≤ minL l ↔ ∀ y ∈ l, x ≤ y := by
  cases l with
  | nil => exact absurd rfl h
  | cons a l => rw [minL, le_foldl_min]; simp
theorem foldl_min_mem : ∀ (l : List Nat) (a : Nat), l.foldl min a = a ∨ l.foldl min a ∈ l
  | [], a => .inl rfl
  | b :: l, a => by
    rw [List.foldl_cons]
    rcases foldl_min_mem l (min a b) with h | h
    · rw [h]
      by_cases c : a ≤ b
      · left; omega
      · right; rw [show min a b = b by omega]; exact List.mem_cons_self ..
    · exact .inr (List.mem_cons_of_mem _ h)
theorem minL_mem {l : List Nat} (h : l ≠ []) : minL l ∈ l := by
  cases l with
  | nil => exact absurd rfl h
  | cons a l =>
    rw [minL]
    rcases foldl_min_mem l a with e | e
    · rw [e]; exact List.mem_cons_self ..
    · exact List.mem_cons_of_mem _ e
theorem minL_le {l : List Nat} {y : Nat} (h : y ∈ l) : minL l ≤ y :=
  (le_minL (List.ne_nil_of_mem h) _).mp (Nat.le_refl _) y h
/-- what is in the list and not above any is the least -/
theorem minL_unique {l : List Nat} {m : Nat} (h : m ∈ l) (k : ∀ y ∈ l, m ≤ y) : m = minL l :=
  Nat.le_antisymm ((le_minL (List.ne_nil_of_mem h) m).mpr k) (minL_le h)
theorem eq_of_le_iff {a b : Nat} (h : ∀ x, x ≤ a ↔ x ≤ b) : a = b :=
  Nat.le_antisymm ((h a).mp (Nat.le_refl _)) ((h b).mpr (Nat.le_refl _))

/-! ### getD and set -/
theorem getD_of {l : List Nat} {i : Nat} (h : i < l.length) : l[i]? = some (l.getD i 0) := by
  rw [List.getD_eq_getElem?_getD, List.getElem?_eq_getElem h]; rfl
theorem getD_eq {l : List Nat} {i x : Nat} (h : l[i]? = some x) : l.getD i 0 = x := by
  rw [List.getD_eq_getElem?_getD, h]; rfl
theorem getD_set {l : List Nat} {i j x : Nat} (h : i < l.length) : (l.set i x).getD j 0 = if j = i then x else l.getD j 0 := by
  rw [List.getD_eq_getElem?_getD, List.getD_eq_getElem?_getD, List.getElem?_set]
  by_cases e : i = j
  · subst e; simp [h]
  · have e2 : ¬ j = i := fun z => e z.symm
    simp [e, e2]

/-! ### the distance between two standings -/
def D : List Nat → List Nat → Nat
  | a :: as, b :: bs => distance a b + D as bs
  | _, _ => 0
theorem D_self : ∀ l : List Nat, D l l = 0
  | [] => rfl
  | a :: l => by rw [D, D_self l, dist_self]
theorem D_comm : ∀ a b : List Nat, D a b = D b a
  | [], [] => rfl
  | [], _ :: _ => rfl
  | _ :: _, [] => rfl
  | a :: as, b :: bs => by rw [D, D, D_comm as bs, dist_comm]
theorem D_set : ∀ (l : List Nat) (i x : Nat), i < l.length → D l (l.set i x) = distance (l.getD i 0) x
  | [], _, _, h => absurd h (Nat.not_lt_zero _)
  | a :: l, 0, x, _ => by rw [List.set_cons_zero, D, D_self]; rfl
  | a :: l, i + 1, x, h => by
    rw [List.set_cons_succ, D, dist_self, D_set l i x (Nat.lt_of_succ_lt_succ h), Nat.zero_add]; rfl
theorem D_set2 : ∀ (l : List Nat) (i j x y : Nat), i < l.length → j < l.length → i ≠ j → D l ((l.set i x).set j y) = distance (l.getD i 0) x + distance (l.getD j 0) y
  | [], _, _, _, _, h, _, _ => absurd h (Nat.not_lt_zero _)
  | a :: l, 0, 0, x, y, _, _, n => absurd rfl n
  | a :: l, 0, j + 1, x, y, _, h, _ => by
    rw [List.set_cons_zero, List.set_cons_succ, D, D_set l j y (Nat.lt_of_succ_lt_succ h)]; rfl
  | a :: l, i + 1, 0, x, y, h, _, _ => by
    rw [List.set_cons_succ, List.set_cons_zero, D, D_set l i x (Nat.lt_of_succ_lt_succ h), Nat.add_comm]; rfl
  | a :: l, i + 1, j + 1, x, y, h, k, n => by
    rw [List.set_cons_succ, List.set_cons_succ, D, dist_self, D_set2 l i j x y (Nat.lt_of_succ_lt_succ h) (Nat.lt_of_succ_lt_succ k) (fun e => n (by rw [e])), Nat.zero_add]; rfl
/-- one place set on both sides -/
theorem D_set_both : ∀ (l m : List Nat) (i x : Nat), i < l.length → l.length = m.length → distance (l.getD i 0) (m.getD i 0) + D (l.set i x) (m.set i x) = D l m
  | [], _, _, _, h, _ => absurd h (Nat.not_lt_zero _)
  | a :: l, [], _, _, _, e => by simp at e
  | a :: l, b :: m, 0, x, _, _ => by
    rw [List.set_cons_zero, List.set_cons_zero, D, D, dist_self, Nat.zero_add]; rfl
  | a :: l, b :: m, i + 1, x, h, e => by
    have ih := D_set_both l m i x (Nat.lt_of_succ_lt_succ h) (Nat.succ.inj e)
    rw [List.set_cons_succ, List.set_cons_succ, D, D, ← ih]
    show distance (l.getD i 0) (m.getD i 0) + _ = _
    omega
theorem foldl_add_init {α : Type} (f : α → Nat) : ∀ (l : List α) (a : Nat), l.foldl (fun t x => t + f x) a = a + l.foldl (fun t x => t + f x) 0
  | [], a => by simp
  | x :: l, a => by rw [List.foldl_cons, List.foldl_cons, foldl_add_init f l (a + f x), foldl_add_init f l (0 + f x)]; omega
theorem moved_is : ∀ (l m : List Nat), l.length = m.length → Km559.distanceMoved l m = D l m
  | [], [], _ => rfl
  | [], _ :: _, e => by simp at e
  | _ :: _, [], e => by simp at e
  | a :: l, b :: m, e => by
    have ih := moved_is l m (Nat.succ.inj e)
    unfold Km559.distanceMoved at ih ⊢
    rw [List.length_cons, List.range_succ_eq_map, List.foldl_cons, List.foldl_map, foldl_add_init, D, ← ih]
    simp [List.getD_eq_getElem?_getD]

/-! ### the two neighbours -/
/-- what left_of finds: none is left of t, or j is the first of the greatest left of t -/
structure LeftAt (ps : List Nat) (t j : Nat) : Prop where
  lt : j < ps.length
  le : ps.getD j 0 ≤ t
  top : ∀ i, i < ps.length → ps.getD i 0 ≤ t → ps.getD i 0 ≤ ps.getD j 0
  fst : ∀ i, i < j → ps.getD i 0 ≤ t → ps.getD i 0 < ps.getD j 0
structure RightAt (ps : List Nat) (t j : Nat) : Prop where
  lt : j < ps.length
  le : t ≤ ps.getD j 0
  top : ∀ i, i < ps.length → t ≤ ps.getD i 0 → ps.getD j 0 ≤ ps.getD i 0
  fst : ∀ i, i < j → t ≤ ps.getD i 0 → ps.getD j 0 < ps.getD i 0
def leftStep (ps : List Nat) (t : Nat) (best : Option Nat) (i : Nat) : Option Nat :=
  if ps.getD i 0 ≤ t then (match best with
      | none => some i
      | some j => if ps.getD j 0 < ps.getD i 0 then some i else some j) else best
def rightStep (ps : List Nat) (t : Nat) (best : Option Nat) (i : Nat) : Option Nat :=
  if t ≤ ps.getD i 0 then (match best with
      | none => some i
      | some j => if ps.getD i 0 < ps.getD j 0 then some i else some j) else best
theorem left_fold (ps : List Nat) (t : Nat) : Km559.leftNeighbour ps t = (List.range ps.length).foldl (leftStep ps t) none := rfl
theorem right_fold (ps : List Nat) (t : Nat) : Km559.rightNeighbour ps t = (List.range ps.length).foldl (rightStep ps t) none := rfl
def LOk (ps : List Nat) (t n : Nat) : Option Nat → Prop
  | none => ∀ i, i < n → ¬ ps.getD i 0 ≤ t
  | some j => j < n ∧ ps.getD j 0 ≤ t ∧ (∀ i, i < n → ps.getD i 0 ≤ t → ps.getD i 0 ≤ ps.getD j 0) ∧ (∀ i, i < j → ps.getD i 0 ≤ t → ps.getD i 0 < ps.getD j 0)
def ROk (ps : List Nat) (t n : Nat) : Option Nat → Prop
  | none => ∀ i, i < n → ¬ t ≤ ps.getD i 0
  | some j => j < n ∧ t ≤ ps.getD j 0 ∧ (∀ i, i < n → t ≤ ps.getD i 0 → ps.getD j 0 ≤ ps.getD i 0) ∧ (∀ i, i < j → t ≤ ps.getD i 0 → ps.getD j 0 < ps.getD i 0)
theorem left_ok (ps : List Nat) (t : Nat) : ∀ n, LOk ps t n ((List.range n).foldl (leftStep ps t) none)
  | 0 => fun i h => absurd h (Nat.not_lt_zero _)
  | n + 1 => by
    have ih := left_ok ps t n
    rw [List.range_succ, List.foldl_append, List.foldl_cons, List.foldl_nil]
    generalize (List.range n).foldl (leftStep ps t) none = b at ih
    unfold leftStep
    by_cases c : ps.getD n 0 ≤ t
    · rw [if_pos c]
      cases b with
      | none =>
        refine ⟨Nat.lt_succ_self n, c, fun i hi k => ?_, fun i hi k => absurd k (ih i hi)⟩
        rcases Nat.lt_succ_iff_lt_or_eq.mp hi with h | h
        · exact absurd k (ih i h)
        · rw [h]; exact Nat.le_refl _
      | some j =>
        obtain ⟨h1, h2, h3, h4⟩ := ih
        dsimp only
        by_cases d : ps.getD j 0 < ps.getD n 0
        · rw [if_pos d]
          refine ⟨Nat.lt_succ_self n, c, fun i hi k => ?_, fun i hi k => Nat.lt_of_le_of_lt (h3 i hi k) d⟩
          rcases Nat.lt_succ_iff_lt_or_eq.mp hi with h | h
          · have := h3 i h k; omega
          · rw [h]; exact Nat.le_refl _
        · rw [if_neg d]
          refine ⟨by omega, h2, fun i hi k => ?_, h4⟩
          rcases Nat.lt_succ_iff_lt_or_eq.mp hi with h | h
          · exact h3 i h k
          · rw [h]; omega
    · rw [if_neg c]
      cases b with
      | none =>
        intro i hi
        rcases Nat.lt_succ_iff_lt_or_eq.mp hi with h | h
        · exact ih i h
        · rw [h]; exact c
      | some j =>
        obtain ⟨h1, h2, h3, h4⟩ := ih
        refine ⟨by omega, h2, fun i hi k => ?_, h4⟩
        rcases Nat.lt_succ_iff_lt_or_eq.mp hi with h | h
        · exact h3 i h k
        · rw [h] at k; exact absurd k c
theorem right_ok (ps : List Nat) (t : Nat) : ∀ n, ROk ps t n ((List.range n).foldl (rightStep ps t) none)
  | 0 => fun i h => absurd h (Nat.not_lt_zero _)
  | n + 1 => by
    have ih := right_ok ps t n
    rw [List.range_succ, List.foldl_append, List.foldl_cons, List.foldl_nil]
    generalize (List.range n).foldl (rightStep ps t) none = b at ih
    unfold rightStep
    by_cases c : t ≤ ps.getD n 0
    · rw [if_pos c]
      cases b with
      | none =>
        refine ⟨Nat.lt_succ_self n, c, fun i hi k => ?_, fun i hi k => absurd k (ih i hi)⟩
        rcases Nat.lt_succ_iff_lt_or_eq.mp hi with h | h
        · exact absurd k (ih i h)
        · rw [h]; exact Nat.le_refl _
      | some j =>
        obtain ⟨h1, h2, h3, h4⟩ := ih
        dsimp only
        by_cases d : ps.getD n 0 < ps.getD j 0
        · rw [if_pos d]
          refine ⟨Nat.lt_succ_self n, c, fun i hi k => ?_, fun i hi k => Nat.lt_of_lt_of_le d (h3 i hi k)⟩
          rcases Nat.lt_succ_iff_lt_or_eq.mp hi with h | h
          · have := h3 i h k; omega
          · rw [h]; exact Nat.le_refl _
        · rw [if_neg d]
          refine ⟨by omega, h2, fun i hi k => ?_, h4⟩
          rcases Nat.lt_succ_iff_lt_or_eq.mp hi with h | h
          · exact h3 i h k
          · rw [h]; omega
    · rw [if_neg c]
      cases b with
      | none =>
        intro i hi
        rcases Nat.lt_succ_iff_lt_or_eq.mp hi with h | h
        · exact ih i h
        · rw [h]; exact c
      | some j =>
        obtain ⟨h1, h2, h3, h4⟩ := ih
        refine ⟨by omega, h2, fun i hi k => ?_, h4⟩
        rcases Nat.lt_succ_iff_lt_or_eq.mp hi with h | h
        · exact h3 i h k
        · rw [h] at k; exact absurd k c
theorem left_spec (ps : List Nat) (t : Nat) : LOk ps t ps.length (Km559.leftNeighbour ps t) := left_ok ps t ps.length
theorem right_spec (ps : List Nat) (t : Nat) : ROk ps t ps.length (Km559.rightNeighbour ps t) := right_ok ps t ps.length
theorem left_none {ps : List Nat} {t : Nat} (h : ∀ i, i < ps.length → ¬ ps.getD i 0 ≤ t) : Km559.leftNeighbour ps t = none := by
  have z := left_spec ps t
  cases e : Km559.leftNeighbour ps t with
  | none => rfl
  | some j => rw [e] at z; exact absurd z.2.1 (h j z.1)
theorem right_none {ps : List Nat} {t : Nat} (h : ∀ i, i < ps.length → ¬ t ≤ ps.getD i 0) : Km559.rightNeighbour ps t = none := by
  have z := right_spec ps t
  cases e : Km559.rightNeighbour ps t with
  | none => rfl
  | some j => rw [e] at z; exact absurd z.2.1 (h j z.1)
theorem left_some {ps : List Nat} {t j : Nat} (h : LeftAt ps t j) : Km559.leftNeighbour ps t = some j := by
  have z := left_spec ps t
  cases e : Km559.leftNeighbour ps t with
  | none => rw [e] at z; exact absurd h.le (z j h.lt)
  | some i =>
    rw [e] at z
    obtain ⟨z1, z2, z3, z4⟩ := z
    congr 1
    have a := h.top i z1 z2
    have b := z3 j h.lt h.le
    rcases Nat.lt_trichotomy i j with c | c | c
    · have := h.fst i c z2; omega
    · exact c
    · have := z4 j c h.le; omega
theorem right_some {ps : List Nat} {t j : Nat} (h : RightAt ps t j) : Km559.rightNeighbour ps t = some j := by
  have z := right_spec ps t
  cases e : Km559.rightNeighbour ps t with
  | none => rw [e] at z; exact absurd h.le (z j h.lt)
  | some i =>
    rw [e] at z
    obtain ⟨z1, z2, z3, z4⟩ := z
    congr 1
    have a := h.top i z1 z2
    have b := z3 j h.lt h.le
    rcases Nat.lt_trichotomy i j with c | c | c
    · have := h.fst i c z2; omega
    · exact c
    · have := z4 j c h.le; omega
end Ic

namespace Ic
open Km559 (distance leftNeighbour rightNeighbour doubleCoverageStep)

/-! ### movers, step, covered -/
def two (i j : Nat) : List Nat := if i ≤ j then [i, j] else [j, i]
/-- movers' numbers, rising -/
def movers (ps : List Nat) (t : Nat) : List Nat :=
  if ps.contains t then [] else match leftNeighbour ps t, rightNeighbour ps t with
  | some i, some j => two i j
  | some i, none => [i]
  | none, some j => [j]
  | none, none => []
def gaps (ps : List Nat) (t : Nat) : List Nat := (movers ps t).map fun n => distance (ps.getD n 0) t
def far (ps : List Nat) (t : Nat) : Nat := minL (gaps ps t)
def towards (p t f : Nat) : Nat := if p < t then p + f else p - f
def covStep (ps : List Nat) (t f : Nat) (acc : List Nat) (n : Nat) : List Nat := acc.set n (towards (ps.getD n 0) t f)
def covered (ps : List Nat) (t : Nat) : List Nat := (movers ps t).foldl (covStep ps t (far ps t)) ps
def covDist (ps : List Nat) (t : Nat) : Nat := (movers ps t).length * far ps t

theorem not_contains {ps : List Nat} {t : Nat} (h : ps.contains t = false) {i : Nat} (hi : i < ps.length) : ps.getD i 0 ≠ t := by
  intro e
  have m : t ∈ ps := by
    rw [← e, List.getD_eq_getElem?_getD, List.getElem?_eq_getElem hi]
    exact List.getElem_mem hi
  rw [List.contains_eq_mem, decide_eq_false_iff_not] at h
  exact h m
/-- how the movers stand: the five cases -/
inductive Cas (ps : List Nat) (t : Nat) : Prop where
  | at (h : ps.contains t = true) (m : movers ps t = []) (s : doubleCoverageStep ps t = ps)
  | none (h : ps = []) (m : movers ps t = []) (s : doubleCoverageStep ps t = ps)
  | left (h : ps.contains t = false) (i : Nat) (hi : i < ps.length) (lt : ps.getD i 0 < t) (l : leftNeighbour ps t = some i) (m : movers ps t = [i]) (s : doubleCoverageStep ps t = ps.set i t)
  | right (h : ps.contains t = false) (i : Nat) (hi : i < ps.length) (lt : t < ps.getD i 0) (l : rightNeighbour ps t = some i) (m : movers ps t = [i]) (s : doubleCoverageStep ps t = ps.set i t)
  | both (h : ps.contains t = false) (i j : Nat) (hi : i < ps.length) (hj : j < ps.length) (ne : i ≠ j) (li : ps.getD i 0 < t) (lj : t < ps.getD j 0) (m : movers ps t = two i j)
      (s : doubleCoverageStep ps t = (ps.set i (ps.getD i 0 + min (t - ps.getD i 0) (ps.getD j 0 - t))).set j (ps.getD j 0 - min (t - ps.getD i 0) (ps.getD j 0 - t)))
theorem cas (ps : List Nat) (t : Nat) : Cas ps t := by
  cases h : ps.contains t with
  | true => exact .at h (by unfold movers; rw [if_pos h]) (by unfold doubleCoverageStep; rw [if_pos h])
  | false =>
    have nh : ¬ (ps.contains t = true) := by rw [h]; exact Bool.false_ne_true
    have zl := left_spec ps t
    have zr := right_spec ps t
    cases el : leftNeighbour ps t with
    | none =>
      rw [el] at zl
      cases er : rightNeighbour ps t with
      | none =>
        rw [er] at zr
        have e0 : ps = [] := by
          cases ps with
          | nil => rfl
          | cons a l =>
            have a1 := zl 0 (Nat.succ_pos _)
            have a2 := zr 0 (Nat.succ_pos _)
            omega
        exact .none e0 (by unfold movers; rw [if_neg nh, el, er]) (by unfold doubleCoverageStep; rw [if_neg nh, el, er])
      | some j =>
        rw [er] at zr
        obtain ⟨h1, h2, _⟩ := zr
        have := not_contains h h1
        exact .right h j h1 (by omega) er (by unfold movers; rw [if_neg nh, el, er]) (by unfold doubleCoverageStep; rw [if_neg nh, el, er])
    | some i =>
      rw [el] at zl
      obtain ⟨h1, h2, _⟩ := zl
      have ni := not_contains h h1
      cases er : rightNeighbour ps t with
      | none => exact .left h i h1 (by omega) el (by unfold movers; rw [if_neg nh, el, er]) (by unfold doubleCoverageStep; rw [if_neg nh, el, er])
      | some j =>
        rw [er] at zr
        obtain ⟨k1, k2, _⟩ := zr
        have nj := not_contains h k1
        exact .both h i j h1 k1 (fun e => by rw [e] at h2 ni; omega) (by omega) (by omega) (by unfold movers; rw [if_neg nh, el, er]) (by unfold doubleCoverageStep; rw [if_neg nh, el, er])
theorem set_swap (l : List Nat) {i j : Nat} (x y : Nat) (h : i ≠ j) : (l.set i x).set j y = (l.set j y).set i x := List.set_comm _ _ h
theorem far_two {ps : List Nat} {t i j : Nat} (m : movers ps t = two i j) (li : ps.getD i 0 < t) (lj : t < ps.getD j 0) : far ps t = min (t - ps.getD i 0) (ps.getD j 0 - t) := by
  unfold far gaps
  rw [m]
  unfold two
  split
  · show min (distance _ _) (distance _ _) = _
    unfold distance; omega
  · show min (distance _ _) (distance _ _) = _
    unfold distance; omega
theorem covered_is (ps : List Nat) (t : Nat) : covered ps t = doubleCoverageStep ps t := by
  cases cas ps t with
  | «at» h m s => rw [s]; unfold covered; rw [m]; rfl
  | none h m s => rw [s]; unfold covered; rw [m]; rfl
  | left h i hi lt l m s =>
    rw [s]; unfold covered far gaps; rw [m]
    show ps.set i (towards (ps.getD i 0) t (distance (ps.getD i 0) t)) = _
    congr 1
    unfold towards distance; rw [if_pos lt]; omega
  | right h i hi lt l m s =>
    rw [s]; unfold covered far gaps; rw [m]
    show ps.set i (towards (ps.getD i 0) t (distance (ps.getD i 0) t)) = _
    congr 1
    unfold towards distance; rw [if_neg (by omega)]; omega
  | both h i j hi hj ne li lj m s =>
    rw [s]
    have f := far_two m li lj
    unfold covered
    rw [f, m]
    have ti : towards (ps.getD i 0) t (min (t - ps.getD i 0) (ps.getD j 0 - t)) = ps.getD i 0 + min (t - ps.getD i 0) (ps.getD j 0 - t) := by unfold towards; rw [if_pos li]
    have tj : towards (ps.getD j 0) t (min (t - ps.getD i 0) (ps.getD j 0 - t)) = ps.getD j 0 - min (t - ps.getD i 0) (ps.getD j 0 - t) := by unfold towards; rw [if_neg (by omega)]
    unfold two
    split
    · show (ps.set i (towards _ _ _)).set j (towards _ _ _) = _
      rw [ti, tj]
    · show (ps.set j (towards _ _ _)).set i (towards _ _ _) = _
      rw [ti, tj, set_swap _ _ _ (fun e => ne e.symm)]
theorem step_length (ps : List Nat) (t : Nat) : (doubleCoverageStep ps t).length = ps.length := by
  cases cas ps t with
  | «at» h m s => rw [s]
  | none h m s => rw [s]
  | left h i hi lt l m s => rw [s, List.length_set]
  | right h i hi lt l m s => rw [s, List.length_set]
  | both h i j hi hj ne li lj m s => rw [s, List.length_set, List.length_set]
theorem covered_length (ps : List Nat) (t : Nat) : (covered ps t).length = ps.length := by rw [covered_is, step_length]
theorem two_length (i j : Nat) : (two i j).length = 2 := by unfold two; split <;> rfl
theorem covDist_is (ps : List Nat) (t : Nat) : Km559.distanceMoved ps (doubleCoverageStep ps t) = covDist ps t := by
  rw [moved_is _ _ (step_length ps t).symm]
  unfold covDist
  cases cas ps t with
  | «at» h m s => rw [s, m, D_self]; simp
  | none h m s => rw [s, m, D_self]; simp
  | left h i hi lt l m s => rw [s, D_set _ _ _ hi]; unfold far gaps; rw [m]; show _ = 1 * distance _ _; omega
  | right h i hi lt l m s => rw [s, D_set _ _ _ hi]; unfold far gaps; rw [m]; show _ = 1 * distance _ _; omega
  | both h i j hi hj ne li lj m s =>
    rw [s, D_set2 _ _ _ _ _ hi hj ne, far_two m li lj, m, two_length]
    unfold distance; omega
theorem step_mem {ps : List Nat} (t : Nat) (h : ps ≠ []) : ∃ i, i < ps.length ∧ (doubleCoverageStep ps t).getD i 0 = t := by
  cases cas ps t with
  | «at» c m s =>
    rw [s]
    rw [List.contains_eq_mem, decide_eq_true_eq] at c
    obtain ⟨i, hi, e⟩ := List.mem_iff_getElem.mp c
    refine ⟨i, hi, ?_⟩
    rw [List.getD_eq_getElem?_getD, List.getElem?_eq_getElem hi, e]; rfl
  | none e m s => exact absurd e h
  | left h i hi lt l m s => exact ⟨i, hi, by rw [s, getD_set hi, if_pos rfl]⟩
  | right h i hi lt l m s => exact ⟨i, hi, by rw [s, getD_set hi, if_pos rfl]⟩
  | both h i j hi hj ne li lj m s =>
    by_cases c : t - ps.getD i 0 ≤ ps.getD j 0 - t
    · refine ⟨i, hi, ?_⟩
      rw [s, getD_set (by rw [List.length_set]; exact hj), if_neg ne, getD_set hi, if_pos rfl]; omega
    · refine ⟨j, hj, ?_⟩
      rw [s, getD_set (by rw [List.length_set]; exact hj), if_pos rfl]; omega

/-! ### who has moved -/
theorem sorted_ext : ∀ {l m : List Nat}, l.Pairwise (· < ·) → m.Pairwise (· < ·) → (∀ x, x ∈ l ↔ x ∈ m) → l = m
  | [], [], _, _, _ => rfl
  | [], b :: m, _, _, h => absurd ((h b).mpr (List.mem_cons_self ..)) (by simp)
  | a :: l, [], _, _, h => absurd ((h a).mp (List.mem_cons_self ..)) (by simp)
  | a :: l, b :: m, p, q, h => by
    rw [List.pairwise_cons] at p q
    have e : a = b := by
      have h1 := (h a).mp (List.mem_cons_self ..)
      have h2 := (h b).mpr (List.mem_cons_self ..)
      rcases List.mem_cons.mp h1 with c | c
      · exact c
      · rcases List.mem_cons.mp h2 with d | d
        · exact d.symm
        · have := p.1 b d; have := q.1 a c; omega
    subst e
    rw [sorted_ext p.2 q.2 fun x => ?_]
    constructor
    · intro hx
      rcases List.mem_cons.mp ((h x).mp (List.mem_cons_of_mem _ hx)) with c | c
      · have := p.1 x hx; omega
      · exact c
    · intro hx
      rcases List.mem_cons.mp ((h x).mpr (List.mem_cons_of_mem _ hx)) with c | c
      · have := q.1 x hx; omega
      · exact c
theorem filter_range_eq {n : Nat} {p : Nat → Bool} {l : List Nat} (s : l.Pairwise (· < ·)) (h : ∀ x, x ∈ l ↔ x < n ∧ p x = true) : (List.range n).filter p = l := by
  refine sorted_ext (List.Pairwise.filter _ List.pairwise_lt_range) s fun x => ?_
  rw [List.mem_filter, List.mem_range, h]
theorem two_sorted {i j : Nat} (h : i ≠ j) : (two i j).Pairwise (· < ·) := by
  unfold two; split
  · simp; omega
  · simp; omega
theorem mem_two {i j x : Nat} : x ∈ two i j ↔ x = i ∨ x = j := by
  unfold two; split
  · simp
  · simp [or_comm]
theorem movers_is (ps : List Nat) (t : Nat) : ((List.range ps.length).filter fun i => ps.getD i 0 != (doubleCoverageStep ps t).getD i 0) = movers ps t := by
  cases cas ps t with
  | «at» h m s => rw [s, m]; exact filter_range_eq List.Pairwise.nil (fun x => by simp)
  | none h m s => rw [s, m]; exact filter_range_eq List.Pairwise.nil (fun x => by simp)
  | left h i hi lt l m s =>
    rw [s, m]
    refine filter_range_eq (List.pairwise_singleton ..) fun x => ?_
    rw [getD_set hi, List.mem_singleton, bne_iff_ne]
    constructor
    · intro e; subst e; exact ⟨hi, by rw [if_pos rfl]; omega⟩
    · rintro ⟨h1, h2⟩
      by_cases c : x = i
      · exact c
      · rw [if_neg c] at h2; exact absurd rfl h2
  | right h i hi lt l m s =>
    rw [s, m]
    refine filter_range_eq (List.pairwise_singleton ..) fun x => ?_
    rw [getD_set hi, List.mem_singleton, bne_iff_ne]
    constructor
    · intro e; subst e; exact ⟨hi, by rw [if_pos rfl]; omega⟩
    · rintro ⟨h1, h2⟩
      by_cases c : x = i
      · exact c
      · rw [if_neg c] at h2; exact absurd rfl h2
  | both h i j hi hj ne li lj m s =>
    rw [s, m]
    refine filter_range_eq (two_sorted ne) fun x => ?_
    rw [getD_set (by rw [List.length_set]; exact hj), getD_set hi, mem_two, bne_iff_ne]
    constructor
    · rintro (e | e)
      · subst e; exact ⟨hi, by rw [if_neg ne, if_pos rfl]; omega⟩
      · subst e; exact ⟨hj, by rw [if_pos rfl]; omega⟩
    · rintro ⟨h1, h2⟩
      by_cases c : x = j
      · exact .inr c
      · by_cases d : x = i
        · exact .inl d
        · rw [if_neg c, if_neg d] at h2; exact absurd rfl h2

/-! ### double coverage of many -/
def covAll (ps : List Nat) (ts : List Nat) : List Nat := ts.foldl covered ps
def covDs : List Nat → List Nat → List Nat
  | _, [] => []
  | ps, t :: ts => covDist ps t :: covDs (covered ps t) ts
theorem covAll_is : ∀ (ts ps : List Nat), (Km559.doubleCoverage ps ts).2 = covAll ps ts
  | [], _ => rfl
  | t :: ts, ps => by
    show (Km559.doubleCoverage (doubleCoverageStep ps t) ts).2 = covAll (covered ps t) ts
    rw [covAll_is ts, covered_is]
theorem covDs_sum : ∀ (ts ps : List Nat), (Km559.doubleCoverage ps ts).1 = (covDs ps ts).sum
  | [], _ => rfl
  | t :: ts, ps => by
    show Km559.distanceMoved ps (doubleCoverageStep ps t) + (Km559.doubleCoverage (doubleCoverageStep ps t) ts).1 = (covDist ps t :: covDs (covered ps t) ts).sum
    rw [covDs_sum ts, covDist_is, covered_is, List.sum_cons]
theorem covDs_length : ∀ (ts ps : List Nat), (covDs ps ts).length = ts.length
  | [], _ => rfl
  | t :: ts, ps => by
    show (covDs (covered ps t) ts).length + 1 = ts.length + 1
    rw [covDs_length ts]
theorem covAll_length : ∀ (ts ps : List Nat), (covAll ps ts).length = ps.length
  | [], _ => rfl
  | t :: ts, ps => by
    show (covAll (covered ps t) ts).length = ps.length
    rw [covAll_length ts, covered_length]
theorem covDs_is : ∀ (ts ps : List Nat), ((List.range ts.length).map fun index => Km559.distanceMoved (Km559.doubleCoverage ps (ts.take index)).2 (Km559.doubleCoverage ps (ts.take (index + 1))).2) = covDs ps ts
  | [], _ => rfl
  | t :: ts, ps => by
    have ih := covDs_is ts (covered ps t)
    rw [List.length_cons, List.range_succ_eq_map, List.map_cons, List.map_map]
    show _ = covDist ps t :: covDs (covered ps t) ts
    rw [← ih, ← covDist_is]
    congr 1
    refine List.map_congr_left fun i _ => ?_
    show Km559.distanceMoved (Km559.doubleCoverage (doubleCoverageStep ps t) (ts.take i)).2 (Km559.doubleCoverage (doubleCoverageStep ps t) (ts.take (i + 1))).2 = _
    rw [covered_is]

/-! ### greedy -/
/-- the first of the nearest -/
structure NearAt (ps : List Nat) (t j : Nat) : Prop where
  lt : j < ps.length
  top : ∀ i, i < ps.length → distance (ps.getD j 0) t ≤ distance (ps.getD i 0) t
  fst : ∀ i, i < j → distance (ps.getD j 0) t < distance (ps.getD i 0) t
theorem near_ok (ps : List Nat) (t : Nat) : ∀ n, 0 < n → ∀ b, b = (List.range n).foldl (fun (best i : Nat) => if distance (ps.getD i 0) t < distance (ps.getD best 0) t then i else best) 0 →
    b < n ∧ (∀ i, i < n → distance (ps.getD b 0) t ≤ distance (ps.getD i 0) t) ∧ (∀ i, i < b → distance (ps.getD b 0) t < distance (ps.getD i 0) t)
  | 0, h, _, _ => absurd h (Nat.lt_irrefl _)
  | 1, _, b, e => by
    have e2 : b = 0 := by
      rw [e]
      show (if distance (ps.getD 0 0) t < distance (ps.getD 0 0) t then 0 else 0) = 0
      split <;> rfl
    subst e2
    refine ⟨Nat.one_pos, fun i hi => ?_, fun i hi => absurd hi (Nat.not_lt_zero _)⟩
    rw [show i = 0 by omega]; exact Nat.le_refl _
  | n + 2, _, b, e => by
    have ih := near_ok ps t (n + 1) (Nat.succ_pos n) _ rfl
    rw [List.range_succ, List.foldl_append, List.foldl_cons, List.foldl_nil] at e
    generalize (List.range (n + 1)).foldl (fun (best i : Nat) => if distance (ps.getD i 0) t < distance (ps.getD best 0) t then i else best) 0 = c at ih e
    obtain ⟨h1, h2, h3⟩ := ih
    by_cases d : distance (ps.getD (n + 1) 0) t < distance (ps.getD c 0) t
    · rw [if_pos d] at e
      subst e
      refine ⟨by omega, fun i hi => ?_, fun i hi => Nat.lt_of_lt_of_le d (h2 i hi)⟩
      rcases Nat.lt_succ_iff_lt_or_eq.mp hi with k | k
      · have := h2 i k; omega
      · rw [k]; exact Nat.le_refl _
    · rw [if_neg d] at e
      subst e
      refine ⟨by omega, fun i hi => ?_, h3⟩
      rcases Nat.lt_succ_iff_lt_or_eq.mp hi with k | k
      · exact h2 i k
      · rw [k]; omega
theorem near_is {ps : List Nat} {t j : Nat} (h : NearAt ps t j) : Km559.nearest ps t = j := by
  obtain ⟨h1, h2, h3⟩ := near_ok ps t ps.length (by have := h.lt; omega) _ rfl
  show (List.range ps.length).foldl _ 0 = j
  generalize (List.range ps.length).foldl (fun (best i : Nat) => if distance (ps.getD i 0) t < distance (ps.getD best 0) t then i else best) 0 = c at h1 h2 h3
  have a := h.top c h1
  have b := h2 j h.lt
  rcases Nat.lt_trichotomy c j with k | k | k
  · have := h.fst c k; omega
  · exact k
  · have := h3 j k; omega
theorem near_spec {ps : List Nat} (t : Nat) (h : ps ≠ []) : NearAt ps t (Km559.nearest ps t) := by
  obtain ⟨h1, h2, h3⟩ := near_ok ps t ps.length (List.length_pos_iff.mpr h) _ rfl
  exact ⟨h1, h2, h3⟩
/-- greedy's standing and total behind a list of requests -/
def grStep (s : List Nat × Nat) (t : Nat) : List Nat × Nat := (s.1.set (Km559.nearest s.1 t) t, s.2 + distance (s.1.getD (Km559.nearest s.1 t) 0) t)
theorem greedy_fold : ∀ (ts : List Nat) (s : List Nat × Nat), ts.foldl grStep s = ((Km559.greedy s.1 ts).2, s.2 + (Km559.greedy s.1 ts).1)
  | [], s => by simp [Km559.greedy]
  | t :: ts, s => by
    rw [List.foldl_cons, greedy_fold ts]
    show ((Km559.greedy (s.1.set (Km559.nearest s.1 t) t) ts).2, _) = ((Km559.greedy (s.1.set (Km559.nearest s.1 t) t) ts).2, s.2 + (distance (s.1.getD (Km559.nearest s.1 t) 0) t + _))
    congr 1
    show s.2 + distance _ t + _ = _
    rw [Nat.add_assoc]; rfl
end Ic

namespace Ic
open Km559 (distance doubleCoverageStep)

/-! ### the least distance of a plan, from a standing on -/
/-- what each choice costs, f: the rest's costs -/
def choices (S : List Nat) (t : Nat) (f : List Nat → Nat) : List Nat := (List.range S.length).map fun i => distance (S.getD i 0) t + f (S.set i t)
def C : List Nat → List Nat → Nat
  | _, [] => 0
  | S, t :: ts => minL ((List.range S.length).map fun i => distance (S.getD i 0) t + C (S.set i t) ts)
theorem C_cons (S : List Nat) (t : Nat) (ts : List Nat) : C S (t :: ts) = minL (choices S t fun R => C R ts) := rfl
theorem choices_length (S : List Nat) (t : Nat) (f : List Nat → Nat) : (choices S t f).length = S.length := by unfold choices; rw [List.length_map, List.length_range]
theorem choices_ne {S : List Nat} (h : S ≠ []) (t : Nat) (f : List Nat → Nat) : choices S t f ≠ [] := fun e => by
  have := congrArg List.length e
  rw [choices_length] at this
  exact h (List.eq_nil_of_length_eq_zero this)
theorem mem_choices {S : List Nat} {t : Nat} {f : List Nat → Nat} {x : Nat} : x ∈ choices S t f ↔ ∃ i, i < S.length ∧ x = distance (S.getD i 0) t + f (S.set i t) := by
  unfold choices
  rw [List.mem_map]
  constructor
  · rintro ⟨i, hi, e⟩; exact ⟨i, List.mem_range.mp hi, e.symm⟩
  · rintro ⟨i, hi, e⟩; exact ⟨i, List.mem_range.mpr hi, e.symm⟩
theorem choices_get {S : List Nat} {t : Nat} {f : List Nat → Nat} {i : Nat} (h : i < S.length) : (choices S t f)[i]? = some (distance (S.getD i 0) t + f (S.set i t)) := by
  unfold choices
  rw [List.getElem?_map, List.getElem?_range h]; rfl
theorem le_C {S : List Nat} (h : S ≠ []) (t : Nat) (ts : List Nat) (x : Nat) : x ≤ C S (t :: ts) ↔ ∀ i, i < S.length → x ≤ distance (S.getD i 0) t + C (S.set i t) ts := by
  rw [C_cons, le_minL (choices_ne h _ _)]
  constructor
  · intro k i hi; exact k _ (mem_choices.mpr ⟨i, hi, rfl⟩)
  · intro k y hy
    obtain ⟨i, hi, e⟩ := mem_choices.mp hy
    rw [e]; exact k i hi
theorem C_le {S : List Nat} {t : Nat} {ts : List Nat} {i : Nat} (h : i < S.length) : C S (t :: ts) ≤ distance (S.getD i 0) t + C (S.set i t) ts :=
  (le_C (fun e => by rw [e] at h; exact absurd h (Nat.not_lt_zero _)) t ts _).mp (Nat.le_refl _) i h
theorem C_best {S : List Nat} (h : S ≠ []) (t : Nat) (ts : List Nat) : ∃ i, i < S.length ∧ C S (t :: ts) = distance (S.getD i 0) t + C (S.set i t) ts := by
  have m := minL_mem (choices_ne h t fun R => C R ts)
  rw [← C_cons] at m
  exact mem_choices.mp m
theorem set_ne {S : List Nat} {i x : Nat} (h : S ≠ []) : S.set i x ≠ [] := fun e => h (by
  have := congrArg List.length e
  rw [List.length_set] at this
  exact List.eq_nil_of_length_eq_zero this)

/-- moving all costs at most the way -/
theorem C_lip : ∀ (ts : List Nat) (S R : List Nat), S ≠ [] → S.length = R.length → C R ts ≤ D R S + C S ts
  | [], _, _, _, _ => Nat.zero_le _
  | t :: ts, S, R, h, e => by
    obtain ⟨i, hi, b⟩ := C_best h t ts
    have hi2 : i < R.length := by rw [← e]; exact hi
    have a := C_le (S := R) (t := t) (ts := ts) hi2
    have ih := C_lip ts (S.set i t) (R.set i t) (set_ne h) (by rw [List.length_set, List.length_set, e])
    have d := D_set_both R S i t hi2 e.symm
    have tr := dist_tri (R.getD i 0) (S.getD i 0) t
    rw [b]
    omega
theorem C_skip {S : List Nat} (h : S ≠ []) (t : Nat) (ts : List Nat) : C S ts ≤ C S (t :: ts) := by
  obtain ⟨i, hi, b⟩ := C_best h t ts
  have l := C_lip ts (S.set i t) S (set_ne h) (by rw [List.length_set])
  rw [D_set _ _ _ hi] at l
  omega
theorem C_erase : ∀ (ts : List Nat) (S : List Nat) (k : Nat), S ≠ [] → C S (ts.eraseIdx k) ≤ C S ts
  | [], _, _, _ => Nat.le_refl _
  | t :: ts, S, 0, h => C_skip h t ts
  | t :: ts, S, k + 1, h => by
    rw [List.eraseIdx_cons_succ, le_C h]
    intro i hi
    have a := C_le (S := S) (t := t) (ts := ts.eraseIdx k) hi
    have b := C_erase ts (S.set i t) k (set_ne h)
    obtain ⟨j, hj, e⟩ := C_best h t ts
    omega
/-- double coverage is no better -/
theorem C_cov : ∀ (ts ps : List Nat), ps ≠ [] → C ps ts ≤ (covDs ps ts).sum
  | [], _, _ => Nat.le_refl _
  | t :: ts, ps, h => by
    have hn : covered ps t ≠ [] := fun e => h (by
      have := covered_length ps t
      rw [e] at this
      exact List.eq_nil_of_length_eq_zero this.symm)
    have ih := C_cov ts (covered ps t) hn
    show _ ≤ (covDist ps t :: covDs (covered ps t) ts).sum
    rw [List.sum_cons]
    obtain ⟨i, hi, e⟩ := step_mem t h
    rw [← covered_is] at e
    have hi2 : i < (covered ps t).length := by rw [covered_length]; exact hi
    have a := C_le (S := covered ps t) (t := t) (ts := ts) hi2
    have se : (covered ps t).set i t = covered ps t := by
      apply List.ext_getElem?
      intro n
      rw [List.getElem?_set]
      by_cases c : i = n
      · subst c
        rw [if_pos rfl, if_pos hi2, getD_of hi2, e]
      · rw [if_neg c]
    rw [e, dist_self, se, Nat.zero_add] at a
    have l := C_lip (t :: ts) (covered ps t) ps hn (covered_length ps t)
    have dd : D ps (covered ps t) = covDist ps t := by rw [covered_is, ← moved_is _ _ (step_length ps t).symm, covDist_is]
    omega
theorem C_greedy : ∀ (ts ps : List Nat), ps ≠ [] → C ps ts ≤ (Km559.greedy ps ts).1
  | [], _, _ => Nat.le_refl _
  | t :: ts, ps, h => by
    have ih := C_greedy ts (ps.set (Km559.nearest ps t) t) (set_ne h)
    have a := C_le (S := ps) (t := t) (ts := ts) (near_spec t h).lt
    show _ ≤ distance (ps.getD (Km559.nearest ps t) 0) t + (Km559.greedy (ps.set (Km559.nearest ps t) t) ts).1
    omega

/-! ### the order of the icebreakers is of no account -/
theorem perm_set : ∀ {S R : List Nat}, S.Perm R → ∀ (x i : Nat), i < S.length → ∃ j, j < R.length ∧ R.getD j 0 = S.getD i 0 ∧ (S.set i x).Perm (R.set j x) := by
  intro S R p
  induction p with
  | nil => intro x i h; exact absurd h (Nat.not_lt_zero _)
  | cons a p ih =>
    intro x i h
    cases i with
    | zero => exact ⟨0, Nat.succ_pos _, rfl, p.cons x⟩
    | succ i =>
      obtain ⟨j, h1, h2, h3⟩ := ih x i (Nat.lt_of_succ_lt_succ h)
      exact ⟨j + 1, Nat.succ_lt_succ h1, h2, h3.cons a⟩
  | swap a b l =>
    intro x i h
    cases i with
    | zero => exact ⟨1, by simp, rfl, List.Perm.swap _ _ _⟩
    | succ i =>
      cases i with
      | zero => exact ⟨0, by simp, rfl, List.Perm.swap _ _ _⟩
      | succ i => exact ⟨i + 2, h, rfl, List.Perm.swap _ _ _⟩
  | trans p q ih1 ih2 =>
    intro x i h
    obtain ⟨j, h1, h2, h3⟩ := ih1 x i h
    obtain ⟨k, k1, k2, k3⟩ := ih2 x j h1
    exact ⟨k, k1, k2.trans h2, h3.trans k3⟩
theorem C_perm_le : ∀ (ts S R : List Nat), S ≠ [] → S.Perm R → C R ts ≤ C S ts
  | [], _, _, _, _ => Nat.le_refl _
  | t :: ts, S, R, h, p => by
    rw [le_C h]
    intro i hi
    obtain ⟨j, h1, h2, h3⟩ := perm_set p t i hi
    have a := C_le (S := R) (t := t) (ts := ts) h1
    have b := C_perm_le ts _ _ (set_ne h) h3
    rw [h2] at a
    omega
theorem perm_ne {S R : List Nat} (p : S.Perm R) (h : S ≠ []) : R ≠ [] := fun e => h (by rw [e] at p; exact p.eq_nil)
theorem C_perm {S R : List Nat} (ts : List Nat) (h : S ≠ []) (p : S.Perm R) : C S ts = C R ts :=
  Nat.le_antisymm (C_perm_le ts R S (perm_ne p h) p.symm) (C_perm_le ts S R h p)

/-! ### the specification's way: tables over sorted standings, from the first request on -/
theorem insert_perm (x : Nat) : ∀ l : List Nat, (x :: l).Perm (Km559.insertSorted x l)
  | [] => List.Perm.refl _
  | y :: r => by
    unfold Km559.insertSorted
    split
    · exact List.Perm.refl _
    · exact (List.Perm.swap y x r).trans ((insert_perm x r).cons y)
theorem sorted_fold_perm : ∀ (l acc : List Nat), (acc ++ l).Perm (l.foldl (fun (result : List Nat) (x : Nat) => Km559.insertSorted x result) acc)
  | [], acc => by rw [List.append_nil]; exact List.Perm.refl _
  | x :: l, acc => by
    rw [List.foldl_cons]
    refine List.Perm.trans ?_ (sorted_fold_perm l (Km559.insertSorted x acc))
    exact (List.perm_middle (a := x) (l₁ := acc) (l₂ := l)).trans ((insert_perm x acc).append_right l)
theorem sorted_perm (l : List Nat) : l.Perm (Km559.sorted l) := sorted_fold_perm l []
/-- x is no more than what any entry costs with the rest f -/
def Under (f : List Nat → Nat) (x : Nat) (table : List (List Nat × Nat)) : Prop := ∀ e ∈ table, x ≤ e.2 + f e.1
theorem under_cons {f : List Nat → Nat} {x : Nat} {e : List Nat × Nat} {l : List (List Nat × Nat)} : Under f x (e :: l) ↔ x ≤ e.2 + f e.1 ∧ Under f x l := by
  unfold Under; simp
theorem under_add (f : List Nat → Nat) (x : Nat) (e : List Nat × Nat) : ∀ l, Under f x (Km559.addConfiguration e l) ↔ x ≤ e.2 + f e.1 ∧ Under f x l
  | [] => by unfold Km559.addConfiguration; exact under_cons
  | o :: r => by
    unfold Km559.addConfiguration
    split
    · rename_i c
      rw [under_cons, under_cons, c]
      constructor
      · rintro ⟨a, b⟩
        dsimp only at a
        exact ⟨by omega, by omega, b⟩
      · rintro ⟨a, b, c⟩
        exact ⟨by dsimp only; omega, c⟩
    · rw [under_cons, under_add f x e r, under_cons]
      constructor
      · rintro ⟨a, b, c⟩; exact ⟨b, a, c⟩
      · rintro ⟨a, b, c⟩; exact ⟨b, a, c⟩
theorem under_addAll (f : List Nat → Nat) (x : Nat) : ∀ (l acc : List (List Nat × Nat)), Under f x (l.foldl (fun (result : List (List Nat × Nat)) (entry : List Nat × Nat) => Km559.addConfiguration entry result) acc) ↔ Under f x acc ∧ Under f x l
  | [], acc => by
    rw [List.foldl_nil]
    exact ⟨fun h => ⟨h, fun e he => nomatch he⟩, fun h => h.1⟩
  | e :: l, acc => by
    rw [List.foldl_cons, under_addAll f x l, under_add, under_cons]
    constructor
    · rintro ⟨⟨a, b⟩, c⟩; exact ⟨b, a, c⟩
    · rintro ⟨b, a, c⟩; exact ⟨⟨a, b⟩, c⟩
/-- all standings of a table have icebreakers -/
def Full (table : List (List Nat × Nat)) : Prop := ∀ e ∈ table, e.1 ≠ []
theorem full_add {e : List Nat × Nat} (he : e.1 ≠ []) : ∀ {l}, Full l → Full (Km559.addConfiguration e l)
  | [], _ => fun y hy => by
    unfold Km559.addConfiguration at hy
    rw [List.mem_singleton] at hy
    rw [hy]; exact he
  | o :: r, h => by
    unfold Km559.addConfiguration
    split
    · intro y hy
      rcases List.mem_cons.mp hy with c | c
      · rw [c]; exact he
      · exact h y (List.mem_cons_of_mem _ c)
    · intro y hy
      rcases List.mem_cons.mp hy with c | c
      · rw [c]; exact h o (List.mem_cons_self ..)
      · exact full_add he (fun z hz => h z (List.mem_cons_of_mem _ hz)) y c
theorem add_ne {e : List Nat × Nat} : ∀ l, Km559.addConfiguration e l ≠ []
  | [] => by unfold Km559.addConfiguration; simp
  | o :: r => by unfold Km559.addConfiguration; split <;> simp
theorem full_addAll : ∀ (l acc : List (List Nat × Nat)), Full l → Full acc → Full (l.foldl (fun (result : List (List Nat × Nat)) (entry : List Nat × Nat) => Km559.addConfiguration entry result) acc)
  | [], _, _, h => h
  | e :: l, acc, h, k => full_addAll l _ (fun z hz => h z (List.mem_cons_of_mem _ hz)) (full_add (h e (List.mem_cons_self ..)) k)
theorem addAll_ne : ∀ (l acc : List (List Nat × Nat)), (l ≠ [] ∨ acc ≠ []) → (l.foldl (fun (result : List (List Nat × Nat)) (entry : List Nat × Nat) => Km559.addConfiguration entry result) acc) ≠ []
  | [], acc, h => h.elim (fun z => absurd rfl z) id
  | e :: l, acc, _ => addAll_ne l _ (.inr (add_ne _))
def news (table : List (List Nat × Nat)) (t : Nat) : List (List Nat × Nat) := table.flatMap fun entry => (List.range entry.1.length).map fun i => (Km559.sorted (entry.1.set i t), entry.2 + distance (entry.1.getD i 0) t)
theorem mem_news {table : List (List Nat × Nat)} {t : Nat} {y : List Nat × Nat} : y ∈ news table t ↔ ∃ e ∈ table, ∃ i, i < e.1.length ∧ y = (Km559.sorted (e.1.set i t), e.2 + distance (e.1.getD i 0) t) := by
  unfold news
  rw [List.mem_flatMap]
  constructor
  · rintro ⟨e, he, hy⟩
    obtain ⟨i, hi, k⟩ := List.mem_map.mp hy
    exact ⟨e, he, i, List.mem_range.mp hi, k.symm⟩
  · rintro ⟨e, he, i, hi, k⟩
    exact ⟨e, he, List.mem_map.mpr ⟨i, List.mem_range.mpr hi, k.symm⟩⟩
theorem sorted_ne {S : List Nat} (h : S ≠ []) : Km559.sorted S ≠ [] := perm_ne (sorted_perm S) h
theorem full_news {table : List (List Nat × Nat)} {t : Nat} (h : Full table) : Full (news table t) := fun y hy => by
  obtain ⟨e, he, i, hi, k⟩ := mem_news.mp hy
  rw [k]; exact sorted_ne (set_ne (h e he))
theorem news_ne {table : List (List Nat × Nat)} {t : Nat} (h : Full table) (k : table ≠ []) : news table t ≠ [] := by
  cases table with
  | nil => exact absurd rfl k
  | cons e r =>
    have he := h e (List.mem_cons_self ..)
    exact List.ne_nil_of_mem (mem_news.mpr ⟨e, List.mem_cons_self .., 0, List.length_pos_iff.mpr he, rfl⟩)
theorem under_news {table : List (List Nat × Nat)} {t : Nat} {ts : List Nat} {x : Nat} (h : Full table) : Under (fun S => C S ts) x (news table t) ↔ Under (fun S => C S (t :: ts)) x table := by
  constructor
  · intro u e he
    have hne := h e he
    have k : x - e.2 ≤ C e.1 (t :: ts) := by
      rw [le_C hne]
      intro i hi
      have a := u _ (mem_news.mpr ⟨e, he, i, hi, rfl⟩)
      dsimp only at a
      rw [← C_perm ts (set_ne hne) (sorted_perm (e.1.set i t))] at a
      omega
    dsimp only
    omega
  · intro u y hy
    obtain ⟨e, he, i, hi, k⟩ := mem_news.mp hy
    have a := u e he
    dsimp only at a
    have b := C_le (S := e.1) (t := t) (ts := ts) hi
    rw [k]
    dsimp only
    rw [← C_perm ts (set_ne (h e he)) (sorted_perm (e.1.set i t))]
    omega
theorem next_is (table : List (List Nat × Nat)) (t : Nat) : Km559.nextConfigurations table t = (news table t).foldl (fun (result : List (List Nat × Nat)) (entry : List Nat × Nat) => Km559.addConfiguration entry result) [] := rfl
theorem le_minCost {table : List (List Nat × Nat)} (h : table ≠ []) (x : Nat) : x ≤ Km559.minCost table ↔ ∀ e ∈ table, x ≤ e.2 := by
  cases table with
  | nil => exact absurd rfl h
  | cons e r =>
    show x ≤ r.foldl (fun (best : Nat) (other : List Nat × Nat) => min best other.2) e.2 ↔ _
    have q : r.foldl (fun (best : Nat) (other : List Nat × Nat) => min best other.2) e.2 = (r.map (·.2)).foldl min e.2 := by rw [List.foldl_map]
    rw [q, le_foldl_min]
    constructor
    · rintro ⟨a, b⟩ y hy
      rcases List.mem_cons.mp hy with c | c
      · rw [c]; exact a
      · exact b _ (List.mem_map.mpr ⟨y, c, rfl⟩)
    · intro k
      refine ⟨k e (List.mem_cons_self ..), fun y hy => ?_⟩
      obtain ⟨z, hz, c⟩ := List.mem_map.mp hy
      rw [← c]; exact k z (List.mem_cons_of_mem _ hz)
theorem conf_under : ∀ (ts : List Nat) (table : List (List Nat × Nat)) (x : Nat), Full table → table ≠ [] →
    (x ≤ Km559.minCost (ts.foldl (fun (table : List (List Nat × Nat)) (target : Nat) => Km559.nextConfigurations table target) table) ↔ Under (fun S => C S ts) x table)
  | [], table, x, _, h => by
    rw [List.foldl_nil, le_minCost h]
    rfl
  | t :: ts, table, x, F, h => by
    rw [List.foldl_cons, conf_under ts _ x (by rw [next_is]; exact full_addAll _ _ (full_news F) (fun y hy => nomatch hy)) (by rw [next_is]; exact addAll_ne _ _ (.inl (news_ne F h))), next_is, under_addAll, under_news F]
    exact ⟨fun z => z.2, fun z => ⟨(fun e he => nomatch he), z⟩⟩
theorem opt_is (S ts : List Nat) (h : S ≠ [] ∨ ts = []) : Km559.optimalDistance S ts = C S ts := by
  rcases h with h | h
  · refine eq_of_le_iff fun x => ?_
    show x ≤ Km559.minCost (ts.foldl _ [(Km559.sorted S, 0)]) ↔ _
    rw [conf_under ts _ x (fun e he => by rw [List.mem_singleton] at he; rw [he]; exact sorted_ne h) (by simp)]
    unfold Under
    simp only [List.mem_singleton, forall_eq, Nat.zero_add]
    rw [← C_perm ts h (sorted_perm S)]
  · subst h; rfl

/-! ### the plan -/
/-- the first place of the least -/
structure MinAt (l : List Nat) (j : Nat) : Prop where
  get : l[j]? = some (minL l)
  fst : ∀ i, i < j → l[i]? ≠ some (minL l)
def plan : List Nat → List Nat → List Nat
  | _, [] => []
  | S, t :: ts =>
    let i := ((List.range S.length).find? fun i => distance (S.getD i 0) t + C (S.set i t) ts == C S (t :: ts)).getD 0
    i :: plan (S.set i t) ts
def pick (S : List Nat) (t : Nat) (ts : List Nat) : Nat := ((List.range S.length).find? fun i => distance (S.getD i 0) t + C (S.set i t) ts == C S (t :: ts)).getD 0
theorem plan_cons (S : List Nat) (t : Nat) (ts : List Nat) : plan S (t :: ts) = pick S t ts :: plan (S.set (pick S t ts) t) ts := rfl
theorem plan_is : ∀ (ts S : List Nat), S ≠ [] → Km559.optimalPlan S ts = plan S ts
  | [], _, _ => rfl
  | t :: ts, S, h => by
    have e : (fun i => distance (S.getD i 0) t + Km559.optimalDistance (S.set i t) ts == Km559.optimalDistance S (t :: ts)) = fun i => distance (S.getD i 0) t + C (S.set i t) ts == C S (t :: ts) := by
      funext i
      rw [opt_is _ _ (.inl (set_ne h)), opt_is _ _ (.inl h)]
    show ((List.range S.length).find? fun i => distance (S.getD i 0) t + Km559.optimalDistance (S.set i t) ts == Km559.optimalDistance S (t :: ts)).getD 0 :: Km559.optimalPlan (S.set (((List.range S.length).find? fun i => distance (S.getD i 0) t + Km559.optimalDistance (S.set i t) ts == Km559.optimalDistance S (t :: ts)).getD 0) t) ts = _
    rw [e, plan_cons, plan_is ts _ (set_ne h)]
    rfl
theorem pick_of {S : List Nat} {t : Nat} {ts : List Nat} {j : Nat} (hj : j < S.length) (m : MinAt (choices S t fun R => C R ts) j) : pick S t ts = j := by
  have e : (List.range S.length).find? (fun i => distance (S.getD i 0) t + C (S.set i t) ts == C S (t :: ts)) = some j := by
    rw [List.find?_range_eq_some]
    refine ⟨?_, List.mem_range.mpr hj, fun i hi => ?_⟩
    · have g := m.get
      rw [choices_get hj] at g
      have g2 := Option.some.inj g
      rw [beq_iff_eq, g2, C_cons]
    · have g := m.fst i hi
      rw [choices_get (Nat.lt_trans hi hj)] at g
      rw [Bool.not_eq_true', beq_eq_false_iff_ne]
      intro z
      exact g (by rw [z, C_cons])
  unfold pick
  rw [e]; rfl
end Ic

/-! min(xs, default=d) of a list of ints -/
namespace IcMin
open PySem PySem.Spec PyProof.Rows
/-- the keyword -/
def kwD (d : Value) : List (Str × Value) := [(Str.ofString "default", d)]
theorem args_minD (a d : Value) : argsOk "min" ⟨[a], kwD d⟩ := by unfold argsOk kwD; kernel_rfl
theorem bindD (d : Value) : Builtin.Builtins.bindParams "min" ["key", "default"] 0 ⟨[], kwD d⟩ = pure [none, some d] := rfl
section
variable {prog : Program} {w : World} {A : Around} {R : Result → Shared → Prop} {I : Addr} {fp wr : List Addr} {n : Nat} {P : Nat → Value → Prop} {St : Nat → Heap → Prop} {d : Value}
theorem loopD (W : Walks prog w A.in1 I fp wr n P St) (bt : Nat → Nat → Bool) (hcmp : CmpOf prog w A.in1 .Lt P bt) (B : Addr) (hSf : B ∉ fp) : ∀ (k j : Nat) (s : Shared) (vb : Value) (c : Nat), n - (j + 1) = k → j + 1 ≤ n → St (j + 1) s.heap → P (argBest bt j) vb → s.heap.get? B = some { cls := .type "list", dict := none, data := .seq #[vb, vb] c, slots := #[] } → (∀ v h' tk, P (argBest bt (n - 1)) v → (∀ b o, b ∉ wr → b ≠ B → s.heap.get? b = some o → h'.get? b = some o) → R (.ok (.ret v)) { s with heap := h', toks := tk }) → codeAny (model prog w) A (.builtin "min.loop" ⟨[.ref I, .none, .ref B], kwD d⟩) R s := by
  have hSw : B ∉ wr := fun h => hSf (W.sub _ h)
  have hnm : (toString "min" ++ toString ".loop" : String) = "min.loop" := by decide
  intro k
  induction k with
  | zero =>
    intro j s vb c hk hj hst hPb hS hR
    have hin : j + 1 = n := by omega
    refine codeAny_builtin PySem.F.entry_min_loop ?_
    rw [Around.under_plainId PySem.F.plain_min_loop _]
    show wpAny _ A.in1 (seqItems? (.ref B) >>= _) _ _ s
    refine wpAny_bind (wpAny_seqItems hS rfl ?_)
    show wpAny _ A.in1 (tryCatch (pyNext (.ref I)) _ >>= _) _ _ s
    refine wpAny_bind (wpAny_tryCatch (W.done s _ _ (hin ▸ hst) fun h' tk hk' => ?_))
    have hB := hk' B _ hSw hS
    show wpAny _ A.in1 (updateSeq B (fun _ => #[]) >>= _) _ _ _
    refine wpAny_bind (wpAny_updateSeq hB rfl (wpAny_bind (wpAny_letGo (wpAny_pure ?_))))
    exact hR vb _ tk (by rw [← hin]; exact hPb) fun b o hbw hbS e => (Heap.get?_update_other _ _ (Ne.symm hbS)).trans (hk' b o hbw e)
  | succ k ih =>
    intro j s vb c hk hj hst hPb hS hR
    have hlt : j + 1 < n := by omega
    refine codeAny_builtin PySem.F.entry_min_loop ?_
    rw [Around.under_plainId PySem.F.plain_min_loop _]
    show wpAny _ A.in1 (seqItems? (.ref B) >>= _) _ _ s
    refine wpAny_bind (wpAny_seqItems hS rfl ?_)
    show wpAny _ A.in1 (tryCatch (pyNext (.ref I)) _ >>= _) _ _ s
    refine wpAny_bind (wpAny_tryCatch (W.item (j + 1) s _ _ hlt hst fun v h' tk hP hst' hk' => ?_))
    have hB := hk' B _ hSw hS
    show wpAny _ A.in1 (tryCatch (holding [v, v] (richCompare .Lt v vb >>= _)) _ >>= _) _ _ _
    refine wpAny_bind (wpAny_tryCatch (wpAny_holding (wpAny_bind (hcmp (j + 1) (argBest bt j) v vb _ _ _ hP hPb ?_))))
    refine wpAny_bind (wpAny_holding (wpAny_truthy_bool (wpAny_bind (wpAny_letGo (wpAny_pure ?_)))))
    cases hb : bt (j + 1) (argBest bt j) with
    | true =>
      simp only [if_true]
      refine wpAny_bind (wpAny_updateSeq hB rfl (wpAny_bind (wpAny_letGo ?_)))
      rw [hnm]
      refine wpAny_pure ⟨plainId_quiet PySem.F.plain_min_loop _, ih (j + 1) _ v _ (by omega) hlt (W.frame _ _ _ hst' fun b hbf o e => ?_) (by simp only [argBest, hb, if_true]; exact hP) (Heap.get?_update_self _ hB rfl) fun v' h'' tk'' hP' hk'' => ?_⟩
      · exact (Heap.get?_update_other _ _ (fun h : B = b => hSf (by rw [h]; exact hbf))).trans e
      · exact hR v' h'' tk'' hP' fun b o hbw hbS e => hk'' b o hbw hbS ((Heap.get?_update_other _ _ (Ne.symm hbS)).trans (hk' b o hbw e))
    | false =>
      simp only [Bool.false_eq_true, if_false]
      refine wpAny_bind (wpAny_letGo ?_)
      rw [hnm]
      exact wpAny_pure ⟨plainId_quiet PySem.F.plain_min_loop _, ih (j + 1) _ vb c (by omega) hlt hst' (by simp only [argBest, hb, Bool.false_eq_true, if_false]; exact hPb) hB fun v' h'' tk'' hP' hk'' => hR v' h'' tk'' hP' fun b o hbw hbS e => hk'' b o hbw hbS (hk' b o hbw e)⟩
theorem firstD (W : Walks prog w A.in1 I fp wr n P St) (bt : Nat → Nat → Bool) (hcmp : CmpOf prog w A.in1 .Lt P bt) (B : Addr) (hSf : B ∉ fp) {s : Shared} {c : Nat} (hst : St 0 s.heap) (hS : s.heap.get? B = some { cls := .type "list", dict := none, data := .seq #[] c, slots := #[] })
    (h0 : n = 0 → ∀ h' tk, (∀ b o, b ∉ wr → b ≠ B → s.heap.get? b = some o → h'.get? b = some o) → R (.ok (.ret d)) { s with heap := h', toks := tk })
    (hR : 0 < n → ∀ v h' tk, P (argBest bt (n - 1)) v → (∀ b o, b ∉ wr → b ≠ B → s.heap.get? b = some o → h'.get? b = some o) → R (.ok (.ret v)) { s with heap := h', toks := tk }) : codeAny (model prog w) A (.builtin "min.loop" ⟨[.ref I, .none, .ref B], kwD d⟩) R s := by
  have hSw : B ∉ wr := fun h => hSf (W.sub _ h)
  have hnm : (toString "min" ++ toString ".loop" : String) = "min.loop" := by decide
  refine codeAny_builtin PySem.F.entry_min_loop ?_
  rw [Around.under_plainId PySem.F.plain_min_loop _]
  show wpAny _ A.in1 (seqItems? (.ref B) >>= _) _ _ s
  refine wpAny_bind (wpAny_seqItems hS rfl ?_)
  show wpAny _ A.in1 (tryCatch (pyNext (.ref I)) _ >>= _) _ _ s
  by_cases hn : 0 < n
  · refine wpAny_bind (wpAny_tryCatch (W.item 0 s _ _ hn hst fun v h' tk hP hst' hk' => ?_))
    have hB := hk' B _ hSw hS
    show wpAny _ A.in1 (updateSeq B (fun _ => #[v, v]) >>= _) _ _ _
    refine wpAny_bind (wpAny_updateSeq hB rfl ?_)
    rw [hnm]
    refine wpAny_pure ⟨plainId_quiet PySem.F.plain_min_loop _, loopD W bt hcmp B hSf _ 0 _ v _ rfl hn (W.frame _ _ _ hst' fun b hbf o e => ?_) hP (Heap.get?_update_self _ hB rfl) fun v' h'' tk'' hP' hk'' => ?_⟩
    · exact (Heap.get?_update_other _ _ (fun h : B = b => hSf (by rw [h]; exact hbf))).trans e
    · exact hR hn v' h'' tk'' hP' fun b o hbw hbS e => hk'' b o hbw hbS ((Heap.get?_update_other _ _ (Ne.symm hbS)).trans (hk' b o hbw e))
  · have e0 : n = 0 := by omega
    subst e0
    refine wpAny_bind (wpAny_tryCatch (W.done s _ _ hst fun h' tk hk' => ?_))
    refine wpAny_bind (wpAny_rule (wpAny_pure ?_))
    exact h0 rfl h' tk fun b o hbw _ e => hk' b o hbw e
end
section
variable {prog : Program} {w : World} {A : Around} {E : Value → Shared → Prop} {s : Shared} {d : Value}
theorem callD {x : Value} {Q : Value → Shared → Prop} (h : wpAny (model prog w) A.in1 (pyIter x) (fun it s₂ => ∃ I fp wr n P St bt, it = .ref I ∧ Walks prog w A.in1 I fp wr n P St ∧ St 0 s₂.heap ∧ (∀ b ∈ fp, b < s₂.heap.objs.size) ∧ CmpOf prog w A.in1 .Lt P bt ∧
      (n = 0 → ∀ h' tk, (∀ b o, b ∉ wr → s₂.heap.get? b = some o → h'.get? b = some o) → Q d { s₂ with heap := h', toks := tk }) ∧
      (0 < n → ∀ v h' tk, P (argBest bt (n - 1)) v → (∀ b o, b ∉ wr → s₂.heap.get? b = some o → h'.get? b = some o) → Q v { s₂ with heap := h', toks := tk })) E s) :
    wpAny (model prog w) A (call (.builtin "min") [x] (kwD d)) Q E s := by
  have hnm : (toString "min" ++ toString ".loop" : String) = "min.loop" := by decide
  refine wpAny_call (codeAny_call_builtin PySem.F.plain_min PySem.F.entry_min ?_)
  have go : wpAny (model prog w) A.in1 (Builtin.«min» ⟨[x], kwD d⟩) (fun fin s' => ∃ c, fin = .again c ∧ c.quiet = true ∧ codeAny (model prog w) A c (fun r s' => match r with | .ok (.ret v) => Q v s' | .ok _ => False | .error e => E e s') s') E s := by
    show wpAny _ A.in1 (Builtin.Builtins.bindParams "min" ["key", "default"] 0 ⟨[], kwD d⟩ >>= _) _ _ s
    refine wpAny_bind (wpAny_of_eq (bindD d) ?_)
    refine wpAny_bind (wpAny_pure (wpAny_bind (wpAny_mono h (fun it s₂ h₂ => ?_) fun _ _ e => e)))
    obtain ⟨I, fp, wr, n, P, St, bt, rfl, W, hst, hfp, hcmp, hQ0, hQ⟩ := h₂
    refine wpAny_bind (wpAny_newObj_type ?_)
    have hSf : s₂.heap.objs.size ∉ fp := fun hm => Nat.lt_irrefl _ (hfp _ hm)
    rw [hnm]
    refine wpAny_pure ⟨_, rfl, plainId_quiet PySem.F.plain_min_loop _, firstD (d := d) W bt hcmp s₂.heap.objs.size hSf (W.frame _ _ _ hst fun b _ o e => Heap.get?_push_of_some _ e) (Heap.get?_push_size _ rfl) (fun z h' tk hk => ?_) fun z v h' tk hP hk => ?_⟩
    · exact hQ0 z h' tk fun b o hbw e => hk b o hbw (Nat.ne_of_lt (Heap.lt_size e)) (Heap.get?_push_of_some _ e)
    · exact hQ z v h' tk hP fun b o hbw e => hk b o hbw (Nat.ne_of_lt (Heap.lt_size e)) (Heap.get?_push_of_some _ e)
  have hfin := wpAny_mono go (Q' := fun fin s' => match fin with
      | .done f => (match (Except.ok f : Result) with | .ok (.ret v) => Q v s' | .ok _ => False | .error e => E e s')
      | .again c' => c'.quiet = true ∧ codeAny (model prog w) A c' (fun r s' => match r with | .ok (.ret v) => Q v s' | .ok _ => False | .error e => E e s') s')
    (fun fin s' h' => by obtain ⟨c, rfl, hv⟩ := h'; exact hv) fun _ _ h' => h'
  simp only [checkBuiltinCall, PySem.F.kind_min]
  cases hsig : Manifest.signature? "min" with
  | none => exact wpAny_pure hfin
  | some sig =>
    have ha' : Bind.checkArgs "min" sig ⟨[x], kwD d⟩ = pure () := by
      have q := args_minD x d
      unfold argsOk at q
      rw [hsig] at q
      exact q
    simp only [ha']
    exact wpAny_pure hfin
theorem rawD {l : Addr} {its : List Value} {ns : List Int} {Q : Value → Shared → Prop} (hh : A.handled = none) (hl : s.heap.IsList l its.toArray) (hi : IntsAre its ns)
    (h0 : ns = [] → ∀ h' tk, (∀ b o, s.heap.get? b = some o → h'.get? b = some o) → Q d { s with heap := h', toks := tk })
    (h : 0 < ns.length → ∀ h' tk M t', (∀ b o, s.heap.get? b = some o → h'.get? b = some o) → M ∈ ns → (∀ a, a ∈ ns → M ≤ a) → Q (.int M t') { s with heap := h', toks := tk }) : wpAny (model prog w) A (call (.builtin "min") [.ref l] (kwD d)) Q E s := by
  obtain ⟨xs, e⟩ := hi.allInts.items
  have hn : numsOf (intItems xs).toList = ns := by rw [← e]; exact hi.numsOf
  rw [nums_intItems] at hn
  subst hn
  rw [e] at hl
  refine callD (iter_intList hl fun s₂ e2 st hfp hlI => ?_)
  subst e2
  refine ⟨_, _, _, _, _, _, _, rfl, Walks.list (A := A.in1) hh _ l hlI (intItems xs), st, hfp, CmpOf.ints_lt (numAt xs) (fun _ _ => intItems_at), fun z h' tk hk => ?_, fun z v h' tk hP hk => ?_⟩
  · refine h0 ?_ h' tk (old_kept hk)
    have z2 : xs.size = 0 := by simpa [intItems] using z
    rw [← Array.length_toList] at z2
    rw [List.eq_nil_of_length_eq_zero z2]; rfl
  · have hsz : 0 < xs.size := by simpa [intItems] using z
    have hv : (intItems xs)[argBest (fun i j => decide (numAt xs i < numAt xs j)) (xs.size - 1)]? = some v := by simpa [intItems] using hP
    obtain ⟨t, rfl⟩ := intItems_at hv
    obtain ⟨h1, h2⟩ := argBest_lt (numAt xs) (xs.size - 1)
    refine h (by simpa using hsz) h' tk _ t (old_kept hk) ?_ fun a ha => ?_
    · rw [numAt_eq]; exact PySem.getD_mem (by rw [List.length_map, Array.length_toList]; omega)
    · obtain ⟨j, hj, rfl⟩ := mem_getD ha
      rw [List.length_map, Array.length_toList] at hj
      rw [← numAt_eq]; exact h2 j (by omega)
end
end IcMin
namespace L2
open PySem PySem.Spec PyProof.Rows
/-- min(xs, default=y): xs of ints -/
def rMinD (K : PySem.W.Frag) : List V → List V → Hp → VK → Prop := fun vs zs H Q => ∃ (a : Addr) (ns : List Int) (y : V), vs = [V.ref a] ∧ zs = [y] ∧ SqL K H a (ns.map V.int) ∧ (ns = [] → Q y H) ∧ (0 < ns.length → ∀ m, m ∈ ns → (∀ z, z ∈ ns → m ≤ z) → Q (.int m) H)
theorem cr_minD {X : Cx} (hc : X.calm = true) : CallRK X (.builtin "min") [Str.ofString "default"] (rMinD X.K) := by
  intro pins s σ H vs zs us ws Q I r rz h
  obtain ⟨a, ns, y, rfl, rfl, hs, q0, q⟩ := h
  obtain ⟨its, rv, hl, _⟩ := I.list hs
  rw [Vals.ref1 r]
  obtain ⟨w1, rfl, ry⟩ := vals1 rz
  exact IcMin.rawD (d := w1) (I.ok.hd hc) hl.isList rv.ints (fun z h' tk hk => ⟨y, H, I.kept hk, ry, q0 z⟩) fun z h' tk m t' hk h1 h2 => ⟨.int _, H, I.kept hk, ⟨_, rfl⟩, q z m h1 h2⟩
end L2

/-! words that all defs share -/
namespace Ic
open PySem PySem.Spec PyProof.Rows L2

/-! ### the text -/
def top (i : Nat) : Stmt := PySem.Challenge.pw_iceline_s01_answers.main.body.getD i (.Pass ⟨0, 0, 0, 0⟩)

/-! ### a def that may be called by its name -/
structure Cal (P : Program) (w : World) (K : PySem.W.Frag) (mg : Str → Option Value) (base : Heap) (CX : CXT) (k : Nat) (x : Str) (sp : Sp) : Prop where
  ex : ∃ (f : Addr) (fd : FuncData) (ps : List Str), FnOk P w K mg base CX k f fd ps sp ∧ mg x = some (.ref f) ∧ PySem.W.keepIn K (.ref f) = true ∧ Binds K fd ps []
/-- a def as the top has left it -/
structure At (K : PySem.W.Frag) (mg : Str → Option Value) (x : Str) (st : Stmt) : Prop where
  ex : ∃ (f : Addr) (fd : FuncData), Fun K x x st f fd ∧ mg x = some (.ref f)
section
variable {X : Cx} {CX : CXT} {k j : Nat} {x : Str} {sp : Sp} {p pos : Pos} {e : Expr} {es : List Expr} {t : TA}
theorem pe_c (c : Cal X.prog X.w X.K X.mg X.base CX0 k x sp) (hr : Room j X.A) (ha : PA X (e :: es) t) (hk : k ≤ j := by decide) (hg : Gl X x := by rfl)
    (hdb : (x == ("__debug__" : Str)) = false := by decide) (he : starEach (e :: es) X.env = (false, eval e X.env) :: starEach es X.env := by rfl) (hpl : (backTo pos (starEach es X.env)).any (·.1) = false := by rfl) :
    PE X (.Call (.Name x p) (e :: es) [] pos) (tCall sp [] E0 t) := by
  obtain ⟨f, fd, ps, F, hm, kp, b⟩ := c.ex
  exact pe_call F (hr.mono hk) hg hm kp b .nil pass0 ha hdb he hpl
/-- .. one that may raise, called in a def that hands the error on -/
theorem pe_cX {E : XK} (c : Cal X.prog X.w X.K X.mg X.base (L2.CX X.prog X.w) k x sp) (hr : Room j X.A) (tk : Takes X (fun cls d _ H => E cls d H)) (ha : PA X (e :: es) t) (hk : k ≤ j := by decide) (hg : Gl X x := by rfl)
    (hdb : (x == ("__debug__" : Str)) = false := by decide) (he : starEach (e :: es) X.env = (false, eval e X.env) :: starEach es X.env := by rfl) (hpl : (backTo pos (starEach es X.env)).any (·.1) = false := by rfl) :
    PE X (.Call (.Name x p) (e :: es) [] pos) (tCall sp [] E t) := by
  obtain ⟨f, fd, ps, F, hm, kp, b⟩ := c.ex
  exact pe_call F (hr.mono hk) hg hm kp b .nil (passes_call tk fun _ _ _ _ h => h) ha hdb he hpl
/-- .. within a try -/
theorem pe_cT {W : WX} (c : Cal X.prog X.w X.K X.mg X.base (L2.CX X.prog X.w) k x sp) (hr : Room j X.A) (tk : Takes X W) (ha : PA X (e :: es) t) (hk : k ≤ j := by decide) (hg : Gl X x := by rfl)
    (hdb : (x == ("__debug__" : Str)) = false := by decide) (he : starEach (e :: es) X.env = (false, eval e X.env) :: starEach es X.env := by rfl) (hpl : (backTo pos (starEach es X.env)).any (·.1) = false := by rfl) :
    PE X (.Call (.Name x p) (e :: es) [] pos) (tCallS sp (WE W) t) := by
  obtain ⟨f, fd, ps, F, hm, kp, b⟩ := c.ex
  exact pe_callS F (hr.mono hk) hg hm kp b (fun σ => passAt tk σ) ha hdb he hpl
end
section
variable {P : Program} {w : World} {K : PySem.W.Frag} {mg : Str → Option Value} {base : Heap}
/-- a def's promise by its body: none leaves it by an error -/
theorem cal0 {x : Str} {st : Stmt} {N ps : List Str} {k : Nat} {sp : Sp} (A : At K mg x st) (S : FnScope N ps (defScope st)) (len : ∀ vs H Q E, sp vs H Q E → vs.length = ps.length)
    (b : ∀ (kV doc pm : Value) (an : Option Addr) (cdv ct : Value) (us : List Value), us.length = ps.length → bindArgs (PySem.W.fnOf x x (defArgs st) (defBody st) (defScope st) .none kV doc pm an cdv ct) ⟨us, []⟩ = pure (ps.zip us))
    (hbody : ∀ (f : Addr) (cdv : Value) (A : Around) (outer : List Env) (s : Shared) (H : Hp) (vs : List V) (Q : VK) (E : XK), Room k (A.deeper (envOfC x (defScope st) s.heap.objs.size f cdv)) → sp vs H Q E →
      ∃ t, PSs (cxOf CX0 P w K mg base N x (defScope st) f cdv A outer s H E).nox (defBody st) t ∧ t { nx := fun _ H' => Q .non H', rt := Q } (start N vs) H) : Cal P w K mg base CX0 (k + 1) x sp := by
  obtain ⟨f, fd, F, hm⟩ := A.ex
  exact ⟨f, fd, ps, F.ok S len (hbody f), hm, F.kp, F.binds b⟩
theorem calX {x : Str} {st : Stmt} {N ps : List Str} {k : Nat} {sp : Sp} (A : At K mg x st) (S : FnScope N ps (defScope st)) (len : ∀ vs H Q E, sp vs H Q E → vs.length = ps.length)
    (b : ∀ (kV doc pm : Value) (an : Option Addr) (cdv ct : Value) (us : List Value), us.length = ps.length → bindArgs (PySem.W.fnOf x x (defArgs st) (defBody st) (defScope st) .none kV doc pm an cdv ct) ⟨us, []⟩ = pure (ps.zip us))
    (hbody : ∀ (f : Addr) (cdv : Value) (A : Around) (outer : List Env) (s : Shared) (H : Hp) (vs : List V) (Q : VK) (E : XK), Room k (A.deeper (envOfC x (defScope st) s.heap.objs.size f cdv)) → sp vs H Q E →
      ∃ t, PSs (cxOf (L2.CX P w) P w K mg base N x (defScope st) f cdv A outer s H E) (defBody st) t ∧ t { nx := fun _ H' => Q .non H', rt := Q } (start N vs) H) : Cal P w K mg base (L2.CX P w) (k + 1) x sp := by
  obtain ⟨f, fd, F, hm⟩ := A.ex
  exact ⟨f, fd, ps, F.okX S len (hbody f), hm, F.kp, F.binds b⟩
end

/-! ### numbers as values -/
def nV (l : List Nat) : List V := l.map fun n => V.int (n : Nat)
theorem nV_length (l : List Nat) : (nV l).length = l.length := by unfold nV; rw [List.length_map]
theorem nV_get (l : List Nat) (i : Nat) : (nV l)[i]? = (l[i]?).map fun n => V.int (n : Nat) := by unfold nV; rw [List.getElem?_map]
theorem nV_at {l : List Nat} {i n : Nat} (h : l[i]? = some n) : (nV l)[i]? = some (.int (n : Nat)) := by rw [nV_get, h]; rfl
theorem of_nV {l : List Nat} {i : Nat} {v : V} (h : (nV l)[i]? = some v) : ∃ n, l[i]? = some n ∧ v = .int (n : Nat) := by
  rw [nV_get] at h
  cases e : l[i]? with
  | none => rw [e] at h; cases h
  | some n => rw [e] at h; exact ⟨n, rfl, (Option.some.inj h).symm⟩
theorem nV_app (l m : List Nat) : nV (l ++ m) = nV l ++ nV m := by unfold nV; rw [List.map_append]
theorem nV_cons (n : Nat) (l : List Nat) : nV (n :: l) = V.int (n : Nat) :: nV l := rfl
theorem nV_set (l : List Nat) (i n : Nat) : nV (l.set i n) = (nV l).set i (.int (n : Nat)) := by unfold nV; rw [List.map_set]
theorem nV_flat (l : List Nat) : (nV l).all flatV = true := by
  rw [List.all_eq_true]
  intro v hv
  obtain ⟨n, _, rfl⟩ := List.mem_map.mp hv
  rfl
/-- as ints -/
def zs (l : List Nat) : List Int := l.map fun (n : Nat) => (n : Int)
theorem nV_zs (l : List Nat) : nV l = (zs l).map V.int := by unfold nV zs; rw [List.map_map]; rfl
theorem mem_zs {l : List Nat} {i : Int} : i ∈ zs l ↔ ∃ n ∈ l, i = (n : Int) := by
  unfold zs
  rw [List.mem_map]
  constructor
  · rintro ⟨n, h, e⟩; exact ⟨n, h, e.symm⟩
  · rintro ⟨n, h, e⟩; exact ⟨n, h, e.symm⟩
theorem zs_length (l : List Nat) : (zs l).length = l.length := by unfold zs; rw [List.length_map]
theorem eqV_int (a b : Nat) : eqV (.int (a : Nat)) (.int (b : Nat)) = decide (a = b) := by
  show ((a : Int) == (b : Int)) = decide (a = b)
  by_cases h : a = b
  · subst h; simp
  · rw [decide_eq_false h, beq_eq_false_iff_ne]; omega
theorem inV_n (t : Nat) (l : List Nat) : inV (.int (t : Nat)) (nV l) = l.contains t := by
  unfold inV nV
  rw [List.any_map]
  have e : ((fun y => eqV y (V.int (t : Nat))) ∘ fun n : Nat => V.int (n : Nat)) = fun n => decide (n = t) := by
    funext n
    exact eqV_int n t
  rw [e]
  induction l with
  | nil => rfl
  | cons a l ih =>
    rw [List.any_cons, ih, List.contains_cons]
    by_cases h : a = t
    · subst h; simp
    · have h2 : ¬ t = a := fun z => h z.symm
      simp [h, h2]
/-- == of lists of whole numbers -/
theorem dpAll_n (K : PySem.W.Frag) (H : Hp) : ∀ l : List Nat, DpAll K H (nV l) (l.map fun n => PyData.int (n : Nat))
  | [] => .nil
  | n :: l => .cons (.int _) (dpAll_n K H l)
theorem shaped_n : ∀ l : List Nat, SeqAt.shaped (.list (l.map fun n => PyData.int (n : Nat))) = true := by
  intro l
  first
    | (induction l with
      | nil => rfl
      | cons a l ih => exact ih)
    | simp [SeqAt.shaped]
theorem eqv_nil (l : List Nat) : PyData.eqv (.list (l.map fun n => PyData.int (n : Nat))) (.list []) = decide (l = []) := by
  cases l with
  | nil => rfl
  | cons a l => rfl
theorem sized {n m : Nat} (h : n ≤ m) (k : m ≤ 16777216 := by decide) : n ≤ sizeLine := by rw [sizeLine_eq]; exact Nat.le_trans h k
theorem sizedL {n m : Nat} (h : n ≤ m) (k : m < 16777216 := by decide) : n < sizeLine := by rw [sizeLine_eq]; exact Nat.lt_of_le_of_lt h k

/-! ### heaps -/
theorem _root_.L2.Same.upd {H H1 : Hp} {p : Addr} {o : HO} (s : Same H H1) (h : H1 p = none) : Same H (L2.upd H1 p o) := fun b u e => by
  rw [upd_ne (ne_of_none (s b u e) h)]
  exact s b u e
theorem _root_.L2.Same.new {H : Hp} {p : Addr} {o : HO} (h : H p = none) : Same H (L2.upd H p o) := fun b u e => by
  rw [upd_ne (ne_of_none e h)]
  exact e
/-- what was new is written again -/
theorem _root_.L2.Same.again {H H1 : Hp} {p : Addr} {o : HO} (s : Same H H1) (h : H p = none) : Same H (L2.upd H1 p o) := fun b u e => by
  rw [upd_ne (ne_of_none e h)]
  exact s b u e

/-! ### a dict of the written part whose keys are ints -/
structure KTab (K : PySem.W.Frag) (d : Addr) (tab : List (Int × Addr)) : Prop where
  ex : ∃ (es : Array DictEntry) (n : Nat), K.lookup d = some ⟨.type "dict", none, .dict es n, #[]⟩ ∧
    Paired (fun (e : DictEntry) (p : Int × Addr) => (∃ t, e.key = .int p.1 t) ∧ e.hash = hashInt p.1 ∧ e.val = .ref p.2) es.toList tab
  low : (d == sysModules) = false
theorem tab_find : ∀ {es : List DictEntry} {tab : List (Int × Addr)}, Paired (fun (e : DictEntry) (p : Int × Addr) => (∃ t, e.key = .int p.1 t) ∧ e.hash = hashInt p.1 ∧ e.val = .ref p.2) es tab → ∀ k : Int,
    (es.find? fun e => Value.isInt k e.key).map (·.val) = (tab.lookup k).map Value.ref
  | _, _, .nil, _ => rfl
  | e :: es, p :: tab, .cons ⟨⟨t, h1⟩, h2, h3⟩ r, k => by
    rw [List.find?_cons, h1]
    obtain ⟨i, a⟩ := p
    by_cases c : k = i
    · subst c
      have e1 : Value.isInt k (Value.int k t) = true := by simp [Value.isInt]
      dsimp only at e1 ⊢
      rw [e1]
      simp [List.lookup, h3]
    · have e1 : Value.isInt k (Value.int i t) = false := by
        simp [Value.isInt]
        first | exact c | exact fun z => c z.symm | omega
      have e2 : (k == i) = false := by simpa using c
      dsimp only at e1 ⊢
      rw [e1]
      simp only [List.lookup, e2]
      exact tab_find r k
theorem tab_keys {w : World} : ∀ {es : List DictEntry} {tab : List (Int × Addr)}, Paired (fun (e : DictEntry) (p : Int × Addr) => (∃ t, e.key = .int p.1 t) ∧ e.hash = hashInt p.1 ∧ e.val = .ref p.2) es tab →
    ∀ e ∈ es, ∃ (i : Int) (t : Tok), e.key = .int i t ∧ e.hash = hashInt i
  | _, _, .nil, _, h => nomatch h
  | e :: es, p :: tab, .cons ⟨⟨t, h1⟩, h2, _⟩ r, y, hy => by
    rcases List.mem_cons.mp hy with c | c
    · rw [c]; exact ⟨p.1, t, h1, h2⟩
    · exact tab_keys (w := w) r y c
theorem tab_map {prog : Program} {w : World} {K : PySem.W.Frag} {h : Heap} {d : Addr} {tab : List (Int × Addr)} (T : KTab K d tab) (X : K.In h) : h.MapOf (intKind prog w) d (fun k => (tab.lookup k).map Value.ref) := by
  obtain ⟨es, n, hl, hp⟩ := T.ex
  refine ⟨_, es, n, X _ _ hl, ⟨rfl, rfl, rfl⟩, rfl, fun e he => ?_, fun k => ?_⟩
  · obtain ⟨i, t, h1, h2⟩ := tab_keys (w := w) hp e (Array.mem_toList_iff.mpr he)
    exact ⟨i, by rw [h1]; simp [intKind, Value.isInt], h2⟩
  · have z := tab_find hp k
    show findBy (intKind prog w).is es k = (tab.lookup k).map Value.ref
    rw [← z]
    unfold findBy
    rw [← Array.find?_toList]
    show (es.toList.find? (fun e => Value.isInt k e.key)).map (·.val) = _
    rfl
section
variable {X : Cx} {d : Addr} {tab : List (Int × Addr)}
def rTabIn (d : Addr) (tab : List (Int × Addr)) : R2 := fun x y H Q => ∃ i : Int, x = .int i ∧ y = .ref d ∧ Q (.bl (tab.lookup i).isSome) H
theorem op_in_tab (T : KTab X.K d tab) : OpR X (compareOp .In) (rTabIn d tab) := by
  intro pins s σ H x y v u Q I rx ry h
  obtain ⟨i, rfl, rfl, q⟩ := h
  obtain ⟨t, rfl⟩ := rx
  cases ry
  have ki : (intKind X.prog X.w).is i (Value.int i t) = true := by simp [intKind, Value.isInt]
  refine wpAny_in_of ki T.low (tab_map (prog := X.prog) (w := X.w) T I.kIn) ?_
  rw [Option.isSome_map]
  exact ⟨.bl _, H, I.tok _, rfl, q⟩
def rTabAt (d : Addr) (tab : List (Int × Addr)) : R2 := fun x y H Q => ∃ (i : Int) (f : Addr), x = .ref d ∧ y = .int i ∧ tab.lookup i = some f ∧ Q (.ref f) H
theorem ix_tab (T : KTab X.K d tab) : IxR X (rTabAt d tab) := by
  intro value slice pins s σ H x y v u Q I rx ry h hs
  obtain ⟨i, f, rfl, rfl, e, q⟩ := h
  obtain rfl : v = Value.ref d := rx
  obtain ⟨t, rfl⟩ := ry
  have hm := tab_map (prog := X.prog) (w := X.w) T I.kIn
  have ki : (intKind X.prog X.w).is i (Value.int i t) = true := by simp [intKind, Value.isInt]
  exact tail_any hm.typeIs slot_dict_getitem.lookup (wpAny_getItem_of ki hm (by rw [e]; rfl) ⟨.ref f, H, I.tok _, rfl, q⟩) hs
end
end Ic

namespace Ic
open PySem PySem.Spec PyProof.Rows L2
local macro_rules | `(tactic| walk_at "rd") => `(tactic| dsimp only [tSeq, tAsg, tRet, tIfS, tTest, tOp, tVar, tC, tLst, tTup, tCons, tNil, tCB, tBM, tBM0, tCall, gName, tNext, cxOf, Cx.nox])
/-- built-in names that the program does not bind -/
structure Bl (mg : Str → Option Value) : Prop where
  abs : mg "abs" = none
  max : mg "max" = none
  min : mg "min" = none
  len : mg "len" = none
  list : mg "list" = none
  range : mg "range" = none
  sorted : mg "sorted" = none
  tuple : mg "tuple" = none
  reversed : mg "reversed" = none
  sum : mg "sum" = none
  ve : mg "ValueError" = none
def IsL (H : Hp) (a : Addr) (l : List Nat) : Prop := H a = some (.lst (nV l))
theorem IsL.seq {K : PySem.W.Frag} {H : Hp} {a : Addr} {l : List Nat} (h : IsL H a l) : SqL K H a (nV l) := SqL.of h
theorem IsL.same {H H' : Hp} {a : Addr} {l : List Nat} (h : IsL H a l) (s : Same H H') : IsL H' a l := s _ _ h
/-- a new list of these numbers is handed back, all else stands -/
def Ret (H : Hp) (Q : VK) (l : List Nat) : Prop := ∀ (H' : Hp) (q : Addr), Same H H' → H q = none → IsL H' q l → Q (.ref q) H'
/-- a number is handed back, all else stands -/
def RetI (H : Hp) (Q : VK) (i : Int) : Prop := ∀ (H' : Hp), Same H H' → Q (.int i) H'

/-! ### distance -/
def spDist : Sp := fun vs H Q _ => ∃ a b : Nat, vs = [.int (a : Nat), .int (b : Nat)] ∧ Q (.int (Km559.distance a b : Nat)) H
theorem sc_distance : FnScope ["a", "b"] ["a", "b"] (defScope (top 1)) := ⟨rfl, rfl, rfl, by decide +kernel, rfl, by decide +kernel, by decide +kernel⟩
section
variable {P : Program} {w : World} {K : PySem.W.Frag} {mg : Str → Option Value} {base : Heap}
theorem ok_distance (A : At K mg "distance" (top 1)) (B : Bl mg) : Cal P w K mg base CX0 1 "distance" spDist := by
  refine cal0 A sc_distance (fun vs H Q E h => ?_) (fun _ _ _ _ _ _ us hl => match us, hl with | [_, _], _ => rfl) (fun f cdv A outer s H vs Q E hr h => ?_)
  · obtain ⟨a, b, rfl, _⟩ := h; rfl
  · refine ⟨_, pss_one (ps_ret (pe_callB call_abs (by rfl) B.abs (by decide +kernel) (pa_cons (pe_op op_sub (pv 0) (pv 1)) pa_nil))), ?_⟩
    obtain ⟨a, b, rfl, q⟩ := h
    refine ⟨_, rfl, _, rfl, _, _, rfl, rfl, _, rfl, ?_⟩
    rw [← dist_cast]
    exact q

/-! ### left_of, right_of -/
theorem take_get {l : List Nat} {i n : Nat} (h : l[i]? = some n) : l.take (i + 1) = l.take i ++ [n] := by
  rw [List.take_add_one, h]; rfl
theorem filter_more {l : List Nat} {i n : Nat} (f : Nat → Bool) (h : l[i]? = some n) : (l.take (i + 1)).filter f = (l.take i).filter f ++ (if f n = true then [n] else []) := by
  rw [take_get h, List.filter_append]
  congr 1
  by_cases c : f n = true
  · rw [if_pos c, List.filter_cons_of_pos c]; rfl
  · rw [if_neg c, List.filter_cons_of_neg c]; rfl
/-- xs == [] -/
theorem rd_eqNil {K : PySem.W.Frag} {H : Hp} {p p2 : Addr} {l : List Nat} {Q : VK} (h : IsL H p l) (hp2 : H p2 = none) (hq : Q (.bl (decide (l = []))) (upd H p2 (.lst []))) :
    rEqD K (.ref p) (.ref p2) (upd H p2 (.lst [])) Q := by
  have h2 : upd H p2 (.lst []) p = some (.lst (nV l)) := by rw [upd_ne (ne_of_none h hp2)]; exact h
  refine ⟨.list (l.map fun n => PyData.int (n : Nat)), .list [], .lst (SqL.of h2) (dpAll_n K _ l), .lst (SqL.of upd_same) .nil, shaped_n l, rfl, ?_⟩
  rw [eqv_nil]
  exact hq
theorem one_le {v : V} : [v].length ≤ sizeLine := by rw [sizeLine_eq]; exact (by decide : 1 ≤ 16777216)
theorem iteD {c A B : Prop} [Decidable c] (h1 : c → A) (h2 : ¬ c → B) : if decide c = true then A else B := by
  by_cases h : c
  · rw [if_pos (decide_eq_true h)]; exact h1 h
  · rw [if_neg (by rw [decide_eq_false h]; exact Bool.false_ne_true)]; exact h2 h
theorem getD_mem {l : List Nat} {i : Nat} (h : i < l.length) : l.getD i 0 ∈ l := by
  rw [List.getD_eq_getElem?_getD, List.getElem?_eq_getElem h]
  exact List.getElem_mem h
theorem left_none' {ps : List Nat} {t : Nat} (hc : ps.contains t = false) (h : ps.filter (fun x => decide (x < t)) = []) : Km559.leftNeighbour ps t = none := by
  refine left_none fun i hi z => ?_
  have ne := not_contains hc hi
  have m : ps.getD i 0 ∈ ps.filter (fun x => decide (x < t)) := List.mem_filter.mpr ⟨getD_mem hi, decide_eq_true (by omega)⟩
  rw [h] at m
  cases m
theorem right_none' {ps : List Nat} {t : Nat} (hc : ps.contains t = false) (h : ps.filter (fun x => decide (t < x)) = []) : Km559.rightNeighbour ps t = none := by
  refine right_none fun i hi z => ?_
  have ne := not_contains hc hi
  have m : ps.getD i 0 ∈ ps.filter (fun x => decide (t < x)) := List.mem_filter.mpr ⟨getD_mem hi, decide_eq_true (by omega)⟩
  rw [h] at m
  cases m
theorem left_some' {ps : List Nat} {t j m : Nat} (hc : ps.contains t = false) (hm : m ∈ ps.filter (fun x => decide (x < t))) (hle : ∀ y ∈ ps.filter (fun x => decide (x < t)), y ≤ m) (h1 : ps[j]? = some m) (h2 : ∀ i, i < j → ps[i]? ≠ some m) : Km559.leftNeighbour ps t = some j := by
  obtain ⟨_, lt⟩ := List.mem_filter.mp hm
  have lt := of_decide_eq_true lt
  have hj : j < ps.length := (List.getElem?_eq_some_iff.mp h1).1
  have e := getD_eq h1
  have up : ∀ i, i < ps.length → ps.getD i 0 ≤ t → ps.getD i 0 ≤ m := fun i hi z => hle _ (List.mem_filter.mpr ⟨getD_mem hi, decide_eq_true (by have := not_contains hc hi; omega)⟩)
  refine left_some ⟨hj, by omega, fun i hi z => by rw [e]; exact up i hi z, fun i hi z => ?_⟩
  rw [e]
  have u := up i (Nat.lt_trans hi hj) z
  have n := h2 i hi
  rw [getD_of (Nat.lt_trans hi hj)] at n
  have n2 : ps.getD i 0 ≠ m := fun z => n (by rw [z])
  omega
theorem right_some' {ps : List Nat} {t j m : Nat} (hc : ps.contains t = false) (hm : m ∈ ps.filter (fun x => decide (t < x))) (hle : ∀ y ∈ ps.filter (fun x => decide (t < x)), m ≤ y) (h1 : ps[j]? = some m) (h2 : ∀ i, i < j → ps[i]? ≠ some m) : Km559.rightNeighbour ps t = some j := by
  obtain ⟨_, lt⟩ := List.mem_filter.mp hm
  have lt := of_decide_eq_true lt
  have hj : j < ps.length := (List.getElem?_eq_some_iff.mp h1).1
  have e := getD_eq h1
  have up : ∀ i, i < ps.length → t ≤ ps.getD i 0 → m ≤ ps.getD i 0 := fun i hi z => hle _ (List.mem_filter.mpr ⟨getD_mem hi, decide_eq_true (by have := not_contains hc hi; omega)⟩)
  refine right_some ⟨hj, by omega, fun i hi z => by rw [e]; exact up i hi z, fun i hi z => ?_⟩
  rw [e]
  have u := up i (Nat.lt_trans hi hj) z
  have n := h2 i hi
  rw [getD_of (Nat.lt_trans hi hj)] at n
  have n2 : ps.getD i 0 ≠ m := fun z => n (by rw [z])
  omega
theorem seq_zs {K : PySem.W.Frag} {H : Hp} {a : Addr} {l : List Nat} (h : IsL H a l) : SqL K H a ((zs l).map V.int) := by
  rw [← nV_zs]; exact h.seq
/-- max, min of a list of numbers -/
theorem rd_max {K : PySem.W.Frag} {H : Hp} {p : Addr} {l : List Nat} {Q : VK} (h : IsL H p l) (hn : l ≠ []) (hq : ∀ m, m ∈ l → (∀ y ∈ l, y ≤ m) → Q (.int (m : Nat)) H) : rMax K [.ref p] H Q := by
  refine ⟨p, zs l, rfl, seq_zs h, by rw [zs_length]; exact List.length_pos_iff.mpr hn, fun i hi hle => ?_⟩
  obtain ⟨m, hm, rfl⟩ := mem_zs.mp hi
  refine hq m hm fun y hy => ?_
  have := hle (y : Int) (mem_zs.mpr ⟨y, hy, rfl⟩)
  omega
theorem rd_min {K : PySem.W.Frag} {H : Hp} {p : Addr} {l : List Nat} {Q : VK} (h : IsL H p l) (hn : l ≠ []) (hq : Q (.int (minL l : Nat)) H) : rMin K [.ref p] H Q := by
  refine ⟨p, zs l, rfl, seq_zs h, by rw [zs_length]; exact List.length_pos_iff.mpr hn, fun i hi hle => ?_⟩
  obtain ⟨m, hm, rfl⟩ := mem_zs.mp hi
  rw [minL_unique hm fun y hy => by
    have := hle (y : Int) (mem_zs.mpr ⟨y, hy, rfl⟩)
    omega]
  exact hq
/-- the first place of a number -/
theorem first_at {l : List Nat} {m : Nat} (h : m ∈ l) : ∃ j : Nat, l[j]? = some m ∧ ∀ i, i < j → l[i]? ≠ some m := by
  induction l with
  | nil => cases h
  | cons a l ih =>
    by_cases c : a = m
    · exact ⟨0, by rw [c]; rfl, fun i hi => absurd hi (Nat.not_lt_zero _)⟩
    · rcases List.mem_cons.mp h with e | e
      · exact absurd e.symm c
      · obtain ⟨j, h1, h2⟩ := ih e
        refine ⟨j + 1, h1, fun i hi => ?_⟩
        cases i with
        | zero => exact fun z => c (Option.some.inj z)
        | succ i => exact h2 i (Nat.lt_of_succ_lt_succ hi)
/-- xs.index(m) by values -/
theorem rd_index {K : PySem.W.Frag} {H : Hp} {p : Addr} {l : List Nat} {m j : Nat} {Q : VK} (h : IsL H p l) (h1 : l[j]? = some m) (h2 : ∀ i, i < j → l[i]? ≠ some m) (hq : Q (.int (j : Nat)) H) : rIndex K (.ref p) [.int (m : Nat)] H Q := by
  refine ⟨p, nV l, .int (m : Nat), j, .int (m : Nat), rfl, rfl, h.seq, rfl, nV_flat l, nV_at h1, ?_, fun i z hi hz => ?_, hq⟩
  · rw [eqV_int]; exact decide_eq_true rfl
  · obtain ⟨n, hn, rfl⟩ := of_nV hz
    rw [eqV_int]
    exact decide_eq_false fun e => h2 i hi (by rw [hn, e])
def spLeft : Sp := fun vs H Q _ => ∃ (p : Addr) (ps : List Nat) (t : Nat), vs = [.ref p, .int (t : Nat)] ∧ IsL H p ps ∧ ps.length ≤ 3 ∧ ps.contains t = false ∧ Ret H Q (Km559.leftNeighbour ps t).toList
theorem sc_left : FnScope ["positions", "target", "below", "position"] ["positions", "target"] (defScope (top 2)) := ⟨rfl, rfl, rfl, by decide +kernel, rfl, by decide +kernel, by decide +kernel⟩
theorem ok_left (A : At K mg "left_of" (top 2)) (B : Bl mg) : Cal P w K mg base CX0 1 "left_of" spLeft := by
  refine cal0 A sc_left (fun vs H Q E h => ?_) (fun _ _ _ _ _ _ us hl => match us, hl with | [_, _], _ => rfl) (fun f cdv A outer s H vs Q E hr h => ?_)
  · obtain ⟨p, ps, t, rfl, _⟩ := h; rfl
  · refine ⟨_, pss_cons (ps_setLc (i := 2) (own := [("position", 3)]) (g := gName 3) rfl sc_left.nd rfl rfl (sw_true rfl rfl rfl (by decide +kernel)) (pi_list (pv 0)) (blkOk_by (own := [("position", 3)]) (N := ["positions", "target", "below", "position"]) (sc := defScope (top 2)) (by decide +kernel))
        (fun _ _ _ _ _ => pg_name (i := 3) sc_left.nd rfl (Or.inl rfl)) (fun _ _ _ _ _ => pts_one (pt_cmpR op_lt (pv 3) (pv 1) (nomark _))) (fun _ _ _ _ _ => pv 3))
      (pss_cons (ps_if (pt_cmpR (op_eqD hr.units) (pv 2) (pe_lst pa_nil) (nomark _)) (pss_one (ps_ret (pe_lst pa_nil))) pss_nil)
      (pss_one (ps_ret (pe_lst (pa_cons (pe_bm PySem.F.plainAttrs_list PySem.F.slot_list_index PySem.F.type_list_index mt_index (pv 0) (pa_cons (pe_callB (cr_max rfl) (by rfl) B.max (by decide +kernel) (pa_cons (pv 2) pa_nil)) pa_nil)) pa_nil))))), ?_⟩
    obtain ⟨p, ps, t, rfl, hp, hz, hc, k⟩ := h
    walk_at "rd"
    refine ⟨_, rfl, p, rfl, ⟨_, hp.seq⟩, fun D hD => lc_list (K := K) (a := p) (xs := nV ps) (fun i H' => Same H H' ∧ IsL H' D ((ps.take i).filter fun x => decide (x < t))) ⟨Same.new hD, upd_same⟩ (fun i H' _ s5 => s5.1.seq hp.seq) ?_ ?_⟩
    · rintro i x H' hi ⟨s5, h5⟩
      obtain ⟨n, hn, rfl⟩ := of_nV hi
      have fm := filter_more (fun x => decide (x < t)) hn
      refine ⟨rfl, _, rfl, _, rfl, _, _, rfl, rfl, _, rfl, ?_⟩
      by_cases c : n < t
      · rw [if_pos (decide_eq_true c)] at fm
        rw [if_pos (decide_eq_true (by omega))]
        refine ⟨_, rfl, _, h5, ?_, s5.again hD, ?_⟩
        · rw [nV_length]
          exact sizedL (Nat.le_trans (List.length_filter_le _ _) (Nat.le_trans (List.length_take_le' _ _) hz))
        · show upd H' D _ D = _
          rw [upd_same, fm, nV_app]
          rfl
      · rw [if_neg (by rw [decide_eq_false c]; exact Bool.false_ne_true), List.append_nil] at fm
        rw [if_neg (by rw [decide_eq_false (by omega)]; exact Bool.false_ne_true)]
        exact ⟨s5, by rw [fm]; exact h5⟩
    · rintro H' ⟨s5, h5⟩
      rw [nV_length, List.take_length] at h5
      refine ⟨_, rfl, Nat.zero_le _, fun p2 hp2 => rd_eqNil h5 hp2 ⟨_, rfl, ?_⟩⟩
      refine iteD (fun c => ?_) fun c => ?_
      · refine ⟨Nat.zero_le _, fun q hq => ?_⟩
        have s6 : Same H (upd H' p2 (.lst [])) := s5.upd hp2
        refine k _ q (s6.upd hq) (s6.free hq) ?_
        rw [left_none' hc c]
        exact upd_same
      · have s6 : Same H (upd H' p2 (.lst [])) := s5.upd hp2
        have h6 : IsL (upd H' p2 (.lst [])) D (ps.filter fun x => decide (x < t)) := h5.same (Same.new hp2)
        refine ⟨_, rfl, .inl ⟨rfl, _, (hp.same s6).seq⟩, _, rfl, rd_max h6 c fun m hm hle => ?_⟩
        obtain ⟨j, j1, j2⟩ := first_at (List.mem_filter.mp hm).1
        refine rd_index (hp.same s6) j1 j2 ⟨one_le, fun q hq => ?_⟩
        refine k _ q (s6.upd hq) (s6.free hq) ?_
        rw [left_some' hc hm hle j1 j2]
        exact upd_same
end
end Ic

namespace Ic
open PySem PySem.Spec PyProof.Rows L2
local macro_rules | `(tactic| walk_at "rd") => `(tactic| dsimp only [tSeq, tAsg, tRet, tIfS, tTest, tOp, tVar, tC, tLst, tTup, tCons, tNil, tCB, tBM, tBM0, tCall, gName, tNext, cxOf, Cx.nox])
def spPT (f : List Nat → Nat → List Nat) : Sp := fun vs H Q _ => ∃ (p : Addr) (ps : List Nat) (t : Nat), vs = [.ref p, .int (t : Nat)] ∧ IsL H p ps ∧ ps.length ≤ 3 ∧ Ret H Q (f ps t)
def spPTi (f : List Nat → Nat → Nat) : Sp := fun vs H Q _ => ∃ (p : Addr) (ps : List Nat) (t : Nat), vs = [.ref p, .int (t : Nat)] ∧ IsL H p ps ∧ ps.length ≤ 3 ∧ RetI H Q (f ps t : Nat)
theorem perm_sorted : ∀ {l m : List Int}, l.Perm m → l.Pairwise (· ≤ ·) → m.Pairwise (· ≤ ·) → l = m
  | [], m, p, _, _ => p.nil_eq
  | a :: l, [], p, _, _ => absurd p.length_eq (by simp)
  | a :: l, b :: m, p, h, k => by
    rw [List.pairwise_cons] at h k
    have e : a = b := by
      have h1 : a ∈ b :: m := p.subset (List.mem_cons_self ..)
      have h2 : b ∈ a :: l := p.symm.subset (List.mem_cons_self ..)
      rcases List.mem_cons.mp h1 with c | c
      · exact c
      · rcases List.mem_cons.mp h2 with d | d
        · exact d.symm
        · have := h.1 b d; have := k.1 a c; omega
    subst e
    rw [perm_sorted (p.cons_inv) h.2 k.2]
theorem movers_sorted (ps : List Nat) (t : Nat) : (movers ps t).Pairwise (· ≤ ·) := by
  cases cas ps t with
  | «at» h m s => rw [m]; exact List.Pairwise.nil
  | none h m s => rw [m]; exact List.Pairwise.nil
  | left h i hi lt l m s => rw [m]; exact List.pairwise_singleton ..
  | right h i hi lt l m s => rw [m]; exact List.pairwise_singleton ..
  | both h i j hi hj ne li lj m s => rw [m]; exact (two_sorted ne).imp (fun z => Nat.le_of_lt z)
theorem movers_perm {ps : List Nat} {t : Nat} (h : ps.contains t = false) : ((Km559.leftNeighbour ps t).toList ++ (Km559.rightNeighbour ps t).toList).Perm (movers ps t) := by
  unfold movers
  rw [if_neg (by rw [h]; exact Bool.false_ne_true)]
  cases Km559.leftNeighbour ps t with
  | none =>
    cases Km559.rightNeighbour ps t with
    | none => exact List.Perm.refl _
    | some j => exact List.Perm.refl _
  | some i =>
    cases Km559.rightNeighbour ps t with
    | none => exact List.Perm.refl _
    | some j =>
      show [i, j].Perm (two i j)
      unfold two
      split
      · exact List.Perm.refl _
      · exact List.Perm.swap _ _ _
theorem movers_length (ps : List Nat) (t : Nat) : (movers ps t).length ≤ 2 := by
  cases cas ps t with
  | «at» h m s => rw [m]; exact Nat.zero_le _
  | none h m s => rw [m]; exact Nat.zero_le _
  | left h i hi lt l m s => rw [m]; exact (by decide : 1 ≤ 2)
  | right h i hi lt l m s => rw [m]; exact (by decide : 1 ≤ 2)
  | both h i j hi hj ne li lj m s => rw [m, two_length]; exact Nat.le_refl _
theorem movers_lt {ps : List Nat} {t x : Nat} (h : x ∈ movers ps t) : x < ps.length := by
  cases cas ps t with
  | «at» _ m s => rw [m] at h; cases h
  | none _ m s => rw [m] at h; cases h
  | left _ i hi lt l m s => rw [m, List.mem_singleton] at h; rw [h]; exact hi
  | right _ i hi lt l m s => rw [m, List.mem_singleton] at h; rw [h]; exact hi
  | both _ i j hi hj ne li lj m s =>
    rw [m, mem_two] at h
    rcases h with e | e
    · rw [e]; exact hi
    · rw [e]; exact hj
theorem opt_len {o : Option Nat} : o.toList.length ≤ 1 := by cases o <;> simp
theorem zs_perm {l m : List Nat} (p : l.Perm m) : (zs l).Perm (zs m) := p.map _
theorem zs_sorted {l : List Nat} (h : l.Pairwise (· ≤ ·)) : (zs l).Pairwise (· ≤ ·) := by
  unfold zs
  rw [List.pairwise_map]
  exact h.imp fun z => by omega
theorem sc_right : FnScope ["positions", "target", "above", "position"] ["positions", "target"] (defScope (top 3)) := ⟨rfl, rfl, rfl, by decide +kernel, rfl, by decide +kernel, by decide +kernel⟩
theorem sc_movers : FnScope ["positions", "target"] ["positions", "target"] (defScope (top 4)) := ⟨rfl, rfl, rfl, by decide +kernel, rfl, by decide +kernel, by decide +kernel⟩
theorem sc_step : FnScope ["positions", "target", "gaps", "number"] ["positions", "target"] (defScope (top 5)) := ⟨rfl, rfl, rfl, by decide +kernel, rfl, by decide +kernel, by decide +kernel⟩
theorem sc_cdist : FnScope ["positions", "target"] ["positions", "target"] (defScope (top 6)) := ⟨rfl, rfl, rfl, by decide +kernel, rfl, by decide +kernel, by decide +kernel⟩
theorem sc_towards : FnScope ["position", "target", "far"] ["position", "target", "far"] (defScope (top 7)) := ⟨rfl, rfl, rfl, by decide +kernel, rfl, by decide +kernel, by decide +kernel⟩
def spRight : Sp := fun vs H Q _ => ∃ (p : Addr) (ps : List Nat) (t : Nat), vs = [.ref p, .int (t : Nat)] ∧ IsL H p ps ∧ ps.length ≤ 3 ∧ ps.contains t = false ∧ Ret H Q (Km559.rightNeighbour ps t).toList
/-- position - far is never asked below 0 -/
def spTowards : Sp := fun vs H Q _ => ∃ x t f : Nat, vs = [.int (x : Nat), .int (t : Nat), .int (f : Nat)] ∧ (¬ x < t → f ≤ x) ∧ Q (.int (towards x t f : Nat)) H
theorem gaps_more {ps : List Nat} {t i n : Nat} (h : (movers ps t)[i]? = some n) : ((movers ps t).take (i + 1)).map (fun n => Km559.distance (ps.getD n 0) t) = ((movers ps t).take i).map (fun n => Km559.distance (ps.getD n 0) t) ++ [Km559.distance (ps.getD n 0) t] := by
  rw [take_get h, List.map_append]; rfl
theorem gaps_nil {ps : List Nat} {t : Nat} (h : gaps ps t = []) : far ps t = 0 := by unfold far; rw [h]; rfl
section
variable {P : Program} {w : World} {K : PySem.W.Frag} {mg : Str → Option Value} {base : Heap}
theorem ok_right (A : At K mg "right_of" (top 3)) (B : Bl mg) : Cal P w K mg base CX0 1 "right_of" spRight := by
  refine cal0 A sc_right (fun vs H Q E h => ?_) (fun _ _ _ _ _ _ us hl => match us, hl with | [_, _], _ => rfl) (fun f cdv A outer s H vs Q E hr h => ?_)
  · obtain ⟨p, ps, t, rfl, _⟩ := h; rfl
  · refine ⟨_, pss_cons (ps_setLc (i := 2) (own := [("position", 3)]) (g := gName 3) rfl sc_right.nd rfl rfl (sw_true rfl rfl rfl (by decide +kernel)) (pi_list (pv 0)) (blkOk_by (own := [("position", 3)]) (N := ["positions", "target", "above", "position"]) (sc := defScope (top 3)) (by decide +kernel))
        (fun _ _ _ _ _ => pg_name (i := 3) sc_right.nd rfl (Or.inl rfl)) (fun _ _ _ _ _ => pts_one (pt_cmpR op_gt (pv 3) (pv 1) (nomark _))) (fun _ _ _ _ _ => pv 3))
      (pss_cons (ps_if (pt_cmpR (op_eqD hr.units) (pv 2) (pe_lst pa_nil) (nomark _)) (pss_one (ps_ret (pe_lst pa_nil))) pss_nil)
      (pss_one (ps_ret (pe_lst (pa_cons (pe_bm PySem.F.plainAttrs_list PySem.F.slot_list_index PySem.F.type_list_index mt_index (pv 0) (pa_cons (pe_callB (cr_min rfl) (by rfl) B.min (by decide +kernel) (pa_cons (pv 2) pa_nil)) pa_nil)) pa_nil))))), ?_⟩
    obtain ⟨p, ps, t, rfl, hp, hz, hc, k⟩ := h
    walk_at "rd"
    refine ⟨_, rfl, p, rfl, ⟨_, hp.seq⟩, fun D hD => lc_list (K := K) (a := p) (xs := nV ps) (fun i H' => Same H H' ∧ IsL H' D ((ps.take i).filter fun x => decide (t < x))) ⟨Same.new hD, upd_same⟩ (fun i H' _ s5 => s5.1.seq hp.seq) ?_ ?_⟩
    · rintro i x H' hi ⟨s5, h5⟩
      obtain ⟨n, hn, rfl⟩ := of_nV hi
      have fm := filter_more (fun x => decide (t < x)) hn
      refine ⟨rfl, _, rfl, _, rfl, _, _, rfl, rfl, _, rfl, ?_⟩
      by_cases c : t < n
      · rw [if_pos (decide_eq_true c)] at fm
        rw [if_pos (decide_eq_true (by omega))]
        refine ⟨_, rfl, _, h5, ?_, s5.again hD, ?_⟩
        · rw [nV_length]
          exact sizedL (Nat.le_trans (List.length_filter_le _ _) (Nat.le_trans (List.length_take_le' _ _) hz))
        · show upd H' D _ D = _
          rw [upd_same, fm, nV_app]
          rfl
      · rw [if_neg (by rw [decide_eq_false c]; exact Bool.false_ne_true), List.append_nil] at fm
        rw [if_neg (by rw [decide_eq_false (by omega)]; exact Bool.false_ne_true)]
        exact ⟨s5, by rw [fm]; exact h5⟩
    · rintro H' ⟨s5, h5⟩
      rw [nV_length, List.take_length] at h5
      refine ⟨_, rfl, Nat.zero_le _, fun p2 hp2 => rd_eqNil h5 hp2 ⟨_, rfl, ?_⟩⟩
      refine iteD (fun c => ?_) fun c => ?_
      · refine ⟨Nat.zero_le _, fun q hq => ?_⟩
        have s6 : Same H (upd H' p2 (.lst [])) := s5.upd hp2
        refine k _ q (s6.upd hq) (s6.free hq) ?_
        rw [right_none' hc c]
        exact upd_same
      · have s6 : Same H (upd H' p2 (.lst [])) := s5.upd hp2
        have h6 : IsL (upd H' p2 (.lst [])) D (ps.filter fun x => decide (t < x)) := h5.same (Same.new hp2)
        refine ⟨_, rfl, .inl ⟨rfl, _, (hp.same s6).seq⟩, _, rfl, rd_min h6 c ?_⟩
        have hm := minL_mem c
        obtain ⟨j, j1, j2⟩ := first_at (List.mem_filter.mp hm).1
        refine rd_index (hp.same s6) j1 j2 ⟨one_le, fun q hq => ?_⟩
        refine k _ q (s6.upd hq) (s6.free hq) ?_
        rw [right_some' hc hm (fun y hy => minL_le hy) j1 j2]
        exact upd_same
theorem ok_movers (A : At K mg "movers" (top 4)) (B : Bl mg) (cL : Cal P w K mg base CX0 1 "left_of" spLeft) (cR : Cal P w K mg base CX0 1 "right_of" spRight) : Cal P w K mg base CX0 2 "movers" (spPT movers) := by
  refine cal0 A sc_movers (fun vs H Q E h => ?_) (fun _ _ _ _ _ _ us hl => match us, hl with | [_, _], _ => rfl) (fun f cdv A outer s H vs Q E hr h => ?_)
  · obtain ⟨p, ps, t, rfl, _⟩ := h; rfl
  · refine ⟨_, pss_cons (ps_if (pt_cmpR op_in_seq (pv 1) (pv 0) (by rfl)) (pss_one (ps_ret (pe_lst pa_nil))) pss_nil)
      (pss_one (ps_ret (pe_callB cr_sorted (by rfl) B.sorted (by decide +kernel) (pa_cons (pe_op op_cat (pe_c cL hr (pa_cons (pv 0) (pa_cons (pv 1) pa_nil))) (pe_c cR hr (pa_cons (pv 0) (pa_cons (pv 1) pa_nil)))) pa_nil)))), ?_⟩
    obtain ⟨p, ps, t, rfl, hp, hz, k⟩ := h
    walk_at "rd"
    refine ⟨_, rfl, _, rfl, p, _, rfl, .inl hp.seq, rfl, nV_flat ps, _, rfl, ?_⟩
    rw [show (if false = true then !inV (V.int (t : Nat)) (nV ps) else inV (V.int (t : Nat)) (nV ps)) = ps.contains t from inV_n t ps]
    cases hc : ps.contains t with
    | true =>
      rw [if_pos rfl]
      refine ⟨Nat.zero_le _, fun q hq => k _ q (Same.new hq) hq ?_⟩
      unfold movers
      rw [if_pos hc]
      exact upd_same
    | false =>
      rw [if_neg Bool.false_ne_true]
      refine ⟨_, rfl, _, rfl, p, ps, t, rfl, hp, hz, hc, fun H1 q1 s1 n1 h1 => ?_⟩
      refine ⟨_, rfl, _, rfl, p, ps, t, rfl, hp.same s1, hz, hc, fun H2 q2 s2 n2 h2 => ?_⟩
      have s12 := s1.trans s2
      have l12 : ((Km559.leftNeighbour ps t).toList ++ (Km559.rightNeighbour ps t).toList).length ≤ 2 := by
        rw [List.length_append]
        have := @opt_len (Km559.leftNeighbour ps t)
        have := @opt_len (Km559.rightNeighbour ps t)
        omega
      refine ⟨q1, q2, _, _, rfl, rfl, h1.same s2, h2, ?_, fun q3 n3 => ?_⟩
      · rw [nV_length, nV_length, ← List.length_append]
        exact sized l12
      · have h3 : IsL (upd H2 q3 (.lst (nV (Km559.leftNeighbour ps t).toList ++ nV (Km559.rightNeighbour ps t).toList))) q3 ((Km559.leftNeighbour ps t).toList ++ (Km559.rightNeighbour ps t).toList) := by
          show upd _ _ _ _ = _
          rw [upd_same, nV_app]
        refine ⟨q3, _, rfl, seq_zs h3, by rw [zs_length]; omega, fun ns q4 p4 o4 n4 => ?_⟩
        have e : ns = zs (movers ps t) := perm_sorted (p4.trans (zs_perm (movers_perm hc))) o4 (zs_sorted (movers_sorted ps t))
        have s3 := s12.upd (o := .lst (nV (Km559.leftNeighbour ps t).toList ++ nV (Km559.rightNeighbour ps t).toList)) n3
        refine k _ q4 (s3.upd n4) (s3.free n4) ?_
        rw [e]
        show upd _ _ _ _ = _
        rw [upd_same, nV_zs]
theorem ok_step (A : At K mg "step" (top 5)) (B : Bl mg) (cD : Cal P w K mg base CX0 1 "distance" spDist) (cM : Cal P w K mg base CX0 2 "movers" (spPT movers)) : Cal P w K mg base CX0 3 "step" (spPTi far) := by
  refine cal0 A sc_step (fun vs H Q E h => ?_) (fun _ _ _ _ _ _ us hl => match us, hl with | [_, _], _ => rfl) (fun f cdv A outer s H vs Q E hr h => ?_)
  · obtain ⟨p, ps, t, rfl, _⟩ := h; rfl
  · refine ⟨_, pss_cons (ps_setLc (i := 2) (own := [("number", 3)]) (g := gName 3) rfl sc_step.nd rfl rfl (sw_true rfl rfl rfl (by decide +kernel)) (pi_list (pe_c cM hr (pa_cons (pv 0) (pa_cons (pv 1) pa_nil)))) (blkOk_by (own := [("number", 3)]) (N := ["positions", "target", "gaps", "number"]) (sc := defScope (top 5)) (by decide +kernel))
        (fun _ _ _ _ _ => pg_name (i := 3) sc_step.nd rfl (Or.inl rfl)) (fun _ _ _ _ _ => pts_nil) (fun _ _ _ _ _ => pe_c cD hr (pa_cons (pe_ix (show IxR _ (rIxL K) from ix_list) (pv 0) (pv 3) (fun _ _ => rfl)) (pa_cons (pv 1) pa_nil))))
      (pss_one (ps_ret (pe_callBK (cr_minD rfl) (by rfl) B.min (by decide +kernel) (pa_cons (pv 2) pa_nil) (pk_cons pe_int pk_nil)))), ?_⟩
    obtain ⟨p, ps, t, rfl, hp, hz, k⟩ := h
    walk_at "rd"
    refine ⟨_, rfl, _, rfl, p, ps, t, rfl, hp, hz, fun H1 q1 s1 n1 h1 => ?_⟩
    refine ⟨q1, rfl, ⟨_, h1.seq⟩, fun D hD => lc_list (K := K) (a := q1) (xs := nV (movers ps t)) (fun i H' => Same H1 H' ∧ IsL H' D (((movers ps t).take i).map fun n => Km559.distance (ps.getD n 0) t)) ⟨Same.new hD, upd_same⟩ (fun i H' _ s5 => s5.1.seq h1.seq) ?_ ?_⟩
    · rintro i x H' hi ⟨s5, h5⟩
      obtain ⟨n, hn, rfl⟩ := of_nV hi
      have hl : n < ps.length := movers_lt (List.mem_of_getElem? hn)
      refine ⟨rfl, ?_⟩
      dsimp only [tYes]
      refine iteT ?_
      refine ⟨_, rfl, _, rfl, p, _, _, _, rfl, rfl, (hp.same (s1.trans s5)).seq, atI_nat (nV_at (getD_of hl)), _, rfl, ps.getD n 0, t, rfl, ?_⟩
      refine ⟨_, h5, ?_, s5.again hD, ?_⟩
      · rw [nV_length, List.length_map]
        exact sizedL (Nat.le_trans (List.length_take_le' _ _) (movers_length ps t))
      · show upd H' D _ D = _
        rw [upd_same, gaps_more hn, nV_app]
        rfl
    · rintro H' ⟨s5, h5⟩
      rw [nV_length, List.take_length] at h5
      have h6 : IsL H' D (gaps ps t) := h5
      have s6 := s1.trans s5
      refine ⟨_, rfl, D, zs (gaps ps t), _, rfl, rfl, seq_zs h6, fun e => ?_, fun e m hm hle => ?_⟩
      · have e2 : gaps ps t = [] := by
          have := congrArg List.length e
          rw [zs_length] at this
          exact List.eq_nil_of_length_eq_zero this
        have z := k H' s6
        rw [gaps_nil e2] at z
        exact z
      · obtain ⟨n, hn, rfl⟩ := mem_zs.mp hm
        have z := k H' s6
        have u : n = far ps t := minL_unique hn fun y hy => by
          have := hle (y : Int) (mem_zs.mpr ⟨y, hy, rfl⟩)
          omega
        rw [← u] at z
        exact z
theorem ok_cdist (A : At K mg "cover_distance" (top 6)) (B : Bl mg) (cM : Cal P w K mg base CX0 2 "movers" (spPT movers)) (cS : Cal P w K mg base CX0 3 "step" (spPTi far)) : Cal P w K mg base CX0 4 "cover_distance" (spPTi covDist) := by
  refine cal0 A sc_cdist (fun vs H Q E h => ?_) (fun _ _ _ _ _ _ us hl => match us, hl with | [_, _], _ => rfl) (fun f cdv A outer s H vs Q E hr h => ?_)
  · obtain ⟨p, ps, t, rfl, _⟩ := h; rfl
  · refine ⟨_, pss_one (ps_ret (pe_op op_mul (pe_callB call_len_seq (by rfl) B.len PySem.boot_len (pa_cons (pe_c cM hr (pa_cons (pv 0) (pa_cons (pv 1) pa_nil))) pa_nil)) (pe_c cS hr (pa_cons (pv 0) (pa_cons (pv 1) pa_nil))))), ?_⟩
    obtain ⟨p, ps, t, rfl, hp, hz, k⟩ := h
    walk_at "rd"
    refine ⟨_, rfl, _, rfl, p, ps, t, rfl, hp, hz, fun H1 q1 s1 n1 h1 => ?_⟩
    refine ⟨q1, _, rfl, .inl h1.seq, _, rfl, _, rfl, p, ps, t, rfl, hp.same s1, hz, fun H2 s2 => ?_⟩
    have z := k H2 (s1.trans s2)
    have ml := movers_length ps t
    refine ⟨_, _, rfl, rfl, .inl ⟨by omega, by rw [nV_length]; omega⟩, ?_⟩
    rw [nV_length]
    unfold covDist at z
    rw [Int.natCast_mul] at z
    exact z
theorem ok_towards (A : At K mg "towards" (top 7)) : Cal P w K mg base CX0 1 "towards" spTowards := by
  refine cal0 A sc_towards (fun vs H Q E h => ?_) (fun _ _ _ _ _ _ us hl => match us, hl with | [_, _, _], _ => rfl) (fun f cdv A outer s H vs Q E hr h => ?_)
  · obtain ⟨x, t, f, rfl, _⟩ := h; rfl
  · refine ⟨_, pss_cons (ps_if (pt_cmpR op_lt (pv 0) (pv 1) (nomark _)) (pss_one (ps_ret (pe_op op_add (pv 0) (pv 2)))) pss_nil) (pss_one (ps_ret (pe_op op_sub (pv 0) (pv 2)))), ?_⟩
    obtain ⟨x, t, f, rfl, hf, k⟩ := h
    walk_at "rd"
    refine ⟨_, rfl, _, rfl, _, _, rfl, rfl, _, rfl, iteD (fun c => ?_) fun c => ?_⟩
    · refine ⟨_, rfl, _, rfl, _, _, rfl, rfl, ?_⟩
      unfold towards at k
      rw [if_pos (by omega)] at k
      exact k
    · refine ⟨_, rfl, _, rfl, _, _, rfl, rfl, ?_⟩
      unfold towards at k
      have c2 : ¬ x < t := by omega
      rw [if_neg c2, Int.ofNat_sub (hf c2)] at k
      exact k
end
end Ic

namespace Ic
open PySem PySem.Spec PyProof.Rows L2
local macro_rules | `(tactic| walk_at "rd") => `(tactic| dsimp only [tSeq, tAsg, tRet, tIfS, tTest, tOp, tVar, tC, tLst, tTup, tCons, tNil, tCB, tBM, tBM0, tCall, gName, gSub, tNext, tDrop, cxOf, Cx.nox])
theorem ixN_nat {n j : Nat} (h : j < n) : ixN n (j : Nat) = some j := by
  unfold ixN
  rw [if_pos (by omega), if_pos (by omega)]; simp
theorem two_le {v u : V} : [v, u].length ≤ sizeLine := by rw [sizeLine_eq]; exact (by decide : 2 ≤ 16777216)
def spSent : Sp := fun vs H Q _ => ∃ (p : Addr) (l : List Nat) (n t : Nat), vs = [.ref p, .int (n : Nat), .int (t : Nat)] ∧ IsL H p l ∧ n < l.length ∧ Ret H Q (l.set n t)
def spSS (f : List Nat → List Nat → List Nat) (pre : List Nat → Prop) : Sp := fun vs H Q _ => ∃ (a b : Addr) (S T : List Nat), vs = [.ref a, .ref b] ∧ IsL H a S ∧ IsL H b T ∧ S.length ≤ 3 ∧ T.length ≤ 9 ∧ pre S ∧ Ret H Q (f S T)
def spSSi (f : List Nat → List Nat → Nat) (pre : List Nat → Prop) : Sp := fun vs H Q _ => ∃ (a b : Addr) (S T : List Nat), vs = [.ref a, .ref b] ∧ IsL H a S ∧ IsL H b T ∧ S.length ≤ 3 ∧ T.length ≤ 9 ∧ pre S ∧ RetI H Q (f S T : Nat)
def anyS : List Nat → Prop := fun _ => True
def someS : List Nat → Prop := fun S => S ≠ []
def spNear : Sp := fun vs H Q _ => ∃ (p : Addr) (ps : List Nat) (t : Nat), vs = [.ref p, .int (t : Nat)] ∧ IsL H p ps ∧ ps.length ≤ 3 ∧ ps ≠ [] ∧ RetI H Q (Km559.nearest ps t : Nat)
def spSpread : Sp := fun vs H Q _ => ∃ (p : Addr) (ps : List Nat), vs = [.ref p] ∧ IsL H p ps ∧ ps.length ≤ 3 ∧ Q (.int (Km559.spread ps : Nat)) H
theorem at0 {ps : List Nat} {i : Nat} (h : i < ps.length) : atI (nV ps) (0 + (i : Nat)) = some (.int (ps.getD i 0 : Nat)) := by
  rw [Int.zero_add]; exact atI_nat (nV_at (getD_of h))
theorem sc_covered : FnScope ["positions", "target", "moved", "far", "number"] ["positions", "target"] (defScope (top 8)) := ⟨rfl, rfl, rfl, by decide +kernel, rfl, by decide +kernel, by decide +kernel⟩
theorem sc_call : FnScope ["starts", "targets", "positions", "target"] ["starts", "targets"] (defScope (top 9)) := ⟨rfl, rfl, rfl, by decide +kernel, rfl, by decide +kernel, by decide +kernel⟩
theorem sc_cds : FnScope ["starts", "targets", "positions", "found", "target"] ["starts", "targets"] (defScope (top 10)) := ⟨rfl, rfl, rfl, by decide +kernel, rfl, by decide +kernel, by decide +kernel⟩
theorem sc_near : FnScope ["positions", "target", "gaps", "position"] ["positions", "target"] (defScope (top 11)) := ⟨rfl, rfl, rfl, by decide +kernel, rfl, by decide +kernel, by decide +kernel⟩
theorem sc_sent : FnScope ["positions", "number", "target", "moved"] ["positions", "number", "target"] (defScope (top 12)) := ⟨rfl, rfl, rfl, by decide +kernel, rfl, by decide +kernel, by decide +kernel⟩
theorem sc_gall : FnScope ["starts", "targets", "positions", "target"] ["starts", "targets"] (defScope (top 13)) := ⟨rfl, rfl, rfl, by decide +kernel, rfl, by decide +kernel, by decide +kernel⟩
theorem sc_gtot : FnScope ["starts", "targets", "positions", "total", "target", "number"] ["starts", "targets"] (defScope (top 14)) := ⟨rfl, rfl, rfl, by decide +kernel, rfl, by decide +kernel, by decide +kernel⟩
theorem sc_spread : FnScope ["positions", "total", "place", "other"] ["positions"] (defScope (top 15)) := ⟨rfl, rfl, rfl, by decide +kernel, rfl, by decide +kernel, by decide +kernel⟩
/-! mathematics of the loops -/
theorem far_le {ps : List Nat} {t n : Nat} (h : n ∈ movers ps t) (c : ¬ ps.getD n 0 < t) : far ps t ≤ ps.getD n 0 := by
  have m : Km559.distance (ps.getD n 0) t ∈ gaps ps t := List.mem_map.mpr ⟨n, h, rfl⟩
  have := minL_le m
  unfold far
  unfold Km559.distance at this
  omega
def covTake (ps : List Nat) (t i : Nat) : List Nat := ((movers ps t).take i).foldl (covStep ps t (far ps t)) ps
theorem covTake_more {ps : List Nat} {t i n : Nat} (h : (movers ps t)[i]? = some n) : covTake ps t (i + 1) = (covTake ps t i).set n (towards (ps.getD n 0) t (far ps t)) := by
  unfold covTake
  rw [take_get h, List.foldl_append]; rfl
theorem covTake_length (ps : List Nat) (t : Nat) (i : Nat) : (covTake ps t i).length = ps.length := by
  unfold covTake
  generalize (movers ps t).take i = l
  have : ∀ (l acc : List Nat), (l.foldl (covStep ps t (far ps t)) acc).length = acc.length := by
    intro l
    induction l with
    | nil => intro acc; rfl
    | cons a l ih => intro acc; rw [List.foldl_cons, ih]; unfold covStep; rw [List.length_set]
  exact this l ps
theorem covAll_more {S T : List Nat} {i t : Nat} (h : T[i]? = some t) : covAll S (T.take (i + 1)) = covered (covAll S (T.take i)) t := by
  unfold covAll
  rw [take_get h, List.foldl_append]; rfl
theorem covDs_at : ∀ (T S : List Nat) (i t : Nat), T[i]? = some t → (covDs S T)[i]? = some (covDist (covAll S (T.take i)) t)
  | [], _, _, _, h => by simp at h
  | u :: T, S, 0, t, h => by
    have e : u = t := Option.some.inj h
    subst e; rfl
  | u :: T, S, i + 1, t, h => covDs_at T (covered S u) i t h
theorem covDs_more {S T : List Nat} {i t : Nat} (h : T[i]? = some t) : (covDs S T).take (i + 1) = (covDs S T).take i ++ [covDist (covAll S (T.take i)) t] := take_get (covDs_at T S i t h)
def gr (S T : List Nat) : List Nat × Nat := T.foldl grStep (S, 0)
theorem gr_more {S T : List Nat} {i t : Nat} (h : T[i]? = some t) : gr S (T.take (i + 1)) = grStep (gr S (T.take i)) t := by
  unfold gr
  rw [take_get h, List.foldl_append]; rfl
theorem gr_length (S : List Nat) : ∀ T : List Nat, (gr S T).1.length = S.length := by
  have : ∀ (T : List Nat) (s : List Nat × Nat), (T.foldl grStep s).1.length = s.1.length := by
    intro T
    induction T with
    | nil => intro s; rfl
    | cons t T ih => intro s; rw [List.foldl_cons, ih]; unfold grStep; rw [List.length_set]
  intro T; exact this T _
theorem gr_is (S T : List Nat) : gr S T = ((Km559.greedy S T).2, (Km559.greedy S T).1) := by
  unfold gr
  rw [greedy_fold]
  show (_, 0 + _) = _
  rw [Nat.zero_add]
theorem gr_ne {S : List Nat} (h : S ≠ []) (T : List Nat) : (gr S T).1 ≠ [] := fun e => h (by
  have := gr_length S T
  rw [e] at this
  exact List.eq_nil_of_length_eq_zero this.symm)
def gapsN (ps : List Nat) (t : Nat) : List Nat := ps.map fun p => Km559.distance p t
theorem near_first {ps : List Nat} {t j : Nat} (h1 : (gapsN ps t)[j]? = some (minL (gapsN ps t))) (h2 : ∀ i, i < j → (gapsN ps t)[i]? ≠ some (minL (gapsN ps t))) : Km559.nearest ps t = j := by
  have at_ : ∀ i, i < ps.length → (gapsN ps t)[i]? = some (Km559.distance (ps.getD i 0) t) := fun i hi => by
    unfold gapsN
    rw [List.getElem?_map, getD_of hi]; rfl
  have hj : j < ps.length := by
    have := (List.getElem?_eq_some_iff.mp h1).1
    unfold gapsN at this
    rwa [List.length_map] at this
  have ej : Km559.distance (ps.getD j 0) t = minL (gapsN ps t) := by
    rw [at_ j hj] at h1
    exact Option.some.inj h1
  have le : ∀ i, i < ps.length → minL (gapsN ps t) ≤ Km559.distance (ps.getD i 0) t := fun i hi => minL_le (List.mem_of_getElem? (at_ i hi))
  refine near_is ⟨hj, fun i hi => by rw [ej]; exact le i hi, fun i hi => ?_⟩
  have l := le i (Nat.lt_trans hi hj)
  have n := h2 i hi
  rw [at_ i (Nat.lt_trans hi hj)] at n
  have n2 : Km559.distance (ps.getD i 0) t ≠ minL (gapsN ps t) := fun z => n (by rw [z])
  omega
def sprI (ps : List Nat) (j k total : Nat) : Nat := (List.range k).foldl (fun (total i : Nat) => total + Km559.distance (ps.getD i 0) (ps.getD j 0)) total
def sprO (ps : List Nat) (k : Nat) : Nat := (List.range k).foldl (fun (total j : Nat) => sprI ps j j total) 0
theorem sprI_more (ps : List Nat) (j k total : Nat) : sprI ps j (k + 1) total = sprI ps j k total + Km559.distance (ps.getD j 0) (ps.getD k 0) := by
  unfold sprI
  rw [List.range_succ, List.foldl_append, dist_comm (ps.getD j 0)]; rfl
theorem sprO_more (ps : List Nat) (k : Nat) : sprO ps (k + 1) = sprI ps k k (sprO ps k) := by
  unfold sprO
  rw [List.range_succ, List.foldl_append]; rfl
theorem spread_is (ps : List Nat) : Km559.spread ps = sprO ps ps.length := rfl
section
variable {P : Program} {w : World} {K : PySem.W.Frag} {mg : Str → Option Value} {base : Heap}
theorem ok_sent (A : At K mg "sent" (top 12)) (B : Bl mg) : Cal P w K mg base CX0 1 "sent" spSent := by
  refine cal0 A sc_sent (fun vs H Q E h => ?_) (fun _ _ _ _ _ _ us hl => match us, hl with | [_, _, _], _ => rfl) (fun f cdv A outer s H vs Q E hr h => ?_)
  · obtain ⟨p, l, n, t, rfl, _⟩ := h; rfl
  · refine ⟨_, pss_cons (ps_set (i := 3) sc_sent.nd rfl (Or.inl rfl) (pe_callTy call_list_of (by rfl) B.list (by decide +kernel) (pa_cons (pv 0) pa_nil)))
      (pss_cons (ps_asg (pv 2) (pg_sub (pv 3) (pv 1) set_list)) (pss_one (ps_ret (pv 3)))), ?_⟩
    obtain ⟨p, l, n, t, rfl, hp, hn, k⟩ := h
    walk_at "rd"
    refine ⟨_, rfl, p, _, rfl, .inl hp.seq, fun q hq => ?_⟩
    refine ⟨_, rfl, _, rfl, _, rfl, q, _, _, n, rfl, rfl, upd_same, ixN_nat (by rw [nV_length]; exact hn), ?_⟩
    refine ⟨_, rfl, ?_⟩
    rw [upd_upd]
    refine k _ q (Same.new hq) hq ?_
    show upd _ _ _ _ = _
    rw [upd_same, nV_set]
theorem ok_covered (A : At K mg "covered" (top 8)) (B : Bl mg) (cM : Cal P w K mg base CX0 2 "movers" (spPT movers)) (cS : Cal P w K mg base CX0 3 "step" (spPTi far)) (cT : Cal P w K mg base CX0 1 "towards" spTowards) : Cal P w K mg base CX0 4 "covered" (spPT covered) := by
  refine cal0 A sc_covered (fun vs H Q E h => ?_) (fun _ _ _ _ _ _ us hl => match us, hl with | [_, _], _ => rfl) (fun f cdv A outer s H vs Q E hr h => ?_)
  · obtain ⟨p, ps, t, rfl, _⟩ := h; rfl
  · refine ⟨_, pss_cons (ps_set (i := 2) sc_covered.nd rfl (Or.inl rfl) (pe_callTy call_list_of (by rfl) B.list (by decide +kernel) (pa_cons (pv 0) pa_nil)))
      (pss_cons (ps_set (i := 3) sc_covered.nd rfl (Or.inl rfl) (pe_c cS hr (pa_cons (pv 0) (pa_cons (pv 1) pa_nil))))
      (pss_cons (ps_for PassesOwn.never rfl (pi_list (pe_c cM hr (pa_cons (pv 0) (pa_cons (pv 1) pa_nil)))) (pg_name (i := 4) sc_covered.nd rfl (Or.inl rfl))
        (pss_one (ps_asg (pe_c cT hr (pa_cons (pe_ix ix_list (pv 0) (pv 4) (fun _ _ => rfl)) (pa_cons (pv 1) (pa_cons (pv 3) pa_nil)))) (pg_sub (pv 2) (pv 4) set_list))))
      (pss_one (ps_ret (pv 2))))), ?_⟩
    obtain ⟨p, ps, t, rfl, hp, hz, k⟩ := h
    walk_at "rd"
    refine ⟨_, rfl, p, _, rfl, .inl hp.seq, fun m hm => ?_⟩
    have s0 : Same H (upd H m (.lst (nV ps))) := Same.new hm
    refine ⟨_, rfl, _, rfl, p, ps, t, rfl, hp.same s0, hz, fun H1 s1 => ?_⟩
    refine ⟨_, rfl, _, rfl, p, ps, t, rfl, hp.same (s0.trans s1), hz, fun H2 q s2 n2 h2 => ?_⟩
    have hq : q ≠ m := (ne_of_none (s1 _ _ upd_same) n2).symm
    have s02 := (s0.trans s1).trans s2
    refine ⟨q, rfl, ⟨_, h2.seq⟩, for_list (K := K) (a := q) (xs := nV (movers ps t)) (fun i σ H' => ∃ v : Option V, σ = [some (.ref p), some (.int (t : Nat)), some (.ref m), some (.int (far ps t : Nat)), v] ∧ Same H H' ∧ IsL H' m (covTake ps t i) ∧ IsL H' q (movers ps t))
      ⟨none, rfl, s02, (s1.trans s2) _ _ upd_same, h2⟩ (fun i σ H' _ ⟨_, _, _, _, h⟩ => h.seq) ?_ ?_⟩
    · rintro i x σ H' hi ⟨v, rfl, s5, h5, g5⟩
      obtain ⟨n, hn, rfl⟩ := of_nV hi
      have hl : n < ps.length := movers_lt (List.mem_of_getElem? hn)
      refine ⟨_, rfl, _, rfl, p, _, _, _, rfl, rfl, (hp.same s5).seq, atI_nat (nV_at (getD_of hl)), _, rfl, _, rfl, ps.getD n 0, t, far ps t, rfl, fun c => far_le (List.mem_of_getElem? hn) c, ?_⟩
      refine ⟨_, rfl, _, rfl, m, _, _, n, rfl, rfl, h5, ixN_nat (by rw [nV_length, covTake_length]; exact hl), ?_⟩
      refine ⟨_, rfl, s5.again hm, ?_, ?_⟩
      · show upd _ _ _ _ = _
        rw [upd_same, covTake_more hn, nV_set]
      · show upd _ _ _ _ = _
        rw [upd_ne hq]
        exact g5
    · rintro σ H' ⟨v, rfl, s5, h5, _⟩
      rw [nV_length] at h5
      unfold covTake at h5
      rw [List.take_length] at h5
      exact ⟨_, rfl, k H' m s5 hm h5⟩
theorem ok_covAll (A : At K mg "covered_all" (top 9)) (B : Bl mg) (cC : Cal P w K mg base CX0 4 "covered" (spPT covered)) : Cal P w K mg base CX0 5 "covered_all" (spSS covAll anyS) := by
  refine cal0 A sc_call (fun vs H Q E h => ?_) (fun _ _ _ _ _ _ us hl => match us, hl with | [_, _], _ => rfl) (fun f cdv A outer s H vs Q E hr h => ?_)
  · obtain ⟨a, b, S, T, rfl, _⟩ := h; rfl
  · refine ⟨_, pss_cons (ps_set (i := 2) sc_call.nd rfl (Or.inl rfl) (pe_callTy call_list_of (by rfl) B.list (by decide +kernel) (pa_cons (pv 0) pa_nil)))
      (pss_cons (ps_for PassesOwn.never rfl (pi_list (pv 1)) (pg_name (i := 3) sc_call.nd rfl (Or.inl rfl))
        (pss_one (ps_set (i := 2) sc_call.nd rfl (Or.inl rfl) (pe_c cC hr (pa_cons (pv 2) (pa_cons (pv 3) pa_nil))))))
      (pss_one (ps_ret (pv 2)))), ?_⟩
    obtain ⟨a, b, S, T, rfl, ha, hb, hS, hT, _, k⟩ := h
    walk_at "rd"
    refine ⟨_, rfl, a, _, rfl, .inl ha.seq, fun q hq => ?_⟩
    refine ⟨_, rfl, b, rfl, ⟨_, (hb.same (Same.new hq)).seq⟩, for_list (K := K) (a := b) (xs := nV T) (fun i σ H' => ∃ (q : Addr) (v : Option V), σ = [some (.ref a), some (.ref b), some (.ref q), v] ∧ Same H H' ∧ H q = none ∧ IsL H' q (covAll S (T.take i)))
      ⟨q, none, rfl, Same.new hq, hq, upd_same⟩ (fun i σ H' _ ⟨_, _, _, s5, _⟩ => (hb.same s5).seq) ?_ ?_⟩
    · rintro i x σ H' hi ⟨q, v, rfl, s5, n5, h5⟩
      obtain ⟨t, ht, rfl⟩ := of_nV hi
      refine ⟨_, rfl, _, rfl, q, covAll S (T.take i), t, rfl, h5, by rw [covAll_length]; exact hS, fun H1 q1 s1 n1 h1 => ?_⟩
      refine ⟨q1, _, rfl, s5.trans s1, s5.free n1, ?_⟩
      rw [covAll_more ht]
      exact h1
    · rintro σ H' ⟨q, v, rfl, s5, n5, h5⟩
      rw [nV_length, List.take_length] at h5
      exact ⟨_, rfl, k H' q s5 n5 h5⟩
theorem ok_covDs (A : At K mg "cover_distances" (top 10)) (B : Bl mg) (cD : Cal P w K mg base CX0 4 "cover_distance" (spPTi covDist)) (cC : Cal P w K mg base CX0 4 "covered" (spPT covered)) : Cal P w K mg base CX0 5 "cover_distances" (spSS covDs anyS) := by
  refine cal0 A sc_cds (fun vs H Q E h => ?_) (fun _ _ _ _ _ _ us hl => match us, hl with | [_, _], _ => rfl) (fun f cdv A outer s H vs Q E hr h => ?_)
  · obtain ⟨a, b, S, T, rfl, _⟩ := h; rfl
  · refine ⟨_, pss_cons (ps_set (i := 2) sc_cds.nd rfl (Or.inl rfl) (pe_callTy call_list_of (by rfl) B.list (by decide +kernel) (pa_cons (pv 0) pa_nil)))
      (pss_cons (ps_set (i := 3) sc_cds.nd rfl (Or.inl rfl) (pe_lst pa_nil))
      (pss_cons (ps_for PassesOwn.never rfl (pi_list (pv 1)) (pg_name (i := 4) sc_cds.nd rfl (Or.inl rfl))
        (pss_cons (ps_expr (pe_bm PySem.F.plainAttrs_list PySem.F.slot_list_append PySem.F.type_list_append mt_append (pv 3) (pa_cons (pe_c cD hr (pa_cons (pv 2) (pa_cons (pv 4) pa_nil))) pa_nil)))
        (pss_one (ps_set (i := 2) sc_cds.nd rfl (Or.inl rfl) (pe_c cC hr (pa_cons (pv 2) (pa_cons (pv 4) pa_nil)))))))
      (pss_one (ps_ret (pv 3))))), ?_⟩
    obtain ⟨a, b, S, T, rfl, ha, hb, hS, hT, _, k⟩ := h
    walk_at "rd"
    refine ⟨_, rfl, a, _, rfl, .inl ha.seq, fun q hq => ?_⟩
    refine ⟨Nat.zero_le _, fun D hD => ?_⟩
    have s0 : Same H (upd H q (.lst (nV S))) := Same.new hq
    have hDn : H D = none := s0.free hD
    have hqD : q ≠ D := ne_of_none upd_same hD
    refine ⟨_, rfl, b, rfl, ⟨_, (hb.same (s0.upd hD)).seq⟩, for_list (K := K) (a := b) (xs := nV T) (fun i σ H' => ∃ (q : Addr) (v : Option V), σ = [some (.ref a), some (.ref b), some (.ref q), some (.ref D), v] ∧ Same H H' ∧ q ≠ D ∧ IsL H' q (covAll S (T.take i)) ∧ IsL H' D ((covDs S T).take i))
      ⟨q, none, rfl, s0.upd hD, hqD, ?_, upd_same⟩ (fun i σ H' _ ⟨_, _, _, s5, _⟩ => (hb.same s5).seq) ?_ ?_⟩
    · show upd _ _ _ _ = _
      rw [upd_ne hqD]
      exact upd_same
    · rintro i x σ H' hi ⟨q, v, rfl, s5, n5, h5, g5⟩
      obtain ⟨t, ht, rfl⟩ := of_nV hi
      refine ⟨_, rfl, .inl ⟨rfl, _, g5.seq⟩, _, rfl, _, rfl, q, covAll S (T.take i), t, rfl, h5, by rw [covAll_length]; exact hS, fun H1 s1 => ?_⟩
      refine ⟨D, _, _, rfl, rfl, g5.same s1, ?_, ?_⟩
      · rw [nV_length, List.length_take]
        exact sizedL (m := 9) (by rw [covDs_length]; omega)
      · have s6 : Same H (upd H1 D (.lst (nV ((covDs S T).take i) ++ [V.int (covDist (covAll S (T.take i)) t : Nat)]))) := (s5.trans s1).again hDn
        have h6 : IsL (upd H1 D (.lst (nV ((covDs S T).take i) ++ [V.int (covDist (covAll S (T.take i)) t : Nat)]))) q (covAll S (T.take i)) := by
          show upd _ _ _ _ = _
          rw [upd_ne n5]
          exact h5.same s1
        refine ⟨_, rfl, _, rfl, q, covAll S (T.take i), t, rfl, h6, by rw [covAll_length]; exact hS, fun H2 q2 s2 n2 h2 => ?_⟩
        refine ⟨q2, _, rfl, s6.trans s2, (ne_of_none upd_same n2).symm, ?_, s2 _ _ ?_⟩
        · rw [covAll_more ht]
          exact h2
        · rw [upd_same, covDs_more ht, nV_app]
          rfl
    · rintro σ H' ⟨q, v, rfl, s5, n5, h5, g5⟩
      rw [nV_length, ← covDs_length T S, List.take_length] at g5
      exact ⟨_, rfl, k H' D s5 hDn g5⟩
theorem ok_near (A : At K mg "nearest" (top 11)) (B : Bl mg) (cD : Cal P w K mg base CX0 1 "distance" spDist) : Cal P w K mg base CX0 2 "nearest" spNear := by
  refine cal0 A sc_near (fun vs H Q E h => ?_) (fun _ _ _ _ _ _ us hl => match us, hl with | [_, _], _ => rfl) (fun f cdv A outer s H vs Q E hr h => ?_)
  · obtain ⟨p, ps, t, rfl, _⟩ := h; rfl
  · refine ⟨_, pss_cons (ps_setLc (i := 2) (own := [("position", 3)]) (g := gName 3) rfl sc_near.nd rfl rfl (sw_true rfl rfl rfl (by decide +kernel)) (pi_list (pv 0)) (blkOk_by (own := [("position", 3)]) (N := ["positions", "target", "gaps", "position"]) (sc := defScope (top 11)) (by decide +kernel))
        (fun _ _ _ _ _ => pg_name (i := 3) sc_near.nd rfl (Or.inl rfl)) (fun _ _ _ _ _ => pts_nil) (fun _ _ _ _ _ => pe_c cD hr (pa_cons (pv 3) (pa_cons (pv 1) pa_nil))))
      (pss_one (ps_ret (pe_bm PySem.F.plainAttrs_list PySem.F.slot_list_index PySem.F.type_list_index mt_index (pv 2) (pa_cons (pe_callB (cr_min rfl) (by rfl) B.min (by decide +kernel) (pa_cons (pv 2) pa_nil)) pa_nil)))), ?_⟩
    obtain ⟨p, ps, t, rfl, hp, hz, hne, k⟩ := h
    walk_at "rd"
    refine ⟨_, rfl, p, rfl, ⟨_, hp.seq⟩, fun D hD => lc_list (K := K) (a := p) (xs := nV ps) (fun i H' => Same H H' ∧ IsL H' D (gapsN (ps.take i) t)) ⟨Same.new hD, upd_same⟩ (fun i H' _ s5 => s5.1.seq hp.seq) ?_ ?_⟩
    · rintro i x H' hi ⟨s5, h5⟩
      obtain ⟨n, hn, rfl⟩ := of_nV hi
      refine ⟨rfl, ?_⟩
      dsimp only [tYes]
      refine iteT ?_
      refine ⟨_, rfl, _, rfl, n, t, rfl, ?_⟩
      refine ⟨_, h5, ?_, s5.again hD, ?_⟩
      · unfold gapsN
        rw [nV_length, List.length_map]
        exact sizedL (Nat.le_trans (List.length_take_le' _ _) hz)
      · show upd H' D _ D = _
        unfold gapsN
        rw [upd_same, take_get hn, List.map_append, nV_app]
        rfl
    · rintro H' ⟨s5, h5⟩
      rw [nV_length, List.take_length] at h5
      have gn : gapsN ps t ≠ [] := fun e => hne (List.map_eq_nil_iff.mp e)
      refine ⟨_, rfl, .inl ⟨rfl, _, h5.seq⟩, _, rfl, rd_min h5 gn ?_⟩
      obtain ⟨j, j1, j2⟩ := first_at (minL_mem gn)
      refine rd_index h5 j1 j2 ?_
      have z := k H' s5
      rw [near_first j1 j2] at z
      exact z
theorem ok_grAll (A : At K mg "greedy_all" (top 13)) (B : Bl mg) (cN : Cal P w K mg base CX0 2 "nearest" spNear) (cS : Cal P w K mg base CX0 1 "sent" spSent) : Cal P w K mg base CX0 3 "greedy_all" (spSS (fun S T => (gr S T).1) someS) := by
  refine cal0 A sc_gall (fun vs H Q E h => ?_) (fun _ _ _ _ _ _ us hl => match us, hl with | [_, _], _ => rfl) (fun f cdv A outer s H vs Q E hr h => ?_)
  · obtain ⟨a, b, S, T, rfl, _⟩ := h; rfl
  · refine ⟨_, pss_cons (ps_set (i := 2) sc_gall.nd rfl (Or.inl rfl) (pe_callTy call_list_of (by rfl) B.list (by decide +kernel) (pa_cons (pv 0) pa_nil)))
      (pss_cons (ps_for PassesOwn.never rfl (pi_list (pv 1)) (pg_name (i := 3) sc_gall.nd rfl (Or.inl rfl))
        (pss_one (ps_set (i := 2) sc_gall.nd rfl (Or.inl rfl) (pe_c cS hr (pa_cons (pv 2) (pa_cons (pe_c cN hr (pa_cons (pv 2) (pa_cons (pv 3) pa_nil))) (pa_cons (pv 3) pa_nil)))))))
      (pss_one (ps_ret (pv 2)))), ?_⟩
    obtain ⟨a, b, S, T, rfl, ha, hb, hS, hT, hne, k⟩ := h
    walk_at "rd"
    refine ⟨_, rfl, a, _, rfl, .inl ha.seq, fun q hq => ?_⟩
    refine ⟨_, rfl, b, rfl, ⟨_, (hb.same (Same.new hq)).seq⟩, for_list (K := K) (a := b) (xs := nV T) (fun i σ H' => ∃ (q : Addr) (v : Option V), σ = [some (.ref a), some (.ref b), some (.ref q), v] ∧ Same H H' ∧ H q = none ∧ IsL H' q (gr S (T.take i)).1)
      ⟨q, none, rfl, Same.new hq, hq, upd_same⟩ (fun i σ H' _ ⟨_, _, _, s5, _⟩ => (hb.same s5).seq) ?_ ?_⟩
    · rintro i x σ H' hi ⟨q, v, rfl, s5, n5, h5⟩
      obtain ⟨t, ht, rfl⟩ := of_nV hi
      have nn := gr_ne hne (T.take i)
      refine ⟨_, rfl, _, rfl, _, rfl, q, (gr S (T.take i)).1, t, rfl, h5, by rw [gr_length]; exact hS, nn, fun H1 s1 => ?_⟩
      refine ⟨_, rfl, q, (gr S (T.take i)).1, Km559.nearest (gr S (T.take i)).1 t, t, rfl, h5.same s1, (near_spec t nn).lt, fun H2 q2 s2 n2 h2 => ?_⟩
      refine ⟨q2, _, rfl, (s5.trans s1).trans s2, (s5.trans s1).free n2, ?_⟩
      rw [gr_more ht]
      exact h2
    · rintro σ H' ⟨q, v, rfl, s5, n5, h5⟩
      rw [nV_length, List.take_length] at h5
      exact ⟨_, rfl, k H' q s5 n5 h5⟩
theorem ok_grTot (A : At K mg "greedy_total" (top 14)) (B : Bl mg) (cN : Cal P w K mg base CX0 2 "nearest" spNear) (cS : Cal P w K mg base CX0 1 "sent" spSent) (cD : Cal P w K mg base CX0 1 "distance" spDist) : Cal P w K mg base CX0 3 "greedy_total" (spSSi (fun S T => (gr S T).2) someS) := by
  refine cal0 A sc_gtot (fun vs H Q E h => ?_) (fun _ _ _ _ _ _ us hl => match us, hl with | [_, _], _ => rfl) (fun f cdv A outer s H vs Q E hr h => ?_)
  · obtain ⟨a, b, S, T, rfl, _⟩ := h; rfl
  · refine ⟨_, pss_cons (ps_set (i := 2) sc_gtot.nd rfl (Or.inl rfl) (pe_callTy call_list_of (by rfl) B.list (by decide +kernel) (pa_cons (pv 0) pa_nil)))
      (pss_cons (ps_set (i := 3) sc_gtot.nd rfl (Or.inl rfl) pe_int)
      (pss_cons (ps_for PassesOwn.never rfl (pi_list (pv 1)) (pg_name (i := 4) sc_gtot.nd rfl (Or.inl rfl))
        (pss_cons (ps_set (i := 5) sc_gtot.nd rfl (Or.inl rfl) (pe_c cN hr (pa_cons (pv 2) (pa_cons (pv 4) pa_nil))))
        (pss_cons (ps_set (i := 3) sc_gtot.nd rfl (Or.inl rfl) (pe_op op_add (pv 3) (pe_c cD hr (pa_cons (pe_ix ix_list (pv 2) (pv 5) (fun _ _ => rfl)) (pa_cons (pv 4) pa_nil)))))
        (pss_one (ps_set (i := 2) sc_gtot.nd rfl (Or.inl rfl) (pe_c cS hr (pa_cons (pv 2) (pa_cons (pv 5) (pa_cons (pv 4) pa_nil)))))))))
      (pss_one (ps_ret (pv 3))))), ?_⟩
    obtain ⟨a, b, S, T, rfl, ha, hb, hS, hT, hne, k⟩ := h
    walk_at "rd"
    refine ⟨_, rfl, a, _, rfl, .inl ha.seq, fun q hq => ?_⟩
    refine ⟨_, rfl, b, rfl, ⟨_, (hb.same (Same.new hq)).seq⟩, for_list (K := K) (a := b) (xs := nV T) (fun i σ H' => ∃ (q : Addr) (v v2 : Option V), σ = [some (.ref a), some (.ref b), some (.ref q), some (.int ((gr S (T.take i)).2 : Nat)), v, v2] ∧ Same H H' ∧ IsL H' q (gr S (T.take i)).1)
      ⟨q, none, none, rfl, Same.new hq, upd_same⟩ (fun i σ H' _ ⟨_, _, _, _, s5, _⟩ => (hb.same s5).seq) ?_ ?_⟩
    · rintro i x σ H' hi ⟨q, v, v2, rfl, s5, h5⟩
      obtain ⟨t, ht, rfl⟩ := of_nV hi
      have nn := gr_ne hne (T.take i)
      have nl := (near_spec t nn).lt
      refine ⟨_, rfl, _, rfl, q, (gr S (T.take i)).1, t, rfl, h5, by rw [gr_length]; exact hS, nn, fun H1 s1 => ?_⟩
      refine ⟨_, rfl, _, rfl, _, rfl, q, _, _, _, rfl, rfl, (h5.same s1).seq, atI_nat (nV_at (getD_of nl)), _, rfl, _, t, rfl, _, _, rfl, rfl, ?_⟩
      refine ⟨_, rfl, _, rfl, _, rfl, q, (gr S (T.take i)).1, Km559.nearest (gr S (T.take i)).1 t, t, rfl, h5.same s1, nl, fun H2 q2 s2 n2 h2 => ?_⟩
      rw [gr_more ht]
      refine ⟨q2, some (.int (t : Nat)), some (.int (Km559.nearest (gr S (T.take i)).1 t : Nat)), ?_, (s5.trans s1).trans s2, h2⟩
      show _ = [_, _, _, some (V.int (((gr S (T.take i)).2 + Km559.distance ((gr S (T.take i)).1.getD (Km559.nearest (gr S (T.take i)).1 t) 0) t : Nat) : Int)), _, _]
      rw [Int.natCast_add]
      rfl
    · rintro σ H' ⟨q, v, v2, rfl, s5, h5⟩
      rw [nV_length, List.take_length] at h5 ⊢
      exact ⟨_, rfl, k H' s5⟩
theorem ok_spread (A : At K mg "spread" (top 15)) (B : Bl mg) (cD : Cal P w K mg base CX0 1 "distance" spDist) : Cal P w K mg base CX0 2 "spread" spSpread := by
  refine cal0 A sc_spread (fun vs H Q E h => ?_) (fun _ _ _ _ _ _ us hl => match us, hl with | [_], _ => rfl) (fun f cdv A outer s H vs Q E hr h => ?_)
  · obtain ⟨p, ps, rfl, _⟩ := h; rfl
  · refine ⟨_, pss_cons (ps_set (i := 1) sc_spread.nd rfl (Or.inl rfl) pe_int)
      (pss_cons (ps_for PassesOwn.never rfl (pi_range1 rfl B.range (pa_cons (pe_callB call_len_seq (by rfl) B.len PySem.boot_len (pa_cons (pv 0) pa_nil)) pa_nil)) (pg_name (i := 2) sc_spread.nd rfl (Or.inl rfl))
        (pss_one (ps_for PassesOwn.never rfl (pi_range1 rfl B.range (pa_cons (pv 2) pa_nil)) (pg_name (i := 3) sc_spread.nd rfl (Or.inl rfl))
          (pss_one (ps_set (i := 1) sc_spread.nd rfl (Or.inl rfl) (pe_op op_add (pv 1) (pe_c cD hr (pa_cons (pe_ix ix_list (pv 0) (pv 2) (fun _ _ => rfl)) (pa_cons (pe_ix ix_list (pv 0) (pv 3) (fun _ _ => rfl)) pa_nil)))))))))
      (pss_one (ps_ret (pv 1)))), ?_⟩
    obtain ⟨p, ps, rfl, hp, hz, k⟩ := h
    walk_at "rd"
    have nz := nV_length ps
    refine ⟨_, rfl, p, _, rfl, .inl hp.seq, _, rfl, by omega, by omega, for_range (lo := 0) (fun i σ H' => ∃ v v2 : Option V, σ = [some (.ref p), some (.int (sprO ps i : Nat)), v, v2] ∧ H' = H) ⟨none, none, rfl, rfl⟩ ?_ ?_⟩
    · rintro i σ H' hi ⟨v, v2, rfl, rfl⟩
      have hi2 : i < ps.length := by omega
      refine ⟨_, rfl, _, rfl, by omega, by omega, for_range (lo := 0) (fun j σ H2 => ∃ v2 : Option V, σ = [some (.ref p), some (.int (sprI ps i j (sprO ps i) : Nat)), some (.int (0 + (i : Nat))), v2] ∧ H2 = H') ⟨v2, rfl, rfl⟩ ?_ ?_⟩
      · rintro j σ H2 hj ⟨v2, rfl, rfl⟩
        have hj2 : j < ps.length := by omega
        refine ⟨_, rfl, _, rfl, _, rfl, p, _, _, _, rfl, rfl, hp.seq, at0 hi2, _, rfl, _, rfl, p, _, _, _, rfl, rfl, hp.seq, at0 hj2, _, _, rfl, _, _, rfl, rfl, ?_⟩
        refine ⟨some (.int (0 + (j : Nat))), ?_, rfl⟩
        rw [sprI_more, Int.natCast_add]
        rfl
      · rintro σ H2 ⟨v2, rfl, rfl⟩
        refine ⟨some (.int (0 + (i : Nat))), v2, ?_, rfl⟩
        rw [sprO_more, show (0 + (i : Nat) : Int).toNat = i by omega]
    · rintro σ H' ⟨v, v2, rfl, rfl⟩
      rw [show (((nV ps).length : Nat) : Int).toNat = ps.length by omega]
      exact ⟨_, rfl, k⟩
end
end Ic

namespace Ic
open PySem PySem.Spec PyProof.Rows L2
local macro_rules | `(tactic| walk_at "rd") => `(tactic| dsimp only [tSeq, tAsg, tRet, tIfS, tTest, tOp, tUn, tVar, tC, tLst, tTup, tCons, tNil, tCB, tBM, tBM0, tCall, gName, gSub, tNext, tDrop, tDNewT, tDGet, sDPut, cxOf, Cx.nox])
/-! ### standings: tuples of numbers, as keys -/
def IsT (H : Hp) (a : Addr) (l : List Nat) : Prop := H a = some (.tup (nV l))
theorem IsT.same {H H' : Hp} {a : Addr} {l : List Nat} (h : IsT H a l) (s : Same H H') : IsT H' a l := s _ _ h
theorem IsT.seq {K : PySem.W.Frag} {H : Hp} {a : Addr} {l : List Nat} (h : IsT H a l) : SqT K H a (nV l) := SqT.of h
def keyL (l : List Nat) : List Key := l.map fun (n : Nat) => (Sum.inl (n : Int) : Key)
theorem keyL_V (l : List Nat) : (keyL l).map kV = nV l := by unfold keyL nV; rw [List.map_map]; rfl
theorem IsT.key {H : Hp} {a : Addr} {l : List Nat} (h : IsT H a l) : H a = some (.tup ((keyL l).map kV)) := by rw [keyL_V]; exact h
theorem keyL_inj : ∀ {l m : List Nat}, keyL l = keyL m → l = m
  | [], [], _ => rfl
  | [], _ :: _, h => by cases h
  | _ :: _, [], h => by cases h
  | a :: l, b :: m, h => by
    have h1 := (List.cons.inj h).1
    have h2 := keyL_inj (List.cons.inj h).2
    have h3 : (a : Int) = b := Sum.inl.inj h1
    rw [h2, Int.ofNat.inj h3]
theorem pairedAt {α β : Type} {F : α → β → Prop} : ∀ {l : List α} {m : List β}, Paired F l m → l.length = m.length ∧ ∀ (i : Nat) (a : α) (b : β), l[i]? = some a → m[i]? = some b → F a b
  | _, _, .nil => ⟨rfl, fun i a b h _ => by simp at h⟩
  | _, _, .cons r t => by
    obtain ⟨h1, h2⟩ := pairedAt t
    refine ⟨by rw [List.length_cons, List.length_cons, h1], fun i a b ha hb => ?_⟩
    cases i with
    | zero =>
      have ea := Option.some.inj ha
      have eb := Option.some.inj hb
      rw [← ea, ← eb]; exact r
    | succ i => exact h2 i a b ha hb
/-- at q: a list of the tuples of these standings -/
def Stand (H : Hp) (q : Addr) (Ss : List (List Nat)) : Prop := ∃ bs : List Addr, H q = some (.lst (bs.map V.ref)) ∧ bs.length = Ss.length ∧ ∀ (i : Nat) (b : Addr) (S : List Nat), bs[i]? = some b → Ss[i]? = some S → IsT H b S
theorem Stand.same {H H' : Hp} {q : Addr} {Ss : List (List Nat)} (h : Stand H q Ss) (s : Same H H') : Stand H' q Ss := by
  obtain ⟨bs, h1, h2, h3⟩ := h
  exact ⟨bs, s _ _ h1, h2, fun i b S hb hS => (h3 i b S hb hS).same s⟩
theorem ref_at {bs : List Addr} {i : Nat} {x : V} (h : (bs.map V.ref)[i]? = some x) : ∃ b, bs[i]? = some b ∧ x = .ref b := by
  rw [List.getElem?_map] at h
  cases e : bs[i]? with
  | none => rw [e] at h; cases h
  | some b => rw [e] at h; exact ⟨b, rfl, (Option.some.inj h).symm⟩
theorem at_some {α : Type} {l : List α} {i : Nat} (h : i < l.length) : ∃ x, l[i]? = some x := ⟨_, List.getElem?_eq_getElem h⟩
/-! keys behind a store -/
theorem putK_keys {κ : Type} [DecidableEq κ] (kvs : List (κ × V)) (k : κ) (v : V) : (putK kvs k v).map (·.1) = if k ∈ kvs.map (·.1) then kvs.map (·.1) else kvs.map (·.1) ++ [k] := by
  unfold putK
  by_cases h : k ∈ kvs.map (·.1)
  · have a : (kvs.any fun kv => decide (kv.1 = k)) = true := by
      obtain ⟨p, hp, e⟩ := List.mem_map.mp h
      exact List.any_eq_true.mpr ⟨p, hp, decide_eq_true e⟩
    rw [if_pos a, if_pos h, List.map_map]
    refine List.map_congr_left fun p _ => ?_
    show (if p.1 = k then (p.1, v) else p).1 = p.1
    split <;> rfl
  · have a : ¬ (kvs.any fun kv => decide (kv.1 = k)) = true := fun z => by
      obtain ⟨p, hp, e⟩ := List.any_eq_true.mp z
      exact h (List.mem_map.mpr ⟨p, hp, of_decide_eq_true e⟩)
    rw [if_neg a, if_neg h, List.map_append]; rfl
/-- the standings that a table holds -/
structure Held (k : Nat) (kvs : List (List Key × V)) (Ss : List (List Nat)) : Prop where
  keys : kvs.map (·.1) = Ss.map keyL
  len : ∀ S ∈ Ss, S.length = k
theorem Held.length {k : Nat} {kvs : List (List Key × V)} {Ss : List (List Nat)} (h : Held k kvs Ss) : kvs.length = Ss.length := by
  have := congrArg List.length h.keys
  rwa [List.length_map, List.length_map] at this
/-- one more -/
theorem Held.put {k : Nat} {kvs : List (List Key × V)} {Ss : List (List Nat)} (h : Held k kvs Ss) {S : List Nat} (hS : S.length = k) (v : V) :
    ∃ Ss', Held k (putK kvs (keyL S) v) Ss' ∧ Ss'.length ≤ Ss.length + 1 ∧ S ∈ Ss' ∧ ∀ R ∈ Ss, R ∈ Ss' := by
  by_cases m : S ∈ Ss
  · refine ⟨Ss, ⟨?_, h.len⟩, Nat.le_succ _, m, fun _ z => z⟩
    rw [putK_keys, h.keys, if_pos (List.mem_map.mpr ⟨S, m, rfl⟩)]
  · refine ⟨Ss ++ [S], ⟨?_, fun R hR => ?_⟩, by rw [List.length_append]; exact Nat.le_refl _, List.mem_append_right _ (List.mem_singleton.mpr rfl), fun R hR => List.mem_append_left _ hR⟩
    · rw [putK_keys, h.keys, if_neg, List.map_append]; rfl
      intro z
      obtain ⟨R, hR, e⟩ := List.mem_map.mp z
      rw [keyL_inj e] at hR
      exact m hR
    · rcases List.mem_append.mp hR with c | c
      · exact h.len R c
      · rw [List.mem_singleton.mp c]; exact hS
def spAfter : Sp := fun vs H Q _ => ∃ (p : Addr) (l : List Nat) (n t : Nat), vs = [.ref p, .int (n : Nat), .int (t : Nat)] ∧ IsT H p l ∧ n < l.length ∧ ∀ (H' : Hp) (q : Addr), Same H H' → H q = none → IsT H' q (l.set n t) → Q (.ref q) H'
def spNext : Sp := fun vs H Q _ => ∃ (p : Addr) (Ss : List (List Nat)) (t k : Nat), vs = [.ref p, .int (t : Nat)] ∧ Stand H p Ss ∧ (∀ S ∈ Ss, S.length = k) ∧ k ≤ 3 ∧ Ss.length ≤ 100000 ∧
  ∀ (H' : Hp) (q : Addr) (Ts : List (List Nat)), Same H H' → H q = none → Stand H' q Ts → Ts.length ≤ 3 * Ss.length → (∀ S ∈ Ts, S.length = k) → (∀ S ∈ Ss, ∀ j, j < k → S.set j t ∈ Ts) → Q (.ref q) H'
theorem sc_after : FnScope ["standing", "number", "target"] ["standing", "number", "target"] (defScope (top 40)) := ⟨rfl, rfl, rfl, by decide +kernel, rfl, by decide +kernel, by decide +kernel⟩
theorem sc_next : FnScope ["standings", "target", "found", "standing", "number"] ["standings", "target"] (defScope (top 41)) := ⟨rfl, rfl, rfl, by decide +kernel, rfl, by decide +kernel, by decide +kernel⟩
section
variable {P : Program} {w : World} {K : PySem.W.Frag} {mg : Str → Option Value} {base : Heap}
theorem ok_after (A : At K mg "after" (top 40)) (B : Bl mg) (cS : Cal P w K mg base CX0 1 "sent" spSent) : Cal P w K mg base CX0 2 "after" spAfter := by
  refine cal0 A sc_after (fun vs H Q E h => ?_) (fun _ _ _ _ _ _ us hl => match us, hl with | [_, _, _], _ => rfl) (fun f cdv A outer s H vs Q E hr h => ?_)
  · obtain ⟨p, l, n, t, rfl, _⟩ := h; rfl
  · refine ⟨_, pss_one (ps_ret (pe_callTy call_tuple_of (by rfl) B.tuple (by decide +kernel) (pa_cons (pe_c cS hr (pa_cons (pe_callTy call_list_of (by rfl) B.list (by decide +kernel) (pa_cons (pv 0) pa_nil)) (pa_cons (pv 1) (pa_cons (pv 2) pa_nil)))) pa_nil))), ?_⟩
    obtain ⟨p, l, n, t, rfl, hp, hn, k⟩ := h
    walk_at "rd"
    refine ⟨_, rfl, p, _, rfl, .inr hp.seq, fun q hq => ?_⟩
    refine ⟨_, rfl, _, rfl, q, l, n, t, rfl, upd_same, hn, fun H1 q1 s1 n1 h1 => ?_⟩
    refine ⟨q1, _, rfl, .inl ⟨h1.seq, fun q2 n2 => ?_⟩⟩
    have s2 := (Same.new hq).trans s1
    exact k _ q2 (s2.upd n2) (s2.free n2) upd_same
theorem ok_next (A : At K mg "next_standings" (top 41)) (B : Bl mg) (cA : Cal P w K mg base CX0 2 "after" spAfter) : Cal P w K mg base CX0 3 "next_standings" spNext := by
  refine cal0 A sc_next (fun vs H Q E h => ?_) (fun _ _ _ _ _ _ us hl => match us, hl with | [_, _], _ => rfl) (fun f cdv A outer s H vs Q E hr h => ?_)
  · obtain ⟨p, Ss, t, k, rfl, _⟩ := h; rfl
  · refine ⟨_, pss_cons (ps_set (i := 2) sc_next.nd rfl (Or.inl rfl) pe_dnewT)
      (pss_cons (ps_for PassesOwn.never rfl (pi_list (pv 0)) (pg_name (i := 3) sc_next.nd rfl (Or.inl rfl))
        (pss_one (ps_for PassesOwn.never rfl (pi_range1 rfl B.range (pa_cons (pe_callB call_len_seq (by rfl) B.len PySem.boot_len (pa_cons (pv 3) pa_nil)) pa_nil)) (pg_name (i := 4) sc_next.nd rfl (Or.inl rfl))
          (pss_one (ps_dput (hu_of hr) (pv 2) (pe_c cA hr (pa_cons (pv 3) (pa_cons (pv 4) (pa_cons (pv 1) pa_nil)))) pe_bl rfl)))))
      (pss_one (ps_ret (pe_callTy (call_list_dT rfl) (by rfl) B.list (by decide +kernel) (pa_cons (pv 2) pa_nil))))), ?_⟩
    obtain ⟨p, Ss, t, m, rfl, hp, hm, hm3, hz, k⟩ := h
    obtain ⟨bs, hb1, hb2, hb3⟩ := hp
    walk_at "rd"
    refine fun d hd => ?_
    refine ⟨_, rfl, p, rfl, ⟨_, SqL.of (Same.new hd _ _ hb1)⟩, for_list (K := K) (a := p) (xs := bs.map V.ref) (fun i σ H' => ∃ (v v2 : Option V) (kvs : List (List Key × V)) (Ts : List (List Nat)), σ = [some (.ref p), some (.int (t : Nat)), some (.ref d), v, v2] ∧ Same H H' ∧ H' d = some (.dT kvs) ∧ Held m kvs Ts ∧ Ts.length ≤ 3 * i ∧ ∀ S ∈ Ss.take i, ∀ j, j < m → S.set j t ∈ Ts)
      ⟨none, none, [], [], rfl, Same.new hd, upd_same, ⟨rfl, fun _ z => nomatch z⟩, Nat.zero_le _, fun _ z => nomatch z⟩ (fun i σ H' _ ⟨_, _, _, _, _, s5, _⟩ => SqL.of (s5 _ _ hb1)) ?_ ?_⟩
    · rintro i x σ H' hi ⟨v, v2, kvs, Ts, rfl, s5, h5, held, l5, c5⟩
      obtain ⟨b, hb, rfl⟩ := ref_at hi
      have il : i < Ss.length := by
        rw [← hb2]; exact (List.getElem?_eq_some_iff.mp hb).1
      obtain ⟨S, hS⟩ := at_some il
      have hT := hb3 i b S hb hS
      have hSm : S.length = m := hm S (List.mem_of_getElem? hS)
      have nl : (nV S).length = m := by rw [nV_length, hSm]
      have hk : Ss.take (i + 1) = Ss.take i ++ [S] := by rw [List.take_add_one, hS]; rfl
      refine ⟨_, rfl, b, _, rfl, .inr (hT.same s5).seq, _, rfl, by omega, by omega, for_range (lo := 0) (fun r σ H2 => ∃ (v2 : Option V) (kvs : List (List Key × V)) (Ts : List (List Nat)), σ = [some (.ref p), some (.int (t : Nat)), some (.ref d), some (.ref b), v2] ∧ Same H H2 ∧ H2 d = some (.dT kvs) ∧ Held m kvs Ts ∧ Ts.length ≤ 3 * i + r ∧ (∀ S ∈ Ss.take i, ∀ j, j < m → S.set j t ∈ Ts) ∧ ∀ j, j < r → S.set j t ∈ Ts)
        ⟨v2, kvs, Ts, rfl, s5, h5, held, l5, c5, fun j hj => absurd hj (Nat.not_lt_zero _)⟩ ?_ ?_⟩
      · rintro r σ H2 hr2 ⟨v2, kvs, Ts, rfl, s6, h6, held, l6, c6, e6⟩
        have hrm : r < S.length := by omega
        refine ⟨_, rfl, _, rfl, _, rfl, _, rfl, b, S, r, t, ?_, hT.same s6, hrm, fun H3 q3 s3 n3 h3 => ?_⟩
        · rw [Int.zero_add]; rfl
        · have h6' : H3 d = some (.dT kvs) := s3 _ _ h6
          obtain ⟨Ts', hd1, hd2, hd3, hd4⟩ := held.put (S := S.set r t) (by rw [List.length_set, hSm]) (.bl true)
          refine ⟨d, _, rfl, DPut.t h6' h3.key ?_, ?_⟩
          · rw [held.length]
            exact sizedL (m := 400000) (by omega)
          · refine ⟨_, _, _, rfl, (s6.trans s3).again hd, upd_same, hd1, by omega, fun S' hS' j hj => hd4 _ (c6 S' hS' j hj), fun j hj => ?_⟩
            rcases Nat.lt_succ_iff_lt_or_eq.mp hj with z | z
            · exact hd4 _ (e6 j z)
            · rw [z]; exact hd3
      · rintro σ H2 ⟨v2, kvs, Ts, rfl, s6, h6, held, l6, c6, e6⟩
        refine ⟨_, v2, kvs, Ts, rfl, s6, h6, held, by omega, fun S' hS' j hj => ?_⟩
        rw [hk] at hS'
        rcases List.mem_append.mp hS' with z | z
        · exact c6 S' z j hj
        · rw [List.mem_singleton.mp z]
          exact e6 j (by omega)
    · rintro σ H' ⟨v, v2, kvs, Ts, rfl, s5, h5, held, l5, c5⟩
      rw [List.length_map, hb2, List.take_length] at *
      refine ⟨_, rfl, d, kvs, rfl, .inl h5, fun q cs hq ik => ?_⟩
      obtain ⟨i1, i2⟩ := pairedAt ik
      refine k _ q Ts (s5.upd hq) (s5.free hq) ⟨cs, upd_same, by rw [← i1, held.length], fun i b S hb hS => ?_⟩ l5 held.len c5
      have il : i < kvs.length := by rw [held.length]; exact (List.getElem?_eq_some_iff.mp hS).1
      obtain ⟨kv, hkv⟩ := at_some il
      have z := i2 i kv b hkv hb
      have e : kv.1 = keyL S := by
        have := congrArg (fun l => l[i]?) held.keys
        simp only [List.getElem?_map, hkv, hS, Option.map_some, Option.some.injEq] at this
        exact this
      rw [e, keyL_V] at z
      exact IsT.same z (Same.new hq)
end
end Ic

namespace Ic
open PySem PySem.Spec PyProof.Rows L2
local macro_rules | `(tactic| walk_at "rd") => `(tactic| dsimp only [tSeq, tAsg, tRet, tIfS, tTest, tOp, tUn, tVar, tC, tLst, tTup, tCons, tNil, tCB, tBM, tBM0, tCall, gName, gSub, tNext, tDrop, tDNewT, tDGet, sDPut, cxOf, Cx.nox])
/-! ### what standings_ahead gives -/
structure Ahead (S T : List Nat) (SS : List (List (List Nat))) : Prop where
  len : SS.length = T.length + 1
  first : SS[0]? = some [S]
  next : ∀ (i t : Nat) (X Y : List (List Nat)), T[i]? = some t → SS[i]? = some X → SS[i + 1]? = some Y → ∀ R ∈ X, ∀ j, j < S.length → R.set j t ∈ Y
  size : ∀ X ∈ SS, ∀ R ∈ X, R.length = S.length
  few : ∀ (i : Nat) (X : List (List Nat)), SS[i]? = some X → X.length ≤ 3 ^ i
theorem ahead_one (S : List Nat) : Ahead S [] [[S]] := ⟨rfl, rfl, fun i t X Y h => by simp at h, fun X hX R hR => by rw [List.mem_singleton] at hX; rw [hX, List.mem_singleton] at hR; rw [hR], fun i X h => by
  cases i with
  | zero => rw [← Option.some.inj h]; exact Nat.le_refl _
  | succ i => simp at h⟩
theorem Ahead.more {S T : List Nat} {SS : List (List (List Nat))} {X Y : List (List Nat)} {t : Nat} (h : Ahead S T SS) (hX : SS[T.length]? = some X) (hl : Y.length ≤ 3 * X.length) (hs : ∀ R ∈ Y, R.length = S.length) (hn : ∀ R ∈ X, ∀ j, j < S.length → R.set j t ∈ Y) :
    Ahead S (T ++ [t]) (SS ++ [Y]) := by
  have hlen := h.len
  refine ⟨by rw [List.length_append, List.length_append, hlen]; rfl, ?_, fun i u X' Y' hu hX' hY' => ?_, fun Z hZ => ?_, fun i Z hZ => ?_⟩
  · rw [List.getElem?_append_left (by omega)]; exact h.first
  · by_cases c : i < T.length
    · rw [List.getElem?_append_left c] at hu
      rw [List.getElem?_append_left (by omega)] at hX'
      rw [List.getElem?_append_left (by omega)] at hY'
      exact h.next i u X' Y' hu hX' hY'
    · have il : i = T.length := by
        have := (List.getElem?_eq_some_iff.mp hu).1
        rw [List.length_append, List.length_singleton] at this
        omega
      subst il
      rw [List.getElem?_append_right (Nat.le_refl _), Nat.sub_self] at hu
      have eu : t = u := Option.some.inj hu
      rw [List.getElem?_append_left (by omega), hX] at hX'
      have eX : X = X' := Option.some.inj hX'
      rw [List.getElem?_append_right (by omega), show T.length + 1 - SS.length = 0 by omega] at hY'
      have eY : Y = Y' := Option.some.inj hY'
      subst eu eX eY
      exact hn
  · rcases List.mem_append.mp hZ with c | c
    · exact h.size Z c
    · rw [List.mem_singleton.mp c]; exact hs
  · by_cases c : i < SS.length
    · rw [List.getElem?_append_left c] at hZ
      exact h.few i Z hZ
    · rw [List.getElem?_append_right (by omega)] at hZ
      have il : i - SS.length = 0 := by
        have := (List.getElem?_eq_some_iff.mp hZ).1
        rw [List.length_singleton] at this
        omega
      rw [il] at hZ
      have eZ : Y = Z := Option.some.inj hZ
      rw [← eZ]
      have := h.few T.length X hX
      rw [show i = T.length + 1 by omega, Nat.pow_succ]
      omega
/-- at r: a list of lists of standings -/
def Stands (H : Hp) (r : Addr) (SS : List (List (List Nat))) : Prop := ∃ qs : List Addr, H r = some (.lst (qs.map V.ref)) ∧ qs.length = SS.length ∧ ∀ (i : Nat) (q : Addr) (X : List (List Nat)), qs[i]? = some q → SS[i]? = some X → Stand H q X
theorem Stands.same {H H' : Hp} {r : Addr} {SS : List (List (List Nat))} (h : Stands H r SS) (s : Same H H') : Stands H' r SS := by
  obtain ⟨qs, h1, h2, h3⟩ := h
  exact ⟨qs, s _ _ h1, h2, fun i q X hq hX => (h3 i q X hq hX).same s⟩
/-- at r: a table of the costs f of these standings -/
def Costs (H : Hp) (r : Addr) (X : List (List Nat)) (f : List Nat → Nat) : Prop := ∃ kvs : List (List Key × V), H r = some (.dT kvs) ∧ ∀ R ∈ X, valV kvs (keyL R) = some (.int (f R : Nat))
theorem Costs.same {H H' : Hp} {r : Addr} {X : List (List Nat)} {f : List Nat → Nat} (h : Costs H r X f) (s : Same H H') : Costs H' r X f := by
  obtain ⟨kvs, h1, h2⟩ := h
  exact ⟨kvs, s _ _ h1, h2⟩
def spAhead : Sp := fun vs H Q _ => ∃ (a b : Addr) (S T : List Nat), vs = [.ref a, .ref b] ∧ IsL H a S ∧ IsL H b T ∧ S.length ≤ 3 ∧ T.length ≤ 9 ∧ ∀ (H' : Hp) (r : Addr) (SS : List (List (List Nat))), Same H H' → H r = none → Stands H' r SS → Ahead S T SS → Q (.ref r) H'
def spChoice : Sp := fun vs H Q _ => ∃ (p c : Addr) (R : List Nat) (t : Nat) (X : List (List Nat)) (f : List Nat → Nat), vs = [.ref p, .int (t : Nat), .ref c] ∧ IsT H p R ∧ R.length ≤ 3 ∧ Costs H c X f ∧ (∀ j, j < R.length → R.set j t ∈ X) ∧ Ret H Q (choices R t f)
def spCosts : Sp := fun vs H Q _ => ∃ (p c : Addr) (W X : List (List Nat)) (t k : Nat) (f : List Nat → Nat), vs = [.ref p, .int (t : Nat), .ref c] ∧ Stand H p W ∧ W.length ≤ 100000 ∧ (∀ R ∈ W, R.length = k) ∧ 0 < k ∧ k ≤ 3 ∧ Costs H c X f ∧ (∀ R ∈ W, ∀ j, j < k → R.set j t ∈ X) ∧
  ∀ (H' : Hp) (r : Addr), Same H H' → H r = none → Costs H' r W (fun R => minL (choices R t f)) → Q (.ref r) H'
theorem sc_ahead : FnScope ["starts", "targets", "found", "target"] ["starts", "targets"] (defScope (top 42)) := ⟨rfl, rfl, rfl, by decide +kernel, rfl, by decide +kernel, by decide +kernel⟩
theorem sc_choice : FnScope ["standing", "target", "costs", "found", "number", "rest"] ["standing", "target", "costs"] (defScope (top 43)) := ⟨rfl, rfl, rfl, by decide +kernel, rfl, by decide +kernel, by decide +kernel⟩
theorem sc_costs : FnScope ["standings", "target", "costs", "found", "standing"] ["standings", "target", "costs"] (defScope (top 44)) := ⟨rfl, rfl, rfl, by decide +kernel, rfl, by decide +kernel, by decide +kernel⟩
theorem nV_sum (a b : Nat) : nV [a + b] = [V.int ((a : Nat) + (b : Nat) : Int)] := by
  show [V.int ((a + b : Nat) : Int)] = _
  rw [Int.natCast_add]
theorem pow9 {i : Nat} (h : i ≤ 9) : 3 ^ i ≤ 19683 := Nat.pow_le_pow_right (by decide) h
theorem last_of {α : Type} {l : List α} {n : Nat} (h : l.length = n + 1) : ∃ m x, l = m ++ [x] ∧ l[n]? = some x := by
  have hn : l ≠ [] := fun e => by rw [e] at h; cases h
  refine ⟨l.dropLast, l.getLast hn, (List.dropLast_concat_getLast hn).symm, ?_⟩
  rw [show n = l.length - 1 by omega, ← List.getLast?_eq_getElem?, List.getLast?_eq_some_getLast hn]
section
variable {P : Program} {w : World} {K : PySem.W.Frag} {mg : Str → Option Value} {base : Heap}
theorem ok_ahead (A : At K mg "standings_ahead" (top 42)) (B : Bl mg) (cN : Cal P w K mg base CX0 3 "next_standings" spNext) : Cal P w K mg base CX0 4 "standings_ahead" spAhead := by
  refine cal0 A sc_ahead (fun vs H Q E h => ?_) (fun _ _ _ _ _ _ us hl => match us, hl with | [_, _], _ => rfl) (fun f cdv A outer s H vs Q E hr h => ?_)
  · obtain ⟨a, b, S, T, rfl, _⟩ := h; rfl
  · refine ⟨_, pss_cons (ps_set (i := 2) sc_ahead.nd rfl (Or.inl rfl) (pe_lst (pa_cons (pe_lst (pa_cons (pe_callTy call_tuple_of (by rfl) B.tuple (by decide +kernel) (pa_cons (pv 0) pa_nil)) pa_nil)) pa_nil)))
      (pss_cons (ps_for PassesOwn.never rfl (pi_list (pv 1)) (pg_name (i := 3) sc_ahead.nd rfl (Or.inl rfl))
        (pss_one (ps_expr (pe_bm PySem.F.plainAttrs_list PySem.F.slot_list_append PySem.F.type_list_append mt_append (pv 2) (pa_cons (pe_c cN hr (pa_cons (pe_ix ix_list (pv 2) (pe_un un_neg pe_int) (fun _ _ => rfl)) (pa_cons (pv 3) pa_nil))) pa_nil)))))
      (pss_one (ps_ret (pv 2)))), ?_⟩
    obtain ⟨a, b, S, T, rfl, ha, hb, hS, hT, k⟩ := h
    walk_at "rd"
    refine ⟨_, rfl, a, _, rfl, .inl ⟨ha.seq, fun x hx => ?_⟩⟩
    refine ⟨one_le, fun y hy => ⟨one_le, fun z hz => ?_⟩⟩
    have s1 : Same H (upd H x (.tup (nV S))) := Same.new hx
    have s2 : Same H (upd (upd H x (.tup (nV S))) y (.lst [.ref x])) := s1.upd hy
    have hzn : H z = none := s2.free hz
    have hyz : y ≠ z := ne_of_none upd_same hz
    refine ⟨_, rfl, b, rfl, ⟨_, (hb.same (s2.upd hz)).seq⟩, for_list (K := K) (a := b) (xs := nV T) (fun i σ H' => ∃ (v : Option V) (SS : List (List (List Nat))), σ = [some (.ref a), some (.ref b), some (.ref z), v] ∧ Same H H' ∧ Ahead S (T.take i) SS ∧ ∃ qs : List Addr, H' z = some (.lst (qs.map V.ref)) ∧ qs.length = SS.length ∧ ∀ (j : Nat) (q : Addr) (X : List (List Nat)), qs[j]? = some q → SS[j]? = some X → q ≠ z ∧ Stand H' q X ∧ ∀ bs : List Addr, H' q = some (.lst (bs.map V.ref)) → ∀ c ∈ bs, c ≠ z)
      ⟨none, [[S]], rfl, s2.upd hz, ahead_one S, [y], upd_same, rfl, ?_⟩ (fun i σ H' _ ⟨_, _, _, s5, _⟩ => (hb.same s5).seq) ?_ ?_⟩
    · intro j q X hq hX
      cases j with
      | succ j => simp at hq
      | zero =>
        have eq : y = q := Option.some.inj hq
        have eX : [S] = X := Option.some.inj hX
        subst eq eX
        have hxz : x ≠ z := by
          have : upd (upd H x (.tup (nV S))) y (.lst [.ref x]) x = some (.tup (nV S)) := by rw [upd_ne (ne_of_none upd_same hy)]; exact upd_same
          exact ne_of_none this hz
        refine ⟨hyz, ⟨[x], by rw [upd_ne hyz]; exact upd_same, rfl, fun i b S' hb' hS' => ?_⟩, fun bs hbs c hc => ?_⟩
        · cases i with
          | succ i => simp at hb'
          | zero =>
            have e1 : x = b := Option.some.inj hb'
            have e2 : S = S' := Option.some.inj hS'
            subst e1 e2
            show upd _ _ _ _ = _
            rw [upd_ne hxz, upd_ne (ne_of_none upd_same hy)]
            exact upd_same
        · rw [upd_ne hyz, upd_same] at hbs
          have e3 : [x] = bs := by
            have e4 : [V.ref x] = bs.map V.ref := HO.lst.inj (Option.some.inj hbs)
            cases bs with
            | nil => cases e4
            | cons b1 r =>
              cases r with
              | nil => rw [V.ref.inj (List.cons.inj e4).1]
              | cons _ _ => cases e4
          rw [← e3, List.mem_singleton] at hc
          rw [hc]; exact hxz
    · rintro i x' σ H' hi ⟨v, SS, rfl, s5, ah, qs, g1, g2, g3⟩
      obtain ⟨t, ht, rfl⟩ := of_nV hi
      have il : i < T.length := (List.getElem?_eq_some_iff.mp ht).1
      have tl : (T.take i).length = i := by rw [List.length_take]; omega
      have hlen := ah.len
      rw [tl] at hlen
      obtain ⟨qm, q, eq, hq⟩ := last_of (n := i) (by rw [g2, hlen])
      obtain ⟨X, hX⟩ := at_some (l := SS) (i := i) (by omega)
      obtain ⟨n1, st, _⟩ := g3 i q X hq hX
      have few := ah.few i X hX
      have p9 := pow9 (show i ≤ 9 by omega)
      refine ⟨_, rfl, .inl ⟨rfl, _, SqL.of g1⟩, _, rfl, 1, rfl, z, _, _, .ref q, rfl, rfl, SqL.of g1, ?_, _, rfl, q, X, t, S.length, rfl, st, fun R hR => ah.size X (List.mem_of_getElem? hX) R hR, hS, by omega, fun H1 q1 Y s1 n1' st1 l1 z1 c1 => ?_⟩
      · rw [eq, List.map_append]
        exact atI_last _ _
      · refine ⟨z, _, _, rfl, rfl, s1 _ _ g1, ?_, ?_⟩
        · rw [List.length_map, g2, hlen]
          exact sizedL (m := 10) (by omega)
        · have hq1z : q1 ≠ z := (ne_of_none g1 n1').symm
          rw [take_get ht]
          refine ⟨_, SS ++ [Y], rfl, (s5.trans s1).again hzn, ah.more (by rw [tl]; exact hX) l1 z1 c1, qs ++ [q1], ?_, by rw [List.length_append, List.length_append, g2]; rfl, fun j r Z hr' hZ => ?_⟩
          · rw [upd_same, List.map_append]; rfl
          · have carry : ∀ {r : Addr} {Z : List (List Nat)}, r ≠ z → Stand H1 r Z → (∀ bs : List Addr, H1 r = some (.lst (bs.map V.ref)) → ∀ c ∈ bs, c ≠ z) → r ≠ z ∧ Stand (upd H1 z (.lst (qs.map V.ref ++ [V.ref q1]))) r Z ∧ ∀ bs : List Addr, upd H1 z (.lst (qs.map V.ref ++ [V.ref q1])) r = some (.lst (bs.map V.ref)) → ∀ c ∈ bs, c ≠ z := by
              intro r Z hrz sr cr
              obtain ⟨bs, b1, b2, b3⟩ := sr
              refine ⟨hrz, ⟨bs, by rw [upd_ne hrz]; exact b1, b2, fun i b S' hb' hS' => ?_⟩, fun bs' hbs' => ?_⟩
              · have hbz := cr bs b1 b (List.mem_of_getElem? hb')
                show upd _ _ _ _ = _
                rw [upd_ne hbz]
                exact b3 i b S' hb' hS'
              · rw [upd_ne hrz] at hbs'
                exact cr bs' hbs'
            by_cases c : j < qs.length
            · rw [List.getElem?_append_left c] at hr'
              rw [List.getElem?_append_left (by omega)] at hZ
              obtain ⟨n2, st2, c2⟩ := g3 j r Z hr' hZ
              refine carry n2 (st2.same s1) fun bs hbs c hc => ?_
              obtain ⟨bs2, e1, e2, e3⟩ := st2
              have := s1 _ _ e1
              rw [this] at hbs
              have ebs : bs2.map V.ref = bs.map V.ref := HO.lst.inj (Option.some.inj hbs)
              exact c2 bs (by rw [e1, ebs]) c hc
            · have jl : j - qs.length = 0 := by
                rw [List.getElem?_append_right (by omega)] at hr'
                have := (List.getElem?_eq_some_iff.mp hr').1
                rw [List.length_singleton] at this
                omega
              rw [List.getElem?_append_right (by omega), jl] at hr'
              rw [List.getElem?_append_right (by omega), show j - SS.length = 0 by omega] at hZ
              have e1 : q1 = r := Option.some.inj hr'
              have e2 : Y = Z := Option.some.inj hZ
              subst e1 e2
              refine carry hq1z st1 fun bs hbs c hc => ?_
              obtain ⟨bs2, e1, e2, e3⟩ := st1
              rw [e1] at hbs
              have ebs : bs2.map V.ref = bs.map V.ref := HO.lst.inj (Option.some.inj hbs)
              have ec : c ∈ bs2 := by
                have m1 : V.ref c ∈ bs2.map V.ref := by rw [ebs]; exact List.mem_map.mpr ⟨c, hc, rfl⟩
                obtain ⟨c', hc', e⟩ := List.mem_map.mp m1
                rw [← V.ref.inj e]; exact hc'
              obtain ⟨j', hj', ej'⟩ := List.mem_iff_getElem.mp ec
              obtain ⟨S', hS'⟩ := at_some (l := Y) (i := j') (by omega)
              have hT := e3 j' c S' (by rw [List.getElem?_eq_getElem hj', ej']) hS'
              exact ne_of hT (s1 _ _ g1) (fun z => by cases z)
    · rintro σ H' ⟨v, SS, rfl, s5, ah, qs, g1, g2, g3⟩
      rw [nV_length, List.take_length] at ah
      exact ⟨_, rfl, k H' z SS s5 hzn ⟨qs, g1, g2, fun i q X hq hX => (g3 i q X hq hX).2.1⟩ ah⟩
theorem ok_choice (A : At K mg "choice_costs" (top 43)) (B : Bl mg) (cA : Cal P w K mg base CX0 2 "after" spAfter) (cD : Cal P w K mg base CX0 1 "distance" spDist) : Cal P w K mg base CX0 3 "choice_costs" spChoice := by
  refine cal0 A sc_choice (fun vs H Q E h => ?_) (fun _ _ _ _ _ _ us hl => match us, hl with | [_, _, _], _ => rfl) (fun f cdv A outer s H vs Q E hr h => ?_)
  · obtain ⟨p, c, R, t, X, f, rfl, _⟩ := h; rfl
  · refine ⟨_, pss_cons (ps_set (i := 3) sc_choice.nd rfl (Or.inl rfl) (pe_lst pa_nil))
      (pss_cons (ps_for PassesOwn.never rfl (pi_range1 rfl B.range (pa_cons (pe_callB call_len_seq (by rfl) B.len PySem.boot_len (pa_cons (pv 0) pa_nil)) pa_nil)) (pg_name (i := 4) sc_choice.nd rfl (Or.inl rfl))
        (pss_cons (ps_set (i := 5) sc_choice.nd rfl (Or.inl rfl) (pe_dget (hu_of hr) (pv 2) (pe_c cA hr (pa_cons (pv 0) (pa_cons (pv 4) (pa_cons (pv 1) pa_nil)))) (fun _ _ => rfl)))
        (pss_one (ps_expr (pe_bm PySem.F.plainAttrs_list PySem.F.slot_list_append PySem.F.type_list_append mt_append (pv 3) (pa_cons (pe_op op_add (pe_c cD hr (pa_cons (pe_ix ix_tup (pv 0) (pv 4) (fun _ _ => rfl)) (pa_cons (pv 1) pa_nil))) (pv 5)) pa_nil))))))
      (pss_one (ps_ret (pv 3)))), ?_⟩
    obtain ⟨p, c, R, t, X, g, rfl, hp, hR, hc, hX, k⟩ := h
    walk_at "rd"
    have nl := nV_length R
    refine ⟨Nat.zero_le _, fun d hd => ?_⟩
    refine ⟨_, rfl, p, _, rfl, .inr (hp.same (Same.new hd)).seq, _, rfl, by omega, by omega, for_range (lo := 0) (fun i σ H' => ∃ v v2 : Option V, σ = [some (.ref p), some (.int (t : Nat)), some (.ref c), some (.ref d), v, v2] ∧ Same H H' ∧ IsL H' d ((choices R t g).take i)) ⟨none, none, rfl, Same.new hd, upd_same⟩ ?_ ?_⟩
    · rintro i σ H' hi ⟨v, v2, rfl, s5, h5⟩
      have il : i < R.length := by omega
      refine ⟨_, rfl, _, rfl, _, rfl, _, rfl, p, R, i, t, ?_, hp.same s5, il, fun H1 q1 s1 n1 h1 => ?_⟩
      · rw [Int.zero_add]; rfl
      · obtain ⟨kvs, c1, c2⟩ := hc.same (s5.trans s1)
        have dg := DGet.t c1 h1.key
        rw [c2 _ (hX i il)] at dg
        refine ⟨c, _, rfl, dg, ?_⟩
        refine ⟨_, rfl, .inl ⟨rfl, _, (h5.same s1).seq⟩, _, rfl, _, rfl, p, _, _, _, rfl, rfl, (hp.same (s5.trans s1)).seq, at0 il, _, rfl, _, t, rfl, _, rfl, _, _, rfl, rfl, ?_⟩
        refine ⟨d, _, _, rfl, rfl, h5.same s1, ?_, ?_⟩
        · rw [nV_length, List.length_take, choices_length]
          exact sizedL (m := 3) (by omega)
        · refine ⟨_, _, rfl, (s5.trans s1).again hd, ?_⟩
          show upd _ _ _ _ = _
          rw [upd_same, take_get (choices_get il), nV_app, nV_sum]
    · rintro σ H' ⟨v, v2, rfl, s5, h5⟩
      rw [show (((nV R).length : Nat) : Int).toNat = (choices R t g).length by rw [choices_length]; omega, List.take_length] at h5
      exact ⟨_, rfl, k H' d s5 hd h5⟩
theorem ok_costs (A : At K mg "costs_ahead" (top 44)) (B : Bl mg) (cC : Cal P w K mg base CX0 3 "choice_costs" spChoice) : Cal P w K mg base CX0 4 "costs_ahead" spCosts := by
  refine cal0 A sc_costs (fun vs H Q E h => ?_) (fun _ _ _ _ _ _ us hl => match us, hl with | [_, _, _], _ => rfl) (fun f cdv A outer s H vs Q E hr h => ?_)
  · obtain ⟨p, c, Ws, X, t, k, f, rfl, _⟩ := h; rfl
  · refine ⟨_, pss_cons (ps_set (i := 3) sc_costs.nd rfl (Or.inl rfl) pe_dnewT)
      (pss_cons (ps_for PassesOwn.never rfl (pi_list (pv 0)) (pg_name (i := 4) sc_costs.nd rfl (Or.inl rfl))
        (pss_one (ps_dput (hu_of hr) (pv 3) (pv 4) (pe_callB (cr_min rfl) (by rfl) B.min (by decide +kernel) (pa_cons (pe_c cC hr (pa_cons (pv 4) (pa_cons (pv 1) (pa_cons (pv 2) pa_nil)))) pa_nil)) rfl)))
      (pss_one (ps_ret (pv 3)))), ?_⟩
    obtain ⟨p, c, Ws, X, t, m, g, rfl, hp, hz, hm, hm0, hm3, hc, hX, k⟩ := h
    obtain ⟨bs, hb1, hb2, hb3⟩ := hp
    walk_at "rd"
    refine fun d hd => ?_
    refine ⟨_, rfl, p, rfl, ⟨_, SqL.of (Same.new hd _ _ hb1)⟩, for_list (K := K) (a := p) (xs := bs.map V.ref) (fun i σ H' => ∃ (v : Option V) (kvs : List (List Key × V)), σ = [some (.ref p), some (.int (t : Nat)), some (.ref c), some (.ref d), v] ∧ Same H H' ∧ H' d = some (.dT kvs) ∧ kvs.length ≤ i ∧ ∀ R ∈ Ws.take i, valV kvs (keyL R) = some (.int (minL (choices R t g) : Nat)))
      ⟨none, [], rfl, Same.new hd, upd_same, Nat.zero_le _, fun _ z => nomatch z⟩ (fun i σ H' _ ⟨_, _, _, s5, _⟩ => SqL.of (s5 _ _ hb1)) ?_ ?_⟩
    · rintro i x σ H' hi ⟨v, kvs, rfl, s5, h5, l5, c5⟩
      obtain ⟨b, hb, rfl⟩ := ref_at hi
      have il : i < Ws.length := by
        rw [← hb2]; exact (List.getElem?_eq_some_iff.mp hb).1
      obtain ⟨R, hR⟩ := at_some il
      have hT := hb3 i b R hb hR
      have hRm : R.length = m := hm R (List.mem_of_getElem? hR)
      have hk : Ws.take (i + 1) = Ws.take i ++ [R] := by rw [List.take_add_one, hR]; rfl
      have hRn : R ≠ [] := fun e => by rw [e] at hRm; simp at hRm; omega
      refine ⟨_, rfl, _, rfl, _, rfl, b, c, R, t, X, g, rfl, hT.same s5, by omega, hc.same s5, fun j hj => hX R (List.mem_of_getElem? hR) j (by omega), fun H1 q1 s1 n1 h1 => ?_⟩
      walk_at "rd"
      refine rd_min h1 (choices_ne hRn t g) ?_
      refine ⟨_, rfl, _, rfl, d, _, rfl, DPut.t (s1 _ _ h5) (hT.same (s5.trans s1)).key (sizedL (m := 100000) (by omega)), ?_⟩
      refine ⟨_, _, rfl, (s5.trans s1).again hd, upd_same, Nat.le_trans (length_putK _ _ _) (by omega), fun R' hR' => ?_⟩
      rw [valV_put]
      by_cases e : keyL R' = keyL R
      · rw [if_pos e, keyL_inj e]
      · rw [if_neg e]
        rw [hk] at hR'
        rcases List.mem_append.mp hR' with z | z
        · exact c5 R' z
        · exact absurd (by rw [List.mem_singleton.mp z]) e
    · rintro σ H' ⟨v, kvs, rfl, s5, h5, l5, c5⟩
      rw [List.length_map, hb2, List.take_length] at c5
      exact ⟨_, rfl, k H' d s5 hd ⟨kvs, h5, c5⟩⟩
end
end Ic

namespace Ic
open PySem PySem.Spec PyProof.Rows L2
local macro_rules | `(tactic| walk_at "rd") => `(tactic| dsimp only [tSeq, tAsg, tRet, tIfS, tTest, tOp, tUn, tVar, tC, tLst, tTup, tCons, tNil, tCB, tBM, tBM0, tCall, gName, gSub, tNext, tDrop, tDNewT, tDGet, sDPut, cxOf, Cx.nox])
theorem C_nil (R : List Nat) : C R [] = 0 := by cases R <;> rfl
theorem drop_at {T : List Nat} {i t : Nat} (h : T[i]? = some t) : T.drop i = t :: T.drop (i + 1) := by
  obtain ⟨h1, h2⟩ := List.getElem?_eq_some_iff.mp h
  rw [List.drop_eq_getElem_cons h1, h2]
/-! the plan, step by step -/
def stAt : List Nat → List Nat → Nat → List Nat
  | S, _, 0 => S
  | S, [], _ + 1 => S
  | S, t :: ts, i + 1 => stAt (S.set (pick S t ts) t) ts i
theorem stAt_zero (S T : List Nat) : stAt S T 0 = S := by cases T <;> rfl
theorem stAt_more : ∀ (T S : List Nat) (i t : Nat), T[i]? = some t → stAt S T (i + 1) = (stAt S T i).set (pick (stAt S T i) t (T.drop (i + 1))) t
  | [], _, _, _, h => by simp at h
  | u :: T, S, 0, t, h => by
    have e : u = t := Option.some.inj h
    subst e
    show stAt (S.set (pick S u T) u) T 0 = (stAt S (u :: T) 0).set (pick (stAt S (u :: T) 0) u T) u
    rw [stAt_zero, stAt_zero]
  | u :: T, S, i + 1, t, h => stAt_more T _ i t h
theorem plan_at : ∀ (T S : List Nat) (i t : Nat), T[i]? = some t → (plan S T)[i]? = some (pick (stAt S T i) t (T.drop (i + 1)))
  | [], _, _, _, h => by simp at h
  | u :: T, S, 0, t, h => by
    have e : u = t := Option.some.inj h
    subst e
    rw [plan_cons, stAt_zero]; rfl
  | u :: T, S, i + 1, t, h => by
    rw [plan_cons]
    exact plan_at T _ i t h
theorem plan_length : ∀ (T S : List Nat), (plan S T).length = T.length
  | [], _ => rfl
  | t :: T, S => by rw [plan_cons, List.length_cons, plan_length T, List.length_cons]
theorem min_place {l : List Nat} {j : Nat} (h1 : l[j]? = some (minL l)) (h2 : ∀ i, i < j → l[i]? ≠ some (minL l)) : MinAt l j := ⟨h1, h2⟩
def spAll : Sp := fun vs H Q _ => ∃ (a b : Addr) (S T : List Nat), vs = [.ref a, .ref b] ∧ IsL H a S ∧ IsL H b T ∧ S ≠ [] ∧ S.length ≤ 3 ∧ T.length ≤ 9 ∧
  ∀ (H' : Hp) (r : Addr) (SS : List (List (List Nat))) (cs : List Addr), Same H H' → H r = none → Ahead S T SS → H' r = some (.lst (cs.map V.ref)) → cs.length = T.length + 1 → (∀ (i : Nat) (c : Addr) (X : List (List Nat)), cs[i]? = some c → SS[i]? = some X → Costs H' c X (fun R => C R (T.drop i))) → Q (.ref r) H'
theorem sc_all : FnScope ["starts", "targets", "standings", "costs", "standing", "found", "place"] ["starts", "targets"] (defScope (top 45)) := ⟨rfl, rfl, rfl, by decide +kernel, rfl, by decide +kernel, by decide +kernel⟩
theorem sc_opt : FnScope ["starts", "targets"] ["starts", "targets"] (defScope (top 46)) := ⟨rfl, rfl, rfl, by decide +kernel, rfl, by decide +kernel, by decide +kernel⟩
theorem sc_plan : FnScope ["starts", "targets", "costs", "standing", "plan", "place", "choices", "number"] ["starts", "targets"] (defScope (top 47)) := ⟨rfl, rfl, rfl, by decide +kernel, rfl, by decide +kernel, by decide +kernel⟩
section
variable {P : Program} {w : World} {K : PySem.W.Frag} {mg : Str → Option Value} {base : Heap}
theorem ok_all (A : At K mg "all_costs" (top 45)) (B : Bl mg) (cS : Cal P w K mg base CX0 4 "standings_ahead" spAhead) (cC : Cal P w K mg base CX0 4 "costs_ahead" spCosts) : Cal P w K mg base CX0 5 "all_costs" spAll := by
  refine cal0 A sc_all (fun vs H Q E h => ?_) (fun _ _ _ _ _ _ us hl => match us, hl with | [_, _], _ => rfl) (fun f cdv A outer s H vs Q E hr h => ?_)
  · obtain ⟨a, b, S, T, rfl, _⟩ := h; rfl
  · refine ⟨_, pss_cons (ps_set (i := 2) sc_all.nd rfl (Or.inl rfl) (pe_c cS hr (pa_cons (pv 0) (pa_cons (pv 1) pa_nil))))
      (pss_cons (ps_set (i := 3) sc_all.nd rfl (Or.inl rfl) pe_dnewT)
      (pss_cons (ps_for PassesOwn.never rfl (pi_list (pe_ix ix_list (pv 2) (pe_un un_neg pe_int) (fun _ _ => rfl))) (pg_name (i := 4) sc_all.nd rfl (Or.inl rfl))
        (pss_one (ps_dput (hu_of hr) (pv 3) (pv 4) pe_int rfl)))
      (pss_cons (ps_set (i := 5) sc_all.nd rfl (Or.inl rfl) (pe_lst (pa_cons (pv 3) pa_nil)))
      (pss_cons (ps_for PassesOwn.never rfl (pi_revR (by rfl) B.reversed (prg_1 (by rfl) B.range (pe_callB call_len_seq (by rfl) B.len PySem.boot_len (pa_cons (pv 1) pa_nil)))) (pg_name (i := 6) sc_all.nd rfl (Or.inl rfl))
        (pss_cons (ps_set (i := 3) sc_all.nd rfl (Or.inl rfl) (pe_c cC hr (pa_cons (pe_ix ix_list (pv 2) (pv 6) (fun _ _ => rfl)) (pa_cons (pe_ix ix_list (pv 1) (pv 6) (fun _ _ => rfl)) (pa_cons (pv 3) pa_nil)))))
        (pss_one (ps_expr (pe_bm PySem.F.plainAttrs_list PySem.F.slot_list_append PySem.F.type_list_append mt_append (pv 5) (pa_cons (pv 3) pa_nil))))))
      (pss_one (ps_ret (pe_revL (pv 5)))))))), ?_⟩
    obtain ⟨a, b, S, T, rfl, ha, hb, hne, hS, hT, k⟩ := h
    walk_at "rd"
    refine ⟨_, rfl, _, rfl, a, b, S, T, rfl, ha, hb, hS, hT, fun H1 r1 SS s1 n1 st1 ah => ?_⟩
    obtain ⟨qs, g1, g2, g3⟩ := st1
    have hSp : 0 < S.length := List.length_pos_iff.mpr hne
    obtain ⟨qm, q, eq, hq⟩ := last_of (n := T.length) (by rw [g2, ah.len])
    obtain ⟨X, hX⟩ := at_some (l := SS) (i := T.length) (by rw [ah.len]; omega)
    have stX := g3 T.length q X hq hX
    have fewX := ah.few T.length X hX
    have p9 := pow9 hT
    obtain ⟨bs, b1, b2, b3⟩ := stX
    refine fun d hd => ?_
    have sd : Same H1 (upd H1 d (.dT [])) := Same.new hd
    have atq : atI (qs.map V.ref) (-1) = some (.ref q) := by rw [eq, List.map_append]; exact atI_last _ _
    refine ⟨_, rfl, 1, rfl, r1, _, _, .ref q, rfl, rfl, SqL.of (sd _ _ g1), atq, q, rfl, ⟨_, SqL.of (sd _ _ b1)⟩, for_list (K := K) (a := q) (xs := bs.map V.ref) (fun i σ H' => ∃ (v : Option V) (kvs : List (List Key × V)), σ = [some (.ref a), some (.ref b), some (.ref r1), some (.ref d), v, none, none] ∧ Same H1 H' ∧ H' d = some (.dT kvs) ∧ kvs.length ≤ i ∧ ∀ R ∈ X.take i, valV kvs (keyL R) = some (.int (0 : Nat)))
      ⟨none, [], rfl, sd, upd_same, Nat.zero_le _, fun _ z => nomatch z⟩ (fun i σ H' _ ⟨_, _, _, s5, _⟩ => SqL.of (s5 _ _ b1)) ?_ ?_⟩
    · rintro i x σ H' hi ⟨v, kvs, rfl, s5, h5, l5, c5⟩
      obtain ⟨b', hb', rfl⟩ := ref_at hi
      have il : i < X.length := by
        rw [← b2]; exact (List.getElem?_eq_some_iff.mp hb').1
      obtain ⟨R, hR⟩ := at_some il
      have hTt := b3 i b' R hb' hR
      have hk : X.take (i + 1) = X.take i ++ [R] := by rw [List.take_add_one, hR]; rfl
      refine ⟨_, rfl, _, rfl, d, _, rfl, DPut.t h5 (hTt.same s5).key (sizedL (m := 19683) (by omega)), ?_⟩
      refine ⟨_, _, rfl, s5.again hd, upd_same, Nat.le_trans (length_putK _ _ _) (by omega), fun R' hR' => ?_⟩
      rw [valV_put]
      by_cases e : keyL R' = keyL R
      · rw [if_pos e]; rfl
      · rw [if_neg e]
        rw [hk] at hR'
        rcases List.mem_append.mp hR' with z | z
        · exact c5 R' z
        · exact absurd (by rw [List.mem_singleton.mp z]) e
    · rintro σ H2 ⟨v, kvs, rfl, s5, h5, l5, c5⟩
      rw [List.length_map, b2, List.take_length] at c5
      have c0 : Costs H2 d X (fun R => C R (T.drop T.length)) := ⟨kvs, h5, fun R hR => by
        rw [List.drop_length]
        show _ = some (V.int ((C R [] : Nat) : Int))
        rw [C_nil]
        exact c5 R hR⟩
      refine ⟨_, rfl, one_le, fun z hz => ?_⟩
      have s12 : Same H H2 := s1.trans s5
      have hzn : H z = none := s12.free hz
      have sz : Same H2 (upd H2 z (.lst [.ref d])) := Same.new hz
      refine ⟨_, rfl, b, _, rfl, .inl (hb.same (s12.trans sz)).seq, _, rfl, by decide, by decide, by omega, ?_, ?_⟩
      · rw [nV_length]; omega
      refine for_rangeC (Pv := fun m σ H' => ∃ (v vp : Option V) (cl : Addr) (ds : List Addr), σ = [some (.ref a), some (.ref b), some (.ref r1), some (.ref cl), v, some (.ref z), vp] ∧ Same H1 H' ∧ H' z = some (.lst (ds.map V.ref)) ∧ ds.length = m + 1 ∧ ds[m]? = some cl ∧ ∀ (j : Nat) (c : Addr) (Y : List (List Nat)), ds[j]? = some c → SS[T.length - j]? = some Y → Costs H' c Y (fun R => C R (T.drop (T.length - j)))) ?_ ?_ ?_
      · refine ⟨v, none, d, [d], rfl, s5.trans sz, upd_same, rfl, rfl, fun j c Y hc hY => ?_⟩
        cases j with
        | succ j => simp at hc
        | zero =>
          have e1 : d = c := Option.some.inj hc
          rw [Nat.sub_zero, hX] at hY
          have e2 : X = Y := Option.some.inj hY
          subst e1 e2
          rw [Nat.sub_zero]
          exact c0.same sz
      · rintro m σ H' hm ⟨v, vp, cl, ds, rfl, s6, h6, l6, e6, c6⟩
        have hm2 : m < T.length := by
          have := nV_length T
          omega
        have epl : (0 : Int) + (((((nV T).length : Nat) : Int) - 0).toNat : Nat) - 1 + (m : Nat) * (-1) = ((T.length - 1 - m : Nat) : Int) := by
          have := nV_length T
          omega
        rw [epl]
        obtain ⟨t, ht⟩ := at_some (l := T) (i := T.length - 1 - m) (by omega)
        obtain ⟨q', hq'⟩ := at_some (l := qs) (i := T.length - 1 - m) (by rw [g2, ah.len]; omega)
        obtain ⟨W', hW'⟩ := at_some (l := SS) (i := T.length - 1 - m) (by rw [ah.len]; omega)
        obtain ⟨Y, hY⟩ := at_some (l := SS) (i := T.length - m) (by rw [ah.len]; omega)
        have e1 : T.length - 1 - m + 1 = T.length - m := by omega
        have few := ah.few _ W' hW'
        have p9 := pow9 (show T.length - 1 - m ≤ 9 by omega)
        have nx := ah.next (T.length - 1 - m) t W' Y ht hW' (by rw [e1]; exact hY)
        refine ⟨_, rfl, _, rfl, r1, _, _, .ref q', rfl, rfl, SqL.of (s6 _ _ g1), atI_nat (by rw [List.getElem?_map, hq']; rfl), _, rfl, _, rfl, b, _, _, _, rfl, rfl, ((hb.same s1).same s6).seq, atI_nat (nV_at ht), _, rfl, ?_⟩
        refine ⟨q', cl, W', Y, t, S.length, _, rfl, (g3 _ q' W' hq' hW').same s6, by omega, fun R hR => ah.size W' (List.mem_of_getElem? hW') R hR, hSp, hS, c6 m cl Y e6 hY, nx, fun H3 r3 s3 n3 c3 => ?_⟩
        refine ⟨_, rfl, .inl ⟨rfl, _, SqL.of (s3 _ _ h6)⟩, _, rfl, z, _, _, rfl, rfl, s3 _ _ h6, ?_, ?_⟩
        · rw [List.length_map, l6]
          exact sizedL (m := 10) (by omega)
        · have hr3z : r3 ≠ z := (ne_of_none h6 n3).symm
          have stay : ∀ {c : Addr} {Y : List (List Nat)} {f : List Nat → Nat}, Costs H3 c Y f → Costs (upd H3 z (.lst (ds.map V.ref ++ [.ref r3]))) c Y f := by
            rintro c Y f ⟨kvs, k1, k2⟩
            have hcz : c ≠ z := ne_of k1 (s3 _ _ h6) (fun z => by cases z)
            exact ⟨kvs, by rw [upd_ne hcz]; exact k1, k2⟩
          have hz1 : H1 z = none := s5.free hz
          refine ⟨_, _, r3, ds ++ [r3], rfl, (s6.trans s3).again hz1, ?_, by rw [List.length_append, l6]; rfl, ?_, fun j c Z hc hZ => ?_⟩
          · rw [upd_same, List.map_append]; rfl
          · rw [List.getElem?_append_right (by omega), show m + 1 - ds.length = 0 by omega]; rfl
          · by_cases cj : j < ds.length
            · rw [List.getElem?_append_left cj] at hc
              exact stay ((c6 j c Z hc hZ).same s3)
            · have jl : j - ds.length = 0 := by
                rw [List.getElem?_append_right (by omega)] at hc
                have := (List.getElem?_eq_some_iff.mp hc).1
                rw [List.length_singleton] at this
                omega
              rw [List.getElem?_append_right (by omega), jl] at hc
              have e3 : r3 = c := Option.some.inj hc
              have ej : T.length - j = T.length - 1 - m := by omega
              rw [ej, hW'] at hZ
              have e4 : W' = Z := Option.some.inj hZ
              subst e3 e4
              have z := stay c3
              rw [ej, drop_at ht, e1]
              exact z
      · rintro σ H' ⟨v, vp, cl, ds, rfl, s6, h6, l6, e6, c6⟩
        have nT := nV_length T
        have l7 : ds.length = T.length + 1 := by omega
        refine ⟨_, rfl, z, _, rfl, SqL.of h6, fun p hp => ?_⟩
        have sp' : Same H H' := s1.trans s6
        refine k _ p SS ds.reverse (sp'.upd hp) (sp'.free hp) ah (by rw [upd_same, List.map_reverse]) (by rw [List.length_reverse, l7]) fun i c Y hc hY => ?_
        have il : i < T.length + 1 := by
          have := (List.getElem?_eq_some_iff.mp hY).1
          rw [ah.len] at this; exact this
        rw [List.getElem?_reverse (by omega)] at hc
        have ei : T.length - (ds.length - 1 - i) = i := by omega
        have z := c6 (ds.length - 1 - i) c Y hc (by rw [ei]; exact hY)
        rw [ei] at z
        exact z.same (Same.new hp)
theorem ok_opt (A : At K mg "optimal_distance" (top 46)) (B : Bl mg) (cA : Cal P w K mg base CX0 5 "all_costs" spAll) : Cal P w K mg base CX0 6 "optimal_distance" (spSSi C someS) := by
  refine cal0 A sc_opt (fun vs H Q E h => ?_) (fun _ _ _ _ _ _ us hl => match us, hl with | [_, _], _ => rfl) (fun f cdv A outer s H vs Q E hr h => ?_)
  · obtain ⟨a, b, S, T, rfl, _⟩ := h; rfl
  · refine ⟨_, pss_one (ps_ret (pe_dget (hu_of hr) (pe_ix ix_list (pe_c cA hr (pa_cons (pv 0) (pa_cons (pv 1) pa_nil))) pe_int (fun _ _ => rfl)) (pe_callTy call_tuple_of (by rfl) B.tuple (by decide +kernel) (pa_cons (pv 0) pa_nil)) (fun _ _ => rfl))), ?_⟩
    obtain ⟨a, b, S, T, rfl, ha, hb, hS, hT, hne, k⟩ := h
    walk_at "rd"
    refine ⟨_, rfl, _, rfl, a, b, S, T, rfl, ha, hb, hne, hS, hT, fun H1 r SS cs s1 n1 ah h1 l1 c1 => ?_⟩
    obtain ⟨c, hc⟩ := at_some (l := cs) (i := 0) (by omega)
    refine ⟨r, _, _, .ref c, rfl, rfl, SqL.of h1, atI_nat (j := 0) (by rw [List.getElem?_map, hc]; rfl), ?_⟩
    refine ⟨_, rfl, a, _, rfl, .inl ⟨(ha.same s1).seq, fun p hp => ?_⟩⟩
    obtain ⟨kvs, k1, k2⟩ := (c1 0 c [S] hc ah.first).same (Same.new (o := .tup (nV S)) hp)
    have hp' : IsT (upd H1 p (.tup (nV S))) p S := upd_same
    have dg := DGet.t k1 hp'.key
    rw [k2 S (List.mem_singleton.mpr rfl)] at dg
    exact ⟨c, _, rfl, dg, k _ (s1.upd hp)⟩
theorem ok_plan (A : At K mg "optimal_plan" (top 47)) (B : Bl mg) (cA : Cal P w K mg base CX0 5 "all_costs" spAll) (cC : Cal P w K mg base CX0 3 "choice_costs" spChoice) (cF : Cal P w K mg base CX0 2 "after" spAfter) : Cal P w K mg base CX0 6 "optimal_plan" (spSS plan someS) := by
  refine cal0 A sc_plan (fun vs H Q E h => ?_) (fun _ _ _ _ _ _ us hl => match us, hl with | [_, _], _ => rfl) (fun f cdv A outer s H vs Q E hr h => ?_)
  · obtain ⟨a, b, S, T, rfl, _⟩ := h; rfl
  · refine ⟨_, pss_cons (ps_set (i := 2) sc_plan.nd rfl (Or.inl rfl) (pe_c cA hr (pa_cons (pv 0) (pa_cons (pv 1) pa_nil))))
      (pss_cons (ps_set (i := 3) sc_plan.nd rfl (Or.inl rfl) (pe_callTy call_tuple_of (by rfl) B.tuple (by decide +kernel) (pa_cons (pv 0) pa_nil)))
      (pss_cons (ps_set (i := 4) sc_plan.nd rfl (Or.inl rfl) (pe_lst pa_nil))
      (pss_cons (ps_for PassesOwn.never rfl (pi_range1 rfl B.range (pa_cons (pe_callB call_len_seq (by rfl) B.len PySem.boot_len (pa_cons (pv 1) pa_nil)) pa_nil)) (pg_name (i := 5) sc_plan.nd rfl (Or.inl rfl))
        (pss_cons (ps_set (i := 6) sc_plan.nd rfl (Or.inl rfl) (pe_c cC hr (pa_cons (pv 3) (pa_cons (pe_ix ix_list (pv 1) (pv 5) (fun _ _ => rfl)) (pa_cons (pe_ix ix_list (pv 2) (pe_op op_add (pv 5) pe_int) (fun _ _ => rfl)) pa_nil)))))
        (pss_cons (ps_set (i := 7) sc_plan.nd rfl (Or.inl rfl) (pe_bm PySem.F.plainAttrs_list PySem.F.slot_list_index PySem.F.type_list_index mt_index (pv 6) (pa_cons (pe_callB (cr_min rfl) (by rfl) B.min (by decide +kernel) (pa_cons (pv 6) pa_nil)) pa_nil)))
        (pss_cons (ps_expr (pe_bm PySem.F.plainAttrs_list PySem.F.slot_list_append PySem.F.type_list_append mt_append (pv 4) (pa_cons (pv 7) pa_nil)))
        (pss_one (ps_set (i := 3) sc_plan.nd rfl (Or.inl rfl) (pe_c cF hr (pa_cons (pv 3) (pa_cons (pv 7) (pa_cons (pe_ix ix_list (pv 1) (pv 5) (fun _ _ => rfl)) pa_nil))))))))))
      (pss_one (ps_ret (pv 4)))))), ?_⟩
    obtain ⟨a, b, S, T, rfl, ha, hb, hS, hT, hne, k⟩ := h
    walk_at "rd"
    refine ⟨_, rfl, _, rfl, a, b, S, T, rfl, ha, hb, hne, hS, hT, fun H1 r SS cs s1 n1 ah h1 l1 c1 => ?_⟩
    refine ⟨_, rfl, a, _, rfl, .inl ⟨(ha.same s1).seq, fun x hx => ?_⟩⟩
    have s2 := s1.upd (o := .tup (nV S)) hx
    refine ⟨Nat.zero_le _, fun d hd => ?_⟩
    have s3 := s2.upd (o := .lst []) hd
    have sx : Same H1 (upd (upd H1 x (.tup (nV S))) d (.lst [])) := (Same.new hx).upd hd
    have hdn : H d = none := s2.free hd
    have hd1 : H1 d = none := (Same.new (o := .tup (nV S)) hx).free hd
    have nT := nV_length T
    refine ⟨_, rfl, b, _, rfl, .inl (hb.same s3).seq, _, rfl, by omega, by omega, for_range (lo := 0) (fun i σ H' => ∃ (x : Addr) (v v2 v3 : Option V), σ = [some (.ref a), some (.ref b), some (.ref r), some (.ref x), some (.ref d), v, v2, v3] ∧ Same H1 H' ∧ IsT H' x (stAt S T i) ∧ IsL H' d ((plan S T).take i) ∧ ∃ X, SS[i]? = some X ∧ stAt S T i ∈ X)
      ⟨x, none, none, none, rfl, sx, ?_, upd_same, [S], ah.first, ?_⟩ ?_ ?_⟩
    · rw [stAt_zero]
      show upd _ _ _ _ = _
      rw [upd_ne (ne_of_none upd_same hd)]
      exact upd_same
    · rw [stAt_zero]; exact List.mem_singleton.mpr rfl
    · rintro i σ H' hi ⟨x, v, v2, v3, rfl, s5, t5, h5, X, hX, mX⟩
      have il : i < T.length := by omega
      obtain ⟨t, ht⟩ := at_some il
      obtain ⟨Y, hY⟩ := at_some (l := SS) (i := i + 1) (by rw [ah.len]; omega)
      obtain ⟨c, hc⟩ := at_some (l := cs) (i := i + 1) (by omega)
      have z5 := ah.size X (List.mem_of_getElem? hX) _ mX
      have sn : stAt S T i ≠ [] := fun e => by rw [e] at z5; exact hne (List.eq_nil_of_length_eq_zero z5.symm)
      have nx := ah.next i t X Y ht hX hY _ mX
      refine ⟨_, rfl, _, rfl, _, rfl, b, _, _, .int (t : Nat), rfl, rfl, ((hb.same s1).same s5).seq, by rw [Int.zero_add]; exact atI_nat (nV_at ht), _, rfl, _, rfl, _, _, rfl, rfl, r, _, _, .ref c, rfl, rfl, SqL.of (s5 _ _ h1), ?_, ?_⟩
      · rw [show (0 + (i : Nat) + 1 : Int) = ((i + 1 : Nat) : Int) by omega]
        exact atI_nat (by rw [List.getElem?_map, hc]; rfl)
      refine ⟨x, c, stAt S T i, t, Y, _, rfl, t5, by omega, (c1 (i + 1) c Y hc hY).same s5, fun j hj => nx j (by omega), fun H3 q3 s3' n3 h3 => ?_⟩
      have gn := choices_ne sn t (fun R => C R (T.drop (i + 1)))
      obtain ⟨j, j1, j2⟩ := first_at (minL_mem gn)
      have jl : j < (stAt S T i).length := by
        have := (List.getElem?_eq_some_iff.mp j1).1
        rwa [choices_length] at this
      have ep := pick_of jl (min_place j1 j2)
      refine ⟨_, rfl, .inl ⟨rfl, _, h3.seq⟩, _, rfl, ?_⟩
      walk_at "rd"
      refine rd_min h3 gn ?_
      refine rd_index h3 j1 j2 ?_
      refine ⟨_, rfl, .inl ⟨rfl, _, (h5.same s3').seq⟩, _, rfl, d, _, _, rfl, rfl, h5.same s3', ?_, ?_⟩
      · rw [nV_length, List.length_take, plan_length]
        exact sizedL (m := 9) (by omega)
      · have s6 := (s5.trans s3').again (o := .lst (nV ((plan S T).take i) ++ [V.int (j : Nat)])) hd1
        have t6 : IsT (upd H3 d (.lst (nV ((plan S T).take i) ++ [V.int (j : Nat)]))) x (stAt S T i) := by
          have t' := t5.same s3'
          show upd _ _ _ _ = _
          rw [upd_ne (ne_of t' (h5.same s3') (fun z => by cases z))]
          exact t'
        refine ⟨_, rfl, _, rfl, _, rfl, _, rfl, b, _, _, .int (t : Nat), rfl, rfl, ((hb.same s1).same s6).seq, by rw [Int.zero_add]; exact atI_nat (nV_at ht), ?_⟩
        refine ⟨x, stAt S T i, j, t, rfl, t6, jl, fun H4 q4 s4 n4 t4 => ?_⟩
        refine ⟨q4, _, _, _, rfl, s6.trans s4, ?_, s4 _ _ ?_, Y, hY, ?_⟩
        · rw [stAt_more T S i t ht, ep]; exact t4
        · rw [upd_same, take_get (plan_at T S i t ht), ep, nV_app]; rfl
        · rw [stAt_more T S i t ht, ep]; exact nx j (by omega)
    · rintro σ H' ⟨x, v, v2, v3, rfl, s5, t5, h5, _⟩
      rw [show (((nV T).length : Nat) : Int).toNat = (plan S T).length by rw [plan_length]; omega, List.take_length] at h5
      exact ⟨_, rfl, k H' d (s1.trans s5) hdn h5⟩
end
end Ic

namespace Ic
open PySem PySem.Spec PyProof.Rows L2
local macro_rules | `(tactic| walk_at "rd") => `(tactic| dsimp only [tSeq, tAsg, tRet, tIfS, tTest, tOp, tUn, tVar, tC, tLst, tTup, tCons, tNil, tCB, tBM, tBM0, tCall, gName, gSub, tNext, tDrop, tDNewT, tDGet, sDPut, tFld, sFld, tMkO, tVeI, tOst, cxOf, Cx.nox])
/-! ### what the top has written, beside the defs -/
def names1 : List (Int × Str) := [(1, "add_icebreaker"), (2, "remove_icebreaker"), (4, "request"), (18, "preview_request"), (19, "distance_with_request"), (20, "responders"), (22, "saving_without_request"), (23, "distances_with_icebreaker")]
def names0 : List (Int × Str) := [(5, "undo_request"), (6, "clear_requests"), (7, "list_requests"), (8, "current_positions"), (9, "start_positions"), (10, "total_distance"), (11, "greedy_distance"), (12, "greedy_positions"), (13, "told_optimum"), (14, "told_plan"), (15, "competitive_bound"), (16, "told_spread"), (17, "excess"), (21, "distances_per_request"), (24, "summary")]
structure Txt (K : PySem.W.Frag) (mg : Str → Option Value) (CL CC CR : Addr) : Prop where
  bl : Bl mg
  clL : Cls K CL
  nS : NoAttr K CL "starts"
  nT : NoAttr K CL "targets"
  gL : mg "Line" = some (.ref CL)
  clC : Cls K CC
  nL : NoAttr K CC "line"
  gC : mg "Coast" = some (.ref CC)
  gR : mg "Refused" = some (.ref CR)
  oex : OexC K CR
  xf : XfC K CR
  noC : PySem.W.findIn K (.ref CR) "code" = some none
  eR : PySem.W.exmOne K (.ref CR) (.ref CR) = some true
  vV : PySem.W.findCls K (.type "ValueError") (.type "type") "__init__" = some (.val (.builtin "ValueError.__init__"))
  mR : ∃ (f : Addr) (fd : FuncData), PySem.W.findIn K (.ref CR) "__init__" = some (some (.ref f)) ∧ PySem.W.typeIn K (.ref f) = some (.type "function") ∧ Fun K "__init__" "Refused.__init__" (inClass (top 22) 0) f fd
  mL : ∃ (f : Addr) (fd : FuncData), Mk K CL f ∧ Fun K "__init__" "Line.__init__" (inClass (top 27) 0) f fd
  mC : ∃ (f : Addr) (fd : FuncData), Mk K CC f ∧ Fun K "__init__" "Coast.__init__" (inClass (top 74) 0) f fd
  cNI : ∃ u, mg "NO_INSTANCE" = some u ∧ RelV (.int (-11)) u
  cNS : ∃ u, mg "NO_SUCH" = some u ∧ RelV (.int (-2)) u
  cBP : ∃ u, mg "BAD_POSITION" = some u ∧ RelV (.int (-22)) u
  cNT : ∃ u, mg "NONE_THERE" = some u ∧ RelV (.int (-6)) u
  cFU : ∃ u, mg "FULL" = some u ∧ RelV (.int (-28)) u
  cLP : ∃ u, mg "LAST_POSITION" = some u ∧ RelV (.int 99) u
  cMB : ∃ u, mg "MOST_BREAKERS" = some u ∧ RelV (.int 3) u
  cMR : ∃ u, mg "MOST_REQUESTS" = some u ∧ RelV (.int 8) u
  cCR : ∃ u, mg "CREATE" = some u ∧ RelV (.int 0) u
  cSS : ∃ u, mg "SET_START" = some u ∧ RelV (.int 3) u
  tab1 : ∃ (d : Addr) (tab : List (Int × Addr)), mg "DEEDS_OF_ONE" = some (.ref d) ∧ KTab K d tab ∧ Paired (fun (n : Int × Str) (p : Int × Addr) => n.1 = p.1 ∧ mg n.2 = some (.ref p.2)) names1 tab
  tab0 : ∃ (d : Addr) (tab : List (Int × Addr)), mg "DEEDS_OF_NONE" = some (.ref d) ∧ KTab K d tab ∧ Paired (fun (n : Int × Str) (p : Int × Addr) => n.1 = p.1 ∧ mg n.2 = some (.ref p.2)) names0 tab

/-! ### a line in the heap -/
def lF (a b : Addr) : List (Str × V) := [("starts", .ref a), ("targets", .ref b)]
theorem lk_here {k : Str} {v : V} {r : List (Str × V)} : List.lookup k ((k, v) :: r) = some v := by
  have e : (k == k) = true := beq_self_eq_true k
  simp only [List.lookup, e]
theorem lk_past {k g : Str} {v : V} {r : List (Str × V)} (h : (k == g) = false) : List.lookup k ((g, v) :: r) = List.lookup k r := by
  simp only [List.lookup, h]
theorem lF_s (a b : Addr) : (lF a b).lookup ("starts" : Str) = some (.ref a) := lk_here
theorem lF_t (a b : Addr) : (lF a b).lookup ("targets" : Str) = some (.ref b) := (lk_past (by decide +kernel)).trans lk_here
theorem put_here {f : Str} {v x : V} {r : List (Str × V)} : putF f v ((f, x) :: r) = (f, v) :: r := if_pos rfl
theorem put_past {f g : Str} {v x : V} {r : List (Str × V)} (h : ¬ g = f) : putF f v ((g, x) :: r) = (g, x) :: putF f v r := if_neg h
theorem lF_putS (a b c : Addr) : putF "starts" (.ref c) (lF a b) = lF c b := put_here
theorem lF_putT (a b c : Addr) : putF "targets" (.ref c) (lF a b) = lF a c := (put_past (by decide +kernel)).trans (congrArg _ put_here)
theorem lF_new (a b : Addr) : putF "targets" (.ref b) (putF "starts" (.ref a) []) = lF a b := (put_past (by decide +kernel)).trans rfl
theorem few2 {a b : Addr} : (lF a b).length < 1000 := (by decide : 2 < 1000)
/-- the line at L with its lists -/
def LineIs (CL : Addr) (H : Hp) (L dx a b : Addr) (S T : List Nat) : Prop := H L = some (.ins CL dx (lF a b)) ∧ IsL H a S ∧ IsL H b T
def LineAt (CL : Addr) (H : Hp) (L : Addr) (d : Km559.Dispatch) : Prop := ∃ dx a b, LineIs CL H L dx a b d.starts d.requests
theorem LineAt.same {CL : Addr} {H H' : Hp} {L : Addr} {d : Km559.Dispatch} (h : LineAt CL H L d) (s : Same H H') : LineAt CL H' L d := by
  obtain ⟨dx, a, b, h1, h2, h3⟩ := h
  exact ⟨dx, a, b, s _ _ h1, h2.same s, h3.same s⟩
structure Wf (d : Km559.Dispatch) : Prop where
  s : d.starts.length ≤ 3
  t : d.requests.length ≤ 8
  e : d.starts = [] → d.requests = []
/-- all but what stands at L is as it was -/
def But (H H' : Hp) (L : Addr) : Prop := ∀ b o, b ≠ L → H b = some o → H' b = some o
theorem But.of {H H' : Hp} {L : Addr} (s : Same H H') : But H H' L := fun b o _ e => s b o e
/-- an error of the class at CR with this code is raised, all else stands -/
def Bad (CR : Addr) (H : Hp) (E : XK) (code : Int) : Prop := ∀ (H' : Hp) (dd : Addr), Same H H' → H dd = none → H' dd = some (.xd [("code", .int code)]) → E (.ref CR) (some dd) H'
theorem Bad.later {CR : Addr} {H H1 : Hp} {E : XK} {code : Int} (h : Bad CR H E code) (s : Same H H1) : Bad CR H1 E code := fun H' dd s' n z => h H' dd (s.trans s') (s.free n) z
/-- what a caller wants of a deed: by the specification's step -/
structure Wish (CL CR : Addr) (H : Hp) (L : Addr) (d : Km559.Dispatch) (c : Km559.Call) (Q : VK) (E : XK) : Prop where
  bad : ∀ code : Int, Km559.step (some d) c = (some d, Km559.error code) → Bad CR H E code
  good : ∀ (d' : Km559.Dispatch) (n : Int) (ns : List Int), Km559.step (some d) c = (some d', ⟨n, ns⟩) → ∀ (H' : Hp) (q : Addr), But H H' L → LineAt CL H' L d' → H q = none → H' q = some (.lst ((n :: ns).map V.int)) → Q (.ref q) H'
/-! ### promises -/
def spRInit (CR : Addr) : Sp := fun vs H Q _ => ∃ (a : Addr) (code : Int), vs = [.ref a, .int code] ∧ H a = some (exo a CR none) ∧ ∀ dx, H dx = none → dx ≠ a → Q .non (upd (upd H dx (exd dx [("code", .int code)])) a (exo a CR (some dx)))
def spLInit (CL : Addr) : Sp := fun vs H Q _ => ∃ (p dx : Addr), vs = [.ref p] ∧ H p = some (.ins CL dx []) ∧ ∀ (H' : Hp) (a b : Addr), But H H' p → LineIs CL H' p dx a b [] [] → Q .non H'
def spCInit (CC : Addr) : Sp := fun vs H Q _ => ∃ (p dx : Addr), vs = [.ref p] ∧ H p = some (.ins CC dx []) ∧ Q .non (upd H p (.ins CC dx [("line", .non)]))
def spLookP (CR : Addr) : Sp := fun vs H Q E => ∃ x : Nat, vs = [.int (x : Nat)] ∧ (99 < x → Bad CR H E (-22)) ∧ (¬ 99 < x → Q .non H)
def spLookB (CL CR : Addr) : Sp := fun vs H Q E => ∃ (L : Addr) (d : Km559.Dispatch) (x : Nat), vs = [.ref L, .int (x : Nat)] ∧ LineAt CL H L d ∧ (d.starts.length ≤ x → Bad CR H E (-2)) ∧ (¬ d.starts.length ≤ x → Q .non H)
def spLookA (CL CR : Addr) : Sp := fun vs H Q E => ∃ (L : Addr) (d : Km559.Dispatch), vs = [.ref L] ∧ LineAt CL H L d ∧ (d.starts = [] → Bad CR H E (-6)) ∧ (d.starts ≠ [] → ∀ H', Same H H' → Q .non H')
def spLookR (CL CR : Addr) : Sp := fun vs H Q E => ∃ (L : Addr) (d : Km559.Dispatch), vs = [.ref L] ∧ LineAt CL H L d ∧ (d.starts.length = 3 → Bad CR H E (-28)) ∧ (d.starts.length ≠ 3 → Q .non H)
abbrev iR : Stmt := inClass (top 22) 0
abbrev iL : Stmt := inClass (top 27) 0
abbrev iC : Stmt := inClass (top 74) 0
theorem sc_iR : FnScope ["self", "code"] ["self", "code"] (defScope iR) := ⟨rfl, rfl, rfl, by decide +kernel, rfl, by decide +kernel, by decide +kernel⟩
theorem sc_iL : FnScope ["self"] ["self"] (defScope iL) := ⟨rfl, rfl, rfl, by decide +kernel, rfl, by decide +kernel, by decide +kernel⟩
theorem sc_iC : FnScope ["self"] ["self"] (defScope iC) := ⟨rfl, rfl, rfl, by decide +kernel, rfl, by decide +kernel, by decide +kernel⟩
theorem sc_lookP : FnScope ["position"] ["position"] (defScope (top 28)) := ⟨rfl, rfl, rfl, by decide +kernel, rfl, by decide +kernel, by decide +kernel⟩
theorem sc_lookB : FnScope ["line", "number"] ["line", "number"] (defScope (top 29)) := ⟨rfl, rfl, rfl, by decide +kernel, rfl, by decide +kernel, by decide +kernel⟩
theorem sc_lookA : FnScope ["line"] ["line"] (defScope (top 30)) := ⟨rfl, rfl, rfl, by decide +kernel, rfl, by decide +kernel, by decide +kernel⟩
theorem sc_lookR : FnScope ["line"] ["line"] (defScope (top 31)) := ⟨rfl, rfl, rfl, by decide +kernel, rfl, by decide +kernel, by decide +kernel⟩
section
variable {P : Program} {w : World} {K : PySem.W.Frag} {mg : Str → Option Value} {base : Heap} {CL CC CR : Addr}
theorem ok_iR (T : Txt K mg CL CC CR) {f : Addr} {fd : FuncData} (F : Fun K "__init__" "Refused.__init__" iR f fd) : FnOk P w K mg base CX0 1 f fd ["self", "code"] (spRInit CR) := by
  refine F.ok sc_iR (fun vs H Q E h => ?_) (fun cdv A outer s H vs Q E hr h => ?_)
  · obtain ⟨a, code, rfl, _⟩ := h; rfl
  · refine ⟨_, pss_cons (ps_expr (pe_veinit (by rfl) T.bl.ve T.vV (pa_cons (pv 0) (pa_cons pe_str pa_nil)))) (pss_one (ps_ost (pv 0) (pv 1))), ?_⟩
    obtain ⟨a, code, rfl, ha, k⟩ := h
    walk_at "rd"
    refine ⟨_, rfl, a, CR, _, rfl, (by decide : 1 ≤ 1000), T.oex, ha, ?_⟩
    exact ⟨_, rfl, _, rfl, a, CR, rfl, T.oex, T.noC, .inl ⟨ha, fun dx n ne => k dx n ne⟩⟩
theorem ok_iL (T : Txt K mg CL CC CR) {f : Addr} {fd : FuncData} (F : Fun K "__init__" "Line.__init__" iL f fd) : FnOk P w K mg base CX0 1 f fd ["self"] (spLInit CL) := by
  refine F.ok sc_iL (fun vs H Q E h => ?_) (fun cdv A outer s H vs Q E hr h => ?_)
  · obtain ⟨p, dx, rfl, _⟩ := h; rfl
  · refine ⟨_, pss_cons (ps_fld (pv 0) (pe_lst pa_nil) rfl) (pss_one (ps_fld (pv 0) (pe_lst pa_nil) rfl)), ?_⟩
    obtain ⟨p, dx, rfl, hp, k⟩ := h
    walk_at "rd"
    refine ⟨Nat.zero_le _, fun a ha => ?_⟩
    have hpa : p ≠ a := ne_of_none hp ha
    refine ⟨_, rfl, p, CL, dx, [], rfl, by rw [upd_ne hpa]; exact hp, T.clL, T.nS, by decide, ?_⟩
    refine ⟨Nat.zero_le _, fun b hb => ?_⟩
    have hpb : p ≠ b := ne_of_none upd_same hb
    have hab : a ≠ b := fun e => by
      rw [upd_ne (fun z => by rw [← e] at z; exact hpa z.symm), ← e, upd_same] at hb
      cases hb
    refine ⟨_, rfl, p, CL, dx, _, rfl, by rw [upd_ne hpb]; exact upd_same, T.clL, T.nT, (by show 1 < 1000; decide), ?_⟩
    rw [lF_new]
    refine k _ a b (fun c o hc e => ?_) ⟨upd_same, ?_, ?_⟩
    · rw [upd_ne hc]
      have hcb : c ≠ b := fun z => by
        rw [z] at e hc
        rw [upd_ne hc, upd_ne (fun z2 => hab z2.symm), e] at hb
        cases hb
      rw [upd_ne hcb, upd_ne hc, upd_ne (ne_of_none e ha)]
      exact e
    · show upd _ _ _ _ = _
      rw [upd_ne (Ne.symm hpa), upd_ne hab, upd_ne (Ne.symm hpa), upd_same]; rfl
    · show upd _ _ _ _ = _
      rw [upd_ne (Ne.symm hpb), upd_same]; rfl
theorem ok_iC (T : Txt K mg CL CC CR) {f : Addr} {fd : FuncData} (F : Fun K "__init__" "Coast.__init__" iC f fd) : FnOk P w K mg base CX0 1 f fd ["self"] (spCInit CC) := by
  refine F.ok sc_iC (fun vs H Q E h => ?_) (fun cdv A outer s H vs Q E hr h => ?_)
  · obtain ⟨p, dx, rfl, _⟩ := h; rfl
  · refine ⟨_, pss_one (ps_fld (pv 0) pe_non rfl), ?_⟩
    obtain ⟨p, dx, rfl, hp, k⟩ := h
    walk_at "rd"
    exact ⟨_, rfl, p, CC, dx, [], rfl, hp, T.clC, T.nL, by decide, k⟩
/-- raise Refused(code) -/
theorem rd_raise {H : Hp} {E : XK} {code : Int} (h : Bad CR H E code) (a : Addr) (ha : H a = none) : spRInit CR (.ref a :: ([.int code] ++ [])) (upd H a (exo a CR none))
    (fun v H2 => v = .non ∧ ∃ (d : Addr) (fs : List (Str × V)), H2 a = some (exo a CR (some d)) ∧ H2 d = some (exd d fs) ∧ H d = none ∧ E (.ref CR) (some d) (upd (del H2 a) d (.xd fs))) (fun _ _ _ => False) := by
  refine ⟨a, code, rfl, upd_same, fun dx n ne => ⟨rfl, dx, _, upd_same, by rw [upd_ne ne]; exact upd_same, ?_, ?_⟩⟩
  · rw [upd_ne ne] at n; exact n
  · rw [upd_ne ne] at n
    refine h _ dx (fun b o e => ?_) n upd_same
    have hb1 : b ≠ dx := ne_of_none e n
    have hb2 : b ≠ a := ne_of_none e ha
    rw [upd_ne hb1, del_ne hb2, upd_ne hb2, upd_ne hb1, upd_ne hb2]
    exact e
end
end Ic

namespace Ic
open PySem PySem.Spec PyProof.Rows L2
local macro_rules | `(tactic| walk_at "rd") => `(tactic| dsimp only [tSeq, tAsg, tRet, tIfS, tTest, tOp, tUn, tVar, tC, tLst, tTup, tCons, tNil, tCB, tBM, tBM0, tCall, gName, gSub, tNext, tDrop, tDNewT, tDGet, sDPut, tFld, sFld, tMkO, tVeI, tOst, tSl, tPart, tNoPart, cxOf, Cx.nox])
theorem passF {X : Cx} : Passes CX0 X (fun _ _ _ => False) := fun _ _ _ _ _ _ _ h => h.elim
section
variable {P : Program} {w : World} {K : PySem.W.Frag} {mg : Str → Option Value} {base : Heap} {CL CC CR : Addr}
/-- Refused(NAME), ready to be raised -/
theorem pmk_ref {X : Cx} (T : Txt X.K X.mg CL CC CR) {e : Expr} {te : TE} {p pos : Pos} {j : Nat} (hr : Room j X.A) (he : PE X e te) (hj : 2 ≤ j := by decide) (hg : Gl X "Refused" := by rfl)
    (hst : starEach (e :: []) X.env = (false, eval e X.env) :: starEach [] X.env := by rfl) (hpl : (backTo pos (starEach [] X.env)).any (·.1) = false := by rfl) :
    PMk X (.Call (.Name "Refused" p) [e] [] pos) (tMkO CR (spRInit CR) [] (tCons te tNil)) := by
  obtain ⟨f, fd, h1, h2, F⟩ := T.mR
  have b := F.binds (ps := ["self", "code"]) fun _ _ _ _ _ _ us hl => match us, hl with | [_, _], _ => rfl
  exact pmk_oex T.oex h1 h2 (ok_iR T F) (hr.mono hj) b .nil passF hg T.gR (pa_cons he pa_nil (hs := hst)) (by decide) hst hpl
theorem ok_lookP (T : Txt K mg CL CC CR) (A : At K mg "look_position" (top 28)) : Cal P w K mg base (L2.CX P w) 3 "look_position" (spLookP CR) := by
  refine calX A sc_lookP (fun vs H Q E h => ?_) (fun _ _ _ _ _ _ us hl => match us, hl with | [_], _ => rfl) (fun f cdv A outer s H vs Q E hr h => ?_)
  · obtain ⟨x, rfl, _⟩ := h; rfl
  · refine ⟨_, pss_one (ps_if (pt_cmpR op_gt (pv 0) (C8.pe_gc (by rfl) T.cLP) (nomark _)) (pss_one (ps_raise rfl (takes_of rfl rfl rfl rfl) (pmk_ref T hr (C8.pe_gc (by rfl) T.cBP)))) pss_nil), ?_⟩
    obtain ⟨x, rfl, k1, k2⟩ := h
    walk_at "rd"
    refine ⟨_, rfl, _, _, rfl, rfl, _, rfl, iteD (fun c => ?_) fun c => k2 (by omega)⟩
    exact ⟨(by decide : 1 ≤ 1000), fun a ha => rd_raise (k1 (by omega)) a ha⟩
theorem ok_lookB (T : Txt K mg CL CC CR) (A : At K mg "look_breaker" (top 29)) : Cal P w K mg base (L2.CX P w) 3 "look_breaker" (spLookB CL CR) := by
  refine calX A sc_lookB (fun vs H Q E h => ?_) (fun _ _ _ _ _ _ us hl => match us, hl with | [_, _], _ => rfl) (fun f cdv A outer s H vs Q E hr h => ?_)
  · obtain ⟨L, d, x, rfl, _⟩ := h; rfl
  · refine ⟨_, pss_one (ps_if (pt_cmpR op_ge (pv 1) (pe_callB call_len_seq (by rfl) T.bl.len PySem.boot_len (pa_cons (pe_fld (pv 0) rfl) pa_nil)) (nomark _)) (pss_one (ps_raise rfl (takes_of rfl rfl rfl rfl) (pmk_ref T hr (C8.pe_gc (by rfl) T.cNS)))) pss_nil), ?_⟩
    obtain ⟨L, d, x, rfl, ⟨dx, a, b, h1, h2, h3⟩, k1, k2⟩ := h
    walk_at "rd"
    have nl := nV_length d.starts
    refine ⟨_, rfl, _, rfl, L, CL, dx, _, _, rfl, h1, T.clL, T.nS, lF_s a b, a, _, rfl, .inl h2.seq, _, _, rfl, rfl, _, rfl, iteD (fun c => ?_) fun c => k2 (by omega)⟩
    exact ⟨(by decide : 1 ≤ 1000), fun a ha => rd_raise (k1 (by omega)) a ha⟩
theorem ok_lookA (T : Txt K mg CL CC CR) (A : At K mg "look_any" (top 30)) : Cal P w K mg base (L2.CX P w) 3 "look_any" (spLookA CL CR) := by
  refine calX A sc_lookA (fun vs H Q E h => ?_) (fun _ _ _ _ _ _ us hl => match us, hl with | [_], _ => rfl) (fun f cdv A outer s H vs Q E hr h => ?_)
  · obtain ⟨L, d, rfl, _⟩ := h; rfl
  · refine ⟨_, pss_one (ps_if (pt_cmpR (op_eqD hr.units) (pe_fld (pv 0) rfl) (pe_lst pa_nil) (nomark _)) (pss_one (ps_raise rfl (takes_of rfl rfl rfl rfl) (pmk_ref T hr (C8.pe_gc (by rfl) T.cNT)))) pss_nil), ?_⟩
    obtain ⟨L, d, rfl, ⟨dx, a, b, h1, h2, h3⟩, k1, k2⟩ := h
    walk_at "rd"
    refine ⟨_, rfl, L, CL, dx, _, _, rfl, h1, T.clL, T.nS, lF_s a b, Nat.zero_le _, fun p2 hp2 => rd_eqNil h2 hp2 ⟨_, rfl, iteD (fun c => ?_) fun c => k2 c _ (Same.new hp2)⟩⟩
    exact ⟨(by decide : 1 ≤ 1000), fun a ha => rd_raise ((k1 c).later (Same.new hp2)) a ha⟩
theorem ok_lookR (T : Txt K mg CL CC CR) (A : At K mg "look_room" (top 31)) : Cal P w K mg base (L2.CX P w) 3 "look_room" (spLookR CL CR) := by
  refine calX A sc_lookR (fun vs H Q E h => ?_) (fun _ _ _ _ _ _ us hl => match us, hl with | [_], _ => rfl) (fun f cdv A outer s H vs Q E hr h => ?_)
  · obtain ⟨L, d, rfl, _⟩ := h; rfl
  · refine ⟨_, pss_one (ps_if (pt_cmpR op_eq (pe_callB call_len_seq (by rfl) T.bl.len PySem.boot_len (pa_cons (pe_fld (pv 0) rfl) pa_nil)) (C8.pe_gc (by rfl) T.cMB) (nomark _)) (pss_one (ps_raise rfl (takes_of rfl rfl rfl rfl) (pmk_ref T hr (C8.pe_gc (by rfl) T.cFU)))) pss_nil), ?_⟩
    obtain ⟨L, d, rfl, ⟨dx, a, b, h1, h2, h3⟩, k1, k2⟩ := h
    walk_at "rd"
    have nl := nV_length d.starts
    refine ⟨_, rfl, L, CL, dx, _, _, rfl, h1, T.clL, T.nS, lF_s a b, a, _, rfl, .inl h2.seq, rfl, _, rfl, iteD (fun c => ?_) fun c => k2 (fun z => c (by rw [nl, z]; rfl))⟩
    have c2 := V.int.inj c
    exact ⟨(by decide : 1 ≤ 1000), fun a ha => rd_raise (k1 (by omega)) a ha⟩
end
end Ic

namespace Ic
open PySem PySem.Spec PyProof.Rows L2
local macro_rules | `(tactic| walk_at "rd") => `(tactic| dsimp only [tSeq, tAsg, tRet, tIfS, tTest, tOp, tUn, tVar, tC, tLst, tTup, tCons, tNil, tCB, tBM, tBM0, tCall, gName, gSub, tNext, tDrop, tDNewT, tDGet, sDPut, tFld, sFld, tMkO, tVeI, tOst, tSl, tPart, tNoPart, cxOf, Cx.nox])
/-! ### slices -/
theorem cut_to (l : List Nat) {n : Nat} (h : n ≤ l.length) : cutV (nV l) none (some (n : Nat)) = nV (l.take n) := by
  unfold cutV
  rw [HT.sIx_none, HT.sIx_nat, List.drop_zero, Nat.sub_zero, nV_length, Nat.min_eq_left h]
  unfold nV
  rw [List.map_take]
theorem cut_from (l : List Nat) (n : Nat) : cutV (nV l) (some (n : Nat)) none = nV (l.drop n) := by
  unfold cutV
  rw [HT.sIx_none, HT.sIx_nat, nV_length]
  unfold nV
  rw [← List.map_drop, ← List.map_take]
  congr 1
  by_cases c : n ≤ l.length
  · rw [Nat.min_eq_left c]
    exact List.take_of_length_le (by rw [List.length_drop]; exact Nat.le_refl _)
  · rw [Nat.min_eq_right (by omega), Nat.sub_self, List.take_zero, List.drop_eq_nil_of_le (by omega)]
theorem cut_last (l : List Nat) : cutV (nV l) none (some (-1)) = nV l.dropLast := by
  unfold cutV
  rw [HT.sIx_none, List.drop_zero, Nat.sub_zero, nV_length]
  have e : HT.sIx l.length l.length (some (-1)) = l.length - 1 := by
    show (if (-1 : Int) < 0 then ((-1 : Int) + (l.length : Int)).toNat else min (-1 : Int).toNat l.length) = l.length - 1
    rw [if_pos (by decide)]
    omega
  rw [e, List.dropLast_eq_take]
  unfold nV
  rw [List.map_take]
/-! ### stores into the line -/
theorem But.then {H H1 H2 : Hp} {L : Addr} (b : But H H1 L) (s : Same H1 H2) : But H H2 L := fun c o hc e => s c o (b c o hc e)
theorem But.refl (H : Hp) (L : Addr) : But H H L := fun _ _ _ e => e
theorem But.store {H H1 : Hp} {L : Addr} {o : HO} (b : But H H1 L) : But H (upd H1 L o) L := fun c u hc e => by
  rw [upd_ne hc]
  exact b c u hc e
theorem But.free {H H1 : Hp} {L q : Addr} {o : HO} (b : But H H1 L) (hL : H1 L = some o) (n : H1 q = none) : H q = none := by
  cases e : H q with
  | none => rfl
  | some u =>
    by_cases c : q = L
    · rw [c, hL] at n; cases n
    · rw [b q u c e] at n; cases n
theorem LineIs.same {CL : Addr} {H H' : Hp} {L dx a b : Addr} {S T : List Nat} (h : LineIs CL H L dx a b S T) (s : Same H H') : LineIs CL H' L dx a b S T := ⟨s _ _ h.1, h.2.1.same s, h.2.2.same s⟩
theorem ne_ins {CL : Addr} {H : Hp} {L dx a r : Addr} {fs : List (Str × V)} {l : List Nat} (h : H L = some (.ins CL dx fs)) (hr : IsL H r l) : r ≠ L := ne_of hr h (fun z => by cases z)
theorem LineIs.putS {CL : Addr} {H : Hp} {L dx a b r : Addr} {S T S' : List Nat} (h : LineIs CL H L dx a b S T) (hr : IsL H r S') : LineIs CL (upd H L (.ins CL dx (putF "starts" (.ref r) (lF a b)))) L dx r b S' T := by
  refine ⟨by rw [upd_same, lF_putS], ?_, ?_⟩
  · show upd _ _ _ _ = _
    rw [upd_ne (ne_ins (a := a) h.1 hr)]; exact hr
  · show upd _ _ _ _ = _
    rw [upd_ne (ne_ins (a := a) h.1 h.2.2)]; exact h.2.2
theorem LineIs.putT {CL : Addr} {H : Hp} {L dx a b r : Addr} {S T T' : List Nat} (h : LineIs CL H L dx a b S T) (hr : IsL H r T') : LineIs CL (upd H L (.ins CL dx (putF "targets" (.ref r) (lF a b)))) L dx a r S T' := by
  refine ⟨by rw [upd_same, lF_putT], ?_, ?_⟩
  · show upd _ _ _ _ = _
    rw [upd_ne (ne_ins (a := a) h.1 h.2.1)]; exact h.2.1
  · show upd _ _ _ _ = _
    rw [upd_ne (ne_ins (a := a) h.1 hr)]; exact hr
theorem LineIs.line {CL : Addr} {H : Hp} {L dx a b : Addr} {S T : List Nat} (h : LineIs CL H L dx a b S T) : LineAt CL H L ⟨S, T⟩ := ⟨dx, a, b, h⟩
/-! ### promises of deeds, by the specification's step -/
def spD0 (CL CR : Addr) (c : Km559.Call) : Sp := fun vs H Q E => ∃ (L : Addr) (d : Km559.Dispatch), vs = [.ref L] ∧ LineAt CL H L d ∧ Wf d ∧ Wish CL CR H L d c Q E
def spD1 (CL CR : Addr) (c : Nat → Km559.Call) : Sp := fun vs H Q E => ∃ (L : Addr) (d : Km559.Dispatch) (x : Nat), vs = [.ref L, .int (x : Nat)] ∧ LineAt CL H L d ∧ Wf d ∧ Wish CL CR H L d (c x) Q E
def spD2 (CL CR : Addr) (c : Nat → Nat → Km559.Call) : Sp := fun vs H Q E => ∃ (L : Addr) (d : Km559.Dispatch) (x y : Nat), vs = [.ref L, .int (x : Nat), .int (y : Nat)] ∧ LineAt CL H L d ∧ Wf d ∧ Wish CL CR H L d (c x y) Q E
def curM (d : Km559.Dispatch) : List Nat := covAll d.starts d.requests
theorem curM_is (d : Km559.Dispatch) : Km559.currentPositions d = curM d := covAll_is _ _
theorem curM_length (d : Km559.Dispatch) : (curM d).length = d.starts.length := covAll_length _ _
/-- preview_request: the distance, then the positions -/
def spPrev (CL CR : Addr) : Sp := fun vs H Q E => ∃ (L : Addr) (d : Km559.Dispatch) (x : Nat), vs = [.ref L, .int (x : Nat)] ∧ LineAt CL H L d ∧ Wf d ∧ (99 < x → Bad CR H E (-22)) ∧ (¬ 99 < x → d.starts = [] → Bad CR H E (-6)) ∧ (¬ 99 < x → d.starts ≠ [] → Ret H Q (covDist (curM d) x :: covered (curM d) x))
theorem sc_add : FnScope ["line", "position"] ["line", "position"] (defScope (top 32)) := ⟨rfl, rfl, rfl, by decide +kernel, rfl, by decide +kernel, by decide +kernel⟩
theorem sc_rem : FnScope ["line", "number"] ["line", "number"] (defScope (top 33)) := ⟨rfl, rfl, rfl, by decide +kernel, rfl, by decide +kernel, by decide +kernel⟩
theorem sc_setS : FnScope ["line", "number", "position", "former"] ["line", "number", "position"] (defScope (top 34)) := ⟨rfl, rfl, rfl, by decide +kernel, rfl, by decide +kernel, by decide +kernel⟩
theorem sc_prev : FnScope ["line", "target", "positions"] ["line", "target"] (defScope (top 35)) := ⟨rfl, rfl, rfl, by decide +kernel, rfl, by decide +kernel, by decide +kernel⟩
theorem sc_req : FnScope ["line", "target", "found"] ["line", "target"] (defScope (top 36)) := ⟨rfl, rfl, rfl, by decide +kernel, rfl, by decide +kernel, by decide +kernel⟩
theorem sc_undo : FnScope ["line", "target"] ["line"] (defScope (top 37)) := ⟨rfl, rfl, rfl, by decide +kernel, rfl, by decide +kernel, by decide +kernel⟩
theorem sc_clear : FnScope ["line", "many"] ["line"] (defScope (top 38)) := ⟨rfl, rfl, rfl, by decide +kernel, rfl, by decide +kernel, by decide +kernel⟩
section
open Km559
variable {d : Dispatch} {x y : Nat}
/-! the specification's step, case by case -/
theorem st_add1 (h : 99 < x) : step (some d) (.addIcebreaker x) = (some d, error (-22)) := if_pos h
theorem st_add2 (h : ¬ 99 < x) (k : 3 ≤ d.starts.length) : step (some d) (.addIcebreaker x) = (some d, error (-28)) := (if_neg h).trans (if_pos k)
theorem st_add3 (h : ¬ 99 < x) (k : ¬ 3 ≤ d.starts.length) : step (some d) (.addIcebreaker x) = (some ⟨d.starts ++ [x], []⟩, ⟨(d.starts.length : Nat), []⟩) := (if_neg h).trans (if_neg k)
theorem st_rem1 (h : d.starts.length ≤ x) : step (some d) (.removeIcebreaker x) = (some d, error (-2)) := if_pos h
theorem st_rem2 (h : ¬ d.starts.length ≤ x) : step (some d) (.removeIcebreaker x) = (some ⟨d.starts.eraseIdx x, []⟩, ⟨(d.starts.length - 1 : Nat), []⟩) := if_neg h
theorem st_set1 (h : d.starts.length ≤ x) : step (some d) (.setStart x y) = (some d, error (-2)) := if_pos h
theorem st_set2 (h : ¬ d.starts.length ≤ x) (k : 99 < y) : step (some d) (.setStart x y) = (some d, error (-22)) := (if_neg h).trans (if_pos k)
theorem st_set3 (h : ¬ d.starts.length ≤ x) (k : ¬ 99 < y) : step (some d) (.setStart x y) = (some ⟨d.starts.set x y, []⟩, ⟨(d.starts.getD x 0 : Nat), []⟩) := (if_neg h).trans (if_neg k)
theorem no_starts (h : d.starts = []) : icebreakerCount d = 0 := by unfold icebreakerCount; rw [h]; rfl
theorem some_starts (h : d.starts ≠ []) : ¬ icebreakerCount d = 0 := fun e => h (List.eq_nil_of_length_eq_zero e)
theorem st_req1 (h : 99 < x) : step (some d) (.request x) = (some d, error (-22)) := if_pos h
theorem st_req2 (h : ¬ 99 < x) (k : d.starts = []) : step (some d) (.request x) = (some d, error (-6)) := (if_neg h).trans (if_pos (no_starts k))
theorem st_req3 (h : ¬ 99 < x) (k : d.starts ≠ []) (r : 8 ≤ d.requests.length) : step (some d) (.request x) = (some d, error (-28)) := (if_neg h).trans ((if_neg (some_starts k)).trans (if_pos r))
theorem toInts_is (l : List Nat) : toInts l = zs l := rfl
theorem st_req4 (h : ¬ 99 < x) (k : d.starts ≠ []) (r : ¬ 8 ≤ d.requests.length) : step (some d) (.request x) = (some ⟨d.starts, d.requests ++ [x]⟩, ⟨(covDist (curM d) x : Nat), zs (covered (curM d) x)⟩) := by
  refine ((if_neg h).trans ((if_neg (some_starts k)).trans (if_neg r))).trans ?_
  rw [curM_is, covDist_is, toInts_is, covered_is]
theorem st_undo1 (h : d.requests = []) : step (some d) .undoRequest = (some d, error (-6)) := by
  show (match d.requests.reverse with
        | [] => ((some d : State), error (-6))
        | target :: rest => (some { d with requests := rest.reverse }, number (target : Nat))) = _
  rw [h]; rfl
theorem st_undo2 {l : List Nat} (h : d.requests = l ++ [x]) : step (some d) .undoRequest = (some ⟨d.starts, l⟩, ⟨(x : Nat), []⟩) := by
  show (match d.requests.reverse with
        | [] => ((some d : State), error (-6))
        | target :: rest => (some { d with requests := rest.reverse }, number (target : Nat))) = _
  rw [h, List.reverse_append]
  show (some { d with requests := l.reverse.reverse }, number (x : Nat)) = _
  rw [List.reverse_reverse]; rfl
theorem st_clear : step (some d) .clearRequests = (some ⟨d.starts, []⟩, ⟨(d.requests.length : Nat), []⟩) := rfl
theorem st_prev1 (h : 99 < x) : step (some d) (.previewRequest x) = (some d, error (-22)) := congrArg (Prod.mk _) (if_pos h)
theorem st_prev2 (h : ¬ 99 < x) (k : d.starts = []) : step (some d) (.previewRequest x) = (some d, error (-6)) := congrArg (Prod.mk _) ((if_neg h).trans (if_pos (no_starts k)))
theorem st_prev3 (h : ¬ 99 < x) (k : d.starts ≠ []) : step (some d) (.previewRequest x) = (some d, ⟨(covDist (curM d) x : Nat), zs (covered (curM d) x)⟩) := by
  refine (congrArg (Prod.mk _) ((if_neg h).trans (if_neg (some_starts k)))).trans ?_
  rw [curM_is, covDist_is, toInts_is, covered_is]
end
/-- a list of one or more numbers is handed back, the line unchanged -/
theorem wish_ret {CL CR : Addr} {H : Hp} {L : Addr} {d : Km559.Dispatch} {c : Km559.Call} {Q : VK} {E : XK} {n : Nat} {l : List Nat} (W : Wish CL CR H L d c Q E) (la : LineAt CL H L d) (h : Km559.step (some d) c = (some d, ⟨(n : Nat), zs l⟩)) : Ret H Q (n :: l) :=
  fun H' q s n' hq => W.good d (n : Nat) (zs l) h H' q (But.of s) (la.same s) n' (by rw [show H' q = some (.lst (nV (n :: l))) from hq, nV_zs]; rfl)
section
variable {P : Program} {w : World} {K : PySem.W.Frag} {mg : Str → Option Value} {base : Heap} {CL CC CR : Addr}
theorem ok_add (T : Txt K mg CL CC CR) (A : At K mg "add_icebreaker" (top 32)) (cP : Cal P w K mg base (L2.CX P w) 3 "look_position" (spLookP CR)) (cR : Cal P w K mg base (L2.CX P w) 3 "look_room" (spLookR CL CR)) :
    Cal P w K mg base (L2.CX P w) 4 "add_icebreaker" (spD1 CL CR .addIcebreaker) := by
  refine calX A sc_add (fun vs H Q E h => ?_) (fun _ _ _ _ _ _ us hl => match us, hl with | [_, _], _ => rfl) (fun f cdv A outer s H vs Q E hr h => ?_)
  · obtain ⟨L, d, x, rfl, _⟩ := h; rfl
  · have tk := takes_of (X := cxOf (L2.CX P w) P w K mg base ["line", "position"] "add_icebreaker" (defScope (top 32)) f cdv A outer s H E) (E := E) rfl rfl rfl rfl
    refine ⟨_, pss_cons (ps_expr (pe_cX cP hr tk (pa_cons (pv 1) pa_nil)))
      (pss_cons (ps_expr (pe_cX cR hr tk (pa_cons (pv 0) pa_nil)))
      (pss_cons (ps_fld (pv 0) (pe_op op_cat (pe_fld (pv 0) rfl) (pe_lst (pa_cons (pv 1) pa_nil))) rfl)
      (pss_cons (ps_fld (pv 0) (pe_lst pa_nil) rfl)
      (pss_one (ps_ret (pe_lst (pa_cons (pe_op op_sub (pe_callB call_len_seq (by rfl) T.bl.len PySem.boot_len (pa_cons (pe_fld (pv 0) rfl) pa_nil)) pe_int) pa_nil))))))), ?_⟩
    obtain ⟨L, d, x, rfl, la, wf, W⟩ := h
    obtain ⟨dx, a, b, li⟩ := la
    walk_at "rd"
    refine ⟨_, rfl, x, rfl, fun c => W.bad _ (st_add1 c), fun c1 => ?_⟩
    refine ⟨_, rfl, L, d, rfl, li.line, fun c => W.bad _ (st_add2 c1 (by omega)), fun c2 => ?_⟩
    have c3 : ¬ 3 ≤ d.starts.length := by have := wf.s; omega
    refine ⟨_, rfl, L, CL, dx, _, _, rfl, li.1, T.clL, T.nS, lF_s a b, _, rfl, one_le, fun q hq => ?_⟩
    have l1 := li.same (Same.new (o := .lst [.int (x : Nat)]) hq)
    refine ⟨a, q, _, _, rfl, rfl, l1.2.1, upd_same, ?_, fun r hr' => ?_⟩
    · rw [nV_length]
      exact sized (m := 10) (by show d.starts.length + 1 ≤ 10; omega)
    have l2 := l1.same (Same.new (o := .lst (nV d.starts ++ [.int (x : Nat)])) hr')
    have hr2 : IsL (upd (upd H q (.lst [.int (x : Nat)])) r (.lst (nV d.starts ++ [.int (x : Nat)]))) r (d.starts ++ [x]) := by
      show upd _ _ _ _ = _
      rw [upd_same, nV_app]; rfl
    have l3 := l2.putS hr2
    have b3 := (((But.refl H L).then (Same.new hq)).then (Same.new (o := .lst (nV d.starts ++ [.int (x : Nat)])) hr')).store (o := .ins CL dx (putF "starts" (.ref r) (lF a b)))
    refine ⟨_, rfl, L, CL, dx, _, rfl, l2.1, T.clL, T.nS, few2, ?_⟩
    refine ⟨Nat.zero_le _, fun z hz => ?_⟩
    have l4 := l3.same (Same.new (o := .lst []) hz)
    have l5 := l4.putT (r := z) (T' := []) upd_same
    have b5 := (b3.then (Same.new (o := .lst []) hz)).store (o := .ins CL dx (putF "targets" (.ref z) (lF r b)))
    refine ⟨_, rfl, L, CL, dx, _, rfl, l4.1, T.clL, T.nT, few2, ?_⟩
    refine ⟨_, rfl, L, CL, dx, _, _, rfl, l5.1, T.clL, T.nS, lF_s r z, r, _, rfl, .inl l5.2.1.seq, _, _, rfl, rfl, one_le, fun p hp => ?_⟩
    refine W.good _ _ _ (st_add3 c1 c3) _ p (b5.then (Same.new hp)) (l5.line.same (Same.new hp)) (b5.free l5.1 hp) ?_
    have e : ((((nV (d.starts ++ [x])).length : Nat) : Int) - 1) = ((d.starts.length : Nat) : Int) := by
      rw [nV_length, List.length_append, List.length_singleton]; omega
    rw [upd_same]
    exact congrArg (fun z => some (HO.lst [V.int z])) e
theorem erase_is (l : List Nat) (n : Nat) : nV (l.take n) ++ nV (l.drop (n + 1)) = nV (l.eraseIdx n) := by rw [← nV_app, List.eraseIdx_eq_take_drop_succ]
theorem ok_rem (T : Txt K mg CL CC CR) (A : At K mg "remove_icebreaker" (top 33)) (cB : Cal P w K mg base (L2.CX P w) 3 "look_breaker" (spLookB CL CR)) :
    Cal P w K mg base (L2.CX P w) 4 "remove_icebreaker" (spD1 CL CR .removeIcebreaker) := by
  refine calX A sc_rem (fun vs H Q E h => ?_) (fun _ _ _ _ _ _ us hl => match us, hl with | [_, _], _ => rfl) (fun f cdv A outer s H vs Q E hr h => ?_)
  · obtain ⟨L, d, x, rfl, _⟩ := h; rfl
  · have tk := takes_of (X := cxOf (L2.CX P w) P w K mg base ["line", "number"] "remove_icebreaker" (defScope (top 33)) f cdv A outer s H E) (E := E) rfl rfl rfl rfl
    refine ⟨_, pss_cons (ps_expr (pe_cX cB hr tk (pa_cons (pv 0) (pa_cons (pv 1) pa_nil))))
      (pss_cons (ps_fld (pv 0) (pe_op op_cat (pe_slice sl_list (pe_fld (pv 0) rfl) po_none (po_some (pv 1))) (pe_slice sl_list (pe_fld (pv 0) rfl) (po_some (pe_op op_add (pv 1) pe_int)) po_none)) rfl)
      (pss_cons (ps_fld (pv 0) (pe_lst pa_nil) rfl)
      (pss_one (ps_ret (pe_lst (pa_cons (pe_callB call_len_seq (by rfl) T.bl.len PySem.boot_len (pa_cons (pe_fld (pv 0) rfl) pa_nil)) pa_nil)))))), ?_⟩
    obtain ⟨L, d, x, rfl, la, wf, W⟩ := h
    obtain ⟨dx, a, b, li⟩ := la
    walk_at "rd"
    refine ⟨_, rfl, _, rfl, L, d, x, rfl, li.line, fun c => W.bad _ (st_rem1 c), fun c1 => ?_⟩
    have c2 : x < d.starts.length := by omega
    refine ⟨_, rfl, L, CL, dx, _, _, rfl, li.1, T.clL, T.nS, lF_s a b, _, rfl, (x : Nat), rfl, a, _, rfl, li.2.1.seq, fun q1 n1 => ?_⟩
    have l1 := li.same (Same.new (o := .lst (cutV (nV d.starts) none (some (x : Nat)))) n1)
    have f1 : IsL (upd H q1 (.lst (cutV (nV d.starts) none (some (x : Nat))))) q1 (d.starts.take x) := by
      show upd _ _ _ _ = _
      rw [upd_same, cut_to _ (by omega)]
    refine ⟨_, rfl, L, CL, dx, _, _, rfl, l1.1, T.clL, T.nS, lF_s a b, _, rfl, _, _, rfl, rfl, ((x + 1 : Nat) : Int), by rw [Int.natCast_add]; rfl, a, _, rfl, l1.2.1.seq, fun q2 n2 => ?_⟩
    have l2 := l1.same (Same.new (o := .lst (cutV (nV d.starts) (some ((x + 1 : Nat) : Int)) none)) n2)
    have f2 : IsL (upd (upd H q1 (.lst (cutV (nV d.starts) none (some (x : Nat))))) q2 (.lst (cutV (nV d.starts) (some ((x + 1 : Nat) : Int)) none))) q2 (d.starts.drop (x + 1)) := by
      show upd _ _ _ _ = _
      rw [upd_same, cut_from]
    refine ⟨q1, q2, _, _, rfl, rfl, f1.same (Same.new n2), f2, ?_, fun r hr' => ?_⟩
    · rw [nV_length, nV_length]
      exact sized (m := 3) (by have := wf.s; rw [List.length_take, List.length_drop]; omega)
    have sr := Same.new (o := .lst (nV (d.starts.take x) ++ nV (d.starts.drop (x + 1)))) hr'
    have l3 := l2.same sr
    have f3 : IsL (upd (upd (upd H q1 (.lst (cutV (nV d.starts) none (some (x : Nat))))) q2 (.lst (cutV (nV d.starts) (some ((x + 1 : Nat) : Int)) none))) r (.lst (nV (d.starts.take x) ++ nV (d.starts.drop (x + 1))))) r (d.starts.eraseIdx x) := by
      show upd _ _ _ _ = _
      rw [upd_same, erase_is]
    have l4 := l3.putS f3
    have b4 := ((((But.refl H L).then (Same.new n1)).then (Same.new n2)).then sr).store (o := .ins CL dx (putF "starts" (.ref r) (lF a b)))
    refine ⟨_, rfl, L, CL, dx, _, rfl, l3.1, T.clL, T.nS, few2, ?_⟩
    refine ⟨Nat.zero_le _, fun z hz => ?_⟩
    have l5 := l4.same (Same.new (o := .lst []) hz)
    have l6 := l5.putT (r := z) (T' := []) upd_same
    have b6 := (b4.then (Same.new (o := .lst []) hz)).store (o := .ins CL dx (putF "targets" (.ref z) (lF r b)))
    refine ⟨_, rfl, L, CL, dx, _, rfl, l5.1, T.clL, T.nT, few2, ?_⟩
    refine ⟨_, rfl, L, CL, dx, _, _, rfl, l6.1, T.clL, T.nS, lF_s r z, r, _, rfl, .inl l6.2.1.seq, one_le, fun p hp => ?_⟩
    refine W.good _ _ _ (st_rem2 c1) _ p (b6.then (Same.new hp)) (l6.line.same (Same.new hp)) (b6.free l6.1 hp) ?_
    have e : (((nV (d.starts.eraseIdx x)).length : Nat) : Int) = ((d.starts.length - 1 : Nat) : Int) := by
      rw [nV_length, List.length_eraseIdx_of_lt c2]
    rw [upd_same, e]; rfl
theorem set_is (l : List Nat) (n x : Nat) (h : n < l.length) : (nV (l.take n) ++ [V.int (x : Nat)]) ++ nV (l.drop (n + 1)) = nV (l.set n x) := by
  have e : [V.int (x : Nat)] = nV [x] := rfl
  rw [e, ← nV_app, ← nV_app, List.set_eq_take_append_cons_drop, if_pos h, List.append_assoc]; rfl
theorem ok_setS (T : Txt K mg CL CC CR) (A : At K mg "set_start" (top 34)) (cP : Cal P w K mg base (L2.CX P w) 3 "look_position" (spLookP CR)) (cB : Cal P w K mg base (L2.CX P w) 3 "look_breaker" (spLookB CL CR)) :
    Cal P w K mg base (L2.CX P w) 4 "set_start" (spD2 CL CR .setStart) := by
  refine calX A sc_setS (fun vs H Q E h => ?_) (fun _ _ _ _ _ _ us hl => match us, hl with | [_, _, _], _ => rfl) (fun f cdv A outer s H vs Q E hr h => ?_)
  · obtain ⟨L, d, x, y, rfl, _⟩ := h; rfl
  · have tk := takes_of (X := cxOf (L2.CX P w) P w K mg base ["line", "number", "position", "former"] "set_start" (defScope (top 34)) f cdv A outer s H E) (E := E) rfl rfl rfl rfl
    refine ⟨_, pss_cons (ps_expr (pe_cX cB hr tk (pa_cons (pv 0) (pa_cons (pv 1) pa_nil))))
      (pss_cons (ps_expr (pe_cX cP hr tk (pa_cons (pv 2) pa_nil)))
      (pss_cons (ps_set (i := 3) sc_setS.nd rfl (Or.inl rfl) (pe_ix ix_list (pe_fld (pv 0) rfl) (pv 1) (fun _ _ => rfl)))
      (pss_cons (ps_fld (pv 0) (pe_op op_cat (pe_op op_cat (pe_slice sl_list (pe_fld (pv 0) rfl) po_none (po_some (pv 1))) (pe_lst (pa_cons (pv 2) pa_nil))) (pe_slice sl_list (pe_fld (pv 0) rfl) (po_some (pe_op op_add (pv 1) pe_int)) po_none)) rfl)
      (pss_cons (ps_fld (pv 0) (pe_lst pa_nil) rfl)
      (pss_one (ps_ret (pe_lst (pa_cons (pv 3) pa_nil)))))))), ?_⟩
    obtain ⟨L, d, x, y, rfl, la, wf, W⟩ := h
    obtain ⟨dx, a, b, li⟩ := la
    walk_at "rd"
    refine ⟨_, rfl, _, rfl, L, d, x, rfl, li.line, fun c => W.bad _ (st_set1 c), fun c1 => ?_⟩
    have c2 : x < d.starts.length := by omega
    refine ⟨_, rfl, y, rfl, fun c => W.bad _ (st_set2 c1 c), fun c3 => ?_⟩
    refine ⟨_, rfl, L, CL, dx, _, _, rfl, li.1, T.clL, T.nS, lF_s a b, _, rfl, a, _, _, .int (d.starts.getD x 0 : Nat), rfl, rfl, li.2.1.seq, atI_nat (nV_at (getD_of c2)), ?_⟩
    refine ⟨_, rfl, L, CL, dx, _, _, rfl, li.1, T.clL, T.nS, lF_s a b, _, rfl, (x : Nat), rfl, a, _, rfl, li.2.1.seq, fun q1 n1 => ?_⟩
    have l1 := li.same (Same.new (o := .lst (cutV (nV d.starts) none (some (x : Nat)))) n1)
    have f1 : IsL (upd H q1 (.lst (cutV (nV d.starts) none (some (x : Nat))))) q1 (d.starts.take x) := by
      show upd _ _ _ _ = _
      rw [upd_same, cut_to _ (by omega)]
    refine ⟨_, rfl, one_le, fun q2 n2 => ?_⟩
    have l2 := l1.same (Same.new (o := .lst [.int (y : Nat)]) n2)
    refine ⟨q1, q2, _, _, rfl, rfl, f1.same (Same.new n2), upd_same, ?_, fun q3 n3 => ?_⟩
    · rw [nV_length]
      exact sized (m := 4) (by have := wf.s; rw [List.length_take]; show _ + 1 ≤ 4; omega)
    have l3 := l2.same (Same.new (o := .lst (nV (d.starts.take x) ++ [.int (y : Nat)])) n3)
    refine ⟨_, rfl, L, CL, dx, _, _, rfl, l3.1, T.clL, T.nS, lF_s a b, _, rfl, _, _, rfl, rfl, ((x + 1 : Nat) : Int), by rw [Int.natCast_add]; rfl, a, _, rfl, l3.2.1.seq, fun q4 n4 => ?_⟩
    have s4 := Same.new (o := .lst (cutV (nV d.starts) (some ((x + 1 : Nat) : Int)) none)) n4
    have l4 := l3.same s4
    refine ⟨q3, q4, nV (d.starts.take x) ++ [.int (y : Nat)], nV (d.starts.drop (x + 1)), rfl, rfl, s4 _ _ upd_same, by rw [upd_same, cut_from], ?_, fun r hr' => ?_⟩
    · rw [List.length_append, nV_length, nV_length]
      exact sized (m := 4) (by have := wf.s; rw [List.length_take, List.length_drop]; show _ + 1 + _ ≤ 4; omega)
    have sr := Same.new (o := .lst ((nV (d.starts.take x) ++ [.int (y : Nat)]) ++ nV (d.starts.drop (x + 1)))) hr'
    have l5 := l4.same sr
    have f5 : IsL (upd (upd (upd (upd (upd H q1 (.lst (cutV (nV d.starts) none (some (x : Nat))))) q2 (.lst [.int (y : Nat)])) q3 (.lst (nV (d.starts.take x) ++ [.int (y : Nat)]))) q4 (.lst (cutV (nV d.starts) (some ((x + 1 : Nat) : Int)) none))) r (.lst ((nV (d.starts.take x) ++ [.int (y : Nat)]) ++ nV (d.starts.drop (x + 1))))) r (d.starts.set x y) := by
      show upd _ _ _ _ = _
      rw [upd_same, set_is _ _ _ c2]
    have l6 := l5.putS f5
    have b6 := ((((((But.refl H L).then (Same.new n1)).then (Same.new n2)).then (Same.new n3)).then s4).then sr).store (o := .ins CL dx (putF "starts" (.ref r) (lF a b)))
    refine ⟨_, rfl, L, CL, dx, _, rfl, l5.1, T.clL, T.nS, few2, ?_⟩
    refine ⟨Nat.zero_le _, fun z hz => ?_⟩
    have l7 := l6.same (Same.new (o := .lst []) hz)
    have l8 := l7.putT (r := z) (T' := []) upd_same
    have b8 := (b6.then (Same.new (o := .lst []) hz)).store (o := .ins CL dx (putF "targets" (.ref z) (lF r b)))
    refine ⟨_, rfl, L, CL, dx, _, rfl, l7.1, T.clL, T.nT, few2, ?_⟩
    refine ⟨_, rfl, one_le, fun p hp => ?_⟩
    exact W.good _ _ _ (st_set3 c1 c3) _ p (b8.then (Same.new hp)) (l8.line.same (Same.new hp)) (b8.free l8.1 hp) upd_same
theorem ok_prev (T : Txt K mg CL CC CR) (A : At K mg "preview_request" (top 35)) (cP : Cal P w K mg base (L2.CX P w) 3 "look_position" (spLookP CR)) (cA : Cal P w K mg base (L2.CX P w) 3 "look_any" (spLookA CL CR))
    (cC : Cal P w K mg base CX0 5 "covered_all" (spSS covAll anyS)) (cD : Cal P w K mg base CX0 4 "cover_distance" (spPTi covDist)) (cV : Cal P w K mg base CX0 4 "covered" (spPT covered)) :
    Cal P w K mg base (L2.CX P w) 6 "preview_request" (spPrev CL CR) := by
  refine calX A sc_prev (fun vs H Q E h => ?_) (fun _ _ _ _ _ _ us hl => match us, hl with | [_, _], _ => rfl) (fun f cdv A outer s H vs Q E hr h => ?_)
  · obtain ⟨L, d, x, rfl, _⟩ := h; rfl
  · have tk := takes_of (X := cxOf (L2.CX P w) P w K mg base ["line", "target", "positions"] "preview_request" (defScope (top 35)) f cdv A outer s H E) (E := E) rfl rfl rfl rfl
    refine ⟨_, pss_cons (ps_expr (pe_cX cP hr tk (pa_cons (pv 1) pa_nil)))
      (pss_cons (ps_expr (pe_cX cA hr tk (pa_cons (pv 0) pa_nil)))
      (pss_cons (ps_set (i := 2) sc_prev.nd rfl (Or.inl rfl) (pe_c cC hr (pa_cons (pe_fld (pv 0) rfl) (pa_cons (pe_fld (pv 0) rfl) pa_nil))))
      (pss_one (ps_ret (pe_op op_cat (pe_lst (pa_cons (pe_c cD hr (pa_cons (pv 2) (pa_cons (pv 1) pa_nil))) pa_nil)) (pe_c cV hr (pa_cons (pv 2) (pa_cons (pv 1) pa_nil)))))))), ?_⟩
    obtain ⟨L, d, x, rfl, la, wf, k1, k2, k3⟩ := h
    obtain ⟨dx, a, b, li⟩ := la
    walk_at "rd"
    refine ⟨_, rfl, x, rfl, k1, fun c1 => ?_⟩
    refine ⟨_, rfl, L, d, rfl, li.line, k2 c1, fun c2 H1 s1 => ?_⟩
    have l1 := li.same s1
    refine ⟨_, rfl, L, CL, dx, _, _, rfl, l1.1, T.clL, T.nS, lF_s a b, _, rfl, L, CL, dx, _, _, rfl, l1.1, T.clL, T.nT, lF_t a b, ?_⟩
    refine ⟨a, b, d.starts, d.requests, rfl, l1.2.1, l1.2.2, wf.s, Nat.le_succ_of_le wf.t, trivial, fun H2 q s2 n2 h2 => ?_⟩
    have hz : (covAll d.starts d.requests).length ≤ 3 := by rw [covAll_length]; exact wf.s
    refine ⟨_, rfl, _, rfl, q, curM d, x, rfl, h2, hz, fun H3 s3 => ?_⟩
    refine ⟨one_le, fun q4 n4 => ?_⟩
    have s4 := Same.new (o := .lst [.int (covDist (curM d) x : Nat)]) n4
    refine ⟨_, rfl, _, rfl, q, curM d, x, rfl, h2.same (s3.trans s4), hz, fun H5 q5 s5 n5 h5 => ?_⟩
    refine ⟨q4, q5, _, _, rfl, rfl, s5 _ _ upd_same, h5, ?_, fun p hp => ?_⟩
    · rw [nV_length, covered_length]
      exact sized (m := 4) (by have : (curM d).length ≤ 3 := hz; show 1 + _ ≤ 4; omega)
    · have sA := (((s1.trans s2).trans s3).trans s4).trans s5
      exact k3 c1 c2 _ p (sA.upd hp) (sA.free hp) upd_same
theorem prev_deed (c : Cal P w K mg base (L2.CX P w) 6 "preview_request" (spPrev CL CR)) : Cal P w K mg base (L2.CX P w) 6 "preview_request" (spD1 CL CR .previewRequest) := by
  obtain ⟨f, fd, ps, F, h1, h2, h3⟩ := c.ex
  refine ⟨f, fd, ps, F.imp fun vs H Q E h => ?_, h1, h2, h3⟩
  obtain ⟨L, d, x, rfl, la, wf, W⟩ := h
  exact ⟨L, d, x, rfl, la, wf, fun c => W.bad _ (st_prev1 c), fun c c2 => W.bad _ (st_prev2 c c2), fun c c2 => wish_ret W la (st_prev3 c c2)⟩
theorem ok_req (T : Txt K mg CL CC CR) (A : At K mg "request" (top 36)) (cP : Cal P w K mg base (L2.CX P w) 6 "preview_request" (spPrev CL CR)) : Cal P w K mg base (L2.CX P w) 7 "request" (spD1 CL CR .request) := by
  refine calX A sc_req (fun vs H Q E h => ?_) (fun _ _ _ _ _ _ us hl => match us, hl with | [_, _], _ => rfl) (fun f cdv A outer s H vs Q E hr h => ?_)
  · obtain ⟨L, d, x, rfl, _⟩ := h; rfl
  · have tk := takes_of (X := cxOf (L2.CX P w) P w K mg base ["line", "target", "found"] "request" (defScope (top 36)) f cdv A outer s H E) (E := E) rfl rfl rfl rfl
    refine ⟨_, pss_cons (ps_set (i := 2) sc_req.nd rfl (Or.inl rfl) (pe_cX cP hr tk (pa_cons (pv 0) (pa_cons (pv 1) pa_nil))))
      (pss_cons (ps_if (pt_cmpR op_eq (pe_callB call_len_seq (by rfl) T.bl.len PySem.boot_len (pa_cons (pe_fld (pv 0) rfl) pa_nil)) (C8.pe_gc (by rfl) T.cMR) (nomark _)) (pss_one (ps_raise rfl tk (pmk_ref T hr (C8.pe_gc (by rfl) T.cFU)))) pss_nil)
      (pss_cons (ps_fld (pv 0) (pe_op op_cat (pe_fld (pv 0) rfl) (pe_lst (pa_cons (pv 1) pa_nil))) rfl)
      (pss_one (ps_ret (pv 2))))), ?_⟩
    obtain ⟨L, d, x, rfl, la, wf, W⟩ := h
    obtain ⟨dx, a, b, li⟩ := la
    walk_at "rd"
    refine ⟨_, rfl, _, rfl, L, d, x, rfl, li.line, wf, fun c => W.bad _ (st_req1 c), fun c c2 => W.bad _ (st_req2 c c2), fun c1 c2 H1 q s1 n1 h1 => ?_⟩
    have l1 := li.same s1
    have nl := nV_length d.requests
    refine ⟨_, rfl, L, CL, dx, _, _, rfl, l1.1, T.clL, T.nT, lF_t a b, b, _, rfl, .inl l1.2.2.seq, rfl, _, rfl, iteD (fun c => ?_) fun c => ?_⟩
    · have c3 := V.int.inj c
      exact ⟨(by decide : 1 ≤ 1000), fun a ha => rd_raise ((W.bad _ (st_req3 c1 c2 (by omega))).later s1) a ha⟩
    · have c3 : ¬ 8 ≤ d.requests.length := fun z => c (by rw [nl, show d.requests.length = 8 by have := wf.t; omega]; rfl)
      refine ⟨_, rfl, L, CL, dx, _, _, rfl, l1.1, T.clL, T.nT, lF_t a b, _, rfl, one_le, fun q2 n2 => ?_⟩
      have l2 := l1.same (Same.new (o := .lst [.int (x : Nat)]) n2)
      refine ⟨b, q2, _, _, rfl, rfl, l2.2.2, upd_same, ?_, fun r hr' => ?_⟩
      · rw [nV_length]
        exact sized (m := 10) (by show d.requests.length + 1 ≤ 10; omega)
      have sr := Same.new (o := .lst (nV d.requests ++ [.int (x : Nat)])) hr'
      have l3 := l2.same sr
      have f3 : IsL (upd (upd H1 q2 (.lst [.int (x : Nat)])) r (.lst (nV d.requests ++ [.int (x : Nat)]))) r (d.requests ++ [x]) := by
        show upd _ _ _ _ = _
        rw [upd_same, nV_app]; rfl
      have l4 := l3.putT f3
      have hqL : q ≠ L := ne_ins (a := a) l1.1 h1
      refine ⟨_, rfl, L, CL, dx, _, rfl, l3.1, T.clL, T.nT, few2, ?_⟩
      have b4 := ((((But.refl H L).then s1).then (Same.new n2)).then sr).store (o := .ins CL dx (putF "targets" (.ref r) (lF a b)))
      refine ⟨_, rfl, W.good _ _ _ (st_req4 c1 c2 c3) _ q b4 l4.line n1 ?_⟩
      rw [upd_ne hqL]
      have h3 := (h1.same (Same.new (o := .lst [.int (x : Nat)]) n2)).same sr
      rw [show upd (upd H1 q2 (.lst [.int (x : Nat)])) r (.lst (nV d.requests ++ [.int (x : Nat)])) q = some (.lst (nV (covDist (curM d) x :: covered (curM d) x))) from h3, nV_zs]
      rfl
theorem ok_undo (T : Txt K mg CL CC CR) (A : At K mg "undo_request" (top 37)) : Cal P w K mg base (L2.CX P w) 3 "undo_request" (spD0 CL CR .undoRequest) := by
  refine calX A sc_undo (fun vs H Q E h => ?_) (fun _ _ _ _ _ _ us hl => match us, hl with | [_], _ => rfl) (fun f cdv A outer s H vs Q E hr h => ?_)
  · obtain ⟨L, d, rfl, _⟩ := h; rfl
  · have tk := takes_of (X := cxOf (L2.CX P w) P w K mg base ["line", "target"] "undo_request" (defScope (top 37)) f cdv A outer s H E) (E := E) rfl rfl rfl rfl
    refine ⟨_, pss_cons (ps_if (pt_cmpR (op_eqD hr.units) (pe_fld (pv 0) rfl) (pe_lst pa_nil) (nomark _)) (pss_one (ps_raise rfl tk (pmk_ref T hr (C8.pe_gc (by rfl) T.cNT)))) pss_nil)
      (pss_cons (ps_set (i := 1) sc_undo.nd rfl (Or.inl rfl) (pe_ix ix_list (pe_fld (pv 0) rfl) (pe_un un_neg pe_int) (fun _ _ => rfl)))
      (pss_cons (ps_fld (pv 0) (pe_slice sl_list (pe_fld (pv 0) rfl) po_none (po_some (pe_un un_neg pe_int))) rfl)
      (pss_one (ps_ret (pe_lst (pa_cons (pv 1) pa_nil)))))), ?_⟩
    obtain ⟨L, d, rfl, la, wf, W⟩ := h
    obtain ⟨dx, a, b, li⟩ := la
    walk_at "rd"
    refine ⟨_, rfl, L, CL, dx, _, _, rfl, li.1, T.clL, T.nT, lF_t a b, Nat.zero_le _, fun p2 hp2 => rd_eqNil li.2.2 hp2 ⟨_, rfl, iteD (fun c => ?_) fun c => ?_⟩⟩
    · exact ⟨(by decide : 1 ≤ 1000), fun a ha => rd_raise ((W.bad _ (st_undo1 c)).later (Same.new hp2)) a ha⟩
    · have s1 := Same.new (o := .lst []) hp2
      have l1 := li.same s1
      obtain ⟨l, x, el⟩ : ∃ l x, d.requests = l ++ [x] := ⟨_, _, (List.dropLast_concat_getLast c).symm⟩
      have ev : nV d.requests = nV l ++ [.int (x : Nat)] := by rw [el, nV_app]; rfl
      refine ⟨_, rfl, L, CL, dx, _, _, rfl, l1.1, T.clL, T.nT, lF_t a b, 1, rfl, b, _, _, .int (x : Nat), rfl, rfl, l1.2.2.seq, by rw [ev]; exact atI_last _ _, ?_⟩
      refine ⟨_, rfl, L, CL, dx, _, _, rfl, l1.1, T.clL, T.nT, lF_t a b, 1, rfl, -1, rfl, b, _, rfl, l1.2.2.seq, fun r hr' => ?_⟩
      have sr := Same.new (o := .lst (cutV (nV d.requests) none (some (-1)))) hr'
      have l2 := l1.same sr
      have f2 : IsL (upd (upd H p2 (.lst [])) r (.lst (cutV (nV d.requests) none (some (-1))))) r l := by
        show upd _ _ _ _ = _
        rw [upd_same, cut_last, el, List.dropLast_concat]
      have l3 := l2.putT f2
      refine ⟨_, rfl, L, CL, dx, _, rfl, l2.1, T.clL, T.nT, few2, ?_⟩
      have b3 := (((But.refl H L).then s1).then sr).store (o := .ins CL dx (putF "targets" (.ref r) (lF a b)))
      refine ⟨_, rfl, one_le, fun p hp => ?_⟩
      exact W.good _ _ _ (st_undo2 el) _ p (b3.then (Same.new hp)) (l3.line.same (Same.new hp)) (b3.free l3.1 hp) upd_same
theorem ok_clear (T : Txt K mg CL CC CR) (A : At K mg "clear_requests" (top 38)) : Cal P w K mg base (L2.CX P w) 2 "clear_requests" (spD0 CL CR .clearRequests) := by
  refine calX A sc_clear (fun vs H Q E h => ?_) (fun _ _ _ _ _ _ us hl => match us, hl with | [_], _ => rfl) (fun f cdv A outer s H vs Q E hr h => ?_)
  · obtain ⟨L, d, rfl, _⟩ := h; rfl
  · refine ⟨_, pss_cons (ps_set (i := 1) sc_clear.nd rfl (Or.inl rfl) (pe_callB call_len_seq (by rfl) T.bl.len PySem.boot_len (pa_cons (pe_fld (pv 0) rfl) pa_nil)))
      (pss_cons (ps_fld (pv 0) (pe_lst pa_nil) rfl) (pss_one (ps_ret (pe_lst (pa_cons (pv 1) pa_nil))))), ?_⟩
    obtain ⟨L, d, rfl, la, wf, W⟩ := h
    obtain ⟨dx, a, b, li⟩ := la
    walk_at "rd"
    refine ⟨_, rfl, L, CL, dx, _, _, rfl, li.1, T.clL, T.nT, lF_t a b, b, _, rfl, .inl li.2.2.seq, ?_⟩
    refine ⟨Nat.zero_le _, fun z hz => ?_⟩
    have l1 := li.same (Same.new (o := .lst []) hz)
    have l2 := l1.putT (r := z) (T' := []) upd_same
    have b2 := ((But.refl H L).then (Same.new (o := .lst []) hz)).store (o := .ins CL dx (putF "targets" (.ref z) (lF a b)))
    refine ⟨_, rfl, L, CL, dx, _, rfl, l1.1, T.clL, T.nT, few2, ?_⟩
    refine ⟨_, rfl, one_le, fun p hp => ?_⟩
    refine W.good _ _ _ st_clear _ p (b2.then (Same.new hp)) (l2.line.same (Same.new hp)) (b2.free l2.1 hp) ?_
    rw [upd_same, nV_length]; rfl
end
end Ic

namespace Ic
open PySem PySem.Spec PyProof.Rows L2
local macro_rules | `(tactic| walk_at "rd") => `(tactic| dsimp only [tSeq, tAsg, tRet, tIfS, tTest, tOp, tUn, tVar, tC, tLst, tTup, tCons, tNil, tCB, tBM, tBM0, tCall, gName, gSub, tNext, tDrop, tDNewT, tDGet, sDPut, tFld, sFld, tMkO, tVeI, tOst, tSl, tPart, tNoPart, cxOf, Cx.nox])
def covTot (d : Km559.Dispatch) : Nat := (covDs d.starts d.requests).sum
def optM (d : Km559.Dispatch) : Nat := C d.starts d.requests
def grTot (d : Km559.Dispatch) : Nat := (gr d.starts d.requests).2
theorem covTot_is (d : Km559.Dispatch) : Km559.totalDistance d = covTot d := covDs_sum _ _
theorem optM_is {d : Km559.Dispatch} (h : d.starts ≠ []) : Km559.optimalDistance d.starts d.requests = optM d := opt_is _ _ (.inl h)
theorem grTot_is (d : Km559.Dispatch) : (Km559.greedy d.starts d.requests).1 = grTot d := by unfold grTot; rw [gr_is]
theorem grAll_is (d : Km559.Dispatch) : (Km559.greedy d.starts d.requests).2 = (gr d.starts d.requests).1 := by rw [gr_is]
theorem opt_cov {d : Km559.Dispatch} (h : d.starts ≠ []) : optM d ≤ covTot d := C_cov _ _ h
theorem opt_gr {d : Km559.Dispatch} (h : d.starts ≠ []) : optM d ≤ grTot d := by rw [← grTot_is]; exact C_greedy _ _ h
theorem zs_sum : ∀ l : List Nat, (zs l).sum = ((l.sum : Nat) : Int)
  | [] => rfl
  | a :: l => by
    show ((a : Int) :: zs l).sum = _
    rw [List.sum_cons, List.sum_cons, zs_sum l, Int.natCast_add]
section
open Km559
variable {d : Dispatch} {x y : Nat}
theorem sv_list : step (some d) .listRequests = (some d, ⟨(d.requests.length : Nat), zs d.requests⟩) := rfl
theorem sv_cur : step (some d) .currentPositions = (some d, ⟨((curM d).length : Nat), zs (curM d)⟩) := by
  show (some d, listResult (Km559.currentPositions d)) = _
  rw [curM_is]; rfl
theorem sv_start : step (some d) .startPositions = (some d, ⟨(d.starts.length : Nat), zs d.starts⟩) := rfl
theorem sv_total : step (some d) .totalDistance = (some d, ⟨(covTot d : Nat), zs []⟩) := by
  show (some d, number ((Km559.totalDistance d : Nat) : Int)) = _
  rw [covTot_is]; rfl
theorem sv_gd1 (k : d.starts = []) : step (some d) .greedyDistance = (some d, error (-6)) := congrArg (Prod.mk _) (if_pos (no_starts k))
theorem sv_gd2 (k : d.starts ≠ []) : step (some d) .greedyDistance = (some d, ⟨(grTot d : Nat), zs []⟩) := by
  refine (congrArg (Prod.mk _) (if_neg (some_starts k))).trans ?_
  rw [grTot_is]; rfl
theorem sv_gp1 (k : d.starts = []) : step (some d) .greedyPositions = (some d, error (-6)) := congrArg (Prod.mk _) (if_pos (no_starts k))
theorem sv_gp2 (k : d.starts ≠ []) : step (some d) .greedyPositions = (some d, ⟨((gr d.starts d.requests).1.length : Nat), zs (gr d.starts d.requests).1⟩) := by
  refine (congrArg (Prod.mk _) (if_neg (some_starts k))).trans ?_
  rw [grAll_is]; rfl
theorem sv_od1 (k : d.starts = []) : step (some d) .optimalDistance = (some d, error (-6)) := congrArg (Prod.mk _) (if_pos (no_starts k))
theorem sv_od2 (k : d.starts ≠ []) : step (some d) .optimalDistance = (some d, ⟨(optM d : Nat), zs []⟩) := by
  refine (congrArg (Prod.mk _) (if_neg (some_starts k))).trans ?_
  rw [optM_is k]; rfl
theorem sv_op1 (k : d.starts = []) : step (some d) .optimalPlan = (some d, error (-6)) := congrArg (Prod.mk _) (if_pos (no_starts k))
theorem sv_op2 (k : d.starts ≠ []) : step (some d) .optimalPlan = (some d, ⟨((plan d.starts d.requests).length : Nat), zs (plan d.starts d.requests)⟩) := by
  refine (congrArg (Prod.mk _) (if_neg (some_starts k))).trans ?_
  rw [plan_is _ _ k]; rfl
theorem sv_cb1 (k : d.starts = []) : step (some d) .competitiveBound = (some d, error (-6)) := congrArg (Prod.mk _) (if_pos (no_starts k))
theorem sv_cb2 (k : d.starts ≠ []) : step (some d) .competitiveBound = (some d, ⟨(d.starts.length * optM d + Km559.spread d.starts : Nat), zs []⟩) := by
  refine (congrArg (Prod.mk _) (if_neg (some_starts k))).trans ?_
  rw [optM_is k]; rfl
theorem sv_spread : step (some d) .spread = (some d, ⟨(Km559.spread d.starts : Nat), zs [Km559.spread (curM d)]⟩) := by
  show (some d, (⟨((Km559.spread d.starts : Nat) : Int), [((Km559.spread (Km559.currentPositions d) : Nat) : Int)]⟩ : Km559.Result)) = _
  rw [curM_is]; rfl
theorem sv_ex1 (k : d.starts = []) : step (some d) .excess = (some d, error (-6)) := congrArg (Prod.mk _) (if_pos (no_starts k))
theorem sv_ex2 (k : d.starts ≠ []) : step (some d) .excess = (some d, ⟨(covTot d - optM d : Nat), zs [grTot d - optM d]⟩) := by
  refine (congrArg (Prod.mk _) (if_neg (some_starts k))).trans ?_
  rw [optM_is k, covTot_is, grTot_is]; rfl
theorem sv_dr1 (h : 99 < x) : step (some d) (.optimalDistanceWithRequest x) = (some d, error (-22)) := congrArg (Prod.mk _) (if_pos h)
theorem sv_dr2 (h : ¬ 99 < x) (k : d.starts = []) : step (some d) (.optimalDistanceWithRequest x) = (some d, error (-6)) := congrArg (Prod.mk _) ((if_neg h).trans (if_pos (no_starts k)))
theorem sv_dr3 (h : ¬ 99 < x) (k : d.starts ≠ []) : step (some d) (.optimalDistanceWithRequest x) = (some d, ⟨(C d.starts (d.requests ++ [x]) : Nat), zs []⟩) := by
  refine (congrArg (Prod.mk _) ((if_neg h).trans (if_neg (some_starts k)))).trans ?_
  rw [opt_is _ _ (.inl k)]; rfl
theorem sv_rs1 (h : 99 < x) : step (some d) (.responders x) = (some d, error (-22)) := congrArg (Prod.mk _) (if_pos h)
theorem sv_rs2 (h : ¬ 99 < x) (k : d.starts = []) : step (some d) (.responders x) = (some d, error (-6)) := congrArg (Prod.mk _) ((if_neg h).trans (if_pos (no_starts k)))
theorem sv_rs3 (h : ¬ 99 < x) (k : d.starts ≠ []) : step (some d) (.responders x) = (some d, ⟨((movers (curM d) x).length : Nat), zs (movers (curM d) x)⟩) := by
  refine (congrArg (Prod.mk _) ((if_neg h).trans (if_neg (some_starts k)))).trans ?_
  have e : icebreakerCount d = (curM d).length := (curM_length d).symm
  rw [e, curM_is, movers_is]; rfl
theorem sv_dp : step (some d) .distancesPerRequest = (some d, ⟨((covDs d.starts d.requests).length : Nat), zs (covDs d.starts d.requests)⟩) := by
  show (some d, listResult ((List.range d.requests.length).map fun index => distanceMoved (doubleCoverage d.starts (d.requests.take index)).2 (doubleCoverage d.starts (d.requests.take (index + 1))).2)) = _
  rw [covDs_is]; rfl
theorem sv_sv1 (h : d.requests.length ≤ x) : step (some d) (.savingWithoutRequest x) = (some d, error (-2)) := congrArg (Prod.mk _) (if_pos h)
theorem sv_sv2 (h : ¬ d.requests.length ≤ x) (k : d.starts ≠ []) : step (some d) (.savingWithoutRequest x) = (some d, ⟨(optM d - C d.starts (d.requests.eraseIdx x) : Nat), zs [C d.starts (d.requests.eraseIdx x)]⟩) := by
  refine (congrArg (Prod.mk _) (if_neg h)).trans ?_
  rw [optM_is k, opt_is _ _ (.inl k)]; rfl
theorem sv_di1 (h : 99 < x) : step (some d) (.distancesWithIcebreaker x) = (some d, error (-22)) := congrArg (Prod.mk _) (if_pos h)
theorem sv_di2 (h : ¬ 99 < x) (k : 3 ≤ d.starts.length) : step (some d) (.distancesWithIcebreaker x) = (some d, error (-28)) := congrArg (Prod.mk _) ((if_neg h).trans (if_pos k))
theorem sv_di3 (h : ¬ 99 < x) (k : ¬ 3 ≤ d.starts.length) : step (some d) (.distancesWithIcebreaker x) = (some d, ⟨(C (d.starts ++ [x]) d.requests : Nat), zs [(covDs (d.starts ++ [x]) d.requests).sum]⟩) := by
  refine (congrArg (Prod.mk _) ((if_neg h).trans (if_neg k))).trans ?_
  rw [opt_is _ _ (.inl (by simp)), covDs_sum]; rfl
theorem sv_sum : step (some d) .summary = (some d, ⟨(d.starts.length : Nat), zs [d.requests.length, covTot d]⟩) := by
  show (some d, (⟨((icebreakerCount d : Nat) : Int), [((d.requests.length : Nat) : Int), ((Km559.totalDistance d : Nat) : Int)]⟩ : Km559.Result)) = _
  rw [covTot_is]; rfl
end
def spCounted : Sp := fun vs H Q _ => ∃ (p : Addr) (l : List Nat), vs = [.ref p] ∧ IsL H p l ∧ l.length ≤ 1000 ∧ Ret H Q (l.length :: l)
def spVi (CL : Addr) (f : Km559.Dispatch → Nat) (pre : List Nat → Prop) : Sp := fun vs H Q _ => ∃ (L : Addr) (d : Km559.Dispatch), vs = [.ref L] ∧ LineAt CL H L d ∧ Wf d ∧ pre d.starts ∧ RetI H Q (f d : Nat)
theorem sc_v49 : FnScope ["numbers"] ["numbers"] (defScope (top 49)) := ⟨rfl, rfl, rfl, by decide +kernel, rfl, by decide +kernel, by decide +kernel⟩
theorem sc_v50 : FnScope ["line"] ["line"] (defScope (top 50)) := ⟨rfl, rfl, rfl, by decide +kernel, rfl, by decide +kernel, by decide +kernel⟩
theorem sc_v51 : FnScope ["line"] ["line"] (defScope (top 51)) := ⟨rfl, rfl, rfl, by decide +kernel, rfl, by decide +kernel, by decide +kernel⟩
theorem sc_v52 : FnScope ["line"] ["line"] (defScope (top 52)) := ⟨rfl, rfl, rfl, by decide +kernel, rfl, by decide +kernel, by decide +kernel⟩
theorem sc_v53 : FnScope ["line"] ["line"] (defScope (top 53)) := ⟨rfl, rfl, rfl, by decide +kernel, rfl, by decide +kernel, by decide +kernel⟩
theorem sc_v54 : FnScope ["line"] ["line"] (defScope (top 54)) := ⟨rfl, rfl, rfl, by decide +kernel, rfl, by decide +kernel, by decide +kernel⟩
theorem sc_v55 : FnScope ["line"] ["line"] (defScope (top 55)) := ⟨rfl, rfl, rfl, by decide +kernel, rfl, by decide +kernel, by decide +kernel⟩
theorem sc_v56 : FnScope ["line"] ["line"] (defScope (top 56)) := ⟨rfl, rfl, rfl, by decide +kernel, rfl, by decide +kernel, by decide +kernel⟩
theorem sc_v57 : FnScope ["line"] ["line"] (defScope (top 57)) := ⟨rfl, rfl, rfl, by decide +kernel, rfl, by decide +kernel, by decide +kernel⟩
theorem sc_v58 : FnScope ["line"] ["line"] (defScope (top 58)) := ⟨rfl, rfl, rfl, by decide +kernel, rfl, by decide +kernel, by decide +kernel⟩
theorem sc_v59 : FnScope ["line"] ["line"] (defScope (top 59)) := ⟨rfl, rfl, rfl, by decide +kernel, rfl, by decide +kernel, by decide +kernel⟩
theorem sc_v60 : FnScope ["line"] ["line"] (defScope (top 60)) := ⟨rfl, rfl, rfl, by decide +kernel, rfl, by decide +kernel, by decide +kernel⟩
theorem sc_v61 : FnScope ["line"] ["line"] (defScope (top 61)) := ⟨rfl, rfl, rfl, by decide +kernel, rfl, by decide +kernel, by decide +kernel⟩
theorem sc_v62 : FnScope ["line", "least"] ["line"] (defScope (top 62)) := ⟨rfl, rfl, rfl, by decide +kernel, rfl, by decide +kernel, by decide +kernel⟩
section
variable {P : Program} {w : World} {K : PySem.W.Frag} {mg : Str → Option Value} {base : Heap} {CL CC CR : Addr}
theorem ok_counted (T : Txt K mg CL CC CR) (A : At K mg "counted" (top 49)) : Cal P w K mg base CX0 1 "counted" spCounted := by
  refine cal0 A sc_v49 (fun vs H Q E h => ?_) (fun _ _ _ _ _ _ us hl => match us, hl with | [_], _ => rfl) (fun f cdv A outer s H vs Q E hr h => ?_)
  · obtain ⟨p, l, rfl, _⟩ := h; rfl
  · refine ⟨_, pss_one (ps_ret (pe_op op_cat (pe_lst (pa_cons (pe_callB call_len_seq (by rfl) T.bl.len PySem.boot_len (pa_cons (pv 0) pa_nil)) pa_nil)) (pv 0))), ?_⟩
    obtain ⟨p, l, rfl, hp, hz, k⟩ := h
    walk_at "rd"
    refine ⟨_, rfl, p, _, rfl, .inl hp.seq, one_le, fun q hq => ?_⟩
    have s1 := Same.new (o := .lst [.int ((nV l).length : Nat)]) hq
    refine ⟨_, rfl, q, p, _, _, rfl, rfl, upd_same, hp.same s1, ?_, fun r hr' => ?_⟩
    · rw [nV_length]
      exact sized (m := 2000) (by show 1 + l.length ≤ 2000; omega)
    · refine k _ r (s1.upd hr') (s1.free hr') ?_
      show upd _ _ _ _ = _
      rw [upd_same, nV_length]; rfl
theorem ok_ctot (T : Txt K mg CL CC CR) (A : At K mg "cover_total" (top 50)) (cC : Cal P w K mg base CX0 5 "cover_distances" (spSS covDs anyS)) : Cal P w K mg base CX0 6 "cover_total" (spVi CL covTot anyS) := by
  refine cal0 A sc_v50 (fun vs H Q E h => ?_) (fun _ _ _ _ _ _ us hl => match us, hl with | [_], _ => rfl) (fun f cdv A outer s H vs Q E hr h => ?_)
  · obtain ⟨L, d, rfl, _⟩ := h; rfl
  · refine ⟨_, pss_one (ps_ret (pe_callB (cr_sum rfl) (by rfl) T.bl.sum (by decide +kernel) (pa_cons (pe_c cC hr (pa_cons (pe_fld (pv 0) rfl) (pa_cons (pe_fld (pv 0) rfl) pa_nil))) pa_nil))), ?_⟩
    obtain ⟨L, d, rfl, ⟨dx, a, b, li⟩, wf, _, k⟩ := h
    walk_at "rd"
    refine ⟨_, rfl, L, CL, dx, _, _, rfl, li.1, T.clL, T.nS, lF_s a b, _, rfl, L, CL, dx, _, _, rfl, li.1, T.clL, T.nT, lF_t a b, ?_⟩
    refine ⟨a, b, d.starts, d.requests, rfl, li.2.1, li.2.2, wf.s, Nat.le_succ_of_le wf.t, trivial, fun H1 q s1 n1 h1 => ?_⟩
    refine ⟨q, _, rfl, seq_zs h1, ?_⟩
    rw [zs_sum]
    exact k H1 s1
theorem ok_optimum (T : Txt K mg CL CC CR) (A : At K mg "optimum" (top 51)) (cC : Cal P w K mg base CX0 6 "optimal_distance" (spSSi C someS)) : Cal P w K mg base CX0 7 "optimum" (spVi CL optM someS) := by
  refine cal0 A sc_v51 (fun vs H Q E h => ?_) (fun _ _ _ _ _ _ us hl => match us, hl with | [_], _ => rfl) (fun f cdv A outer s H vs Q E hr h => ?_)
  · obtain ⟨L, d, rfl, _⟩ := h; rfl
  · refine ⟨_, pss_one (ps_ret (pe_c cC hr (pa_cons (pe_fld (pv 0) rfl) (pa_cons (pe_fld (pv 0) rfl) pa_nil)))), ?_⟩
    obtain ⟨L, d, rfl, ⟨dx, a, b, li⟩, wf, hne, k⟩ := h
    walk_at "rd"
    refine ⟨_, rfl, L, CL, dx, _, _, rfl, li.1, T.clL, T.nS, lF_s a b, _, rfl, L, CL, dx, _, _, rfl, li.1, T.clL, T.nT, lF_t a b, ?_⟩
    exact ⟨a, b, d.starts, d.requests, rfl, li.2.1, li.2.2, wf.s, Nat.le_succ_of_le wf.t, hne, k⟩
theorem ok_vlist (T : Txt K mg CL CC CR) (A : At K mg "list_requests" (top 52)) (cN : Cal P w K mg base CX0 1 "counted" spCounted) : Cal P w K mg base (L2.CX P w) 2 "list_requests" (spD0 CL CR .listRequests) := by
  refine calX A sc_v52 (fun vs H Q E h => ?_) (fun _ _ _ _ _ _ us hl => match us, hl with | [_], _ => rfl) (fun f cdv A outer s H vs Q E hr h => ?_)
  · obtain ⟨L, d, rfl, _⟩ := h; rfl
  · refine ⟨_, pss_one (ps_ret (pe_c cN hr (pa_cons (pe_fld (pv 0) rfl) pa_nil))), ?_⟩
    obtain ⟨L, d, rfl, ⟨dx, a, b, li⟩, wf, W⟩ := h
    walk_at "rd"
    refine ⟨_, rfl, L, CL, dx, _, _, rfl, li.1, T.clL, T.nT, lF_t a b, ?_⟩
    exact ⟨b, d.requests, rfl, li.2.2, by have := wf.t; omega, wish_ret W li.line sv_list⟩
theorem ok_vcur (T : Txt K mg CL CC CR) (A : At K mg "current_positions" (top 53)) (cN : Cal P w K mg base CX0 1 "counted" spCounted) (cC : Cal P w K mg base CX0 5 "covered_all" (spSS covAll anyS)) : Cal P w K mg base (L2.CX P w) 6 "current_positions" (spD0 CL CR .currentPositions) := by
  refine calX A sc_v53 (fun vs H Q E h => ?_) (fun _ _ _ _ _ _ us hl => match us, hl with | [_], _ => rfl) (fun f cdv A outer s H vs Q E hr h => ?_)
  · obtain ⟨L, d, rfl, _⟩ := h; rfl
  · refine ⟨_, pss_one (ps_ret (pe_c cN hr (pa_cons (pe_c cC hr (pa_cons (pe_fld (pv 0) rfl) (pa_cons (pe_fld (pv 0) rfl) pa_nil))) pa_nil))), ?_⟩
    obtain ⟨L, d, rfl, ⟨dx, a, b, li⟩, wf, W⟩ := h
    walk_at "rd"
    refine ⟨_, rfl, L, CL, dx, _, _, rfl, li.1, T.clL, T.nS, lF_s a b, _, rfl, L, CL, dx, _, _, rfl, li.1, T.clL, T.nT, lF_t a b, ?_⟩
    refine ⟨a, b, d.starts, d.requests, rfl, li.2.1, li.2.2, wf.s, Nat.le_succ_of_le wf.t, trivial, fun H1 q s1 n1 h1 => ?_⟩
    exact ⟨q, curM d, rfl, h1, by rw [curM_length]; have := wf.s; omega, fun H2 r s2 n2 h2 => wish_ret W li.line sv_cur H2 r (s1.trans s2) (s1.free n2) h2⟩
theorem ok_vstart (T : Txt K mg CL CC CR) (A : At K mg "start_positions" (top 54)) (cN : Cal P w K mg base CX0 1 "counted" spCounted) : Cal P w K mg base (L2.CX P w) 2 "start_positions" (spD0 CL CR .startPositions) := by
  refine calX A sc_v54 (fun vs H Q E h => ?_) (fun _ _ _ _ _ _ us hl => match us, hl with | [_], _ => rfl) (fun f cdv A outer s H vs Q E hr h => ?_)
  · obtain ⟨L, d, rfl, _⟩ := h; rfl
  · refine ⟨_, pss_one (ps_ret (pe_c cN hr (pa_cons (pe_fld (pv 0) rfl) pa_nil))), ?_⟩
    obtain ⟨L, d, rfl, ⟨dx, a, b, li⟩, wf, W⟩ := h
    walk_at "rd"
    refine ⟨_, rfl, L, CL, dx, _, _, rfl, li.1, T.clL, T.nS, lF_s a b, ?_⟩
    exact ⟨a, d.starts, rfl, li.2.1, by have := wf.s; omega, wish_ret W li.line sv_start⟩
theorem ok_vtotal (T : Txt K mg CL CC CR) (A : At K mg "total_distance" (top 55)) (cT : Cal P w K mg base CX0 6 "cover_total" (spVi CL covTot anyS)) : Cal P w K mg base (L2.CX P w) 7 "total_distance" (spD0 CL CR .totalDistance) := by
  refine calX A sc_v55 (fun vs H Q E h => ?_) (fun _ _ _ _ _ _ us hl => match us, hl with | [_], _ => rfl) (fun f cdv A outer s H vs Q E hr h => ?_)
  · obtain ⟨L, d, rfl, _⟩ := h; rfl
  · refine ⟨_, pss_one (ps_ret (pe_lst (pa_cons (pe_c cT hr (pa_cons (pv 0) pa_nil)) pa_nil))), ?_⟩
    obtain ⟨L, d, rfl, ⟨dx, a, b, li⟩, wf, W⟩ := h
    walk_at "rd"
    refine ⟨_, rfl, L, d, rfl, li.line, wf, trivial, fun H1 s1 => ⟨one_le, fun p hp => ?_⟩⟩
    exact wish_ret W li.line sv_total _ p (s1.upd hp) (s1.free hp) upd_same
theorem ok_vgd (T : Txt K mg CL CC CR) (A : At K mg "greedy_distance" (top 56)) (cA : Cal P w K mg base (L2.CX P w) 3 "look_any" (spLookA CL CR)) (cG : Cal P w K mg base CX0 3 "greedy_total" (spSSi (fun S T => (gr S T).2) someS)) : Cal P w K mg base (L2.CX P w) 4 "greedy_distance" (spD0 CL CR .greedyDistance) := by
  refine calX A sc_v56 (fun vs H Q E h => ?_) (fun _ _ _ _ _ _ us hl => match us, hl with | [_], _ => rfl) (fun f cdv A outer s H vs Q E hr h => ?_)
  · obtain ⟨L, d, rfl, _⟩ := h; rfl
  · have tk := takes_of (X := cxOf (L2.CX P w) P w K mg base ["line"] "greedy_distance" (defScope (top 56)) f cdv A outer s H E) (E := E) rfl rfl rfl rfl
    refine ⟨_, pss_cons (ps_expr (pe_cX cA hr tk (pa_cons (pv 0) pa_nil))) (pss_one (ps_ret (pe_lst (pa_cons (pe_c cG hr (pa_cons (pe_fld (pv 0) rfl) (pa_cons (pe_fld (pv 0) rfl) pa_nil))) pa_nil)))), ?_⟩
    obtain ⟨L, d, rfl, ⟨dx, a, b, li⟩, wf, W⟩ := h
    walk_at "rd"
    refine ⟨_, rfl, L, d, rfl, li.line, fun c => W.bad _ (sv_gd1 c), fun c1 H0 s0 => ?_⟩
    have l0 := li.same s0
    refine ⟨_, rfl, L, CL, dx, _, _, rfl, l0.1, T.clL, T.nS, lF_s a b, _, rfl, L, CL, dx, _, _, rfl, l0.1, T.clL, T.nT, lF_t a b, ?_⟩
    refine ⟨a, b, d.starts, d.requests, rfl, l0.2.1, l0.2.2, wf.s, Nat.le_succ_of_le wf.t, c1, fun H1 s1 => ⟨one_le, fun p hp => ?_⟩⟩
    have s01 := s0.trans s1
    exact wish_ret W li.line (sv_gd2 c1) _ p (s01.upd hp) (s01.free hp) upd_same
theorem ok_vgp (T : Txt K mg CL CC CR) (A : At K mg "greedy_positions" (top 57)) (cN : Cal P w K mg base CX0 1 "counted" spCounted) (cA : Cal P w K mg base (L2.CX P w) 3 "look_any" (spLookA CL CR)) (cG : Cal P w K mg base CX0 3 "greedy_all" (spSS (fun S T => (gr S T).1) someS)) : Cal P w K mg base (L2.CX P w) 4 "greedy_positions" (spD0 CL CR .greedyPositions) := by
  refine calX A sc_v57 (fun vs H Q E h => ?_) (fun _ _ _ _ _ _ us hl => match us, hl with | [_], _ => rfl) (fun f cdv A outer s H vs Q E hr h => ?_)
  · obtain ⟨L, d, rfl, _⟩ := h; rfl
  · have tk := takes_of (X := cxOf (L2.CX P w) P w K mg base ["line"] "greedy_positions" (defScope (top 57)) f cdv A outer s H E) (E := E) rfl rfl rfl rfl
    refine ⟨_, pss_cons (ps_expr (pe_cX cA hr tk (pa_cons (pv 0) pa_nil))) (pss_one (ps_ret (pe_c cN hr (pa_cons (pe_c cG hr (pa_cons (pe_fld (pv 0) rfl) (pa_cons (pe_fld (pv 0) rfl) pa_nil))) pa_nil)))), ?_⟩
    obtain ⟨L, d, rfl, ⟨dx, a, b, li⟩, wf, W⟩ := h
    walk_at "rd"
    refine ⟨_, rfl, L, d, rfl, li.line, fun c => W.bad _ (sv_gp1 c), fun c1 H0 s0 => ?_⟩
    have l0 := li.same s0
    refine ⟨_, rfl, L, CL, dx, _, _, rfl, l0.1, T.clL, T.nS, lF_s a b, _, rfl, L, CL, dx, _, _, rfl, l0.1, T.clL, T.nT, lF_t a b, ?_⟩
    refine ⟨a, b, d.starts, d.requests, rfl, l0.2.1, l0.2.2, wf.s, Nat.le_succ_of_le wf.t, c1, fun H1 q s1 n1 h1 => ?_⟩
    have s01 := s0.trans s1
    exact ⟨q, _, rfl, h1, by rw [gr_length]; have := wf.s; omega, fun H2 r s2 n2 h2 => wish_ret W li.line (sv_gp2 c1) H2 r (s01.trans s2) (s01.free n2) h2⟩
theorem ok_vod (T : Txt K mg CL CC CR) (A : At K mg "told_optimum" (top 58)) (cA : Cal P w K mg base (L2.CX P w) 3 "look_any" (spLookA CL CR)) (cO : Cal P w K mg base CX0 7 "optimum" (spVi CL optM someS)) : Cal P w K mg base (L2.CX P w) 8 "told_optimum" (spD0 CL CR .optimalDistance) := by
  refine calX A sc_v58 (fun vs H Q E h => ?_) (fun _ _ _ _ _ _ us hl => match us, hl with | [_], _ => rfl) (fun f cdv A outer s H vs Q E hr h => ?_)
  · obtain ⟨L, d, rfl, _⟩ := h; rfl
  · have tk := takes_of (X := cxOf (L2.CX P w) P w K mg base ["line"] "told_optimum" (defScope (top 58)) f cdv A outer s H E) (E := E) rfl rfl rfl rfl
    refine ⟨_, pss_cons (ps_expr (pe_cX cA hr tk (pa_cons (pv 0) pa_nil))) (pss_one (ps_ret (pe_lst (pa_cons (pe_c cO hr (pa_cons (pv 0) pa_nil)) pa_nil)))), ?_⟩
    obtain ⟨L, d, rfl, ⟨dx, a, b, li⟩, wf, W⟩ := h
    walk_at "rd"
    refine ⟨_, rfl, L, d, rfl, li.line, fun c => W.bad _ (sv_od1 c), fun c1 H0 s0 => ?_⟩
    refine ⟨_, rfl, L, d, rfl, li.line.same s0, wf, c1, fun H1 s1 => ⟨one_le, fun p hp => ?_⟩⟩
    have s01 := s0.trans s1
    exact wish_ret W li.line (sv_od2 c1) _ p (s01.upd hp) (s01.free hp) upd_same
theorem ok_vop (T : Txt K mg CL CC CR) (A : At K mg "told_plan" (top 59)) (cN : Cal P w K mg base CX0 1 "counted" spCounted) (cA : Cal P w K mg base (L2.CX P w) 3 "look_any" (spLookA CL CR)) (cO : Cal P w K mg base CX0 6 "optimal_plan" (spSS plan someS)) : Cal P w K mg base (L2.CX P w) 7 "told_plan" (spD0 CL CR .optimalPlan) := by
  refine calX A sc_v59 (fun vs H Q E h => ?_) (fun _ _ _ _ _ _ us hl => match us, hl with | [_], _ => rfl) (fun f cdv A outer s H vs Q E hr h => ?_)
  · obtain ⟨L, d, rfl, _⟩ := h; rfl
  · have tk := takes_of (X := cxOf (L2.CX P w) P w K mg base ["line"] "told_plan" (defScope (top 59)) f cdv A outer s H E) (E := E) rfl rfl rfl rfl
    refine ⟨_, pss_cons (ps_expr (pe_cX cA hr tk (pa_cons (pv 0) pa_nil))) (pss_one (ps_ret (pe_c cN hr (pa_cons (pe_c cO hr (pa_cons (pe_fld (pv 0) rfl) (pa_cons (pe_fld (pv 0) rfl) pa_nil))) pa_nil)))), ?_⟩
    obtain ⟨L, d, rfl, ⟨dx, a, b, li⟩, wf, W⟩ := h
    walk_at "rd"
    refine ⟨_, rfl, L, d, rfl, li.line, fun c => W.bad _ (sv_op1 c), fun c1 H0 s0 => ?_⟩
    have l0 := li.same s0
    refine ⟨_, rfl, L, CL, dx, _, _, rfl, l0.1, T.clL, T.nS, lF_s a b, _, rfl, L, CL, dx, _, _, rfl, l0.1, T.clL, T.nT, lF_t a b, ?_⟩
    refine ⟨a, b, d.starts, d.requests, rfl, l0.2.1, l0.2.2, wf.s, Nat.le_succ_of_le wf.t, c1, fun H1 q s1 n1 h1 => ?_⟩
    have s01 := s0.trans s1
    exact ⟨q, _, rfl, h1, by rw [plan_length]; have := wf.t; omega, fun H2 r s2 n2 h2 => wish_ret W li.line (sv_op2 c1) H2 r (s01.trans s2) (s01.free n2) h2⟩
theorem ok_vcb (T : Txt K mg CL CC CR) (A : At K mg "competitive_bound" (top 60)) (cA : Cal P w K mg base (L2.CX P w) 3 "look_any" (spLookA CL CR)) (cO : Cal P w K mg base CX0 7 "optimum" (spVi CL optM someS)) (cS : Cal P w K mg base CX0 2 "spread" spSpread) : Cal P w K mg base (L2.CX P w) 8 "competitive_bound" (spD0 CL CR .competitiveBound) := by
  refine calX A sc_v60 (fun vs H Q E h => ?_) (fun _ _ _ _ _ _ us hl => match us, hl with | [_], _ => rfl) (fun f cdv A outer s H vs Q E hr h => ?_)
  · obtain ⟨L, d, rfl, _⟩ := h; rfl
  · have tk := takes_of (X := cxOf (L2.CX P w) P w K mg base ["line"] "competitive_bound" (defScope (top 60)) f cdv A outer s H E) (E := E) rfl rfl rfl rfl
    refine ⟨_, pss_cons (ps_expr (pe_cX cA hr tk (pa_cons (pv 0) pa_nil))) (pss_one (ps_ret (pe_lst (pa_cons (pe_op op_add (pe_op op_mul (pe_callB call_len_seq (by rfl) T.bl.len PySem.boot_len (pa_cons (pe_fld (pv 0) rfl) pa_nil)) (pe_c cO hr (pa_cons (pv 0) pa_nil))) (pe_c cS hr (pa_cons (pe_fld (pv 0) rfl) pa_nil))) pa_nil)))), ?_⟩
    obtain ⟨L, d, rfl, ⟨dx, a, b, li⟩, wf, W⟩ := h
    walk_at "rd"
    refine ⟨_, rfl, L, d, rfl, li.line, fun c => W.bad _ (sv_cb1 c), fun c1 H0 s0 => ?_⟩
    have l0 := li.same s0
    have nl := nV_length d.starts
    refine ⟨_, rfl, L, CL, dx, _, _, rfl, l0.1, T.clL, T.nS, lF_s a b, a, _, rfl, .inl l0.2.1.seq, _, rfl, L, d, rfl, l0.line, wf, c1, fun H1 s1 => ?_⟩
    have l1 := l0.same s1
    refine ⟨_, _, rfl, rfl, .inl ⟨by omega, by have := wf.s; omega⟩, _, rfl, L, CL, dx, _, _, rfl, l1.1, T.clL, T.nS, lF_s a b, ?_⟩
    refine ⟨a, d.starts, rfl, l1.2.1, wf.s, _, _, rfl, rfl, one_le, fun p hp => ?_⟩
    have s01 := s0.trans s1
    refine wish_ret W li.line (sv_cb2 c1) _ p (s01.upd hp) (s01.free hp) ?_
    show upd _ _ _ _ = some (.lst [V.int ((d.starts.length * optM d + Km559.spread d.starts : Nat) : Int)])
    rw [upd_same, Int.natCast_add, Int.natCast_mul, nl]
theorem ok_vspread (T : Txt K mg CL CC CR) (A : At K mg "told_spread" (top 61)) (cC : Cal P w K mg base CX0 5 "covered_all" (spSS covAll anyS)) (cS : Cal P w K mg base CX0 2 "spread" spSpread) : Cal P w K mg base (L2.CX P w) 6 "told_spread" (spD0 CL CR .spread) := by
  refine calX A sc_v61 (fun vs H Q E h => ?_) (fun _ _ _ _ _ _ us hl => match us, hl with | [_], _ => rfl) (fun f cdv A outer s H vs Q E hr h => ?_)
  · obtain ⟨L, d, rfl, _⟩ := h; rfl
  · refine ⟨_, pss_one (ps_ret (pe_lst (pa_cons (pe_c cS hr (pa_cons (pe_fld (pv 0) rfl) pa_nil)) (pa_cons (pe_c cS hr (pa_cons (pe_c cC hr (pa_cons (pe_fld (pv 0) rfl) (pa_cons (pe_fld (pv 0) rfl) pa_nil))) pa_nil)) pa_nil)))), ?_⟩
    obtain ⟨L, d, rfl, ⟨dx, a, b, li⟩, wf, W⟩ := h
    walk_at "rd"
    refine ⟨_, rfl, L, CL, dx, _, _, rfl, li.1, T.clL, T.nS, lF_s a b, a, d.starts, rfl, li.2.1, wf.s, ?_⟩
    refine ⟨_, rfl, L, CL, dx, _, _, rfl, li.1, T.clL, T.nS, lF_s a b, _, rfl, L, CL, dx, _, _, rfl, li.1, T.clL, T.nT, lF_t a b, ?_⟩
    refine ⟨a, b, d.starts, d.requests, rfl, li.2.1, li.2.2, wf.s, Nat.le_succ_of_le wf.t, trivial, fun H1 q s1 n1 h1 => ?_⟩
    refine ⟨q, curM d, rfl, h1, by rw [curM_length]; exact wf.s, two_le, fun p hp => ?_⟩
    exact wish_ret W li.line sv_spread _ p (s1.upd hp) (s1.free hp) upd_same
theorem ok_vex (T : Txt K mg CL CC CR) (A : At K mg "excess" (top 62)) (cA : Cal P w K mg base (L2.CX P w) 3 "look_any" (spLookA CL CR)) (cO : Cal P w K mg base CX0 7 "optimum" (spVi CL optM someS)) (cT : Cal P w K mg base CX0 6 "cover_total" (spVi CL covTot anyS)) (cG : Cal P w K mg base CX0 3 "greedy_total" (spSSi (fun S T => (gr S T).2) someS)) :
    Cal P w K mg base (L2.CX P w) 8 "excess" (spD0 CL CR .excess) := by
  refine calX A sc_v62 (fun vs H Q E h => ?_) (fun _ _ _ _ _ _ us hl => match us, hl with | [_], _ => rfl) (fun f cdv A outer s H vs Q E hr h => ?_)
  · obtain ⟨L, d, rfl, _⟩ := h; rfl
  · have tk := takes_of (X := cxOf (L2.CX P w) P w K mg base ["line", "least"] "excess" (defScope (top 62)) f cdv A outer s H E) (E := E) rfl rfl rfl rfl
    refine ⟨_, pss_cons (ps_expr (pe_cX cA hr tk (pa_cons (pv 0) pa_nil)))
      (pss_cons (ps_set (i := 1) sc_v62.nd rfl (Or.inl rfl) (pe_c cO hr (pa_cons (pv 0) pa_nil)))
      (pss_one (ps_ret (pe_lst (pa_cons (pe_op op_sub (pe_c cT hr (pa_cons (pv 0) pa_nil)) (pv 1)) (pa_cons (pe_op op_sub (pe_c cG hr (pa_cons (pe_fld (pv 0) rfl) (pa_cons (pe_fld (pv 0) rfl) pa_nil))) (pv 1)) pa_nil)))))), ?_⟩
    obtain ⟨L, d, rfl, ⟨dx, a, b, li⟩, wf, W⟩ := h
    walk_at "rd"
    refine ⟨_, rfl, L, d, rfl, li.line, fun c => W.bad _ (sv_ex1 c), fun c1 H0 s0 => ?_⟩
    refine ⟨_, rfl, L, d, rfl, li.line.same s0, wf, c1, fun H1 s1 => ?_⟩
    have l1 := (li.same s0).same s1
    refine ⟨_, rfl, L, d, rfl, l1.line, wf, trivial, fun H2 s2 => ?_⟩
    have l2 := l1.same s2
    refine ⟨_, rfl, _, _, rfl, rfl, _, rfl, L, CL, dx, _, _, rfl, l2.1, T.clL, T.nS, lF_s a b, _, rfl, L, CL, dx, _, _, rfl, l2.1, T.clL, T.nT, lF_t a b, ?_⟩
    refine ⟨a, b, d.starts, d.requests, rfl, l2.2.1, l2.2.2, wf.s, Nat.le_succ_of_le wf.t, c1, fun H3 s3 => ?_⟩
    refine ⟨_, rfl, _, _, rfl, rfl, two_le, fun p hp => ?_⟩
    have sA := ((s0.trans s1).trans s2).trans s3
    refine wish_ret W li.line (sv_ex2 c1) _ p (sA.upd hp) (sA.free hp) ?_
    show upd _ _ _ _ = some (.lst [V.int ((covTot d - optM d : Nat) : Int), V.int ((grTot d - optM d : Nat) : Int)])
    rw [upd_same, Int.ofNat_sub (opt_cov c1), Int.ofNat_sub (opt_gr c1)]; rfl
end
end Ic

namespace Ic
open PySem PySem.Spec PyProof.Rows L2
local macro_rules | `(tactic| walk_at "rd") => `(tactic| dsimp only [tSeq, tAsg, tRet, tIfS, tTest, tOp, tUn, tVar, tC, tLst, tTup, tCons, tNil, tCB, tBM, tBM0, tCall, gName, gSub, tNext, tDrop, tDNewT, tDGet, sDPut, tFld, sFld, tMkO, tVeI, tOst, tSl, tPart, tNoPart, cxOf, Cx.nox])
theorem three_le {v u t : V} : [v, u, t].length ≤ sizeLine := by rw [sizeLine_eq]; exact (by decide : 3 ≤ 16777216)
theorem sc_v63 : FnScope ["line", "target"] ["line", "target"] (defScope (top 63)) := ⟨rfl, rfl, rfl, by decide +kernel, rfl, by decide +kernel, by decide +kernel⟩
theorem sc_v64 : FnScope ["line", "target"] ["line", "target"] (defScope (top 64)) := ⟨rfl, rfl, rfl, by decide +kernel, rfl, by decide +kernel, by decide +kernel⟩
theorem sc_v65 : FnScope ["line"] ["line"] (defScope (top 65)) := ⟨rfl, rfl, rfl, by decide +kernel, rfl, by decide +kernel, by decide +kernel⟩
theorem sc_v66 : FnScope ["line", "place", "least"] ["line", "place"] (defScope (top 66)) := ⟨rfl, rfl, rfl, by decide +kernel, rfl, by decide +kernel, by decide +kernel⟩
theorem sc_v67 : FnScope ["line", "position", "starts"] ["line", "position"] (defScope (top 67)) := ⟨rfl, rfl, rfl, by decide +kernel, rfl, by decide +kernel, by decide +kernel⟩
theorem sc_v68 : FnScope ["line"] ["line"] (defScope (top 68)) := ⟨rfl, rfl, rfl, by decide +kernel, rfl, by decide +kernel, by decide +kernel⟩
section
variable {P : Program} {w : World} {K : PySem.W.Frag} {mg : Str → Option Value} {base : Heap} {CL CC CR : Addr}
theorem ok_vdr (T : Txt K mg CL CC CR) (A : At K mg "distance_with_request" (top 63)) (cP : Cal P w K mg base (L2.CX P w) 3 "look_position" (spLookP CR)) (cA : Cal P w K mg base (L2.CX P w) 3 "look_any" (spLookA CL CR)) (cO : Cal P w K mg base CX0 6 "optimal_distance" (spSSi C someS)) :
    Cal P w K mg base (L2.CX P w) 7 "distance_with_request" (spD1 CL CR .optimalDistanceWithRequest) := by
  refine calX A sc_v63 (fun vs H Q E h => ?_) (fun _ _ _ _ _ _ us hl => match us, hl with | [_, _], _ => rfl) (fun f cdv A outer s H vs Q E hr h => ?_)
  · obtain ⟨L, d, x, rfl, _⟩ := h; rfl
  · have tk := takes_of (X := cxOf (L2.CX P w) P w K mg base ["line", "target"] "distance_with_request" (defScope (top 63)) f cdv A outer s H E) (E := E) rfl rfl rfl rfl
    refine ⟨_, pss_cons (ps_expr (pe_cX cP hr tk (pa_cons (pv 1) pa_nil)))
      (pss_cons (ps_expr (pe_cX cA hr tk (pa_cons (pv 0) pa_nil)))
      (pss_one (ps_ret (pe_lst (pa_cons (pe_c cO hr (pa_cons (pe_fld (pv 0) rfl) (pa_cons (pe_op op_cat (pe_fld (pv 0) rfl) (pe_lst (pa_cons (pv 1) pa_nil))) pa_nil))) pa_nil))))), ?_⟩
    obtain ⟨L, d, x, rfl, ⟨dx, a, b, li⟩, wf, W⟩ := h
    walk_at "rd"
    refine ⟨_, rfl, x, rfl, fun c => W.bad _ (sv_dr1 c), fun c1 => ?_⟩
    refine ⟨_, rfl, L, d, rfl, li.line, fun c => W.bad _ (sv_dr2 c1 c), fun c2 H0 s0 => ?_⟩
    have l0 := li.same s0
    refine ⟨_, rfl, L, CL, dx, _, _, rfl, l0.1, T.clL, T.nS, lF_s a b, _, rfl, L, CL, dx, _, _, rfl, l0.1, T.clL, T.nT, lF_t a b, _, rfl, one_le, fun q hq => ?_⟩
    have s1 := Same.new (o := .lst [.int (x : Nat)]) hq
    have l1 := l0.same s1
    refine ⟨b, q, _, _, rfl, rfl, l1.2.2, upd_same, ?_, fun r hr' => ?_⟩
    · rw [nV_length]
      exact sized (m := 10) (by have := wf.t; show d.requests.length + 1 ≤ 10; omega)
    have s2 := Same.new (o := .lst (nV d.requests ++ [.int (x : Nat)])) hr'
    have l2 := l1.same s2
    have f2 : IsL (upd (upd H0 q (.lst [.int (x : Nat)])) r (.lst (nV d.requests ++ [.int (x : Nat)]))) r (d.requests ++ [x]) := by
      show upd _ _ _ _ = _
      rw [upd_same, nV_app]; rfl
    refine ⟨a, r, d.starts, d.requests ++ [x], rfl, l2.2.1, f2, wf.s, by have := wf.t; rw [List.length_append]; show _ + 1 ≤ 9; omega, c2, fun H3 s3 => ⟨one_le, fun p hp => ?_⟩⟩
    have sA := ((s0.trans s1).trans s2).trans s3
    exact wish_ret W li.line (sv_dr3 c1 c2) _ p (sA.upd hp) (sA.free hp) upd_same
theorem ok_vrs (T : Txt K mg CL CC CR) (A : At K mg "responders" (top 64)) (cN : Cal P w K mg base CX0 1 "counted" spCounted) (cP : Cal P w K mg base (L2.CX P w) 3 "look_position" (spLookP CR)) (cA : Cal P w K mg base (L2.CX P w) 3 "look_any" (spLookA CL CR)) (cC : Cal P w K mg base CX0 5 "covered_all" (spSS covAll anyS)) (cM : Cal P w K mg base CX0 2 "movers" (spPT movers)) :
    Cal P w K mg base (L2.CX P w) 6 "responders" (spD1 CL CR .responders) := by
  refine calX A sc_v64 (fun vs H Q E h => ?_) (fun _ _ _ _ _ _ us hl => match us, hl with | [_, _], _ => rfl) (fun f cdv A outer s H vs Q E hr h => ?_)
  · obtain ⟨L, d, x, rfl, _⟩ := h; rfl
  · have tk := takes_of (X := cxOf (L2.CX P w) P w K mg base ["line", "target"] "responders" (defScope (top 64)) f cdv A outer s H E) (E := E) rfl rfl rfl rfl
    refine ⟨_, pss_cons (ps_expr (pe_cX cP hr tk (pa_cons (pv 1) pa_nil)))
      (pss_cons (ps_expr (pe_cX cA hr tk (pa_cons (pv 0) pa_nil)))
      (pss_one (ps_ret (pe_c cN hr (pa_cons (pe_c cM hr (pa_cons (pe_c cC hr (pa_cons (pe_fld (pv 0) rfl) (pa_cons (pe_fld (pv 0) rfl) pa_nil))) (pa_cons (pv 1) pa_nil))) pa_nil))))), ?_⟩
    obtain ⟨L, d, x, rfl, ⟨dx, a, b, li⟩, wf, W⟩ := h
    walk_at "rd"
    refine ⟨_, rfl, x, rfl, fun c => W.bad _ (sv_rs1 c), fun c1 => ?_⟩
    refine ⟨_, rfl, L, d, rfl, li.line, fun c => W.bad _ (sv_rs2 c1 c), fun c2 H0 s0 => ?_⟩
    have l0 := li.same s0
    refine ⟨_, rfl, L, CL, dx, _, _, rfl, l0.1, T.clL, T.nS, lF_s a b, _, rfl, L, CL, dx, _, _, rfl, l0.1, T.clL, T.nT, lF_t a b, ?_⟩
    refine ⟨a, b, d.starts, d.requests, rfl, l0.2.1, l0.2.2, wf.s, Nat.le_succ_of_le wf.t, trivial, fun H1 q s1 n1 h1 => ?_⟩
    refine ⟨_, rfl, q, curM d, x, rfl, h1, by rw [curM_length]; exact wf.s, fun H2 r s2 n2 h2 => ?_⟩
    have s02 := (s0.trans s1).trans s2
    exact ⟨r, _, rfl, h2, by have := movers_length (curM d) x; omega, fun H3 z s3 n3 h3 => wish_ret W li.line (sv_rs3 c1 c2) H3 z (s02.trans s3) (s02.free n3) h3⟩
theorem ok_vdp (T : Txt K mg CL CC CR) (A : At K mg "distances_per_request" (top 65)) (cN : Cal P w K mg base CX0 1 "counted" spCounted) (cC : Cal P w K mg base CX0 5 "cover_distances" (spSS covDs anyS)) :
    Cal P w K mg base (L2.CX P w) 6 "distances_per_request" (spD0 CL CR .distancesPerRequest) := by
  refine calX A sc_v65 (fun vs H Q E h => ?_) (fun _ _ _ _ _ _ us hl => match us, hl with | [_], _ => rfl) (fun f cdv A outer s H vs Q E hr h => ?_)
  · obtain ⟨L, d, rfl, _⟩ := h; rfl
  · refine ⟨_, pss_one (ps_ret (pe_c cN hr (pa_cons (pe_c cC hr (pa_cons (pe_fld (pv 0) rfl) (pa_cons (pe_fld (pv 0) rfl) pa_nil))) pa_nil))), ?_⟩
    obtain ⟨L, d, rfl, ⟨dx, a, b, li⟩, wf, W⟩ := h
    walk_at "rd"
    refine ⟨_, rfl, L, CL, dx, _, _, rfl, li.1, T.clL, T.nS, lF_s a b, _, rfl, L, CL, dx, _, _, rfl, li.1, T.clL, T.nT, lF_t a b, ?_⟩
    refine ⟨a, b, d.starts, d.requests, rfl, li.2.1, li.2.2, wf.s, Nat.le_succ_of_le wf.t, trivial, fun H1 q s1 n1 h1 => ?_⟩
    exact ⟨q, _, rfl, h1, by rw [covDs_length]; have := wf.t; omega, fun H2 r s2 n2 h2 => wish_ret W li.line sv_dp H2 r (s1.trans s2) (s1.free n2) h2⟩
theorem ok_vsv (T : Txt K mg CL CC CR) (A : At K mg "saving_without_request" (top 66)) (cO : Cal P w K mg base CX0 6 "optimal_distance" (spSSi C someS)) (cU : Cal P w K mg base CX0 7 "optimum" (spVi CL optM someS)) :
    Cal P w K mg base (L2.CX P w) 8 "saving_without_request" (spD1 CL CR .savingWithoutRequest) := by
  refine calX A sc_v66 (fun vs H Q E h => ?_) (fun _ _ _ _ _ _ us hl => match us, hl with | [_, _], _ => rfl) (fun f cdv A outer s H vs Q E hr h => ?_)
  · obtain ⟨L, d, x, rfl, _⟩ := h; rfl
  · have tk := takes_of (X := cxOf (L2.CX P w) P w K mg base ["line", "place", "least"] "saving_without_request" (defScope (top 66)) f cdv A outer s H E) (E := E) rfl rfl rfl rfl
    refine ⟨_, pss_cons (ps_if (pt_cmpR op_ge (pv 1) (pe_callB call_len_seq (by rfl) T.bl.len PySem.boot_len (pa_cons (pe_fld (pv 0) rfl) pa_nil)) (nomark _)) (pss_one (ps_raise rfl tk (pmk_ref T hr (C8.pe_gc (by rfl) T.cNS)))) pss_nil)
      (pss_cons (ps_set (i := 2) sc_v66.nd rfl (Or.inl rfl) (pe_c cO hr (pa_cons (pe_fld (pv 0) rfl) (pa_cons (pe_op op_cat (pe_slice sl_list (pe_fld (pv 0) rfl) po_none (po_some (pv 1))) (pe_slice sl_list (pe_fld (pv 0) rfl) (po_some (pe_op op_add (pv 1) pe_int)) po_none)) pa_nil))))
      (pss_one (ps_ret (pe_lst (pa_cons (pe_op op_sub (pe_c cU hr (pa_cons (pv 0) pa_nil)) (pv 2)) (pa_cons (pv 2) pa_nil)))))), ?_⟩
    obtain ⟨L, d, x, rfl, ⟨dx, a, b, li⟩, wf, W⟩ := h
    walk_at "rd"
    have nl := nV_length d.requests
    refine ⟨_, rfl, _, rfl, L, CL, dx, _, _, rfl, li.1, T.clL, T.nT, lF_t a b, b, _, rfl, .inl li.2.2.seq, _, _, rfl, rfl, _, rfl, iteD (fun c => ?_) fun c => ?_⟩
    · exact ⟨(by decide : 1 ≤ 1000), fun z hz => rd_raise (W.bad _ (sv_sv1 (by omega))) z hz⟩
    · have c1 : ¬ d.requests.length ≤ x := by omega
      have c2 : x < d.requests.length := by omega
      have c3 : d.starts ≠ [] := fun e => by
        have := wf.e e
        rw [this] at c2
        exact absurd c2 (Nat.not_lt_zero _)
      refine ⟨_, rfl, L, CL, dx, _, _, rfl, li.1, T.clL, T.nS, lF_s a b, ?_⟩
      refine ⟨_, rfl, L, CL, dx, _, _, rfl, li.1, T.clL, T.nT, lF_t a b, _, rfl, (x : Nat), rfl, b, _, rfl, li.2.2.seq, fun q1 n1 => ?_⟩
      have s1 := Same.new (o := .lst (cutV (nV d.requests) none (some (x : Nat)))) n1
      have l1 := li.same s1
      have f1 : IsL (upd H q1 (.lst (cutV (nV d.requests) none (some (x : Nat))))) q1 (d.requests.take x) := by
        show upd _ _ _ _ = _
        rw [upd_same, cut_to _ (by omega)]
      refine ⟨_, rfl, L, CL, dx, _, _, rfl, l1.1, T.clL, T.nT, lF_t a b, _, rfl, _, _, rfl, rfl, ((x + 1 : Nat) : Int), by rw [Int.natCast_add]; rfl, b, _, rfl, l1.2.2.seq, fun q2 n2 => ?_⟩
      have s2 := Same.new (o := .lst (cutV (nV d.requests) (some ((x + 1 : Nat) : Int)) none)) n2
      have l2 := l1.same s2
      have f2 : IsL (upd (upd H q1 (.lst (cutV (nV d.requests) none (some (x : Nat))))) q2 (.lst (cutV (nV d.requests) (some ((x + 1 : Nat) : Int)) none))) q2 (d.requests.drop (x + 1)) := by
        show upd _ _ _ _ = _
        rw [upd_same, cut_from]
      have er : (d.requests.eraseIdx x).length ≤ 9 := by rw [List.length_eraseIdx_of_lt c2]; have := wf.t; omega
      refine ⟨q1, q2, _, _, rfl, rfl, f1.same s2, f2, ?_, fun r hr' => ?_⟩
      · rw [nV_length, nV_length]
        exact sized (m := 8) (by have := wf.t; rw [List.length_take, List.length_drop]; omega)
      have s3 := Same.new (o := .lst (nV (d.requests.take x) ++ nV (d.requests.drop (x + 1)))) hr'
      have l3 := l2.same s3
      have f3 : IsL (upd (upd (upd H q1 (.lst (cutV (nV d.requests) none (some (x : Nat))))) q2 (.lst (cutV (nV d.requests) (some ((x + 1 : Nat) : Int)) none))) r (.lst (nV (d.requests.take x) ++ nV (d.requests.drop (x + 1))))) r (d.requests.eraseIdx x) := by
        show upd _ _ _ _ = _
        rw [upd_same, erase_is]
      refine ⟨a, r, d.starts, d.requests.eraseIdx x, rfl, l3.2.1, f3, wf.s, er, c3, fun H4 s4 => ?_⟩
      have l4 := l3.same s4
      refine ⟨_, rfl, L, d, rfl, l4.line, wf, c3, fun H5 s5 => ?_⟩
      refine ⟨_, rfl, _, _, rfl, rfl, _, rfl, two_le, fun p hp => ?_⟩
      have sA := (((s1.trans s2).trans s3).trans s4).trans s5
      refine wish_ret W li.line (sv_sv2 c1 c3) _ p (sA.upd hp) (sA.free hp) ?_
      show upd _ _ _ _ = some (.lst [V.int ((optM d - C d.starts (d.requests.eraseIdx x) : Nat) : Int), V.int ((C d.starts (d.requests.eraseIdx x) : Nat) : Int)])
      rw [upd_same, Int.ofNat_sub (show C d.starts (d.requests.eraseIdx x) ≤ optM d from C_erase d.requests d.starts x c3)]
theorem ok_vdi (T : Txt K mg CL CC CR) (A : At K mg "distances_with_icebreaker" (top 67)) (cP : Cal P w K mg base (L2.CX P w) 3 "look_position" (spLookP CR)) (cR : Cal P w K mg base (L2.CX P w) 3 "look_room" (spLookR CL CR)) (cO : Cal P w K mg base CX0 6 "optimal_distance" (spSSi C someS)) (cC : Cal P w K mg base CX0 5 "cover_distances" (spSS covDs anyS)) :
    Cal P w K mg base (L2.CX P w) 7 "distances_with_icebreaker" (spD1 CL CR .distancesWithIcebreaker) := by
  refine calX A sc_v67 (fun vs H Q E h => ?_) (fun _ _ _ _ _ _ us hl => match us, hl with | [_, _], _ => rfl) (fun f cdv A outer s H vs Q E hr h => ?_)
  · obtain ⟨L, d, x, rfl, _⟩ := h; rfl
  · have tk := takes_of (X := cxOf (L2.CX P w) P w K mg base ["line", "position", "starts"] "distances_with_icebreaker" (defScope (top 67)) f cdv A outer s H E) (E := E) rfl rfl rfl rfl
    refine ⟨_, pss_cons (ps_expr (pe_cX cP hr tk (pa_cons (pv 1) pa_nil)))
      (pss_cons (ps_expr (pe_cX cR hr tk (pa_cons (pv 0) pa_nil)))
      (pss_cons (ps_set (i := 2) sc_v67.nd rfl (Or.inl rfl) (pe_op op_cat (pe_fld (pv 0) rfl) (pe_lst (pa_cons (pv 1) pa_nil))))
      (pss_one (ps_ret (pe_lst (pa_cons (pe_c cO hr (pa_cons (pv 2) (pa_cons (pe_fld (pv 0) rfl) pa_nil))) (pa_cons (pe_callB (cr_sum rfl) (by rfl) T.bl.sum (by decide +kernel) (pa_cons (pe_c cC hr (pa_cons (pv 2) (pa_cons (pe_fld (pv 0) rfl) pa_nil))) pa_nil)) pa_nil))))))), ?_⟩
    obtain ⟨L, d, x, rfl, ⟨dx, a, b, li⟩, wf, W⟩ := h
    walk_at "rd"
    refine ⟨_, rfl, x, rfl, fun c => W.bad _ (sv_di1 c), fun c1 => ?_⟩
    refine ⟨_, rfl, L, d, rfl, li.line, fun c => W.bad _ (sv_di2 c1 (by omega)), fun c2 => ?_⟩
    have c3 : ¬ 3 ≤ d.starts.length := by have := wf.s; omega
    refine ⟨_, rfl, L, CL, dx, _, _, rfl, li.1, T.clL, T.nS, lF_s a b, _, rfl, one_le, fun q hq => ?_⟩
    have s1 := Same.new (o := .lst [.int (x : Nat)]) hq
    have l1 := li.same s1
    refine ⟨a, q, _, _, rfl, rfl, l1.2.1, upd_same, ?_, fun r hr' => ?_⟩
    · rw [nV_length]
      exact sized (m := 10) (by show d.starts.length + 1 ≤ 10; omega)
    have s2 := Same.new (o := .lst (nV d.starts ++ [.int (x : Nat)])) hr'
    have l2 := l1.same s2
    have f2 : IsL (upd (upd H q (.lst [.int (x : Nat)])) r (.lst (nV d.starts ++ [.int (x : Nat)]))) r (d.starts ++ [x]) := by
      show upd _ _ _ _ = _
      rw [upd_same, nV_app]; rfl
    have ls : (d.starts ++ [x]).length ≤ 3 := by rw [List.length_append]; show _ + 1 ≤ 3; omega
    refine ⟨_, rfl, _, rfl, L, CL, dx, _, _, rfl, l2.1, T.clL, T.nT, lF_t a b, ?_⟩
    refine ⟨r, b, d.starts ++ [x], d.requests, rfl, f2, l2.2.2, ls, Nat.le_succ_of_le wf.t, by unfold someS; simp, fun H3 s3 => ?_⟩
    have l3 := l2.same s3
    refine ⟨_, rfl, _, rfl, L, CL, dx, _, _, rfl, l3.1, T.clL, T.nT, lF_t a b, ?_⟩
    refine ⟨r, b, d.starts ++ [x], d.requests, rfl, f2.same s3, l3.2.2, ls, Nat.le_succ_of_le wf.t, trivial, fun H4 z s4 n4 h4 => ?_⟩
    refine ⟨z, _, rfl, seq_zs h4, two_le, fun p hp => ?_⟩
    have sA := ((s1.trans s2).trans s3).trans s4
    refine wish_ret W li.line (sv_di3 c1 c3) _ p (sA.upd hp) (sA.free hp) ?_
    show upd _ _ _ _ = some (.lst [V.int ((C (d.starts ++ [x]) d.requests : Nat) : Int), V.int (((covDs (d.starts ++ [x]) d.requests).sum : Nat) : Int)])
    rw [upd_same, zs_sum]
theorem ok_vsum (T : Txt K mg CL CC CR) (A : At K mg "summary" (top 68)) (cT : Cal P w K mg base CX0 6 "cover_total" (spVi CL covTot anyS)) : Cal P w K mg base (L2.CX P w) 7 "summary" (spD0 CL CR .summary) := by
  refine calX A sc_v68 (fun vs H Q E h => ?_) (fun _ _ _ _ _ _ us hl => match us, hl with | [_], _ => rfl) (fun f cdv A outer s H vs Q E hr h => ?_)
  · obtain ⟨L, d, rfl, _⟩ := h; rfl
  · refine ⟨_, pss_one (ps_ret (pe_lst (pa_cons (pe_callB call_len_seq (by rfl) T.bl.len PySem.boot_len (pa_cons (pe_fld (pv 0) rfl) pa_nil)) (pa_cons (pe_callB call_len_seq (by rfl) T.bl.len PySem.boot_len (pa_cons (pe_fld (pv 0) rfl) pa_nil)) (pa_cons (pe_c cT hr (pa_cons (pv 0) pa_nil)) pa_nil))))), ?_⟩
    obtain ⟨L, d, rfl, ⟨dx, a, b, li⟩, wf, W⟩ := h
    walk_at "rd"
    refine ⟨_, rfl, L, CL, dx, _, _, rfl, li.1, T.clL, T.nS, lF_s a b, a, _, rfl, .inl li.2.1.seq, ?_⟩
    refine ⟨_, rfl, L, CL, dx, _, _, rfl, li.1, T.clL, T.nT, lF_t a b, b, _, rfl, .inl li.2.2.seq, ?_⟩
    refine ⟨_, rfl, L, d, rfl, li.line, wf, trivial, fun H1 s1 => ⟨three_le, fun p hp => ?_⟩⟩
    refine wish_ret W li.line sv_sum _ p (s1.upd hp) (s1.free hp) ?_
    show upd _ _ _ _ = some (.lst [V.int ((d.starts.length : Nat) : Int), V.int ((d.requests.length : Nat) : Int), V.int ((covTot d : Nat) : Int)])
    rw [upd_same, nV_length, nV_length]
end
end Ic

namespace Ic
open PySem PySem.Spec PyProof.Rows L2
/-! ### the calls by their numbers -/
inductive Op : Int → List Nat → Km559.Call → Prop
  | o1 (x : Nat) : Op 1 [x] (.addIcebreaker x)
  | o2 (x : Nat) : Op 2 [x] (.removeIcebreaker x)
  | o3 (x y : Nat) : Op 3 [x, y] (.setStart x y)
  | o4 (x : Nat) : Op 4 [x] (.request x)
  | o5 : Op 5 [] .undoRequest
  | o6 : Op 6 [] .clearRequests
  | o7 : Op 7 [] .listRequests
  | o8 : Op 8 [] .currentPositions
  | o9 : Op 9 [] .startPositions
  | o10 : Op 10 [] .totalDistance
  | o11 : Op 11 [] .greedyDistance
  | o12 : Op 12 [] .greedyPositions
  | o13 : Op 13 [] .optimalDistance
  | o14 : Op 14 [] .optimalPlan
  | o15 : Op 15 [] .competitiveBound
  | o16 : Op 16 [] .spread
  | o17 : Op 17 [] .excess
  | o18 (x : Nat) : Op 18 [x] (.previewRequest x)
  | o19 (x : Nat) : Op 19 [x] (.optimalDistanceWithRequest x)
  | o20 (x : Nat) : Op 20 [x] (.responders x)
  | o21 : Op 21 [] .distancesPerRequest
  | o22 (x : Nat) : Op 22 [x] (.savingWithoutRequest x)
  | o23 (x : Nat) : Op 23 [x] (.distancesWithIcebreaker x)
  | o24 : Op 24 [] .summary
/-- with create -/
def OpC (c : Int) (ns : List Nat) (op : Km559.Call) : Prop := (c = 0 ∧ ns = [] ∧ op = .create) ∨ (c ≠ 0 ∧ Op c ns op)
def manyN (c : Int) : Nat := if c = 3 then 2 else if (names1.lookup c).isSome = true then 1 else 0
theorem whole_id (c : List (List Int)) : PyKm559.whole c = c := by
  unfold PyKm559.whole
  split <;> rfl
def Shp (p : Int) (n : Nat) : Prop := ((n = 0 ∧ (p = 0 ∨ p = 5 ∨ p = 6 ∨ p = 7 ∨ p = 8 ∨ p = 9 ∨ p = 10 ∨ p = 11 ∨ p = 12 ∨ p = 13 ∨ p = 14 ∨ p = 15 ∨ p = 16 ∨ p = 17 ∨ p = 21 ∨ p = 24)) ∨ (n = 1 ∧ (p = 1 ∨ p = 2 ∨ p = 4 ∨ p = 18 ∨ p = 19 ∨ p = 20 ∨ p = 22 ∨ p = 23)) ∨ (n = 2 ∧ p = 3))
theorem shape_fin {p : Int} {n k a : Nat} (h : some (a, 0) = some (n, k)) (h1 : a = manyN p) (h2 : Shp p a) : k = 0 ∧ n = manyN p ∧ Shp p n := by
  have e := Option.some.inj h
  have e1 := (Prod.mk.inj e).1
  have e2 := (Prod.mk.inj e).2
  subst e1 e2
  exact ⟨rfl, h1, h2⟩
/-- the numbers of calls that there are -/
theorem shape_is {p : Int} {n k : Nat} (h : PyKm559.shape p = some (n, k)) : k = 0 ∧ n = manyN p ∧ Shp p n := by
  by_cases h0 : p = 0
  · subst h0
    exact shape_fin (p := 0) (a := 0) ((show PyKm559.shape 0 = some (0, 0) by decide).symm.trans h) (by decide +kernel) (by unfold Shp; simp)
  by_cases h1 : p = 1
  · subst h1
    exact shape_fin (p := 1) (a := 1) ((show PyKm559.shape 1 = some (1, 0) by decide).symm.trans h) (by decide +kernel) (by unfold Shp; simp)
  by_cases h2 : p = 2
  · subst h2
    exact shape_fin (p := 2) (a := 1) ((show PyKm559.shape 2 = some (1, 0) by decide).symm.trans h) (by decide +kernel) (by unfold Shp; simp)
  by_cases h3 : p = 3
  · subst h3
    exact shape_fin (p := 3) (a := 2) ((show PyKm559.shape 3 = some (2, 0) by decide).symm.trans h) (by decide +kernel) (by unfold Shp; simp)
  by_cases h4 : p = 4
  · subst h4
    exact shape_fin (p := 4) (a := 1) ((show PyKm559.shape 4 = some (1, 0) by decide).symm.trans h) (by decide +kernel) (by unfold Shp; simp)
  by_cases h5 : p = 5
  · subst h5
    exact shape_fin (p := 5) (a := 0) ((show PyKm559.shape 5 = some (0, 0) by decide).symm.trans h) (by decide +kernel) (by unfold Shp; simp)
  by_cases h6 : p = 6
  · subst h6
    exact shape_fin (p := 6) (a := 0) ((show PyKm559.shape 6 = some (0, 0) by decide).symm.trans h) (by decide +kernel) (by unfold Shp; simp)
  by_cases h7 : p = 7
  · subst h7
    exact shape_fin (p := 7) (a := 0) ((show PyKm559.shape 7 = some (0, 0) by decide).symm.trans h) (by decide +kernel) (by unfold Shp; simp)
  by_cases h8 : p = 8
  · subst h8
    exact shape_fin (p := 8) (a := 0) ((show PyKm559.shape 8 = some (0, 0) by decide).symm.trans h) (by decide +kernel) (by unfold Shp; simp)
  by_cases h9 : p = 9
  · subst h9
    exact shape_fin (p := 9) (a := 0) ((show PyKm559.shape 9 = some (0, 0) by decide).symm.trans h) (by decide +kernel) (by unfold Shp; simp)
  by_cases h10 : p = 10
  · subst h10
    exact shape_fin (p := 10) (a := 0) ((show PyKm559.shape 10 = some (0, 0) by decide).symm.trans h) (by decide +kernel) (by unfold Shp; simp)
  by_cases h11 : p = 11
  · subst h11
    exact shape_fin (p := 11) (a := 0) ((show PyKm559.shape 11 = some (0, 0) by decide).symm.trans h) (by decide +kernel) (by unfold Shp; simp)
  by_cases h12 : p = 12
  · subst h12
    exact shape_fin (p := 12) (a := 0) ((show PyKm559.shape 12 = some (0, 0) by decide).symm.trans h) (by decide +kernel) (by unfold Shp; simp)
  by_cases h13 : p = 13
  · subst h13
    exact shape_fin (p := 13) (a := 0) ((show PyKm559.shape 13 = some (0, 0) by decide).symm.trans h) (by decide +kernel) (by unfold Shp; simp)
  by_cases h14 : p = 14
  · subst h14
    exact shape_fin (p := 14) (a := 0) ((show PyKm559.shape 14 = some (0, 0) by decide).symm.trans h) (by decide +kernel) (by unfold Shp; simp)
  by_cases h15 : p = 15
  · subst h15
    exact shape_fin (p := 15) (a := 0) ((show PyKm559.shape 15 = some (0, 0) by decide).symm.trans h) (by decide +kernel) (by unfold Shp; simp)
  by_cases h16 : p = 16
  · subst h16
    exact shape_fin (p := 16) (a := 0) ((show PyKm559.shape 16 = some (0, 0) by decide).symm.trans h) (by decide +kernel) (by unfold Shp; simp)
  by_cases h17 : p = 17
  · subst h17
    exact shape_fin (p := 17) (a := 0) ((show PyKm559.shape 17 = some (0, 0) by decide).symm.trans h) (by decide +kernel) (by unfold Shp; simp)
  by_cases h18 : p = 18
  · subst h18
    exact shape_fin (p := 18) (a := 1) ((show PyKm559.shape 18 = some (1, 0) by decide).symm.trans h) (by decide +kernel) (by unfold Shp; simp)
  by_cases h19 : p = 19
  · subst h19
    exact shape_fin (p := 19) (a := 1) ((show PyKm559.shape 19 = some (1, 0) by decide).symm.trans h) (by decide +kernel) (by unfold Shp; simp)
  by_cases h20 : p = 20
  · subst h20
    exact shape_fin (p := 20) (a := 1) ((show PyKm559.shape 20 = some (1, 0) by decide).symm.trans h) (by decide +kernel) (by unfold Shp; simp)
  by_cases h21 : p = 21
  · subst h21
    exact shape_fin (p := 21) (a := 0) ((show PyKm559.shape 21 = some (0, 0) by decide).symm.trans h) (by decide +kernel) (by unfold Shp; simp)
  by_cases h22 : p = 22
  · subst h22
    exact shape_fin (p := 22) (a := 1) ((show PyKm559.shape 22 = some (1, 0) by decide).symm.trans h) (by decide +kernel) (by unfold Shp; simp)
  by_cases h23 : p = 23
  · subst h23
    exact shape_fin (p := 23) (a := 1) ((show PyKm559.shape 23 = some (1, 0) by decide).symm.trans h) (by decide +kernel) (by unfold Shp; simp)
  by_cases h24 : p = 24
  · subst h24
    exact shape_fin (p := 24) (a := 0) ((show PyKm559.shape 24 = some (0, 0) by decide).symm.trans h) (by decide +kernel) (by unfold Shp; simp)
  simp [PyKm559.shape, h0, h1, h2, h3, h4, h5, h6, h7, h8, h9, h10, h11, h12, h13, h14, h15, h16, h17, h18, h19, h20, h21, h22, h23, h24] at h
theorem take1 {r : List Nat} (h : 1 ≤ r.length) : ∃ x, r.take 1 = [x] := by
  cases r with
  | nil => exact absurd h (by decide)
  | cons x r => exact ⟨x, rfl⟩
theorem take2 {r : List Nat} (h : 2 ≤ r.length) : ∃ x y, r.take 2 = [x, y] := by
  cases r with
  | nil => exact absurd h (by decide)
  | cons x r =>
    cases r with
    | nil => exact absurd h (by simp)
    | cons y r => exact ⟨x, y, rfl⟩
theorem ndrop (l : List Nat) (n : Nat) : (zs l).drop n = zs (l.drop n) := by unfold zs; rw [List.map_drop]
theorem ntake (l : List Nat) (n : Nat) : (zs l).take n = zs (l.take n) := by unfold zs; rw [List.map_take]
/-- what a call answers, as the document's machine tells it -/
def outOf (st : Km559.State) (op : Km559.Call) : Km559.State × List Int := ((Km559.step st op).1, (Km559.step st op).2.num :: (Km559.step st op).2.nums)
theorem neutral_of {c : List (List Int)} {op : Km559.Call} (st : Km559.State) (h : Km559Neutral.parseCall c = some op) : Km559Neutral.step st c = outOf st op := by
  unfold Km559Neutral.step
  rw [h]; rfl
/-- a call at the front -/
theorem parse_one {c : Nat} {r : List Nat} {n k : Nat} (h : PyKm559.shape (c : Int) = some (n, k)) (hl : n ≤ r.length) : ∃ op, OpC (c : Int) (r.take n) op ∧ Km559Neutral.parseCall [(c : Int) :: zs (r.take n)] = some op := by
  obtain ⟨_, _, h3⟩ := shape_is h
  rcases h3 with ⟨rfl, h3⟩ | ⟨rfl, h3⟩ | ⟨rfl, h3⟩
  · rw [List.take_zero]
    rcases h3 with h | h | h | h | h | h | h | h | h | h | h | h | h | h | h | h <;> rw [h]
    · exact ⟨_, .inl ⟨rfl, rfl, rfl⟩, rfl⟩
    · exact ⟨_, .inr ⟨by decide, .o5⟩, rfl⟩
    · exact ⟨_, .inr ⟨by decide, .o6⟩, rfl⟩
    · exact ⟨_, .inr ⟨by decide, .o7⟩, rfl⟩
    · exact ⟨_, .inr ⟨by decide, .o8⟩, rfl⟩
    · exact ⟨_, .inr ⟨by decide, .o9⟩, rfl⟩
    · exact ⟨_, .inr ⟨by decide, .o10⟩, rfl⟩
    · exact ⟨_, .inr ⟨by decide, .o11⟩, rfl⟩
    · exact ⟨_, .inr ⟨by decide, .o12⟩, rfl⟩
    · exact ⟨_, .inr ⟨by decide, .o13⟩, rfl⟩
    · exact ⟨_, .inr ⟨by decide, .o14⟩, rfl⟩
    · exact ⟨_, .inr ⟨by decide, .o15⟩, rfl⟩
    · exact ⟨_, .inr ⟨by decide, .o16⟩, rfl⟩
    · exact ⟨_, .inr ⟨by decide, .o17⟩, rfl⟩
    · exact ⟨_, .inr ⟨by decide, .o21⟩, rfl⟩
    · exact ⟨_, .inr ⟨by decide, .o24⟩, rfl⟩
  · obtain ⟨x, e⟩ := take1 hl
    rw [e]
    have ez : zs [x] = [(x : Int)] := rfl
    rw [ez]
    rcases h3 with h | h | h | h | h | h | h | h <;> rw [h]
    · exact ⟨.addIcebreaker x, .inr ⟨by decide, .o1 x⟩, by show some (Km559.Call.addIcebreaker (x : Int).toNat) = _; rw [Int.toNat_natCast]⟩
    · exact ⟨.removeIcebreaker x, .inr ⟨by decide, .o2 x⟩, by show some (Km559.Call.removeIcebreaker (x : Int).toNat) = _; rw [Int.toNat_natCast]⟩
    · exact ⟨.request x, .inr ⟨by decide, .o4 x⟩, by show some (Km559.Call.request (x : Int).toNat) = _; rw [Int.toNat_natCast]⟩
    · exact ⟨.previewRequest x, .inr ⟨by decide, .o18 x⟩, by show some (Km559.Call.previewRequest (x : Int).toNat) = _; rw [Int.toNat_natCast]⟩
    · exact ⟨.optimalDistanceWithRequest x, .inr ⟨by decide, .o19 x⟩, by show some (Km559.Call.optimalDistanceWithRequest (x : Int).toNat) = _; rw [Int.toNat_natCast]⟩
    · exact ⟨.responders x, .inr ⟨by decide, .o20 x⟩, by show some (Km559.Call.responders (x : Int).toNat) = _; rw [Int.toNat_natCast]⟩
    · exact ⟨.savingWithoutRequest x, .inr ⟨by decide, .o22 x⟩, by show some (Km559.Call.savingWithoutRequest (x : Int).toNat) = _; rw [Int.toNat_natCast]⟩
    · exact ⟨.distancesWithIcebreaker x, .inr ⟨by decide, .o23 x⟩, by show some (Km559.Call.distancesWithIcebreaker (x : Int).toNat) = _; rw [Int.toNat_natCast]⟩
  · obtain ⟨x, y, e⟩ := take2 hl
    rw [e, h3]
    exact ⟨.setStart x y, .inr ⟨by decide, .o3 x y⟩, by show some (Km559.Call.setStart (x : Int).toNat (y : Int).toNat) = _; rw [Int.toNat_natCast, Int.toNat_natCast]⟩
/-- what is answered of the calls that are left -/
def Left (rest : List Nat) (st : Km559.State) (F total : List Int) : Prop := ∃ (fuel : Nat) (cs : List (List (List Int))), PyFlat.calls PyKm559.shape fuel (zs rest) = some cs ∧ F ++ PyFlat.told (PyFlat.played Km559Neutral.step st cs) = total
theorem left_nil {st : Km559.State} {F total : List Int} (h : Left [] st F total) : F = total := by
  obtain ⟨fuel, cs, h1, h2⟩ := h
  have e : cs = [] := by
    cases fuel with
    | zero => exact (Option.some.inj h1).symm
    | succ f => exact (Option.some.inj h1).symm
  rw [e] at h2
  have e2 : PyFlat.told (PyFlat.played Km559Neutral.step st []) = [] := rfl
  rw [e2, List.append_nil] at h2
  exact h2
theorem left_cons {c : Nat} {r : List Nat} {st : Km559.State} {F total : List Int} (h : Left (c :: r) st F total) : ∃ op, manyN (c : Int) ≤ r.length ∧ OpC (c : Int) (r.take (manyN (c : Int))) op ∧
    Left (r.drop (manyN (c : Int))) (outOf st op).1 (F ++ (((outOf st op).2.length : Int) :: (outOf st op).2)) total := by
  obtain ⟨fuel, cs, h1, h2⟩ := h
  cases fuel with
  | zero => cases h1
  | succ f =>
    have e1 : zs (c :: r) = (c : Int) :: zs r := rfl
    rw [e1] at h1
    unfold PyFlat.calls at h1
    cases hs : PyKm559.shape (c : Int) with
    | none =>
      have z : PyFlat.call PyKm559.shape ((c : Int) :: zs r) = none := by
        simp only [PyFlat.call, hs]
      rw [z] at h1
      cases h1
    | some nk =>
      obtain ⟨n, k⟩ := nk
      obtain ⟨hk, hn, _⟩ := shape_is hs
      subst hk
      by_cases hl : n ≤ r.length
      · have z : PyFlat.call PyKm559.shape ((c : Int) :: zs r) = some ([(c : Int) :: zs (r.take n)], zs (r.drop n)) := by
          simp only [PyFlat.call, hs]
          rw [if_neg (by rw [zs_length]; omega)]
          simp only [PyFlat.rows]
          rw [ndrop, ntake]
        rw [z] at h1
        dsimp only at h1
        obtain ⟨op, o1, o2⟩ := parse_one hs hl
        cases hc : PyFlat.calls PyKm559.shape f (zs (r.drop n)) with
        | none => rw [hc] at h1; cases h1
        | some cs' =>
          rw [hc] at h1
          have ecs : [(c : Int) :: zs (r.take n)] :: cs' = cs := Option.some.inj h1
          rw [← hn]
          refine ⟨op, hl, o1, f, cs', hc, ?_⟩
          rw [← ecs] at h2
          have e2 : PyFlat.told (PyFlat.played Km559Neutral.step st ([(c : Int) :: zs (r.take n)] :: cs')) = (((outOf st op).2.length : Int) :: (outOf st op).2) ++ PyFlat.told (PyFlat.played Km559Neutral.step (outOf st op).1 cs') := by
            rw [← neutral_of st o2]; rfl
          rw [e2] at h2
          rw [List.append_assoc]
          exact h2
      · have z : PyFlat.call PyKm559.shape ((c : Int) :: zs r) = none := by
          simp only [PyFlat.call, hs]
          rw [if_pos (by rw [zs_length]; omega)]
        rw [z] at h1
        cases h1
theorem left_start {l : List Nat} (h : PyKm559.answers_asked (zs l) = true) : Left l Km559Neutral.start [] (PyKm559.answers (zs l)) ∧ (PyKm559.answers (zs l)).length ≤ 10000000 := by
  unfold PyKm559.answers_asked at h
  cases hc : PyFlat.calls PyKm559.shape (zs l).length (zs l) with
  | none => rw [hc] at h; cases h
  | some raw =>
    rw [hc] at h
    dsimp only at h
    rw [Bool.and_eq_true] at h
    refine ⟨⟨(zs l).length, raw, hc, ?_⟩, of_decide_eq_true h.2⟩
    unfold PyKm559.answers PyKm559.calls
    rw [hc]
    dsimp only
    rw [show raw.map PyKm559.whole = raw by
      have e : PyKm559.whole = id := by funext c; exact whole_id c
      rw [e, List.map_id]]
    rfl
end Ic

namespace Ic
open PySem PySem.Spec PyProof.Rows L2
local macro_rules | `(tactic| walk_at "rd") => `(tactic| dsimp only [tSeq, tAsg, tRet, tIfS, tIf, tTest, tOp, tUn, tVar, tC, tLst, tTup, tCons, tNil, tCB, tBM, tBM0, tCall, tCallL, gName, gSub, tNext, tDrop, tDNewT, tDGet, sDPut, tFld, sFld, tMkO, tVeI, tOst, tSl, tPart, tNoPart, cxOf, Cx.nox])
theorem tabs_some {mg : Str → Option Value} : ∀ {ns : List (Int × Str)} {tab : List (Int × Addr)}, Paired (fun (n : Int × Str) (p : Int × Addr) => n.1 = p.1 ∧ mg n.2 = some (.ref p.2)) ns tab → ∀ {c : Int} {x : Str}, ns.lookup c = some x → ∃ f, tab.lookup c = some f ∧ mg x = some (.ref f)
  | _, _, .nil, _, _, h => by cases h
  | (i, y) :: ns, (j, g) :: tab, .cons ⟨h1, h2⟩ t, c, x, h => by
    have h1' : i = j := h1
    subst h1'
    by_cases e : c = i
    · have b : (c == i) = true := by simpa using e
      simp only [List.lookup, b] at h ⊢
      have ey : y = x := Option.some.inj h
      subst ey
      exact ⟨g, rfl, h2⟩
    · have b : (c == i) = false := by simpa using e
      simp only [List.lookup, b] at h ⊢
      exact tabs_some t h
theorem tabs_is {mg : Str → Option Value} : ∀ {ns : List (Int × Str)} {tab : List (Int × Addr)}, Paired (fun (n : Int × Str) (p : Int × Addr) => n.1 = p.1 ∧ mg n.2 = some (.ref p.2)) ns tab → ∀ (c : Int), (tab.lookup c).isSome = (ns.lookup c).isSome
  | _, _, .nil, _ => rfl
  | (i, y) :: ns, (j, g) :: tab, .cons ⟨h1, h2⟩ t, c => by
    have h1' : i = j := h1
    subst h1'
    by_cases e : c = i
    · have b : (c == i) = true := by simpa using e
      simp only [List.lookup, b]; rfl
    · have b : (c == i) = false := by simpa using e
      simp only [List.lookup, b]
      exact tabs_is t c
def spMany : Sp := fun vs H Q _ => ∃ c : Int, vs = [.int c] ∧ Q (.int (manyN c : Nat)) H
def spDone (CL CR : Addr) : Sp := fun vs H Q E => ∃ (L q : Addr) (d : Km559.Dispatch) (c : Int) (ns : List Nat) (op : Km559.Call), vs = [.ref L, .int c, .ref q] ∧ LineAt CL H L d ∧ Wf d ∧ IsL H q ns ∧ Op c ns op ∧ Wish CL CR H L d op Q E
theorem sc_many : FnScope ["call"] ["call"] (defScope (top 75)) := ⟨rfl, rfl, rfl, by decide +kernel, rfl, by decide +kernel, by decide +kernel⟩
theorem sc_done : FnScope ["line", "call", "numbers", "deed"] ["line", "call", "numbers"] (defScope (top 76)) := ⟨rfl, rfl, rfl, by decide +kernel, rfl, by decide +kernel, by decide +kernel⟩
theorem passAny {X : Cx} {E : XK} : Passes CX0 X E := fun _ _ _ _ _ _ _ h => h.elim
theorem Cal.mono {P : Program} {w : World} {K : PySem.W.Frag} {mg : Str → Option Value} {base : Heap} {CX : CXT} {j k : Nat} {x : Str} {sp : Sp} (c : Cal P w K mg base CX j x sp) (h : j ≤ k := by decide) : Cal P w K mg base CX k x sp := by
  obtain ⟨f, fd, ps, F, h1, h2, h3⟩ := c.ex
  exact ⟨f, fd, ps, F.mono h, h1, h2, h3⟩
/-- all deeds -/
structure Deeds (P : Program) (w : World) (K : PySem.W.Frag) (mg : Str → Option Value) (base : Heap) (CL CR : Addr) : Prop where
  d1 : Cal P w K mg base (L2.CX P w) 8 "add_icebreaker" (spD1 CL CR .addIcebreaker)
  d2 : Cal P w K mg base (L2.CX P w) 8 "remove_icebreaker" (spD1 CL CR .removeIcebreaker)
  d3 : Cal P w K mg base (L2.CX P w) 8 "set_start" (spD2 CL CR .setStart)
  d4 : Cal P w K mg base (L2.CX P w) 8 "request" (spD1 CL CR .request)
  d5 : Cal P w K mg base (L2.CX P w) 8 "undo_request" (spD0 CL CR .undoRequest)
  d6 : Cal P w K mg base (L2.CX P w) 8 "clear_requests" (spD0 CL CR .clearRequests)
  d7 : Cal P w K mg base (L2.CX P w) 8 "list_requests" (spD0 CL CR .listRequests)
  d8 : Cal P w K mg base (L2.CX P w) 8 "current_positions" (spD0 CL CR .currentPositions)
  d9 : Cal P w K mg base (L2.CX P w) 8 "start_positions" (spD0 CL CR .startPositions)
  d10 : Cal P w K mg base (L2.CX P w) 8 "total_distance" (spD0 CL CR .totalDistance)
  d11 : Cal P w K mg base (L2.CX P w) 8 "greedy_distance" (spD0 CL CR .greedyDistance)
  d12 : Cal P w K mg base (L2.CX P w) 8 "greedy_positions" (spD0 CL CR .greedyPositions)
  d13 : Cal P w K mg base (L2.CX P w) 8 "told_optimum" (spD0 CL CR .optimalDistance)
  d14 : Cal P w K mg base (L2.CX P w) 8 "told_plan" (spD0 CL CR .optimalPlan)
  d15 : Cal P w K mg base (L2.CX P w) 8 "competitive_bound" (spD0 CL CR .competitiveBound)
  d16 : Cal P w K mg base (L2.CX P w) 8 "told_spread" (spD0 CL CR .spread)
  d17 : Cal P w K mg base (L2.CX P w) 8 "excess" (spD0 CL CR .excess)
  d18 : Cal P w K mg base (L2.CX P w) 8 "preview_request" (spD1 CL CR .previewRequest)
  d19 : Cal P w K mg base (L2.CX P w) 8 "distance_with_request" (spD1 CL CR .optimalDistanceWithRequest)
  d20 : Cal P w K mg base (L2.CX P w) 8 "responders" (spD1 CL CR .responders)
  d21 : Cal P w K mg base (L2.CX P w) 8 "distances_per_request" (spD0 CL CR .distancesPerRequest)
  d22 : Cal P w K mg base (L2.CX P w) 8 "saving_without_request" (spD1 CL CR .savingWithoutRequest)
  d23 : Cal P w K mg base (L2.CX P w) 8 "distances_with_icebreaker" (spD1 CL CR .distancesWithIcebreaker)
  d24 : Cal P w K mg base (L2.CX P w) 8 "summary" (spD0 CL CR .summary)
section
variable {P : Program} {w : World} {K : PySem.W.Frag} {mg : Str → Option Value} {base : Heap} {CL CC CR : Addr}
theorem ok_many (T : Txt K mg CL CC CR) (A : At K mg "many_numbers" (top 75)) : Cal P w K mg base CX0 1 "many_numbers" spMany := by
  refine cal0 A sc_many (fun vs H Q E h => ?_) (fun _ _ _ _ _ _ us hl => match us, hl with | [_], _ => rfl) (fun f cdv A outer s H vs Q E hr h => ?_)
  · obtain ⟨c, rfl, _⟩ := h; rfl
  · obtain ⟨dt, tab, hd, KT, pr⟩ := T.tab1
    refine ⟨_, pss_cons (ps_if (pt_cmpR op_eq (pv 0) (C8.pe_gc (by rfl) T.cSS) (nomark _)) (pss_one (ps_ret pe_int)) pss_nil)
      (pss_one (ps_ret (pe_ifExp (pt_cmpR (op_in_tab KT) (pv 0) (C8.pe_gc (v := .ref dt) (by rfl) ⟨_, hd, rfl⟩) (by rfl)) pe_int pe_int))), ?_⟩
    obtain ⟨c, rfl, k⟩ := h
    walk_at "rd"
    refine ⟨_, rfl, rfl, _, rfl, iteD (fun e => ?_) fun e => ?_⟩
    · have e2 := V.int.inj e
      unfold manyN at k
      rw [if_pos e2] at k
      exact k
    · have e2 : c ≠ 3 := fun z => e (congrArg V.int z)
      refine ⟨_, rfl, c, rfl, rfl, _, rfl, ?_⟩
      rw [tabs_is pr]
      unfold manyN at k
      rw [if_neg e2] at k
      by_cases z : (names1.lookup c).isSome = true
      · rw [if_pos z] at k ⊢
        exact k
      · rw [if_neg z] at k ⊢
        exact k
/-- a deed with one number -/
theorem done_one (T : Txt K mg CL CC CR) {f : Addr} {cdv : Value} {A : Around} {outer : List Env} {s : Shared} {H : Hp} {E : XK} {Q : VK} (hr : Room 8 (A.deeper (envOfC "done" (defScope (top 76)) s.heap.objs.size f cdv))) {c : Int} {x : Str} {mk : Nat → Km559.Call} (h3 : c ≠ 3) (hl : names1.lookup c = some x)
    (cal : Cal P w K mg base (L2.CX P w) 8 x (spD1 CL CR mk)) {L q : Addr} {d : Km559.Dispatch} {y : Nat} (la : LineAt CL H L d) (wf : Wf d) (hq : IsL H q [y]) (W : Wish CL CR H L d (mk y) Q E) :
    ∃ t, PSs (cxOf (L2.CX P w) P w K mg base ["line", "call", "numbers", "deed"] "done" (defScope (top 76)) f cdv A outer s H E) (defBody (top 76)) t ∧ t { nx := fun _ H' => Q .non H', rt := Q } (start ["line", "call", "numbers", "deed"] [.ref L, .int c, .ref q]) H := by
  obtain ⟨dt, tab, hd, KT, pr⟩ := T.tab1
  obtain ⟨g, fd, ps, F, hm, kp, b⟩ := cal.ex
  obtain ⟨g', hg', hm'⟩ := tabs_some pr hl
  have eg : g' = g := by
    rw [hm] at hm'
    exact (Value.ref.inj (Option.some.inj hm')).symm
  subst eg
  have tk := takes_of (X := cxOf (L2.CX P w) P w K mg base ["line", "call", "numbers", "deed"] "done" (defScope (top 76)) f cdv A outer s H E) (E := E) rfl rfl rfl rfl
  refine ⟨_, pss_cons (ps_if (pt_cmpR op_eq (pv 1) (C8.pe_gc (by rfl) T.cSS) (nomark _)) (pss_one ps_never) pss_nil)
    (pss_cons (ps_if (pt_cmpR (op_in_tab KT) (pv 1) (C8.pe_gc (v := .ref dt) (by rfl) ⟨_, hd, rfl⟩) (by rfl)) (pss_cons (ps_set (i := 3) sc_done.nd rfl (Or.inl rfl) (pe_ix (ix_tab KT) (C8.pe_gc (v := .ref dt) (by rfl) ⟨_, hd, rfl⟩) (pv 1) (fun _ _ => rfl)))
      (pss_one (ps_ret (pe_callL (i := 3) (E := E) F hr rfl (Or.inl rfl) kp b .nil (passes_call tk fun _ _ _ _ h => h) (pa_cons (pv 0) (pa_cons (pe_ix ix_list (pv 2) pe_int (fun _ _ => rfl)) pa_nil)))))) pss_nil)
    (pss_cons ps_never (pss_one ps_never))), ?_⟩
  walk_at "rd"
  refine ⟨_, rfl, rfl, _, rfl, iteD (fun e => absurd (V.int.inj e) h3) fun _ => ?_⟩
  refine ⟨_, rfl, c, rfl, rfl, _, rfl, ?_⟩
  rw [tabs_is pr, hl]
  refine iteT ?_
  refine ⟨_, rfl, c, _, rfl, rfl, hg', ?_⟩
  refine ⟨rfl, _, rfl, _, rfl, q, _, _, .int (y : Nat), rfl, rfl, hq.seq, atI_nat (j := 0) rfl, ?_⟩
  exact ⟨L, d, y, rfl, la, wf, W⟩
theorem done_none (T : Txt K mg CL CC CR) {f : Addr} {cdv : Value} {A : Around} {outer : List Env} {s : Shared} {H : Hp} {E : XK} {Q : VK} (hr : Room 8 (A.deeper (envOfC "done" (defScope (top 76)) s.heap.objs.size f cdv))) {c : Int} {x : Str} {op : Km559.Call} (h3 : c ≠ 3) (hn : (names1.lookup c).isSome = false) (hl : names0.lookup c = some x)
    (cal : Cal P w K mg base (L2.CX P w) 8 x (spD0 CL CR op)) {L q : Addr} {d : Km559.Dispatch} (la : LineAt CL H L d) (wf : Wf d) (W : Wish CL CR H L d op Q E) :
    ∃ t, PSs (cxOf (L2.CX P w) P w K mg base ["line", "call", "numbers", "deed"] "done" (defScope (top 76)) f cdv A outer s H E) (defBody (top 76)) t ∧ t { nx := fun _ H' => Q .non H', rt := Q } (start ["line", "call", "numbers", "deed"] [.ref L, .int c, .ref q]) H := by
  obtain ⟨dt, tab, hd, KT, pr⟩ := T.tab1
  obtain ⟨dt0, tab0, hd0, KT0, pr0⟩ := T.tab0
  obtain ⟨g, fd, ps, F, hm, kp, b⟩ := cal.ex
  obtain ⟨g', hg', hm'⟩ := tabs_some pr0 hl
  have eg : g' = g := by
    rw [hm] at hm'
    exact (Value.ref.inj (Option.some.inj hm')).symm
  subst eg
  have tk := takes_of (X := cxOf (L2.CX P w) P w K mg base ["line", "call", "numbers", "deed"] "done" (defScope (top 76)) f cdv A outer s H E) (E := E) rfl rfl rfl rfl
  refine ⟨_, pss_cons (ps_if (pt_cmpR op_eq (pv 1) (C8.pe_gc (by rfl) T.cSS) (nomark _)) (pss_one ps_never) pss_nil)
    (pss_cons (ps_if (pt_cmpR (op_in_tab KT) (pv 1) (C8.pe_gc (v := .ref dt) (by rfl) ⟨_, hd, rfl⟩) (by rfl)) (pss_cons ps_never (pss_one ps_never)) pss_nil)
    (pss_cons (ps_set (i := 3) sc_done.nd rfl (Or.inl rfl) (pe_ix (ix_tab KT0) (C8.pe_gc (v := .ref dt0) (by rfl) ⟨_, hd0, rfl⟩) (pv 1) (fun _ _ => rfl)))
      (pss_one (ps_ret (pe_callL (i := 3) (E := E) F hr rfl (Or.inl rfl) kp b .nil (passes_call tk fun _ _ _ _ h => h) (pa_cons (pv 0) pa_nil)))))), ?_⟩
  walk_at "rd"
  refine ⟨_, rfl, rfl, _, rfl, iteD (fun e => absurd (V.int.inj e) h3) fun _ => ?_⟩
  refine ⟨_, rfl, c, rfl, rfl, _, rfl, ?_⟩
  rw [tabs_is pr, hn]
  refine iteF ?_
  refine ⟨_, rfl, c, _, rfl, rfl, hg', ?_⟩
  exact ⟨rfl, _, rfl, L, d, rfl, la, wf, W⟩
theorem ok_done (T : Txt K mg CL CC CR) (A : At K mg "done" (top 76)) (D : Deeds P w K mg base CL CR) : Cal P w K mg base (L2.CX P w) 9 "done" (spDone CL CR) := by
  refine calX A sc_done (fun vs H Q E h => ?_) (fun _ _ _ _ _ _ us hl => match us, hl with | [_, _, _], _ => rfl) (fun f cdv A outer s H vs Q E hr h => ?_)
  · obtain ⟨L, q, d, c, ns, op, rfl, _⟩ := h; rfl
  · obtain ⟨L, q, d, c, ns, op, rfl, la, wf, hq, ho, W⟩ := h
    cases ho with
    | o1 x => exact done_one T hr (by decide) rfl D.d1 la wf hq W
    | o2 x => exact done_one T hr (by decide) rfl D.d2 la wf hq W
    | o3 x y =>
      have tk := takes_of (X := cxOf (L2.CX P w) P w K mg base ["line", "call", "numbers", "deed"] "done" (defScope (top 76)) f cdv A outer s H E) (E := E) rfl rfl rfl rfl
      refine ⟨_, pss_cons (ps_if (pt_cmpR op_eq (pv 1) (C8.pe_gc (by rfl) T.cSS) (nomark _)) (pss_one (ps_ret (pe_cX D.d3 hr tk (pa_cons (pv 0) (pa_cons (pe_ix ix_list (pv 2) pe_int (fun _ _ => rfl)) (pa_cons (pe_ix ix_list (pv 2) pe_int (fun _ _ => rfl)) pa_nil)))))) pss_nil)
        (pss_cons ps_never (pss_cons ps_never (pss_one ps_never))), ?_⟩
      walk_at "rd"
      refine ⟨_, rfl, rfl, _, rfl, iteD (fun _ => ?_) fun e => absurd rfl e⟩
      exact ⟨_, rfl, _, rfl, q, _, _, .int (x : Nat), rfl, rfl, hq.seq, atI_nat (j := 0) rfl, _, rfl, q, _, _, .int (y : Nat), rfl, rfl, hq.seq, atI_nat (j := 1) rfl, L, d, x, y, rfl, la, wf, W⟩
    | o4 x => exact done_one T hr (by decide) rfl D.d4 la wf hq W
    | o5 => exact done_none T hr (by decide) rfl rfl D.d5 la wf W
    | o6 => exact done_none T hr (by decide) rfl rfl D.d6 la wf W
    | o7 => exact done_none T hr (by decide) rfl rfl D.d7 la wf W
    | o8 => exact done_none T hr (by decide) rfl rfl D.d8 la wf W
    | o9 => exact done_none T hr (by decide) rfl rfl D.d9 la wf W
    | o10 => exact done_none T hr (by decide) rfl rfl D.d10 la wf W
    | o11 => exact done_none T hr (by decide) rfl rfl D.d11 la wf W
    | o12 => exact done_none T hr (by decide) rfl rfl D.d12 la wf W
    | o13 => exact done_none T hr (by decide) rfl rfl D.d13 la wf W
    | o14 => exact done_none T hr (by decide) rfl rfl D.d14 la wf W
    | o15 => exact done_none T hr (by decide) rfl rfl D.d15 la wf W
    | o16 => exact done_none T hr (by decide) rfl rfl D.d16 la wf W
    | o17 => exact done_none T hr (by decide) rfl rfl D.d17 la wf W
    | o18 x => exact done_one T hr (by decide) rfl D.d18 la wf hq W
    | o19 x => exact done_one T hr (by decide) rfl D.d19 la wf hq W
    | o20 x => exact done_one T hr (by decide) rfl D.d20 la wf hq W
    | o21 => exact done_none T hr (by decide) rfl rfl D.d21 la wf W
    | o22 x => exact done_one T hr (by decide) rfl D.d22 la wf hq W
    | o23 x => exact done_one T hr (by decide) rfl D.d23 la wf hq W
    | o24 => exact done_none T hr (by decide) rfl rfl D.d24 la wf W
end
end Ic

namespace Ic
open PySem PySem.Spec PyProof.Rows L2
local macro_rules | `(tactic| walk_at "rd") => `(tactic| dsimp only [tSeq, tAsg, tRet, tIfS, tIf, tTest, tOp, tUn, tVar, tC, tLst, tTup, tCons, tNil, tCB, tBM, tBM0, tCall, tCallS, tMake, tXf, gName, gSub, tNext, tDrop, tDNewT, tDGet, sDPut, tFld, sFld, tMkO, tVeI, tOst, tSl, tPart, tNoPart, cxOf, Cx.nox])
section
open Km559
/-- the bounds of a line hold on -/
theorem wf_step {d d' : Dispatch} (wf : Wf d) {op : Call} (h : (step (some d) op).1 = some d') : Wf d' := by
  have same : (some d : State) = some d' → Wf d' := fun e => (Option.some.inj e) ▸ wf
  cases op with
  | create => exact (Option.some.inj (show some (⟨[], []⟩ : Dispatch) = some d' from h)) ▸ ⟨Nat.zero_le _, Nat.zero_le _, fun _ => rfl⟩
  | addIcebreaker x =>
    by_cases c : 99 < x
    · rw [st_add1 c] at h; exact same h
    by_cases k : 3 ≤ d.starts.length
    · rw [st_add2 c k] at h; exact same h
    rw [st_add3 c k] at h
    exact (Option.some.inj h) ▸ ⟨by show (d.starts ++ [x]).length ≤ 3; rw [List.length_append]; show _ + 1 ≤ 3; omega, Nat.zero_le _, fun _ => rfl⟩
  | removeIcebreaker x =>
    by_cases c : d.starts.length ≤ x
    · rw [st_rem1 c] at h; exact same h
    rw [st_rem2 c] at h
    exact (Option.some.inj h) ▸ ⟨by show (d.starts.eraseIdx x).length ≤ 3; rw [List.length_eraseIdx_of_lt (by omega)]; have := wf.s; omega, Nat.zero_le _, fun _ => rfl⟩
  | setStart x y =>
    by_cases c : d.starts.length ≤ x
    · rw [st_set1 c] at h; exact same h
    by_cases k : 99 < y
    · rw [st_set2 c k] at h; exact same h
    rw [st_set3 c k] at h
    exact (Option.some.inj h) ▸ ⟨by show (d.starts.set x y).length ≤ 3; rw [List.length_set]; exact wf.s, Nat.zero_le _, fun _ => rfl⟩
  | request x =>
    by_cases c : 99 < x
    · rw [st_req1 c] at h; exact same h
    by_cases k : d.starts = []
    · rw [st_req2 c k] at h; exact same h
    by_cases r : 8 ≤ d.requests.length
    · rw [st_req3 c k r] at h; exact same h
    rw [st_req4 c k r] at h
    exact (Option.some.inj h) ▸ ⟨wf.s, by show (d.requests ++ [x]).length ≤ 8; rw [List.length_append]; show _ + 1 ≤ 8; omega, fun e => absurd e k⟩
  | undoRequest =>
    rcases List.eq_nil_or_concat d.requests with e | ⟨l, x, e⟩
    · rw [st_undo1 e] at h; exact same h
    · have e' : d.requests = l ++ [x] := by rw [e, List.concat_eq_append]
      rw [st_undo2 e'] at h
      have wt := wf.t
      have we := wf.e
      rw [e'] at wt we
      exact (Option.some.inj h) ▸ ⟨wf.s, by rw [List.length_append] at wt; show l.length ≤ 8; omega, fun z => by have := we z; simp at this⟩
  | clearRequests => exact (Option.some.inj (show some (⟨d.starts, []⟩ : Dispatch) = some d' from h)) ▸ ⟨wf.s, Nat.zero_le _, fun _ => rfl⟩
  | listRequests => exact same h
  | currentPositions => exact same h
  | startPositions => exact same h
  | totalDistance => exact same h
  | greedyDistance => exact same h
  | greedyPositions => exact same h
  | optimalDistance => exact same h
  | optimalPlan => exact same h
  | competitiveBound => exact same h
  | spread => exact same h
  | excess => exact same h
  | previewRequest x => exact same h
  | optimalDistanceWithRequest x => exact same h
  | responders x => exact same h
  | distancesPerRequest => exact same h
  | savingWithoutRequest x => exact same h
  | distancesWithIcebreaker x => exact same h
  | summary => exact same h
theorem st_none {c : Int} {ns : List Nat} {op : Call} (h : Op c ns op) : step none op = (none, error (-11)) := by
  cases h <;> rfl
end
/-- what is no instance stands -/
def Keep (H H' : Hp) : Prop := ∀ b o, (∀ C dx fs, o ≠ HO.ins C dx fs) → H b = some o → H' b = some o
theorem Keep.of {CL : Addr} {H H' : Hp} {L dx : Addr} {fs : List (Str × V)} (b : But H H' L) (h : H L = some (.ins CL dx fs)) : Keep H H' := fun c o n e => b c o (fun z => by
  rw [z, h] at e
  exact n _ _ _ (Option.some.inj e).symm) e
theorem Keep.trans {H H1 H2 : Hp} (a : Keep H H1) (b : Keep H1 H2) : Keep H H2 := fun c o n e => b c o n (a c o n e)
theorem Keep.seq {K : PySem.W.Frag} {H H' : Hp} {a : Addr} {xs : List V} (e : Keep H H') (h : SqL K H a xs) : SqL K H' a xs := by
  rcases h with (h | ⟨o, h⟩) | h
  · exact .inl (.inl (e _ _ (fun _ _ _ z => by cases z) h))
  · exact .inl (.inr ⟨o, e _ _ (fun _ _ _ z => by cases z) h⟩)
  · exact .inr h
def CoastAt (CL CC : Addr) (H : Hp) (co : Addr) (st : Km559.State) : Prop := ∃ (dx : Addr) (v : V), H co = some (.ins CC dx [("line", v)]) ∧ ((st = none ∧ v = .non) ∨ ∃ (d : Km559.Dispatch) (L : Addr), st = some d ∧ v = .ref L ∧ LineAt CL H L d ∧ Wf d)
theorem CoastAt.same {CL CC : Addr} {H H' : Hp} {co : Addr} {st : Km559.State} (h : CoastAt CL CC H co st) (s : Same H H') : CoastAt CL CC H' co st := by
  obtain ⟨dx, v, h1, h2⟩ := h
  refine ⟨dx, v, s _ _ h1, ?_⟩
  rcases h2 with h2 | ⟨d, L, e1, e2, e3, e4⟩
  · exact .inl h2
  · exact .inr ⟨d, L, e1, e2, e3.same s, e4⟩
def spAnd (CL CC : Addr) : Sp := fun vs H Q _ => ∃ (co q : Addr) (c : Int) (ns : List Nat) (op : Km559.Call) (st : Km559.State), vs = [.ref co, .int c, .ref q] ∧ OpC c ns op ∧ IsL H q ns ∧ CoastAt CL CC H co st ∧
  ∀ (H' : Hp) (r : Addr), CoastAt CL CC H' co (outOf st op).1 → Keep H H' → H r = none → H' r = some (.lst ((outOf st op).2.map V.int)) → Q (.ref r) H'
theorem sc_and : FnScope ["coast", "call", "numbers", "e"] ["coast", "call", "numbers"] (defScope (top 77)) := ⟨rfl, rfl, rfl, by decide +kernel, rfl, by decide +kernel, by decide +kernel⟩
theorem ln_lk (v : V) : List.lookup ("line" : Str) [(("line" : Str), v)] = some v := lk_here
theorem ln_put (v x : V) : putF "line" v [(("line" : Str), x)] = [(("line" : Str), v)] := put_here
theorem cd_lk (v : V) : List.lookup ("code" : Str) [(("code" : Str), v)] = some v := lk_here
section
variable {P : Program} {w : World} {K : PySem.W.Frag} {mg : Str → Option Value} {base : Heap} {CL CC CR : Addr}
theorem ok_and (T : Txt K mg CL CC CR) (A : At K mg "answered" (top 77)) (cD : Cal P w K mg base (L2.CX P w) 9 "done" (spDone CL CR)) : Cal P w K mg base CX0 10 "answered" (spAnd CL CC) := by
  refine cal0 A sc_and (fun vs H Q E h => ?_) (fun _ _ _ _ _ _ us hl => match us, hl with | [_, _, _], _ => rfl) (fun f cdv A outer s H vs Q E hr h => ?_)
  · obtain ⟨co, q, c, ns, op, st, rfl, _⟩ := h; rfl
  · obtain ⟨fL, fdL, MK, FL⟩ := T.mL
    have bL := FL.binds (ps := ["self"]) fun _ _ _ _ _ _ us hl => match us, hl with | [_], _ => rfl
    refine ⟨_, pss_cons (ps_if (pt_cmpR op_eq (pv 1) (C8.pe_gc (by rfl) T.cCR) (nomark _)) (pss_cons (ps_fld (pv 0) (pe_make0 MK (ok_iL T FL) (hr.mono (by decide)) rfl T.gL bL .nil passF) rfl) (pss_one (ps_ret (pe_lst (pa_cons pe_int pa_nil))))) pss_nil)
      (pss_cons (ps_if (pt_cmpR op_isN (pe_fld (pv 0) rfl) pe_non (nomark _)) (pss_one (ps_ret (pe_lst (pa_cons (C8.pe_gc (by rfl) T.cNI) pa_nil)))) pss_nil)
      (pss_one (ps_try_as (i := 3) (tb := fun W => tRet (tCallS (spDone CL CR) (WE W) (tCons (tFld K (tVar 0) "line") (tCons (tVar 1) (tCons (tVar 2) tNil))))) (ts := fun a cls d => tRet (tLst (tCons (tXf a cls d CR "code" (tVar 3)) tNil))) (Wout := fun _ _ _ _ => False) rfl rfl sc_and.nd rfl rfl ⟨rfl, by decide, Or.inl T.gR⟩ takes0
        (fun W pn xe tk _ => pss_one (ps_ret (by exact (pe_cT cD hr tk (pa_cons (pe_fld (pv 0) rfl) (pa_cons (pv 1) (pa_cons (pv 2) pa_nil)))))))
        (fun a oe cls d pn hz hf => pss_one (ps_ret (by exact (pe_lst (pa_cons (pe_xf T.xf T.noC hz hf (pv 3)) pa_nil)))))))), ?_⟩
    obtain ⟨co, q, c, ns, op, st, rfl, oc, hq, ca, k⟩ := h
    walk_at "rd"
    refine ⟨_, rfl, rfl, _, rfl, iteD (fun e => ?_) fun e => ?_⟩
    · have e2 := V.int.inj e
      rcases oc with ⟨o1, o2, o3⟩ | ⟨o1, _⟩
      · subst o1 o2 o3
        obtain ⟨dc, v, hc, _⟩ := ca
        intro x dx nx ndx ne
        have cx : co ≠ x := ne_of_none hc nx
        have cdx : co ≠ dx := ne_of_none hc ndx
        refine ⟨x, dx, rfl, upd_same, fun H1 a b b1 li => ⟨rfl, ?_⟩⟩
        have s1 : Same H H1 := fun z o hz => b1 z o (ne_of_none hz nx) (by rw [upd_ne (ne_of_none hz nx), upd_ne (ne_of_none hz ndx)]; exact hz)
        have h1 := s1 _ _ hc
        refine ⟨_, rfl, co, CC, dc, _, rfl, h1, T.clC, T.nL, (by show 1 < 1000; decide), one_le, fun r nr => ?_⟩
        rw [ln_put]
        rw [ln_put] at nr
        have cr : co ≠ r := ne_of_none upd_same nr
        have nr1 : H1 r = none := by rw [upd_ne (Ne.symm cr)] at nr; exact nr
        have sr : Same H1 (upd H1 r (.lst [.int 0])) := Same.new nr1
        have ca' : co ≠ a := ne_of h1 li.2.1 (fun z => by cases z)
        have cb' : co ≠ b := ne_of h1 li.2.2 (fun z => by cases z)
        have xr : x ≠ r := ne_of_none li.1 nr1
        have ar : a ≠ r := ne_of_none li.2.1 nr1
        have br : b ≠ r := ne_of_none li.2.2 nr1
        refine k _ r ⟨dc, .ref x, ?_, .inr ⟨⟨[], []⟩, x, rfl, rfl, ⟨dx, a, b, ?_, ?_, ?_⟩, Nat.zero_le _, Nat.zero_le _, fun _ => rfl⟩⟩ ?_ (s1.free nr1) upd_same
        · rw [upd_ne cr, upd_same]
        · rw [upd_ne xr, upd_ne (Ne.symm cx)]; exact li.1
        · show upd _ _ _ _ = _
          rw [upd_ne ar, upd_ne (Ne.symm ca')]; exact li.2.1
        · show upd _ _ _ _ = _
          rw [upd_ne br, upd_ne (Ne.symm cb')]; exact li.2.2
        · exact Keep.of (L := co) (((But.of s1 (L := co)).store (o := .ins CC dc [("line", .ref x)])).then (Same.new nr)) hc
      · exact absurd e2 o1
    · rcases oc with ⟨o1, _⟩ | ⟨_, ho⟩
      · exact absurd (congrArg V.int o1) e
      obtain ⟨dc, v, hc, hv⟩ := id ca
      refine ⟨_, rfl, co, CC, dc, _, _, rfl, hc, T.clC, T.nL, ln_lk v, rfl, _, rfl, iteD (fun z => ?_) fun z => ?_⟩
      · have z2 : v = .non := by simpa using z
        rcases hv with ⟨e1, _⟩ | ⟨d, L, _, e2, _⟩
        · subst e1
          refine ⟨one_le, fun r nr => ?_⟩
          have eo : outOf none op = (none, [-11]) := by unfold outOf; rw [st_none ho]; rfl
          refine k _ r ?_ (fun b o _ hb => Same.new nr b o hb) nr ?_
          · rw [eo]; exact ca.same (Same.new nr)
          · rw [eo]; exact upd_same
        · rw [e2] at z2; cases z2
      · rcases hv with ⟨_, e2⟩ | ⟨d, L, e1, e2, la, wf⟩
        · exact absurd (by rw [e2]) z
        subst e1 e2
        have cL : co ≠ L := fun zz => by
          obtain ⟨dx, a, b, li⟩ := la
          have := li.1
          rw [← zz, hc] at this
          injection this with t1
          injection t1 with t1 t2 t3
          have t4 := congrArg List.length t3
          exact absurd t4 (by show ¬ 1 = 2; decide)
        refine ⟨_, rfl, co, CC, dc, _, _, rfl, hc, T.clC, T.nL, ln_lk _, _, rfl, _, rfl, L, q, d, c, ns, op, rfl, la, wf, hq, ho, ⟨fun code hb => ?_, fun d' n zs' hg H' r bt la' nr hr' => ?_⟩⟩
        · intro H' dd s' nd hd
          refine ⟨true, T.eR, fun _ a0 na => ?_, fun q => Bool.noConfusion q⟩
          refine ⟨_, rfl, rfl, rfl, dd, _, _, rfl, hd, cd_lk _, one_le, fun r nr => ?_⟩
          have eo : outOf (some d) op = (some d, [code]) := by unfold outOf; rw [hb]; rfl
          have sA := s'.upd (o := .lst [.int code]) nr
          refine k _ r ?_ (fun b o _ hb => sA b o hb) (s'.free nr) ?_
          · rw [eo]; exact ca.same sA
          · rw [eo]; exact upd_same
        · have eo : outOf (some d) op = (some d', n :: zs') := by unfold outOf; rw [hg]
          obtain ⟨dx, a, b, li⟩ := id la
          refine k H' r ?_ (Keep.of bt li.1) nr ?_
          · rw [eo]
            exact ⟨dc, .ref L, bt _ _ cL hc, .inr ⟨d', L, rfl, rfl, la', wf_step wf (op := op) (by rw [hg])⟩⟩
          · rw [eo]; exact hr'
end
end Ic

namespace Ic
open PySem PySem.Spec PyProof.Rows L2
local macro_rules | `(tactic| walk_at "rd") => `(tactic| dsimp only [tSeq, tAsg, tRet, tIfS, tIf, tTest, tOp, tUn, tVar, tC, tLst, tTup, tCons, tNil, tCB, tBM, tBM0, tCall, tCallS, tMake, tXf, gName, gSub, tNext, tDrop, tDNewT, tDGet, sDPut, tFld, sFld, tMkO, tVeI, tOst, tSl, tPart, tNoPart, cxOf, Cx.nox])
theorem cut_mid (l : List Nat) {p n : Nat} (h : p + n ≤ l.length) : cutV (nV l) (some (p : Nat)) (some ((p + n : Nat) : Int)) = nV ((l.drop p).take n) := by
  unfold cutV
  rw [HT.sIx_nat, HT.sIx_nat, nV_length, Nat.min_eq_left h, Nat.min_eq_left (by omega), Nat.add_sub_cancel_left]
  unfold nV
  rw [← List.map_drop, ← List.map_take]
theorem left_le {rest : List Nat} {st : Km559.State} {F total : List Int} (h : Left rest st F total) : F.length ≤ total.length := by
  obtain ⟨_, _, _, e⟩ := h
  rw [← e, List.length_append]
  exact Nat.le_add_right _ _
def spAns (K : PySem.W.Frag) : Sp := fun vs H Q _ => ∃ (a : Addr) (lN : List Nat), vs = [.ref a] ∧ SqL K H a (nV lN) ∧ PyKm559.answers_asked (zs lN) = true ∧
  ∀ (H' : Hp) (p : Addr), H' p = some (.lst ((PyKm559.answers (zs lN)).map V.int)) → Q (.ref p) H'
theorem sc_ans : FnScope ["calls", "coast", "found", "place", "end", "numbers"] ["calls"] (defScope (top 78)) := ⟨rfl, rfl, rfl, by decide +kernel, rfl, by decide +kernel, by decide +kernel⟩
/-- between two calls -/
def Turn (K : PySem.W.Frag) (CL CC a : Addr) (lN : List Nat) (total : List Int) (σ : L2.St) (H : Hp) : Prop := ∃ (p : Nat) (co r : Addr) (F : List Int) (st : Km559.State) (v4 v5 : Option V),
  σ = [some (.ref a), some (.ref co), some (.ref r), some (.int (p : Nat)), v4, v5] ∧ p ≤ lN.length ∧ SqL K H a (nV lN) ∧ H r = some (.lst (F.map V.int)) ∧ CoastAt CL CC H co st ∧ Left (lN.drop p) st F total
def placeOf (σ : L2.St) : Nat := match σ with
  | [_, _, _, some (.int p), _, _] => p.toNat
  | _ => 0
section
variable {P : Program} {w : World} {K : PySem.W.Frag} {mg : Str → Option Value} {base : Heap} {CL CC CR : Addr}
theorem ok_ans (T : Txt K mg CL CC CR) {f : Addr} {fd : FuncData} (F : Fun K "answers" "answers" (top 78) f fd) (cM : Cal P w K mg base CX0 1 "many_numbers" spMany) (cA : Cal P w K mg base CX0 10 "answered" (spAnd CL CC)) : FnOk P w K mg base CX0 11 f fd ["calls"] (spAns K) := by
  refine F.ok sc_ans (fun vs H Q E h => ?_) (fun cdv A outer s H vs Q E hr h => ?_)
  · obtain ⟨a, lN, rfl, _⟩ := h; rfl
  · obtain ⟨fC, fdC, MK, FC⟩ := T.mC
    have bC := FC.binds (ps := ["self"]) fun _ _ _ _ _ _ us hl => match us, hl with | [_], _ => rfl
    refine ⟨_, pss_cons (ps_set (i := 1) sc_ans.nd rfl (Or.inl rfl) (pe_make0 MK (ok_iC T FC) (hr.mono (by decide)) rfl T.gC bC .nil passF))
      (pss_cons (ps_set (i := 2) sc_ans.nd rfl (Or.inl rfl) (pe_lst pa_nil))
      (pss_cons (ps_set (i := 3) sc_ans.nd rfl (Or.inl rfl) pe_int)
      (pss_cons (ps_while PassesOwn.never (pt_cmpR op_lt (pv 3) (pe_callB call_len_seq (by rfl) T.bl.len PySem.boot_len (pa_cons (pv 0) pa_nil)) (nomark _))
        (pss_cons (ps_set (i := 4) sc_ans.nd rfl (Or.inl rfl) (pe_op op_add (pe_op op_add (pv 3) pe_int) (pe_c cM hr (pa_cons (pe_ix ix_list (pv 0) (pv 3) (fun _ _ => rfl)) pa_nil))))
        (pss_cons (ps_set (i := 5) sc_ans.nd rfl (Or.inl rfl) (pe_c cA hr (pa_cons (pv 1) (pa_cons (pe_ix ix_list (pv 0) (pv 3) (fun _ _ => rfl)) (pa_cons (pe_slice sl_list (pv 0) (po_some (pe_op op_add (pv 3) pe_int)) (po_some (pv 4))) pa_nil)))))
        (pss_cons (ps_set (i := 2) sc_ans.nd rfl (Or.inl rfl) (pe_op op_cat (pe_op op_cat (pv 2) (pe_lst (pa_cons (pe_callB call_len_seq (by rfl) T.bl.len PySem.boot_len (pa_cons (pv 5) pa_nil)) pa_nil))) (pv 5)))
        (pss_one (ps_set (i := 3) sc_ans.nd rfl (Or.inl rfl) (pv 4)))))))
      (pss_one (ps_ret (pv 2)))))), ?_⟩
    obtain ⟨a, lN, rfl, hs, hask, k⟩ := h
    obtain ⟨ls, lm⟩ := left_start hask
    generalize PyKm559.answers (zs lN) = total at ls lm k
    walk_at "rd"
    intro co dx nco ndx ne
    have sC : Same H (upd (upd H dx (.own co)) co (.ins CC dx [("line", .non)])) := fun b o hb => by
      rw [upd_ne (ne_of_none hb nco), upd_ne (ne_of_none hb ndx)]; exact hb
    refine ⟨co, dx, rfl, upd_same, rfl, ?_⟩
    have e0 : upd (upd (upd H dx (.own co)) co (.ins CC dx [])) co (.ins CC dx [("line", .non)]) = upd (upd H dx (.own co)) co (.ins CC dx [("line", .non)]) := by
      funext b
      by_cases c : b = co
      · rw [c, upd_same, upd_same]
      · rw [upd_ne c, upd_ne c, upd_ne c]
    rw [e0]
    refine ⟨Nat.zero_le _, fun r nr => ?_⟩
    have sR := sC.upd (o := .lst []) nr
    have cr : co ≠ r := ne_of_none upd_same nr
    refine while_by (Turn K CL CC a lN total) (fun σ _ => lN.length - placeOf σ) ⟨0, co, r, [], Km559Neutral.start, none, none, rfl, Nat.zero_le _, sR.seq hs, upd_same, ⟨dx, .non, (upd_ne cr).trans upd_same, .inl ⟨rfl, rfl⟩⟩, ls⟩ ?_ ?_
    · rintro σ H1 ⟨p, co, r, F, st, v4, v5, rfl, hp, hs1, hr1, ca, lf⟩
      walk_at "rd"
      refine ⟨_, rfl, _, rfl, a, _, rfl, .inl hs1, _, _, rfl, rfl, _, rfl, iteD (fun c => ?_) fun c => ?_⟩
      · rw [nV_length] at c
        have c1 : p < lN.length := by omega
        have hc : lN[p]? = some (lN[p]'c1) := List.getElem?_eq_getElem c1
        have ed : lN.drop p = lN[p]'c1 :: lN.drop (p + 1) := List.drop_eq_getElem_cons c1
        generalize lN[p]'c1 = x at hc ed
        rw [ed] at lf
        obtain ⟨op, hm, oc, lf'⟩ := left_cons lf
        rw [List.length_drop] at hm
        rw [List.drop_drop] at lf'
        have ll := left_le lf'
        rw [List.length_append] at ll
        generalize hn : manyN (x : Int) = n at hm oc lf'
        have atx := atI_nat (j := p) (nV_at hc)
        refine ⟨_, rfl, _, _, rfl, rfl, ?_⟩
        refine ⟨_, rfl, _, rfl, a, _, _, .int (x : Nat), rfl, rfl, hs1, atx, (x : Nat), rfl, ?_⟩
        rw [hn]
        refine ⟨_, _, rfl, rfl, ?_⟩
        have ee : ((p : Nat) : Int) + 1 + ((n : Nat) : Int) = ((p + 1 + n : Nat) : Int) := by rw [Int.natCast_add, Int.natCast_add]; rfl
        dsimp only
        rw [ee]
        refine ⟨_, rfl, _, rfl, _, rfl, a, _, _, .int (x : Nat), rfl, rfl, hs1, atx, ?_⟩
        refine ⟨_, rfl, _, rfl, _, _, rfl, rfl, ((p + 1 : Nat) : Int), by rw [Int.natCast_add]; rfl, _, rfl, ((p + 1 + n : Nat) : Int), rfl, a, _, rfl, hs1, fun q nq => ?_⟩
        rw [cut_mid lN (p := p + 1) (n := n) (by omega)]
        have s2 := Same.new (o := .lst (nV ((lN.drop (p + 1)).take n))) nq
        refine ⟨co, q, (x : Nat), (lN.drop (p + 1)).take n, op, st, rfl, oc, upd_same, ca.same s2, fun H3 r3 ca3 kp3 nr3 hr3 => ?_⟩
        have kp : Keep H1 H3 := fun b o hb e => kp3 b o hb (s2 b o e)
        have hs3 := kp.seq hs1
        have hrr := kp _ _ (fun _ _ _ z => by cases z) hr1
        refine ⟨_, rfl, _, rfl, r3, _, rfl, .inl (SqL.of hr3), one_le, fun q2 nq2 => ?_⟩
        have s4 := Same.new (o := .lst [V.int (((outOf st op).2.map V.int).length : Nat)]) nq2
        have sz : F.length + ((outOf st op).2.length + 1) ≤ 10000000 := by
          simp only [List.length_cons] at ll; omega
        refine ⟨r, q2, _, _, rfl, rfl, s4 _ _ hrr, upd_same, ?_, fun q3 nq3 => ?_⟩
        · rw [List.length_map]
          exact sized (m := 10000000) (by show F.length + 1 ≤ 10000000; omega)
        have s5 := Same.new (o := .lst (F.map V.int ++ [V.int (((outOf st op).2.map V.int).length : Nat)])) nq3
        refine ⟨_, rfl, q3, r3, _, _, rfl, rfl, upd_same, s5 _ _ (s4 _ _ hr3), ?_, fun q6 nq6 => ?_⟩
        · rw [List.length_append, List.length_map, List.length_map]
          exact sized (m := 10000000) (by show F.length + 1 + (outOf st op).2.length ≤ 10000000; omega)
        have s6 := Same.new (o := .lst ((F.map V.int ++ [V.int (((outOf st op).2.map V.int).length : Nat)]) ++ (outOf st op).2.map V.int)) nq6
        have sA := (s4.trans s5).trans s6
        refine ⟨_, rfl, ⟨p + 1 + n, co, q6, F ++ (((outOf st op).2.length : Nat) : Int) :: (outOf st op).2, (outOf st op).1, some (.int ((p + 1 + n : Nat) : Int)), some (.ref r3), rfl, by omega, sA.seq hs3, ?_, ca3.same sA, lf'⟩, ?_⟩
        · rw [upd_same, List.length_map, List.map_append, List.append_assoc]; rfl
        · show lN.length - ((p + 1 + n : Nat) : Int).toNat < lN.length - ((p : Nat) : Int).toNat
          rw [Int.toNat_natCast, Int.toNat_natCast]
          omega
      · rw [nV_length] at c
        have e : p = lN.length := by omega
        rw [e, List.drop_eq_nil_of_le (Nat.le_refl _)] at lf
        rw [left_nil lf] at hr1
        exact ⟨_, rfl, k H1 r hr1⟩
    · intro σ H1 Q1 Q2 m h
      walk_at "rd"
      dsimp only [tTest, tOp, tVar, tCB, tCons, tNil] at h
      obtain ⟨v, hv, v2, hv2, p, ys, e1, e2, i, j, e3, e4, b, e5, q⟩ := h
      exact ⟨v, hv, v2, hv2, p, ys, e1, e2, i, j, e3, e4, b, e5, m _ _ q⟩
end
end Ic

namespace Ic
open PySem PySem.Spec PyProof.Rows L2
/-- the defs as the top has left them -/
structure Ats (K : PySem.W.Frag) (mg : Str → Option Value) : Prop where
  a_distance : At K mg "distance" (top 1)
  a_left : At K mg "left_of" (top 2)
  a_right : At K mg "right_of" (top 3)
  a_movers : At K mg "movers" (top 4)
  a_step : At K mg "step" (top 5)
  a_cdist : At K mg "cover_distance" (top 6)
  a_towards : At K mg "towards" (top 7)
  a_covered : At K mg "covered" (top 8)
  a_covAll : At K mg "covered_all" (top 9)
  a_covDs : At K mg "cover_distances" (top 10)
  a_near : At K mg "nearest" (top 11)
  a_sent : At K mg "sent" (top 12)
  a_grAll : At K mg "greedy_all" (top 13)
  a_grTot : At K mg "greedy_total" (top 14)
  a_spread : At K mg "spread" (top 15)
  a_lookP : At K mg "look_position" (top 28)
  a_lookB : At K mg "look_breaker" (top 29)
  a_lookA : At K mg "look_any" (top 30)
  a_lookR : At K mg "look_room" (top 31)
  a_add : At K mg "add_icebreaker" (top 32)
  a_rem : At K mg "remove_icebreaker" (top 33)
  a_setS : At K mg "set_start" (top 34)
  a_prev : At K mg "preview_request" (top 35)
  a_req : At K mg "request" (top 36)
  a_undo : At K mg "undo_request" (top 37)
  a_clear : At K mg "clear_requests" (top 38)
  a_after : At K mg "after" (top 40)
  a_next : At K mg "next_standings" (top 41)
  a_ahead : At K mg "standings_ahead" (top 42)
  a_choice : At K mg "choice_costs" (top 43)
  a_costs : At K mg "costs_ahead" (top 44)
  a_all : At K mg "all_costs" (top 45)
  a_opt : At K mg "optimal_distance" (top 46)
  a_plan : At K mg "optimal_plan" (top 47)
  a_counted : At K mg "counted" (top 49)
  a_ctot : At K mg "cover_total" (top 50)
  a_optimum : At K mg "optimum" (top 51)
  a_vlist : At K mg "list_requests" (top 52)
  a_vcur : At K mg "current_positions" (top 53)
  a_vstart : At K mg "start_positions" (top 54)
  a_vtotal : At K mg "total_distance" (top 55)
  a_vgd : At K mg "greedy_distance" (top 56)
  a_vgp : At K mg "greedy_positions" (top 57)
  a_vod : At K mg "told_optimum" (top 58)
  a_vop : At K mg "told_plan" (top 59)
  a_vcb : At K mg "competitive_bound" (top 60)
  a_vspread : At K mg "told_spread" (top 61)
  a_vex : At K mg "excess" (top 62)
  a_vdr : At K mg "distance_with_request" (top 63)
  a_vrs : At K mg "responders" (top 64)
  a_vdp : At K mg "distances_per_request" (top 65)
  a_vsv : At K mg "saving_without_request" (top 66)
  a_vdi : At K mg "distances_with_icebreaker" (top 67)
  a_vsum : At K mg "summary" (top 68)
  a_many : At K mg "many_numbers" (top 75)
  a_done : At K mg "done" (top 76)
  a_and : At K mg "answered" (top 77)
section
variable {P : Program} {w : World} {K : PySem.W.Frag} {mg : Str → Option Value} {base : Heap} {CL CC CR : Addr}
theorem all_ok (T : Txt K mg CL CC CR) (A : Ats K mg) {f : Addr} {fd : FuncData} (F : Fun K "answers" "answers" (top 78) f fd) : FnOk P w K mg base CX0 11 f fd ["calls"] (spAns K) := by
  have c_many := ok_many (P := P) (w := w) (base := base) T A.a_many
  have c_lookP := ok_lookP (P := P) (w := w) (base := base) T A.a_lookP
  have c_lookR := ok_lookR (P := P) (w := w) (base := base) T A.a_lookR
  have c_add := ok_add (P := P) (w := w) (base := base) T A.a_add c_lookP c_lookR
  have c_lookB := ok_lookB (P := P) (w := w) (base := base) T A.a_lookB
  have c_rem := ok_rem (P := P) (w := w) (base := base) T A.a_rem c_lookB
  have c_setS := ok_setS (P := P) (w := w) (base := base) T A.a_setS c_lookP c_lookB
  have c_lookA := ok_lookA (P := P) (w := w) (base := base) T A.a_lookA
  have c_left := ok_left (P := P) (w := w) (base := base) A.a_left T.bl
  have c_right := ok_right (P := P) (w := w) (base := base) A.a_right T.bl
  have c_movers := ok_movers (P := P) (w := w) (base := base) A.a_movers T.bl c_left c_right
  have c_distance := ok_distance (P := P) (w := w) (base := base) A.a_distance T.bl
  have c_step := ok_step (P := P) (w := w) (base := base) A.a_step T.bl c_distance c_movers
  have c_towards := ok_towards (P := P) (w := w) (base := base) A.a_towards
  have c_covered := ok_covered (P := P) (w := w) (base := base) A.a_covered T.bl c_movers c_step c_towards
  have c_covAll := ok_covAll (P := P) (w := w) (base := base) A.a_covAll T.bl c_covered
  have c_cdist := ok_cdist (P := P) (w := w) (base := base) A.a_cdist T.bl c_movers c_step
  have c_prev := ok_prev (P := P) (w := w) (base := base) T A.a_prev c_lookP c_lookA c_covAll c_cdist c_covered
  have c_req := ok_req (P := P) (w := w) (base := base) T A.a_req c_prev
  have c_undo := ok_undo (P := P) (w := w) (base := base) T A.a_undo
  have c_clear := ok_clear (P := P) (w := w) (base := base) T A.a_clear
  have c_counted := ok_counted (P := P) (w := w) (base := base) T A.a_counted
  have c_vlist := ok_vlist (P := P) (w := w) (base := base) T A.a_vlist c_counted
  have c_vcur := ok_vcur (P := P) (w := w) (base := base) T A.a_vcur c_counted c_covAll
  have c_vstart := ok_vstart (P := P) (w := w) (base := base) T A.a_vstart c_counted
  have c_covDs := ok_covDs (P := P) (w := w) (base := base) A.a_covDs T.bl c_cdist c_covered
  have c_ctot := ok_ctot (P := P) (w := w) (base := base) T A.a_ctot c_covDs
  have c_vtotal := ok_vtotal (P := P) (w := w) (base := base) T A.a_vtotal c_ctot
  have c_near := ok_near (P := P) (w := w) (base := base) A.a_near T.bl c_distance
  have c_sent := ok_sent (P := P) (w := w) (base := base) A.a_sent T.bl
  have c_grTot := ok_grTot (P := P) (w := w) (base := base) A.a_grTot T.bl c_near c_sent c_distance
  have c_vgd := ok_vgd (P := P) (w := w) (base := base) T A.a_vgd c_lookA c_grTot
  have c_grAll := ok_grAll (P := P) (w := w) (base := base) A.a_grAll T.bl c_near c_sent
  have c_vgp := ok_vgp (P := P) (w := w) (base := base) T A.a_vgp c_counted c_lookA c_grAll
  have c_after := ok_after (P := P) (w := w) (base := base) A.a_after T.bl c_sent
  have c_next := ok_next (P := P) (w := w) (base := base) A.a_next T.bl c_after
  have c_ahead := ok_ahead (P := P) (w := w) (base := base) A.a_ahead T.bl c_next
  have c_choice := ok_choice (P := P) (w := w) (base := base) A.a_choice T.bl c_after c_distance
  have c_costs := ok_costs (P := P) (w := w) (base := base) A.a_costs T.bl c_choice
  have c_all := ok_all (P := P) (w := w) (base := base) A.a_all T.bl c_ahead c_costs
  have c_opt := ok_opt (P := P) (w := w) (base := base) A.a_opt T.bl c_all
  have c_optimum := ok_optimum (P := P) (w := w) (base := base) T A.a_optimum c_opt
  have c_vod := ok_vod (P := P) (w := w) (base := base) T A.a_vod c_lookA c_optimum
  have c_plan := ok_plan (P := P) (w := w) (base := base) A.a_plan T.bl c_all c_choice c_after
  have c_vop := ok_vop (P := P) (w := w) (base := base) T A.a_vop c_counted c_lookA c_plan
  have c_spread := ok_spread (P := P) (w := w) (base := base) A.a_spread T.bl c_distance
  have c_vcb := ok_vcb (P := P) (w := w) (base := base) T A.a_vcb c_lookA c_optimum c_spread
  have c_vspread := ok_vspread (P := P) (w := w) (base := base) T A.a_vspread c_covAll c_spread
  have c_vex := ok_vex (P := P) (w := w) (base := base) T A.a_vex c_lookA c_optimum c_ctot c_grTot
  have c_prevd := prev_deed c_prev
  have c_vdr := ok_vdr (P := P) (w := w) (base := base) T A.a_vdr c_lookP c_lookA c_opt
  have c_vrs := ok_vrs (P := P) (w := w) (base := base) T A.a_vrs c_counted c_lookP c_lookA c_covAll c_movers
  have c_vdp := ok_vdp (P := P) (w := w) (base := base) T A.a_vdp c_counted c_covDs
  have c_vsv := ok_vsv (P := P) (w := w) (base := base) T A.a_vsv c_opt c_optimum
  have c_vdi := ok_vdi (P := P) (w := w) (base := base) T A.a_vdi c_lookP c_lookR c_opt c_covDs
  have c_vsum := ok_vsum (P := P) (w := w) (base := base) T A.a_vsum c_ctot
  have c_done := ok_done (P := P) (w := w) (base := base) T A.a_done ⟨c_add.mono, c_rem.mono, c_setS.mono, c_req.mono, c_undo.mono, c_clear.mono, c_vlist.mono, c_vcur.mono, c_vstart.mono, c_vtotal.mono, c_vgd.mono, c_vgp.mono, c_vod.mono, c_vop.mono, c_vcb.mono, c_vspread.mono, c_vex.mono, c_prevd.mono, c_vdr.mono, c_vrs.mono, c_vdp.mono, c_vsv.mono, c_vdi.mono, c_vsum.mono⟩
  have c_and := ok_and (P := P) (w := w) (base := base) T A.a_and c_done
  have c_ans := ok_ans (P := P) (w := w) (base := base) T F c_many c_and
  exact c_ans
end
end Ic

namespace Ic
open PySem PySem.Spec PyProof.Rows L2
/-- an error of the class at S is what «except S» names -/
theorem exm_self {K : PySem.W.Frag} {S : Addr} (h1 : PySem.W.subIn K (.ref S) (.type "BaseException") = some true) (h2 : PySem.W.isClsIn K S = true) (h3 : PySem.W.typeIn K (.ref S) = some (.type "type")) (h4 : PySem.W.subIn K (.ref S) (.ref S) = some true) :
    PySem.W.exmOne K (.ref S) (.ref S) = some true := by
  have e1 : (PySem.W.subIn K (.ref S) (.type "BaseException") == some true) = true := by rw [h1] <;> rfl
  have e2 : ((PySem.W.clsIn K S).isSome && PySem.W.typeIn K (.ref S) == some (.type "type")) = true := by
    have h2' : (PySem.W.clsIn K S).isSome = true := h2
    rw [h2', h3] <;> rfl
  show (if (PySem.W.subIn K (.ref S) (.type "BaseException") == some true) = true then (if ((PySem.W.clsIn K S).isSome && PySem.W.typeIn K (.ref S) == some (.type "type")) = true then PySem.W.subIn K (.ref S) (.ref S) else none) else none) = some true
  rw [if_pos e1, if_pos e2]
  exact h4
section
variable {P : Program} {w : World} {K : PySem.W.Frag} {h : Heap} {mg : Str → Option Value} {CL CC CR fa : Addr}
theorem at_mk {x : Str} {st : Stmt} {f : Addr} {oc : Value} {od an : Option Addr} {osl : Array (Option Value)} {kV doc pm cdv ct : Value} (X : K.In h) (G : h.Ns mainGlobals mg) (a : PySem.W.nsIn K mainGlobals x = some (some (.ref f)))
    (l : K.lookup f = some ⟨oc, od, .func (PySem.W.fnOf x x (defArgs st) (defBody st) (defScope st) .none kV doc pm an cdv ct), osl⟩) (c : PySem.W.codeIn K cdv x = true) (k : PySem.W.keepIn K (.ref f) = true) : At K mg x st :=
  ⟨⟨f, _, fun_mk l c k, PySem.W.mg_of X G a⟩⟩
theorem no_mk {C : Addr} {f : Str} (a : PySem.W.findIn K (.ref C) f = some none) : NoAttr K C f := a
theorem zs_toNat {l : List Int} (k : ∀ z ∈ l, (0 : Int) ≤ z) : zs (l.map Int.toNat) = l := by
  unfold zs
  rw [List.map_map]
  refine (List.map_congr_left fun z hz => ?_).trans (List.map_id l)
  exact Int.toNat_of_nonneg (k z hz)
theorem bl_mk (X : K.In h) (G : h.Ns mainGlobals mg)
    (b0 : PySem.W.nsIn K mainGlobals "abs" = some none)
    (b1 : PySem.W.nsIn K mainGlobals "max" = some none)
    (b2 : PySem.W.nsIn K mainGlobals "min" = some none)
    (b3 : PySem.W.nsIn K mainGlobals "len" = some none)
    (b4 : PySem.W.nsIn K mainGlobals "list" = some none)
    (b5 : PySem.W.nsIn K mainGlobals "range" = some none)
    (b6 : PySem.W.nsIn K mainGlobals "sorted" = some none)
    (b7 : PySem.W.nsIn K mainGlobals "tuple" = some none)
    (b8 : PySem.W.nsIn K mainGlobals "reversed" = some none)
    (b9 : PySem.W.nsIn K mainGlobals "sum" = some none)
    (b10 : PySem.W.nsIn K mainGlobals "ValueError" = some none)
    : Bl mg := ⟨PySem.W.mg_none_of X G b0, PySem.W.mg_none_of X G b1, PySem.W.mg_none_of X G b2, PySem.W.mg_none_of X G b3, PySem.W.mg_none_of X G b4, PySem.W.mg_none_of X G b5, PySem.W.mg_none_of X G b6, PySem.W.mg_none_of X G b7, PySem.W.mg_none_of X G b8, PySem.W.mg_none_of X G b9, PySem.W.mg_none_of X G b10⟩
theorem fun_ex {x q : Str} {st : Stmt} {f : Addr} {oc : Value} {od an : Option Addr} {osl : Array (Option Value)} {kV doc pm cdv ct : Value} (l : K.lookup f = some ⟨oc, od, .func (PySem.W.fnOf x q (defArgs st) (defBody st) (defScope st) .none kV doc pm an cdv ct), osl⟩)
    (c : PySem.W.codeIn K cdv q = true) (k : PySem.W.keepIn K (.ref f) = true) : ∃ fd : FuncData, Fun K x q st f fd := ⟨_, fun_mk l c k⟩
theorem mk_ex {C f : Addr} {q : Str} {st : Stmt} (h1 : PySem.W.makesIn K C = true) (h2 : PySem.W.findIn K (.ref C) "__init__" = some (some (.ref f))) (h3 : PySem.W.isFn K (.ref f) = true) (h4 : PySem.W.keepIn K (.ref C) = true) (F : ∃ fd : FuncData, Fun K "__init__" q st f fd) :
    ∃ (f : Addr) (fd : FuncData), Mk K C f ∧ Fun K "__init__" q st f fd := by
  obtain ⟨fd, F⟩ := F
  exact ⟨f, fd, ⟨h1, h2, h3, h4⟩, F⟩
theorem mkR_ex {C f : Addr} {q : Str} {st : Stmt} (h2 : PySem.W.findIn K (.ref C) "__init__" = some (some (.ref f))) (h3 : PySem.W.typeIn K (.ref f) = some (.type "function")) (F : ∃ fd : FuncData, Fun K "__init__" q st f fd) :
    ∃ (f : Addr) (fd : FuncData), PySem.W.findIn K (.ref C) "__init__" = some (some (.ref f)) ∧ PySem.W.typeIn K (.ref f) = some (.type "function") ∧ Fun K "__init__" q st f fd := by
  obtain ⟨fd, F⟩ := F
  exact ⟨f, fd, h2, h3, F⟩
theorem con_ex {x : Str} {i : Int} {t : Tok} (X : K.In h) (G : h.Ns mainGlobals mg) (a : PySem.W.nsIn K mainGlobals x = some (some (.int i t))) : ∃ u, mg x = some u ∧ RelV (.int i) u := ⟨_, PySem.W.mg_of X G a, t, rfl⟩
theorem oex_mk {nm q : Str} {N : Addr} {bs : List Value} {sn : List Str} {sub : List Value} {ab : Bool} {col : Option Bool} {dd : Option Addr} {m0 m1 m2 m3 m5 : Option Value}
    (xL : K.lookup CR = some (excClassObj nm q CR N bs [.type "ValueError", .type "Exception", .type "BaseException", .type "object"] true sn sub ab col dd m0 m1 m2 m3 m5 "ValueError.__new__"))
    (sa : PySem.W.findIn K (.ref CR) "__setattr__" = some (some (.builtin "object.__setattr__"))) (eC : PySem.W.subIn K (.ref CR) (.type "BaseException") = some true) (tC : PySem.W.typeIn K (.ref CR) = some (.type "type")) (kC : PySem.W.keepIn K (.ref CR) = true) : OexC K CR :=
  ⟨⟨nm, q, N, bs, _, sn, sub, ab, col, dd, m0, m1, m2, m3, m5, xL, by decide +kernel⟩, sa, eC, tC, kC⟩
theorem tab1_mk {d : Addr} {es : Array DictEntry} {n : Nat} {g0 g1 g2 g3 g4 g5 g6 g7 : Addr} {t0 t1 t2 t3 t4 t5 t6 t7 : Tok} (X : K.In h) (G : h.Ns mainGlobals mg) (a : PySem.W.nsIn K mainGlobals "DEEDS_OF_ONE" = some (some (.ref d))) (l : K.lookup d = some ⟨.type "dict", none, .dict es n, #[]⟩)
    (e : es = #[⟨1, .int 1 t0, .ref g0⟩, ⟨2, .int 2 t1, .ref g1⟩, ⟨4, .int 4 t2, .ref g2⟩, ⟨18, .int 18 t3, .ref g3⟩, ⟨19, .int 19 t4, .ref g4⟩, ⟨20, .int 20 t5, .ref g5⟩, ⟨22, .int 22 t6, .ref g6⟩, ⟨23, .int 23 t7, .ref g7⟩]) (b : (d == sysModules) = false)
    (n0 : PySem.W.nsIn K mainGlobals "add_icebreaker" = some (some (.ref g0)))
    (n1 : PySem.W.nsIn K mainGlobals "remove_icebreaker" = some (some (.ref g1)))
    (n2 : PySem.W.nsIn K mainGlobals "request" = some (some (.ref g2)))
    (n3 : PySem.W.nsIn K mainGlobals "preview_request" = some (some (.ref g3)))
    (n4 : PySem.W.nsIn K mainGlobals "distance_with_request" = some (some (.ref g4)))
    (n5 : PySem.W.nsIn K mainGlobals "responders" = some (some (.ref g5)))
    (n6 : PySem.W.nsIn K mainGlobals "saving_without_request" = some (some (.ref g6)))
    (n7 : PySem.W.nsIn K mainGlobals "distances_with_icebreaker" = some (some (.ref g7)))
    : ∃ (d : Addr) (tab : List (Int × Addr)), mg "DEEDS_OF_ONE" = some (.ref d) ∧ KTab K d tab ∧ Paired (fun (n : Int × Str) (p : Int × Addr) => n.1 = p.1 ∧ mg n.2 = some (.ref p.2)) names1 tab := by
  subst e
  refine ⟨d, [(1, g0), (2, g1), (4, g2), (18, g3), (19, g4), (20, g5), (22, g6), (23, g7)], PySem.W.mg_of X G a, ⟨⟨_, n, l, ?_⟩, b⟩, ?_⟩
  · exact .cons ⟨⟨_, rfl⟩, (show hashInt 1 = 1 by decide +kernel).symm, rfl⟩ <| .cons ⟨⟨_, rfl⟩, (show hashInt 2 = 2 by decide +kernel).symm, rfl⟩ <| .cons ⟨⟨_, rfl⟩, (show hashInt 4 = 4 by decide +kernel).symm, rfl⟩ <| .cons ⟨⟨_, rfl⟩, (show hashInt 18 = 18 by decide +kernel).symm, rfl⟩ <| .cons ⟨⟨_, rfl⟩, (show hashInt 19 = 19 by decide +kernel).symm, rfl⟩ <| .cons ⟨⟨_, rfl⟩, (show hashInt 20 = 20 by decide +kernel).symm, rfl⟩ <| .cons ⟨⟨_, rfl⟩, (show hashInt 22 = 22 by decide +kernel).symm, rfl⟩ <| .cons ⟨⟨_, rfl⟩, (show hashInt 23 = 23 by decide +kernel).symm, rfl⟩ <| .nil
  · exact .cons ⟨rfl, PySem.W.mg_of X G n0⟩ <| .cons ⟨rfl, PySem.W.mg_of X G n1⟩ <| .cons ⟨rfl, PySem.W.mg_of X G n2⟩ <| .cons ⟨rfl, PySem.W.mg_of X G n3⟩ <| .cons ⟨rfl, PySem.W.mg_of X G n4⟩ <| .cons ⟨rfl, PySem.W.mg_of X G n5⟩ <| .cons ⟨rfl, PySem.W.mg_of X G n6⟩ <| .cons ⟨rfl, PySem.W.mg_of X G n7⟩ <| .nil
theorem tab0_mk {d : Addr} {es : Array DictEntry} {n : Nat} {g0 g1 g2 g3 g4 g5 g6 g7 g8 g9 g10 g11 g12 g13 g14 : Addr} {t0 t1 t2 t3 t4 t5 t6 t7 t8 t9 t10 t11 t12 t13 t14 : Tok} (X : K.In h) (G : h.Ns mainGlobals mg) (a : PySem.W.nsIn K mainGlobals "DEEDS_OF_NONE" = some (some (.ref d))) (l : K.lookup d = some ⟨.type "dict", none, .dict es n, #[]⟩)
    (e : es = #[⟨5, .int 5 t0, .ref g0⟩, ⟨6, .int 6 t1, .ref g1⟩, ⟨7, .int 7 t2, .ref g2⟩, ⟨8, .int 8 t3, .ref g3⟩, ⟨9, .int 9 t4, .ref g4⟩, ⟨10, .int 10 t5, .ref g5⟩, ⟨11, .int 11 t6, .ref g6⟩, ⟨12, .int 12 t7, .ref g7⟩, ⟨13, .int 13 t8, .ref g8⟩, ⟨14, .int 14 t9, .ref g9⟩, ⟨15, .int 15 t10, .ref g10⟩, ⟨16, .int 16 t11, .ref g11⟩, ⟨17, .int 17 t12, .ref g12⟩, ⟨21, .int 21 t13, .ref g13⟩, ⟨24, .int 24 t14, .ref g14⟩]) (b : (d == sysModules) = false)
    (n0 : PySem.W.nsIn K mainGlobals "undo_request" = some (some (.ref g0)))
    (n1 : PySem.W.nsIn K mainGlobals "clear_requests" = some (some (.ref g1)))
    (n2 : PySem.W.nsIn K mainGlobals "list_requests" = some (some (.ref g2)))
    (n3 : PySem.W.nsIn K mainGlobals "current_positions" = some (some (.ref g3)))
    (n4 : PySem.W.nsIn K mainGlobals "start_positions" = some (some (.ref g4)))
    (n5 : PySem.W.nsIn K mainGlobals "total_distance" = some (some (.ref g5)))
    (n6 : PySem.W.nsIn K mainGlobals "greedy_distance" = some (some (.ref g6)))
    (n7 : PySem.W.nsIn K mainGlobals "greedy_positions" = some (some (.ref g7)))
    (n8 : PySem.W.nsIn K mainGlobals "told_optimum" = some (some (.ref g8)))
    (n9 : PySem.W.nsIn K mainGlobals "told_plan" = some (some (.ref g9)))
    (n10 : PySem.W.nsIn K mainGlobals "competitive_bound" = some (some (.ref g10)))
    (n11 : PySem.W.nsIn K mainGlobals "told_spread" = some (some (.ref g11)))
    (n12 : PySem.W.nsIn K mainGlobals "excess" = some (some (.ref g12)))
    (n13 : PySem.W.nsIn K mainGlobals "distances_per_request" = some (some (.ref g13)))
    (n14 : PySem.W.nsIn K mainGlobals "summary" = some (some (.ref g14)))
    : ∃ (d : Addr) (tab : List (Int × Addr)), mg "DEEDS_OF_NONE" = some (.ref d) ∧ KTab K d tab ∧ Paired (fun (n : Int × Str) (p : Int × Addr) => n.1 = p.1 ∧ mg n.2 = some (.ref p.2)) names0 tab := by
  subst e
  refine ⟨d, [(5, g0), (6, g1), (7, g2), (8, g3), (9, g4), (10, g5), (11, g6), (12, g7), (13, g8), (14, g9), (15, g10), (16, g11), (17, g12), (21, g13), (24, g14)], PySem.W.mg_of X G a, ⟨⟨_, n, l, ?_⟩, b⟩, ?_⟩
  · exact .cons ⟨⟨_, rfl⟩, (show hashInt 5 = 5 by decide +kernel).symm, rfl⟩ <| .cons ⟨⟨_, rfl⟩, (show hashInt 6 = 6 by decide +kernel).symm, rfl⟩ <| .cons ⟨⟨_, rfl⟩, (show hashInt 7 = 7 by decide +kernel).symm, rfl⟩ <| .cons ⟨⟨_, rfl⟩, (show hashInt 8 = 8 by decide +kernel).symm, rfl⟩ <| .cons ⟨⟨_, rfl⟩, (show hashInt 9 = 9 by decide +kernel).symm, rfl⟩ <| .cons ⟨⟨_, rfl⟩, (show hashInt 10 = 10 by decide +kernel).symm, rfl⟩ <| .cons ⟨⟨_, rfl⟩, (show hashInt 11 = 11 by decide +kernel).symm, rfl⟩ <| .cons ⟨⟨_, rfl⟩, (show hashInt 12 = 12 by decide +kernel).symm, rfl⟩ <| .cons ⟨⟨_, rfl⟩, (show hashInt 13 = 13 by decide +kernel).symm, rfl⟩ <| .cons ⟨⟨_, rfl⟩, (show hashInt 14 = 14 by decide +kernel).symm, rfl⟩ <| .cons ⟨⟨_, rfl⟩, (show hashInt 15 = 15 by decide +kernel).symm, rfl⟩ <| .cons ⟨⟨_, rfl⟩, (show hashInt 16 = 16 by decide +kernel).symm, rfl⟩ <| .cons ⟨⟨_, rfl⟩, (show hashInt 17 = 17 by decide +kernel).symm, rfl⟩ <| .cons ⟨⟨_, rfl⟩, (show hashInt 21 = 21 by decide +kernel).symm, rfl⟩ <| .cons ⟨⟨_, rfl⟩, (show hashInt 24 = 24 by decide +kernel).symm, rfl⟩ <| .nil
  · exact .cons ⟨rfl, PySem.W.mg_of X G n0⟩ <| .cons ⟨rfl, PySem.W.mg_of X G n1⟩ <| .cons ⟨rfl, PySem.W.mg_of X G n2⟩ <| .cons ⟨rfl, PySem.W.mg_of X G n3⟩ <| .cons ⟨rfl, PySem.W.mg_of X G n4⟩ <| .cons ⟨rfl, PySem.W.mg_of X G n5⟩ <| .cons ⟨rfl, PySem.W.mg_of X G n6⟩ <| .cons ⟨rfl, PySem.W.mg_of X G n7⟩ <| .cons ⟨rfl, PySem.W.mg_of X G n8⟩ <| .cons ⟨rfl, PySem.W.mg_of X G n9⟩ <| .cons ⟨rfl, PySem.W.mg_of X G n10⟩ <| .cons ⟨rfl, PySem.W.mg_of X G n11⟩ <| .cons ⟨rfl, PySem.W.mg_of X G n12⟩ <| .cons ⟨rfl, PySem.W.mg_of X G n13⟩ <| .cons ⟨rfl, PySem.W.mg_of X G n14⟩ <| .nil
theorem all_mk {oc : Value} {od an : Option Addr} {osl : Array (Option Value)} {kV doc pm cdv ct : Value} {f : Addr} (X : K.In h) (G : h.Ns mainGlobals mg) (hfa : mg "answers" = some (.ref fa)) (T : Txt K mg CL CC CR) (A : Ats K mg)
    (a : PySem.W.nsIn K mainGlobals "answers" = some (some (.ref f))) (l : K.lookup f = some ⟨oc, od, .func (PySem.W.fnOf "answers" "answers" (defArgs (top 78)) (defBody (top 78)) (defScope (top 78)) .none kV doc pm an cdv ct), osl⟩) (c : PySem.W.codeIn K cdv "answers" = true) (k : PySem.W.keepIn K (.ref f) = true) :
    ∃ fd : FuncData, (∀ (s : Shared) (us : List Value), us.length = (["calls"] : List Str).length → BindsTo s fd ⟨us, []⟩ ((["calls"] : List Str).zip us)) ∧ ∀ base : Heap, K.In base → base.Ns mainGlobals mg → FnOk P w K mg base CX0 11 fa fd ["calls"] (spAns K) := by
  have e := hfa.symm.trans (PySem.W.mg_of X G a)
  cases e
  exact ⟨_, fun s us hu => match us, hu with | [_], _ => .of_eq rfl, fun base _ _ => all_ok T A (fun_mk l c k)⟩
end
end Ic

open PySem PySem.W PyProof.Rows
set_option maxRecDepth 100000 in
set_option maxHeartbeats 16000000 in
theorem PySem.Challenge.cw_iceline_s01_answers_holds : PySem.Challenge.rw_iceline_s01_answers.Holds := by
  w_on; k_headS; (case hw => exact ⟨[.list [.int 0]], by decide +kernel, by decide +kernel⟩)
  k_fillS
  refine L2.walk_specK (r := PySem.Challenge.rw_iceline_s01_answers) (k := 11) (CX := L2.CX0) (ps := ["calls"]) (sp := Ic.spAns) (by decide +kernel) rfl rfl ⟨rfl, by decide, by decide⟩ (fun w h Y => PySem.W.kIn_of Y) ?F ?S (fun _ _ _ _ z => z)
  case F =>
    intro w mg fa h Y KX G hmg
    clear Y
    refine' Ic.all_mk KX G hmg (Ic.Txt.mk (Ic.bl_mk KX G ?b0 ?b1 ?b2 ?b3 ?b4 ?b5 ?b6 ?b7 ?b8 ?b9 ?b10)
        ⟨?Lpg, ?Lhd, ?Lpo, ?Lsa⟩
        (Ic.no_mk ?nS)
        (Ic.no_mk ?nT)
        (PySem.W.mg_of KX G ?gL)
        ⟨?Cpg, ?Chd, ?Cpo, ?Csa⟩
        (Ic.no_mk ?nL)
        (PySem.W.mg_of KX G ?gC)
        (PySem.W.mg_of KX G ?gR)
        (Ic.oex_mk ?xL ?xsa ?xeC ?xtC ?xkC)
        ⟨?fga, ?fgg, ?feC, ?fhd⟩
        ?noC
        (Ic.exm_self ?s1 ?s2 ?s3 ?s4)
        ?vV
        (Ic.mkR_ex ?iR ?jR (Ic.fun_ex ?l_iR ?c_iR ?k_iR))
        (Ic.mk_ex ?mL ?iL ?jL ?kL (Ic.fun_ex ?l_iL ?c_iL ?k_iL))
        (Ic.mk_ex ?mC ?iC ?jC ?kC (Ic.fun_ex ?l_iC ?c_iC ?k_iC))
        (Ic.con_ex KX G ?qNI)
        (Ic.con_ex KX G ?qNS)
        (Ic.con_ex KX G ?qBP)
        (Ic.con_ex KX G ?qNT)
        (Ic.con_ex KX G ?qFU)
        (Ic.con_ex KX G ?qLP)
        (Ic.con_ex KX G ?qMB)
        (Ic.con_ex KX G ?qMR)
        (Ic.con_ex KX G ?qCR)
        (Ic.con_ex KX G ?qSS)
        (Ic.tab1_mk KX G ?tab1a ?tab1l ?tab1e ?tab1b ?tab1n0 ?tab1n1 ?tab1n2 ?tab1n3 ?tab1n4 ?tab1n5 ?tab1n6 ?tab1n7)
        (Ic.tab0_mk KX G ?tab0a ?tab0l ?tab0e ?tab0b ?tab0n0 ?tab0n1 ?tab0n2 ?tab0n3 ?tab0n4 ?tab0n5 ?tab0n6 ?tab0n7 ?tab0n8 ?tab0n9 ?tab0n10 ?tab0n11 ?tab0n12 ?tab0n13 ?tab0n14))
      (Ic.Ats.mk
        (Ic.at_mk KX G ?a_distance ?l_distance ?c_distance ?k_distance)
        (Ic.at_mk KX G ?a_left ?l_left ?c_left ?k_left)
        (Ic.at_mk KX G ?a_right ?l_right ?c_right ?k_right)
        (Ic.at_mk KX G ?a_movers ?l_movers ?c_movers ?k_movers)
        (Ic.at_mk KX G ?a_step ?l_step ?c_step ?k_step)
        (Ic.at_mk KX G ?a_cdist ?l_cdist ?c_cdist ?k_cdist)
        (Ic.at_mk KX G ?a_towards ?l_towards ?c_towards ?k_towards)
        (Ic.at_mk KX G ?a_covered ?l_covered ?c_covered ?k_covered)
        (Ic.at_mk KX G ?a_covAll ?l_covAll ?c_covAll ?k_covAll)
        (Ic.at_mk KX G ?a_covDs ?l_covDs ?c_covDs ?k_covDs)
        (Ic.at_mk KX G ?a_near ?l_near ?c_near ?k_near)
        (Ic.at_mk KX G ?a_sent ?l_sent ?c_sent ?k_sent)
        (Ic.at_mk KX G ?a_grAll ?l_grAll ?c_grAll ?k_grAll)
        (Ic.at_mk KX G ?a_grTot ?l_grTot ?c_grTot ?k_grTot)
        (Ic.at_mk KX G ?a_spread ?l_spread ?c_spread ?k_spread)
        (Ic.at_mk KX G ?a_lookP ?l_lookP ?c_lookP ?k_lookP)
        (Ic.at_mk KX G ?a_lookB ?l_lookB ?c_lookB ?k_lookB)
        (Ic.at_mk KX G ?a_lookA ?l_lookA ?c_lookA ?k_lookA)
        (Ic.at_mk KX G ?a_lookR ?l_lookR ?c_lookR ?k_lookR)
        (Ic.at_mk KX G ?a_add ?l_add ?c_add ?k_add)
        (Ic.at_mk KX G ?a_rem ?l_rem ?c_rem ?k_rem)
        (Ic.at_mk KX G ?a_setS ?l_setS ?c_setS ?k_setS)
        (Ic.at_mk KX G ?a_prev ?l_prev ?c_prev ?k_prev)
        (Ic.at_mk KX G ?a_req ?l_req ?c_req ?k_req)
        (Ic.at_mk KX G ?a_undo ?l_undo ?c_undo ?k_undo)
        (Ic.at_mk KX G ?a_clear ?l_clear ?c_clear ?k_clear)
        (Ic.at_mk KX G ?a_after ?l_after ?c_after ?k_after)
        (Ic.at_mk KX G ?a_next ?l_next ?c_next ?k_next)
        (Ic.at_mk KX G ?a_ahead ?l_ahead ?c_ahead ?k_ahead)
        (Ic.at_mk KX G ?a_choice ?l_choice ?c_choice ?k_choice)
        (Ic.at_mk KX G ?a_costs ?l_costs ?c_costs ?k_costs)
        (Ic.at_mk KX G ?a_all ?l_all ?c_all ?k_all)
        (Ic.at_mk KX G ?a_opt ?l_opt ?c_opt ?k_opt)
        (Ic.at_mk KX G ?a_plan ?l_plan ?c_plan ?k_plan)
        (Ic.at_mk KX G ?a_counted ?l_counted ?c_counted ?k_counted)
        (Ic.at_mk KX G ?a_ctot ?l_ctot ?c_ctot ?k_ctot)
        (Ic.at_mk KX G ?a_optimum ?l_optimum ?c_optimum ?k_optimum)
        (Ic.at_mk KX G ?a_vlist ?l_vlist ?c_vlist ?k_vlist)
        (Ic.at_mk KX G ?a_vcur ?l_vcur ?c_vcur ?k_vcur)
        (Ic.at_mk KX G ?a_vstart ?l_vstart ?c_vstart ?k_vstart)
        (Ic.at_mk KX G ?a_vtotal ?l_vtotal ?c_vtotal ?k_vtotal)
        (Ic.at_mk KX G ?a_vgd ?l_vgd ?c_vgd ?k_vgd)
        (Ic.at_mk KX G ?a_vgp ?l_vgp ?c_vgp ?k_vgp)
        (Ic.at_mk KX G ?a_vod ?l_vod ?c_vod ?k_vod)
        (Ic.at_mk KX G ?a_vop ?l_vop ?c_vop ?k_vop)
        (Ic.at_mk KX G ?a_vcb ?l_vcb ?c_vcb ?k_vcb)
        (Ic.at_mk KX G ?a_vspread ?l_vspread ?c_vspread ?k_vspread)
        (Ic.at_mk KX G ?a_vex ?l_vex ?c_vex ?k_vex)
        (Ic.at_mk KX G ?a_vdr ?l_vdr ?c_vdr ?k_vdr)
        (Ic.at_mk KX G ?a_vrs ?l_vrs ?c_vrs ?k_vrs)
        (Ic.at_mk KX G ?a_vdp ?l_vdp ?c_vdp ?k_vdp)
        (Ic.at_mk KX G ?a_vsv ?l_vsv ?c_vsv ?k_vsv)
        (Ic.at_mk KX G ?a_vdi ?l_vdi ?c_vdi ?k_vdi)
        (Ic.at_mk KX G ?a_vsum ?l_vsum ?c_vsum ?k_vsum)
        (Ic.at_mk KX G ?a_many ?l_many ?c_many ?k_many)
        (Ic.at_mk KX G ?a_done ?l_done ?c_done ?k_done)
        (Ic.at_mk KX G ?a_and ?l_and ?c_and ?k_and))
      ?a_ans ?l_ans ?c_ans ?k_ans
    (case gL => k_is)
    (case gC => k_is)
    (case gR => k_is)
    (case b0 => k_is)
    (case b1 => k_is)
    (case b2 => k_is)
    (case b3 => k_is)
    (case b4 => k_is)
    (case b5 => k_is)
    (case b6 => k_is)
    (case b7 => k_is)
    (case b8 => k_is)
    (case b9 => k_is)
    (case b10 => k_is)
    (case Lpg => k_is)
    (case Lhd => k_is)
    (case Lpo => k_is)
    (case Lsa => k_is)
    (case nS => k_is)
    (case nT => k_is)
    (case Cpg => k_is)
    (case Chd => k_is)
    (case Cpo => k_is)
    (case Csa => k_is)
    (case nL => k_is)
    (case xL => k_is)
    (case xsa => k_is)
    (case xeC => k_is)
    (case xtC => k_is)
    (case xkC => k_is)
    (case fga => k_is)
    (case fgg => k_is)
    (case feC => k_is)
    (case fhd => k_is)
    (case noC => k_is)
    (case s1 => k_is)
    (case s2 => k_is)
    (case s3 => k_is)
    (case s4 => first | rfl | k_is)
    (case vV => k_is)
    (case iR => k_is)
    (case jR => k_is)
    (case l_iR => k_is)
    (case c_iR => k_is)
    (case k_iR => k_is)
    (case mL => k_is)
    (case iL => k_is)
    (case jL => k_is)
    (case kL => k_is)
    (case l_iL => k_is)
    (case c_iL => k_is)
    (case k_iL => k_is)
    (case mC => k_is)
    (case iC => k_is)
    (case jC => k_is)
    (case kC => k_is)
    (case l_iC => k_is)
    (case c_iC => k_is)
    (case k_iC => k_is)
    (case qNI => k_is)
    (case qNS => k_is)
    (case qBP => k_is)
    (case qNT => k_is)
    (case qFU => k_is)
    (case qLP => k_is)
    (case qMB => k_is)
    (case qMR => k_is)
    (case qCR => k_is)
    (case qSS => k_is)
    (case tab1a => k_is)
    (case tab1l => k_is)
    (case tab1e => exact rfl)
    (case tab1b => exact rfl)
    (case tab1n0 => k_is)
    (case tab1n1 => k_is)
    (case tab1n2 => k_is)
    (case tab1n3 => k_is)
    (case tab1n4 => k_is)
    (case tab1n5 => k_is)
    (case tab1n6 => k_is)
    (case tab1n7 => k_is)
    (case tab0a => k_is)
    (case tab0l => k_is)
    (case tab0e => exact rfl)
    (case tab0b => exact rfl)
    (case tab0n0 => k_is)
    (case tab0n1 => k_is)
    (case tab0n2 => k_is)
    (case tab0n3 => k_is)
    (case tab0n4 => k_is)
    (case tab0n5 => k_is)
    (case tab0n6 => k_is)
    (case tab0n7 => k_is)
    (case tab0n8 => k_is)
    (case tab0n9 => k_is)
    (case tab0n10 => k_is)
    (case tab0n11 => k_is)
    (case tab0n12 => k_is)
    (case tab0n13 => k_is)
    (case tab0n14 => k_is)
    (case a_distance => k_is)
    (case l_distance => k_is)
    (case c_distance => k_is)
    (case k_distance => k_is)
    (case a_left => k_is)
    (case l_left => k_is)
    (case c_left => k_is)
    (case k_left => k_is)
    (case a_right => k_is)
    (case l_right => k_is)
    (case c_right => k_is)
    (case k_right => k_is)
    (case a_movers => k_is)
    (case l_movers => k_is)
    (case c_movers => k_is)
    (case k_movers => k_is)
    (case a_step => k_is)
    (case l_step => k_is)
    (case c_step => k_is)
    (case k_step => k_is)
    (case a_cdist => k_is)
    (case l_cdist => k_is)
    (case c_cdist => k_is)
    (case k_cdist => k_is)
    (case a_towards => k_is)
    (case l_towards => k_is)
    (case c_towards => k_is)
    (case k_towards => k_is)
    (case a_covered => k_is)
    (case l_covered => k_is)
    (case c_covered => k_is)
    (case k_covered => k_is)
    (case a_covAll => k_is)
    (case l_covAll => k_is)
    (case c_covAll => k_is)
    (case k_covAll => k_is)
    (case a_covDs => k_is)
    (case l_covDs => k_is)
    (case c_covDs => k_is)
    (case k_covDs => k_is)
    (case a_near => k_is)
    (case l_near => k_is)
    (case c_near => k_is)
    (case k_near => k_is)
    (case a_sent => k_is)
    (case l_sent => k_is)
    (case c_sent => k_is)
    (case k_sent => k_is)
    (case a_grAll => k_is)
    (case l_grAll => k_is)
    (case c_grAll => k_is)
    (case k_grAll => k_is)
    (case a_grTot => k_is)
    (case l_grTot => k_is)
    (case c_grTot => k_is)
    (case k_grTot => k_is)
    (case a_spread => k_is)
    (case l_spread => k_is)
    (case c_spread => k_is)
    (case k_spread => k_is)
    (case a_lookP => k_is)
    (case l_lookP => k_is)
    (case c_lookP => k_is)
    (case k_lookP => k_is)
    (case a_lookB => k_is)
    (case l_lookB => k_is)
    (case c_lookB => k_is)
    (case k_lookB => k_is)
    (case a_lookA => k_is)
    (case l_lookA => k_is)
    (case c_lookA => k_is)
    (case k_lookA => k_is)
    (case a_lookR => k_is)
    (case l_lookR => k_is)
    (case c_lookR => k_is)
    (case k_lookR => k_is)
    (case a_add => k_is)
    (case l_add => k_is)
    (case c_add => k_is)
    (case k_add => k_is)
    (case a_rem => k_is)
    (case l_rem => k_is)
    (case c_rem => k_is)
    (case k_rem => k_is)
    (case a_setS => k_is)
    (case l_setS => k_is)
    (case c_setS => k_is)
    (case k_setS => k_is)
    (case a_prev => k_is)
    (case l_prev => k_is)
    (case c_prev => k_is)
    (case k_prev => k_is)
    (case a_req => k_is)
    (case l_req => k_is)
    (case c_req => k_is)
    (case k_req => k_is)
    (case a_undo => k_is)
    (case l_undo => k_is)
    (case c_undo => k_is)
    (case k_undo => k_is)
    (case a_clear => k_is)
    (case l_clear => k_is)
    (case c_clear => k_is)
    (case k_clear => k_is)
    (case a_after => k_is)
    (case l_after => k_is)
    (case c_after => k_is)
    (case k_after => k_is)
    (case a_next => k_is)
    (case l_next => k_is)
    (case c_next => k_is)
    (case k_next => k_is)
    (case a_ahead => k_is)
    (case l_ahead => k_is)
    (case c_ahead => k_is)
    (case k_ahead => k_is)
    (case a_choice => k_is)
    (case l_choice => k_is)
    (case c_choice => k_is)
    (case k_choice => k_is)
    (case a_costs => k_is)
    (case l_costs => k_is)
    (case c_costs => k_is)
    (case k_costs => k_is)
    (case a_all => k_is)
    (case l_all => k_is)
    (case c_all => k_is)
    (case k_all => k_is)
    (case a_opt => k_is)
    (case l_opt => k_is)
    (case c_opt => k_is)
    (case k_opt => k_is)
    (case a_plan => k_is)
    (case l_plan => k_is)
    (case c_plan => k_is)
    (case k_plan => k_is)
    (case a_counted => k_is)
    (case l_counted => k_is)
    (case c_counted => k_is)
    (case k_counted => k_is)
    (case a_ctot => k_is)
    (case l_ctot => k_is)
    (case c_ctot => k_is)
    (case k_ctot => k_is)
    (case a_optimum => k_is)
    (case l_optimum => k_is)
    (case c_optimum => k_is)
    (case k_optimum => k_is)
    (case a_vlist => k_is)
    (case l_vlist => k_is)
    (case c_vlist => k_is)
    (case k_vlist => k_is)
    (case a_vcur => k_is)
    (case l_vcur => k_is)
    (case c_vcur => k_is)
    (case k_vcur => k_is)
    (case a_vstart => k_is)
    (case l_vstart => k_is)
    (case c_vstart => k_is)
    (case k_vstart => k_is)
    (case a_vtotal => k_is)
    (case l_vtotal => k_is)
    (case c_vtotal => k_is)
    (case k_vtotal => k_is)
    (case a_vgd => k_is)
    (case l_vgd => k_is)
    (case c_vgd => k_is)
    (case k_vgd => k_is)
    (case a_vgp => k_is)
    (case l_vgp => k_is)
    (case c_vgp => k_is)
    (case k_vgp => k_is)
    (case a_vod => k_is)
    (case l_vod => k_is)
    (case c_vod => k_is)
    (case k_vod => k_is)
    (case a_vop => k_is)
    (case l_vop => k_is)
    (case c_vop => k_is)
    (case k_vop => k_is)
    (case a_vcb => k_is)
    (case l_vcb => k_is)
    (case c_vcb => k_is)
    (case k_vcb => k_is)
    (case a_vspread => k_is)
    (case l_vspread => k_is)
    (case c_vspread => k_is)
    (case k_vspread => k_is)
    (case a_vex => k_is)
    (case l_vex => k_is)
    (case c_vex => k_is)
    (case k_vex => k_is)
    (case a_vdr => k_is)
    (case l_vdr => k_is)
    (case c_vdr => k_is)
    (case k_vdr => k_is)
    (case a_vrs => k_is)
    (case l_vrs => k_is)
    (case c_vrs => k_is)
    (case k_vrs => k_is)
    (case a_vdp => k_is)
    (case l_vdp => k_is)
    (case c_vdp => k_is)
    (case k_vdp => k_is)
    (case a_vsv => k_is)
    (case l_vsv => k_is)
    (case c_vsv => k_is)
    (case k_vsv => k_is)
    (case a_vdi => k_is)
    (case l_vdi => k_is)
    (case c_vdi => k_is)
    (case k_vdi => k_is)
    (case a_vsum => k_is)
    (case l_vsum => k_is)
    (case c_vsum => k_is)
    (case k_vsum => k_is)
    (case a_many => k_is)
    (case l_many => k_is)
    (case c_many => k_is)
    (case k_many => k_is)
    (case a_done => k_is)
    (case l_done => k_is)
    (case c_done => k_is)
    (case k_done => k_is)
    (case a_and => k_is)
    (case l_and => k_is)
    (case c_and => k_is)
    (case k_and => k_is)
    (case a_ans => k_is)
    (case l_ans => k_is)
    (case c_ans => k_is)
    (case k_ans => k_is)
  case S =>
    intro K H xs a hO hwi hask hx
    cases hx with
    | cons h1 h2 =>
      cases h2
      cases h1 with
      | lst hs ha =>
        have e := L2.ints_dw a.1 _ ha
        subst e
        have q : ((Codec.inLen 0 120 a.1 && a.1.all (Codec.inInt 0 4294967295)) && true) = true := hwi
        rw [Bool.and_eq_true, Bool.and_eq_true] at q
        have ez : Ic.zs (a.1.map Int.toNat) = a.1 := Ic.zs_toNat fun z hz => (Codec.inInt_iff.mp (List.all_eq_true.mp q.1.2 z hz)).1
        have hk : PyKm559.answers_asked a.1 = true := hask
        refine ⟨_, a.1.map Int.toNat, rfl, ?_, ?_, fun H' p hp => ?_⟩
        · rw [Ic.nV_zs, ez]; exact hs
        · rw [ez]; exact hk
        · rw [ez] at hp
          exact .lst (L2.SqL.of hp) (L2.dw_ints _)
