import PyProof.Rows.All
import Wide.All
import OpenK.AllK
import Wide.FinOn
import HandS.ForMost
import HandS.EndTab
import HandS.Lambda
import HandS.Evl
import KE.KDictKeyed
import HandS.Style
import HandS.Zip
import HandS.Deep
import HandS.TupAny
import HandS.TupLe
import HandS.IsInst
import HandS.Conv
import KE.SortKeyHeap
import KE.DataMinMax
import KE.KDictSum
import KE.KDictZip
import KE.GoesEnum
import KE.KDictDisplayH
import HandS.DictComp
import HandS.DictTup
import HandS.TupLen
import HandS.Nested
import HandS.SortKw
import PySem.Challenge.RW_laytogether_k85_across_easiest_orders
set_option linter.all false
/-! rows, tables, lays, crowds, towers: plain Lean -/
namespace Lt
abbrev Row := List Int
abbrev Tab := List Row
/-- the heap of a good in a row -/
abbrev hp (r : Row) (g : Nat) : Int := r.getD g 0
/-- the row of a person -/
abbrev rw' (t : Tab) (p : Nat) : Row := t.getD p []

def isOver (a b : Row) : Bool := (a.zip b).all fun p => decide (p.2 ≤ p.1)
def atOdds (a b : Row) : Bool := !isOver a b && !isOver b a
def joinR (a b : Row) : Row := (a.zip b).map fun p => max p.1 p.2
def meetR (a b : Row) : Row := (a.zip b).map fun p => min p.1 p.2
def laid (t : Tab) (i j : Nat) : Tab :=
  t.mapIdx fun k r => if k = i then joinR (rw' t i) (rw' t j) else if k = j then meetR (rw' t i) (rw' t j) else r
def WF (n w : Nat) (t : Tab) : Prop := t.length = n ∧ ∀ r ∈ t, r.length = w
def col (t : Tab) (g : Nat) : List Int := t.map fun r => hp r g

/-! ### rows -/
theorem row_ext {w : Nat} {a b : Row} (ha : a.length = w) (hb : b.length = w) (h : ∀ g, g < w → hp a g = hp b g) : a = b := by
  apply List.ext_getElem (by omega)
  intro i h1 h2
  have := h i (by omega)
  simpa [hp, h1, h2] using this
theorem joinR_len {w : Nat} {a b : Row} (ha : a.length = w) (hb : b.length = w) : (joinR a b).length = w := by simp [joinR]; omega
theorem meetR_len {w : Nat} {a b : Row} (ha : a.length = w) (hb : b.length = w) : (meetR a b).length = w := by simp [meetR]; omega
theorem joinR_hp {w g : Nat} {a b : Row} (ha : a.length = w) (hb : b.length = w) (hg : g < w) : hp (joinR a b) g = max (hp a g) (hp b g) := by
  have h1 : g < a.length := by omega
  have h2 : g < b.length := by omega
  have e : (a.zip b)[g]? = some (a[g], b[g]) := by rw [List.getElem?_zip_eq_some]; simp [h1, h2]
  simp [hp, joinR, h1, h2, e]
theorem meetR_hp {w g : Nat} {a b : Row} (ha : a.length = w) (hb : b.length = w) (hg : g < w) : hp (meetR a b) g = min (hp a g) (hp b g) := by
  have h1 : g < a.length := by omega
  have h2 : g < b.length := by omega
  have e : (a.zip b)[g]? = some (a[g], b[g]) := by rw [List.getElem?_zip_eq_some]; simp [h1, h2]
  simp [hp, meetR, h1, h2, e]
theorem isOver_iff {w : Nat} {a b : Row} (ha : a.length = w) (hb : b.length = w) : isOver a b = true ↔ ∀ g, g < w → hp b g ≤ hp a g := by
  unfold isOver
  rw [List.all_eq_true]
  constructor
  · intro h g hg
    have h1 : g < a.length := by omega
    have h2 : g < b.length := by omega
    have e : (a.zip b)[g]? = some (a[g], b[g]) := by rw [List.getElem?_zip_eq_some]; simp [h1, h2]
    have := h (a[g], b[g]) (List.mem_of_getElem? e)
    simpa [hp, h1, h2] using this
  · intro h p hp'
    rw [List.mem_iff_getElem?] at hp'
    obtain ⟨g, hg⟩ := hp'
    rw [List.getElem?_zip_eq_some] at hg
    obtain ⟨e1, e2⟩ := hg
    obtain ⟨l1, q1⟩ := List.getElem?_eq_some_iff.mp e1
    obtain ⟨l2, q2⟩ := List.getElem?_eq_some_iff.mp e2
    have := h g (by omega)
    simp [hp, l1, l2, q1, q2] at this
    simpa using this
theorem isOver_refl {w : Nat} {a : Row} (ha : a.length = w) : isOver a a = true := (isOver_iff ha ha).mpr fun _ _ => Int.le_refl _
theorem isOver_trans {w : Nat} {a b c : Row} (ha : a.length = w) (hb : b.length = w) (hc : c.length = w) (h1 : isOver a b = true) (h2 : isOver b c = true) : isOver a c = true := by
  rw [isOver_iff ha hb] at h1
  rw [isOver_iff hb hc] at h2
  rw [isOver_iff ha hc]
  intro g hg
  have := h1 g hg
  have := h2 g hg
  omega
theorem isOver_antisymm {w : Nat} {a b : Row} (ha : a.length = w) (hb : b.length = w) (h1 : isOver a b = true) (h2 : isOver b a = true) : a = b := by
  rw [isOver_iff ha hb] at h1
  rw [isOver_iff hb ha] at h2
  refine row_ext ha hb fun g hg => ?_
  have := h1 g hg
  have := h2 g hg
  omega
theorem join_over_l {w : Nat} {a b : Row} (ha : a.length = w) (hb : b.length = w) : isOver (joinR a b) a = true := by
  rw [isOver_iff (joinR_len ha hb) ha]; intro g hg; rw [joinR_hp ha hb hg]; omega
theorem join_over_r {w : Nat} {a b : Row} (ha : a.length = w) (hb : b.length = w) : isOver (joinR a b) b = true := by
  rw [isOver_iff (joinR_len ha hb) hb]; intro g hg; rw [joinR_hp ha hb hg]; omega
theorem meet_under_l {w : Nat} {a b : Row} (ha : a.length = w) (hb : b.length = w) : isOver a (meetR a b) = true := by
  rw [isOver_iff ha (meetR_len ha hb)]; intro g hg; rw [meetR_hp ha hb hg]; omega
theorem meet_under_r {w : Nat} {a b : Row} (ha : a.length = w) (hb : b.length = w) : isOver b (meetR a b) = true := by
  rw [isOver_iff hb (meetR_len ha hb)]; intro g hg; rw [meetR_hp ha hb hg]; omega
theorem join_over_meet {w : Nat} {a b : Row} (ha : a.length = w) (hb : b.length = w) : isOver (joinR a b) (meetR a b) = true :=
  isOver_trans (joinR_len ha hb) ha (meetR_len ha hb) (join_over_l ha hb) (meet_under_l ha hb)
theorem join_eq_l {w : Nat} {a b : Row} (ha : a.length = w) (hb : b.length = w) (h : isOver a b = true) : joinR a b = a ∧ meetR a b = b := by
  rw [isOver_iff ha hb] at h
  constructor
  · refine row_ext (joinR_len ha hb) ha fun g hg => ?_
    rw [joinR_hp ha hb hg]; have := h g hg; omega
  · refine row_ext (meetR_len ha hb) hb fun g hg => ?_
    rw [meetR_hp ha hb hg]; have := h g hg; omega
theorem join_comm {w : Nat} {a b : Row} (ha : a.length = w) (hb : b.length = w) : joinR a b = joinR b a := by
  refine row_ext (joinR_len ha hb) (joinR_len hb ha) fun g hg => ?_
  rw [joinR_hp ha hb hg, joinR_hp hb ha hg]; omega
theorem meet_comm {w : Nat} {a b : Row} (ha : a.length = w) (hb : b.length = w) : meetR a b = meetR b a := by
  refine row_ext (meetR_len ha hb) (meetR_len hb ha) fun g hg => ?_
  rw [meetR_hp ha hb hg, meetR_hp hb ha hg]; omega
theorem atOdds_false {a b : Row} : atOdds a b = false ↔ isOver a b = true ∨ isOver b a = true := by
  unfold atOdds
  cases isOver a b <;> cases isOver b a <;> simp
theorem atOdds_comm (a b : Row) : atOdds a b = atOdds b a := by unfold atOdds; rw [Bool.and_comm]

/-! ### tables -/
theorem WF.row {n w p : Nat} {t : Tab} (h : WF n w t) (hp : p < n) : (rw' t p).length = w := by
  have h1 : p < t.length := by rw [h.1]; exact hp
  have e : rw' t p = t[p] := by simp [rw', h1]
  rw [e]
  exact h.2 _ (List.getElem_mem h1)
theorem tab_ext {n w : Nat} {t u : Tab} (ht : WF n w t) (hu : WF n w u) (h : ∀ p, p < n → rw' t p = rw' u p) : t = u := by
  apply List.ext_getElem (by rw [ht.1, hu.1])
  intro i h1 h2
  have := h i (by rw [← ht.1]; exact h1)
  simpa [rw', h1, h2] using this
theorem cell_ext {n w : Nat} {t u : Tab} (ht : WF n w t) (hu : WF n w u) (h : ∀ p g, p < n → g < w → hp (rw' t p) g = hp (rw' u p) g) : t = u :=
  tab_ext ht hu fun p hp => row_ext (ht.row hp) (hu.row hp) fun g hg => h p g hp hg
theorem laid_len (t : Tab) (i j : Nat) : (laid t i j).length = t.length := by simp [laid]
theorem laid_row {n w : Nat} {t : Tab} (ht : WF n w t) (i j p : Nat) (hp : p < n) :
    rw' (laid t i j) p = if p = i then joinR (rw' t i) (rw' t j) else if p = j then meetR (rw' t i) (rw' t j) else rw' t p := by
  have h1 : p < t.length := by rw [ht.1]; exact hp
  simp [laid, rw', h1]
theorem laid_wf {n w : Nat} {t : Tab} (ht : WF n w t) {i j : Nat} (hi : i < n) (hj : j < n) : WF n w (laid t i j) := by
  refine ⟨by rw [laid_len, ht.1], fun r hr => ?_⟩
  rw [List.mem_iff_getElem] at hr
  obtain ⟨p, hp1, e⟩ := hr
  have hp2 : p < n := by rw [laid_len, ht.1] at hp1; exact hp1
  have e' : rw' (laid t i j) p = r := by rw [← e]; simp [rw', hp1]
  rw [← e', laid_row ht i j p hp2]
  split
  · exact joinR_len (ht.row hi) (ht.row hj)
  · split
    · exact meetR_len (ht.row hi) (ht.row hj)
    · exact ht.row hp2
theorem laid_set {n w : Nat} {t : Tab} (ht : WF n w t) {i j : Nat} (hi : i < n) (hj : j < n) (hij : i ≠ j) :
    laid t i j = (t.set i (joinR (rw' t i) (rw' t j))).set j (meetR (rw' t i) (rw' t j)) := by
  apply List.ext_getElem (by simp [laid_len])
  intro p h1 h2
  have hp : p < t.length := by rw [laid_len] at h1; exact h1
  simp only [laid, List.getElem_mapIdx, List.getElem_set]
  by_cases e1 : p = i
  · subst e1
    have : ¬ j = p := fun e => hij e.symm
    simp [this]
  · by_cases e2 : p = j
    · subst e2
      simp [e1]
    · have q1 : ¬ i = p := fun e => e1 e.symm
      have q2 : ¬ j = p := fun e => e2 e.symm
      simp [e1, e2, q1, q2]
theorem set_perm {α : Type} (l : List α) (i : Nat) (a : α) (h : i < l.length) : (l.set i a).Perm (a :: l.eraseIdx i) := by
  induction l generalizing i with
  | nil => simp at h
  | cons x xs ih =>
    cases i with
    | zero => simp
    | succ i =>
      simp only [List.set_cons_succ, List.eraseIdx_cons_succ]
      exact ((ih i (by simpa using h)).cons x).trans (List.Perm.swap _ _ _)
theorem erase_set {α : Type} : ∀ (l : List α) {i j : Nat} (a : α), i < j → (l.set i a).eraseIdx j = (l.eraseIdx j).set i a
  | [], _, _, _, _ => by simp
  | x :: xs, 0, j + 1, a, _ => by simp
  | x :: xs, i + 1, j + 1, a, h => by simp [erase_set xs a (by omega : i < j)]
/-- two places of a list taken out: whatever is put there, the rest is the same -/
theorem two_out {α : Type} (l : List α) {i j : Nat} (hi : i < l.length) (hj : j < l.length) (hij : i ≠ j) :
    ∃ rest, ∀ a b, ((l.set i a).set j b).Perm (a :: b :: rest) := by
  rcases Nat.lt_or_gt_of_ne hij with h | h
  · refine ⟨(l.eraseIdx j).eraseIdx i, fun a b => ?_⟩
    refine (set_perm _ j b (by simpa using hj)).trans ?_
    have e : (l.set i a).eraseIdx j = (l.eraseIdx j).set i a := erase_set l a h
    rw [e]
    have hl : i < (l.eraseIdx j).length := by
      rw [List.length_eraseIdx]; split <;> omega
    exact ((set_perm _ i a hl).cons b).trans (List.Perm.swap _ _ _)
  · refine ⟨(l.eraseIdx i).eraseIdx j, fun a b => ?_⟩
    rw [List.set_comm _ _ (by omega)]
    refine (set_perm _ i a (by simpa using hi)).trans ?_
    have e : (l.set j b).eraseIdx i = (l.eraseIdx i).set j b := erase_set l b h
    rw [e]
    have hl : j < (l.eraseIdx i).length := by
      rw [List.length_eraseIdx]; split <;> omega
    exact (set_perm _ j b hl).cons a
theorem two_self {t : Tab} {i j : Nat} (hi : i < t.length) (hj : j < t.length) : (t.set i (rw' t i)).set j (rw' t j) = t := by
  have e1 : t.set i (rw' t i) = t := by
    have : rw' t i = t[i] := by simp [rw', hi]
    rw [this]; exact List.set_getElem_self hi
  rw [e1]
  have : rw' t j = t[j] := by simp [rw', hj]
  rw [this]; exact List.set_getElem_self hj
/-- a lay, the table's rows in no order -/
theorem laid_perm {n w : Nat} {t : Tab} (ht : WF n w t) {i j : Nat} (hi : i < n) (hj : j < n) (hij : i ≠ j) :
    ∃ rest, t.Perm (rw' t i :: rw' t j :: rest) ∧ (laid t i j).Perm (joinR (rw' t i) (rw' t j) :: meetR (rw' t i) (rw' t j) :: rest) := by
  have h1 : i < t.length := by rw [ht.1]; exact hi
  have h2 : j < t.length := by rw [ht.1]; exact hj
  obtain ⟨rest, h⟩ := two_out t h1 h2 hij
  refine ⟨rest, ?_, ?_⟩
  · have := h (rw' t i) (rw' t j)
    rwa [two_self h1 h2] at this
  · rw [laid_set ht hi hj hij]; exact h _ _
theorem laid_col {n w : Nat} {t : Tab} (ht : WF n w t) {i j : Nat} (hi : i < n) (hj : j < n) (hij : i ≠ j) {g : Nat} (hg : g < w) : (col (laid t i j) g).Perm (col t g) := by
  obtain ⟨rest, h1, h2⟩ := laid_perm ht hi hj hij
  have p1 : (col t g).Perm (hp (rw' t i) g :: hp (rw' t j) g :: col rest g) := h1.map fun r => hp r g
  have p2 : (col (laid t i j) g).Perm (hp (joinR (rw' t i) (rw' t j)) g :: hp (meetR (rw' t i) (rw' t j)) g :: col rest g) := h2.map fun r => hp r g
  rw [joinR_hp (ht.row hi) (ht.row hj) hg, meetR_hp (ht.row hi) (ht.row hj) hg] at p2
  refine p2.trans (List.Perm.trans ?_ p1.symm)
  rcases Int.le_total (hp (rw' t i) g) (hp (rw' t j) g) with h | h
  · rw [Int.max_eq_right h, Int.min_eq_left h]; exact List.Perm.swap _ _ _
  · rw [Int.max_eq_left h, Int.min_eq_right h]
end Lt
set_option linter.all false
/-! crowds and towers -/
namespace Lt
def rowLe (a b : Row) : Bool := decide (a ≤ b)
def crowd (t : Tab) : Tab := (t.mergeSort rowLe).reverse

theorem row_le_antisymm {a b : Row} (h1 : a ≤ b) (h2 : b ≤ a) : a = b := Std.le_antisymm h1 h2
theorem rowLe_trans (a b c : Row) (h1 : rowLe a b = true) (h2 : rowLe b c = true) : rowLe a c = true := by
  unfold rowLe at *
  simp only [decide_eq_true_eq] at *
  exact List.le_trans h1 h2
theorem rowLe_total (a b : Row) : (rowLe a b || rowLe b a) = true := by
  unfold rowLe
  rcases List.le_total a b with h | h <;> simp [h]
theorem crowd_perm (t : Tab) : (crowd t).Perm t := (List.reverse_perm _).trans (List.mergeSort_perm _ _)
theorem crowd_len (t : Tab) : (crowd t).length = t.length := (crowd_perm t).length_eq
/-- a crowd is in order, the greatest ones first -/
theorem crowd_sorted (t : Tab) : (crowd t).Pairwise fun a b => b ≤ a := by
  unfold crowd
  rw [List.pairwise_reverse]
  have h := List.pairwise_mergeSort (le := rowLe) rowLe_trans rowLe_total t
  exact h.imp fun {a b} h => by simpa [rowLe] using h
theorem crowd_unique {t u : Tab} (p : u.Perm t) (h : u.Pairwise fun a b => b ≤ a) : u = crowd t :=
  List.Perm.eq_of_pairwise (le := fun a b => b ≤ a) (fun a b _ _ h1 h2 => row_le_antisymm h2 h1) h (crowd_sorted t) (p.trans (crowd_perm t).symm)
theorem crowd_congr {t u : Tab} (p : t.Perm u) : crowd t = crowd u := crowd_unique ((crowd_perm t).trans p) (crowd_sorted t)
theorem crowd_iff {t u : Tab} : crowd t = crowd u ↔ t.Perm u :=
  ⟨fun h => (crowd_perm t).symm.trans (h ▸ crowd_perm u), crowd_congr⟩
theorem crowd_idem (t : Tab) : crowd (crowd t) = crowd t := crowd_congr (crowd_perm t)
theorem WF.perm {n w : Nat} {t u : Tab} (h : WF n w t) (p : u.Perm t) : WF n w u :=
  ⟨p.length_eq.trans h.1, fun r hr => h.2 r (p.mem_iff.mp hr)⟩
theorem crowd_wf {n w : Nat} {t : Tab} (h : WF n w t) : WF n w (crowd t) := h.perm (crowd_perm t)
theorem col_perm {t u : Tab} (p : t.Perm u) (g : Nat) : (col t g).Perm (col u g) := p.map _

/-- a row over another one is the greater one in order, too -/
theorem le_of_over : ∀ {w : Nat} {a b : Row}, a.length = w → b.length = w → isOver a b = true → b ≤ a
  | _, [], [], _, _, _ => List.le_refl _
  | _, [], _ :: _, ha, hb, _ => by simp at ha hb; omega
  | _, _ :: _, [], ha, hb, _ => by simp at ha hb; omega
  | _, x :: a, y :: b, ha, hb, h => by
    have h' : y ≤ x ∧ isOver a b = true := by
      simpa [isOver] using h
    rw [List.cons_le_cons_iff]
    by_cases e : y = x
    · exact .inr ⟨e, le_of_over (w := a.length) rfl (by simp at ha hb; omega) h'.2⟩
    · exact .inl (by omega)

/-! ### sorting a good's heaps -/
def sortD (l : List Int) : List Int := (l.mergeSort fun a b => decide (a ≤ b)).reverse
theorem sortD_perm (l : List Int) : (sortD l).Perm l := (List.reverse_perm _).trans (List.mergeSort_perm _ _)
theorem sortD_len (l : List Int) : (sortD l).length = l.length := (sortD_perm l).length_eq
theorem sortD_sorted (l : List Int) : (sortD l).Pairwise fun a b => b ≤ a := by
  unfold sortD
  rw [List.pairwise_reverse]
  have h := List.pairwise_mergeSort (le := fun a b : Int => decide (a ≤ b)) (by simp; intro a b c; omega) (by simp; intro a b; omega) l
  exact h.imp fun {a b} h => by simpa using h
theorem sortD_unique {l m : List Int} (p : m.Perm l) (h : m.Pairwise fun a b => b ≤ a) : m = sortD l :=
  List.Perm.eq_of_pairwise (le := fun a b => b ≤ a) (fun a b _ _ h1 h2 => by omega) h (sortD_sorted l) (p.trans (sortD_perm l).symm)
theorem sortD_congr {l m : List Int} (p : l.Perm m) : sortD l = sortD m := sortD_unique ((sortD_perm l).trans p) (sortD_sorted l)

def tower (t : Tab) : Tab := (List.range t.length).map fun k => (List.range (rw' t 0).length).map fun g => (sortD (col t g)).getD k 0
theorem tower_len (t : Tab) : (tower t).length = t.length := by simp [tower]
section
variable {n w : Nat} {t u : Tab}
theorem tower_row (ht : WF n w t) {k : Nat} (hk : k < n) : rw' (tower t) k = (List.range w).map fun g => (sortD (col t g)).getD k 0 := by
  have h1 : k < t.length := by rw [ht.1]; exact hk
  have e : (rw' t 0).length = w := ht.row (by omega)
  simp only [rw', tower, List.getD_eq_getElem?_getD]
  rw [List.getElem?_map, List.getElem?_range h1]
  simp only [Option.map_some, Option.getD_some]
  rw [← e]; simp [rw']
theorem tower_wf (ht : WF n w t) : WF n w (tower t) := by
  refine ⟨by rw [tower_len, ht.1], fun r hr => ?_⟩
  rw [List.mem_iff_getElem] at hr
  obtain ⟨k, hk, e⟩ := hr
  have hk' : k < n := by rw [tower_len, ht.1] at hk; exact hk
  have : rw' (tower t) k = r := by rw [← e]; simp [rw', hk]
  rw [← this, tower_row ht hk']
  simp
theorem tower_cell (ht : WF n w t) {k g : Nat} (hk : k < n) (hg : g < w) : hp (rw' (tower t) k) g = (sortD (col t g)).getD k 0 := by
  rw [tower_row ht hk]
  simp [hp, hg]
theorem col_len (t : Tab) (g : Nat) : (col t g).length = t.length := by simp [col]
theorem col_get (t : Tab) {p : Nat} (h : p < t.length) (g : Nat) : (col t g)[p]? = some (hp (rw' t p) g) := by
  simp [col, rw', h]
theorem tower_col (ht : WF n w t) {g : Nat} (hg : g < w) : col (tower t) g = sortD (col t g) := by
  apply List.ext_getElem (by rw [col_len, tower_len, sortD_len, col_len])
  intro k h1 h2
  have hk : k < n := by rw [col_len, tower_len, ht.1] at h1; exact h1
  have e1 := col_get (tower t) (p := k) (by rw [tower_len, ht.1]; exact hk) g
  rw [tower_cell ht hk hg, List.getElem?_eq_getElem h1] at e1
  rw [Option.some.inj e1]
  simp [h2]
theorem tower_chain (ht : WF n w t) {k l : Nat} (hkl : k ≤ l) (hl : l < n) : isOver (rw' (tower t) k) (rw' (tower t) l) = true := by
  rw [isOver_iff ((tower_wf ht).row (by omega)) ((tower_wf ht).row hl)]
  intro g hg
  rw [tower_cell ht hl hg, tower_cell ht (by omega) hg]
  have hs := sortD_sorted (col t g)
  have hlen : (sortD (col t g)).length = n := by rw [sortD_len, col_len, ht.1]
  rcases Nat.lt_or_eq_of_le hkl with h | h
  · have := List.pairwise_iff_getElem.mp hs k l (by omega) (by omega) h
    rw [List.getD_eq_getElem?_getD, List.getD_eq_getElem?_getD, List.getElem?_eq_getElem (by omega), List.getElem?_eq_getElem (by omega)]
    exact this
  · subst h; exact Int.le_refl _
theorem tower_congr (ht : WF n w t) (hu : WF n w u) (h : ∀ g, g < w → (col t g).Perm (col u g)) : tower t = tower u := by
  refine cell_ext (tower_wf ht) (tower_wf hu) fun p g hp' hg => ?_
  rw [tower_cell ht hp' hg, tower_cell hu hp' hg, sortD_congr (h g hg)]
theorem tower_perm (ht : WF n w t) (p : u.Perm t) : tower u = tower t := tower_congr (ht.perm p) ht fun g _ => col_perm p g
theorem tower_laid (ht : WF n w t) {i j : Nat} (hi : i < n) (hj : j < n) (hij : i ≠ j) : tower (laid t i j) = tower t :=
  tower_congr (laid_wf ht hi hj) ht fun _ hg => laid_col ht hi hj hij hg
theorem pairwise_rows {R : Row → Row → Prop} (ht : WF n w t) (h : ∀ k l, k < l → l < n → R (rw' t k) (rw' t l)) : t.Pairwise R := by
  rw [List.pairwise_iff_getElem]
  intro i j hi hj hij
  have := h i j hij (by rw [← ht.1]; exact hj)
  simpa [rw', hi, hj] using this
theorem rows_pairwise {R : Row → Row → Prop} (h : t.Pairwise R) {k l : Nat} (hkl : k < l) (hl : l < t.length) : R (rw' t k) (rw' t l) := by
  have h1 : k < t.length := by omega
  have := List.pairwise_iff_getElem.mp h k l h1 hl hkl
  simpa [rw', hl, h1] using this
theorem crowd_tower (ht : WF n w t) : crowd (tower t) = tower t :=
  (crowd_unique (List.Perm.refl _) (pairwise_rows (tower_wf ht) fun k l hkl hl =>
    le_of_over ((tower_wf ht).row (by omega)) ((tower_wf ht).row hl) (tower_chain ht (by omega) hl))).symm
theorem tower_tower (ht : WF n w t) : tower (tower t) = tower t := tower_congr (tower_wf ht) ht fun g hg => by rw [tower_col ht hg]; exact sortD_perm _

/-- nobody is at odds -/
def Quiet (n : Nat) (t : Tab) : Prop := ∀ i j, i < n → j < n → atOdds (rw' t i) (rw' t j) = false
/-- rows in order, the greatest ones first, of a table without odds are the tower -/
theorem chain_tower (ht : WF n w t) (h : ∀ k l, k < l → l < n → isOver (rw' t k) (rw' t l) = true) : t = tower t := by
  refine cell_ext ht (tower_wf ht) fun p g hp' hg => ?_
  rw [tower_cell ht hp' hg]
  have hs : col t g = sortD (col t g) := by
    refine sortD_unique (List.Perm.refl _) ?_
    unfold col
    rw [List.pairwise_map]
    exact pairwise_rows ht fun k l hkl hl => (isOver_iff (ht.row (by omega)) (ht.row hl)).mp (h k l hkl hl) g hg
  rw [← hs]
  have := col_get t (p := p) (by rw [ht.1]; exact hp') g
  rw [List.getD_eq_getElem?_getD, this]
  rfl
theorem quiet_perm (ht : WF n w t) (p : u.Perm t) (h : Quiet n t) : Quiet n u := by
  have hu := ht.perm p
  have mem : ∀ {v : Tab}, WF n w v → ∀ {k}, k < n → rw' v k ∈ v := fun {v} hv {k} hk => by
    have : k < v.length := by rw [hv.1]; exact hk
    have e : rw' v k = v[k] := by simp [rw', this]
    rw [e]; exact List.getElem_mem this
  intro i j hi hj
  have h1 := p.mem_iff.mp (mem hu hi)
  have h2 := p.mem_iff.mp (mem hu hj)
  obtain ⟨a, ha, ea⟩ := List.mem_iff_getElem.mp h1
  obtain ⟨b, hb, eb⟩ := List.mem_iff_getElem.mp h2
  have := h a b (by rw [← ht.1]; exact ha) (by rw [← ht.1]; exact hb)
  simp only [rw', List.getD_eq_getElem?_getD, List.getElem?_eq_getElem ha, List.getElem?_eq_getElem hb, Option.getD_some] at this
  rw [ea, eb] at this
  simpa [rw'] using this
theorem crowd_of_quiet (ht : WF n w t) (h : Quiet n t) : crowd t = tower t := by
  have hc := crowd_wf ht
  have hq := quiet_perm ht (crowd_perm t) h
  have e := chain_tower hc fun k l hkl hl => by
    have h1 : rw' (crowd t) l ≤ rw' (crowd t) k := rows_pairwise (crowd_sorted t) hkl (by rw [hc.1]; exact hl)
    rcases atOdds_false.mp (hq k l (by omega) hl) with z | z
    · exact z
    · have h2 := le_of_over (hc.row hl) (hc.row (by omega)) z
      rw [row_le_antisymm h1 h2]
      exact isOver_refl (hc.row (by omega))
  rw [e, tower_perm ht (crowd_perm t)]
theorem quiet_tower (ht : WF n w t) : Quiet n (tower t) := fun i j hi hj => by
  rw [atOdds_false]
  rcases Nat.le_total i j with h | h
  · exact .inl (tower_chain ht h hj)
  · exact .inr (tower_chain ht h hi)
theorem quiet_iff (ht : WF n w t) : Quiet n t ↔ crowd t = tower t := by
  refine ⟨crowd_of_quiet ht, fun h => ?_⟩
  have p : t.Perm (tower t) := (crowd_perm t).symm.trans (by rw [h])
  exact quiet_perm (tower_wf ht) p (quiet_tower ht)

/-! ### the pairs at odds -/
def oddsOf (t : Tab) : List (Nat × Nat) := (List.range t.length).flatMap fun i =>
  (((List.range (t.length - (i + 1))).map fun k => i + 1 + k).filter fun j => atOdds (rw' t i) (rw' t j)).map fun j => (i, j)
theorem mem_oddsOf {i j : Nat} : (i, j) ∈ oddsOf t ↔ i < j ∧ j < t.length ∧ atOdds (rw' t i) (rw' t j) = true := by
  unfold oddsOf
  simp only [List.mem_flatMap, List.mem_range, List.mem_map, List.mem_filter, Prod.mk.injEq]
  constructor
  · rintro ⟨a, ha, b, ⟨⟨k, hk, rfl⟩, ho⟩, rfl, rfl⟩
    exact ⟨by omega, by omega, ho⟩
  · rintro ⟨h1, h2, ho⟩
    exact ⟨i, by omega, j, ⟨⟨j - (i + 1), by omega, by omega⟩, ho⟩, rfl, rfl⟩
theorem oddsOf_nil (ht : WF n w t) : oddsOf t = [] ↔ Quiet n t := by
  rw [List.eq_nil_iff_forall_not_mem]
  constructor
  · intro h i j hi hj
    cases e : atOdds (rw' t i) (rw' t j) with
    | false => rfl
    | true =>
      exfalso
      rcases Nat.lt_trichotomy i j with q | q | q
      · exact h (i, j) (mem_oddsOf.mpr ⟨q, by rw [ht.1]; exact hj, e⟩)
      · subst q
        have := isOver_refl (ht.row hi)
        unfold atOdds at e
        rw [this] at e
        cases e
      · exact h (j, i) (mem_oddsOf.mpr ⟨q, by rw [ht.1]; exact hi, by rw [atOdds_comm]; exact e⟩)
  · rintro h ⟨i, j⟩ hm
    obtain ⟨h1, h2, h3⟩ := mem_oddsOf.mp hm
    rw [h i j (by rw [← ht.1]; omega) (by rw [← ht.1]; omega)] at h3
    cases h3
end
end Lt
set_option linter.all false
/-! paths of lays and of deeds -/
namespace Lt
inductive Path {α : Type} (R : α → α → Prop) : Nat → α → α → Prop
  | nil (a : α) : Path R 0 a a
  | cons {a b c : α} {k : Nat} : R a b → Path R k b c → Path R (k + 1) a c
def Dist {α : Type} (R : α → α → Prop) (a b : α) (m : Nat) : Prop := Path R m a b ∧ ∀ k, Path R k a b → m ≤ k
section
variable {α : Type} {R : α → α → Prop}
theorem Path.snoc {k : Nat} {a b c : α} (h : Path R k a b) (r : R b c) : Path R (k + 1) a c := by
  induction h with
  | nil a => exact .cons r (.nil _)
  | cons r' _ ih => exact .cons r' (ih r)
theorem Path.trans {k m : Nat} {a b c : α} (h : Path R k a b) (h' : Path R m b c) : Path R (k + m) a c := by
  induction h with
  | nil a => rw [Nat.zero_add]; exact h'
  | @cons a b c k r _ ih => rw [Nat.add_right_comm]; exact .cons r (ih h')
theorem Path.last {k : Nat} {a c : α} (h : Path R (k + 1) a c) : ∃ b, Path R k a b ∧ R b c := by
  induction k generalizing a with
  | zero =>
    cases h with
    | cons r h => cases h; exact ⟨a, .nil a, r⟩
  | succ k ih =>
    cases h with
    | cons r h =>
      obtain ⟨b, h1, h2⟩ := ih h
      exact ⟨b, .cons r h1, h2⟩
theorem Path.zero {a b : α} (h : Path R 0 a b) : a = b := by cases h; rfl
theorem Dist.unique {a b : α} {m m' : Nat} (h : Dist R a b m) (h' : Dist R a b m') : m = m' := by
  have := h.2 _ h'.1
  have := h'.2 _ h.1
  omega
theorem dist_of_path {a b : α} {k : Nat} (h : Path R k a b) : ∃ m, m ≤ k ∧ Dist R a b m := by
  induction k using Nat.strongRecOn with
  | ind k ih =>
    by_cases q : ∃ k', k' < k ∧ Path R k' a b
    · obtain ⟨k', h1, h2⟩ := q
      obtain ⟨m, h3, h4⟩ := ih k' h1 h2
      exact ⟨m, by omega, h4⟩
    · refine ⟨k, Nat.le_refl _, h, fun k' h' => ?_⟩
      by_cases z : k ≤ k'
      · exact z
      · exact absurd ⟨k', by omega, h'⟩ q
end

def LayR (n : Nat) (t u : Tab) : Prop := ∃ i j, i < n ∧ j < n ∧ i ≠ j ∧ u = laid t i j
def DeedR (c d : Tab) : Prop := ∃ i j, (i, j) ∈ oddsOf c ∧ d = crowd (laid c i j)

section
variable {n w : Nat} {t u c d : Tab}
/-- what lays keep -/
structure Kin (n w : Nat) (t u : Tab) : Prop where
  wf : WF n w u
  col : ∀ g, g < w → (col u g).Perm (col t g)
theorem Kin.refl (ht : WF n w t) : Kin n w t t := ⟨ht, fun _ _ => List.Perm.refl _⟩
theorem Kin.tower (ht : WF n w t) (h : Kin n w t u) : tower u = tower t := tower_congr h.wf ht h.col
theorem Kin.trans (h : Kin n w t u) (h' : Kin n w u c) : Kin n w t c := ⟨h'.wf, fun g hg => (h'.col g hg).trans (h.col g hg)⟩
theorem lay_kin (ht : WF n w t) (h : LayR n t u) : Kin n w t u := by
  obtain ⟨i, j, hi, hj, hij, rfl⟩ := h
  exact ⟨laid_wf ht hi hj, fun g hg => laid_col ht hi hj hij hg⟩
theorem lays_kin {k : Nat} (ht : WF n w t) (h : Path (LayR n) k t u) : Kin n w t u := by
  induction h with
  | nil a => exact Kin.refl ht
  | cons r _ ih => exact (lay_kin ht r).trans (ih (lay_kin ht r).wf)
theorem Kin.perm (h : Kin n w t u) (p : c.Perm u) : Kin n w t c := ⟨h.wf.perm p, fun g hg => (col_perm p g).trans (h.col g hg)⟩
theorem deed_kin (hc : WF n w c) (h : DeedR c d) : Kin n w c d := by
  obtain ⟨i, j, hij, rfl⟩ := h
  obtain ⟨h1, h2, _⟩ := mem_oddsOf.mp hij
  rw [hc.1] at h2
  exact (lay_kin hc ⟨i, j, by omega, h2, by omega, rfl⟩).perm (crowd_perm _)
theorem deeds_kin {k : Nat} (hc : WF n w c) (h : Path DeedR k c d) : Kin n w c d := by
  induction h with
  | nil a => exact Kin.refl hc
  | cons r _ ih => exact (deed_kin hc r).trans (ih (deed_kin hc r).wf)
theorem deeds_crowd {k : Nat} (h : Path DeedR k c d) (hc : crowd c = c) : crowd d = d := by
  induction h with
  | nil a => exact hc
  | cons r _ ih =>
    obtain ⟨i, j, _, rfl⟩ := r
    exact ih (crowd_idem _)

/-! ### rows in no order -/
theorem mem_row {p : Nat} {l : Tab} (h : p < l.length) : rw' l p = l[p] := by simp [rw', h]
theorem perm_places {x y : Row} {rest : Tab} (p : c.Perm (x :: y :: rest)) :
    ∃ i j, i < c.length ∧ j < c.length ∧ i ≠ j ∧ rw' c i = x ∧ rw' c j = y ∧ ∀ a b, ((c.set i a).set j b).Perm (a :: b :: rest) := by
  have hx : x ∈ c := p.mem_iff.mpr List.mem_cons_self
  obtain ⟨i, hi, ei⟩ := List.mem_iff_getElem.mp hx
  have pe : c.Perm (x :: c.eraseIdx i) := by
    have := set_perm c i x hi
    rwa [← ei, List.set_getElem_self hi, ei] at this
  have py : (c.eraseIdx i).Perm (y :: rest) := (pe.symm.trans p).cons_inv
  have hy : y ∈ c.eraseIdx i := py.mem_iff.mpr List.mem_cons_self
  obtain ⟨j, hj, hji, ej⟩ : ∃ j, ∃ h : j < c.length, i ≠ j ∧ c[j] = y := by
    obtain ⟨j, hj, ej⟩ := List.mem_iff_getElem.mp hy
    rw [List.getElem_eraseIdx] at ej
    have hl : (c.eraseIdx i).length = c.length - 1 := List.length_eraseIdx_of_lt hi
    split at ej
    · exact ⟨j, by omega, by omega, ej⟩
    · exact ⟨j + 1, by omega, by omega, ej⟩
  obtain ⟨r2, h2⟩ := two_out c hi hj hji
  refine ⟨i, j, hi, hj, hji, by rw [mem_row hi, ei], by rw [mem_row hj, ej], fun a b => ?_⟩
  have q := h2 (rw' c i) (rw' c j)
  rw [two_self hi hj, mem_row hi, mem_row hj, ei, ej] at q
  have q2 : r2.Perm rest := (q.symm.trans p).cons_inv.cons_inv
  exact (h2 a b).trans ((q2.cons b).cons a)
theorem lay_of_rows (ht : WF n w t) {x y : Row} {rest : Tab} (p : t.Perm (x :: y :: rest)) : ∃ u, LayR n t u ∧ u.Perm (joinR x y :: meetR x y :: rest) := by
  obtain ⟨i, j, hi, hj, hij, ex, ey, h⟩ := perm_places p
  rw [ht.1] at hi hj
  refine ⟨laid t i j, ⟨i, j, hi, hj, hij, rfl⟩, ?_⟩
  rw [laid_set ht hi hj hij, ex, ey]
  exact h _ _
theorem rows_len (ht : WF n w t) {x y : Row} {rest : Tab} (p : t.Perm (x :: y :: rest)) : x.length = w ∧ y.length = w :=
  ⟨ht.2 _ (p.mem_iff.mpr (by simp)), ht.2 _ (p.mem_iff.mpr (by simp))⟩
theorem deed_of_rows (hc : WF n w c) {x y : Row} {rest : Tab} (p : c.Perm (x :: y :: rest)) (ho : atOdds x y = true) : DeedR c (crowd (joinR x y :: meetR x y :: rest)) := by
  obtain ⟨i, j, hi, hj, hij, ex, ey, h⟩ := perm_places p
  obtain ⟨lx, ly⟩ := rows_len hc p
  rcases Nat.lt_or_gt_of_ne hij with q | q
  · refine ⟨i, j, mem_oddsOf.mpr ⟨q, hj, by rw [ex, ey]; exact ho⟩, ?_⟩
    rw [laid_set hc (by rw [← hc.1]; exact hi) (by rw [← hc.1]; exact hj) hij, ex, ey]
    exact (crowd_congr (h _ _)).symm
  · refine ⟨j, i, mem_oddsOf.mpr ⟨q, hi, by rw [ex, ey, atOdds_comm]; exact ho⟩, ?_⟩
    rw [laid_set hc (by rw [← hc.1]; exact hj) (by rw [← hc.1]; exact hi) (by omega), ex, ey, join_comm ly lx, meet_comm ly lx, List.set_comm _ _ (by omega)]
    exact crowd_congr ((h (meetR x y) (joinR x y)).trans (List.Perm.swap _ _ _)).symm
theorem rows_of_deed (hc : WF n w c) (h : DeedR c d) : ∃ x y rest, c.Perm (x :: y :: rest) ∧ atOdds x y = true ∧ d = crowd (joinR x y :: meetR x y :: rest) := by
  obtain ⟨i, j, hij, rfl⟩ := h
  obtain ⟨h1, h2, h3⟩ := mem_oddsOf.mp hij
  rw [hc.1] at h2
  obtain ⟨rest, p1, p2⟩ := laid_perm hc (by omega : i < n) h2 (by omega)
  exact ⟨_, _, rest, p1, h3, crowd_congr p2⟩
/-- a lay is a deed on the crowd, or nothing -/
theorem lay_deed (ht : WF n w t) (h : LayR n t u) : (DeedR (crowd t) (crowd u)) ∨ crowd u = crowd t := by
  obtain ⟨i, j, hi, hj, hij, rfl⟩ := h
  obtain ⟨rest, p1, p2⟩ := laid_perm ht hi hj hij
  cases ho : atOdds (rw' t i) (rw' t j) with
  | true =>
    refine .inl ?_
    rw [crowd_congr p2]
    exact deed_of_rows (crowd_wf ht) ((crowd_perm t).trans p1) ho
  | false =>
    refine .inr (crowd_congr (p2.trans (List.Perm.trans ?_ p1.symm)))
    rcases atOdds_false.mp ho with z | z
    · obtain ⟨e1, e2⟩ := join_eq_l (ht.row hi) (ht.row hj) z
      rw [e1, e2]
    · obtain ⟨e1, e2⟩ := join_eq_l (ht.row hj) (ht.row hi) z
      rw [join_comm (ht.row hi) (ht.row hj), meet_comm (ht.row hi) (ht.row hj), e1, e2]
      exact List.Perm.swap _ _ _
theorem lay_quiet (ht : WF n w t) {i j : Nat} (hi : i < n) (hj : j < n) (hij : i ≠ j) (ho : atOdds (rw' t i) (rw' t j) = false) : crowd (laid t i j) = crowd t := by
  obtain ⟨rest, p1, p2⟩ := laid_perm ht hi hj hij
  refine crowd_congr (p2.trans (List.Perm.trans ?_ p1.symm))
  rcases atOdds_false.mp ho with z | z
  · obtain ⟨e1, e2⟩ := join_eq_l (ht.row hi) (ht.row hj) z
    rw [e1, e2]
  · obtain ⟨e1, e2⟩ := join_eq_l (ht.row hj) (ht.row hi) z
    rw [join_comm (ht.row hi) (ht.row hj), meet_comm (ht.row hi) (ht.row hj), e1, e2]
    exact List.Perm.swap _ _ _
theorem lays_deeds {k : Nat} (ht : WF n w t) (h : Path (LayR n) k t u) : ∃ m, m ≤ k ∧ Path DeedR m (crowd t) (crowd u) := by
  induction h with
  | nil a => exact ⟨0, Nat.le_refl _, .nil _⟩
  | cons r _ ih =>
    obtain ⟨m, hm, hp⟩ := ih (lay_kin ht r).wf
    rcases lay_deed ht r with z | z
    · exact ⟨m + 1, by omega, .cons z hp⟩
    · rw [z] at hp
      exact ⟨m, by omega, hp⟩
theorem deeds_lays {k : Nat} {c d : Tab} (h : Path DeedR k c d) : ∀ {t : Tab}, WF n w t → crowd t = c → ∃ u, Path (LayR n) k t u ∧ crowd u = d := by
  induction h with
  | nil a => exact fun {t} _ e => ⟨t, .nil _, e⟩
  | @cons a b c k r _ ih =>
    intro t ht e
    subst e
    obtain ⟨x, y, rest, p, _, rfl⟩ := rows_of_deed (crowd_wf ht) r
    obtain ⟨u1, hl, pu⟩ := lay_of_rows ht ((crowd_perm t).symm.trans p)
    obtain ⟨u, hu, eu⟩ := ih (lay_kin ht hl).wf (crowd_congr pu)
    exact ⟨u, .cons hl hu, eu⟩
/-- fewest lays to the tower's rows are fewest deeds -/
theorem least_eq {L D : Nat} {T told : Tab} (ht : WF n w t) (h : Path (LayR n) L t told) (e : crowd told = T) (hm : ∀ k u, Path (LayR n) k t u → crowd u = T → L ≤ k) (hD : Dist DeedR (crowd t) T D) : L = D := by
  obtain ⟨m, h1, h2⟩ := lays_deeds ht h
  rw [e] at h2
  have := hD.2 m h2
  obtain ⟨u, h3, h4⟩ := deeds_lays hD.1 ht rfl
  have := hm D u h3 h4
  omega
end
end Lt
set_option linter.all false
/-! orders of people, the table in an order, lays that make it -/
namespace Lt
def placed (rows : Tab) (o : List Nat) : Tab := (List.range o.length).map fun p => rw' rows (o.idxOf p)
def IsOrd (n : Nat) (o : List Nat) : Prop := o.Perm (List.range n)
def sw (a b x : Nat) : Nat := if x = a then b else if x = b then a else x
section
variable {n w : Nat} {t u c d T : Tab} {o o' : List Nat}
theorem IsOrd.len (h : IsOrd n o) : o.length = n := by rw [List.Perm.length_eq h, List.length_range]
theorem IsOrd.nodup (h : IsOrd n o) : o.Nodup := List.Perm.nodup (List.Perm.symm h) List.nodup_range
theorem IsOrd.mem (h : IsOrd n o) {p : Nat} : p ∈ o ↔ p < n := by rw [List.Perm.mem_iff h, List.mem_range]
theorem IsOrd.idx_lt (h : IsOrd n o) {p : Nat} (hp : p < n) : o.idxOf p < n := by
  rw [← h.len]; exact List.idxOf_lt_length_of_mem (h.mem.mpr hp)
theorem idx_get {l : List Nat} (h : l.Nodup) {k : Nat} (hk : k < l.length) : l.idxOf l[k] = k := by
  have hm : l[k] ∈ l := List.getElem_mem hk
  have h1 : l.idxOf l[k] < l.length := List.idxOf_lt_length_of_mem hm
  have e : l[l.idxOf l[k]] = l[k] := List.getElem_idxOf h1
  exact (List.getElem_inj h).mp e
theorem IsOrd.idx_at (h : IsOrd n o) {k : Nat} (hk : k < o.length) : o.idxOf o[k] = k := idx_get h.nodup hk
theorem placed_row (ho : IsOrd n o) {p : Nat} (hp : p < n) : rw' (placed T o) p = rw' T (o.idxOf p) := by
  have : p < o.length := by rw [ho.len]; exact hp
  simp [rw', placed, this]
theorem placed_len : (placed T o).length = o.length := by simp [placed]
theorem placed_wf (hT : WF n w T) (ho : IsOrd n o) : WF n w (placed T o) := by
  refine ⟨by rw [placed_len, ho.len], fun r hr => ?_⟩
  obtain ⟨p, hp, e⟩ := List.mem_iff_getElem.mp hr
  have hp' : p < n := by rw [placed_len, ho.len] at hp; exact hp
  have : rw' (placed T o) p = r := by rw [← e]; exact mem_row hp
  rw [← this, placed_row ho hp']
  exact hT.row (ho.idx_lt hp')
theorem placed_perm (hT : WF n w T) (ho : IsOrd n o) : (placed T o).Perm T := by
  have e : T = o.map fun p => rw' T (o.idxOf p) := by
    apply List.ext_getElem (by rw [List.length_map, hT.1, ho.len])
    intro k h1 h2
    rw [List.getElem_map, ho.idx_at, mem_row h1]
  unfold placed
  rw [ho.len]
  conv => rhs; rw [e]
  exact (List.Perm.map _ ho).symm
theorem placed_crowd (ht : WF n w t) (ho : IsOrd n o) : crowd (placed (tower t) o) = tower t := by
  rw [crowd_congr (placed_perm (tower_wf ht) ho), crowd_tower ht]

/-! ### two people change places -/
theorem sw_sw (a b x : Nat) : sw a b (sw a b x) = x := by unfold sw; grind
theorem sw_inj {a b x y : Nat} (h : sw a b x = sw a b y) : x = y := by rw [← sw_sw a b x, h, sw_sw]
theorem sw_lt {a b x : Nat} (ha : a < n) (hb : b < n) (hx : x < n) : sw a b x < n := by unfold sw; grind
theorem nodup_map {α β : Type} {f : α → β} (hf : ∀ x y, f x = f y → x = y) : ∀ {l : List α}, l.Nodup → (l.map f).Nodup
  | [], _ => by simp
  | x :: l, h => by
    rw [List.nodup_cons] at h
    rw [List.map_cons, List.nodup_cons]
    refine ⟨fun q => ?_, nodup_map hf h.2⟩
    obtain ⟨y, hy, e⟩ := List.mem_map.mp q
    rw [hf _ _ e] at hy
    exact h.1 hy
theorem IsOrd.swap (h : IsOrd n o) {a b : Nat} (ha : a < n) (hb : b < n) : IsOrd n (o.map (sw a b)) := by
  refine (List.perm_ext_iff_of_nodup (nodup_map (fun _ _ => sw_inj) h.nodup) List.nodup_range).mpr fun x => ?_
  rw [List.mem_map, List.mem_range]
  constructor
  · rintro ⟨y, hy, rfl⟩
    exact sw_lt ha hb (h.mem.mp hy)
  · intro hx
    exact ⟨sw a b x, h.mem.mpr (sw_lt ha hb hx), sw_sw a b x⟩
theorem idx_map {f : Nat → Nat} (hf : ∀ x y, f x = f y → x = y) (x : Nat) : ∀ l : List Nat, (l.map f).idxOf (f x) = l.idxOf x
  | [] => rfl
  | y :: l => by
    rw [List.map_cons, List.idxOf_cons, List.idxOf_cons, idx_map hf x l]
    by_cases e : y = x
    · subst e; rw [beq_self_eq_true, beq_self_eq_true]
    · have : ¬ f y = f x := fun q => e (hf _ _ q)
      rw [beq_eq_false_iff_ne.mpr e, beq_eq_false_iff_ne.mpr this]
theorem placed_swap (ho : IsOrd n o) {a b : Nat} (ha : a < n) (hb : b < n) {p : Nat} (hp : p < n) : rw' (placed T (o.map (sw a b))) p = rw' (placed T o) (sw a b p) := by
  rw [placed_row (ho.swap ha hb) hp, placed_row ho (sw_lt ha hb hp)]
  have := idx_map (f := sw a b) (fun _ _ => sw_inj) (sw a b p) o
  rw [sw_sw] at this
  rw [this]
/-- two people whose rows are over one another change them by one lay -/
theorem exch_lay (ht : WF n w t) (hu : WF n w u) {a b : Nat} (ha : a < n) (hb : b < n) (hab : a ≠ b) (ho : isOver (rw' t a) (rw' t b) = true) (h : ∀ p, p < n → rw' u p = rw' t (sw a b p)) : LayR n t u := by
  refine ⟨b, a, hb, ha, fun e => hab e.symm, ?_⟩
  obtain ⟨e1, e2⟩ := join_eq_l (ht.row ha) (ht.row hb) ho
  refine tab_ext hu (laid_wf ht hb ha) fun p hp => ?_
  rw [h p hp, laid_row ht b a p hp, join_comm (ht.row hb) (ht.row ha), meet_comm (ht.row hb) (ht.row ha), e1, e2]
  unfold sw
  by_cases q1 : p = a
  · rw [if_pos q1, if_neg (fun e => hab (q1.symm.trans e)), if_pos q1]
  · by_cases q2 : p = b
    · rw [if_neg q1, if_pos q2, if_pos q2]
    · rw [if_neg q1, if_neg q2, if_neg q2, if_neg q1]
theorem sw_comm (a b x : Nat) : sw a b x = sw b a x := by unfold sw; grind
theorem swap_lay (ht : WF n w t) (ho : IsOrd n o) {a b : Nat} (ha : a < n) (hb : b < n) (hab : a ≠ b) : LayR n (placed (tower t) o) (placed (tower t) (o.map (sw a b))) := by
  have hw := placed_wf (tower_wf ht) ho
  have hw' := placed_wf (tower_wf ht) (ho.swap ha hb)
  rcases Nat.le_total (o.idxOf a) (o.idxOf b) with q | q
  · refine exch_lay hw hw' ha hb hab ?_ fun p hp => placed_swap ho ha hb hp
    rw [placed_row ho ha, placed_row ho hb]
    exact tower_chain ht q (ho.idx_lt hb)
  · refine exch_lay hw hw' hb ha (fun e => hab e.symm) ?_ fun p hp => by rw [placed_swap ho ha hb hp, sw_comm]
    rw [placed_row ho ha, placed_row ho hb]
    exact tower_chain ht q (ho.idx_lt ha)
theorem one_left (ho : IsOrd n o) (ho' : IsOrd n o') {k : Nat} (hk : k + 1 = n) (h : o.take k = o'.take k) : o = o' := by
  have l1 := ho.len
  have l2 := ho'.len
  obtain ⟨x, hx⟩ : ∃ x, o.drop k = [x] := by
    have : (o.drop k).length = 1 := by rw [List.length_drop]; omega
    exact List.length_eq_one_iff.mp this
  obtain ⟨y, hy⟩ : ∃ y, o'.drop k = [y] := by
    have : (o'.drop k).length = 1 := by rw [List.length_drop]; omega
    exact List.length_eq_one_iff.mp this
  have e1 : o = o.take k ++ [x] := by rw [← hx, List.take_append_drop]
  have e2 : o' = o.take k ++ [y] := by rw [h, ← hy, List.take_append_drop]
  have p : o.Perm o' := List.Perm.trans ho (List.Perm.symm ho')
  rw [e1, e2, List.perm_append_left_iff] at p
  have := List.singleton_perm.mp p
  rw [e1, e2, this]
theorem orders_near (ht : WF n w t) : ∀ (m k : Nat) (o o' : List Nat), k + m + 1 = n → IsOrd n o → IsOrd n o' → o.take k = o'.take k → ∃ j, j ≤ m ∧ Path (LayR n) j (placed (tower t) o) (placed (tower t) o')
  | 0, k, o, o', hk, ho, ho', h => by
    rw [one_left ho ho' (by omega) h]
    exact ⟨0, Nat.le_refl _, .nil _⟩
  | m + 1, k, o, o', hk, ho, ho', h => by
    have k1 : k < o.length := by rw [ho.len]; omega
    have k2 : k < o'.length := by rw [ho'.len]; omega
    by_cases e : o[k] = o'[k]
    · obtain ⟨j, h1, h2⟩ := orders_near ht m (k + 1) o o' (by omega) ho ho' (by
        rw [List.take_add_one, List.take_add_one, h, List.getElem?_eq_getElem k1, List.getElem?_eq_getElem k2, e])
      exact ⟨j, by omega, h2⟩
    · have ha : o[k] < n := ho.mem.mp (List.getElem_mem k1)
      have hb : o'[k] < n := ho'.mem.mp (List.getElem_mem k2)
      have ho1 := ho.swap ha hb
      obtain ⟨j, h1, h2⟩ := orders_near ht m (k + 1) (o.map (sw o[k] o'[k])) o' (by omega) ho1 ho' (by
        rw [List.take_add_one, List.take_add_one, ← List.map_take, List.getElem?_map, List.getElem?_eq_getElem k1, List.getElem?_eq_getElem k2]
        have e2 : sw o[k] o'[k] o[k] = o'[k] := by simp [sw]
        simp only [Option.map_some, e2, Option.toList_some]
        congr 1
        rw [h]
        conv => rhs; rw [← List.map_id (o'.take k)]
        refine List.map_congr_left fun x hx => ?_
        have n1 : x ≠ o[k] := fun q => by
          rw [← h] at hx
          obtain ⟨i, hi, ei⟩ := List.mem_iff_getElem.mp hx
          rw [List.length_take] at hi
          rw [List.getElem_take] at ei
          have := (List.getElem_inj ho.nodup).mp (ei.trans q)
          omega
        have n2 : x ≠ o'[k] := fun q => by
          obtain ⟨i, hi, ei⟩ := List.mem_iff_getElem.mp hx
          rw [List.length_take] at hi
          rw [List.getElem_take] at ei
          have := (List.getElem_inj ho'.nodup).mp (ei.trans q)
          omega
        simp [sw, n1, n2])
      exact ⟨j + 1, by omega, .cons (swap_lay ht ho ha hb e) h2⟩
theorem cost_near {L cost : Nat} (ht : WF n w t) (hn : 0 < n) (ho : IsOrd n o) (ho' : IsOrd n o') (h : Path (LayR n) L t (placed (tower t) o)) (hc : Dist (LayR n) t (placed (tower t) o') cost) : cost ≤ L + (n - 1) := by
  obtain ⟨j, h1, h2⟩ := orders_near ht (n - 1) 0 o o' (by omega) ho ho' (by simp)
  have := hc.2 _ (h.trans h2)
  omega

/-! ### choosing the greatest heaps in turn -/
def cells (t : Tab) (g : Nat) (ps : List Nat) : List Int := ps.map fun r => hp (rw' t r) g
theorem phase : ∀ (qs : List Nat) {t : Tab} {p : Nat}, WF n w t → p < n → (p :: qs).Nodup → (∀ q ∈ qs, q < n) →
    ∃ u, Path (LayR n) qs.length t u ∧ WF n w u ∧ (∀ r, r < n → r ∉ p :: qs → rw' u r = rw' t r) ∧ isOver (rw' u p) (rw' t p) = true ∧ (∀ q ∈ qs, isOver (rw' u p) (rw' u q) = true) ∧ ∀ g, g < w → (cells u g (p :: qs)).Perm (cells t g (p :: qs))
  | [], t, p, ht, hp', _, _ => ⟨t, .nil _, ht, fun _ _ _ => rfl, isOver_refl (ht.row hp'), fun q hq => by simp at hq, fun _ _ => List.Perm.refl _⟩
  | q :: qs, t, p, ht, hp', hnd, hqs => by
    have hq : q < n := hqs q List.mem_cons_self
    have hpq : p ≠ q := fun e => by rw [List.nodup_cons] at hnd; exact hnd.1 (by rw [e]; exact List.mem_cons_self)
    have hqp : q ≠ p := fun e => hpq e.symm
    have hpqs : p ∉ qs := fun e => by rw [List.nodup_cons] at hnd; exact hnd.1 (List.mem_cons_of_mem _ e)
    have hqqs : q ∉ qs := fun e => by rw [List.nodup_cons, List.nodup_cons] at hnd; exact hnd.2.1 e
    have hnd' : (p :: qs).Nodup := by
      rw [List.nodup_cons, List.nodup_cons] at hnd
      rw [List.nodup_cons]
      exact ⟨hpqs, hnd.2.2⟩
    have h1 := laid_wf ht hp' hq
    obtain ⟨u, a1, a2, a3, a4, a5, a6⟩ := phase qs h1 hp' hnd' fun r hr => hqs r (List.mem_cons_of_mem _ hr)
    have ep : rw' (laid t p q) p = joinR (rw' t p) (rw' t q) := by rw [laid_row ht p q p hp']; simp
    have eq' : rw' (laid t p q) q = meetR (rw' t p) (rw' t q) := by rw [laid_row ht p q q hq, if_neg hqp, if_pos rfl]
    have eo : ∀ r, r < n → r ≠ p → r ≠ q → rw' (laid t p q) r = rw' t r := fun r hr n1 n2 => by rw [laid_row ht p q r hr]; simp [n1, n2]
    have uq : rw' u q = meetR (rw' t p) (rw' t q) := by rw [a3 q hq (by simp [hqqs, hqp]), eq']
    rw [ep] at a4
    have lp := ht.row hp'
    have lq := ht.row hq
    refine ⟨u, .cons ⟨p, q, hp', hq, hpq, rfl⟩ a1, a2, fun r hr hn => ?_, ?_, fun r hr => ?_, fun g hg => ?_⟩
    · simp only [List.mem_cons, not_or] at hn
      rw [a3 r hr (by simp [hn.1, hn.2.2]), eo r hr hn.1 hn.2.1]
    · exact isOver_trans (a2.row hp') (joinR_len lp lq) lp a4 (join_over_l lp lq)
    · rcases List.mem_cons.mp hr with e | e
      · rw [e, uq]
        exact isOver_trans (a2.row hp') (joinR_len lp lq) (meetR_len lp lq) a4 (join_over_meet lp lq)
      · exact a5 r e
    · have p1 : (cells u g (p :: q :: qs)).Perm (hp (rw' u q) g :: cells u g (p :: qs)) := List.Perm.swap _ _ _
      have e3 : cells (laid t p q) g qs = cells t g qs := by
        refine List.map_congr_left fun r hr => ?_
        rw [eo r (hqs r (List.mem_cons_of_mem _ hr)) (fun e => hpqs (e ▸ hr)) (fun e => hqqs (e ▸ hr))]
      have p2 : (cells (laid t p q) g (p :: qs)) = max (hp (rw' t p) g) (hp (rw' t q) g) :: cells t g qs := by
        show hp (rw' (laid t p q) p) g :: cells (laid t p q) g qs = _
        rw [e3, ep, joinR_hp lp lq hg]
      have a6' := a6 g hg
      rw [p2] at a6'
      refine p1.trans ((a6'.cons _).trans ?_)
      rw [uq, meetR_hp lp lq hg]
      show (_ :: _ :: cells t g qs).Perm (hp (rw' t p) g :: hp (rw' t q) g :: cells t g qs)
      rcases Int.le_total (hp (rw' t p) g) (hp (rw' t q) g) with h | h
      · rw [Int.max_eq_right h, Int.min_eq_left h]
      · rw [Int.max_eq_left h, Int.min_eq_right h]; exact List.Perm.swap _ _ _
theorem select : ∀ (ps : List Nat) {t : Tab}, WF n w t → ps.Nodup → (∀ q ∈ ps, q < n) →
    ∃ k u, 2 * k ≤ ps.length * (ps.length - 1) ∧ Path (LayR n) k t u ∧ WF n w u ∧ (∀ r, r < n → r ∉ ps → rw' u r = rw' t r) ∧ ps.Pairwise (fun a b => isOver (rw' u a) (rw' u b) = true) ∧ ∀ g, g < w → (cells u g ps).Perm (cells t g ps)
  | [], t, ht, _, _ => ⟨0, t, by simp, .nil _, ht, fun _ _ _ => rfl, List.Pairwise.nil, fun _ _ => List.Perm.refl _⟩
  | p :: qs, t, ht, hnd, hps => by
    have hp' : p < n := hps p List.mem_cons_self
    have hqs : ∀ q ∈ qs, q < n := fun q hq => hps q (List.mem_cons_of_mem _ hq)
    obtain ⟨v, b1, b2, b3, b4, b5, b6⟩ := phase qs ht hp' hnd hqs
    rw [List.nodup_cons] at hnd
    obtain ⟨k, u, c1, c2, c3, c4, c5, c6⟩ := select qs b2 hnd.2 hqs
    have ep : rw' u p = rw' v p := c4 p hp' hnd.1
    refine ⟨qs.length + k, u, ?_, b1.trans c2, c3, fun r hr hn => ?_, ?_, fun g hg => ?_⟩
    · rw [List.length_cons, Nat.add_sub_cancel]
      cases hq : qs.length with
      | zero => rw [hq] at c1; omega
      | succ m =>
        rw [hq] at c1
        simp only [Nat.add_sub_cancel] at c1
        have : (m + 1 + 1) * (m + 1) = (m + 1) * m + 2 * (m + 1) := by rw [Nat.add_mul (m + 1) 1 (m + 1), Nat.mul_add (m + 1) m 1]; omega
        omega
    · simp only [List.mem_cons, not_or] at hn
      rw [c4 r hr hn.2, b3 r hr (by simp [hn.1, hn.2])]
    · rw [List.pairwise_cons]
      refine ⟨fun q hq => ?_, c5⟩
      rw [isOver_iff (c3.row hp') (c3.row (hqs q hq)), ep]
      intro g hg
      have hm : hp (rw' u q) g ∈ cells v g qs := (c6 g hg).mem_iff.mp (List.mem_map.mpr ⟨q, hq, rfl⟩)
      obtain ⟨r, hr, e⟩ := List.mem_map.mp hm
      rw [← e]
      exact (isOver_iff (b2.row hp') (b2.row (hqs r hr))).mp (b5 r hr) g hg
    · have e1 : cells u g (p :: qs) = hp (rw' v p) g :: cells u g qs := by
        show hp (rw' u p) g :: cells u g qs = _
        rw [ep]
      rw [e1]
      exact ((c6 g hg).cons _).trans (b6 g hg)
theorem cells_range (ht : WF n w t) (g : Nat) : cells t g (List.range n) = col t g := by
  apply List.ext_getElem (by simp [cells, col, ht.1])
  intro k h1 h2
  have hk : k < t.length := by rw [col_len] at h2; exact h2
  have e := col_get t hk g
  rw [List.getElem?_eq_getElem h2] at e
  rw [Option.some.inj e]
  simp [cells]
/-- every order is met, by few lays -/
theorem reach_order (ht : WF n w t) (ho : IsOrd n o) : ∃ k, 2 * k ≤ n * (n - 1) ∧ Path (LayR n) k t (placed (tower t) o) := by
  obtain ⟨k, u, c1, c2, c3, _, c5, c6⟩ := select o ht ho.nodup fun q hq => ho.mem.mp hq
  rw [ho.len] at c1
  have e : u = placed (tower t) o := by
    refine cell_ext c3 (placed_wf (tower_wf ht) ho) fun p g hp' hg => ?_
    rw [placed_row ho hp', tower_cell ht (ho.idx_lt hp') hg]
    have hs : cells u g o = sortD (col t g) := by
      refine sortD_unique ?_ ?_
      · refine (c6 g hg).trans ?_
        rw [← cells_range ht g]
        exact List.Perm.map _ ho
      · unfold cells
        rw [List.pairwise_map]
        refine List.Pairwise.imp_of_mem (fun {a b} ha hb h => ?_) c5
        exact (isOver_iff (c3.row (ho.mem.mp ha)) (c3.row (ho.mem.mp hb))).mp h g hg
    have hi : o.idxOf p < o.length := by rw [ho.len]; exact ho.idx_lt hp'
    rw [← hs]
    simp only [cells, List.getD_eq_getElem?_getD, List.getElem?_map, List.getElem?_eq_getElem hi, Option.map_some, Option.getD_some]
    rw [List.getElem_idxOf hi]
  exact ⟨k, c1, e ▸ c2⟩
theorem cost_most {cost : Nat} (ht : WF n w t) (ho : IsOrd n o) (hc : Dist (LayR n) t (placed (tower t) o) cost) : 2 * cost ≤ n * (n - 1) := by
  obtain ⟨k, h1, h2⟩ := reach_order ht ho
  have := hc.2 _ h2
  omega
/-- an order of which two people change places -/
theorem cost_swap {cost cost' : Nat} (ht : WF n w t) (ho : IsOrd n o) {a b : Nat} (ha : a < n) (hb : b < n) (hab : a ≠ b) (hc : Dist (LayR n) t (placed (tower t) o) cost) (hc' : Dist (LayR n) t (placed (tower t) (o.map (sw a b))) cost') :
    cost' ≤ cost + 1 ∧ cost ≤ cost' + 1 := by
  refine ⟨hc'.2 _ (hc.1.snoc (swap_lay ht ho ha hb hab)), hc.2 _ (hc'.1.snoc ?_)⟩
  have h := swap_lay ht (ho.swap ha hb) ha hb hab
  have e : (o.map (sw a b)).map (sw a b) = o := by
    rw [List.map_map]
    conv => rhs; rw [← List.map_id o]
    exact List.map_congr_left fun x _ => sw_sw a b x
  rwa [e] at h
end
end Lt
set_option linter.all false
/-! helpers, and pairs at odds made fewer -/
namespace Lt
def allLots : Nat → List (List Nat)
  | 0 => [[]]
  | n + 1 => allLots n ++ (allLots n).map fun lot => lot ++ [n]
def maxL : List Int → Int
  | [] => 0
  | x :: xs => xs.foldl max x
def bestRow (t : Tab) (lot : List Nat) : Row := (List.range (rw' t 0).length).map fun g => maxL (lot.map fun p => hp (rw' t p) g)

theorem bestRow_len (t : Tab) (lot : List Nat) : (bestRow t lot).length = (rw' t 0).length := by
  unfold bestRow; rw [List.length_map, List.length_range]
theorem bestRow_hp {t : Tab} {lot : List Nat} {g : Nat} (hg : g < (rw' t 0).length) : hp (bestRow t lot) g = maxL (lot.map fun p => hp (rw' t p) g) := by
  unfold bestRow
  show List.getD _ g 0 = _
  rw [List.getD_eq_getElem?_getD, List.getElem?_map, List.getElem?_range hg]
  rfl
theorem foldl_max : ∀ (xs : List Int) (x : Int), (xs.foldl max x = x ∨ xs.foldl max x ∈ xs) ∧ x ≤ xs.foldl max x ∧ ∀ y ∈ xs, y ≤ xs.foldl max x
  | [], x => by simp
  | a :: xs, x => by
    obtain ⟨h1, h2, h3⟩ := foldl_max xs (max x a)
    simp only [List.foldl_cons, List.mem_cons]
    refine ⟨?_, by omega, ?_⟩
    · rcases h1 with h | h
      · rw [h]; rcases Int.le_total x a with q | q
        · exact .inr (.inl (Int.max_eq_right q))
        · exact .inl (Int.max_eq_left q)
      · exact .inr (.inr h)
    · rintro y (rfl | hy)
      · omega
      · exact h3 y hy
theorem maxL_mem {l : List Int} (h : l ≠ []) : maxL l ∈ l := by
  cases l with
  | nil => exact absurd rfl h
  | cons x xs =>
    rcases (foldl_max xs x).1 with q | q
    · show xs.foldl max x ∈ x :: xs
      rw [q]; exact List.mem_cons_self
    · exact List.mem_cons_of_mem _ q
theorem maxL_le {l : List Int} {y : Int} (h : y ∈ l) : y ≤ maxL l := by
  cases l with
  | nil => simp at h
  | cons x xs =>
    rcases List.mem_cons.mp h with e | e
    · rw [e]; exact (foldl_max xs x).2.1
    · exact (foldl_max xs x).2.2 y e
theorem maxL_unique {l : List Int} {m : Int} (h : m ∈ l) (hle : ∀ y ∈ l, y ≤ m) : m = maxL l := by
  have h1 := maxL_le h
  have h2 := hle _ (maxL_mem (List.ne_nil_of_mem h))
  omega
theorem filter_lot (P : Nat → Bool) : ∀ n, (List.range n).filter P ∈ allLots n
  | 0 => by simp [allLots]
  | n + 1 => by
    have ih := filter_lot P n
    rw [List.range_succ, List.filter_append]
    unfold allLots
    rw [List.mem_append]
    cases h : P n with
    | false =>
      left
      rw [List.filter_cons_of_neg (by simp [h]), List.filter_nil, List.append_nil]
      exact ih
    | true =>
      right
      rw [List.filter_cons_of_pos h, List.filter_nil]
      exact List.mem_map.mpr ⟨_, ih, rfl⟩
theorem lot_lt : ∀ (n : Nat) {lot : List Nat}, lot ∈ allLots n → ∀ q ∈ lot, q < n
  | 0, lot, h, q, hq => by simp [allLots] at h; subst h; simp at hq
  | n + 1, lot, h, q, hq => by
    unfold allLots at h
    rcases List.mem_append.mp h with h | h
    · have := lot_lt n h q hq; omega
    · obtain ⟨l, hl, rfl⟩ := List.mem_map.mp h
      rcases List.mem_append.mp hq with hq | hq
      · have := lot_lt n hl q hq; omega
      · simp at hq; omega
section
variable {n w : Nat} {t u c d : Tab}
/-- behind k lays a person's heaps are those of at most k others or less -/
theorem lays_help {k p : Nat} (hp' : p < n) (h : Path (LayR n) k t u) : WF n w t → ∃ S : List Nat, S.length ≤ k ∧ (∀ q ∈ S, q < n) ∧ ∀ g, g < w → ∃ q, q ∈ p :: S ∧ hp (rw' u p) g ≤ hp (rw' t q) g := by
  induction h with
  | nil a => exact fun _ => ⟨[], Nat.le_refl _, fun q hq => by simp at hq, fun g _ => ⟨p, List.mem_cons_self, Int.le_refl _⟩⟩
  | @cons a b c k r _ ih =>
    intro ha
    obtain ⟨i, j, hi, hj, hij, rfl⟩ := r
    obtain ⟨S, h1, h2, h3⟩ := ih (laid_wf ha hi hj)
    refine ⟨j :: S, by simp; omega, fun q hq => ?_, fun g hg => ?_⟩
    · rcases List.mem_cons.mp hq with e | e
      · rw [e]; exact hj
      · exact h2 q e
    · obtain ⟨q, hq, hle⟩ := h3 g hg
      have hqn : q < n := by
        rcases List.mem_cons.mp hq with e | e
        · rw [e]; exact hp'
        · exact h2 q e
      have up : ∀ x, x ∈ p :: S → x ∈ p :: j :: S := fun x hx => by
        rcases List.mem_cons.mp hx with e | e
        · rw [e]; exact List.mem_cons_self
        · exact List.mem_cons_of_mem _ (List.mem_cons_of_mem _ e)
      have inj : j ∈ p :: j :: S := List.mem_cons_of_mem _ List.mem_cons_self
      rw [laid_row ha i j q hqn] at hle
      by_cases e1 : q = i
      · rw [if_pos e1, joinR_hp (ha.row hi) (ha.row hj) hg] at hle
        rcases Int.le_total (hp (rw' a i) g) (hp (rw' a j) g) with z | z
        · exact ⟨j, inj, by omega⟩
        · exact ⟨q, up q hq, by rw [e1]; omega⟩
      · rw [if_neg e1] at hle
        by_cases e2 : q = j
        · rw [if_pos e2, meetR_hp (ha.row hi) (ha.row hj) hg] at hle
          exact ⟨j, inj, by omega⟩
        · rw [if_neg e2] at hle
          exact ⟨q, up q hq, hle⟩
theorem top_most (ht : WF n w t) {q g : Nat} (hq : q < n) (hg : g < w) : hp (rw' t q) g ≤ hp (rw' (tower t) 0) g := by
  have h0 : 0 < n := by omega
  rw [tower_cell ht h0 hg]
  have hm : hp (rw' t q) g ∈ sortD (col t g) := (sortD_perm _).mem_iff.mpr (List.mem_of_getElem? (col_get t (by rw [ht.1]; exact hq) g))
  obtain ⟨i, hi, e⟩ := List.mem_iff_getElem.mp hm
  rw [List.getD_eq_getElem?_getD, List.getElem?_eq_getElem (by omega), Option.getD_some]
  rcases Nat.eq_zero_or_pos i with z | z
  · subst z; rw [e]; exact Int.le_refl _
  · rw [← e]
    exact List.pairwise_iff_getElem.mp (sortD_sorted (col t g)) 0 i (by omega) hi z
def Valid (t : Tab) (p : Nat) (lot : List Nat) : Prop := p ∉ lot ∧ bestRow t (lot ++ [p]) = rw' (tower t) 0
theorem help_top {k p : Nat} (ht : WF n w t) (hp' : p < n) (h : Path (LayR n) k t u) (e : rw' u p = rw' (tower t) 0) : ∃ lot, lot ∈ allLots n ∧ Valid t p lot ∧ lot.length ≤ k := by
  obtain ⟨S, h1, h2, h3⟩ := lays_help hp' h ht
  refine ⟨(List.range n).filter fun q => decide (q ∈ S) && decide (q ≠ p), filter_lot _ n, ⟨by simp, ?_⟩, ?_⟩
  · have l0 : (rw' t 0).length = w := ht.row (by omega)
    have hT := (tower_wf ht).row (p := 0) (by omega)
    refine row_ext (w := w) (by rw [bestRow_len, l0]) hT fun g hg => ?_
    rw [bestRow_hp (by rw [l0]; exact hg)]
    refine (maxL_unique ?_ ?_).symm
    · obtain ⟨q, hq, hle⟩ := h3 g hg
      rw [e] at hle
      have hqn : q < n := by
        rcases List.mem_cons.mp hq with z | z
        · rw [z]; exact hp'
        · exact h2 q z
      have := top_most ht hqn hg
      have e2 : hp (rw' (tower t) 0) g = hp (rw' t q) g := by omega
      rw [e2]
      refine List.mem_map.mpr ⟨q, ?_, rfl⟩
      rw [List.mem_append]
      by_cases z : q = p
      · right; simp [z]
      · left
        rcases List.mem_cons.mp hq with z' | z'
        · exact absurd z' z
        · simp [hqn, z', z]
    · intro y hy
      obtain ⟨q, hq, rfl⟩ := List.mem_map.mp hy
      refine top_most ht ?_ hg
      rcases List.mem_append.mp hq with z | z
      · simp at z; exact z.1
      · simp at z; rw [z]; exact hp'
  · refine Nat.le_trans ?_ h1
    refine List.Nodup.length_le_of_subset ((List.nodup_range).filter _) fun q hq => ?_
    simp at hq
    exact hq.2.1

/-! ### the same downwards -/
def negR (r : Row) : Row := r.map fun x => -x
def negT (t : Tab) : Tab := t.map negR
theorem negR_len (r : Row) : (negR r).length = r.length := by simp [negR]
theorem negR_hp (r : Row) (g : Nat) : hp (negR r) g = -hp r g := by
  simp only [hp, negR, List.getD_eq_getElem?_getD, List.getElem?_map]
  cases r[g]? <;> simp
theorem neg_wf (ht : WF n w t) : WF n w (negT t) := by
  refine ⟨by simp [negT, ht.1], fun r hr => ?_⟩
  obtain ⟨r', h, rfl⟩ := List.mem_map.mp hr
  rw [negR_len]; exact ht.2 r' h
theorem neg_row (t : Tab) (p : Nat) : rw' (negT t) p = negR (rw' t p) := by
  simp only [rw', negT, List.getD_eq_getElem?_getD, List.getElem?_map]
  cases t[p]? <;> simp [negR]
theorem neg_laid (ht : WF n w t) {i j : Nat} (hi : i < n) (hj : j < n) (hij : i ≠ j) : laid (negT t) j i = negT (laid t i j) := by
  refine cell_ext (laid_wf (neg_wf ht) hj hi) (neg_wf (laid_wf ht hi hj)) fun p g hp' hg => ?_
  rw [neg_row (laid t i j) p, negR_hp, laid_row (neg_wf ht) j i p hp', laid_row ht i j p hp', neg_row, neg_row, neg_row]
  have l1 : (negR (rw' t i)).length = w := by rw [negR_len]; exact ht.row hi
  have l2 : (negR (rw' t j)).length = w := by rw [negR_len]; exact ht.row hj
  by_cases e1 : p = i
  · rw [if_neg (fun e => hij (e1.symm.trans e)), if_pos e1, if_pos e1, meetR_hp l2 l1 hg, joinR_hp (ht.row hi) (ht.row hj) hg, negR_hp, negR_hp]
    omega
  · by_cases e2 : p = j
    · rw [if_pos e2, if_neg e1, if_pos e2, joinR_hp l2 l1 hg, meetR_hp (ht.row hi) (ht.row hj) hg, negR_hp, negR_hp]
      omega
    · rw [if_neg e2, if_neg e1, if_neg e1, if_neg e2, negR_hp]
theorem neg_path {k : Nat} (h : Path (LayR n) k t u) : WF n w t → Path (LayR n) k (negT t) (negT u) := by
  induction h with
  | nil a => exact fun _ => .nil _
  | cons r _ ih =>
    intro ha
    obtain ⟨i, j, hi, hj, hij, rfl⟩ := r
    exact .cons ⟨j, i, hj, hi, fun e => hij e.symm, (neg_laid ha hi hj hij).symm⟩ (ih (laid_wf ha hi hj))
theorem neg_top (ht : WF n w t) (h0 : 0 < n) : rw' (tower (negT t)) 0 = negR (rw' (tower t) (n - 1)) := by
  refine row_ext (w := w) ((tower_wf (neg_wf ht)).row h0) (by rw [negR_len]; exact (tower_wf ht).row (by omega)) fun g hg => ?_
  rw [negR_hp, tower_cell (neg_wf ht) h0 hg, tower_cell ht (by omega) hg]
  have e1 : col (negT t) g = (col t g).map fun x => -x := by
    simp only [col, negT, List.map_map]
    exact List.map_congr_left fun r _ => negR_hp r g
  have e2 : sortD (col (negT t) g) = ((sortD (col t g)).map fun x => -x).reverse := by
    symm
    refine sortD_unique ?_ ?_
    · rw [e1]; exact (List.reverse_perm _).trans ((sortD_perm _).map _)
    · rw [List.pairwise_reverse, List.pairwise_map]
      exact (sortD_sorted (col t g)).imp fun {a b} h => by omega
  have hl : (sortD (col t g)).length = n := by rw [sortD_len, col_len, ht.1]
  rw [e2, List.getD_eq_getElem?_getD, List.getD_eq_getElem?_getD, List.getElem?_reverse (by simp [hl, h0]), List.getElem?_map, List.length_map, hl, Nat.sub_zero,
    List.getElem?_eq_getElem (show n - 1 < (sortD (col t g)).length by omega)]
  simp
theorem help_bottom {k p : Nat} (ht : WF n w t) (hp' : p < n) (h : Path (LayR n) k t u) (e : rw' u p = rw' (tower t) (n - 1)) : ∃ lot, lot ∈ allLots n ∧ Valid (negT t) p lot ∧ lot.length ≤ k := by
  refine help_top (neg_wf ht) hp' (neg_path h ht) ?_
  rw [neg_row, e, neg_top ht (by omega)]

/-! ### deeds make the pairs at odds fewer -/
def cnt : Tab → Nat
  | [] => 0
  | x :: xs => xs.countP (atOdds x) + cnt xs
theorem cnt_perm {t u : Tab} (p : t.Perm u) : cnt t = cnt u := by
  induction p with
  | nil => rfl
  | cons x p ih => show List.countP _ _ + cnt _ = List.countP _ _ + cnt _; rw [p.countP_eq, ih]
  | swap x y l =>
    show List.countP (atOdds y) (x :: l) + (List.countP (atOdds x) l + cnt l) = List.countP (atOdds x) (y :: l) + (List.countP (atOdds y) l + cnt l)
    rw [List.countP_cons, List.countP_cons, atOdds_comm x y]
    omega
  | trans _ _ h1 h2 => rw [h1, h2]
theorem cnt_sum : ∀ t : Tab, cnt t = ((List.range t.length).map fun i => (t.drop (i + 1)).countP (atOdds (rw' t i))).sum
  | [] => by simp [cnt]
  | x :: xs => by
    have ih := cnt_sum xs
    rw [List.length_cons, List.range_succ_eq_map, List.map_cons, List.map_map, List.sum_cons]
    show xs.countP (atOdds x) + cnt xs = _
    rw [ih]
    rfl
theorem odds_len (t : Tab) : (oddsOf t).length = cnt t := by
  rw [cnt_sum, oddsOf, List.length_flatMap]
  congr 1
  refine List.map_congr_left fun i hi => ?_
  rw [List.mem_range] at hi
  rw [List.length_map, ← List.countP_eq_length_filter, List.countP_map]
  have e : t.drop (i + 1) = (List.range (t.length - (i + 1))).map fun k => rw' t (i + 1 + k) := by
    apply List.ext_getElem (by simp)
    intro k h1 h2
    simp only [List.length_drop] at h1
    rw [List.getElem_drop, List.getElem_map, List.getElem_range, mem_row (by omega)]
  rw [e, List.countP_map]
  rfl
def b2 (b : Bool) : Nat := if b = true then 1 else 0
theorem odds_step {x y z : Row} (lx : x.length = w) (ly : y.length = w) (lz : z.length = w) (ho : atOdds x y = true) :
    b2 (atOdds (joinR x y) z) + b2 (atOdds (meetR x y) z) ≤ b2 (atOdds x z) + b2 (atOdds y z) := by
  have lj := joinR_len lx ly
  have lm := meetR_len lx ly
  have jx := join_over_l lx ly
  have jy := join_over_r lx ly
  have mx := meet_under_l lx ly
  have my := meet_under_r lx ly
  have up : isOver x z = true ∨ isOver y z = true → atOdds (joinR x y) z = false := fun h => atOdds_false.mpr (.inl (h.elim (fun q => isOver_trans lj lx lz jx q) fun q => isOver_trans lj ly lz jy q))
  have dn : isOver z x = true ∨ isOver z y = true → atOdds (meetR x y) z = false := fun h => atOdds_false.mpr (.inr (h.elim (fun q => isOver_trans lz lx lm q mx) fun q => isOver_trans lz ly lm q my))
  have le1 : ∀ b, b2 b ≤ 1 := fun b => by cases b <;> simp [b2]
  have l1 := le1 (atOdds (joinR x y) z)
  have l2 := le1 (atOdds (meetR x y) z)
  have nxy : ¬ isOver x y = true := fun q => by unfold atOdds at ho; rw [q] at ho; simp at ho
  have nyx : ¬ isOver y x = true := fun q => by unfold atOdds at ho; rw [q] at ho; simp at ho
  have one : ∀ {a b : Row}, isOver a z = true ∨ isOver z a = true → (a = x ∨ a = y) → b2 (atOdds (joinR x y) z) + b2 (atOdds (meetR x y) z) ≤ 1 := by
    intro a b h ha
    rcases h with h | h
    · have : atOdds (joinR x y) z = false := up (ha.elim (fun e => .inl (e ▸ h)) fun e => .inr (e ▸ h))
      rw [this]; show 0 + _ ≤ 1; omega
    · have : atOdds (meetR x y) z = false := dn (ha.elim (fun e => .inl (e ▸ h)) fun e => .inr (e ▸ h))
      rw [this]; show _ + 0 ≤ 1; omega
  cases hx : atOdds x z with
  | true =>
    cases hy : atOdds y z with
    | true => show _ ≤ 1 + 1; omega
    | false => exact one (a := y) (b := y) (atOdds_false.mp hy) (.inr rfl)
  | false =>
    cases hy : atOdds y z with
    | true => exact one (a := x) (b := x) (atOdds_false.mp hx) (.inl rfl)
    | false =>
      have e1 : atOdds (joinR x y) z = false := by
        rcases atOdds_false.mp hx with q | q
        · exact up (.inl q)
        · rcases atOdds_false.mp hy with q' | q'
          · exact up (.inr q')
          · refine atOdds_false.mpr (.inr ?_)
            rw [isOver_iff lz lj]
            intro g hg
            rw [joinR_hp lx ly hg]
            have := (isOver_iff lz lx).mp q g hg
            have := (isOver_iff lz ly).mp q' g hg
            omega
      have e2 : atOdds (meetR x y) z = false := by
        rcases atOdds_false.mp hx with q | q
        · rcases atOdds_false.mp hy with q' | q'
          · refine atOdds_false.mpr (.inl ?_)
            rw [isOver_iff lm lz]
            intro g hg
            rw [meetR_hp lx ly hg]
            have := (isOver_iff lx lz).mp q g hg
            have := (isOver_iff ly lz).mp q' g hg
            omega
          · exact dn (.inr q')
        · exact dn (.inl q)
      rw [e1, e2]
      exact Nat.zero_le _
theorem countP_b2 (f : Row → Bool) (z : Row) (l : Tab) : (z :: l).countP f = b2 (f z) + l.countP f := by
  rw [List.countP_cons, Nat.add_comm]; rfl
theorem odds_rest {x y : Row} (lx : x.length = w) (ly : y.length = w) (ho : atOdds x y = true) : ∀ rest : Tab, (∀ z ∈ rest, z.length = w) → rest.countP (atOdds (joinR x y)) + rest.countP (atOdds (meetR x y)) ≤ rest.countP (atOdds x) + rest.countP (atOdds y)
  | [], _ => by simp
  | z :: rest, h => by
    have ih := odds_rest lx ly ho rest fun z hz => h z (List.mem_cons_of_mem _ hz)
    have := odds_step lx ly (h z List.mem_cons_self) ho
    simp only [countP_b2]
    omega
theorem deed_fewer (hc : WF n w c) (h : DeedR c d) : (oddsOf d).length < (oddsOf c).length := by
  obtain ⟨x, y, rest, p, ho, rfl⟩ := rows_of_deed hc h
  obtain ⟨lx, ly⟩ := rows_len hc p
  rw [odds_len, odds_len, cnt_perm (crowd_perm _), cnt_perm p]
  show List.countP (atOdds (joinR x y)) (meetR x y :: rest) + (List.countP (atOdds (meetR x y)) rest + cnt rest) < List.countP (atOdds x) (y :: rest) + (List.countP (atOdds y) rest + cnt rest)
  rw [countP_b2, countP_b2, ho]
  have e : atOdds (joinR x y) (meetR x y) = false := atOdds_false.mpr (.inl (join_over_meet lx ly))
  rw [e]
  have := odds_rest lx ly ho rest fun z hz => hc.2 z (p.mem_iff.mpr (List.mem_cons_of_mem _ (List.mem_cons_of_mem _ hz)))
  show 0 + _ + _ < 1 + _ + _
  omega
end
end Lt
set_option linter.all false
/-! spreading level by level; how many tables there are; orders by rows; what is moved -/
namespace Lt
section
variable {α : Type} [DecidableEq α] {R : α → α → Prop} {s : α}
def keys (f : List (α × Nat)) : List α := f.map Prod.fst
structure Lvl (R : α → α → Prop) (s : α) (d : Nat) (found : List (α × Nat)) (rim : List α) : Prop where
  nodup : (keys found).Nodup
  dist : ∀ x m, (x, m) ∈ found → Dist R s x m ∧ m ≤ d
  all : ∀ x k, k ≤ d → Path R k s x → x ∈ keys found
  rim : ∀ x, x ∈ rim ↔ (x, d) ∈ found
/-- found and later, by what is told in turn -/
def put (d : Nat) (acc : List (α × Nat) × List α) (x : α) : List (α × Nat) × List α :=
  if x ∈ keys acc.1 then acc else (acc.1 ++ [(x, d)], acc.2 ++ [x])
structure Puts (d : Nat) (found : List (α × Nat)) (L : List α) (acc : List (α × Nat) × List α) : Prop where
  eq : acc.1 = found ++ acc.2.map fun x => (x, d)
  nodup : (keys acc.1).Nodup
  mem : ∀ x ∈ acc.2, x ∈ L ∧ x ∉ keys found
  has : ∀ x ∈ L, x ∈ keys acc.1
theorem Puts.nil {d : Nat} {found : List (α × Nat)} (h : (keys found).Nodup) : Puts d found [] (found, []) := ⟨by simp, h, fun x hx => by simp at hx, fun x hx => by simp at hx⟩
theorem keys_app (f : List (α × Nat)) (d : Nat) (l : List α) : keys (f ++ l.map fun x => (x, d)) = keys f ++ l := by
  unfold keys
  rw [List.map_append, List.map_map]
  congr 1
  conv => rhs; rw [← List.map_id l]
  rfl
theorem Puts.snoc {d : Nat} {found : List (α × Nat)} {L : List α} {acc : List (α × Nat) × List α} (h : Puts d found L acc) (x : α) : Puts d found (L ++ [x]) (put d acc x) := by
  unfold put
  by_cases q : x ∈ keys acc.1
  · rw [if_pos q]
    refine ⟨h.eq, h.nodup, fun y hy => ⟨List.mem_append_left _ (h.mem y hy).1, (h.mem y hy).2⟩, fun y hy => ?_⟩
    rcases List.mem_append.mp hy with z | z
    · exact h.has y z
    · simp at z; rw [z]; exact q
  · rw [if_neg q]
    have ek : keys (acc.1 ++ [(x, d)]) = keys acc.1 ++ [x] := by simp [keys]
    refine ⟨?_, ?_, fun y hy => ?_, fun y hy => ?_⟩
    · show acc.1 ++ [(x, d)] = found ++ (acc.2 ++ [x]).map fun x => (x, d)
      rw [List.map_append, ← List.append_assoc, ← h.eq]
      rfl
    · show (keys (acc.1 ++ [(x, d)])).Nodup
      rw [ek, List.nodup_append]
      exact ⟨h.nodup, by simp, fun a ha b hb e => by simp at hb; rw [e, hb] at ha; exact q ha⟩
    · have hy : y ∈ acc.2 ++ [x] := hy
      rcases List.mem_append.mp hy with z | z
      · exact ⟨List.mem_append_left _ (h.mem y z).1, (h.mem y z).2⟩
      · simp at z
        rw [z]
        refine ⟨List.mem_append_right _ (by simp), fun hk => q ?_⟩
        rw [h.eq, keys_app]
        exact List.mem_append_left _ hk
    · show y ∈ keys (acc.1 ++ [(x, d)])
      rw [ek]
      rcases List.mem_append.mp hy with z | z
      · exact List.mem_append_left _ (h.has y z)
      · exact List.mem_append_right _ z
theorem Puts.fold {d : Nat} {found : List (α × Nat)} : ∀ (l : List α) {L : List α} {acc : List (α × Nat) × List α}, Puts d found L acc → Puts d found (L ++ l) (l.foldl (put d) acc)
  | [], L, acc, h => by rw [List.append_nil]; exact h
  | x :: l, L, acc, h => by
    have := Puts.fold l (h.snoc x)
    rw [List.append_assoc] at this
    exact this
theorem mem_keys {f : List (α × Nat)} {x : α} : x ∈ keys f ↔ ∃ m, (x, m) ∈ f := by
  unfold keys
  rw [List.mem_map]
  constructor
  · rintro ⟨⟨y, m⟩, h, rfl⟩; exact ⟨m, h⟩
  · rintro ⟨m, h⟩; exact ⟨(x, m), h, rfl⟩
theorem Lvl.start : Lvl R s 0 [(s, 0)] [s] where
  nodup := by simp [keys]
  dist := fun x m h => by
    simp at h
    obtain ⟨rfl, rfl⟩ := h
    exact ⟨⟨.nil _, fun _ _ => Nat.zero_le _⟩, Nat.le_refl _⟩
  all := fun x k hk h => by
    have : k = 0 := by omega
    subst this
    rw [h.zero]; simp [keys]
  rim := fun x => by simp
theorem Lvl.next {d : Nat} {found : List (α × Nat)} {rim : List α} {L : List α} {acc : List (α × Nat) × List α} (h : Lvl R s d found rim)
    (h1 : ∀ y ∈ L, ∃ x ∈ rim, R x y ∨ y = x) (h2 : ∀ x ∈ rim, ∀ y, R x y → y ∈ L) (P : Puts (d + 1) found L acc) : Lvl R s (d + 1) acc.1 acc.2 := by
  have old : ∀ {x m}, (x, m) ∈ found → (x, m) ∈ acc.1 := fun {x m} hx => by rw [P.eq]; exact List.mem_append_left _ hx
  have oldk : ∀ {x}, x ∈ keys found → x ∈ keys acc.1 := fun {x} hx => by rw [P.eq, keys_app]; exact List.mem_append_left _ hx
  refine ⟨P.nodup, fun x m hx => ?_, fun x k hk hp => ?_, fun x => ?_⟩
  · rw [P.eq] at hx
    rcases List.mem_append.mp hx with z | z
    · obtain ⟨a, b⟩ := h.dist x m z
      exact ⟨a, by omega⟩
    · obtain ⟨y, hy, e⟩ := List.mem_map.mp z
      obtain ⟨e1, e2⟩ := Prod.mk.inj e
      rw [← e1, ← e2]
      obtain ⟨a, b⟩ := P.mem y hy
      obtain ⟨z, hz, r⟩ := h1 y a
      have hzd := (h.rim z).mp hz
      have r : R z y := by
        rcases r with r | r
        · exact r
        · exact absurd (mem_keys.mpr ⟨d, r ▸ hzd⟩) b
      refine ⟨⟨(h.dist z d hzd).1.1.snoc r, fun k hk => ?_⟩, Nat.le_refl _⟩
      by_cases q : d + 1 ≤ k
      · exact q
      · exact absurd (h.all y k (by omega) hk) b
  · by_cases q : k ≤ d
    · exact oldk (h.all x k q hp)
    · have e : k = d + 1 := by omega
      subst e
      obtain ⟨b, hb, r⟩ := hp.last
      obtain ⟨m, hm⟩ := mem_keys.mp (h.all b d (Nat.le_refl _) hb)
      obtain ⟨hd, hmd⟩ := h.dist b m hm
      by_cases z : m = d
      · subst z
        exact P.has x (h2 b ((h.rim b).mpr hm) x r)
      · exact oldk (h.all x (m + 1) (by omega) (hd.1.snoc r))
  · rw [P.eq]
    constructor
    · intro hx
      exact List.mem_append_right _ (List.mem_map.mpr ⟨x, hx, rfl⟩)
    · intro hx
      rcases List.mem_append.mp hx with z | z
      · have := (h.dist x (d + 1) z).2
        omega
      · obtain ⟨y, hy, e⟩ := List.mem_map.mp z
        cases e
        exact hy
/-- all that is met, with its distance -/
structure Far (R : α → α → Prop) (s : α) (es : List (α × Nat)) : Prop where
  nodup : (keys es).Nodup
  dist : ∀ x m, (x, m) ∈ es → Dist R s x m
  all : ∀ x k, Path R k s x → ∃ m, (x, m) ∈ es
theorem Lvl.done {d : Nat} {found : List (α × Nat)} (h : Lvl R s d found []) : Far R s found := by
  refine ⟨h.nodup, fun x m hx => (h.dist x m hx).1, fun x k hk => ?_⟩
  have key : ∀ k x, Path R k s x → x ∈ keys found := by
    intro k
    induction k with
    | zero => intro x hx; exact h.all x 0 (Nat.zero_le _) hx
    | succ k ih =>
      intro x hx
      obtain ⟨b, hb, r⟩ := hx.last
      obtain ⟨m, hm⟩ := mem_keys.mp (ih b hb)
      obtain ⟨hd, hmd⟩ := h.dist b m hm
      have : m ≠ d := fun e => by
        have := (h.rim b).mpr (e ▸ hm)
        simp at this
      exact h.all x (m + 1) (by omega) (hd.1.snoc r)
  exact mem_keys.mp (key k x hk)
theorem Far.val {es : List (α × Nat)} (h : Far R s es) {x : α} {m : Nat} (hd : Dist R s x m) : (x, m) ∈ es := by
  obtain ⟨m', hm⟩ := h.all x m hd.1
  rw [hd.unique (h.dist x m' hm)]
  exact hm
theorem Puts.length {d : Nat} {found : List (α × Nat)} {L : List α} {acc : List (α × Nat) × List α} (P : Puts d found L acc) : acc.1.length = found.length + acc.2.length := by
  rw [P.eq]; simp
end

/-! ### how many tables have the same heaps -/
section
variable {β : Type}
def ins (a : β) : List β → List (List β)
  | [] => [[a]]
  | x :: l => (a :: x :: l) :: (ins a l).map fun m => x :: m
def perms : List β → List (List β)
  | [] => [[]]
  | a :: l => (perms l).flatMap (ins a)
theorem ins_len (a : β) : ∀ l : List β, (ins a l).length = l.length + 1
  | [] => rfl
  | x :: l => by simp [ins, ins_len a l]
theorem mem_ins (a : β) : ∀ (s t : List β), s ++ a :: t ∈ ins a (s ++ t)
  | [], [] => by simp [ins]
  | [], x :: t => by simp [ins]
  | x :: s, t => by
    simp only [List.cons_append, ins]
    exact List.mem_cons_of_mem _ (List.mem_map.mpr ⟨_, mem_ins a s t, rfl⟩)
theorem mem_perms : ∀ (l m : List β), m.Perm l → m ∈ perms l
  | [], m, p => by simp [perms, p.eq_nil]
  | a :: l, m, p => by
    obtain ⟨s, t, rfl⟩ := List.append_of_mem (p.mem_iff.mpr (List.mem_cons_self : a ∈ a :: l))
    have q : (s ++ t).Perm l := (List.perm_middle.symm.trans p).cons_inv
    exact List.mem_flatMap.mpr ⟨_, mem_perms l _ q, mem_ins a s t⟩
theorem perms_each : ∀ (l m : List β), m ∈ perms l → m.length = l.length
  | [], m, h => by simp [perms] at h; simp [h]
  | a :: l, m, h => by
    obtain ⟨k, hk, hm⟩ := List.mem_flatMap.mp h
    have e := perms_each l k hk
    have : ∀ (k m : List β), m ∈ ins a k → m.length = k.length + 1 := by
      intro k
      induction k with
      | nil => intro m hm; simp [ins] at hm; simp [hm]
      | cons x k ih =>
        intro m hm
        simp only [ins, List.mem_cons, List.mem_map] at hm
        rcases hm with rfl | ⟨m', h1, rfl⟩
        · rfl
        · simp [ih m' h1]
    rw [this k m hm, e]; rfl
def fac : Nat → Nat
  | 0 => 1
  | n + 1 => (n + 1) * fac n
theorem perms_len : ∀ l : List β, (perms l).length = fac l.length
  | [] => rfl
  | a :: l => by
    rw [perms, List.length_flatMap]
    have e : (perms l).map (fun k => (ins a k).length) = (perms l).map fun _ => l.length + 1 := List.map_congr_left fun k hk => by
      rw [ins_len, perms_each l k hk]
    rw [e]
    have : ∀ (q : List (List β)) (c : Nat), (q.map fun _ => c).sum = q.length * c := by
      intro q c
      induction q with
      | nil => simp
      | cons x q ih => simp [ih, Nat.add_mul, Nat.add_comm]
    rw [this, perms_len l, Nat.mul_comm]; rfl
def prodL : List (List β) → List (List β)
  | [] => [[]]
  | c :: cs => c.flatMap fun x => (prodL cs).map fun r => x :: r
theorem mem_prodL : ∀ (cs : List (List β)) (xs : List β), xs.length = cs.length → (∀ i (h1 : i < xs.length) (h2 : i < cs.length), xs[i] ∈ cs[i]) → xs ∈ prodL cs
  | [], xs, h, _ => by simp [prodL, List.length_eq_zero_iff.mp h]
  | c :: cs, [], h, _ => by simp at h
  | c :: cs, x :: xs, h, hm => by
    refine List.mem_flatMap.mpr ⟨x, hm 0 (by simp) (by simp), List.mem_map.mpr ⟨xs, mem_prodL cs xs (by simpa using h) fun i h1 h2 => ?_, rfl⟩⟩
    have := hm (i + 1) (by simp; omega) (by simp; omega)
    simpa using this
theorem prodL_len (m : Nat) : ∀ cs : List (List β), (∀ c ∈ cs, c.length = m) → (prodL cs).length = m ^ cs.length
  | [], _ => rfl
  | c :: cs, h => by
    rw [prodL, List.length_flatMap]
    have ih := prodL_len m cs fun x hx => h x (List.mem_cons_of_mem _ hx)
    have : ∀ (q : List β), (q.map fun x => ((prodL cs).map fun r => x :: r).length).sum = q.length * m ^ cs.length := by
      intro q
      induction q with
      | nil => simp
      | cons x q ihq =>
        rw [List.map_cons, List.sum_cons, ihq, List.length_map, ih, List.length_cons, Nat.add_mul, Nat.one_mul, Nat.add_comm]
    rw [this, h c List.mem_cons_self, List.length_cons, Nat.pow_succ, Nat.mul_comm]
end
section
variable {n w : Nat} {t u : Tab}
def colsOf (w : Nat) (t : Tab) : List (List Int) := (List.range w).map fun g => col t g
theorem cols_inj (ht : WF n w t) (hu : WF n w u) (h : colsOf w t = colsOf w u) : t = u := by
  refine cell_ext ht hu fun p g hp' hg => ?_
  have e : col t g = col u g := by
    have := congrArg (fun l => l[g]?) h
    simpa [colsOf, hg] using this
  have e1 := col_get t (p := p) (by rw [ht.1]; exact hp') g
  have e2 := col_get u (p := p) (by rw [hu.1]; exact hp') g
  rw [e] at e1
  exact Option.some.inj (e1.symm.trans e2)
theorem count_most (ht : WF n w t) {ks : List Tab} (hn : ks.Nodup) (h : ∀ u ∈ ks, Kin n w t u) : ks.length ≤ fac n ^ w := by
  have h1 : (ks.map (colsOf w)).Nodup := by
    have : ∀ l : List Tab, l.Nodup → (∀ u ∈ l, Kin n w t u) → (l.map (colsOf w)).Nodup := by
      intro l
      induction l with
      | nil => intro _ _; simp
      | cons x l ih =>
        intro hn hl
        rw [List.nodup_cons] at hn
        rw [List.map_cons, List.nodup_cons]
        refine ⟨fun q => ?_, ih hn.2 fun u hu => hl u (List.mem_cons_of_mem _ hu)⟩
        obtain ⟨y, hy, e⟩ := List.mem_map.mp q
        have := cols_inj (hl y (List.mem_cons_of_mem _ hy)).wf (hl x List.mem_cons_self).wf e
        rw [this] at hy
        exact hn.1 hy
    exact this ks hn h
  have h2 : ∀ c ∈ ks.map (colsOf w), c ∈ prodL ((List.range w).map fun g => perms (col t g)) := by
    intro c hc
    obtain ⟨u, hu, rfl⟩ := List.mem_map.mp hc
    refine mem_prodL _ _ (by simp [colsOf]) fun i h1 h2 => ?_
    have hi : i < w := by simpa [colsOf] using h1
    simp only [colsOf, List.getElem_map, List.getElem_range]
    exact mem_perms _ _ ((h u hu).col i hi)
  have h3 := List.Nodup.length_le_of_subset h1 h2
  rw [List.length_map] at h3
  refine Nat.le_trans h3 ?_
  rw [prodL_len (fac n)]
  · simp
  · intro c hc
    obtain ⟨g, _, rfl⟩ := List.mem_map.mp hc
    rw [perms_len, col_len, ht.1]
theorem fac_small (h : (n ≤ 4 ∧ w ≤ 2) ∨ (n ≤ 3 ∧ w ≤ 4)) : fac n ^ w ≤ 1296 := by
  have key : ∀ n, n < 5 → ∀ w, w < 5 → ((n ≤ 4 ∧ w ≤ 2) ∨ (n ≤ 3 ∧ w ≤ 4)) → fac n ^ w ≤ 1296 := by decide
  exact key n (by omega) w (by omega) h

/-! ### an order told by the rows -/
theorem order_of {o : List Nat} (ht : WF n w t) (ho : IsOrd n o) (h : o.Pairwise fun a b => rw' t b ≤ rw' t a) : t = placed (crowd t) o := by
  have e : o.map (fun p => rw' t p) = crowd t := by
    refine crowd_unique ?_ ?_
    · have p : (o.map fun p => rw' t p).Perm ((List.range n).map fun p => rw' t p) := List.Perm.map _ ho
      have q : ((List.range n).map fun p => rw' t p) = t := by
        apply List.ext_getElem (by simp [ht.1])
        intro k h1 h2
        rw [List.getElem_map, List.getElem_range, mem_row h2]
      rw [q] at p
      exact p
    · rw [List.pairwise_map]
      exact h
  refine tab_ext ht (placed_wf (crowd_wf ht) ho) fun p hp' => ?_
  have hi : o.idxOf p < o.length := by rw [ho.len]; exact ho.idx_lt hp'
  rw [placed_row ho hp', ← e]
  have : rw' (o.map fun p => rw' t p) (o.idxOf p) = rw' t p := by
    show List.getD _ _ [] = _
    rw [List.getD_eq_getElem?_getD, List.getElem?_map, List.getElem?_eq_getElem hi, List.getElem_idxOf hi]
    rfl
  rw [this]

/-! ### what is moved -/
def absI (x : Int) : Int := if x < 0 then -x else x
def diffs (t u : Tab) : List Int := (t.zip u).flatMap fun q => (q.1.zip q.2).map fun pr => absI (pr.1 - pr.2)
def moved (t u : Tab) : Int := (diffs t u).sum
def toOrder (t : Tab) (o : List Nat) : Int := moved t (placed (tower t) o) / 2
theorem absI_nn (x : Int) : 0 ≤ absI x := by unfold absI; split <;> omega
theorem absI_par (x : Int) : absI x % 2 = x % 2 := by unfold absI; split <;> omega
theorem sum_nn : ∀ l : List Int, (∀ x ∈ l, 0 ≤ x) → 0 ≤ l.sum ∧ (l.sum = 0 → ∀ x ∈ l, x = 0)
  | [], _ => by simp
  | x :: l, h => by
    obtain ⟨h1, h2⟩ := sum_nn l fun y hy => h y (List.mem_cons_of_mem _ hy)
    have hx := h x List.mem_cons_self
    rw [List.sum_cons]
    refine ⟨by omega, fun e y hy => ?_⟩
    rcases List.mem_cons.mp hy with z | z
    · rw [z]; omega
    · exact h2 (by omega) y z
theorem diffs_nn (t u : Tab) : ∀ x ∈ diffs t u, 0 ≤ x := by
  intro x hx
  obtain ⟨q, _, hq⟩ := List.mem_flatMap.mp hx
  obtain ⟨pr, _, rfl⟩ := List.mem_map.mp hq
  exact absI_nn _
theorem moved_nn (t u : Tab) : 0 ≤ moved t u := (sum_nn _ (diffs_nn t u)).1
theorem zip_self {β : Type} : ∀ l : List β, l.zip l = l.map fun x => (x, x)
  | [] => rfl
  | x :: l => by simp [zip_self l]
theorem sum_zero : ∀ l : List Int, (∀ x ∈ l, x = 0) → l.sum = 0
  | [], _ => rfl
  | x :: l, h => by rw [List.sum_cons, h x List.mem_cons_self, sum_zero l fun y hy => h y (List.mem_cons_of_mem _ hy)]; rfl
theorem zip_same {β : Type} {l : List β} {q : β × β} (h : q ∈ l.zip l) : q.1 = q.2 := by
  rw [zip_self] at h
  obtain ⟨x, _, rfl⟩ := List.mem_map.mp h
  rfl
theorem moved_self (t : Tab) : moved t t = 0 := by
  refine sum_zero _ fun x hx => ?_
  obtain ⟨q, hq, hx⟩ := List.mem_flatMap.mp hx
  obtain ⟨pr, hpr, rfl⟩ := List.mem_map.mp hx
  rw [← zip_same hq] at hpr
  rw [zip_same hpr, Int.sub_self]
  rfl
theorem moved_zero (ht : WF n w t) (hu : WF n w u) (h : moved t u = 0) : t = u := by
  have hz := (sum_nn _ (diffs_nn t u)).2 h
  refine cell_ext ht hu fun p g hp' hg => ?_
  have h1 : p < t.length := by rw [ht.1]; exact hp'
  have h2 : p < u.length := by rw [hu.1]; exact hp'
  have l1 := ht.row hp'
  have l2 := hu.row hp'
  have m1 : (rw' t p, rw' u p) ∈ t.zip u := List.mem_of_getElem? (i := p) (by rw [List.getElem?_zip_eq_some]; exact ⟨by rw [mem_row h1]; exact List.getElem?_eq_getElem h1, by rw [mem_row h2]; exact List.getElem?_eq_getElem h2⟩)
  have q1 : (rw' t p)[g]? = some (hp (rw' t p) g) := by
    have : g < (rw' t p).length := by omega
    rw [List.getElem?_eq_getElem this]
    show _ = some (List.getD _ g 0)
    rw [List.getD_eq_getElem?_getD, List.getElem?_eq_getElem this]; rfl
  have q2 : (rw' u p)[g]? = some (hp (rw' u p) g) := by
    have : g < (rw' u p).length := by omega
    rw [List.getElem?_eq_getElem this]
    show _ = some (List.getD _ g 0)
    rw [List.getD_eq_getElem?_getD, List.getElem?_eq_getElem this]; rfl
  have m2 : (hp (rw' t p) g, hp (rw' u p) g) ∈ (rw' t p).zip (rw' u p) := List.mem_of_getElem? (i := g) (by rw [List.getElem?_zip_eq_some]; exact ⟨q1, q2⟩)
  have := hz (absI (hp (rw' t p) g - hp (rw' u p) g)) (List.mem_flatMap.mpr ⟨_, m1, List.mem_map.mpr ⟨_, m2, rfl⟩⟩)
  unfold absI at this
  split at this <;> omega
/-- all heaps together -/
def total (t : Tab) : Int := (t.map fun r => r.sum).sum
theorem row_par : ∀ a b : Row, a.length = b.length → ((a.zip b).map fun pr => absI (pr.1 - pr.2)).sum % 2 = (a.sum - b.sum) % 2
  | [], [], _ => rfl
  | [], _ :: _, h => by simp at h
  | _ :: _, [], h => by simp at h
  | x :: a, y :: b, h => by
    have ih := row_par a b (by simpa using h)
    have := absI_par (x - y)
    simp only [List.zip_cons_cons, List.map_cons, List.sum_cons]
    omega
theorem moved_par : ∀ (t u : Tab), t.length = u.length → (∀ r ∈ t, r.length = w) → (∀ r ∈ u, r.length = w) → moved t u % 2 = (total t - total u) % 2
  | [], [], _, _, _ => rfl
  | [], _ :: _, h, _, _ => by simp at h
  | _ :: _, [], h, _, _ => by simp at h
  | a :: t, b :: u, h, h1, h2 => by
    have ih := moved_par t u (by simpa using h) (fun r hr => h1 r (List.mem_cons_of_mem _ hr)) fun r hr => h2 r (List.mem_cons_of_mem _ hr)
    have e := row_par a b (by rw [h1 a List.mem_cons_self, h2 b List.mem_cons_self])
    have e1 : moved (a :: t) (b :: u) = ((a.zip b).map fun pr => absI (pr.1 - pr.2)).sum + moved t u := by
      unfold moved diffs
      rw [List.zip_cons_cons, List.flatMap_cons, List.sum_append]
    have e2 : total (a :: t) = a.sum + total t := by simp [total]
    have e3 : total (b :: u) = b.sum + total u := by simp [total]
    omega
theorem row_sum : ∀ (w : Nat) (r : Row), r.length = w → r.sum = ((List.range w).map fun g => hp r g).sum := by
  intro w r h
  congr 1
  apply List.ext_getElem (by simp [h])
  intro i h1 h2
  simp [hp, h1]
theorem sum_add (f g : Nat → Int) : ∀ l : List Nat, (l.map fun i => f i + g i).sum = (l.map f).sum + (l.map g).sum
  | [] => rfl
  | x :: l => by simp only [List.map_cons, List.sum_cons, sum_add f g l]; omega
theorem total_cols : ∀ (t : Tab), (∀ r ∈ t, r.length = w) → total t = ((List.range w).map fun g => (col t g).sum).sum
  | [], _ => by
    have : ∀ l : List Nat, (l.map fun g => (col [] g).sum).sum = 0 := by
      intro l
      induction l with
      | nil => rfl
      | cons x l ih => rw [List.map_cons, List.sum_cons, ih]; rfl
    rw [this]; rfl
  | r :: t, h => by
    have ih := total_cols t fun r hr => h r (List.mem_cons_of_mem _ hr)
    have e1 : total (r :: t) = r.sum + total t := by simp [total]
    have e2 : ((List.range w).map fun g => (col (r :: t) g).sum) = (List.range w).map fun g => hp r g + (col t g).sum := List.map_congr_left fun g _ => by simp [col]
    rw [e1, e2, sum_add, ih, row_sum w r (h r List.mem_cons_self)]
theorem perm_sum {l m : List Int} (p : l.Perm m) : l.sum = m.sum := by
  induction p with
  | nil => rfl
  | cons x _ ih => simp [ih]
  | swap x y l => simp only [List.sum_cons]; omega
  | trans _ _ h1 h2 => rw [h1, h2]
theorem moved_even (ht : WF n w t) (h : Kin n w t u) : moved t u % 2 = 0 := by
  have e := moved_par (w := w) t u (by rw [ht.1, h.wf.1]) ht.2 h.wf.2
  have e1 : total u = total t := by
    rw [total_cols (w := w) t ht.2, total_cols (w := w) u h.wf.2]
    congr 1
    refine List.map_congr_left fun g hg => perm_sum (h.col g (List.mem_range.mp hg))
  rw [e, e1]; simp
theorem placed_kin {o : List Nat} (ht : WF n w t) (ho : IsOrd n o) : Kin n w t (placed (tower t) o) :=
  ⟨placed_wf (tower_wf ht) ho, fun g hg => (col_perm (placed_perm (tower_wf ht) ho) g).trans (by rw [tower_col ht hg]; exact sortD_perm _)⟩
theorem twice_order {o : List Nat} (ht : WF n w t) (ho : IsOrd n o) : 2 * toOrder t o = moved t (placed (tower t) o) := by
  have := moved_even ht (placed_kin ht ho)
  unfold toOrder
  omega
theorem order_nn (t : Tab) (o : List Nat) : 0 ≤ toOrder t o := by
  have := moved_nn t (placed (tower t) o)
  unfold toOrder
  omega
theorem order_zero {o : List Nat} (ht : WF n w t) (ho : IsOrd n o) (h : toOrder t o = 0) : Quiet n t := by
  have e := twice_order ht ho
  rw [h] at e
  have e2 := moved_zero ht (placed_wf (tower_wf ht) ho) (by omega)
  rw [e2]
  exact quiet_perm (tower_wf ht) (placed_perm (tower_wf ht) ho) (quiet_tower ht)
/-- a table without odds is its own tower in some order -/
theorem quiet_order {o : List Nat} (ht : WF n w t) (hq : Quiet n t) (ho : IsOrd n o) (h : o.Pairwise fun a b => rw' t b ≤ rw' t a) : toOrder t o = 0 := by
  have e := order_of ht ho h
  rw [crowd_of_quiet ht hq] at e
  unfold toOrder
  rw [← e, moved_self]; rfl
end
end Lt
set_option Elab.async false
set_option linter.all false
/-! the second pass over what deeds reach; the way back -/
namespace Lt
variable {n w : Nat} {s : Tab} {f : List (Tab × Nat)}
/-- an entry but the first has one before it -/
theorem Far.back (h : Far DeedR s f) {x : Tab} {d : Nat} (hx : (x, d + 1) ∈ f) : ∃ b, (b, d) ∈ f ∧ DeedR b x := by
  have hd := h.dist _ _ hx
  obtain ⟨b, p, r⟩ := Path.last hd.1
  obtain ⟨m, hm, hb⟩ := dist_of_path p
  have h1 := hd.2 (m + 1) (Path.snoc hb.1 r)
  have e : m = d := by omega
  subst e
  exact ⟨b, h.val hb, r⟩
theorem Far.uniq (h : Far DeedR s f) {x : Tab} {d d' : Nat} (h1 : (x, d) ∈ f) (h2 : (x, d') ∈ f) : d = d' := Dist.unique (h.dist _ _ h1) (h.dist _ _ h2)
def updF (m : Tab → Nat) (t : Tab) (v : Nat) : Tab → Nat := fun u => if u = t then v else m u
theorem updF_le {m : Tab → Nat} {t : Tab} {v : Nat} (h : m t ≤ v) (u : Tab) : m u ≤ updF m t v u := by
  unfold updF
  split
  · rename_i e
    rw [e]
    exact h
  · exact Nat.le_refl _
theorem updF_at (m : Tab → Nat) (t : Tab) (v : Nat) : updF m t v t = v := by simp [updF]
/-- the one told of people at odds comes later -/
structure Ordd (s : Tab) (f : List (Tab × Nat)) (so : List Tab) : Prop where
  perm : so.Perm (keys f)
  desc : so.Pairwise fun a b => (oddsOf b).length ≤ (oddsOf a).length
def MInv (f : List (Tab × Nat)) (so : List Tab) (i : Nat) (m : Tab → Nat) : Prop := ∀ p ∈ so.take i, ∀ x d, DeedR p x → (p, d) ∈ f → d + 1 ≤ m x
theorem MInv.mono {so : List Tab} {i : Nat} {m m' : Tab → Nat} (h : MInv f so i m) (hm : ∀ u, m u ≤ m' u) : MInv f so i m' := fun p hp x d r hf => Nat.le_trans (h p hp x d r hf) (hm x)
theorem MInv.here {so : List Tab} {i : Nat} {m : Tab → Nat} {here : Tab} {d : Nat} (h : MInv f so i m) (F : Far DeedR s f) (hw : ∀ x d, (x, d) ∈ f → WF n w x) (O : Ordd s f so) (e : so[i]? = some here) (hd : (here, d) ∈ f) : d ≤ m here := by
  cases d with
  | zero => exact Nat.zero_le _
  | succ d =>
    obtain ⟨b, hb, r⟩ := F.back hd
    have hlt := deed_fewer (hw _ _ hb) r
    refine h b ?_ here d r hb
    have hbs : b ∈ so := O.perm.mem_iff.mpr (mem_keys.mpr ⟨d, hb⟩)
    rw [← List.take_append_drop i so] at hbs
    rcases List.mem_append.mp hbs with z | z
    · exact z
    · exfalso
      have hi : i < so.length := (List.getElem?_eq_some_iff.mp e).1
      have ed : so.drop i = here :: so.drop (i + 1) := by
        rw [List.drop_eq_getElem_cons hi]
        rw [(List.getElem?_eq_some_iff.mp e).2]
      have pw := O.desc
      rw [← List.take_append_drop i so, List.pairwise_append] at pw
      rw [ed] at z pw
      rcases List.mem_cons.mp z with z | z
      · rw [z] at hlt
        omega
      · have := (List.pairwise_cons.mp pw.2.1).1 b z
        omega
theorem MInv.next {so : List Tab} {i : Nat} {m : Tab → Nat} {here : Tab} {d : Nat} (h : MInv f so i m) (F : Far DeedR s f) (e : so[i]? = some here) (hd : (here, d) ∈ f) (hn : ∀ x, DeedR here x → d + 1 ≤ m x) : MInv f so (i + 1) m := fun p hp x d' r hf => by
  rw [List.take_add_one, e] at hp
  rcases List.mem_append.mp hp with hp | hp
  · exact h p hp x d' r hf
  · have hp : p = here := by simpa using hp
    subst hp
    rw [F.uniq hf hd]
    exact hn x r
theorem MInv.done {so : List Tab} {m : Tab → Nat} (h : MInv f so so.length m) (F : Far DeedR s f) (O : Ordd s f so) : ∀ x d, (x, d) ∈ f → d ≤ m x := fun x d hx => by
  cases d with
  | zero => exact Nat.zero_le _
  | succ d =>
    obtain ⟨b, hb, r⟩ := F.back hx
    refine h b ?_ x d r hb
    rw [List.take_length]
    exact O.perm.mem_iff.mpr (mem_keys.mpr ⟨d, hb⟩)
end Lt
set_option Elab.async false
set_option linter.all false
set_option maxRecDepth 100000
set_option maxHeartbeats 2000000
/-! values as data over the abstract heap; what an expression, a test, a block is worth, told by the slots' data alone -/
namespace Lw
open PySem PySem.Spec PyProof.Rows L2
open LamX (ExtN Tabs TabS CodeO)

/-! ### heaps that grow -/
/-- all but the tables stays; the tables still tell what they are to tell -/
structure Nx (T : List (Addr × Str)) (H H' : Hp) : Prop where
  kp : ExtN H H'
  tb : Tabs T H'
section
variable {T : List (Addr × Str)} {K : PySem.W.Frag} {H H' H1 H2 : Hp} {p : Addr} {o : HO}
theorem Nx.refl (h : Tabs T H) : Nx T H H := ⟨ExtN.refl H, h⟩
theorem Nx.trans (a : Nx T H H1) (b : Nx T H1 H2) : Nx T H H2 := ⟨a.kp.trans b.kp, b.tb⟩
theorem free_back (e : ExtN H H') (nt : ∀ ps, H p ≠ some (.tbl ps)) (h : H' p = none) : H p = none := by
  cases q : H p with
  | none => rfl
  | some u =>
    rw [e p u q (fun ps z => nt ps (by rw [q, z]))] at h
    cases h
theorem new_ext (h : H p = none) : ∀ b u, H b = some u → upd H p o b = some u := fun b u e => by
  rw [upd_ne (ne_of_none e h)]
  exact e
theorem Nx.new (t : Tabs T H) (h : H p = none) : Nx T H (upd H p o) := ⟨ExtN.of (new_ext h), t.ext (new_ext h)⟩
/-- an object that the old heap doesn't know may change -/
theorem Nx.mut (e : Nx T H H1) (h : H p = none) (h1 : ∀ ps, H1 p ≠ some (.tbl ps)) (h2 : ∀ q, H1 p ≠ some (CodeO p q)) : Nx T H (upd H1 p o) := by
  refine ⟨fun b u eb n => ?_, fun t ht => ?_⟩
  · rw [upd_ne (ne_of_none eb h)]
    exact e.kp b u eb n
  · obtain ⟨ps, a1, a2, a3⟩ := e.tb t ht
    have nP : t.1 ≠ p := fun z => h1 ps (by rw [← z]; exact a1)
    refine ⟨ps, by rw [upd_ne nP]; exact a1, a2, fun pos cv hc => ?_⟩
    obtain ⟨c, e1, e2⟩ := a3 pos cv hc
    have nC : c ≠ p := fun z => h2 t.2 (by rw [← z]; exact e2)
    exact ⟨c, e1, by rw [upd_ne nC]; exact e2⟩
theorem Nx.mutL (e : Nx T H H1) (h : H p = none) {xs : List V} (hl : H1 p = some (.lst xs)) : Nx T H (upd H1 p o) :=
  e.mut h (fun ps z => by rw [hl] at z; cases z) (fun q z => by rw [hl] at z; cases z)

/-! ### data -/
theorem rd_mono (e : ExtN H H') {a : Addr} {u : HO} (nt : ∀ ps, u ≠ .tbl ps) (h : Rd H a u) : Rd H' a u := by
  rcases h with h | ⟨o, h⟩
  · exact .inl (e a _ h nt)
  · exact .inr ⟨o, e a _ h fun ps z => by cases z⟩
theorem sqL_mono (e : ExtN H H') {a : Addr} {xs : List V} (h : SqL K H a xs) : SqL K H' a xs := by
  rcases h with h | h
  · exact .inl (rd_mono e (fun ps z => by cases z) h)
  · exact .inr h
theorem sqT_mono (e : ExtN H H') {a : Addr} {xs : List V} (h : SqT K H a xs) : SqT K H' a xs := by
  rcases h with h | h
  · exact .inl (rd_mono e (fun ps z => by cases z) h)
  · exact .inr h
mutual
theorem dp_mono (e : ExtN H H') : ∀ (d : PyData) (v : V), Dp K H v d → Dp K H' v d
  | .none, _, h => by cases h; exact .non
  | .bool _, _, h => by cases h; exact .bl _
  | .int _, _, h => by cases h; exact .int _
  | .str _, _, h => by cases h; exact .str _
  | .list ds, _, h => by
    cases h with
    | lst h1 h2 => exact .lst (sqL_mono e h1) (dpAll_mono e ds _ h2)
  | .tuple ds, _, h => by
    cases h with
    | tup h1 h2 => exact .tup (sqT_mono e h1) (dpAll_mono e ds _ h2)
  | .dict _, _, h => by cases h
theorem dpAll_mono (e : ExtN H H') : ∀ (ds : List PyData) (vs : List V), DpAll K H vs ds → DpAll K H' vs ds
  | [], _, h => by cases h; exact .nil
  | d :: ds, _, h => by
    cases h with
    | cons h1 h2 => exact .cons (dp_mono e d _ h1) (dpAll_mono e ds _ h2)
end
theorem dpa_len : ∀ {vs : List V} {ds : List PyData}, DpAll K H vs ds → vs.length = ds.length
  | _, _, .nil => rfl
  | _, _, .cons _ t => by simp [dpa_len t]
theorem dpa_at : ∀ {vs : List V} {ds : List PyData} {i : Nat} {d : PyData}, DpAll K H vs ds → ds[i]? = some d → ∃ v, vs[i]? = some v ∧ Dp K H v d
  | _, _, _, _, .nil, e => by simp at e
  | _, _, 0, _, .cons r _, e => by simp at e; subst e; exact ⟨_, rfl, r⟩
  | _, _, i + 1, d, .cons _ t, e => by
    obtain ⟨v, h1, h2⟩ := dpa_at (i := i) (d := d) t (by simpa using e)
    exact ⟨v, by simpa using h1, h2⟩
theorem dpa_atV : ∀ {vs : List V} {ds : List PyData} {i : Nat} {v : V}, DpAll K H vs ds → vs[i]? = some v → ∃ d, ds[i]? = some d ∧ Dp K H v d
  | _, _, _, _, .nil, e => by simp at e
  | _, _, 0, _, .cons r _, e => by simp at e; subst e; exact ⟨_, rfl, r⟩
  | _, _, i + 1, v, .cons _ t, e => by
    obtain ⟨d, h1, h2⟩ := dpa_atV (i := i) (v := v) t (by simpa using e)
    exact ⟨d, by simpa using h1, h2⟩
theorem dpa_app : ∀ {vs ws : List V} {ds es : List PyData}, DpAll K H vs ds → DpAll K H ws es → DpAll K H (vs ++ ws) (ds ++ es)
  | _, _, _, _, .nil, h => h
  | _, _, _, _, .cons r t, h => .cons r (dpa_app t h)
theorem dpa_take : ∀ {vs : List V} {ds : List PyData} (n : Nat), DpAll K H vs ds → DpAll K H (vs.take n) (ds.take n)
  | _, _, 0, _ => .nil
  | _, _, _ + 1, .nil => .nil
  | _, _, n + 1, .cons r t => .cons r (dpa_take n t)
theorem dpa_drop : ∀ {vs : List V} {ds : List PyData} (n : Nat), DpAll K H vs ds → DpAll K H (vs.drop n) (ds.drop n)
  | _, _, 0, h => h
  | _, _, _ + 1, .nil => .nil
  | _, _, n + 1, .cons _ t => dpa_drop n t
theorem dpa_rev : ∀ {vs : List V} {ds : List PyData}, DpAll K H vs ds → DpAll K H vs.reverse ds.reverse
  | _, _, .nil => .nil
  | _, _, .cons r t => by
    rw [List.reverse_cons, List.reverse_cons]
    exact dpa_app (dpa_rev t) (.cons r .nil)
theorem dpa_ints : ∀ {vs : List V} {ns : List Int}, DpAll K H vs (ns.map PyData.int) → vs = ns.map V.int
  | _, [], .nil => rfl
  | _, n :: ns, .cons r t => by
    cases r
    rw [dpa_ints t]; rfl
theorem dpAll_ints (ns : List Int) : DpAll K H (ns.map V.int) (ns.map PyData.int) := by
  induction ns with
  | nil => exact .nil
  | cons n ns ih => exact .cons (.int n) ih
theorem dpa_bools : ∀ {vs : List V} {bs : List Bool}, DpAll K H vs (bs.map PyData.bool) → vs = bs.map V.bl
  | _, [], .nil => rfl
  | _, b :: bs, .cons r t => by
    cases r
    rw [dpa_bools t]; rfl
theorem dp_int {v : V} {i : Int} (h : Dp K H v (.int i)) : v = .int i := by cases h; rfl
theorem dp_bl {v : V} {b : Bool} (h : Dp K H v (.bool b)) : v = .bl b := by cases h; rfl
theorem dp_non {v : V} (h : Dp K H v .none) : v = .non := by cases h; rfl
theorem dp_tup {v : V} {ds : List PyData} (h : Dp K H v (.tuple ds)) : ∃ a vs, v = .ref a ∧ SqT K H a vs ∧ DpAll K H vs ds := by
  cases h with
  | tup h1 h2 => exact ⟨_, _, rfl, h1, h2⟩
theorem dp_lst {v : V} {ds : List PyData} (h : Dp K H v (.list ds)) : ∃ a vs, v = .ref a ∧ SqL K H a vs ∧ DpAll K H vs ds := by
  cases h with
  | lst h1 h2 => exact ⟨_, _, rfl, h1, h2⟩
theorem dp_newL {ds : List PyData} {vs : List V} (h : H p = some (.lst vs)) (hd : DpAll K H vs ds) : Dp K H (.ref p) (.list ds) := .lst (.inl (.inl h)) hd
theorem dp_newT {ds : List PyData} {vs : List V} (h : H p = some (.tup vs)) (hd : DpAll K H vs ds) : Dp K H (.ref p) (.tuple ds) := .tup (.inl (.inl h)) hd
end

/-! ### data without lists -/
mutual
def flat : PyData → Bool
  | .none => true
  | .bool _ => true
  | .int _ => true
  | .str _ => true
  | .list _ => false
  | .tuple ds => flatA ds
  | .dict _ => false
def flatA : List PyData → Bool
  | [] => true
  | d :: ds => flat d && flatA ds
end
section
variable {K : PySem.W.Frag} {H H' : Hp}
mutual
theorem dp_flat (e : ∀ b xs, SqT K H b xs → SqT K H' b xs) : ∀ (d : PyData) (v : V), flat d = true → Dp K H v d → Dp K H' v d
  | .none, _, _, h => by cases h; exact .non
  | .bool _, _, _, h => by cases h; exact .bl _
  | .int _, _, _, h => by cases h; exact .int _
  | .str _, _, _, h => by cases h; exact .str _
  | .list ds, _, f, h => by simp [flat] at f
  | .tuple ds, _, f, h => by
    cases h with
    | tup h1 h2 => exact .tup (e _ _ h1) (dpa_flat e ds _ (by simpa [flat] using f) h2)
  | .dict _, _, f, h => by simp [flat] at f
theorem dpa_flat (e : ∀ b xs, SqT K H b xs → SqT K H' b xs) : ∀ (ds : List PyData) (vs : List V), flatA ds = true → DpAll K H vs ds → DpAll K H' vs ds
  | [], _, _, h => by cases h; exact .nil
  | d :: ds, _, f, h => by
    cases h with
    | cons h1 h2 =>
      have f' : flat d = true ∧ flatA ds = true := by simpa [flatA] using f
      exact .cons (dp_flat e d _ f'.1 h1) (dpa_flat e ds _ f'.2 h2)
end
/-- an object that is no tuple changes: the tuples stay -/
theorem sqT_upd {p : Addr} {o u : HO} (h : H p = some u) (n1 : ∀ xs, u ≠ .tup xs) (n2 : ∀ ob w, u ≠ .frz ob w) : ∀ b xs, SqT K H b xs → SqT K (upd H p o) b xs := fun b xs hs => by
  rcases hs with (hs | ⟨ob, hs⟩) | hs
  · have : b ≠ p := fun z => by
      rw [z, h] at hs
      exact n1 xs (Option.some.inj hs)
    exact .inl (.inl (by rw [upd_ne this]; exact hs))
  · have : b ≠ p := fun z => by
      rw [z, h] at hs
      exact n2 _ _ (Option.some.inj hs)
    exact .inl (.inr ⟨ob, by rw [upd_ne this]; exact hs⟩)
  · exact .inr hs
theorem sqT_updL {p : Addr} {o : HO} {vs : List V} (h : H p = some (.lst vs)) : ∀ b xs, SqT K H b xs → SqT K (upd H p o) b xs := sqT_upd h (fun _ z => by cases z) fun _ _ z => by cases z
theorem flatA_all : ∀ {ds : List PyData}, flatA ds = true ↔ ∀ d ∈ ds, flat d = true
  | [] => by simp [flatA]
  | d :: ds => by simp [flatA, flatA_all (ds := ds)]
theorem flatA_map {α : Type} {f : α → PyData} {l : List α} (h : ∀ a ∈ l, flat (f a) = true) : flatA (l.map f) = true := flatA_all.mpr fun d hd => by
  obtain ⟨a, ha, rfl⟩ := List.mem_map.mp hd
  exact h a ha
end

/-! ### what a slot holds: data, or anything that stays -/
/-- a description that stays while the heap grows -/
structure Dsc (K : PySem.W.Frag) where
  den : V → Hp → Prop
  mono : ∀ {v H H'}, ExtN H H' → den v H → den v H'
def dd {K : PySem.W.Frag} (d : PyData) : Dsc K := ⟨fun v H => Dp K H v d, fun e h => dp_mono e _ _ h⟩
abbrev Gam (K : PySem.W.Frag) := List (Option (Dsc K))

section
variable {T : List (Addr × Str)} {K : PySem.W.Frag}
structure Ok (T : List (Addr × Str)) (σ : L2.St) (H : Hp) (Γ : Gam K) : Prop where
  tb : Tabs T H
  len : σ.length = Γ.length
  sl : ∀ (i : Nat) (x : Dsc K), Γ[i]? = some (some x) → ∃ v, σ[i]? = some (some v) ∧ x.den v H
variable {σ : L2.St} {H H' H1 H2 : Hp} {Γ : Gam K}
theorem Ok.go (h : Ok T σ H Γ) (n : Nx T H H') : Ok T σ H' Γ := ⟨n.tb, h.len, fun i x e => let ⟨v, a, b⟩ := h.sl i x e; ⟨v, a, x.mono n.kp b⟩⟩
theorem Ok.set (h : Ok T σ H Γ) {v : V} {x : Dsc K} (i : Nat) (hx : x.den v H) : Ok T (σ.set i (some v)) H (Γ.set i (some x)) := by
  refine ⟨h.tb, by simp [h.len], fun j y e => ?_⟩
  by_cases q : i = j
  · subst q
    have hl : i < Γ.length := by
      have := (List.getElem?_eq_some_iff.mp e).1
      simpa using this
    rw [List.getElem?_set_self hl] at e
    cases e
    exact ⟨v, List.getElem?_set_self (by rw [h.len]; exact hl), hx⟩
  · rw [List.getElem?_set_ne q] at e
    obtain ⟨u, a, b⟩ := h.sl j y e
    exact ⟨u, by rw [List.getElem?_set_ne q]; exact a, b⟩
theorem Ok.drop (h : Ok T σ H Γ) {o : Option V} (i : Nat) : Ok T (σ.set i o) H (Γ.set i none) := by
  refine ⟨h.tb, by simp [h.len], fun j y e => ?_⟩
  by_cases q : i = j
  · subst q
    have hl : i < Γ.length := by
      have := (List.getElem?_eq_some_iff.mp e).1
      simpa using this
    rw [List.getElem?_set_self hl] at e
    cases e
  · rw [List.getElem?_set_ne q] at e
    obtain ⟨u, a, b⟩ := h.sl j y e
    exact ⟨u, by rw [List.getElem?_set_ne q]; exact a, b⟩
def wipeG (Γ : Gam K) : List Nat → Gam K
  | [] => Γ
  | v :: vs => (wipeG Γ vs).set v none
theorem Ok.wipe (h : Ok T σ H Γ) : ∀ vs : List Nat, Ok T (wipe σ vs) H (wipeG Γ vs)
  | [] => h
  | v :: vs => (Ok.wipe h vs).drop v
/-- forgetting -/
theorem Ok.weak {Γ' : Gam K} (h : Ok T σ H Γ) (hl : Γ'.length = Γ.length) (hs : ∀ (i : Nat) (x : Dsc K), Γ'[i]? = some (some x) → Γ[i]? = some (some x)) : Ok T σ H Γ' :=
  ⟨h.tb, h.len.trans hl.symm, fun i x e => h.sl i x (hs i x e)⟩
theorem wipe_set : ∀ {vs : List Nat} {σ : L2.St} {i : Nat} {o : Option V}, i ∈ vs → wipe (σ.set i o) vs = wipe σ vs
  | v :: vs, σ, i, o, h => by
    unfold wipe
    by_cases q : i ∈ vs
    · rw [wipe_set q]
    · have e : i = v := by
        rcases List.mem_cons.mp h with z | z
        · exact z
        · exact absurd z q
      subst e
      have hc : ∀ (us : List Nat) (τ : L2.St), i ∉ us → wipe (τ.set i o) us = (wipe τ us).set i o := by
        intro us
        induction us with
        | nil => intro τ _; rfl
        | cons u us ih =>
          intro τ hn
          unfold wipe
          rw [ih τ (fun z => hn (List.mem_cons_of_mem _ z)), List.set_comm]
          exact fun z => hn (by rw [z]; exact List.mem_cons_self)
      rw [hc vs σ q, List.set_set]
theorem wipe_wipe (vs : List Nat) (σ : L2.St) : wipe (wipe σ vs) vs = wipe σ vs := by
  have key : ∀ (us : List Nat), (∀ u ∈ us, u ∈ vs) → wipe (wipe σ us) vs = wipe σ vs := by
    intro us
    induction us with
    | nil => intro _; rfl
    | cons u us ih =>
      intro hu
      show wipe ((wipe σ us).set u none) vs = _
      rw [wipe_set (hu u List.mem_cons_self)]
      exact ih fun z hz => hu z (List.mem_cons_of_mem _ hz)
  exact key vs fun _ h => h

/-! ### what an expression is worth -/
/-- some description of those told by P -/
def EP' (T : List (Addr × Str)) (te : TE) (Γ : Gam K) (P : Dsc K → Prop) : Prop := ∀ σ H, Ok T σ H Γ → ∀ Q : VK, (∀ x v H2, P x → Nx T H H2 → x.den v H2 → Q v H2) → te σ H Q
def EG (T : List (Addr × Str)) (te : TE) (Γ : Gam K) (x : Dsc K) : Prop := ∀ σ H, Ok T σ H Γ → ∀ Q : VK, (∀ v H2, Nx T H H2 → x.den v H2 → Q v H2) → te σ H Q
abbrev ED (T : List (Addr × Str)) (te : TE) (Γ : Gam K) (d : PyData) : Prop := EG T te Γ (dd d)
def ET (T : List (Addr × Str)) (tt : TT) (Γ : Gam K) (b : Bool) : Prop := ∀ σ H, Ok T σ H Γ → ∀ Q : Bool → Hp → Prop, (∀ H2, Nx T H H2 → Q b H2) → tt σ H Q
/-- a list of values, each by its description -/
inductive DenAll (H : Hp) : List V → List (Dsc K) → Prop
  | nil : DenAll H [] []
  | cons {v : V} {vs : List V} {x : Dsc K} {xs : List (Dsc K)} : x.den v H → DenAll H vs xs → DenAll H (v :: vs) (x :: xs)
theorem DenAll.go {vs : List V} {xs : List (Dsc K)} (e : ExtN H H') (h : DenAll H vs xs) : DenAll H' vs xs := by
  induction h with
  | nil => exact .nil
  | @cons v vs x xs h _ ih => exact .cons (x.mono e h) ih
theorem denAll_dp : ∀ {vs : List V} {ds : List PyData}, DenAll H vs (ds.map (dd (K := K))) → DpAll K H vs ds
  | _, [], .nil => .nil
  | _, d :: ds, .cons h t => .cons h (denAll_dp t)
def EA (T : List (Addr × Str)) (ta : TA) (Γ : Gam K) (xs : List (Dsc K)) : Prop := ∀ σ H, Ok T σ H Γ → ∀ Q : List V → Hp → Prop, (∀ vs H2, Nx T H H2 → DenAll H2 vs xs → Q vs H2) → ta σ H Q
/-- two values, one value, several values to one -/
def RG (T : List (Addr × Str)) (r : R2) (x y z : Dsc K) : Prop := ∀ u v H, Tabs T H → x.den u H → y.den v H → ∀ Q : VK, (∀ t H2, Nx T H H2 → z.den t H2 → Q t H2) → r u v H Q
def UG (T : List (Addr × Str)) (r : V → Hp → VK → Prop) (x z : Dsc K) : Prop := ∀ u H, Tabs T H → x.den u H → ∀ Q : VK, (∀ t H2, Nx T H H2 → z.den t H2 → Q t H2) → r u H Q
def CG (T : List (Addr × Str)) (r : List V → Hp → VK → Prop) (xs : List (Dsc K)) (z : Dsc K) : Prop := ∀ vs H, Tabs T H → DenAll H vs xs → ∀ Q : VK, (∀ t H2, Nx T H H2 → z.den t H2 → Q t H2) → r vs H Q

variable {ta tb te tc : TE} {tt uu : TT} {x y z : Dsc K} {r : R2}
theorem EG.ep (h : EG T te Γ x) {P : Dsc K → Prop} (hp : P x) : EP' T te Γ P := fun σ H ok Q q => h σ H ok Q fun v H2 n d => q x v H2 hp n d
theorem EP'.eg (h : EP' T te Γ fun y => y = x) : EG T te Γ x := fun σ H ok Q q => h σ H ok Q fun y v H2 e n d => q v H2 n (e ▸ d)
theorem EG.is (h : EG T te Γ x) (e : x = y) : EG T te Γ y := e ▸ h
theorem ET.is {a b : Bool} (h : ET T tt Γ a) (e : a = b) : ET T tt Γ b := e ▸ h
theorem eg_var {i : Nat} (h : Γ[i]? = some (some x)) : EG T (tVar i) Γ x := fun σ H ok Q q =>
  let ⟨v, a, b⟩ := ok.sl i x h
  ⟨v, a, q v H (Nx.refl ok.tb) b⟩
theorem eg_c {v : V} (h : ∀ H, x.den v H) : EG T (tC v) Γ x := fun σ H ok Q q => q v H (Nx.refl ok.tb) (h H)
theorem ed_int (i : Int) : ED T (tC (.int i)) Γ (.int i) := eg_c fun _ => .int i
theorem ed_bl (b : Bool) : ED T (tC (.bl b)) Γ (.bool b) := eg_c fun _ => .bl b
theorem ed_non : ED T (tC .non) Γ .none := eg_c fun _ => .non
theorem eg_op (ha : EG T ta Γ x) (hb : EG T tb Γ y) (hr : RG T r x y z) : EG T (tOp r ta tb) Γ z := fun σ H ok Q q =>
  ha σ H ok _ fun u H1 n1 d1 => hb σ H1 (ok.go n1) _ fun v H2 n2 d2 => hr u v H2 n2.tb (x.mono n2.kp d1) d2 Q fun t H3 n3 d3 => q t H3 (n1.trans (n2.trans n3)) d3
theorem eg_un {f : V → Hp → VK → Prop} (ha : EG T ta Γ x) (hr : UG T f x z) : EG T (tUn f ta) Γ z := fun σ H ok Q q =>
  ha σ H ok _ fun u H1 n1 d1 => hr u H1 n1.tb d1 Q fun t H3 n3 d3 => q t H3 (n1.trans n3) d3
theorem ea_nil : EA T tNil Γ [] := fun σ H ok Q q => q [] H (Nx.refl ok.tb) .nil
theorem ea_cons {tr : TA} {xs : List (Dsc K)} (h : EG T te Γ x) (hr : EA T tr Γ xs) : EA T (tCons te tr) Γ (x :: xs) := fun σ H ok Q q =>
  h σ H ok _ fun v H1 n1 d1 => hr σ H1 (ok.go n1) _ fun vs H2 n2 d2 => q (v :: vs) H2 (n1.trans n2) (.cons (x.mono n2.kp d1) d2)
theorem eg_cb {f : List V → Hp → VK → Prop} {tr : TA} {xs : List (Dsc K)} (ha : EA T tr Γ xs) (hr : CG T f xs z) : EG T (tCB f tr) Γ z := fun σ H ok Q q =>
  ha σ H ok _ fun vs H1 n1 d1 => hr vs H1 n1.tb d1 Q fun t H3 n3 d3 => q t H3 (n1.trans n3) d3
/-- tests -/
theorem et_test {b : Bool} (h : ED T te Γ (.bool b)) : ET T (tTest te) Γ b := fun σ H ok Q q => h σ H ok _ fun v H2 n d => ⟨b, dp_bl d, q H2 n⟩
theorem et_B {b : Bool} (h : ED T te Γ (.bool b)) : ET T (tB te) Γ b := fun σ H ok Q q => h σ H ok _ fun v H2 n d => ⟨b, dp_bl d, q H2 n⟩
theorem et_not {b : Bool} (h : ET T tt Γ b) : ET T (tNot tt) Γ (!b) := fun σ H ok Q q => h σ H ok _ fun H2 n => q H2 n
theorem et_and {a b : Bool} (h1 : ET T tt Γ a) (h2 : a = true → ET T uu Γ b) : ET T (tAnd tt uu) Γ (a && b) := fun σ H ok Q q => h1 σ H ok _ fun H1 n1 => by
  cases a with
  | true =>
    show uu σ H1 Q
    exact h2 rfl σ H1 (ok.go n1) Q fun H2 n2 => q H2 (n1.trans n2)
  | false => exact q H1 n1
theorem et_or {a b : Bool} (h1 : ET T tt Γ a) (h2 : a = false → ET T uu Γ b) : ET T (tOr tt uu) Γ (a || b) := fun σ H ok Q q => h1 σ H ok _ fun H1 n1 => by
  cases a with
  | true => exact q H1 n1
  | false =>
    show uu σ H1 Q
    exact h2 rfl σ H1 (ok.go n1) Q fun H2 n2 => q H2 (n1.trans n2)
theorem ed_andV {a b : Bool} (h1 : ED T ta Γ (.bool a)) (h2 : a = true → ED T tb Γ (.bool b)) : ED T (tAndV ta tb) Γ (.bool (a && b)) := fun σ H ok Q q => h1 σ H ok _ fun v H1 n1 d1 => ⟨a, dp_bl d1, by
  cases a with
  | true =>
    show tb σ H1 Q
    exact h2 rfl σ H1 (ok.go n1) Q fun t H2 n2 d2 => q t H2 (n1.trans n2) d2
  | false => exact q _ H1 n1 (.bl false)⟩
theorem ed_orV {a b : Bool} (h1 : ED T ta Γ (.bool a)) (h2 : a = false → ED T tb Γ (.bool b)) : ED T (tOrV ta tb) Γ (.bool (a || b)) := fun σ H ok Q q => h1 σ H ok _ fun v H1 n1 d1 => ⟨a, dp_bl d1, by
  cases a with
  | true => exact q _ H1 n1 (.bl true)
  | false =>
    show tb σ H1 Q
    exact h2 rfl σ H1 (ok.go n1) Q fun t H2 n2 d2 => q t H2 (n1.trans n2) d2⟩
theorem ed_notV {a : Bool} (h1 : ED T ta Γ (.bool a)) : ED T (tNotV ta) Γ (.bool (!a)) := fun σ H ok Q q => h1 σ H ok _ fun v H1 n1 d1 => ⟨a, dp_bl d1, q _ H1 n1 (.bl _)⟩
theorem eg_if {b : Bool} (h : ET T tt Γ b) (h1 : b = true → EG T ta Γ x) (h2 : b = false → EG T tb Γ x) : EG T (tIf tt ta tb) Γ x := fun σ H ok Q q => h σ H ok _ fun H1 n1 => by
  cases b with
  | true =>
    show ta σ H1 Q
    exact h1 rfl σ H1 (ok.go n1) Q fun t H2 n2 d2 => q t H2 (n1.trans n2) d2
  | false =>
    show tb σ H1 Q
    exact h2 rfl σ H1 (ok.go n1) Q fun t H2 n2 d2 => q t H2 (n1.trans n2) d2
/-- a < b < c -/
theorem ed_chain {r' : R2} {a b : Bool} (ha : EG T ta Γ x) (hb : EG T tb Γ y) (hr : RG T r x y (dd (.bool a))) (h2 : a = true → EG T tc Γ z ∧ RG T r' y z (dd (.bool b))) : ED T (tChain r r' ta tb tc) Γ (.bool (a && b)) := fun σ H ok Q q =>
  ha σ H ok _ fun u H1 n1 d1 => hb σ H1 (ok.go n1) _ fun v H2 n2 d2 => hr u v H2 n2.tb (x.mono n2.kp d1) d2 _ fun t H3 n3 d3 => ⟨a, dp_bl d3, by
    have nn := n1.trans (n2.trans n3)
    cases a with
    | true =>
      obtain ⟨hc, hr'⟩ := h2 rfl
      show tc σ H3 _
      exact hc σ H3 (ok.go nn) _ fun s H4 n4 d4 => hr' v s H4 n4.tb (y.mono (n3.trans n4).kp d2) d4 Q fun t H5 n5 d5 => q t H5 (nn.trans (n4.trans n5)) d5
    | false => exact q _ H3 nn (.bl false)⟩
end
end Lw
set_option Elab.async false
set_option linter.all false
set_option maxRecDepth 100000
set_option maxHeartbeats 2000000
/-! blocks, loops, comprehensions, promises over data -/
namespace Lw
open PySem PySem.Spec PyProof.Rows L2
open LamX (ExtN Tabs TabS CodeO)
section
variable {T : List (Addr × Str)} {K : PySem.W.Frag} {σ : L2.St} {H H' H1 H2 : Hp} {Γ Γ1 Γ2 : Gam K} {te ta tb : TE} {tt : TT} {x y z : Dsc K}

theorem nl {us : List V} : ∀ ps, HO.lst us ≠ .tbl ps := fun _ z => by cases z
/-! ### blocks -/
def SN (T : List (Addr × Str)) (ts : TS) (Γ Γ' : Gam K) : Prop := ∀ D σ H, Ok T σ H Γ → (∀ σ' H', Nx T H H' → Ok T σ' H' Γ' → D.nx σ' H') → ts D σ H
def SR (T : List (Addr × Str)) (ts : TS) (Γ : Gam K) (P : Dsc K → Prop) : Prop := ∀ D σ H, Ok T σ H Γ → (∀ x v H2, P x → Nx T H H2 → x.den v H2 → D.rt v H2) → ts D σ H
variable {t u : TS} {P : Dsc K → Prop}
theorem sn_seq (h1 : SN T t Γ Γ1) (h2 : SN T u Γ1 Γ2) : SN T (tSeq t u) Γ Γ2 := fun D σ H ok k =>
  h1 { D with nx := u D } σ H ok fun σ1 H1 n1 ok1 => h2 D σ1 H1 ok1 fun σ2 H2 n2 ok2 => k σ2 H2 (n1.trans n2) ok2
theorem sr_seq (h1 : SN T t Γ Γ1) (h2 : SR T u Γ1 P) : SR T (tSeq t u) Γ P := fun D σ H ok k =>
  h1 { D with nx := u D } σ H ok fun σ1 H1 n1 ok1 => h2 D σ1 H1 ok1 fun x v H2 p n2 d => k x v H2 p (n1.trans n2) d
theorem sn_next : SN T tNext Γ Γ := fun D σ H ok k => k σ H (Nx.refl ok.tb) ok
theorem sn_set {i : Nat} (h : EG T te Γ x) : SN T (tAsg te (gName i)) Γ (Γ.set i (some x)) := fun D σ H ok k =>
  h σ H ok _ fun v H1 n1 d1 => k _ H1 n1 ((ok.go n1).set i d1)
/-- the description may be one of several -/
theorem sn_setP {i : Nat} {P : Dsc K → Prop} {R : Gam K → Prop} (h : EP' T te Γ P) : ∀ D σ H, Ok T σ H Γ → (∀ x σ' H', P x → Nx T H H' → Ok T σ' H' (Γ.set i (some x)) → D.nx σ' H') → tAsg te (gName i) D σ H := fun D σ H ok k =>
  h σ H ok _ fun x v H1 p n1 d1 => k x _ H1 p n1 ((ok.go n1).set i d1)
theorem sr_setP {i : Nat} {P1 : Dsc K → Prop} (h : EP' T te Γ P1) (h2 : ∀ x, P1 x → SR T u (Γ.set i (some x)) P) : SR T (tSeq (tAsg te (gName i)) u) Γ P := fun D σ H ok k =>
  h σ H ok _ fun x v H1 p n1 d1 => h2 x p D _ H1 ((ok.go n1).set i d1) fun y w H2 q n2 d2 => k y w H2 q (n1.trans n2) d2
theorem sn_drop (h : EG T te Γ x) : SN T (tDrop te) Γ Γ := fun D σ H ok k => h σ H ok _ fun v H1 n1 _ => k σ H1 n1 (ok.go n1)
theorem sn_if {b : Bool} (h : ET T tt Γ b) (h1 : b = true → SN T t Γ Γ1) (h2 : b = false → SN T u Γ Γ1) : SN T (tIfS tt t u) Γ Γ1 := fun D σ H ok k => h σ H ok _ fun H1 n1 => by
  cases b with
  | true =>
    show t D σ H1
    exact h1 rfl D σ H1 (ok.go n1) fun σ2 H2 n2 ok2 => k σ2 H2 (n1.trans n2) ok2
  | false =>
    show u D σ H1
    exact h2 rfl D σ H1 (ok.go n1) fun σ2 H2 n2 ok2 => k σ2 H2 (n1.trans n2) ok2
theorem sn_ifF (h : ET T tt Γ false) (h2 : SN T u Γ Γ1) : SN T (tIfS tt t u) Γ Γ1 := sn_if h (fun e => by cases e) fun _ => h2
theorem sr_if {b : Bool} (h : ET T tt Γ b) (h1 : b = true → SR T t Γ P) (h2 : b = false → SR T u Γ P) : SR T (tIfS tt t u) Γ P := fun D σ H ok k => h σ H ok _ fun H1 n1 => by
  cases b with
  | true =>
    show t D σ H1
    exact h1 rfl D σ H1 (ok.go n1) fun x v H2 p n2 d => k x v H2 p (n1.trans n2) d
  | false =>
    show u D σ H1
    exact h2 rfl D σ H1 (ok.go n1) fun x v H2 p n2 d => k x v H2 p (n1.trans n2) d
theorem sr_ret (h : EP' T te Γ P) : SR T (tRet te) Γ P := fun D σ H ok k => h σ H ok _ fun x v H2 p n d => k x v H2 p n d
theorem sr_retE (h : EG T te Γ x) : SR T (tRet te) Γ (fun y => y = x) := sr_ret (h.ep rfl)
theorem sr_imp {P' : Dsc K → Prop} (h : SR T t Γ P) (hp : ∀ x, P x → P' x) : SR T t Γ P' := fun D σ H ok k => h D σ H ok fun x v H2 p n d => k x v H2 (hp x p) n d
theorem sn_weak {Γ' : Gam K} (h : SN T t Γ Γ1) (hl : Γ'.length = Γ1.length) (hs : ∀ (i : Nat) (x : Dsc K), Γ'[i]? = some (some x) → Γ1[i]? = some (some x)) : SN T t Γ Γ' := fun D σ H ok k =>
  h D σ H ok fun σ' H' n ok' => k σ' H' n (ok'.weak hl hs)
theorem sn_par {i j : Nat} {ta : TA} (h : EA T ta Γ [x, y]) : SN T (tPar i j ta) Γ ((Γ.set i (some x)).set j (some y)) := fun D σ H ok k => h σ H ok _ fun vs H1 n1 d => by
  cases d with
  | cons d1 d =>
    cases d with
    | cons d2 d =>
      cases d
      exact ⟨_, _, rfl, k _ H1 n1 (((ok.go n1).set i d1).set j d2)⟩
theorem sn_par3 {i j l : Nat} {ta : TA} (h : EA T ta Γ [x, y, z]) : SN T (tPar3 i j l ta) Γ (((Γ.set i (some x)).set j (some y)).set l (some z)) := fun D σ H ok k => h σ H ok _ fun vs H1 n1 d => by
  cases d with
  | cons d1 d =>
    cases d with
    | cons d2 d =>
      cases d with
      | cons d3 d =>
        cases d
        exact ⟨_, _, _, rfl, k _ H1 n1 ((((ok.go n1).set i d1).set j d2).set l d3)⟩

/-! ### targets -/
def GG (T : List (Addr × Str)) (vs : List Nat) (g : TG) (x : Dsc K) (Γ Γ' : Gam K) : Prop := ∀ v σ H, Ok T σ H Γ → x.den v H → ∀ Q, (∀ σ', Ok T σ' H Γ' → wipe σ' vs = wipe σ vs → Q σ' H) → g v σ H Q
theorem gg_name {vs : List Nat} {j : Nat} (hj : j ∈ vs) : GG T vs (gName j) x Γ (Γ.set j (some x)) := fun v σ H ok d Q q => q _ (ok.set j d) (wipe_set hj)
theorem gg_two {vs : List Nat} {i j : Nat} {d e : PyData} (hi : i ∈ vs) (hj : j ∈ vs) : GG T vs (gTup K 2 (gCons (gName i) (gCons (gName j) gNil))) (dd (.tuple [d, e])) Γ ((Γ.set i (some (dd d))).set j (some (dd e))) := fun v σ H ok h Q q => by
  obtain ⟨a, us, rfl, ht, ha⟩ := dp_tup h
  cases ha with
  | cons h1 ha =>
    cases ha with
    | cons h2 ha =>
      cases ha
      exact ⟨a, _, rfl, ht, rfl, _, _, rfl, _, _, rfl, rfl, q _ ((ok.set (x := dd d) i h1).set (x := dd e) j h2) (by rw [wipe_set hj, wipe_set hi])⟩
/-- an assignment to such a target -/
theorem sn_asg {vs : List Nat} {g : TG} (h : EG T te Γ x) (hg : GG T vs g x Γ Γ1) : SN T (tAsg te g) Γ Γ1 := fun D σ H ok k =>
  h σ H ok _ fun v H1 n1 d1 => hg v σ H1 (ok.go n1) d1 _ fun σ' ok' _ => k σ' H1 n1 ok'

/-! ### what is walked -/
/-- the iterator J walks the things ys, from the heap H1 on -/
structure Wk (T : List (Addr × Str)) (J : It) (H1 : Hp) (ys : List (Dsc K)) : Prop where
  go : ∀ i H, i < ys.length → Nx T H1 H → J.go i H
  stop : ∀ H, Nx T H1 H → J.stop ys.length H
  yld : ∀ i H v H', i < ys.length → Nx T H1 H → J.yld i H v H' → Nx T H H' ∧ ∃ y, ys[i]? = some y ∧ y.den v H'
def WG (T : List (Addr × Str)) (wi : TI) (Γ : Gam K) (ys : List (Dsc K)) : Prop := ∀ σ H, Ok T σ H Γ → ∀ R : It → Hp → Prop, (∀ J H1, Nx T H H1 → Wk T J H1 ys → R J H1) → wi σ H R
theorem nx_refl_of (n : Nx T H H1) : Nx T H1 H1 := Nx.refl n.tb
theorem wg_list {tl : TE} {ds : List PyData} (h : ED T tl Γ (.list ds)) : WG T (iList K tl) Γ (ds.map dd) := fun σ H ok R r => h σ H ok _ fun v H1 n1 d1 => by
  obtain ⟨a, vs, rfl, hs, ha⟩ := dp_lst d1
  have hl := dpa_len ha
  refine ⟨a, rfl, ⟨vs, hs⟩, r _ H1 n1 ⟨fun i H hi n => ?_, fun H n => ⟨vs, sqL_mono n.kp hs, by simp [hl]⟩, fun i H v H' hi n y => ?_⟩⟩
  · have hi' : i < vs.length := by simpa [hl] using hi
    exact ⟨vs, vs[i], sqL_mono n.kp hs, List.getElem?_eq_getElem hi'⟩
  · obtain ⟨rfl, hv⟩ := y
    obtain ⟨d, e1, e2⟩ := dpa_atV ha (hv vs (sqL_mono n.kp hs))
    exact ⟨Nx.refl n.tb, dd d, by rw [List.getElem?_map, e1]; rfl, dp_mono n.kp _ _ e2⟩
theorem wg_tup {tl : TE} {ds : List PyData} (h : ED T tl Γ (.tuple ds)) : WG T (iTup K tl) Γ (ds.map dd) := fun σ H ok R r => h σ H ok _ fun v H1 n1 d1 => by
  obtain ⟨a, vs, rfl, hs, ha⟩ := dp_tup d1
  have hl := dpa_len ha
  refine ⟨a, rfl, ⟨vs, hs⟩, r _ H1 n1 ⟨fun i H hi n => ?_, fun H n => ⟨vs, sqT_mono n.kp hs, by simp [hl]⟩, fun i H v H' hi n y => ?_⟩⟩
  · have hi' : i < vs.length := by simpa [hl] using hi
    exact ⟨vs, vs[i], sqT_mono n.kp hs, List.getElem?_eq_getElem hi'⟩
  · obtain ⟨rfl, hv⟩ := y
    obtain ⟨d, e1, e2⟩ := dpa_atV ha (hv vs (sqT_mono n.kp hs))
    exact ⟨Nx.refl n.tb, dd d, by rw [List.getElem?_map, e1]; rfl, dp_mono n.kp _ _ e2⟩
theorem wg_range1 {ta : TA} {n : Nat} (h : EA T ta Γ [dd (K := K) (.int n)]) (hn : n < 1000000) : WG T (iRng1 ta) Γ ((List.range n).map fun i => dd (.int (i : Nat))) := fun σ H ok R r => h σ H ok _ fun vs H1 n1 d => by
  cases d with
  | cons d1 d =>
    cases d
    have e := dp_int d1
    subst e
    refine ⟨(n : Int), rfl, by omega, by omega, r _ H1 n1 ⟨fun i H hi n => ?_, fun H n => ?_, fun i H v H' hi n y => ?_⟩⟩
    · show i < Int.toNat _
      simpa using hi
    · show Int.toNat _ ≤ _
      simp
    · obtain ⟨rfl, rfl⟩ := y
      rw [List.length_map, List.length_range] at hi
      refine ⟨Nx.refl n.tb, dd (.int (i : Nat)), by simp [hi], ?_⟩
      have e0 : (0 : Int) + (i : Int) = (i : Int) := Int.zero_add _
      rw [e0]
      exact .int _
theorem wg_range2 {ta : TA} {a n : Nat} (h : EA T ta Γ [dd (K := K) (.int a), dd (.int n)]) (ha : a < 1000000) (hn : n < 1000000) : WG T (iRng2 ta) Γ ((List.range (n - a)).map fun i => dd (.int ((a + i : Nat) : Int))) := fun σ H ok R r => h σ H ok _ fun vs H1 n1 d => by
  cases d with
  | cons d1 d =>
    cases d with
    | cons d2 d =>
      cases d
      have e := dp_int d1
      have e2 := dp_int d2
      subst e e2
      have ez : ((n : Int) - (a : Int)).toNat = n - a := by omega
      refine ⟨(a : Int), (n : Int), rfl, by omega, r _ H1 n1 ⟨fun i H hi n => ?_, fun H n => ?_, fun i H v H' hi n y => ?_⟩⟩
      · show i < Int.toNat _
        rw [ez]
        simpa using hi
      · show Int.toNat _ ≤ _
        rw [ez]
        simp
      · obtain ⟨rfl, rfl⟩ := y
        rw [List.length_map, List.length_range] at hi
        refine ⟨Nx.refl n.tb, dd (.int ((a + i : Nat) : Int)), by simp [hi], ?_⟩
        have e0 : (a : Int) + (i : Int) = ((a + i : Nat) : Int) := by omega
        rw [e0]
        exact .int _

/-! ### comprehensions -/
/-- a list that one may still write to -/
def ll (ds : List PyData) : Dsc K := ⟨fun v H => ∃ a vs, v = .ref a ∧ H a = some (.lst vs) ∧ DpAll K H vs ds, fun e ⟨a, vs, h1, h2, h3⟩ => ⟨a, vs, h1, e a _ h2 nl, dpAll_mono e _ _ h3⟩⟩
theorem ll_dd {ds : List PyData} {v : V} {H : Hp} (h : (ll (K := K) ds).den v H) : Dp K H v (.list ds) := by
  obtain ⟨a, vs, rfl, h2, h3⟩ := h
  exact dp_newL h2 h3
theorem EG.ld {ds : List PyData} (h : EG T te Γ (ll ds)) : ED T te Γ (.list ds) := fun σ H ok Q q => h σ H ok Q fun v H2 n d => q v H2 n (ll_dd d)
/-- [elt for target in iter if test]: the things are told by l -/
theorem eg_lc {α : Type} {wi : TI} {g : TG} {vs : List Nat} {l : List α} {enc : α → Dsc K} (p : α → Bool) (f : α → PyData) (hw : WG T wi Γ (l.map enc)) (hz : l.length < 1000000) (hf : ∀ a ∈ l, p a = true → flat (f a) = true)
    (hs : ∀ a ∈ l, ∃ Γ', GG T vs g (enc a) (wipeG Γ vs) Γ' ∧ ET T tt Γ' (p a) ∧ (p a = true → ED T te Γ' (f a))) : EG T (tLc wi g tt te vs) Γ (ll ((l.filter p).map f)) := fun σ H ok Q q => hw σ H ok _ fun J H1 n1 wk D hD => by
  refine ⟨fun i m H' => m = l.length - i ∧ i ≤ l.length ∧ Nx T H1 H' ∧ ∃ us, H' D = some (.lst us) ∧ DpAll K H' us (((l.take i).filter p).map f), ⟨l.length, by omega, Nat.zero_le _, Nx.new n1.tb hD, [], upd_same, .nil⟩, ?_⟩
  rintro i m H' ⟨rfl, hi, nx, us, hu, hd⟩
  by_cases hlt : i < l.length
  · have ea : l[i]? = some l[i] := List.getElem?_eq_getElem hlt
    obtain ⟨Γ', hg, ht, he⟩ := hs l[i] (List.getElem_mem hlt)
    have hul : us.length ≤ l.length := by
      rw [dpa_len hd, List.length_map]
      exact Nat.le_trans (List.length_filter_le _ _) (by rw [List.length_take]; omega)
    refine .inr ⟨wk.go i H' (by simpa using hlt) nx, fun H2 => Nx T H1 H2 ∧ ∃ us, H2 D = some (.lst us) ∧ DpAll K H2 us (((l.take (i + 1)).filter p).map f), fun H2 ⟨n2, us', hu', hd'⟩ => ⟨l.length - (i + 1), by omega, rfl, hlt, n2, us', hu', hd'⟩, fun x H2 yy => ?_⟩
    obtain ⟨n2, y, ey, dy⟩ := wk.yld i H' x H2 (by simpa using hlt) nx yy
    have ey' : y = enc l[i] := by
      rw [List.getElem?_map, ea] at ey
      exact (Option.some.inj ey).symm
    subst ey'
    have okw : Ok T (wipe σ vs) H2 (wipeG Γ vs) := ((ok.go (n1.trans (nx.trans n2))).wipe vs)
    refine hg x _ H2 okw dy _ fun σ3 ok3 hw3 => ⟨by rw [hw3, wipe_wipe], ht σ3 H2 ok3 _ fun H3 n3 => ?_⟩
    have hu3 : H3 D = some (.lst us) := (n2.trans n3).kp D _ hu nl
    have hd3 := dpAll_mono (n2.trans n3).kp _ _ hd
    have et : (l.take (i + 1)).filter p = (l.take i).filter p ++ [l[i]].filter p := by rw [List.take_add_one, ea, List.filter_append]; rfl
    cases hp : p l[i] with
    | true =>
      show te σ3 H3 _
      refine he hp σ3 H3 (ok3.go n3) _ fun v H4 n4 d4 => ⟨us, n4.kp D _ hu3 nl, by rw [sizeLine_eq]; omega, ?_⟩
      have nn := (nx.trans n2).trans (n3.trans n4)
      have hu4 : H4 D = some (.lst us) := n4.kp D _ hu3 nl
      have nm : Nx T H1 (upd H4 D (.lst (us ++ [v]))) := nn.mutL hD hu4
      refine ⟨nm, us ++ [v], upd_same, ?_⟩
      rw [et, List.filter_cons_of_pos hp, List.filter_nil, List.map_append]
      have fl : flatA (((l.take i).filter p).map f) = true := flatA_map fun b hb => by
        obtain ⟨h1, h2⟩ := List.mem_filter.mp hb
        exact hf b (List.mem_of_mem_take h1) h2
      exact dpa_app (dpa_flat (sqT_updL hu4) _ _ fl (dpAll_mono n4.kp _ _ hd3)) (.cons (dp_flat (sqT_updL hu4) _ _ (hf _ (List.getElem_mem hlt) hp) d4) .nil)
    | false =>
      show Nx T H1 H3 ∧ _
      refine ⟨(nx.trans n2).trans n3, us, hu3, ?_⟩
      rw [et, List.filter_cons_of_neg (by simp [hp]), List.filter_nil, List.append_nil]
      exact hd3
  · have e : i = l.length := by omega
    subst e
    rw [List.take_length] at hd
    refine .inl ⟨?_, q _ H' (n1.trans nx) ⟨D, us, rfl, hu, hd⟩⟩
    have := wk.stop H' nx
    rwa [List.length_map] at this
/-- without a test -/
theorem eg_lcA {α : Type} {wi : TI} {g : TG} {vs : List Nat} {l : List α} {enc : α → Dsc K} (f : α → PyData) (hw : WG T wi Γ (l.map enc)) (hz : l.length < 1000000) (hf : ∀ a ∈ l, flat (f a) = true)
    (hs : ∀ a ∈ l, ∃ Γ', GG T vs g (enc a) (wipeG Γ vs) Γ' ∧ ED T te Γ' (f a)) : EG T (tLc wi g tYes te vs) Γ (ll (l.map f)) := by
  have h := eg_lc (tt := tYes) (te := te) (T := T) (g := g) (vs := vs) (fun _ => true) f hw hz (fun a ha _ => hf a ha) fun a ha => by
    obtain ⟨Γ', h1, h2⟩ := hs a ha
    exact ⟨Γ', h1, fun σ H ok Q q => q H (Nx.refl ok.tb), fun _ => h2⟩
  rwa [List.filter_eq_self.mpr (fun _ _ => rfl)] at h

/-! ### what is worth a new list -/
def New (H : Hp) (p : Addr) : Prop := ∀ b o, H b = some o → (∀ ps, o ≠ .tbl ps) → b ≠ p
theorem New.back (e : ExtN H H1) {p : Addr} (h : H1 p = none) : New H p := fun b o eb n z => by
  have := e b o eb n
  rw [z, h] at this
  cases this
theorem New.pre (e : ExtN H H1) {p : Addr} (h : New H1 p) : New H p := fun b o eb n => h b o (e b o eb n) n
def EN (T : List (Addr × Str)) (te : TE) (Γ : Gam K) (ds : List PyData) : Prop := ∀ σ H, Ok T σ H Γ → ∀ Q : VK, (∀ p us H2, Nx T H H2 → New H p → H2 p = some (.lst us) → DpAll K H2 us ds → Q (.ref p) H2) → te σ H Q
theorem EN.eg {ds : List PyData} (h : EN T te Γ ds) : EG T te Γ (ll ds) := fun σ H ok Q q => h σ H ok Q fun p us H2 n _ e d => q _ H2 n ⟨p, us, rfl, e, d⟩
/-- a list of new lists of flat things -/
theorem eg_lcL {α : Type} {wi : TI} {g : TG} {vs : List Nat} {l : List α} {enc : α → Dsc K} (f : α → List PyData) (hw : WG T wi Γ (l.map enc)) (hz : l.length < 1000000) (hf : ∀ a ∈ l, flatA (f a) = true)
    (hs : ∀ a ∈ l, ∃ Γ', GG T vs g (enc a) (wipeG Γ vs) Γ' ∧ EN T te Γ' (f a)) : EG T (tLc wi g tYes te vs) Γ (ll (l.map fun a => .list (f a))) := fun σ H ok Q q => hw σ H ok _ fun J H1 n1 wk D hD => by
  refine ⟨fun i m H' => m = l.length - i ∧ i ≤ l.length ∧ Nx T H1 H' ∧ ∃ us, H' D = some (.lst us) ∧ us.length = i ∧ ∀ (k : Nat) (a : α), k < i → l[k]? = some a → ∃ b ws, us[k]? = some (V.ref b) ∧ b ≠ D ∧ H' b = some (.lst ws) ∧ DpAll K H' ws (f a),
    ⟨l.length, by omega, Nat.zero_le _, Nx.new n1.tb hD, [], upd_same, rfl, fun k a hk => by omega⟩, ?_⟩
  rintro i m H' ⟨rfl, hi, nx, us, hu, hul, hd⟩
  by_cases hlt : i < l.length
  · have ea : l[i]? = some l[i] := List.getElem?_eq_getElem hlt
    obtain ⟨Γ', hg, he⟩ := hs l[i] (List.getElem_mem hlt)
    refine .inr ⟨wk.go i H' (by simpa using hlt) nx, fun H2 => Nx T H1 H2 ∧ ∃ us, H2 D = some (.lst us) ∧ us.length = i + 1 ∧ ∀ (k : Nat) (a : α), k < i + 1 → l[k]? = some a → ∃ b ws, us[k]? = some (V.ref b) ∧ b ≠ D ∧ H2 b = some (.lst ws) ∧ DpAll K H2 ws (f a),
      fun H2 ⟨n2, us', hu', hl', hd'⟩ => ⟨l.length - (i + 1), by omega, rfl, hlt, n2, us', hu', hl', hd'⟩, fun x H2 yy => ?_⟩
    obtain ⟨n2, y, ey, dy⟩ := wk.yld i H' x H2 (by simpa using hlt) nx yy
    have ey' : y = enc l[i] := by
      rw [List.getElem?_map, ea] at ey
      exact (Option.some.inj ey).symm
    subst ey'
    have okw : Ok T (wipe σ vs) H2 (wipeG Γ vs) := ((ok.go (n1.trans (nx.trans n2))).wipe vs)
    refine hg x _ H2 okw dy _ fun σ3 ok3 hw3 => ⟨by rw [hw3, wipe_wipe], ?_⟩
    show te σ3 H2 _
    have hu2 : H2 D = some (.lst us) := n2.kp D _ hu nl
    refine he σ3 H2 ok3 _ fun b ws H4 n4 hb hw4 d4 => ⟨us, n4.kp D _ hu2 nl, by rw [sizeLine_eq]; omega, ?_⟩
    have nn := (nx.trans n2).trans n4
    have hu4 : H4 D = some (.lst us) := n4.kp D _ hu2 nl
    have nb : b ≠ D := Ne.symm (hb D _ hu2 nl)
    refine ⟨nn.mutL hD hu4, us ++ [.ref b], upd_same, by simp [hul], fun k a hk ha => ?_⟩
    by_cases hki : k < i
    · obtain ⟨c, zs, c1, c2, c3, c4⟩ := hd k a hki ha
      refine ⟨c, zs, by rw [List.getElem?_append_left (by omega)]; exact c1, c2, ?_, ?_⟩
      · rw [upd_ne c2]
        exact (n2.trans n4).kp c _ c3 nl
      · exact dpa_flat (sqT_updL hu4) _ _ (hf a (List.mem_of_getElem? ha)) (dpAll_mono (n2.trans n4).kp _ _ c4)
    · have e : k = i := by omega
      subst e
      rw [ea] at ha
      obtain rfl := Option.some.inj ha
      refine ⟨b, ws, by rw [← hul]; simp, nb, by rw [upd_ne nb]; exact hw4, dpa_flat (sqT_updL hu4) _ _ (hf _ (List.getElem_mem hlt)) d4⟩
  · have e : i = l.length := by omega
    subst e
    refine .inl ⟨?_, q _ H' (n1.trans nx) ⟨D, us, rfl, hu, ?_⟩⟩
    · have := wk.stop H' nx
      rwa [List.length_map] at this
    · have key : ∀ (l : List α) (us : List V), us.length = l.length → (∀ (k : Nat) (a : α), k < l.length → l[k]? = some a → ∃ b ws, us[k]? = some (V.ref b) ∧ b ≠ D ∧ H' b = some (.lst ws) ∧ DpAll K H' ws (f a)) → DpAll K H' us (l.map fun a => .list (f a)) := by
        intro l
        induction l with
        | nil =>
          intro us h _
          rw [List.length_eq_zero_iff.mp h]
          exact .nil
        | cons a l ih =>
          intro us h hk
          cases us with
          | nil => simp at h
          | cons u us =>
            obtain ⟨b, ws, b1, _, b3, b4⟩ := hk 0 a (by simp) rfl
            have eu : u = .ref b := Option.some.inj b1
            subst eu
            exact .cons (dp_newL b3 b4) (ih us (by simpa using h) fun k a hk' ha => hk (k + 1) a (by simp; omega) ha)
      exact key l us hul fun k a hk ha => hd k a hk ha

/-! ### loops over a walk -/
/-- Γs: what the slots hold ahead of each turn -/
theorem sn_for {wi : TI} {g : TG} {vs : List Nat} {ys : List (Dsc K)} (Γs : Nat → Gam K) (hw : WG T wi (Γs 0) ys)
    (hs : ∀ (i : Nat) (y : Dsc K), ys[i]? = some y → ∃ Γ', GG T vs g y (Γs i) Γ' ∧ SN T t Γ' (Γs (i + 1))) : SN T (tFor wi g t) (Γs 0) (Γs ys.length) := fun D σ H ok k => hw σ H ok _ fun J H1 n1 wk => by
  refine ⟨fun i m σ' H' => m = ys.length - i ∧ i ≤ ys.length ∧ Nx T H1 H' ∧ Ok T σ' H' (Γs i), ⟨ys.length, rfl, Nat.zero_le _, Nx.refl n1.tb, ok.go n1⟩, ?_⟩
  rintro i m σ' H' ⟨rfl, hi, nx, ok'⟩
  by_cases hlt : i < ys.length
  · refine .inr ⟨wk.go i H' hlt nx, fun σ2 H2 => Nx T H1 H2 ∧ Ok T σ2 H2 (Γs (i + 1)), fun σ2 H2 ⟨n2, o2⟩ => ⟨ys.length - (i + 1), by omega, rfl, hlt, n2, o2⟩, fun x H2 yy => ?_⟩
    obtain ⟨n2, y, ey, dy⟩ := wk.yld i H' x H2 hlt nx yy
    obtain ⟨Γ', hg, hb⟩ := hs i y ey
    refine hg x σ' H2 (ok'.go n2) dy _ fun σ3 ok3 _ => ?_
    exact hb { D with nx := _, ct := _, bk := D.nx } σ3 H2 ok3 fun σ4 H4 n4 ok4 => ⟨(nx.trans n2).trans n4, ok4⟩
  · have e : i = ys.length := by omega
    subst e
    exact .inl ⟨wk.stop H' nx, k σ' H' (n1.trans nx) ok'⟩

/-! ### promises -/
def Pr (T : List (Addr × Str)) {α : Type} (enc : α → List (Dsc K)) (pre : α → Prop) (post : α → Dsc K → Prop) : Sp := fun vs H Q _ => ∃ a : α, DenAll H vs (enc a) ∧ Tabs T H ∧ pre a ∧ ∀ y v H', post a y → Nx T H H' → y.den v H' → Q v H'
theorem ep_call {α : Type} {enc : α → List (Dsc K)} {pre : α → Prop} {post : α → Dsc K → Prop} {tr : TA} {E : XK} (a : α) (h : EA T tr Γ (enc a)) (hp : pre a) : EP' T (tCall (Pr T enc pre post) [] E tr) Γ (post a) := fun σ H ok Q q =>
  h σ H ok _ fun vs H1 n1 d1 => by
    rw [List.append_nil]
    exact ⟨a, d1, n1.tb, hp, fun y v H' py n2 dv => q y v H' py (n1.trans n2) dv⟩
theorem eg_call {α : Type} {enc : α → List (Dsc K)} {pre : α → Prop} {out : α → Dsc K} {tr : TA} {E : XK} (a : α) (h : EA T tr Γ (enc a)) (hp : pre a) : EG T (tCall (Pr T enc pre fun a y => y = out a) [] E tr) Γ (out a) :=
  (ep_call (post := fun a y => y = out a) a h hp).eg
theorem denAll_len : ∀ {vs : List V} {xs : List (Dsc K)}, DenAll H vs xs → vs.length = xs.length
  | _, _, .nil => rfl
  | _, _, .cons _ t => by simp [denAll_len t]
theorem denAll_at : ∀ {vs : List V} {xs : List (Dsc K)} {i : Nat} {x : Dsc K}, DenAll H vs xs → xs[i]? = some x → ∃ v, vs[i]? = some v ∧ x.den v H
  | _, _, _, _, .nil, e => by simp at e
  | _, _, 0, _, .cons r _, e => by simp at e; subst e; exact ⟨_, rfl, r⟩
  | _, _, i + 1, x, .cons _ t, e => by
    obtain ⟨v, h1, h2⟩ := denAll_at (i := i) (x := x) t (by simpa using e)
    exact ⟨v, by simpa using h1, h2⟩
def startG (n : Nat) (xs : List (Dsc K)) : Gam K := xs.map some ++ List.replicate (n - xs.length) none
theorem Ok.start {N : List Str} {vs : List V} {xs : List (Dsc K)} (h : DenAll H vs xs) (tb : Tabs T H) : Ok T (L2.start N vs) H (startG N.length xs) := by
  have hl := denAll_len h
  refine ⟨tb, by simp [L2.start, startG, hl], fun i x e => ?_⟩
  unfold startG at e
  by_cases hi : i < xs.length
  · rw [List.getElem?_append_left (by simpa using hi), List.getElem?_map] at e
    cases q : xs[i]? with
    | none => rw [q] at e; cases e
    | some y =>
      rw [q] at e
      have e' : y = x := Option.some.inj (Option.some.inj e)
      subst e'
      obtain ⟨v, h1, h2⟩ := denAll_at h q
      refine ⟨v, ?_, h2⟩
      unfold L2.start
      rw [List.getElem?_append_left (by simpa [hl] using hi), List.getElem?_map, h1]
      rfl
  · rw [List.getElem?_append_right (by simpa using hi), List.getElem?_replicate] at e
    split at e <;> cases e
/-- a body that hands back -/
theorem body_ret {α : Type} {enc : α → List (Dsc K)} {pre : α → Prop} {post : α → Dsc K → Prop} {N : List Str} {vs : List V} {Q : VK} {E : XK} (h : Pr T enc pre post vs H Q E) (hb : ∀ a, pre a → SR T t (startG N.length (enc a)) (post a)) : t { nx := fun _ H' => Q .non H', rt := Q } (L2.start N vs) H := by
  obtain ⟨a, d, tb, hp, k⟩ := h
  exact hb a hp _ _ _ (Ok.start d tb) fun x v H2 p n dv => k x v H2 p n dv
/-- .. that comes to its end -/
theorem body_end {α : Type} {enc : α → List (Dsc K)} {pre : α → Prop} {post : α → Dsc K → Prop} {N : List Str} {vs : List V} {Q : VK} {E : XK} (h : Pr T enc pre post vs H Q E) (hb : ∀ a, pre a → post a (dd .none) ∧ ∃ Γ', SN T t (startG N.length (enc a)) Γ') : t { nx := fun _ H' => Q .non H', rt := Q } (L2.start N vs) H := by
  obtain ⟨a, d, tb, hp, k⟩ := h
  obtain ⟨h1, Γ', h2⟩ := hb a hp
  exact h2 _ _ _ (Ok.start d tb) fun σ' H' n _ => k _ _ H' h1 n .non
theorem Pr.len {α : Type} {enc : α → List (Dsc K)} {pre : α → Prop} {post : α → Dsc K → Prop} {n : Nat} (hn : ∀ a, (enc a).length = n) {vs : List V} {Q : VK} {E : XK} (h : Pr T enc pre post vs H Q E) : vs.length = n := by
  obtain ⟨a, d, _⟩ := h
  rw [denAll_len d, hn]
end
end Lw
set_option Elab.async false
set_option linter.all false
set_option maxRecDepth 100000
set_option maxHeartbeats 2000000
/-! rules at the library's level: sorted, min, max, < of data -/
namespace Lw
open PySem PySem.Spec PyProof.Rows L2

section
variable {prog : Program} {w : World} {A : Around} {E : Value → Shared → Prop} {s : Shared} {v : Value} {Q : Value → Shared → Prop}
/-- what collect draws from a thing -/
def Drawn (prog : Program) (w : World) (A : Around) (s : Shared) (v : Value) (P : List Value → Heap → Prop) : Prop :=
  ∀ (R : List Value → Shared → Prop) (E : Value → Shared → Prop), (∀ us h' tk, (∀ b o, s.heap.get? b = some o → h'.get? b = some o) → P us h' → R us { s with heap := h', toks := tk }) → wpAny (model prog w) A (collect v) R E s
/-- sorted draws all, makes a list of it, sorts that -/
theorem sorted_drawn {kw : List (Str × Value)} {P : List Value → Heap → Prop} (hd : Drawn prog w A.in1 s v P) (hL : ∀ us h', P us h' → us.length ≤ sizeLine) (ha : argsOk "sorted" ⟨[v], kw⟩)
    (body : ∀ us h' tk, (∀ b o, s.heap.get? b = some o → h'.get? b = some o) → P us h' → ∀ E' : Value → Shared → Prop,
      wpAny (model prog w) A.in1 (call (.builtin "list.sort") [.ref h'.objs.size] kw) (fun _ s' => Q (.ref h'.objs.size) s') E' { s with heap := h'.push (seqObj "list" us.toArray 0), toks := tk }) :
    wpAny (model prog w) A (call (.builtin "sorted") [v] kw) Q E s := by
  refine PyProof.Rows.call_function_entry_kw PyProof.Rows.kind_sorted PyProof.Rows.plain_sorted PyProof.Rows.entry_sorted ha ?_
  unfold Builtin.«sorted»
  refine wpAny_bind (m := checkCount "sorted" 1 1 _) (wpAny_pure (wpAny_bind (hd _ _ fun us h' tk kp hP => ?_)))
  refine wpAny_bind (wpAny_newList ?_ (hL us h' hP))
  refine wpAny_bind (wpAny_holding (wpAny_mono (body us h' tk kp hP _) (fun _ s' q => ?_) fun _ _ e => e))
  exact wpAny_pure ⟨_, rfl, q⟩
end
section
variable {h : Heap}
mutual
theorem reads_flat : ∀ (d : PyData) (u : Value) (as : List Addr), flat d = true → Reads h u d as → as = []
  | .none, _, _, _, r => by cases r; rfl
  | .bool _, _, _, _, r => by cases r; rfl
  | .int _, _, _, _, r => by cases r; rfl
  | .str _, _, _, _, r => by cases r; rfl
  | .list _, _, _, f, _ => by simp [flat] at f
  | .tuple ds, _, _, f, r => by
    cases r with
    | tuple _ _ _ r => exact readsAll_flat ds _ _ (by simpa [flat] using f) r
  | .dict _, _, _, f, _ => by simp [flat] at f
theorem readsAll_flat : ∀ (ds : List PyData) (us : List Value) (as : List Addr), flatA ds = true → ReadsAll h us ds as → as = []
  | [], _, _, _, r => by cases r; rfl
  | d :: ds, _, _, f, r => by
    have f' : flat d = true ∧ flatA ds = true := by simpa [flatA] using f
    cases r with
    | cons r1 r2 => rw [reads_flat d _ _ f'.1 r1, readsAll_flat ds _ _ f'.2 r2]; rfl
end
end

open PySem.W (EachIs AllAlike Sortable dataLe alike dataLt)
section
variable {X : Cx} {pins : List (Addr × Obj)} {σ : L2.St} {H : Hp} {s : Shared}
/-- a value that stands for data, known by its V too -/
def Stands (K : PySem.W.Frag) (H : Hp) (u : Value) (d : PyData) : Prop := ∃ x : V, RelV x u ∧ Dp K H x d
theorem each_of {K : PySem.W.Frag} : ∀ {xs : List V} {us : List Value} {ds : List PyData}, Vals xs us → DpAll K H xs ds → EachIs (Stands K H) us ds
  | [], _, _, .nil, .nil => .nil
  | _ :: _, _, _, .cons r rs, .cons d ds => .cons ⟨_, r, d⟩ (each_of rs ds)
theorem each_back {K : PySem.W.Frag} : ∀ {us : List Value} {ds : List PyData}, EachIs (Stands K H) us ds → ∃ xs, Vals xs us ∧ DpAll K H xs ds
  | _, _, .nil => ⟨[], .nil, .nil⟩
  | _, _, .cons ⟨x, r, d⟩ t => by
    obtain ⟨xs, h1, h2⟩ := each_back t
    exact ⟨x :: xs, .cons r h1, .cons d h2⟩
theorem each_reads (I : Inv X pins σ H s) : ∀ {us : List Value} {ds : List PyData}, flatA ds = true → EachIs (Stands X.K H) us ds → EachIs (fun u d => Reads s.heap u d []) us ds
  | _, _, _, .nil => .nil
  | _ :: _, d :: ds, f, .cons ⟨x, r, dd⟩ t => by
    have f' : flat d = true ∧ flatA ds = true := by simpa [flatA] using f
    obtain ⟨as, h1⟩ := Dp.reads I _ _ _ dd r
    have e := reads_flat _ _ _ f'.1 h1
    subst e
    exact .cons h1 (each_reads I f'.2 t)
/-- of a list or a tuple of flat things that are alike -/
def SortOk (ds : List PyData) : Prop := flatA ds = true ∧ AllAlike ds ∧ Sortable ds ∧ ds.length ≤ 100000 ∧ ∀ d ∈ ds, d.depth ≤ 8
def rSortD (K : PySem.W.Frag) : List V → Hp → VK → Prop := fun vs H Q => ∃ v ds, vs = [v] ∧ (Dp K H v (.list ds) ∨ Dp K H v (.tuple ds)) ∧ SortOk ds ∧
  ∀ p us, H p = none → DpAll K (upd H p (.lst us)) us (ds.mergeSort (dataLe false id)) → Q (.ref p) (upd H p (.lst us))
theorem sort_run {us : List Value} {ds : List PyData} {Q : VK} {E' : Value → Shared → Prop} {h' : Heap} {tk : Nat} (I : Inv X pins σ H s) (hu : X.A.units + 64 < cLine) (kp : ∀ b o, s.heap.get? b = some o → h'.get? b = some o) (e : EachIs (Stands X.K H) us ds) (ok : SortOk ds)
    (q : ∀ p us, H p = none → DpAll X.K (upd H p (.lst us)) us (ds.mergeSort (dataLe false id)) → Q (.ref p) (upd H p (.lst us))) :
    wpAny (model X.prog X.w) X.A.in1 (call (.builtin "list.sort") [.ref h'.objs.size]) (fun _ s' => L2.EP X pins σ Q (.ref h'.objs.size) s') E' { s with heap := h'.push (seqObj "list" us.toArray 0), toks := tk } := by
  obtain ⟨fl, al, so, le, de⟩ := ok
  have I1 : Inv X pins σ H { s with heap := h', toks := tk } := I.kept kp
  have fresh : H h'.objs.size = none := I1.hok.fresh (Nat.le_refl _)
  have hoL : (h'.push (seqObj "list" us.toArray 0)).get? h'.objs.size = some (seqObj "list" us.toArray 0) := Heap.get?_push_size _ rfl
  have er : EachIs (fun v b => ∃ as, Reads (h'.push (seqObj "list" us.toArray 0)) v (id b) as ∧ h'.objs.size ∉ as) us ds :=
    (each_reads I1 fl e).mono fun u d r => ⟨[], PyProof.Rows.Reads.keeps (fun b o q => Heap.get?_push_of_some _ q) r, by simp⟩
  have em : ds.map id = ds := List.map_id ds
  refine PySem.W.list_sort_data (s := { s with heap := h'.push (seqObj "list" us.toArray 0), toks := tk }) (enc := id) (R := Stands X.K H) hoL e er (by rw [em]; exact al) (by rw [em]; exact so) (by rw [sizeLine_eq]; omega) (fun b hb => ?_) fun out hl ho => ?_
  · have := de b hb
    show X.A.units + 1 + 1 + _ < cLine
    have e1 : (id b : PyData).depth = b.depth := rfl
    omega
  · obtain ⟨xs, rv, dx⟩ := each_back ho
    obtain ⟨ep, he'⟩ := PyProof.Rows.sortedHeap_at (vs := us) (out := out.toArray) hoL
    have hlen : xs.length ≤ sizeLine := by
      rw [rv.length, hl, sizeLine_eq]; omega
    refine ⟨.ref h'.objs.size, upd H h'.objs.size (.lst xs), I1.laid (t' := tk) (fun b o eb => ?_) (Nat.le_refl _) ⟨hlen, out, ep, rv, he'⟩, rfl, q _ xs fresh (dpAll_mono (LamX.ExtN.of (new_ext fresh)) _ _ dx)⟩
    have hb : b < h'.objs.size := Heap.lt_size eb
    rw [PyProof.Rows.sortedHeap_old (Nat.ne_of_lt hb) (by rw [size_push']; exact Nat.lt_succ_of_lt hb)]
    exact Heap.get?_push_of_some _ eb
theorem drawn_list {A : Around} {a : Addr} {xs : List V} (I : Inv X pins σ H s) (h : SqL X.K H a xs) : Drawn X.prog X.w A s (.ref a) fun us _ => Vals xs us := fun R E k => by
  obtain ⟨its, rv, ⟨o, n, ho, hc, _, hd⟩, hz⟩ := I.list h
  refine wpAny_collect_seq a (.inl rfl) ho hc hd (fun h' kp => ?_) (by rw [List.size_toArray, ← rv.length]; exact hz)
  exact k its h' s.toks kp rv
theorem drawn_tup {A : Around} {a : Addr} {xs : List V} (I : Inv X pins σ H s) (h : SqT X.K H a xs) : Drawn X.prog X.w A s (.ref a) fun us _ => Vals xs us := fun R E k => by
  obtain ⟨its, rv, ⟨o, ho, hc, n, hd⟩, hz⟩ := I.tuple h
  refine wpAny_collect_seq a (.inr rfl) ho hc hd (fun h' kp => ?_) (by rw [List.size_toArray, ← rv.length]; exact hz)
  exact k its h' s.toks kp rv
theorem cr_sortedD (hu : X.A.units + 64 < cLine) : CallR X (.builtin "sorted") (rSortD X.K) := by
  intro pins s σ H vs us Q I r h
  obtain ⟨v, ds, rfl, hv, ok, q⟩ := h
  obtain ⟨u, rfl, rx⟩ := vals1 r
  have go : ∀ (a : Addr) (xs : List V), Drawn X.prog X.w X.A.in1 s (.ref a) (fun us _ => Vals xs us) → DpAll X.K H xs ds → wpAny (model X.prog X.w) X.A (call (.builtin "sorted") [.ref a]) (L2.EP X pins σ Q) X.xe s := fun a xs hd dx => by
    have hz := dpa_len dx
    refine sorted_drawn hd (fun us h' rv => by rw [← rv.length, hz, sizeLine_eq]; have := ok.2.2.2.1; omega) (PyProof.Rows.args_sorted1 _) fun us h' tk kp rv E' => ?_
    exact sort_run I hu kp (each_of rv dx) ok q
  rcases hv with hv | hv
  · obtain ⟨a, xs, rfl, hs, dx⟩ := dp_lst hv
    cases rx
    exact go a xs (drawn_list I hs) dx
  · obtain ⟨a, xs, rfl, hs, dx⟩ := dp_tup hv
    cases rx
    exact go a xs (drawn_tup I hs) dx

/-! ### < of alike data -/
def rLtD (K : PySem.W.Frag) : R2 := fun x y H Q => ∃ d e, Dp K H x d ∧ Dp K H y e ∧ alike d e = true ∧ d ≠ .none ∧ d.depth ≤ 8 ∧ Q (.bl (dataLt d e)) H
theorem op_ltD (hu : X.A.units + 64 < cLine) : OpR X (compareOp .Lt) (rLtD X.K) := by
  intro pins s σ H x y v u Q I rx ry h
  obtain ⟨d, e, hd, he, al, nn, de, q⟩ := h
  obtain ⟨as, r1⟩ := Dp.reads I d x v hd rx
  obtain ⟨bs, r2⟩ := Dp.reads I e y u he ry
  exact PySem.W.rcLt_alike d e X.A s v u as bs r1 r2 al nn (by omega) _ _ _ _ ⟨.bl _, H, I, rfl, q⟩
end
/-! ### max, min -/
section
variable {h : Heap}
mutual
theorem reads_inj : ∀ (d e : PyData) (u : Value) (as bs : List Addr), flat d = true → Reads h u d as → Reads h u e bs → d = e
  | .none, e, u, _, _, _, r, q => by cases r; cases q; rfl
  | .bool _, e, u, _, _, _, r, q => by cases r; cases q; rfl
  | .int _, e, u, _, _, _, r, q => by cases r; cases q; rfl
  | .str _, e, u, _, _, _, r, q => by cases r; cases q; rfl
  | .list _, _, _, _, _, f, _, _ => by simp [flat] at f
  | .tuple ds, e, u, _, _, f, r, q => by
    cases r with
    | tuple h1 h2 h3 h4 =>
      cases q with
      | tuple g1 g2 g3 g4 =>
        rw [h1] at g1
        cases g1
        rw [h3] at g3
        cases g3
        rw [readsAll_inj ds _ _ _ _ (by simpa [flat] using f) h4 g4]
      | list g1 g2 g3 g4 =>
        rw [h1] at g1
        cases g1
        rw [h2] at g2
        injection g2 with g2
        exact absurd g2 (by decide)
      | dict g1 g2 g3 g4 g5 =>
        rw [h1] at g1
        cases g1
        rw [h3] at g3
        cases g3
  | .dict _, _, _, _, _, f, _, _ => by simp [flat] at f
theorem readsAll_inj : ∀ (ds es : List PyData) (us : List Value) (as bs : List Addr), flatA ds = true → ReadsAll h us ds as → ReadsAll h us es bs → ds = es
  | [], _, _, _, _, _, r, q => by cases r; cases q; rfl
  | d :: ds, _, _, _, _, f, r, q => by
    have f' : flat d = true ∧ flatA ds = true := by simpa [flatA] using f
    cases r with
    | cons r1 r2 =>
      cases q with
      | cons q1 q2 => rw [reads_inj d _ _ _ _ f'.1 r1 q1, readsAll_inj ds _ _ _ _ f'.2 r2 q2]
end
end
section
variable {X : Cx}
/-- max of a tuple of ints -/
def rMaxT (K : PySem.W.Frag) : List V → Hp → VK → Prop := fun vs H Q => ∃ (v : V) (n : Int) (ms : List Int), vs = [v] ∧ Dp K H v (.tuple (.int n :: ms.map .int)) ∧ Q (.int (ms.foldl max n)) H
theorem depthAll_le {k : Nat} : ∀ {ds : List PyData}, (∀ d ∈ ds, d.depth ≤ k) → PyData.depthAll ds ≤ k
  | [], _ => by simp [PyData.depthAll]
  | d :: ds, h => by
    have h1 := h d List.mem_cons_self
    have h2 := depthAll_le (ds := ds) fun e he => h e (List.mem_cons_of_mem _ he)
    simp only [PyData.depthAll]
    omega
theorem cr_maxT (hc : X.calm = true) (hu : X.A.units + 64 < cLine) : CallR X (.builtin "max") (rMaxT X.K) := by
  intro pins s σ H vs us Q I r h
  obtain ⟨v, n, ms, rfl, hv, q⟩ := h
  obtain ⟨u, rfl, rx⟩ := vals1 r
  obtain ⟨a, xs, rfl, hs, dx⟩ := dp_tup hv
  cases rx
  obtain ⟨its, rv, ht, hz⟩ := I.tuple hs
  obtain ⟨as, ra⟩ := Dp.readsAll I _ _ _ dx rv
  have al : PySem.W.AlikeAll (.int n :: ms.map PyData.int) := by
    have sh : ∀ d ∈ (.int n :: ms.map PyData.int : List PyData), ∃ i, d = .int i := fun d hd => by
      rcases List.mem_cons.mp hd with e | e
      · exact ⟨n, e⟩
      · obtain ⟨i, _, e⟩ := List.mem_map.mp e
        exact ⟨i, e.symm⟩
    refine ⟨fun d hd e he => ?_, fun d hd => ?_⟩
    · obtain ⟨i, rfl⟩ := sh d hd
      obtain ⟨j, rfl⟩ := sh e he
      simp [alike]
    · obtain ⟨i, rfl⟩ := sh d hd
      simp
  have hd0 : PyData.depthAll (.int n :: ms.map PyData.int) ≤ 0 := depthAll_le fun d hd => by
    rcases List.mem_cons.mp hd with e | e
    · rw [e]; simp [PyData.depth]
    · obtain ⟨i, _, e⟩ := List.mem_map.mp e
      rw [← e]; simp [PyData.depth]
  refine PySem.W.max_tuple_data (I.ok.hd hc) (show s.heap.IsTuple a its.toArray from ht) ra al (by omega) fun i v h' tk bs hi hr hk => ?_
  rw [PySem.W.maxD_ints] at hr
  cases hr with
  | int _ t => exact ⟨.int _, H, I.kept hk, ⟨t, rfl⟩, q⟩
/-- min of a list of flat alike things -/
def rMinD (K : PySem.W.Frag) : List V → Hp → VK → Prop := fun vs H Q => ∃ v d ds, vs = [v] ∧ Dp K H v (.list (d :: ds)) ∧ flatA (d :: ds) = true ∧ PySem.W.AlikeAll (d :: ds) ∧ (∀ e ∈ d :: ds, e.depth ≤ 8) ∧
  ∀ x, Dp K H x (PySem.W.minD d ds) → Q x H
theorem cr_minD (hc : X.calm = true) (hu : X.A.units + 64 < cLine) : CallR X (.builtin "min") (rMinD X.K) := by
  intro pins s σ H vs us Q I r h
  obtain ⟨v, d, ds, rfl, hv, fl, al, de, q⟩ := h
  obtain ⟨u, rfl, rx⟩ := vals1 r
  obtain ⟨a, xs, rfl, hs, dx⟩ := dp_lst hv
  cases rx
  obtain ⟨its, rv, hl, hz⟩ := I.list hs
  obtain ⟨as, ra⟩ := Dp.readsAll I _ _ _ dx rv
  have hd8 := depthAll_le de
  refine PySem.W.min_list_data (I.ok.hd hc) hl.isList ra al (by omega) fun i u h' tk bs hi hr hk => ?_
  have hi' : its[i]? = some u := by simpa using hi
  have hlt : i < xs.length := by
    rw [rv.length]
    exact (List.getElem?_eq_some_iff.mp hi').1
  have hxi : xs[i]? = some xs[i] := List.getElem?_eq_getElem hlt
  obtain ⟨u', hu', ru⟩ := rv.get hxi
  rw [hi'] at hu'
  cases hu'
  obtain ⟨e, he, hde⟩ := dpa_atV dx hxi
  have fe : flat e = true := flatA_all.mp fl e (List.mem_of_getElem? he)
  have I1 : Inv X pins σ H { s with heap := h', toks := tk } := I.kept hk
  obtain ⟨cs, re⟩ := Dp.reads I1 e _ _ hde ru
  have ee := reads_inj _ _ _ _ _ fe re hr
  exact ⟨xs[i], H, I1, ru, q _ (ee ▸ hde)⟩
end
end Lw
set_option Elab.async false
set_option linter.all false
set_option maxRecDepth 100000
set_option maxHeartbeats 2000000
/-! iterators at the library's level: enumerate of a tuple, zip of tuples whose pairs are kept -/
namespace Lw
open PySem PySem.Spec PyProof.Rows L2

/-! ### zip of two tuples, each pair given to one name -/
abbrev ZipX (h : Heap) (m P O : Addr) (x0 : Value) (f : Bool) : Prop := h.get? m = some { cls := .type "zip", data := .fields #[x0, .bool f, .bool false, .ref P, .ref O] }
def OwnX (x0 : Value) : Prop := x0 = .none ∨ ∃ n : Nat, x0 = rawInt n
section
variable {prog : Program} {w : World} {A : Around} {E : Value → Shared → Prop} {s : Shared}
theorem alive_any {n : Addr} {Q : Option Obj → Shared → Prop} (h : Q (s.heap.get? n) s) : wpAny (model prog w) A (loadIfAlive n) Q E s := fun _ _ _ => h
theorem ownX_free {m P O : Addr} {x0 : Value} {f : Bool} {Q : Bool → Shared → Prop} (hm : ZipX s.heap m P O x0 f) (ox : OwnX x0)
    (h : ∀ b f' h', ZipX h' m P O x0 f' → Heap.SameBut m s.heap h' → Q b { s with heap := h' }) : wpAny (model prog w) A (Builtin.SmallTypes.ownedTupleIsFree (.ref m)) Q E s := by
  unfold Builtin.SmallTypes.ownedTupleIsFree
  rcases ox with e | ⟨n, e⟩
  · subst e
    exact wpAny_bind (wpAny_field hm rfl (x := .none) rfl (wpAny_pure (h _ _ _ hm (Heap.SameBut.refl _ _))))
  · subst e
    refine wpAny_bind (wpAny_field hm rfl (x := rawInt n) rfl ?_)
    show wpAny _ _ (loadIfAlive ((n : Int).toNat) >>= _) _ _ _
    refine wpAny_bind (alive_any ?_)
    rw [Int.toNat_natCast]
    cases s.heap.get? n with
    | none =>
      simp only [Option.isNone_none, if_true]
      exact wpAny_pure (h _ _ _ hm (Heap.SameBut.refl _ _))
    | some o =>
      simp only [Option.isNone_some, Bool.false_eq_true, if_false]
      refine wpAny_bind (wpAny_field hm rfl (x := .bool f) rfl ?_)
      cases f with
      | true =>
        rw [if_neg (show ¬ ((Value.bool true != Value.bool true) = true) by decide)]
        exact wpAny_pure (h _ _ _ hm (Heap.SameBut.refl _ _))
      | false =>
        rw [if_pos (show (Value.bool false != Value.bool true) = true by decide)]
        exact wpAny_bind (wpAny_setField_rec hm (by simp) fun h1 hm1 sb => wpAny_pure (h _ _ _ hm1 sb))

theorem zipX_item {m P O j1 j2 t1 t2 : Addr} {k1 k2 : Nat} {xs ys : Array Value} {x y a b x0 : Value} {f : Bool} {Q : Value → Shared → Prop} (D : ZipApart m P O j1 j2 t1 t2)
    (hm : ZipX s.heap m P O x0 f) (ox : OwnX x0) (hP : IsPair s.heap P (.ref j1) (.ref j2)) (hO : IsPair s.heap O a b)
    (h1 : s.heap.IsTupleIter j1 t1 k1) (h2 : s.heap.IsTupleIter j2 t2 k2) (g1 : s.heap.IsTuple t1 xs) (g2 : s.heap.IsTuple t2 ys) (hx : xs[k1]? = some x) (hy : ys[k2]? = some y)
    (hQ : ∀ h', (∃ x0 f, ZipX h' m P O x0 f ∧ OwnX x0) → (∃ a b, IsPair h' O a b) → h'.IsTupleIter j1 t1 (k1 + 1) → h'.IsTupleIter j2 t2 (k2 + 1) → IsPair h' s.heap.objs.size x y →
      (∀ c o, c ≠ m → c ≠ O → c ≠ j1 → c ≠ j2 → s.heap.get? c = some o → h'.get? c = some o) → Q (.ref s.heap.objs.size) { s with heap := h' }) :
    wpAny (model prog w) A (Builtin.«zip.__next__» ⟨[.ref m], []⟩) (fun fin s' => ∃ v, fin = .done (.ret v) ∧ Q v s') E s := by
  show wpAny _ _ (field (.ref m) 2 >>= _) _ _ _
  refine wpAny_bind (wpAny_field hm rfl (x := .bool false) rfl ?_)
  show wpAny _ _ (field (.ref m) 3 >>= _) _ _ _
  refine wpAny_bind (wpAny_field hm rfl (x := .ref P) rfl ?_)
  refine wpAny_bind (wpAny_seqItems hP rfl ?_)
  show wpAny _ _ (Builtin.SmallTypes.ownedTupleIsFree (.ref m) >>= _) _ _ _
  refine wpAny_bind (ownX_free hm ox fun fr f' h0 hm0 s0 => ?_)
  have kO : IsPair h0 O a b := s0.extBut _ _ D.TOz hO
  have kj1 : h0.IsTupleIter j1 t1 k1 := h1.extBut s0.extBut D.i1z
  have kj2 : h0.IsTupleIter j2 t2 k2 := h2.extBut s0.extBut D.i2z
  have kt1 : h0.IsTuple t1 xs := g1.extBut s0.extBut D.l1z
  have kt2 : h0.IsTuple t2 ys := g2.extBut s0.extBut D.l2z
  cases fr with
  | false =>
    simp only [Bool.false_eq_true, if_false]
    refine wpAny_bind ?_
    rw [← Array.forIn_toList]
    simp only [List.forIn_cons, List.forIn_nil]
    refine wpAny_bind (wpAny_bind (wpAny_holding ?_))
    show wpAny _ _ (Builtin.SmallTypes.nextOf (.ref j1) >>= _) _ _ _
    refine wpAny_bind (RZ.nextOf_tuple_item (s := { s with heap := h0 }) kj1 kt1 hx fun u1 i1 r1 => wpAny_pure (wpAny_pure ?_))
    refine wpAny_bind (wpAny_bind (wpAny_holding ?_))
    show wpAny _ _ (Builtin.SmallTypes.nextOf (.ref j2) >>= _) _ _ _
    refine wpAny_bind (RZ.nextOf_tuple_item (s := { s with heap := u1 }) (kj2.extBut r1.extBut D.i12.symm) (kt2.extBut r1.extBut D.l2i1) hy fun u2 i2 r2 => wpAny_pure (wpAny_pure (wpAny_pure ?_)))
    show wpAny _ _ (newTuple [x, y] >>= _) _ _ _
    refine wpAny_bind (wpAny_newTuple (wpAny_pure ⟨_, rfl, ?_⟩))
    have hsz : u2.objs.size = s.heap.objs.size := by rw [r2.1, r1.1, s0.1]
    have hm2 : ZipX u2 m P O x0 f' := r2.extBut _ _ D.i2z.symm (r1.extBut _ _ D.i1z.symm hm0)
    have hO2 : IsPair u2 O a b := r2.extBut _ _ D.TOi2 (r1.extBut _ _ D.TOi1 kO)
    have kp : ∀ c o, c ≠ m → c ≠ O → c ≠ j1 → c ≠ j2 → s.heap.get? c = some o → u2.get? c = some o := fun c o c1 _ c3 c4 e => r2.extBut _ _ c4 (r1.extBut _ _ c3 (s0.extBut _ _ c1 e))
    have i1' : u2.IsTupleIter j1 t1 (k1 + 1) := i1.extBut r2.extBut D.i12
    show Q (.ref u2.objs.size) _
    have np : IsPair (u2.push { cls := .type "tuple", data := .seq #[x, y] }) u2.objs.size x y := Heap.get?_push_size _ rfl
    rw [hsz] at np ⊢
    exact hQ _ ⟨x0, f', Heap.get?_push_of_some _ hm2, ox⟩ ⟨a, b, Heap.get?_push_of_some _ hO2⟩ (i1'.at fun o e => Heap.get?_push_of_some _ e) (i2.at fun o e => Heap.get?_push_of_some _ e) np
      fun c o c1 c2 c3 c4 e => Heap.get?_push_of_some _ (kp c o c1 c2 c3 c4 e)
  | true =>
    simp only [if_true]
    refine wpAny_bind (wpAny_rule ?_)
    refine wpAny_bind (wpAny_field hm0 rfl (x := .ref O) rfl ?_)
    refine wpAny_bind (wpAny_setField_rec hm0 (by simp) fun u1 m1 r1 => ?_)
    replace m1 : ZipX u1 m P O .ellipsis f' := m1
    refine wpAny_bind ?_
    simp only [List.zipIdx_cons, List.zipIdx_nil, List.forIn_cons, List.forIn_nil]
    refine wpAny_bind (wpAny_bind (wpAny_onRaise ?_))
    show wpAny _ _ (Builtin.SmallTypes.nextOf (.ref j1) >>= _) _ _ _
    refine wpAny_bind (RZ.nextOf_tuple_item (kj1.extBut r1.extBut D.i1z) (kt1.extBut r1.extBut D.l1z) hx fun u2 i1 r2 => wpAny_pure ?_)
    have O2 : IsPair u2 O a b := r2.extBut _ _ D.TOi1 (r1.extBut _ _ D.TOz kO)
    refine wpAny_bind (wpAny_seqItems O2 rfl ?_)
    refine wpAny_bind (wpAny_updateSeq_pair O2 fun u3 O3 r3 => ?_)
    replace O3 : IsPair u3 O x b := O3
    refine wpAny_bind (wpAny_letGo (wpAny_pure ?_))
    refine wpAny_bind (wpAny_bind (wpAny_onRaise ?_))
    show wpAny _ _ (Builtin.SmallTypes.nextOf (.ref j2) >>= _) _ _ _
    refine wpAny_bind (RZ.nextOf_tuple_item (((kj2.extBut r1.extBut D.i2z).extBut r2.extBut D.i12.symm).extBut r3.extBut D.TOi2.symm)
      (((kt2.extBut r1.extBut D.l2z).extBut r2.extBut D.l2i1).extBut r3.extBut D.l2TO) hy fun u4 i2 r4 => wpAny_pure ?_)
    have O4 : IsPair u4 O x b := r4.extBut _ _ D.TOi2 O3
    refine wpAny_bind (wpAny_seqItems O4 rfl ?_)
    refine wpAny_bind (wpAny_updateSeq_pair O4 fun u5 O5 r5 => ?_)
    replace O5 : IsPair u5 O x y := O5
    refine wpAny_bind (wpAny_letGo (wpAny_pure (wpAny_pure ?_)))
    refine wpAny_bind (wpAny_seqItems O5 rfl (wpAny_bind (wpAny_newTuple ?_)))
    have hsz : u5.objs.size = s.heap.objs.size := by rw [r5.1, r4.1, r3.1, r2.1, r1.1, s0.1]
    have m5 : ZipX u5 m P O .ellipsis f' := r5.extBut _ _ D.TOz.symm (r4.extBut _ _ D.i2z.symm (r3.extBut _ _ D.TOz.symm (r2.extBut _ _ D.i1z.symm m1)))
    have kp : ∀ c o, c ≠ m → c ≠ O → c ≠ j1 → c ≠ j2 → s.heap.get? c = some o → u5.get? c = some o := fun c o c1 c2 c3 c4 e =>
      r5.extBut _ _ c2 (r4.extBut _ _ c4 (r3.extBut _ _ c2 (r2.extBut _ _ c3 (r1.extBut _ _ c1 (s0.extBut _ _ c1 e)))))
    have i1' : u5.IsTupleIter j1 t1 (k1 + 1) := ((i1.extBut r3.extBut D.TOi1.symm).extBut r4.extBut D.i12).extBut r5.extBut D.TOi1.symm
    have i2' : u5.IsTupleIter j2 t2 (k2 + 1) := i2.extBut r5.extBut D.TOi2.symm
    have ml : m < u5.objs.size := Heap.lt_size m5
    show wpAny _ _ (Builtin.SmallTypes.ownedTupleHandOut (.ref m) (.ref u5.objs.size) >>= _) _ _ _
    refine wpAny_bind ?_
    unfold Builtin.SmallTypes.ownedTupleHandOut
    have m6 : ZipX (u5.push { cls := .type "tuple", data := .seq #[x, y] }) m P O .ellipsis f' := Heap.get?_push_of_some _ m5
    refine wpAny_bind (wpAny_setField_rec m6 (by simp) fun u7 m7 r7 => ?_)
    replace m7 : ZipX u7 m P O (rawInt u5.objs.size) f' := m7
    refine wpAny_setField_rec m7 (by simp) fun u8 m8 r8 => ?_
    replace m8 : ZipX u8 m P O (rawInt u5.objs.size) false := m8
    have up : ∀ c o, c ≠ m → u5.get? c = some o → u8.get? c = some o := fun c o c1 e => r8.extBut _ _ c1 (r7.extBut _ _ c1 (Heap.get?_push_of_some _ e))
    have np : IsPair u8 u5.objs.size x y := r8.extBut _ _ (Nat.ne_of_gt ml) (r7.extBut _ _ (Nat.ne_of_gt ml) (Heap.get?_push_size _ rfl))
    refine wpAny_pure ⟨_, rfl, ?_⟩
    show Q (.ref u5.objs.size) _
    rw [hsz] at np m8 ⊢
    exact hQ u8 ⟨_, _, m8, .inr ⟨_, rfl⟩⟩ ⟨x, y, up _ _ D.TOz O5⟩ (i1'.at fun o e => up _ o D.i1z e) (i2'.at fun o e => up _ o D.i2z e) np fun c o c1 c2 c3 c4 e => up c o c1 (kp c o c1 c2 c3 c4 e)
theorem zipX_end {m P O j1 j2 t1 t2 : Addr} {k1 k2 : Nat} {xs ys : Array Value} {a b x0 : Value} {f : Bool} {Q : Fin → Shared → Prop} (hh : A.handled = none) (D : ZipApart m P O j1 j2 t1 t2)
    (hm : ZipX s.heap m P O x0 f) (ox : OwnX x0) (hP : IsPair s.heap P (.ref j1) (.ref j2)) (hO : IsPair s.heap O a b)
    (h1 : s.heap.IsTupleIter j1 t1 k1) (h2 : s.heap.IsTupleIter j2 t2 k2) (g1 : s.heap.IsTuple t1 xs) (g2 : s.heap.IsTuple t2 ys) (he : xs[k1]? = none ∨ ys[k2]? = none)
    (hE : ∀ h' e, (∀ c o, c ≠ m → c ≠ O → c ≠ j1 → c ≠ j2 → s.heap.get? c = some o → h'.get? c = some o) → (∃ o, h'.get? e = some o ∧ o.cls = .type "StopIteration") → E (.ref e) { s with heap := h' }) :
    wpAny (model prog w) A (Builtin.«zip.__next__» ⟨[.ref m], []⟩) Q E s := by
  show wpAny _ _ (field (.ref m) 2 >>= _) _ _ _
  refine wpAny_bind (wpAny_field hm rfl (x := .bool false) rfl ?_)
  show wpAny _ _ (field (.ref m) 3 >>= _) _ _ _
  refine wpAny_bind (wpAny_field hm rfl (x := .ref P) rfl ?_)
  refine wpAny_bind (wpAny_seqItems hP rfl ?_)
  show wpAny _ _ (Builtin.SmallTypes.ownedTupleIsFree (.ref m) >>= _) _ _ _
  refine wpAny_bind (ownX_free hm ox fun fr f' h0 hm0 s0 => ?_)
  have kO : IsPair h0 O a b := s0.extBut _ _ D.TOz hO
  have kj1 : h0.IsTupleIter j1 t1 k1 := h1.extBut s0.extBut D.i1z
  have kj2 : h0.IsTupleIter j2 t2 k2 := h2.extBut s0.extBut D.i2z
  have kt1 : h0.IsTuple t1 xs := g1.extBut s0.extBut D.l1z
  have kt2 : h0.IsTuple t2 ys := g2.extBut s0.extBut D.l2z
  cases fr with
  | false =>
    simp only [Bool.false_eq_true, if_false]
    refine wpAny_bind ?_
    rw [← Array.forIn_toList]
    simp only [List.forIn_cons, List.forIn_nil]
    refine wpAny_bind (wpAny_bind (wpAny_holding ?_))
    show wpAny _ _ (Builtin.SmallTypes.nextOf (.ref j1) >>= _) _ _ _
    cases hx : xs[k1]? with
    | none =>
      refine wpAny_bind (RZ.nextOf_tuple_end (s := { s with heap := h0 }) hh kj1 kt1 hx fun u1 e r1 te => ?_)
      exact hE u1 e (fun c o c1 _ c3 _ q => r1 _ _ c3 (s0.extBut _ _ c1 q)) te
    | some x =>
      have hy : ys[k2]? = none := by rcases he with h | h; rw [hx] at h; cases h; exact h
      refine wpAny_bind (RZ.nextOf_tuple_item (s := { s with heap := h0 }) kj1 kt1 hx fun u1 i1 r1 => wpAny_pure (wpAny_pure ?_))
      refine wpAny_bind (wpAny_bind (wpAny_holding ?_))
      show wpAny _ _ (Builtin.SmallTypes.nextOf (.ref j2) >>= _) _ _ _
      refine wpAny_bind (RZ.nextOf_tuple_end (s := { s with heap := u1 }) hh (kj2.extBut r1.extBut D.i12.symm) (kt2.extBut r1.extBut D.l2i1) hy fun u2 e r2 te => ?_)
      exact hE u2 e (fun c o c1 _ c3 c4 q => r2 _ _ c4 (r1.extBut _ _ c3 (s0.extBut _ _ c1 q))) te
  | true =>
    simp only [if_true]
    refine wpAny_bind (wpAny_rule ?_)
    refine wpAny_bind (wpAny_field hm0 rfl (x := .ref O) rfl ?_)
    refine wpAny_bind (wpAny_setField_rec hm0 (by simp) fun u1 m1 r1 => ?_)
    replace m1 : ZipX u1 m P O .ellipsis f' := m1
    refine wpAny_bind ?_
    simp only [List.zipIdx_cons, List.zipIdx_nil, List.forIn_cons, List.forIn_nil]
    refine wpAny_bind (wpAny_bind (wpAny_onRaise ?_))
    show wpAny _ _ (Builtin.SmallTypes.nextOf (.ref j1) >>= _) _ _ _
    cases hx : xs[k1]? with
    | none =>
      refine wpAny_bind (RZ.nextOf_tuple_end hh (kj1.extBut r1.extBut D.i1z) (kt1.extBut r1.extBut D.l1z) hx fun u2 e r2 te => ?_)
      obtain ⟨oe, hoe, hce⟩ := te
      have m2 : ZipX u2 m P O .ellipsis f' := r2 _ _ D.i1z.symm m1
      have em : e ≠ m := fun q => by subst q; rw [m2] at hoe; cases hoe; simp at hce
      exact wpAny_setField_rec m2 (by simp) fun u3 _ r3 => hE u3 e (fun c o c1 _ c3 _ q => r3.extBut _ _ c1 (r2 _ _ c3 (r1.extBut _ _ c1 (s0.extBut _ _ c1 q)))) ⟨oe, r3.extBut _ _ em hoe, hce⟩
    | some x =>
      have hy : ys[k2]? = none := by rcases he with h | h; rw [hx] at h; cases h; exact h
      refine wpAny_bind (RZ.nextOf_tuple_item (kj1.extBut r1.extBut D.i1z) (kt1.extBut r1.extBut D.l1z) hx fun u2 i1 r2 => wpAny_pure ?_)
      have O2 : IsPair u2 O a b := r2.extBut _ _ D.TOi1 (r1.extBut _ _ D.TOz kO)
      refine wpAny_bind (wpAny_seqItems O2 rfl ?_)
      refine wpAny_bind (wpAny_updateSeq_pair O2 fun u3 O3 r3 => ?_)
      refine wpAny_bind (wpAny_letGo (wpAny_pure ?_))
      refine wpAny_bind (wpAny_bind (wpAny_onRaise ?_))
      show wpAny _ _ (Builtin.SmallTypes.nextOf (.ref j2) >>= _) _ _ _
      refine wpAny_bind (RZ.nextOf_tuple_end hh (((kj2.extBut r1.extBut D.i2z).extBut r2.extBut D.i12.symm).extBut r3.extBut D.TOi2.symm)
        (((kt2.extBut r1.extBut D.l2z).extBut r2.extBut D.l2i1).extBut r3.extBut D.l2TO) hy fun u4 e r4 te => ?_)
      obtain ⟨oe, hoe, hce⟩ := te
      have m4 : ZipX u4 m P O .ellipsis f' := r4 _ _ D.i2z.symm (r3.extBut _ _ D.TOz.symm (r2.extBut _ _ D.i1z.symm m1))
      have em : e ≠ m := fun q => by subst q; rw [m4] at hoe; cases hoe; simp at hce
      exact wpAny_setField_rec m4 (by simp) fun u5 _ r5 => hE u5 e (fun c o c1 c2 c3 c4 q => r5.extBut _ _ c1 (r4 _ _ c4 (r3.extBut _ _ c2 (r2.extBut _ _ c3 (r1.extBut _ _ c1 (s0.extBut _ _ c1 q)))))) ⟨oe, r5.extBut _ _ em hoe, hce⟩
end
section
variable {P : Program} {w : World} {K : PySem.W.Frag}
theorem turn_zipX {x : Str} {tpos : Pos} {a b m Q O j1 j2 : Addr} (D : ZipApart m Q O j1 j2 a b) :
    Turn P w K (.Name x tpos) (RZ.ItzT K a b) [m, Q, O, j1, j2] m (fun i h => (∃ x0 f, ZipX h m Q O x0 f ∧ OwnX x0) ∧ IsPair h Q (.ref j1) (.ref j2) ∧ (∃ x y, IsPair h O x y) ∧ h.IsTupleIter j1 a i ∧ h.IsTupleIter j2 b i) where
  mem := by simp
  obj := fun i h st c hc => by
    obtain ⟨⟨x0, f, hm, _⟩, hQ, ⟨x, y, hO⟩, ⟨o1, e1, _, d1⟩, ⟨o2, e2, _, d2⟩⟩ := st
    have hc' : c = m ∨ c = Q ∨ c = O ∨ c = j1 ∨ c = j2 := by simpa using hc
    rcases hc' with q | q | q | q | q
    · rw [q]; exact ⟨_, hm, fun v z => nomatch z⟩
    · rw [q]; exact ⟨_, hQ, fun v z => nomatch z⟩
    · rw [q]; exact ⟨_, hO, fun v z => nomatch z⟩
    · rw [q]; exact ⟨o1, e1, fun v z => by rw [d1] at z; cases z⟩
    · rw [q]; exact ⟨o2, e2, fun v z => by rw [d2] at z; cases z⟩
  keep := fun i h h' st k => by
    obtain ⟨⟨x0, f, hm, ox⟩, hQ, ⟨x, y, hO⟩, h1, h2⟩ := st
    exact ⟨⟨x0, f, k m (by simp) _ hm, ox⟩, k Q (by simp) _ hQ, ⟨x, y, k O (by simp) _ hO⟩, h1.at fun o q => k j1 (by simp) o q, h2.at fun o q => k j2 (by simp) o q⟩
  item := by
    intro X hP hw hK hc i pins s σ H E I hf st hg
    subst hP hw hK
    obtain ⟨⟨x0, f, hm, ox⟩, hQ, ⟨x0', y0', hO⟩, h1, h2⟩ := st
    obtain ⟨xs, ys, x, y, hqx, hqy, hx, hy⟩ := hg
    obtain ⟨its, rv, p, _⟩ := I.tuple hqx
    obtain ⟨its2, rv2, p2, _⟩ := I.tuple hqy
    obtain ⟨u, hu, ru⟩ := rv.get hx
    obtain ⟨u2, hu2, ru2⟩ := rv2.get hy
    have hT : s.TypeIs (.ref m) "zip" := ⟨_, hm, rfl⟩
    unfold pyNext
    refine wpAny_bind (wpAny_attempt (wpAny_callSpecial?_slot (name := Str.ofString "__next__") hT F.slot_zip_next (wpAny_call_entry F.slot_zip_next hT F.entry_zip_next
      (zipX_item D hm ox hQ hO h1 h2 p p2 (x := u) (y := u2) (by simpa using hu) (by simpa using hu2) fun h' a1 a2 a3 a4 a5 a6 => wpAny_pure ?_) (F.args_zip_next_1 _))))
    refine ⟨_, rfl, wpAny_pure ?_⟩
    have new : ObjOk X.prog X.w (upd H s.heap.objs.size (.tup [x, y])) h' s.heap.objs.size (.tup [x, y]) := ⟨by show 2 ≤ sizeLine; decide, [u, u2], .cons ru (.cons ru2 .nil), ⟨_, a5, rfl, _, rfl⟩⟩
    have I1 : Inv X pins σ (upd H s.heap.objs.size (.tup [x, y])) { s with heap := h' } :=
      I.turnedNew (t' := s.toks) (ch := [m, Q, O, j1, j2]) (fun c o hb q => a6 c o (fun z => hb (by simp [z])) (fun z => hb (by simp [z])) (fun z => hb (by simp [z])) (fun z => hb (by simp [z])) q) hf (Nat.le_refl _) new
    refine ⟨.ref s.heap.objs.size, _, I1, rfl, ⟨_, x, y, rfl, I.hok.fresh (Nat.le_refl _), rfl, fun l hl => by rw [I.tuple_inj hl hqx]; exact hx, fun l hl => by rw [I.tuple_inj hl hqy]; exact hy⟩, ⟨a1, a6 _ _ D.TIz D.TITO D.TIi1 D.TIi2 hQ, a2, a3, a4⟩, fun c hcm => ?_⟩
    have hlt : c < s.heap.objs.size := by
      have hc' : c = m ∨ c = Q ∨ c = O ∨ c = j1 ∨ c = j2 := by simpa using hcm
      obtain ⟨_, e1, _⟩ := h1
      obtain ⟨_, e2, _⟩ := h2
      rcases hc' with q | q | q | q | q
      · exact q ▸ Heap.lt_size hm
      · exact q ▸ Heap.lt_size hQ
      · exact q ▸ Heap.lt_size hO
      · exact q ▸ Heap.lt_size e1
      · exact q ▸ Heap.lt_size e2
    rw [upd_ne (Nat.ne_of_lt hlt)]
    exact (hf c hcm).1
  done := by
    intro X hP hw hK hc i pins s σ H E I hf st hg
    subst hP hw hK
    obtain ⟨⟨x0, f, hm, ox⟩, hQ, ⟨x0', y0', hO⟩, h1, h2⟩ := st
    obtain ⟨xs, ys, hqx, hqy, hend⟩ := hg
    obtain ⟨its, rv, p, _⟩ := I.tuple hqx
    obtain ⟨its2, rv2, p2, _⟩ := I.tuple hqy
    have l1 := rv.length
    have l2 := rv2.length
    have he : its.toArray[i]? = none ∨ its2.toArray[i]? = none := by
      rcases hend with q | q
      · exact .inl (by simp; omega)
      · exact .inr (by simp; omega)
    have hT : s.TypeIs (.ref m) "zip" := ⟨_, hm, rfl⟩
    unfold pyNext
    refine wpAny_bind (wpAny_attempt (wpAny_callSpecial?_slot (name := Str.ofString "__next__") hT F.slot_zip_next (wpAny_call_entry F.slot_zip_next hT F.entry_zip_next
      (zipX_end (I.ok.hd hc) D hm ox hQ hO h1 h2 p p2 he fun h' e hk te => ?_) (F.args_zip_next_1 _))))
    obtain ⟨o, ho, hc2⟩ := te
    refine wpAny_bind (wpAny_isInstance (T := "StopIteration") (b := true) ⟨o, ho, hc2⟩ isSubtype_stop (wpAny_pure ⟨rfl, ?_⟩))
    exact I.turnedL (t' := s.toks) (ch := [m, Q, O, j1, j2]) (fun c o hb q => hk c o (fun z => hb (by simp [z])) (fun z => hb (by simp [z])) (fun z => hb (by simp [z])) (fun z => hb (by simp [z])) q) hf
  self := fun A i s Q E st h => by
    obtain ⟨⟨x0, f, hm, _⟩, _⟩ := st
    have hT : s.TypeIs (.ref m) "zip" := ⟨_, hm, rfl⟩
    exact wpAny_pyIter_slot hT F.slot_zip_iter (wpAny_call_entry F.slot_zip_iter hT F.entry_zip_iter (wpAny_pure ⟨_, rfl, "zip", _, hT, F.slot_zip_next.lookup, h⟩) (F.args_zip_iter_1 _))
end
end Lw
set_option Elab.async false
set_option linter.all false
set_option maxRecDepth 100000
set_option maxHeartbeats 2000000
/-! zip by one name, enumerate of tuples, as things walked -/
namespace PySem
open Sem (wp)
set_option maxHeartbeats 4000000 in
theorem meets_enum1 {v : Value} {o : Obj} {J : Heap → Prop} (B : Begins v o J) :
    Meets (Builtin.«enumerate.__new__» ⟨[.type "enumerate", v], []⟩) (fun _ R s => J s.heap ∧
      R (.ok (.ret (.ref (s.heap.push o).objs.size))) { s with heap := (s.heap.push o).push { cls := .type "enumerate", data := .fields #[.none, .bool false, .ref s.heap.objs.size, rawInt 0, .none, .none] } }) :=
  .of_wp fun prog w A R s h => by
    obtain ⟨hp, g, d, tk, os⟩ := s
    obtain ⟨j1, h⟩ := h
    have hsub := sub_enumerate
    have qq : ∀ {A' : Around} {E : Value → Shared → Prop} {Q : Value → Shared → Prop}, Q (.ref hp.objs.size) ⟨hp.push o, g, d, tk, os⟩ → wpAny (model prog w) A' (pyIter v) Q E ⟨hp, g, d, tk, os⟩ :=
      fun q => B.iter prog w _ _ ⟨hp, g, d, tk, os⟩ _ j1 q
    wp_walk using qq
    refine wpAny_stack_any fun st => wpAny_pure ?_
    split
    · rename_i c _ _ _ _ _
      cases (c == Value.type "enumerate")
      · wp_walk using qq
        exact ⟨_, rfl, h⟩
      · wp_walk using qq
        exact ⟨_, rfl, h⟩
    · wp_walk using qq
      exact ⟨_, rfl, h⟩
section
variable {prog : Program} {w : World} {A : Around} {E : Value → Shared → Prop} {s : Shared}
theorem enum1_begins {v : Value} {o : Obj} {J : Heap → Prop} {Q : Value → Shared → Prop} (B : Begins v o J) (j1 : J s.heap)
    (h : ∀ h', IsEnum h' (s.heap.objs.size + 1) s.heap.objs.size 0 .none → h'.get? s.heap.objs.size = some o → h'.objs.size = s.heap.objs.size + 2 →
      (∀ b u, s.heap.get? b = some u → h'.get? b = some u) → Q (.ref (s.heap.objs.size + 1)) { s with heap := h' }) :
    wpAny (model prog w) A (call (.type "enumerate") [v]) Q E s := by
  refine callType_new F.called_enumerate (by decide) (F.typeCall_enumerate_1 _) (F.newCall_enumerate_1 _) (fun obj => F.args_object_init_2 obj _) F.entry_enumerate_new
    (meets_enum1 B) ⟨j1, ?_⟩
  have hz : (s.heap.push o).objs.size = s.heap.objs.size + 1 := Heap.size_push ..
  show _ ∧ _
  rw [hz]
  have he : IsEnum ((s.heap.push o).push { cls := .type "enumerate", data := .fields #[.none, .bool false, .ref s.heap.objs.size, rawInt 0, .none, .none] }) (s.heap.objs.size + 1) s.heap.objs.size 0 .none := by
    have := Heap.get?_push_size (s.heap.push o) (o := { cls := .type "enumerate", data := .fields #[.none, .bool false, .ref s.heap.objs.size, rawInt 0, .none, .none] }) rfl
    rw [hz] at this
    exact this
  refine ⟨⟨_, he, rfl⟩, h _ he (Heap.get?_push_of_some _ (Heap.get?_push_size _ B.free)) (by rw [Heap.size_push, hz]) fun b u x => Heap.get?_push_of_some _ (Heap.get?_push_of_some _ x)⟩
end
end PySem
namespace Lw
open PySem PySem.Spec PyProof.Rows L2
open LamX (ExtN Tabs TabS CodeO)

def fresh_many {X : Cx} {pins : List (Addr × Obj)} {σ : L2.St} {H : Hp} {s : Shared} (I : Inv X pins σ H s) {fp : List Addr} (hl : ∀ b ∈ fp, s.heap.objs.size ≤ b) : ∀ b ∈ fp, FpOk X pins H b := fun b hb =>
  I.fpOk (hl b hb) (I.hok.fresh (hl b hb))

def iZip1 (K : PySem.W.Frag) (ta : TA) : TI := fun σ H R => ta σ H fun vs H1 => ∃ a b xs ys, vs = [.ref a, .ref b] ∧ SqT K H1 a xs ∧ SqT K H1 b ys ∧ R (RZ.ItzT K a b) H1
theorem pi_zip1 {X : Cx} {e e2 : Expr} {ta : TA} {p pos tpos : Pos} {x : Str} (hg : Gl X "zip") (hm : X.mg "zip" = none) (ha : PA X [e, e2] ta)
    (hs : starEach [e, e2] X.env = (false, eval e X.env) :: starEach [e2] X.env := by rfl) (hpl : (backTo pos (starEach [e2] X.env)).any (·.1) = false := by rfl) :
    PI X (.Name x tpos) (.Call (.Name "zip" p) [e, e2] [] pos) (iZip1 X.K ta) := by
  refine ⟨fun pins s σ H R I h => ?_⟩
  refine Call_ (ld_blt I hg hm PyProof.Rows.boot_zip (PyProof.Rows.callWith_type1 (thn (ha.run pos pins s σ H _ I h) fun us s1 ⟨vs, H1, I1, r1, q1⟩ => ?_) hs hpl))
  obtain ⟨a, b, xs, ys, ex, hqx, hqy, q⟩ := q1
  subst ex
  cases r1 with
  | cons r rr =>
    cases rr with
    | cons r' rr =>
      cases rr
      cases r
      cases r'
      obtain ⟨its, rv, p1, _⟩ := I1.tuple hqx
      obtain ⟨its2, rv2, p2, _⟩ := I1.tuple hqy
      obtain ⟨o1, ho1, _⟩ := id p1
      obtain ⟨o2, ho2, _⟩ := id p2
      refine RZ.call_zipT (show s1.heap.IsTuple a its.toArray from p1) (show s1.heap.IsTuple b its2.toArray from p2) fun h' hz hTI hTO h1 h2 hsz hk => wpAny_pyIter_zip hz ?_
      have I2 : Inv X pins σ H1 { s1 with heap := h' } := I1.kept (t' := s1.toks) hk
      exact ⟨s1.heap.objs.size + 4, [s1.heap.objs.size + 4, s1.heap.objs.size + 2, s1.heap.objs.size + 3, s1.heap.objs.size, s1.heap.objs.size + 1], _, _, H1, rfl, I2, turn_zipX (PySem.W.ktu_apart s1.heap.objs.size a b (Heap.lt_size ho1) (Heap.lt_size ho2)),
        ⟨⟨_, _, hz, .inl rfl⟩, hTI, ⟨_, _, hTO⟩, h1, h2⟩, fresh_many I1 (fun c hc => by simp at hc; rcases hc with hc | hc | hc | hc | hc <;> rw [hc] <;> simp), q⟩

/-! ### enumerate(tuple) -/
def IteT (K : PySem.W.Frag) (a : Addr) (n : Nat) : It :=
  ⟨fun i H => ∃ (xs : List V) (x : V), SqT K H a xs ∧ xs[i]? = some x ∧ xs.length = n, fun i H v H' => ∃ T x, v = .ref T ∧ H T = none ∧ H' = upd H T (.tup [.int (i : Nat), x]) ∧ ∀ xs, SqT K H a xs → xs[i]? = some x, fun i H => ∃ xs : List V, SqT K H a xs ∧ xs.length ≤ i ∧ xs.length = n⟩
theorem turn_enumT {P : Program} {w : World} {K : PySem.W.Frag} {elts : List Expr} {kk : Nat} {tpos : Pos} (a e it : Addr) (n : Nat) :
    Turn P w K (.Tuple elts kk tpos) (IteT K a n) [e, it] e (fun i h => (∃ old, IsEnum h e it ((i : Nat) : Int) old) ∧ h.IsTupleIter it a i ∧ e ≠ it ∧ a ≠ it ∧ e ≠ a ∧ i ≤ n) where
  mem := by simp
  obj := fun i h st b hb => by
    obtain ⟨⟨old, he⟩, ⟨o, ho, hc, hd⟩, _⟩ := st
    have e' : b = e ∨ b = it := by simpa using hb
    rcases e' with z | z
    · rw [z]; exact ⟨_, he, fun v q => nomatch q⟩
    · rw [z]; exact ⟨o, ho, fun v q => by rw [hd] at q; cases q⟩
  keep := fun i h h' st k => let ⟨⟨old, he⟩, hi, hne⟩ := st; ⟨⟨old, k e (by simp) _ he⟩, hi.at fun o q => k it (by simp) o q, hne⟩
  item := by
    intro X hP hw hK hc i pins s σ H E I hf st hg
    subst hP hw hK
    obtain ⟨⟨old, he⟩, hit, hne, hai, hea, hin⟩ := st
    obtain ⟨xs, x, hq, hx, hxn⟩ := hg
    obtain ⟨its, rv, p, hz⟩ := I.tuple hq
    obtain ⟨u, hu, ru⟩ := rv.get hx
    have hel : e < s.heap.objs.size := Heap.lt_size he
    have hil : it < s.heap.objs.size := by obtain ⟨_, q, _⟩ := hit; exact Heap.lt_size q
    have hlt : i < its.toArray.size := by
      have := (List.getElem?_eq_some_iff.mp hu).1
      simpa using this
    refine wpAny_pyNext_enum_itemD (Draws.tuple (A := X.A.in1) (I.ok.hd hc) it a hai its.toArray) he ⟨hit, p⟩ hlt hne (by simp [hne, hea]) fun x' h' tk hx' ho st' hT hsz hk => ?_
    have ex' : x' = u := by
      have : its[i]? = some x' := by simpa using hx'
      rw [this] at hu
      exact Option.some.inj hu
    subst ex'
    refine ⟨_, rfl, wpAny_letOwnedTupleGo_enum (s := { s with heap := h', toks := tk + 1 }) ho fun h'' he' sb => ?_⟩
    have hT2 : h''.get? s.heap.objs.size = some { cls := .type "tuple", data := .seq #[.int i tk, x'] } := (sb.2 _ (Nat.ne_of_gt hel)).trans hT
    have new : ObjOk X.prog X.w (upd H s.heap.objs.size (.tup [.int (i : Nat), x])) h'' s.heap.objs.size (.tup [.int (i : Nat), x]) :=
      ⟨by show 2 ≤ sizeLine; decide, [.int i tk, x'], .cons ⟨_, rfl⟩ (.cons ru .nil), ⟨_, hT2, rfl, _, rfl⟩⟩
    have I1 : Inv X pins σ (upd H s.heap.objs.size (.tup [.int (i : Nat), x])) { s with heap := h'', toks := tk + 1 } :=
      I.turnedNew (ch := [e, it]) (fun b ob hb q => (sb.2 b (fun z => hb (by simp [z]))).trans (hk b ob (fun z => hb (by simp [z])) (fun z => hb (by simp [z])) q)) hf (Nat.le_refl _) new
    refine ⟨.ref s.heap.objs.size, _, I1, rfl, ⟨_, x, rfl, I.hok.fresh (Nat.le_refl _), rfl, fun ys hy => by rw [I.tuple_inj hy hq]; exact hx⟩, ⟨⟨x', ?_⟩, st'.1.at fun o q => (sb.2 it (Ne.symm hne)).trans q, hne, hai, hea, by rw [← hxn]; exact (List.getElem?_eq_some_iff.mp hx).1⟩, fun b hb => ?_⟩
    · have e1 : ((i + 1 : Nat) : Int) = (i : Int) + 1 := by omega
      rw [e1]
      exact he'
    · have hb' : b < s.heap.objs.size := by
        have e' : b = e ∨ b = it := by simpa using hb
        rcases e' with z | z
        · rw [z]; exact hel
        · rw [z]; exact hil
      rw [upd_ne (Nat.ne_of_lt hb')]
      exact (hf b hb).1
  done := by
    intro X hP hw hK hc i pins s σ H E I hf st hg
    subst hP hw hK
    obtain ⟨⟨old, he⟩, hit, hne, hai, hea, hin⟩ := st
    obtain ⟨xs, hq, hx, hxn⟩ := hg
    obtain ⟨its, rv, p, hz⟩ := I.tuple hq
    obtain ⟨f0, f1, f2, f3, f4, f5⟩ := hf it (by simp)
    have hl := rv.length
    have ei : i = its.toArray.size := by rw [List.size_toArray]; omega
    have st' : s.heap.IsTupleIter it a its.toArray.size ∧ s.heap.IsTuple a its.toArray := ⟨by rw [← ei]; exact hit, p⟩
    exact wpAny_pyNext_enum_endD (Draws.tuple (prog := X.prog) (w := X.w) (A := X.A.in1) (I.ok.hd hc) it a hai its.toArray) he st' fun h' eb => ⟨rfl, I.turned (t' := s.toks) (fun b o hb q => eb b o hb q) f0 f1 f3 f4 f5⟩
  self := fun A i s Q E st h => let ⟨⟨_, he⟩, _⟩ := st; wpAny_pyIter_enum he h
def iEnumT (K : PySem.W.Frag) (ta : TA) : TI := fun σ H R => ta σ H fun vs H1 => ∃ a xs, vs = [.ref a] ∧ SqT K H1 a xs ∧ R (IteT K a xs.length) H1
theorem pi_enumT {X : Cx} {e : Expr} {ta : TA} {p pos tpos : Pos} {elts : List Expr} {kk : Nat} (hg : Gl X "enumerate") (hm : X.mg "enumerate" = none) (ha : PA X [e] ta) (hs : starEach [e] X.env = [(false, eval e X.env)] := by rfl) :
    PI X (.Tuple elts kk tpos) (.Call (.Name "enumerate" p) [e] [] pos) (iEnumT X.K ta) := by
  refine ⟨fun pins s σ H R I h => ?_⟩
  refine Call_ (ld_blt I hg hm boot_enumerate (PyProof.Rows.callWith_type1 (thn (ha.run pos pins s σ H _ I h) fun us s1 ⟨vs, H1, I1, r1, q1⟩ => ?_) hs rfl))
  obtain ⟨a, xs, ex, hq, q⟩ := q1
  subst ex
  cases r1 with
  | cons r rr =>
    cases rr
    cases r
    obtain ⟨its, rv, p', hz⟩ := I1.tuple hq
    have hal : a < s1.heap.objs.size := by obtain ⟨_, q, _⟩ := id p'; exact Heap.lt_size q
    refine enum1_begins (begins_tuple a its.toArray) p' fun h' he hit hsz hk => wpAny_pyIter_enum he ?_
    have I2 : Inv X pins σ H1 { s1 with heap := h' } := I1.kept (t' := s1.toks) hk
    exact ⟨s1.heap.objs.size + 1, [s1.heap.objs.size + 1, s1.heap.objs.size], _, _, H1, rfl, I2, turn_enumT a (s1.heap.objs.size + 1) s1.heap.objs.size _, ⟨⟨.none, he⟩, ⟨_, hit, rfl, rfl⟩, Nat.succ_ne_self _, Nat.ne_of_lt hal, Nat.ne_of_gt (Nat.lt_succ_of_lt hal), Nat.zero_le _⟩, fresh_many I1 (fun c hc => by simp at hc; rcases hc with hc | hc <;> rw [hc] <;> simp), q⟩

/-! ### as walks -/
section
variable {T : List (Addr × Str)} {K : PySem.W.Frag} {H H1 : Hp} {Γ : Gam K}
theorem wk_zipT {a b : Addr} {xs ys : List V} {ds es : List PyData} (h1 : SqT K H1 a xs) (d1 : DpAll K H1 xs ds) (h2 : SqT K H1 b ys) (d2 : DpAll K H1 ys es) : Wk T (RZ.ItzT K a b) H1 ((ds.zip es).map fun p => dd (K := K) (.tuple [p.1, p.2])) := by
  have l1 := dpa_len d1
  have l2 := dpa_len d2
  refine ⟨fun i H hi n => ?_, fun H n => ⟨xs, ys, sqT_mono n.kp h1, sqT_mono n.kp h2, ?_⟩, fun i H v H' hi n y => ?_⟩
  · rw [List.length_map, List.length_zip] at hi
    exact ⟨xs, ys, xs[i]'(by omega), ys[i]'(by omega), sqT_mono n.kp h1, sqT_mono n.kp h2, List.getElem?_eq_getElem (by omega), List.getElem?_eq_getElem (by omega)⟩
  · rw [List.length_map, List.length_zip]
    omega
  · rw [List.length_map, List.length_zip] at hi
    obtain ⟨p, x, y, rfl, hp, rfl, f1, f2⟩ := y
    obtain ⟨d, e1, r1⟩ := dpa_atV d1 (f1 xs (sqT_mono n.kp h1))
    obtain ⟨e, e2, r2⟩ := dpa_atV d2 (f2 ys (sqT_mono n.kp h2))
    have nx : Nx T H (upd H p (.tup [x, y])) := Nx.new n.tb hp
    refine ⟨nx, dd (.tuple [d, e]), ?_, dp_newT upd_same (.cons (dp_mono (n.trans nx).kp _ _ r1) (.cons (dp_mono (n.trans nx).kp _ _ r2) .nil))⟩
    rw [List.getElem?_map, (List.getElem?_zip_eq_some (z := (d, e))).mpr ⟨e1, e2⟩]
    rfl
theorem wg_zip1 {ta : TA} {ds es : List PyData} (h : EA T ta Γ [dd (K := K) (.tuple ds), dd (.tuple es)]) : WG T (iZip1 K ta) Γ ((ds.zip es).map fun p => dd (.tuple [p.1, p.2])) := fun σ H ok R r => h σ H ok _ fun vs H1 n1 d => by
  cases d with
  | cons d1 d =>
    cases d with
    | cons d2 d =>
      cases d
      obtain ⟨a, xs, rfl, s1, a1⟩ := dp_tup d1
      obtain ⟨b, ys, rfl, s2, a2⟩ := dp_tup d2
      exact ⟨a, b, xs, ys, rfl, s1, s2, r _ H1 n1 (wk_zipT s1 a1 s2 a2)⟩
theorem wg_zip2 {ta : TA} {ds es : List PyData} (h : EA T ta Γ [dd (K := K) (.tuple ds), dd (.tuple es)]) : WG T (RZ.iZipA K ta) Γ ((ds.zip es).map fun p => dd (.tuple [p.1, p.2])) := fun σ H ok R r => h σ H ok _ fun vs H1 n1 d => by
  cases d with
  | cons d1 d =>
    cases d with
    | cons d2 d =>
      cases d
      obtain ⟨a, xs, rfl, s1, a1⟩ := dp_tup d1
      obtain ⟨b, ys, rfl, s2, a2⟩ := dp_tup d2
      exact ⟨a, b, xs, ys, rfl, .inr ⟨s1, s2, r _ H1 n1 (wk_zipT s1 a1 s2 a2)⟩⟩
theorem wg_enumT {ta : TA} {ds : List PyData} (h : EA T ta Γ [dd (K := K) (.tuple ds)]) : WG T (iEnumT K ta) Γ (((List.range ds.length).zip ds).map fun p => dd (.tuple [.int (p.1 : Nat), p.2])) := fun σ H ok R r => h σ H ok _ fun vs H1 n1 d => by
  cases d with
  | cons d1 d =>
    cases d
    obtain ⟨a, xs, rfl, s1, a1⟩ := dp_tup d1
    have l1 := dpa_len a1
    refine ⟨a, xs, rfl, s1, r _ H1 n1 ⟨fun i H hi n => ?_, fun H n => ⟨xs, sqT_mono n.kp s1, ?_⟩, fun i H v H' hi n y => ?_⟩⟩
    · rw [List.length_map, List.length_zip, List.length_range, Nat.min_self] at hi
      exact ⟨xs, xs[i]'(by omega), sqT_mono n.kp s1, List.getElem?_eq_getElem (by omega), rfl⟩
    · rw [List.length_map, List.length_zip, List.length_range, Nat.min_self]
      exact ⟨by omega, rfl⟩
    · rw [List.length_map, List.length_zip, List.length_range, Nat.min_self] at hi
      obtain ⟨p, x, rfl, hp, rfl, f1⟩ := y
      obtain ⟨d, e1, r1⟩ := dpa_atV a1 (f1 xs (sqT_mono n.kp s1))
      have nx : Nx T H (upd H p (.tup [.int (i : Nat), x])) := Nx.new n.tb hp
      refine ⟨nx, dd (.tuple [.int (i : Nat), d]), ?_, dp_newT upd_same (.cons (.int _) (.cons (dp_mono (n.trans nx).kp _ _ r1) .nil))⟩
      rw [List.getElem?_map, (List.getElem?_zip_eq_some (z := (i, d))).mpr ⟨List.getElem?_range hi, e1⟩]
      rfl
end
end Lw
set_option Elab.async false
set_option linter.all false
set_option maxRecDepth 100000
set_option maxHeartbeats 2000000
/-! dicts whose keys are tables (tuples of tuples of whole numbers), values data -/
namespace Lw
open PySem PySem.Spec PyProof.Rows L2
open LamX (ExtN Tabs TabS CodeO)

abbrev TT := List (List Int)
def nR (r : List Int) : NestedKey := .tup (r.map .num)
def nk (t : TT) : NestedKey := .tup (t.map nR)
def pR (r : List Int) : PyData := .tuple (r.map .int)
def pT (t : TT) : PyData := .tuple (t.map pR)
theorem map_inj {α β : Type} {f : α → β} (h : ∀ a b, f a = f b → a = b) : ∀ {l m : List α}, l.map f = m.map f → l = m
  | [], [], _ => rfl
  | [], _ :: _, e => by simp at e
  | _ :: _, [], e => by simp at e
  | a :: l, b :: m, e => by
    rw [List.map_cons, List.map_cons] at e
    injection e with e1 e2
    rw [h a b e1, map_inj h e2]
theorem nR_inj (a b : List Int) (e : nR a = nR b) : a = b := by
  unfold nR at e
  injection e with e
  exact map_inj (fun x y z => by injection z) e
theorem nk_inj {a b : TT} (e : nk a = nk b) : a = b := by
  unfold nk at e
  injection e with e
  exact map_inj nR_inj e
theorem pR_inj (a b : List Int) (e : pR a = pR b) : a = b := by
  unfold pR at e
  injection e with e
  exact map_inj (fun x y z => by injection z) e
theorem pT_inj {a b : TT} (e : pT a = pT b) : a = b := by
  unfold pT at e
  injection e with e
  exact map_inj pR_inj e
theorem flat_pR (r : List Int) : flat (pR r) = true := by
  unfold pR flat
  exact flatA_map fun _ _ => rfl
theorem flat_pT (t : TT) : flat (pT t) = true := by
  unfold pT flat
  exact flatA_map fun r _ => flat_pR r
theorem nR_depth (r : List Int) : (nR r).depth ≤ 2 := by
  have : ∀ l : List Int, NestedKey.depthAll (l.map NestedKey.num) ≤ 1 := fun l => by
    induction l with
    | nil => decide
    | cons x l ih =>
      rw [List.map_cons]
      show max (NestedKey.depth (.num x)) (NestedKey.depthAll _) ≤ 1
      exact Nat.max_le.mpr ⟨by simp [NestedKey.depth], ih⟩
  show NestedKey.depthAll (r.map NestedKey.num) + 1 ≤ 2
  have := this r
  omega
theorem nk_depth (t : TT) : (nk t).depth ≤ 8 := by
  have : ∀ l : TT, NestedKey.depthAll (l.map nR) ≤ 2 := fun l => by
    induction l with
    | nil => decide
    | cons x l ih =>
      rw [List.map_cons]
      show max (NestedKey.depth (nR x)) (NestedKey.depthAll _) ≤ 2
      exact Nat.max_le.mpr ⟨nR_depth x, ih⟩
  show NestedKey.depthAll (t.map nR) + 1 ≤ 8
  have := this t
  omega

section
variable {X : Cx} {pins : List (Addr × Obj)} {σ : L2.St} {H : Hp} {s : Shared}
theorem nested_row (I : Inv X pins σ H s) {v : V} {u : Value} {r : List Int} (h : Dp X.K H v (pR r)) (rv : RelV v u) : NestedIs s.heap (nR r) u := by
  obtain ⟨a, vs, rfl, hs, hd⟩ := dp_tup h
  obtain ⟨its, rs, ⟨o, e1, e2, n, e3⟩, _⟩ := I.tuple hs
  have eu : u = .ref a := rv
  subst eu
  have ev := dpa_ints hd
  subst ev
  refine .tup e1 e2 e3 ?_
  have key : ∀ (l : List Int) (its : List Value), Vals (l.map V.int) its → NestedAll s.heap (l.map NestedKey.num) its := fun l => by
    induction l with
    | nil => intro its h; cases h; exact .nil
    | cons x l ih =>
      intro its h
      cases h with
      | cons h1 h2 =>
        obtain ⟨t, rfl⟩ := h1
        exact .cons (.int x t) (ih _ h2)
  exact key r its rs
theorem nested_tab (I : Inv X pins σ H s) {v : V} {u : Value} {t : TT} (h : Dp X.K H v (pT t)) (rv : RelV v u) : ∃ a, v = .ref a ∧ u = .ref a ∧ (nestedKind X.prog X.w).is s.heap (nk t) a := by
  obtain ⟨a, vs, rfl, hs, hd⟩ := dp_tup h
  obtain ⟨its, rs, ⟨o, e1, e2, n, e3⟩, _⟩ := I.tuple hs
  have eu : u = .ref a := rv
  subst eu
  refine ⟨a, rfl, rfl, .tup e1 e2 e3 ?_, nk_depth t⟩
  have key : ∀ (l : TT) (vs : List V) (its : List Value), DpAll X.K H vs (l.map pR) → Vals vs its → NestedAll s.heap (l.map nR) its := fun l => by
    induction l with
    | nil => intro vs its h h2; cases h; cases h2; exact .nil
    | cons x l ih =>
      intro vs its h h2
      cases h with
      | cons d1 d2 =>
        cases h2 with
        | cons r1 r2 => exact .cons (nested_row I d1 r1) (ih _ _ d2 r2)
  exact key t vs its hd rs
end

/-! ### the dict -/
def xO (d : Addr) (o : Obj) : HO := .ext fun h => h.get? d = some o
abbrev Ent := NestedKey × Addr × Value
structure DictO (P : Program) (w : World) (o : Obj) (xs : List Ent) : Prop where
  ex : o.ExactDict
  es : ∃ es ep, o.data = .dict es ep ∧ es.toList = xs.map (entryOfKey (nestedKind P w))
  nd : (xs.map (·.1)).Nodup
  sz : xs.length ≤ sizeLine
def KX (K : PySem.W.Frag) (H : Hp) (p : TT × PyData) (x : Ent) : Prop := x.1 = nk p.1 ∧ Dp K H (.ref x.2.1) (pT p.1) ∧ ∃ y, RelV y x.2.2 ∧ Dp K H y p.2
structure KDo (P : Program) (w : World) (K : PySem.W.Frag) (H : Hp) (d : Addr) (o : Obj) (kvs : List (TT × PyData)) : Prop where
  at' : H d = some (xO d o)
  sm : (d == sysModules) = false
  xs : ∃ xs, DictO P w o xs ∧ Paired (KX K H) kvs xs
def KD (P : Program) (w : World) (K : PySem.W.Frag) (H : Hp) (d : Addr) (kvs : List (TT × PyData)) : Prop := ∃ o, KDo P w K H d o kvs
def lookT (kvs : List (TT × PyData)) (t : TT) : Option PyData := (kvs.find? fun p => decide (p.1 = t)).map (·.2)
def putT (kvs : List (TT × PyData)) (t : TT) (v : PyData) : List (TT × PyData) := if (lookT kvs t).isSome then kvs.map (fun p => if p.1 = t then (p.1, v) else p) else kvs ++ [(t, v)]
theorem lookT_nil {t : TT} : lookT [] t = none := rfl
theorem lookT_pos {p : TT × PyData} {l : List (TT × PyData)} {t : TT} (e : p.1 = t) : lookT (p :: l) t = some p.2 := by simp [lookT, List.find?_cons, e]
theorem lookT_neg {p : TT × PyData} {l : List (TT × PyData)} {t : TT} (e : ¬ p.1 = t) : lookT (p :: l) t = lookT l t := by simp [lookT, List.find?_cons, e]
theorem length_putT (kvs : List (TT × PyData)) (t : TT) (v : PyData) : (putT kvs t v).length ≤ kvs.length + 1 := by
  unfold putT
  split <;> simp
section
variable {P : Program} {w : World} {K : PySem.W.Frag} {H H' : Hp} {d : Addr} {o : Obj} {kvs : List (TT × PyData)} {xs : List Ent}
theorem xO_nt : ∀ ps, xO d o ≠ .tbl ps := fun _ z => by cases z
theorem paired_mono {α β : Type} {R S : α → β → Prop} (h : ∀ a b, R a b → S a b) : ∀ {l : List α} {m : List β}, Paired R l m → Paired S l m := by
  intro l m p
  induction p with
  | nil => exact .nil
  | cons r _ ih => exact .cons (h _ _ r) ih
theorem KDo.go (e : ExtN H H') (h : KDo P w K H d o kvs) : KDo P w K H' d o kvs :=
  ⟨e d _ h.at' xO_nt, h.sm, let ⟨xs, a, b⟩ := h.xs; ⟨xs, a, paired_mono (fun _ _ ⟨z1, z2, y, z3, z4⟩ => ⟨z1, dp_mono e _ _ z2, y, z3, dp_mono e _ _ z4⟩) b⟩⟩
theorem KD.go (e : ExtN H H') (h : KD P w K H d kvs) : KD P w K H' d kvs := let ⟨o, z⟩ := h; ⟨o, z.go e⟩
/-- what holds of tuples holds on: the values are flat -/
theorem KDo.tup (e : ∀ b xs, SqT K H b xs → SqT K H' b xs) (hf : ∀ p ∈ kvs, flat p.2 = true) (ed : H' d = H d) (h : KDo P w K H d o kvs) : KDo P w K H' d o kvs := by
  refine ⟨by rw [ed]; exact h.at', h.sm, ?_⟩
  obtain ⟨xs, a, b⟩ := h.xs
  refine ⟨xs, a, ?_⟩
  have key : ∀ {l : List (TT × PyData)} {m : List Ent}, Paired (KX K H) l m → (∀ p ∈ l, flat p.2 = true) → Paired (KX K H') l m := by
    intro l m p
    induction p with
    | nil => exact fun _ => .nil
    | cons r _ ih =>
      intro hf
      obtain ⟨z1, z2, y, z3, z4⟩ := r
      exact .cons ⟨z1, dp_flat e _ _ (flat_pT _) z2, y, z3, dp_flat e _ _ (hf _ List.mem_cons_self) z4⟩ (ih fun q hq => hf q (List.mem_cons_of_mem _ hq))
  exact key b hf
theorem KX.look (r : Paired (KX K H) kvs xs) (t : TT) : (lookT kvs t).isSome = (atKey xs (nk t)).isSome ∧ ∀ v, lookT kvs t = some v → ∃ p y, atKey xs (nk t) = some p ∧ RelV y p.2 ∧ Dp K H y v := by
  induction r with
  | nil => exact ⟨rfl, fun v z => by cases z⟩
  | @cons p q ps qs h _ ih =>
    obtain ⟨h1, _, y, h2, h3⟩ := h
    by_cases e : p.1 = t
    · have e' : q.1 = nk t := by rw [h1, e]
      have b : atKey (q :: qs) (nk t) = some q.2 := by simp [atKey, List.find?_cons, e']
      rw [lookT_pos e, b]
      exact ⟨rfl, fun v z => by cases z; exact ⟨q.2, y, rfl, h2, h3⟩⟩
    · have e' : ¬ q.1 = nk t := fun z => e (nk_inj (h1.symm.trans z))
      have b : atKey (q :: qs) (nk t) = atKey qs (nk t) := by simp [atKey, List.find?_cons, e']
      rw [lookT_neg e, b]
      exact ih
theorem KX.put {t : TT} {b : Addr} {u : Value} {y : V} {v : PyData} (r : Paired (KX K H) kvs xs) (hb : Dp K H (.ref b) (pT t)) (ry : RelV y u) (hy : Dp K H y v) : Paired (KX K H) (putT kvs t v) (storedH xs (nk t) b u) := by
  unfold putT storedH
  rw [(KX.look r t).1]
  by_cases q : (atKey xs (nk t)).isSome = true
  · rw [if_pos q, if_pos q]
    clear q
    induction r with
    | nil => exact .nil
    | @cons p x ps qs h _ ih =>
      rw [List.map_cons, List.map_cons]
      refine .cons ?_ ih
      obtain ⟨h1, h2, z, h3, h4⟩ := h
      by_cases e : p.1 = t
      · have e' : x.1 = nk t := by rw [h1, e]
        rw [if_pos e, putAt, if_pos e']
        exact ⟨h1, h2, y, ry, hy⟩
      · have e' : ¬ x.1 = nk t := fun z => e (nk_inj (h1.symm.trans z))
        rw [if_neg e, putAt, if_neg e']
        exact ⟨h1, h2, z, h3, h4⟩
  · rw [if_neg q, if_neg q]
    exact Paired.snoc r ⟨rfl, hb, y, ry, hy⟩
end
section
variable {X : Cx} {pins : List (Addr × Obj)} {σ : L2.St} {H : Hp} {s : Shared} {d : Addr} {o : Obj} {kvs : List (TT × PyData)} {E : Value → Shared → Prop} {v y : V} {u r : Value} {t : TT} {z : PyData}
theorem KDo.keyed (I : Inv X pins σ H s) (h : KDo X.prog X.w X.K H d o kvs) : ∃ xs, Paired (KX X.K H) kvs xs ∧ DictO X.prog X.w o xs ∧ s.heap.get? d = some o ∧ s.heap.DictOfH (nestedKind X.prog X.w) d xs := by
  obtain ⟨xs, a, b⟩ := h.xs
  obtain ⟨es, ep, e1, e2⟩ := a.es
  have ho : s.heap.get? d = some o := (show ObjOk X.prog X.w H s.heap d (xO d o) from I.hok d _ h.at').1
  refine ⟨xs, b, a, ho, o, es, ep, ho, a.ex, e1, e2, fun x hx => ?_, a.nd⟩
  have all : ∀ {l : List (TT × PyData)} {m : List Ent}, Paired (KX X.K H) l m → ∀ x ∈ m, (nestedKind X.prog X.w).is s.heap x.1 x.2.1 := by
    intro l m q
    induction q with
    | nil => intro x hx; exact nomatch hx
    | @cons p q ps qs hq _ ih =>
      intro x hx
      rcases List.mem_cons.mp hx with e | hx
      · subst e
        obtain ⟨a, ea, eu, k⟩ := nested_tab I hq.2.1 (rfl : RelV (.ref x.2.1) (.ref x.2.1))
        cases ea
        rw [hq.1]
        exact k
      · exact ih x hx
  exact all b x hx
theorem room_in1 {A : Around} {P : Program} {w : World} (hu : A.units + 64 < cLine) : (nestedKind P w).room A.in1 := by
  show A.in1.units + 8 < cLine
  rw [Around.in1_units]
  omega
theorem room_here {A : Around} {P : Program} {w : World} (hu : A.units + 64 < cLine) : (nestedKind P w).room A := by
  show A.units + 8 < cLine
  omega
theorem x_getItem {Q : Value → Shared → Prop} (hu : X.A.units + 64 < cLine) (I : Inv X pins σ H s) (h : KD X.prog X.w X.K H d kvs) (hk : Dp X.K H v (pT t)) (rv : RelV v u) (hl : lookT kvs t = some z)
    (q : ∀ y w' s', Inv X pins σ H s' → RelV y w' → Dp X.K H y z → Q w' s') : wpAny (model X.prog X.w) X.A (getItem (.ref d) u) Q E s := by
  obtain ⟨o, h⟩ := h
  obtain ⟨xs, rel, _, _, dd⟩ := h.keyed I
  obtain ⟨a, rfl, rfl, k⟩ := nested_tab I hk rv
  obtain ⟨p, y, hp, ry, hy⟩ := (KX.look rel t).2 z hl
  exact wpAny_getItem_heap (room_in1 hu) k dd hp (q y p.2 _ (I.tok _) ry hy)
theorem x_in {Q : Value → Shared → Prop} (hu : X.A.units + 64 < cLine) (I : Inv X pins σ H s) (h : KD X.prog X.w X.K H d kvs) (hk : Dp X.K H v (pT t)) (rv : RelV v u)
    (q : ∀ s', Inv X pins σ H s' → Q (.bool (lookT kvs t).isSome) s') : wpAny (model X.prog X.w) X.A (compareOp .In u (.ref d)) Q E s := by
  obtain ⟨o, h⟩ := h
  obtain ⟨xs, rel, _, _, dd⟩ := h.keyed I
  obtain ⟨a, rfl, rfl, k⟩ := nested_tab I hk rv
  refine wpAny_in_heap (room_in1 hu) k h.sm dd ?_
  rw [← (KX.look rel t).1]
  exact q _ (I.tok _)
theorem x_notIn {Q : Value → Shared → Prop} (hu : X.A.units + 64 < cLine) (I : Inv X pins σ H s) (h : KD X.prog X.w X.K H d kvs) (hk : Dp X.K H v (pT t)) (rv : RelV v u)
    (q : ∀ s', Inv X pins σ H s' → Q (.bool (!(lookT kvs t).isSome)) s') : wpAny (model X.prog X.w) X.A (compareOp .NotIn u (.ref d)) Q E s := by
  obtain ⟨o, h⟩ := h
  obtain ⟨xs, rel, _, _, dd⟩ := h.keyed I
  obtain ⟨a, rfl, rfl, k⟩ := nested_tab I hk rv
  refine wpAny_notIn_heap (room_in1 hu) k h.sm dd ?_
  rw [← (KX.look rel t).1]
  exact q _ (I.tok _)
theorem x_get {Q : Value → Shared → Prop} (hu : X.A.units + 64 < cLine) (I : Inv X pins σ H s) (h : KD X.prog X.w X.K H d kvs) (hk : Dp X.K H v (pT t)) (rv : RelV v u)
    (q : ∀ y w' s', Inv X pins σ H s' → RelV y w' → Dp X.K H y ((lookT kvs t).getD .none) → Q w' s') : wpAny (model X.prog X.w) X.A (call (.builtin "dict.get") [.ref d, u]) Q E s := by
  obtain ⟨o, h⟩ := h
  obtain ⟨xs, rel, _, _, dd⟩ := h.keyed I
  obtain ⟨a, rfl, rfl, k⟩ := nested_tab I hk rv
  refine call_meetsIn PySem.F.slot_dict_get dd.typeIs PySem.F.entry_dict_get (PySem.F.args_dict_get_2 _ _) (meetsH_dict_get (nestedKind X.prog X.w) d a h.sm) ⟨room_in1 hu, nk t, xs, k, dd, ?_⟩
  obtain ⟨l1, l2⟩ := KX.look rel t
  cases e : lookT kvs t with
  | none =>
    rw [e] at l1
    have : atKey xs (nk t) = none := by
      cases z : atKey xs (nk t) with
      | none => rfl
      | some _ => rw [z] at l1; cases l1
    rw [this]
    exact q .non _ _ (I.tok _) rfl (by rw [e]; exact .non)
  | some z =>
    obtain ⟨p, y, hp, ry, hy⟩ := l2 z e
    rw [hp]
    exact q y _ _ (I.tok _) ry (by rw [e]; exact hy)
/-- an update that no tuple, no list feels -/
theorem sqT_ext {K : PySem.W.Frag} {φ : Heap → Prop} {o' : HO} (e : H d = some (.ext φ)) : ∀ b xs, SqT K H b xs → SqT K (upd H d o') b xs := sqT_upd e (fun _ q => by cases q) fun _ _ q => by cases q
theorem x_setItem {Q : Unit → Shared → Prop} (hu : X.A.units + 64 < cLine) (I : Inv X pins σ H s) (h : KD X.prog X.w X.K H d kvs) (hf : ∀ p ∈ kvs, flat p.2 = true) (hk : Dp X.K H v (pT t)) (rv : RelV v u) (ry : RelV y r) (hz : flat z = true) (hy : Dp X.K H y z)
    (hl : kvs.length < sizeLine) (q : ∀ o' s', Inv X pins σ (upd H d (xO d o')) s' → KDo X.prog X.w X.K (upd H d (xO d o')) d o' (putT kvs t z) → Q () s') : wpAny (model X.prog X.w) X.A (setItem (.ref d) u r) Q E s := by
  obtain ⟨o, h⟩ := h
  obtain ⟨xs, rel, D, ho, dd⟩ := h.keyed I
  obtain ⟨a, rfl, rfl, k⟩ := nested_tab I hk rv
  refine wpAny_setItem_heap (hsz := D.sz) (room_in1 hu) k dd fun h' dd' hs => ?_
  obtain ⟨o', es, ep, hq, h2, h3, h4, _, h5⟩ := dd'
  have T := sqT_ext (K := X.K) (o' := xO d o') h.at'
  have lz : (storedH xs (nk t) a r).length ≤ sizeLine := by
    have e1 := Paired.length (KX.put rel hk ry hy)
    have e2 := length_putT kvs t z
    omega
  have new : KDo X.prog X.w X.K (upd H d (xO d o')) d o' (putT kvs t z) := by
    refine ⟨upd_same, h.sm, _, ⟨h2, ⟨es, ep, h3, h4⟩, h5, lz⟩, ?_⟩
    have fl : ∀ p ∈ putT kvs t z, flat p.2 = true := fun p hp => by
      unfold putT at hp
      split at hp
      · obtain ⟨p0, hp0, rfl⟩ := List.mem_map.mp hp
        split
        · exact hz
        · exact hf p0 hp0
      · rcases List.mem_append.mp hp with hp | hp
        · exact hf p hp
        · rw [List.mem_singleton.mp hp]; exact hz
    have key : ∀ {l : List (TT × PyData)} {m : List Ent}, Paired (KX X.K H) l m → (∀ p ∈ l, flat p.2 = true) → Paired (KX X.K (upd H d (xO d o'))) l m := by
      intro l m p
      induction p with
      | nil => exact fun _ => .nil
      | cons r _ ih =>
        intro hf
        obtain ⟨z1, z2, y, z3, z4⟩ := r
        exact .cons ⟨z1, dp_flat T _ _ (flat_pT _) z2, y, z3, dp_flat T _ _ (hf _ List.mem_cons_self) z4⟩ (ih fun q hq => hf q (List.mem_cons_of_mem _ hq))
    exact key (KX.put rel hk ry hy) fl
  refine q o' _ (d_write I (by rw [h.at']; exact True.intro) hs ⟨o', hq⟩ ⟨hq, ⟨o', hq⟩, fun h1 h2 e1 e2 => e2 _ e1⟩) new
end
end Lw
set_option Elab.async false
set_option linter.all false
set_option maxRecDepth 100000
set_option maxHeartbeats 2000000
/-! the program's texts over such dicts: reads, stores, displays, walks -/
namespace Lw
open PySem PySem.Spec PyProof.Rows L2
open LamX (ExtN Tabs TabS CodeO)
open PySem.W (EachIs AllAlike Sortable dataLe alike dataLt)

abbrev KDc (X : Cx) := KD X.prog X.w X.K
abbrev KDoc (X : Cx) := KDo X.prog X.w X.K
/-! ### reads and stores -/
def tXGet (X : Cx) (td ty : TE) : TE := fun σ H Q => td σ H fun x H1 => ty σ H1 fun y H2 => ∃ d kvs t z, x = .ref d ∧ KDc X H2 d kvs ∧ Dp X.K H2 y (pT t) ∧ lookT kvs t = some z ∧ ∀ r, Dp X.K H2 r z → Q r H2
def tXIn (X : Cx) (ty td : TE) : TE := fun σ H Q => ty σ H fun y H1 => td σ H1 fun x H2 => ∃ d kvs t, x = .ref d ∧ KDc X H2 d kvs ∧ Dp X.K H2 y (pT t) ∧ Q (.bl (lookT kvs t).isSome) H2
def tXNotIn (X : Cx) (ty td : TE) : TE := fun σ H Q => ty σ H fun y H1 => td σ H1 fun x H2 => ∃ d kvs t, x = .ref d ∧ KDc X H2 d kvs ∧ Dp X.K H2 y (pT t) ∧ Q (.bl (!(lookT kvs t).isSome)) H2
def sXPut (X : Cx) (td ty tv : TE) : TS := fun D σ H => tv σ H fun v H1 => td σ H1 fun x H2 => ty σ H2 fun y H3 => ∃ d kvs t z, x = .ref d ∧ KDc X H3 d kvs ∧ (∀ p ∈ kvs, flat p.2 = true) ∧ Dp X.K H3 y (pT t) ∧ flat z = true ∧ Dp X.K H3 v z ∧ kvs.length < sizeLine ∧
  ∀ o', KDoc X (upd H3 d (xO d o')) d o' (putT kvs t z) → D.nx σ (upd H3 d (xO d o'))
def tXGet1 (X : Cx) (td ty : TE) : TE := fun σ H Q => td σ H fun x H1 => ∃ d kvs, x = .ref d ∧ KDc X H1 d kvs ∧ ty σ H1 fun y H2 => ∃ t, KDc X H2 d kvs ∧ Dp X.K H2 y (pT t) ∧ ∀ r, Dp X.K H2 r ((lookT kvs t).getD .none) → Q r H2
/-- {} -/
def tXNew (X : Cx) : TE := fun _ H Q => ∀ p o, H p = none → KDoc X (upd H p (xO p o)) p o [] → Q (.ref p) (upd H p (xO p o))
def tXNew1 (X : Cx) (tk tv : TE) : TE := fun σ H Q => ∀ p o, H p = none → KDoc X (upd H p (xO p o)) p o [] → tk σ (upd H p (xO p o)) fun y H1 => tv σ H1 fun v H2 => H2 p = some (xO p o) ∧ ∃ t z, Dp X.K H2 y (pT t) ∧ flat z = true ∧ Dp X.K H2 v z ∧
  ∀ o', KDoc X (upd H2 p (xO p o')) p o' [(t, z)] → Q (.ref p) (upd H2 p (xO p o'))
section
variable {X : Cx} {pins : List (Addr × Obj)} {σ : L2.St} {H : Hp} {s : Shared} {d : Addr} {kvs : List (TT × PyData)}
theorem kd_type (I : Inv X pins σ H s) (h : KDc X H d kvs) : s.TypeIs (.ref d) "dict" := by
  obtain ⟨o, h⟩ := h
  obtain ⟨xs, _, D, ho, _⟩ := h.keyed I
  exact ⟨o, ho, D.ex.1⟩
theorem kd_noDict (I : Inv X pins σ H s) (h : KDc X H d kvs) : ∀ b, Value.ref d = .ref b → ∃ ob, s.heap.get? b = some ob ∧ ob.dict = none := fun b q => by
  cases q
  obtain ⟨o, h⟩ := h
  obtain ⟨xs, _, D, ho, _⟩ := h.keyed I
  exact ⟨o, ho, D.ex.2.1⟩
def dictE : Obj := { cls := .type "dict", data := .dict #[] }
theorem kd_empty {H : Hp} (P : Program) (w : World) (K : PySem.W.Frag) {p : Addr} (hb : sysModules < p) (e : H p = some (xO p dictE)) : KDo P w K H p dictE [] :=
  ⟨e, beq_eq_false_iff_ne.mpr (Ne.symm (Nat.ne_of_lt hb)), [], ⟨⟨rfl, rfl, rfl⟩, ⟨_, _, rfl, rfl⟩, List.nodup_nil, Nat.zero_le _⟩, .nil⟩
theorem xO_new {P : Program} {w : World} {H' : Hp} {h : Heap} : ObjOk P w H' (h.push dictE) h.objs.size (xO h.objs.size dictE) :=
  ⟨Heap.get?_push_size _ rfl, ⟨_, Heap.get?_push_size _ rfl⟩, fun _ _ e1 e2 => e2 _ e1⟩
variable {o i e value : Expr} {pos pos' tpos apos cpos : Pos} {td ty tv tk : TE}
theorem pe_xget (hu : X.A.units + 64 < cLine) (ho : PE X o td) (hi : PE X i ty) (hs : NoSl i) : PE X (.Subscript o i pos) (tXGet X td ty) := by
  refine ⟨fun pins s σ H Q I h => ?_⟩
  refine subD_of PySem.F.slot_dict_getitem.lookup hs (thn (ho.run pins s σ H _ I h) fun u s1 ⟨x, H1, I1, rx, q1⟩ => thn (hi.run pins s1 σ H1 _ I1 q1) fun iv s2 ⟨y, H2, I2, ry, d, kvs, t, z, ex, kd, hk, hl, q2⟩ => ?_)
  subst ex
  obtain rfl : u = Value.ref d := rx
  exact ⟨kd_type I2 kd, x_getItem hu I2 kd hk ry hl fun r w' s3 I3 rr hr => ⟨r, H2, I3, rr, q2 r hr⟩⟩
theorem pc_xin (hu : X.A.units + 64 < cLine) (hi : PE X i ty) (ho : PE X o td) : PC X .In i o (tXIn X ty td) := by
  refine ⟨fun pins s σ H Q I h => ?_⟩
  refine thn (hi.run pins s σ H _ I h) fun iv s1 ⟨y, H1, I1, ry, q1⟩ => thn (ho.run pins s1 σ H1 _ I1 q1) fun u s2 ⟨x, H2, I2, rx, d, kvs, t, ex, kd, hk, q2⟩ => ?_
  subst ex
  obtain rfl : u = Value.ref d := rx
  exact x_in hu I2 kd hk ry fun s3 I3 => ⟨.bl _, H2, I3, rfl, q2⟩
theorem pc_xnotin (hu : X.A.units + 64 < cLine) (hi : PE X i ty) (ho : PE X o td) : PC X .NotIn i o (tXNotIn X ty td) := by
  refine ⟨fun pins s σ H Q I h => ?_⟩
  refine thn (hi.run pins s σ H _ I h) fun iv s1 ⟨y, H1, I1, ry, q1⟩ => thn (ho.run pins s1 σ H1 _ I1 q1) fun u s2 ⟨x, H2, I2, rx, d, kvs, t, ex, kd, hk, q2⟩ => ?_
  subst ex
  obtain rfl : u = Value.ref d := rx
  exact x_notIn hu I2 kd hk ry fun s3 I3 => ⟨.bl _, H2, I3, rfl, q2⟩
theorem ps_xput (hu : X.A.units + 64 < cLine) (ho : PE X o td) (hi : PE X i ty) (hv : PE X value tv) (hs : swapsWith value (some (.Subscript o i pos')) pos.line X.env = pure false) :
    PS X (.Assign [.Subscript o i pos'] value pos) (sXPut X td ty tv) := by
  refine ⟨fun pins s σ H D I h => ?_⟩
  refine wpAny_Assign_Subscript (thn (hv.run pins s σ H _ I h) fun r s1 ⟨v, H1, I1, rv, q1⟩ => thn (ho.run pins s1 σ H1 _ I1 q1) fun u s2 ⟨x, H2, I2, rx, q2⟩ => thn (hi.run pins s2 σ H2 _ I2 q2) fun iv s3 ⟨y, H3, I3, ry, d, kvs, t, z, ex, kd, hf, hk, hz, hv3, hl, q3⟩ => ?_) hs
  subst ex
  obtain rfl : u = Value.ref d := rx
  exact x_setItem hu I3 kd hf hk ry rv hz hv3 hl fun o' s4 I4 kd4 => ⟨σ, _, I4, q3 o' kd4⟩
theorem pe_xget1 (hu : X.A.units + 64 < cLine) (ho : PE X o td) (he : PE X e ty) (m : M1 X o "get" apos e cpos) : PE X (.Call (.Attribute o "get" apos) [e] [] cpos) (tXGet1 X td ty) := by
  refine ⟨fun pins s σ H Q I h => ?_⟩
  refine wpAny_Call_method m.base m.few m.line PySem.F.plainAttrs_dict PySem.F.slot_dict_get PySem.F.type_dict_get (thn (ho.run pins s σ H _ I h) fun u s1 ⟨x, H1, I1, rx, d, kvs, ex, kd, q1⟩ => ?_)
  subst ex
  obtain rfl : u = Value.ref d := rx
  refine ⟨kd_type I1 kd, kd_noDict I1 kd, ?_⟩
  rw [m.trees]
  refine Calls.callWith_builtin rfl (Calls.evalArgs_plain (Calls.spliced_cons (thn (he.run pins s1 σ H1 _ I1 q1) fun iv s2 ⟨y, H2, I2, ry, t, kd2, hk, q2⟩ => Calls.spliced_nil ?_)))
  exact x_get hu I2 kd2 hk ry fun r w' s3 I3 rr hr => ⟨r, H2, I3, rr, q2 r hr⟩
theorem pe_xnew : PE X (.Dict [] [] pos) (tXNew X) := ⟨fun pins s σ H Q I h =>
  wpAny_Dict_empty ⟨.ref s.heap.objs.size, _, I.laid (a := s.heap.objs.size) (o := xO s.heap.objs.size dictE) (t' := s.toks) (fun _ _ q => Heap.get?_push_of_some _ q) (Nat.le_refl _) xO_new, rfl, h _ _ (I.hok.fresh (Nat.le_refl _)) (kd_empty _ _ _ I.big upd_same)⟩⟩
theorem pe_xnew1 (hu : X.A.units + 64 < cLine) (hk : PE X i tk) (hv : PE X e tv) : PE X (.Dict [some i] [e] pos) (tXNew1 X tk tv) := by
  refine ⟨fun pins s σ H Q I h => ?_⟩
  have hn := I.hok.fresh (Nat.le_refl s.heap.objs.size)
  have I1 := I.laid (a := s.heap.objs.size) (o := xO s.heap.objs.size dictE) (h' := s.heap.push dictE) (t' := s.toks) (fun _ _ q => Heap.get?_push_of_some _ q) (Nat.le_refl _) xO_new
  have kd0 := kd_empty (H := upd H s.heap.objs.size (xO s.heap.objs.size dictE)) X.prog X.w X.K I.big upd_same
  have hsh := zip_pairTrees [some i] [e] X.env pos rfl rfl
  have hlen : (pairTrees [some i] [e] X.env pos).length = 1 := pairTrees_length [some i] [e] X.env pos rfl rfl
  have hne : pairTrees [some i] [e] X.env pos ≠ [] := fun z => by rw [z] at hlen; cases hlen
  rw [arm_eval_Dict, hsh, dictDisplay_pairs _ hne (by omega)]
  refine wpAny_bind (wpAny_standAt (wpAny_bind (wpAny_subDictH (knd := nestedKind X.prog X.w) (room_here hu) (by omega)
    (pairTrees_cons_walk (thn (hk.run pins _ σ _ _ I1 (h _ _ hn kd0)) fun kv s2 ⟨y, H2, I2, ry, q2⟩ => thn (hv.run pins s2 σ H2 _ I2 q2) fun vv s3 ⟨v, H3, I3, rv, e3, t, z, dk, fz, dv, q3⟩ => pairTrees_nil_walk ?_)))))
  obtain ⟨a, ea, eu, ka⟩ := nested_tab I3 dk ry
  subst ea eu
  have kd3 : KDo X.prog X.w X.K H3 s.heap.objs.size dictE [] := kd_empty _ _ _ I.big e3
  obtain ⟨xs, rel, D, ho, dd⟩ := kd3.keyed I3
  cases rel
  refine ⟨[(nk t, a, vv)], ⟨rfl, rfl, ka, trivial⟩, dd, fun h' tk dk' sb => wpAny_pure ?_⟩
  obtain ⟨o', es, ep, hq, g2, g3, g4, _, g5⟩ := dk'
  have T := sqT_ext (K := X.K) (o' := xO s.heap.objs.size o') e3
  refine ⟨.ref s.heap.objs.size, upd H3 s.heap.objs.size (xO s.heap.objs.size o'), d_write I3 (by rw [e3]; exact True.intro) sb ⟨o', hq⟩ ⟨hq, ⟨o', hq⟩, fun h1 h2 e1 e2 => e2 _ e1⟩, rfl, q3 o' ?_⟩
  exact ⟨upd_same, kd3.sm, _, ⟨g2, ⟨es, ep, g3, g4⟩, g5, (show (1 : Nat) ≤ sizeLine by rw [sizeLine_eq]; omega)⟩, .cons ⟨rfl, dp_flat T _ _ (flat_pT _) dk, v, rv, dp_flat T _ _ fz dv⟩ .nil⟩

/-! ### entries, length, lists of keys -/
variable {o : Obj}
theorem KDo.ent (I : Inv X pins σ H s) (h : KDoc X H d o kvs) : (d == sysModules) = false ∧ s.heap.get? d = some o ∧ o.ExactDict ∧ kvs.length ≤ sizeLine ∧ ∃ (es : Array DictEntry) (ep : Nat), o.data = .dict es ep ∧ es.size = kvs.length ∧
    ∀ (i : Nat) (p : TT × PyData), kvs[i]? = some p → ∃ (en : DictEntry) (b : Addr) (y : V), es[i]? = some en ∧ en.key = .ref b ∧ Dp X.K H (.ref b) (pT p.1) ∧ RelV y en.val ∧ Dp X.K H y p.2 := by
  obtain ⟨xs, rel, D, ho, _⟩ := h.keyed I
  obtain ⟨es, ep, e1, e2⟩ := D.es
  have l1 : es.size = xs.length := size_of_entries e2
  have l2 : kvs.length = xs.length := Paired.length rel
  refine ⟨h.sm, ho, D.ex, by rw [l2]; exact D.sz, es, ep, e1, by omega, fun i p hp => ?_⟩
  obtain ⟨x, hx, r1, r2, y, r3, r4⟩ := paired_get rel hp
  have q := entry_at e2 i
  rw [hx] at q
  exact ⟨_, x.2.1, y, q, rfl, r2, r3, r4⟩
def rLenX (X : Cx) : List V → Hp → VK → Prop := fun xs H Q => ∃ d kvs, xs = [.ref d] ∧ KDc X H d kvs ∧ Q (.int ((kvs.length : Nat) : Int)) H
theorem cr_lenX : CallR X (.builtin "len") (rLenX X) := by
  intro pins s σ H xs us Q I r h
  obtain ⟨d, kvs, rfl, ⟨o, kd⟩, q⟩ := h
  obtain ⟨u, rfl, rx⟩ := vals1 r
  obtain rfl : u = .ref d := rx
  obtain ⟨ys, rel, D, ho, dd⟩ := kd.keyed I
  have hl : kvs.length = ys.length := Paired.length rel
  have := D.sz
  refine call_len_dictH kd.sm dd (by rw [sizeLine_eq] at this; omega) ?_
  rw [← hl]
  exact ⟨.int ((kvs.length : Nat) : Int), H, I.tok _, ⟨_, rfl⟩, q⟩
/-- what stands in the keys' list -/
theorem keys_vals {es : Array DictEntry} {acc : Array Value} (hz : es.size = kvs.length) (ent : ∀ (i : Nat) (p : TT × PyData), kvs[i]? = some p → ∃ (en : DictEntry) (b : Addr) (y : V), es[i]? = some en ∧ en.key = .ref b ∧ Dp X.K H (.ref b) (pT p.1) ∧ RelV y en.val ∧ Dp X.K H y p.2)
    (it : ItemsOf (fun i v => ∃ en : DictEntry, es[i]? = some en ∧ v = en.key) acc es.size) : ∃ xs, Vals xs acc.toList ∧ DpAll X.K H xs (kvs.map fun p => pT p.1) := by
  have key : ∀ (l : List (TT × PyData)) (us : List Value), us.length = l.length → (∀ (i : Nat) (p : TT × PyData), l[i]? = some p → ∃ b : Addr, us[i]? = some (Value.ref b) ∧ Dp X.K H (.ref b) (pT p.1)) → ∃ xs, Vals xs us ∧ DpAll X.K H xs (l.map fun p => pT p.1) := by
    intro l
    induction l with
    | nil =>
      intro us h _
      rw [List.length_eq_zero_iff.mp h]
      exact ⟨[], .nil, .nil⟩
    | cons p l ih =>
      intro us h g
      cases us with
      | nil => simp at h
      | cons u us =>
        obtain ⟨b, e1, e2⟩ := g 0 p rfl
        have eu : u = .ref b := Option.some.inj e1
        subst eu
        obtain ⟨xs, h1, h2⟩ := ih us (by simpa using h) fun i q hq => g (i + 1) q (by simpa using hq)
        exact ⟨.ref b :: xs, .cons rfl h1, .cons e2 h2⟩
  refine key kvs acc.toList (by rw [Array.length_toList, it.1, hz]) fun i p hp => ?_
  obtain ⟨en, b, y, e1, e2, e3, _⟩ := ent i p hp
  have hi : i < acc.size := by
    have h1 := (List.getElem?_eq_some_iff.mp hp).1
    have h2 := it.1
    omega
  obtain ⟨en', e4, e5⟩ := it.2 i acc[i] (Array.getElem?_eq_getElem hi)
  rw [e1] at e4
  cases e4
  refine ⟨b, ?_, e3⟩
  rw [Array.getElem?_toList, Array.getElem?_eq_getElem hi, e5, e2]
def rListX (X : Cx) : List V → Hp → VK → Prop := fun xs H Q => ∃ d kvs, xs = [V.ref d] ∧ KDc X H d kvs ∧ ∀ p us, H p = none → DpAll X.K H us (kvs.map fun p => pT p.1) → Q (.ref p) (upd H p (.lst us))
theorem cr_listX (hc : X.calm = true) : CallR X (.type "list") (rListX X) := by
  intro pins s σ H xs us Q I r h
  obtain ⟨d, kvs, rfl, ⟨o, kd⟩, q⟩ := h
  obtain ⟨u, rfl, rx⟩ := r.one
  cases rx
  obtain ⟨sm, ho, hx, hz, es, ep, hdt, hsz, ent⟩ := kd.ent I
  refine PySem.W.kdl_call (kdl_raw sm hx hdt) (I.ok.hd hc) ho (by omega) fun h' tk acc' c' kp e it => ?_
  obtain ⟨ws, rv, dv⟩ := keys_vals hsz ent it
  have lw : ws.length ≤ sizeLine := by
    have := rv.length
    rw [this, Array.length_toList, it.1]
    omega
  exact ⟨.ref s.heap.objs.size, _, I.laid (t' := tk) (o := .lst ws) kp (Nat.le_refl _) ⟨lw, acc'.toList, c', rv, by rw [Array.toArray_toList]; exact e⟩, rfl, q _ _ (I.hok.fresh (Nat.le_refl _)) dv⟩
theorem drawn_X (hc : X.calm = true) (I : Inv X pins σ H s) (kd : KDoc X H d o kvs) : Drawn X.prog X.w X.A.in1 s (.ref d) fun us _ => ∃ xs, Vals xs us ∧ DpAll X.K H xs (kvs.map fun p => pT p.1) := fun R E k => by
  obtain ⟨sm, ho, hx, hz, es, ep, hdt, hsz, ent⟩ := kd.ent I
  refine PySem.W.kdu_collect (kdl_raw sm hx hdt) (I.ok.hd hc) ho (by omega) fun h' tk acc kp it => ?_
  obtain ⟨ws, rv, dv⟩ := keys_vals hsz ent it
  exact k acc.toList h' tk kp ⟨ws, rv, dv⟩
def rSortX (X : Cx) : List V → Hp → VK → Prop := fun vs H Q => ∃ d kvs, vs = [.ref d] ∧ KDc X H d kvs ∧ SortOk (kvs.map fun p => pT p.1) ∧
  ∀ p us, H p = none → DpAll X.K (upd H p (.lst us)) us ((kvs.map fun p => pT p.1).mergeSort (dataLe false id)) → Q (.ref p) (upd H p (.lst us))
theorem cr_sortX (hc : X.calm = true) (hu : X.A.units + 64 < cLine) : CallR X (.builtin "sorted") (rSortX X) := by
  intro pins s σ H vs us Q I r h
  obtain ⟨d, kvs, rfl, ⟨o, kd⟩, ok, q⟩ := h
  obtain ⟨u, rfl, rx⟩ := vals1 r
  obtain rfl : u = .ref d := rx
  refine sorted_drawn (kw := []) (drawn_X hc I kd) (fun us h' hv => ?_) (args_sorted1 _) fun us h' tk kp hv E' => ?_
  · obtain ⟨xs, h1, h2⟩ := hv
    have e1 := h1.length
    have e2 := dpa_len h2
    have := ok.2.2.2.1
    rw [sizeLine_eq]
    omega
  · obtain ⟨xs, h1, h2⟩ := hv
    exact sort_run I hu kp (each_of h1 h2) ok q

/-! ### walks over keys and over items -/
def ItxK (P : Program) (w : World) (K : PySem.W.Frag) (d : Addr) (o : Obj) (kvs : List (TT × PyData)) : It :=
  ⟨fun i H => KDo P w K H d o kvs ∧ i < kvs.length, fun i H x H' => H' = H ∧ ∃ p b, kvs[i]? = some p ∧ x = .ref b ∧ Dp K H (.ref b) (pT p.1), fun i H => KDo P w K H d o kvs ∧ kvs.length ≤ i⟩
def ItxI (P : Program) (w : World) (K : PySem.W.Frag) (d : Addr) (o : Obj) (kvs : List (TT × PyData)) : It :=
  ⟨fun i H => KDo P w K H d o kvs ∧ i < kvs.length, fun i H x H' => ∃ T p b y, kvs[i]? = some p ∧ x = .ref T ∧ H T = none ∧ H' = upd H T (.tup [.ref b, y]) ∧ Dp K H (.ref b) (pT p.1) ∧ Dp K H y p.2, fun i H => KDo P w K H d o kvs ∧ kvs.length ≤ i⟩
theorem turn_xk {P : Program} {w : World} {K : PySem.W.Frag} {tg : Expr} {es : Array DictEntry} {ep : Nat} (it : Addr) (hod : o.data = .dict es ep) : Turn P w K tg (ItxK P w K d o kvs) [it] it (fun i h => h.IsKeyIter it d i kvs.length ep) where
  mem := by simp
  obj := fun i h st b hb => by
    obtain rfl : b = it := by simpa using hb
    obtain ⟨oi, e, c, dd⟩ := st
    exact ⟨oi, e, fun v z => by rw [dd] at z; cases z⟩
  keep := fun i h h' st k => st.at fun oi e => k it (by simp) oi e
  item := by
    intro X hP hw hK hc i pins s σ H E I hf st hg
    subst hP hw hK
    obtain ⟨kd, hi⟩ := hg
    obtain ⟨f0, f1, f2, f3, f4, f5⟩ := hf it (by simp)
    obtain ⟨sm, ho, hx, hz, es', ep', hdt, hsz, ent⟩ := kd.ent I
    obtain ⟨rfl, rfl⟩ := dict_ep hod hdt
    obtain ⟨p, hp⟩ : ∃ p, kvs[i]? = some p := ⟨kvs[i], List.getElem?_eq_getElem hi⟩
    obtain ⟨en, b, y, hen, hkey, hb, _⟩ := ent i p hp
    refine next_key_item st ho hdt hsz hen fun h' st' sb => ?_
    have I1 : Inv X pins σ H { s with heap := h' } := I.turned (t' := s.toks) (fun b ob hb e => (sb.2 b hb).trans e) f0 f1 f3 f4 f5
    obtain ⟨oi, e, c, dd⟩ := id st'
    exact ⟨en.key, rfl, go_of (s := { s with heap := h' }) e c dd (by decide) ⟨.ref b, H, I1, hkey, ⟨rfl, p, b, hp, rfl, hb⟩, st', fun b hb => (hf b hb).1⟩⟩
  done := by
    intro X hP hw hK hc i pins s σ H E I hf st hg
    subst hP hw hK
    obtain ⟨kd, hi⟩ := hg
    obtain ⟨f0, f1, f2, f3, f4, f5⟩ := hf it (by simp)
    obtain ⟨sm, ho, hx, hz, es', ep', hdt, hsz, ent⟩ := kd.ent I
    obtain ⟨rfl, rfl⟩ := dict_ep hod hdt
    exact next_key_end (I.ok.hd hc) st ho hdt hsz hi fun h' eb => ⟨rfl, I.turned (t' := s.toks) (fun b o hb e => eb b o hb e) f0 f1 f3 f4 f5⟩
  self := fun A i s Q E st h => wpAny_pyIter_keyiter st h
theorem turn_xi {P : Program} {w : World} {K : PySem.W.Frag} {elts : List Expr} {kk : Nat} {tpos : Pos} {es : Array DictEntry} {ep : Nat} (it : Addr) (hod : o.data = .dict es ep) :
    Turn P w K (.Tuple elts kk tpos) (ItxI P w K d o kvs) [it] it (fun i h => ∃ ok ov, IsItemIter h it d i kvs.length ep ok ov) where
  mem := by simp
  obj := fun i h st b hb => by
    obtain rfl : b = it := by simpa using hb
    obtain ⟨ok, ov, e⟩ := st
    exact ⟨_, e, fun v z => nomatch z⟩
  keep := fun i h h' st k => let ⟨ok, ov, e⟩ := st; ⟨ok, ov, k it (by simp) _ e⟩
  item := by
    intro X hP hw hK hc i pins s σ H E I hf st hg
    subst hP hw hK
    obtain ⟨kd, hi⟩ := hg
    obtain ⟨sm, ho, hx, hz, es', ep', hdt, hsz, ent⟩ := kd.ent I
    obtain ⟨rfl, rfl⟩ := dict_ep hod hdt
    obtain ⟨p, hp⟩ : ∃ p, kvs[i]? = some p := ⟨kvs[i], List.getElem?_eq_getElem hi⟩
    obtain ⟨en, b, y, hen, hkey, hb, ry, hy⟩ := ent i p hp
    obtain ⟨ok, ov, he⟩ := st
    have hlt : it < s.heap.objs.size := Heap.lt_size he
    have hie : i < es'.size := by omega
    have een : es'[i] = en := by
      rw [Array.getElem?_eq_getElem hie] at hen
      exact Option.some.inj hen
    rw [← hsz] at he
    refine DT.nextI he ⟨o, ho, hx, hdt⟩ hie fun h' hout hT hz' hk => ?_
    rw [een, hkey] at hT
    rw [een, hkey] at hout
    refine ⟨_, rfl, wpAny_letOwnedTupleGo_items (s := { s with heap := h' }) hout fun h'' he' sb => ?_⟩
    have hT2 : h''.get? s.heap.objs.size = some { cls := .type "tuple", data := .seq #[.ref b, en.val] } := (sb.2 _ (Nat.ne_of_gt hlt)).trans hT
    have new : ObjOk X.prog X.w (upd H s.heap.objs.size (.tup [.ref b, y])) h'' s.heap.objs.size (.tup [.ref b, y]) :=
      ⟨by show 2 ≤ sizeLine; decide, [.ref b, en.val], .cons rfl (.cons ry .nil), ⟨_, hT2, rfl, _, rfl⟩⟩
    have I1 : Inv X pins σ (upd H s.heap.objs.size (.tup [.ref b, y])) { s with heap := h'' } :=
      I.turnedNew (t' := s.toks) (ch := [it]) (fun b ob hb e => (sb.2 b (by simpa using hb)).trans (hk b ob (by simpa using hb) e)) hf (Nat.le_refl _) new
    refine ⟨.ref s.heap.objs.size, _, I1, rfl, ⟨_, p, b, y, hp, rfl, I.hok.fresh (Nat.le_refl _), rfl, hb, hy⟩, ⟨.ref b, en.val, ?_⟩, fun c hc => ?_⟩
    · rw [← hsz]
      exact he'
    · obtain rfl : c = it := by simpa using hc
      rw [upd_ne (Nat.ne_of_lt hlt)]
      exact (hf c (by simp)).1
  done := by
    intro X hP hw hK hc i pins s σ H E I hf st hg
    subst hP hw hK
    obtain ⟨kd, hi⟩ := hg
    obtain ⟨f0, f1, f2, f3, f4, f5⟩ := hf it (by simp)
    obtain ⟨sm, ho, hx, hz, es', ep', hdt, hsz, ent⟩ := kd.ent I
    obtain ⟨rfl, rfl⟩ := dict_ep hod hdt
    obtain ⟨ok, ov, he⟩ := st
    rw [← hsz] at he
    exact DT.endI (I.ok.hd hc) he ⟨o, ho, hx, hdt⟩ (by omega) fun h' eb => ⟨rfl, I.turned (t' := s.toks) (fun b o hb e => eb b o hb e) f0 f1 f3 f4 f5⟩
  self := fun A i s Q E st h => let ⟨_, _, e⟩ := st; PySem.W.kcp_self e h
def iXK (X : Cx) (td : TE) : TI := fun σ H R => td σ H fun x H1 => ∃ d o kvs, x = .ref d ∧ KDoc X H1 d o kvs ∧ R (ItxK X.prog X.w X.K d o kvs) H1
def iXI (X : Cx) (td : TE) : TI := fun σ H R => td σ H fun x H1 => ∃ d o kvs, x = .ref d ∧ KDoc X H1 d o kvs ∧ R (ItxI X.prog X.w X.K d o kvs) H1
theorem pi_xk {tg : Expr} (he : PE X e td) : PI X tg e (iXK X td) := by
  refine ⟨fun pins s σ H R I h => ?_⟩
  refine thn (he.run pins s σ H _ I h) fun u s1 ⟨x, H1, I1, rx, d, o, kvs, ex, kd, q⟩ => ?_
  subst ex
  obtain rfl : u = Value.ref d := rx
  obtain ⟨sm, ho, hx, hz, es, ep, hdt, hsz, ent⟩ := kd.ent I1
  refine iter_keys sm ho hx hdt (pi_one (tk := s1.toks) I1 _ (turn_xk _ hdt) ⟨_, Heap.get?_push_size _ rfl, rfl, ?_⟩ q)
  rw [hsz] <;> rfl
theorem pi_xi {elts : List Expr} {kk : Nat} (he : PE X e td) (hbase : attributeBase e "items" X.env (eval e X.env) = eval e X.env := by rfl) (hline : (apos.endLine == cpos.line) = true := by rfl) :
    PI X (.Tuple elts kk tpos) (.Call (.Attribute e "items" apos) [] [] cpos) (iXI X td) := by
  refine ⟨fun pins s σ H R I h => ?_⟩
  refine wpAny_Call_method (T := "dict") (id := "dict.items") hbase rfl hline F.plainAttrs_dict F.slot_dict_items F.type_dict_items (thn (he.run pins s σ H _ I h) fun u s1 ⟨x, H1, I1, rx, d, o, kvs, ex, kd, q⟩ => ?_)
  subst ex
  obtain rfl : u = Value.ref d := rx
  have tyd := kd_type I1 ⟨o, kd⟩
  refine ⟨tyd, kd_noDict I1 ⟨o, kd⟩, ?_⟩
  obtain ⟨sm, ho, hx, hz, es, ep, hdt, hsz, ent⟩ := kd.ent I1
  have raw : DT.Raw s1.heap d es ep := ⟨o, ho, hx, hdt⟩
  have I2 : Inv X pins σ H1 { s1 with heap := s1.heap.push { cls := .type "dict_items", data := .fields #[.ref d] } } := I1.kept (t' := s1.toks) fun b ob q => Heap.get?_push_of_some _ q
  have fin : wpAny (model X.prog X.w) X.A (pyIter (.ref s1.heap.objs.size)) (PIE X pins σ (.Tuple elts kk tpos) R) X.xe { s1 with heap := s1.heap.push { cls := .type "dict_items", data := .fields #[.ref d] } } := by
    refine DT.iterI (d := d) (es := es) (ep := ep) ⟨_, Heap.get?_push_size _ rfl, rfl, rfl⟩ (raw.push _) (pi_one (tk := s1.toks) I2 _ (turn_xi _ hdt) ⟨.none, .none, ?_⟩ q)
    rw [hsz]
    exact Heap.get?_push_size _ rfl
  show wpAny _ _ (callWith cpos (.builtin "dict.items") [.ref d] [] []) _ X.xe s1
  exact method_meetsIn F.slot_dict_items F.entry_dict_items rfl (PySem.evalArgs_none ⟨rfl, tyd, F.args_dict_items_1 _, _, DT.meetsItems (es := es) (ep := ep) sm, raw, fin⟩)
end
/-! ### as walks of data -/
section
variable {X : Cx} {T : List (Addr × Str)} {Γ : Gam X.K} {td : TE}
/-- a dict that stands -/
def kd (X : Cx) (kvs : List (TT × PyData)) : Dsc X.K := ⟨fun v H => ∃ d, v = .ref d ∧ KDc X H d kvs, fun e ⟨d, h1, h2⟩ => ⟨d, h1, h2.go e⟩⟩
theorem wg_xk {kvs : List (TT × PyData)} (h : EG T td Γ (kd X kvs)) : WG T (iXK X td) Γ (kvs.map fun p => dd (pT p.1)) := fun σ H ok R r => h σ H ok _ fun v H1 n1 d1 => by
  obtain ⟨d, rfl, o, k⟩ := d1
  refine ⟨d, o, kvs, rfl, k, r _ H1 n1 ⟨fun i H hi n => ⟨k.go n.kp, by simpa using hi⟩, fun H n => ⟨k.go n.kp, by simp⟩, fun i H v H' hi n y => ?_⟩⟩
  obtain ⟨rfl, p, b, hp, rfl, hb⟩ := y
  exact ⟨Nx.refl n.tb, dd (pT p.1), by rw [List.getElem?_map, hp]; rfl, hb⟩
theorem wg_xi {kvs : List (TT × PyData)} (h : EG T td Γ (kd X kvs)) : WG T (iXI X td) Γ (kvs.map fun p => dd (.tuple [pT p.1, p.2])) := fun σ H ok R r => h σ H ok _ fun v H1 n1 d1 => by
  obtain ⟨d, rfl, o, k⟩ := d1
  refine ⟨d, o, kvs, rfl, k, r _ H1 n1 ⟨fun i H hi n => ⟨k.go n.kp, by simpa using hi⟩, fun H n => ⟨k.go n.kp, by simp⟩, fun i H v H' hi n y => ?_⟩⟩
  obtain ⟨T', p, b, y, hp, rfl, hT, rfl, hb, hy⟩ := y
  have nx : Nx T H (upd H T' (.tup [.ref b, y])) := Nx.new n.tb hT
  exact ⟨nx, dd (.tuple [pT p.1, p.2]), by rw [List.getElem?_map, hp]; rfl, dp_newT upd_same (.cons (dp_mono nx.kp _ _ hb) (.cons (dp_mono nx.kp _ _ hy) .nil))⟩
end
end Lw
set_option Elab.async false
set_option linter.all false
set_option maxRecDepth 100000
set_option maxHeartbeats 2000000
/-! dict comprehensions with table keys; a dict that changes -/
namespace Lw
open PySem PySem.Spec PyProof.Rows L2
open LamX (ExtN Tabs TabS CodeO)

theorem heap_sized : ∀ d : Nat, ∃ h : Heap, h.objs.size = d
  | 0 => ⟨{}, rfl⟩
  | d + 1 => let ⟨h, e⟩ := heap_sized d; ⟨h.push dictE, by rw [Heap.size_push, e]⟩
theorem xO_nc {d : Addr} {o : Obj} {es : Array DictEntry} {ep : Nat} (ho : o.data = .dict es ep) (q : Str) : xO d o ≠ CodeO d q := fun z => by
  have hf : o.isFreed = false := by
    obtain ⟨a, b, c, e⟩ := o
    cases ho
    rfl
  obtain ⟨h, e⟩ := heap_sized d
  unfold xO CodeO at z
  injection z with z
  have p : (h.push o).get? d = some o := by rw [← e]; exact Heap.get?_push_size h hf
  obtain ⟨oc, vs, t, h1, h2, _⟩ := (congrFun z (h.push o)).mp p
  rw [p] at h1
  cases h1
  rw [ho] at h2
  cases h2
section
variable {T : List (Addr × Str)} {P : Program} {w : World} {K : PySem.W.Frag} {H H1 : Hp} {d : Addr} {o : Obj} {o' : HO} {kvs : List (TT × PyData)}
theorem Nx.mutX (e : Nx T H H1) (h : H d = none) (k : KDo P w K H1 d o kvs) : Nx T H (upd H1 d o') := by
  obtain ⟨xs, D, _⟩ := k.xs
  obtain ⟨es, ep, h1, _⟩ := D.es
  refine e.mut h (fun ps z => ?_) fun q z => ?_
  · rw [k.at'] at z
    exact xO_nt ps (Option.some.inj z)
  · rw [k.at'] at z
    exact xO_nc h1 q (Option.some.inj z)
theorem Tabs.mutX (t : Tabs T H) (k : KDo P w K H d o kvs) : Tabs T (upd H d o') := by
  obtain ⟨xs, D, _⟩ := k.xs
  obtain ⟨es, ep, h1, _⟩ := D.es
  intro p hp
  obtain ⟨ps, a1, a2, a3⟩ := t p hp
  have nP : p.1 ≠ d := fun z => by
    rw [z, k.at'] at a1
    exact xO_nt ps (Option.some.inj a1)
  refine ⟨ps, by rw [upd_ne nP]; exact a1, a2, fun pos cv hc => ?_⟩
  obtain ⟨c, e1, e2⟩ := a3 pos cv hc
  have nC : c ≠ d := fun z => by
    rw [z, k.at'] at e2
    exact xO_nc h1 p.2 (Option.some.inj e2)
  exact ⟨c, e1, by rw [upd_ne nC]; exact e2⟩
end
section
variable {X : Cx} {pins : List (Addr × Obj)} {σ : L2.St} {H : Hp} {s : Shared} {d : Addr} {kvs : List (TT × PyData)} {E : Value → Shared → Prop} {v y : V} {u r : Value} {t : TT} {z : PyData}
theorem kd_stored {a : Addr} {o : Obj} {xs : List Ent} (at' : H d = some (xO d o)) (sm : (d == sysModules) = false) (rel : Paired (KX X.K H) kvs xs) (hf : ∀ p ∈ kvs, flat p.2 = true) (hk : Dp X.K H (.ref a) (pT t)) (ry : RelV y r) (hz : flat z = true) (hy : Dp X.K H y z) (hl : kvs.length < sizeLine)
    {o' : Obj} {es : Array DictEntry} {ep : Nat} (h2 : o'.ExactDict) (h3 : o'.data = .dict es ep) (h4 : es.toList = (storedH xs (nk t) a r).map (entryOfKey (nestedKind X.prog X.w))) (h5 : ((storedH xs (nk t) a r).map (·.1)).Nodup) :
    KDoc X (upd H d (xO d o')) d o' (putT kvs t z) := by
  have T := sqT_ext (K := X.K) (o' := xO d o') at'
  have lz : (storedH xs (nk t) a r).length ≤ sizeLine := by
    have e1 := Paired.length (KX.put rel hk ry hy)
    have e2 := length_putT kvs t z
    omega
  refine ⟨upd_same, sm, _, ⟨h2, ⟨es, ep, h3, h4⟩, h5, lz⟩, ?_⟩
  have fl : ∀ p ∈ putT kvs t z, flat p.2 = true := fun p hp => by
    unfold putT at hp
    split at hp
    · obtain ⟨p0, hp0, rfl⟩ := List.mem_map.mp hp
      split
      · exact hz
      · exact hf p0 hp0
    · rcases List.mem_append.mp hp with hp | hp
      · exact hf p hp
      · rw [List.mem_singleton.mp hp]; exact hz
  have key : ∀ {l : List (TT × PyData)} {m : List Ent}, Paired (KX X.K H) l m → (∀ p ∈ l, flat p.2 = true) → Paired (KX X.K (upd H d (xO d o'))) l m := by
    intro l m p
    induction p with
    | nil => exact fun _ => .nil
    | cons r _ ih =>
      intro hf
      obtain ⟨z1, z2, y, z3, z4⟩ := r
      exact .cons ⟨z1, dp_flat T _ _ (flat_pT _) z2, y, z3, dp_flat T _ _ (hf _ List.mem_cons_self) z4⟩ (ih fun q hq => hf q (List.mem_cons_of_mem _ hq))
  exact key (KX.put rel hk ry hy) fl
theorem x_dictSet {Q : Unit → Shared → Prop} (hu : X.A.units + 64 < cLine) (I : Inv X pins σ H s) (h : KDc X H d kvs) (hf : ∀ p ∈ kvs, flat p.2 = true) (hk : Dp X.K H v (pT t)) (rv : RelV v u) (ry : RelV y r) (hz : flat z = true) (hy : Dp X.K H y z)
    (hl : kvs.length < sizeLine) (q : ∀ o' s', Inv X pins σ (upd H d (xO d o')) s' → KDoc X (upd H d (xO d o')) d o' (putT kvs t z) → Q () s') : wpAny (model X.prog X.w) X.A (dictSet d u r) Q E s := by
  obtain ⟨o, h⟩ := h
  obtain ⟨xs, rel, D, ho, dd⟩ := h.keyed I
  obtain ⟨a, rfl, rfl, k⟩ := nested_tab I hk rv
  refine wpAny_dictSet_heap (hsz := D.sz) (room_here hu) k dd fun h' dd' hs => ?_
  obtain ⟨o', es, ep, hq, h2, h3, h4, _, h5⟩ := dd'
  exact q o' _ (d_write I (by rw [h.at']; exact True.intro) hs ⟨o', hq⟩ ⟨hq, ⟨o', hq⟩, fun h1 h2 e1 e2 => e2 _ e1⟩) (kd_stored h.at' h.sm rel hf hk ry hz hy hl h2 h3 h4 h5)
end
section
variable {X : Cx}
/-- {k: v for target in iter if ..} with table keys -/
def tDcx (X : Cx) (wi : TI) (g : TG) (tt : L2.TT) (tk tv : TE) (vs : List Nat) : TE := fun σ H Q => wi σ H fun J H1 => ∀ D, H1 D = none → KDoc X (upd H1 D (xO D dictE)) D dictE [] → ∃ W : Nat → Nat → Hp → Prop, (∃ m, W 0 m (upd H1 D (xO D dictE))) ∧ ∀ i m H, W i m H →
  (J.stop i H ∧ Q (.ref D) H) ∨ (J.go i H ∧ ∃ N : Hp → Prop, (∀ H', N H' → ∃ m', m' < m ∧ W (i + 1) m' H') ∧ ∀ x H', J.yld i H x H' → g x (wipe σ vs) H' fun σ2 H2 => wipe σ2 vs = wipe σ vs ∧ tt σ2 H2 fun b H3 =>
    if b = true then tk σ2 H3 fun y H4 => tv σ2 H4 fun v H5 => ∃ kvs t z, KDc X H5 D kvs ∧ (∀ p ∈ kvs, flat p.2 = true) ∧ Dp X.K H5 y (pT t) ∧ flat z = true ∧ Dp X.K H5 v z ∧ kvs.length < sizeLine ∧
      ∀ o', KDoc X (upd H5 D (xO D o')) D o' (putT kvs t z) → N (upd H5 D (xO D o')) else N H3)
theorem dcx_core {pins : List (Addr × Obj)} {s : Shared} {σ : L2.St} {H : Hp} {Q : VK} {kx vx tg iter : Expr} {ifs : List Expr} {scope : Scope} {own : List (Str × Nat)} {pos pos' : Pos} {wi : TI} {g : TG} {tt : L2.TT} {tk tv : TE} {use : Option (Value → Sem Unit)} {Qf : Value → Shared → Prop}
    (hc : X.calm = true) (hu : X.A.units + 64 < cLine) (hN : X.N.Nodup) (I : Inv X pins σ H s) (hi : PI X tg iter wi) (ok : BlkOk X.N X.env.scope scope own)
    (hg : ∀ (s : Shared) (H : Hp) (C : Addr) (cl : List (Str × Addr)) (fp : List Addr), PG (X.blk s H scope (compEnvC scope cl C X.env) fp) tg g) (ht : ∀ (s : Shared) (H : Hp) (C : Addr) (cl : List (Str × Addr)) (fp : List Addr), PTs (X.blk s H scope (compEnvC scope cl C X.env) fp) ifs tt)
    (hk : ∀ (s : Shared) (H : Hp) (C : Addr) (cl : List (Str × Addr)) (fp : List Addr), PE (X.blk s H scope (compEnvC scope cl C X.env) fp) kx tk)
    (he : ∀ (s : Shared) (H : Hp) (C : Addr) (cl : List (Str × Addr)) (fp : List Addr), PE (X.blk s H scope (compEnvC scope cl C X.env) fp) vx tv) (hs : ∀ x, foldedSetIterable iter X.env x = pure x)
    (h : tDcx X wi g tt tk tv (own.map (·.2)) σ H Q)
    (hRR : ∀ D C s' m H', Inv X pins σ H' s' → Q (.ref D) H' → s'.heap.Ns C m → FpOk X pins H' C → compPost (model X.prog X.w) X.A X.xe use Qf (.ref D) C (.ok .next) s') :
    wpAny (model X.prog X.w) X.A (comprehension (.DictComp kx vx [⟨tg, iter, ifs, 0⟩] scope pos) scope X.env pos' newDict false (eval iter X.env) use) Qf X.xe s := by
  have hfree : ∀ y ∈ scope.names, y.2 = .free → ∃ c, X.env.cells.lookup y.1 = some c := fun y hy e => by
    rcases ok.free y hy e with k | k
    · exact I.ok.has _ (.inl k)
    · exact I.ok.has _ (.inr k)
  refine wpAny_comprehension_free (use := use) rfl hs (closure_ok hfree) ok.kind (fun y hy e => by rw [ok.uniq y hy, e])
    (thn (hi.run pins s σ H _ I h) fun xv s1 hx => thn hx fun itv s2 h2 => ?_)
  obtain ⟨it, fp, tn, J, H2, e, I2, T, st2, f2, q⟩ := h2
  subst e
  refine wpAny_newObj_type (newEnv_comp ?_)
  generalize hD : s2.heap.objs.size = D
  have hDn : H2 D = none := I2.hok.fresh (Nat.le_of_eq hD)
  obtain ⟨W, ⟨m0, w0⟩, turn⟩ := q D hDn (kd_empty X.prog X.w X.K (by rw [← hD]; exact I2.big) upd_same)
  generalize hs3 : ({ s2 with heap := s2.heap.push { cls := .type "dict", data := .dict #[] } } : Shared) = s3
  have I3 : Inv X pins σ (upd H2 D (xO D dictE)) s3 := by
    rw [← hs3]
    refine I2.laid (t' := s2.toks) (fun b o e => Heap.get?_push_of_some _ e) (Nat.le_of_eq hD) ?_
    rw [← hD]
    exact xO_new
  have h3 : s3.heap = s2.heap.push dictE := by rw [← hs3]; rfl
  have sz : ∀ b ∈ fp, b < s2.heap.objs.size := fun b hb => by
    obtain ⟨o, e, _⟩ := T.obj _ _ st2 b hb
    exact Heap.lt_size e
  have f3 : ∀ b ∈ fp, FpOk X pins (upd H2 D (xO D dictE)) b ∧ b < s3.heap.objs.size := fun b hb => by
    have hlt := sz b hb
    refine ⟨⟨?_, (f2 b hb).2⟩, by rw [h3, Heap.size_push]; exact Nat.lt_succ_of_lt hlt⟩
    rw [upd_ne (by rw [← hD]; exact Nat.ne_of_lt hlt)]
    exact (f2 b hb).1
  have st3 : tn 0 s3.heap := T.keep _ _ _ st2 fun b _ o e => by rw [h3]; exact Heap.get?_push_of_some _ e
  have I4 := block_start I3 ok hN f3
  have pg := hg s3 (upd H2 D (xO D dictE)) s3.heap.objs.size (cellsFrom (s3.heap.objs.size + 1) scope.names (cloFrom X.env.cells scope.names [])) fp
  have pt := ht s3 (upd H2 D (xO D dictE)) s3.heap.objs.size (cellsFrom (s3.heap.objs.size + 1) scope.names (cloFrom X.env.cells scope.names [])) fp
  have pk := hk s3 (upd H2 D (xO D dictE)) s3.heap.objs.size (cellsFrom (s3.heap.objs.size + 1) scope.names (cloFrom X.env.cells scope.names [])) fp
  have pe := he s3 (upd H2 D (xO D dictE)) s3.heap.objs.size (cellsFrom (s3.heap.objs.size + 1) scope.names (cloFrom X.env.cells scope.names [])) fp
  show codeAny _ _ (.compStart (.DictComp kx vx [⟨tg, iter, ifs, 0⟩] scope pos) 0 (.ref it) (.ref D) (compEnvC scope (cellsFrom (s3.heap.objs.size + 1) scope.names (cloFrom X.env.cells scope.names [])) s3.heap.objs.size X.env)) (compPost (model X.prog X.w) X.A X.xe use Qf (.ref D) s3.heap.objs.size) { s3 with heap := pushCells (s3.heap.push { cls := .type "dict", data := .dict #[] }) scope.names }
  have nfp : ∀ b ∈ fp, (upd H2 D (xO D dictE)) b = none := fun b hb => (f3 b hb).1.1
  generalize hce : compEnvC scope (cellsFrom (s3.heap.objs.size + 1) scope.names (cloFrom X.env.cells scope.names [])) s3.heap.objs.size X.env = ce at I4 pg pt pk pe ⊢
  have cL : ce.locals = s3.heap.objs.size := by subst hce; rfl
  generalize hH3 : upd H2 D (xO D dictE) = H3 at I3 I4 pg pt pk pe w0 nfp f3
  generalize hs4 : ({ s3 with heap := pushCells (s3.heap.push { cls := .type "dict", data := .dict #[] }) scope.names } : Shared) = s4 at I4 ⊢
  have st4 : tn 0 s4.heap := T.keep _ _ _ st3 fun b _ o e => by rw [← hs4]; exact pushCells_keeps _ _ _ _ (Heap.get?_push_of_some _ e)
  have stat : ∀ {σ' : L2.St} {H' : Hp} {s' : Shared}, Inv (X.blk s3 H3 scope ce fp) [] σ' H' s' → (∀ b ∈ fp, H' b = none) → ∀ b ∈ fp, FpOk (X.blk s3 H3 scope ce fp) [] H' b := fun {σ' H' s'} I' hn b hb =>
    ⟨hn b hb, (I'.ok.exf b hb).1, I'.ok.exfs b hb, .inl hb, fun x c e => (I'.ok.exf b hb).2 x c e, fun p hp => absurd (show p ∈ ([] : List (Addr × Obj)) ++ [] from hp) (by simp)⟩
  have loop : codeAny (model X.prog X.w) X.A (.compLoop (.DictComp kx vx [⟨tg, iter, ifs, 0⟩] scope pos) 0 (.ref it) (.ref D) ce) (compPost (model X.prog X.w) X.A X.xe use Qf (.ref D) s3.heap.objs.size) s4 := by
    refine compLoop_anyD (fun n s' => ∃ i H', Inv (X.blk s3 H3 scope ce fp) [] (wipe σ (own.map (·.2))) H' s' ∧ tn i s'.heap ∧ (∀ b ∈ fp, H' b = none) ∧ W i n H') ?_ m0 ⟨0, H3, I4, st4, nfp, w0⟩
    rintro n s5 ⟨i, H5, I5, st5, n5, w5⟩
    rcases turn i n H5 w5 with ⟨stop, qq⟩ | ⟨go, N, hN', step⟩
    · have td := T.done (X.blk s3 H3 scope ce fp) rfl rfl rfl hc i [] s5 _ H5 (fun _ _ => False) I5 (stat I5 n5) st5 stop
      refine thnF td fun r s6 ⟨hr, I6⟩ => ?_
      subst hr
      have I7 : Inv X pins σ H5 s6 := I3.call' (ch := fp) I6.os I6.base I6.hok I6.bare fun b hb => ⟨(f3 b hb).1.2.2.2.1, (f3 b hb).1.2.1, (f3 b hb).1.2.2.2.2.1, (f3 b hb).1.2.2.2.2.2⟩
      have nC : H5 s3.heap.objs.size = none := by
        have z : H5 ce.locals = none := I6.free
        rw [cL] at z
        exact z
      obtain ⟨m, hn, _⟩ := I6.loc
      have hn : s6.heap.Ns ce.locals m := hn
      rw [cL] at hn
      exact hRR D s3.heap.objs.size s6 m H5 I7 qq hn (I3.fpOk (Nat.le_refl _) nC)
    · have ti := T.item (X.blk s3 H3 scope ce fp) rfl rfl rfl hc i [] s5 _ H5 (fun _ _ => False) I5 (stat I5 n5) st5 go
      refine thnF ti fun r s6 ⟨u, hr, h6⟩ => ?_
      subst hr
      refine thnF h6 fun _ s7 ⟨x, H7, I7, r7, y7, st7, n7⟩ => ?_
      have I7' := I7.pinned (stat I7 n7) (T.obj _ _ st7)
      refine thnF (pg.run _ s7 _ H7 x u _ I7' r7 (step x H7 y7)) fun _ s8 ⟨σ8, H8, I8, hw8, q8⟩ => ?_
      refine thnF (pt.run _ s8 σ8 H8 _ I8 q8) fun b s9 ⟨H9, I9, q9⟩ => ?_
      have fin : ∀ {s' : Shared} {H' : Hp}, Inv (X.blk s3 H3 scope ce fp) ([] ++ pinsAt fp s7.heap) σ8 H' s' → N H' → ∃ m, m < n ∧ ∃ i H', Inv (X.blk s3 H3 scope ce fp) [] (wipe σ (own.map (·.2))) H' s' ∧ tn i s'.heap ∧ (∀ b ∈ fp, H' b = none) ∧ W i m H' := fun {s' H'} I' nx => by
        obtain ⟨m', hm, w'⟩ := hN' H' nx
        have pin' : ∀ b ∈ fp, ∀ o, s7.heap.get? b = some o → s'.heap.get? b = some o ∧ H' b = none := fun b hb o e =>
          let z := I'.pin (b, o) (List.mem_append_right _ (List.mem_append_right _ (mem_pinsAt hb e)))
          ⟨z.1, z.2.1⟩
        have hl : (wipe σ (own.map (·.2))).length = σ8.length := by rw [← hw8, wipe_length]
        refine ⟨m', hm, i + 1, H', (I'.unpinned (pins := [])).weak hl (fun j v e => ?_), T.keep _ _ _ st7 fun b hb o e => (pin' b hb o e).1, fun b hb => ?_, w'⟩
        · rw [← hw8] at e
          exact (wipe_some e).1
        · obtain ⟨o, e, _⟩ := T.obj _ _ st7 b hb
          exact (pin' b hb o e).2
      cases b with
      | false =>
        simp only [Bool.false_eq_true, if_false] at q9 ⊢
        exact fin I9 q9
      | true =>
        simp only [if_true] at q9 ⊢
        refine thnF (pk.run _ s9 σ8 H9 _ I9 q9) fun z s10 ⟨yk, H10, I10, r10, q10⟩ => ?_
        refine thnF (pe.run _ s10 σ8 H10 _ I10 q10) fun z2 s11 ⟨yv, H11, I11, r11, kvs, t, zz, kd, hf, hky, hzf, hzv, hlen, nx⟩ => ?_
        exact x_dictSet (X := X.blk s3 H3 scope ce fp) hu I11 kd hf hky r10 r11 hzf hzv hlen fun o' s12 I12 kd12 => fin I12 (nx o' kd12)
  exact codeAny_compStart_dict loop (T.self X.A 0 _ _ _ st4 loop)
theorem pe_dcx {kx vx tg iter : Expr} {ifs : List Expr} {scope : Scope} {own : List (Str × Nat)} {pos : Pos} {wi : TI} {g : TG} {tt : L2.TT} {tk tv : TE} (hc : X.calm = true) (hu : X.A.units + 64 < cLine) (hN : X.N.Nodup) (hi : PI X tg iter wi) (ok : BlkOk X.N X.env.scope scope own)
    (hg : ∀ (s : Shared) (H : Hp) (C : Addr) (cl : List (Str × Addr)) (fp : List Addr), PG (X.blk s H scope (compEnvC scope cl C X.env) fp) tg g) (ht : ∀ (s : Shared) (H : Hp) (C : Addr) (cl : List (Str × Addr)) (fp : List Addr), PTs (X.blk s H scope (compEnvC scope cl C X.env) fp) ifs tt)
    (hk : ∀ (s : Shared) (H : Hp) (C : Addr) (cl : List (Str × Addr)) (fp : List Addr), PE (X.blk s H scope (compEnvC scope cl C X.env) fp) kx tk)
    (he : ∀ (s : Shared) (H : Hp) (C : Addr) (cl : List (Str × Addr)) (fp : List Addr), PE (X.blk s H scope (compEnvC scope cl C X.env) fp) vx tv) (hs : ∀ x, foldedSetIterable iter X.env x = pure x := by intro _; rfl) :
    PE X (.DictComp kx vx [⟨tg, iter, ifs, 0⟩] scope pos) (tDcx X wi g tt tk tv (own.map (·.2))) := by
  refine ⟨fun pins s σ H Q I h => ?_⟩
  rw [arm_eval_DictComp]
  refine dcx_core hc hu hN I hi ok hg ht hk he hs h fun D C s' m H' I' q hn f => ⟨m, hn, fun h'' sb => ?_⟩
  obtain ⟨f0, f1, f2, f3, f4, f5⟩ := f
  exact ⟨.ref D, H', I'.turned (t' := s'.toks) (fun b o hb e => (sb.2 b hb).trans e) f0 f1 f3 f4 f5, rfl, q⟩
end
/-! ### what it comes to -/
def keysOf (l : List TT) (z : PyData) : List (TT × PyData) := l.foldl (fun kvs t => putT kvs t z) []
theorem fold_len (z : PyData) : ∀ (l : List TT) (kvs : List (TT × PyData)), (l.foldl (fun kvs t => putT kvs t z) kvs).length ≤ kvs.length + l.length
  | [], kvs => by simp
  | t :: l, kvs => by
    rw [List.foldl_cons, List.length_cons]
    have h1 := fold_len z l (putT kvs t z)
    have h2 := length_putT kvs t z
    omega
theorem fold_flat {z : PyData} (hz : flat z = true) : ∀ (l : List TT) (kvs : List (TT × PyData)), (∀ p ∈ kvs, flat p.2 = true) → ∀ p ∈ l.foldl (fun kvs t => putT kvs t z) kvs, flat p.2 = true
  | [], _, h => h
  | t :: l, kvs, h => fold_flat hz l (putT kvs t z) fun p hp => by
    unfold putT at hp
    split at hp
    · obtain ⟨p0, hp0, rfl⟩ := List.mem_map.mp hp
      split
      · exact hz
      · exact h p0 hp0
    · rcases List.mem_append.mp hp with hp | hp
      · exact h p hp
      · rw [List.mem_singleton.mp hp]; exact hz
section
variable {X : Cx} {T : List (Addr × Str)} {Γ : Gam X.K} {tk tv : TE}
theorem eg_dcx {α : Type} {wi : TI} {g : TG} {vs : List Nat} {l : List α} {enc : α → Dsc X.K} (f : α → TT) (z : PyData) (hz : flat z = true) (hw : WG T wi Γ (l.map enc)) (hl : l.length < 1000000)
    (hs : ∀ a ∈ l, ∃ Γ', GG T vs g (enc a) (wipeG Γ vs) Γ' ∧ ED T tk Γ' (pT (f a)) ∧ ED T tv Γ' z) : EG T (tDcx X wi g tYes tk tv vs) Γ (kd X (keysOf (l.map f) z)) := fun σ H ok Q q => hw σ H ok _ fun J H1 n1 wk D hD k0 => by
  refine ⟨fun i m H' => m = l.length - i ∧ i ≤ l.length ∧ Nx T H1 H' ∧ KDc X H' D (keysOf ((l.take i).map f) z), ⟨l.length, by omega, Nat.zero_le _, Nx.new n1.tb hD, _, k0⟩, ?_⟩
  rintro i m H' ⟨rfl, hi, nx, o, kd'⟩
  by_cases hlt : i < l.length
  · have ea : l[i]? = some l[i] := List.getElem?_eq_getElem hlt
    obtain ⟨Γ', hg, he, hv⟩ := hs l[i] (List.getElem_mem hlt)
    refine .inr ⟨wk.go i H' (by simpa using hlt) nx, fun H2 => Nx T H1 H2 ∧ KDc X H2 D (keysOf ((l.take (i + 1)).map f) z), fun H2 ⟨n2, k2⟩ => ⟨l.length - (i + 1), by omega, rfl, hlt, n2, k2⟩, fun x H2 yy => ?_⟩
    obtain ⟨n2, y, ey, dy⟩ := wk.yld i H' x H2 (by simpa using hlt) nx yy
    have ey' : y = enc l[i] := by
      rw [List.getElem?_map, ea] at ey
      exact (Option.some.inj ey).symm
    subst ey'
    have okw : Ok T (wipe σ vs) H2 (wipeG Γ vs) := ((ok.go (n1.trans (nx.trans n2))).wipe vs)
    refine hg x _ H2 okw dy _ fun σ3 ok3 hw3 => ⟨by rw [hw3, wipe_wipe], ?_⟩
    show tk σ3 H2 _
    refine he σ3 H2 ok3 _ fun v H4 n4 d4 => hv σ3 H4 (ok3.go n4) _ fun u H5 n5 d5 => ?_
    have k5 : KDoc X H5 D o _ := kd'.go (n2.trans (n4.trans n5)).kp
    refine ⟨_, f l[i], z, ⟨o, k5⟩, fold_flat hz _ _ (fun _ h => nomatch h), dp_mono n5.kp _ _ d4, hz, d5, ?_, fun o' k' => ⟨((nx.trans n2).trans (n4.trans n5)).mutX hD k5, o', ?_⟩⟩
    · have h1 := fold_len z ((l.take i).map f) []
      rw [List.length_map, List.length_take, List.length_nil] at h1
      unfold keysOf
      rw [sizeLine_eq]
      omega
    · have et : keysOf ((l.take (i + 1)).map f) z = putT (keysOf ((l.take i).map f) z) (f l[i]) z := by
        unfold keysOf
        rw [List.take_add_one, ea, List.map_append, List.foldl_append]
        rfl
      rw [et]
      exact k'
  · have e : i = l.length := by omega
    subst e
    rw [List.take_length] at kd'
    refine .inl ⟨?_, q _ H' (n1.trans nx) ⟨D, rfl, o, kd'⟩⟩
    have := wk.stop H' nx
    rwa [List.length_map] at this
end
end Lw
set_option Elab.async false
set_option linter.all false
set_option maxRecDepth 100000
set_option maxHeartbeats 2000000
/-! sorted(.., key=f): f any call that grows the tracked heap -/
namespace Lw
open PySem PySem.Spec PyProof.Rows L2
open LamX (ExtN Tabs TabS CodeO)
open PySem.W (EachIs AllAlike Sortable dataLe alike dataLt KeepsBut KeyedOut keyH_end keyedOut_each dataKind SortsAt SortsAt.data)

theorem each_unmap {α β γ : Type} {R : α → β → Prop} {f : γ → β} : ∀ {us : List α} {bs : List γ}, EachIs R us (bs.map f) → EachIs (fun u b => R u (f b)) us bs
  | [], [], .nil => .nil
  | _ :: _, _ :: _, .cons h t => .cons h (each_unmap t)
theorem each_remap {α β γ : Type} {R : α → β → Prop} {f : γ → β} : ∀ {us : List α} {bs : List γ}, EachIs (fun u b => R u (f b)) us bs → EachIs R us (bs.map f)
  | [], [], .nil => .nil
  | _ :: _, _ :: _, .cons h t => .cons h (each_remap t)
theorem each_nth {α β : Type} {R : α → β → Prop} : ∀ {us : List α} {bs : List β} {i : Nat} {u : α}, EachIs R us bs → us[i]? = some u → ∃ b, bs[i]? = some b ∧ R u b
  | _ :: _, _ :: _, 0, _, .cons h _, e => by simp at e; subst e; exact ⟨_, rfl, h⟩
  | _ :: _, _ :: _, i + 1, u, .cons _ t, e => by
    obtain ⟨b, h1, h2⟩ := each_nth (i := i) (u := u) t (by simpa using e)
    exact ⟨b, by simpa using h1, h2⟩
theorem each_add {α β : Type} {R : α → β → Prop} {u : α} {b : β} (h : R u b) : ∀ {us : List α} {bs : List β}, EachIs R us bs → EachIs R (us ++ [u]) (bs ++ [b])
  | _, _, .nil => .cons h .nil
  | _, _, .cons q t => .cons q (each_add h t)
section
variable {X : Cx} {pins : List (Addr × Obj)} {σ : L2.St} {H H' : Hp} {s : Shared}
/-- an object that stands untracked is tracked from now on -/
theorem Inv.track {L : Addr} {o : HO} (I : Inv X pins σ H s) (f : FpOk X pins H L) (hs : X.s_0.heap.objs.size ≤ L) (new : ObjOk X.prog X.w (upd H L o) s.heap L o) : Inv X pins σ (upd H L o) s := by
  obtain ⟨f0, f1, f2, f3, f4, f5⟩ := f
  have ne : ∀ {b u}, H b = some u → b ≠ L := fun e => ne_of_none e f0
  have at' : ∀ {b u}, H b = some u → upd H L o b = some u := fun e => by rw [upd_ne (ne e)]; exact e
  refine ⟨I.ok, I.os, I.bare, ⟨I.base.keep, I.base.slot, fun b u e n hx => ?_, I.base.there, fun b xs e => at' (I.base.tups b xs e), fun b u w e => at' (I.base.frzs b u w e), fun b ps e => ?_⟩, I.loc, I.cell, by rw [upd_ne (Ne.symm f1)]; exact I.free, fun x c e => by rw [upd_ne (f4 x c e)]; exact I.freeC x c e, fun p hp => ?_, fun b u e => ?_, I.len⟩
  · have hb : b ≠ L := Nat.ne_of_lt (Nat.lt_of_lt_of_le (Heap.lt_size e) hs)
    rw [upd_ne hb]
    exact I.base.free b u e n hx
  · obtain ⟨more, q⟩ := I.base.tbls b ps e
    exact ⟨more, at' q⟩
  · obtain ⟨a1, a2, a3, a4, a5⟩ := I.pin p hp
    exact ⟨a1, by rw [upd_ne (f5 p hp)]; exact a2, a3, a4, a5⟩
  · by_cases hb : b = L
    · subst hb
      rw [upd_same] at e
      cases e
      exact new
    · rw [upd_ne hb] at e
      exact (I.hok b u e).stay (fun c v _ q => q) (fun c q => at' q) fun c xs q => at' q
theorem fp_go {b : Addr} (f : FpOk X pins H b) (h : H' b = none) : FpOk X pins H' b := ⟨h, f.2⟩
/-- xs.sort(key=f)'s work on the new list at L -/
theorem key_tree {T : List (Addr × Str)} {β : Type} {enc k : β → PyData} {bs : List β} {us : List Value} {f : Value} {L : Addr} {n : Nat} {P : PySem.Fin → Shared → Prop} {E : Value → Shared → Prop} (I : Inv X pins σ H s) (tb : Tabs T H) (fL : FpOk X pins H L) (ho : s.heap.get? L = some (seqObj "list" us.toArray n)) (e : EachIs (fun u x => Stands X.K H u (enc x)) us bs) (hZ : bs.length ≤ sizeLine) (hal : AllAlike (bs.map k)) (hsk : Sortable (bs.map k)) (hu : ∀ x ∈ bs, X.A.in1.in1.units + (k x).depth < cLine)
    (turn : ∀ x ∈ bs, ∀ (u : Value) (pins' : List (Addr × Obj)) (H' : Hp) (s' : Shared), (∀ p ∈ pins, p ∈ pins') → Inv X pins' σ H' s' → Nx T H H' → Stands X.K H' u (enc x) →
      wpAny (model X.prog X.w) X.A.in1.in1 (call f [u]) (fun r s'' => ∃ y H'', Inv X pins' σ H'' s'' ∧ Nx T H' H'' ∧ RelV y r ∧ Dp X.K H'' y (k x)) (fun _ _ => False) s')
    (q : ∀ (out : List Value) (c : Nat) (H' : Hp) (s' : Shared), Inv X pins σ H' s' → Nx T H H' → FpOk X pins H' L → s'.heap.get? L = some (seqObj "list" out.toArray c) → out.length = bs.length → EachIs (fun u x => Stands X.K H' u (enc x)) out (bs.mergeSort (dataLe false k)) → P (.done (.ret .none)) s') :
    wpAny (model X.prog X.w) X.A.in1.in1 (ksk_tree L f false) P E s := by
  have hlen : us.length = bs.length := e.length
  have haL : L < s.heap.objs.size := Heap.lt_size ho
  obtain ⟨e1, ho1⟩ : ∃ e1, (s.heap.update L (Obj.mapSeq fun _ => (#[] : Array Value))).get? L = some (seqObj "list" #[] e1) := ⟨_, get?_update_seq ho fun _ => #[]⟩
  have s1 := Heap.SameBut.update s.heap L (Obj.mapSeq fun _ => (#[] : Array Value))
  have hkS : ((s.heap.update L (Obj.mapSeq fun _ => (#[] : Array Value))).push (seqObj "tuple" us.toArray 0)).objs.size = s.heap.objs.size + 1 := by rw [size_push', Heap.size_update]
  unfold ksk_tree
  refine wpAny_bind (listItems_at ho rfl ?_)
  refine wpAny_bind (listUpdate_at ho rfl ?_ (by rw [List.size_toArray, hlen]; exact hZ) (Nat.zero_le _))
  refine wpAny_bind (seqEpoch_at ho1 rfl ?_)
  refine wpAny_bind (wpAny_newTuple ?_ (by show us.length ≤ _; rw [hlen]; exact hZ))
  refine wpAny_bind (wpAny_newList ?_ (Nat.zero_le _))
  refine wpAny_holding ?_
  obtain ⟨f0, f1, f2, f3, f4, f5⟩ := id fL
  have I1 : Inv X pins σ H { s with heap := s.heap.update L (Obj.mapSeq fun _ => (#[] : Array Value)) } := I.turned (t' := s.toks) (it := L) (fun b o hb q => (s1.2 b hb).trans q) f0 f1 f3 f4 f5
  have I2 : Inv X pins σ H { s with heap := ((s.heap.update L (Obj.mapSeq fun _ => (#[] : Array Value))).push (seqObj "tuple" us.toArray 0)).push (seqObj "list" #[] 0) } :=
    I1.kept (t' := s.toks) fun b o q => Heap.get?_push_of_some _ (Heap.get?_push_of_some _ q)
  generalize hK : ((s.heap.update L (Obj.mapSeq fun _ => (#[] : Array Value))).push (seqObj "tuple" us.toArray 0)).objs.size = kS at hkS ⊢
  have nK : H kS = none := I.hok.fresh (by rw [hkS]; exact Nat.le_succ _)
  have fK : FpOk X pins H kS := I.fpOk (by rw [hkS]; exact Nat.le_succ _) nK
  have hKL : kS ≠ L := by
    rw [hkS]
    exact Nat.ne_of_gt (Nat.lt_succ_of_lt haL)
  have gK : (((s.heap.update L (Obj.mapSeq fun _ => (#[] : Array Value))).push (seqObj "tuple" us.toArray 0)).push (seqObj "list" #[] 0)).get? kS = some (seqObj "list" #[] 0) := by
    rw [← hK]
    exact Heap.get?_push_size _ rfl
  have gL : (((s.heap.update L (Obj.mapSeq fun _ => (#[] : Array Value))).push (seqObj "tuple" us.toArray 0)).push (seqObj "list" #[] 0)).get? L = some (seqObj "list" #[] e1) := Heap.get?_push_of_some _ (Heap.get?_push_of_some _ ho1)
  unfold ksk_rest
  refine wpAny_bind (wpAny_rule ?_)
  first
    | rw [List.forIn_toArray]
    | (rw [← Array.forIn_toList]; simp only [List.toList_toArray])
    | rw [← Array.forIn_toList]
  refine wpAny_bind (ksk_fold (fun i s' => ∃ (H' : Hp) (kA : Array Value) (c : Nat), Inv X pins σ H' s' ∧ Nx T H H' ∧ H' kS = none ∧ H' L = none ∧ s'.heap.get? kS = some (seqObj "list" kA c) ∧ s'.heap.get? L = some (seqObj "list" #[] e1) ∧ EachIs (Stands X.K H') kA.toList ((bs.map k).take i)) us 0 _
    ⟨H, #[], 0, I2, Nx.refl tb, nK, f0, gK, gL, by rw [List.take_zero]; exact .nil⟩ ?step ?done)
  case step =>
    rintro j u s' hx ⟨H', kA, c, I', nx, nK', nL', hk', hL', he'⟩
    simp only [Nat.zero_add] at he' ⊢
    obtain ⟨x, hxb, hR⟩ := each_nth e hx
    have hxm : x ∈ bs := List.mem_of_getElem? hxb
    have st : Stands X.K H' u (enc x) := let ⟨v, r, d⟩ := hR; ⟨v, r, dp_mono nx.kp _ _ d⟩
    have fp2 : ∀ b ∈ [L, kS], FpOk X pins H' b := fun b hb => by
      have hb' : b = L ∨ b = kS := by simpa using hb
      rcases hb' with z | z
      · rw [z]; exact fp_go fL nL'
      · rw [z]; exact fp_go fK nK'
    have Ip := I'.pinned fp2 fun b hb => by
      have hb' : b = L ∨ b = kS := by simpa using hb
      rcases hb' with z | z
      · rw [z]; exact ⟨_, hL', fun v z => nomatch z⟩
      · rw [z]; exact ⟨_, hk', fun v z => nomatch z⟩
    refine wpAny_bind (wpAny_attempt (wpAny_mono (turn x hxm u _ H' s' (fun p hp => List.mem_append_left _ hp) Ip nx st) (fun r s'' hq => ?_) fun _ _ hF => hF.elim))
    obtain ⟨y, H2, J, n2, ry, dy⟩ := hq
    have pL := J.pin (L, _) (List.mem_append_right _ (List.mem_append_right _ (mem_pinsAt (fp := [L, kS]) (by simp) hL')))
    have pK := J.pin (kS, _) (List.mem_append_right _ (List.mem_append_right _ (mem_pinsAt (fp := [L, kS]) (by simp) hk')))
    have J' : Inv X pins σ H2 s'' := J.unpinned
    try dsimp only
    have gk2 : s''.heap.get? kS = some (seqObj "list" kA c) := pK.1
    have s2 := Heap.SameBut.update s''.heap kS (Obj.mapSeq (·.push r))
    obtain ⟨c2, hc2⟩ : ∃ c2, (s''.heap.update kS (Obj.mapSeq (·.push r))).get? kS = some (seqObj "list" (kA.push r) c2) := ⟨_, get?_update_seq gk2 (·.push r)⟩
    have hj : j < bs.length := (List.getElem?_eq_some_iff.mp hxb).1
    have hz : kA.size ≤ bs.length := by
      have h1 := he'.length
      rw [Array.length_toList, List.length_take, List.length_map] at h1
      omega
    refine wpAny_bind (listUpdate_at gk2 rfl ?_ (Nat.le_trans hz hZ) (Nat.le_trans (Nat.le_of_eq (Array.size_push ..)) (Nat.succ_le_succ (Nat.le_trans hz hZ))))
    obtain ⟨g0, g1, g2, g3, g4, g5⟩ := fK
    have J2 : Inv X pins σ H2 { s'' with heap := s''.heap.update kS (Obj.mapSeq (·.push r)) } := J'.turned (t' := s''.toks) (it := kS) (fun b o hb q => (s2.2 b hb).trans q) pK.2.1 g1 g3 g4 g5
    refine wpAny_pure ⟨rfl, H2, kA.push r, c2, J2, nx.trans n2, pK.2.1, pL.2.1, hc2, (s2.2 L (Ne.symm hKL)).trans pL.1, ?_⟩
    have ek : (bs.map k).take (j + 1) = (bs.map k).take j ++ [k x] := by rw [List.take_add_one, List.getElem?_map, hxb]; rfl
    rw [ek, Array.toList_push]
    exact each_add ⟨y, ry, dy⟩ (he'.mono fun w d ⟨v, r, z⟩ => ⟨v, r, dp_mono n2.kp _ _ z⟩)
  case done =>
    rintro s' ⟨H', kA, c, I', nx, nK', nL', hk', hL', he'⟩
    have ek : (bs.map k).take (0 + us.length) = bs.map k := List.take_of_length_le (by rw [List.length_map]; omega)
    rw [ek] at he'
    have hk2 : EachIs (fun v d => ∃ as, Reads s'.heap v d as) kA.toList (bs.map k) := he'.mono fun v d ⟨y, r, z⟩ => Dp.reads I' d y v z r
    have hsz : kA.size = us.length := by
      have h1 := hk2.length
      rw [Array.length_toList, List.length_map] at h1
      omega
    try dsimp only
    refine wpAny_bind (listItems_at hk' rfl ?_)
    have hid : ∀ b o, b ≠ kS → s'.heap.get? b = some o → (PySem.W.hideAll s'.heap [kS]).get? b = some o := fun b o hb q => PySem.W.hideAll_get _ q (by simpa using hb)
    have hgone : (PySem.W.hideAll s'.heap [kS]).get? kS = none := by
      exact PySem.W.hideAll_none _ (by simp)
    refine keyH_end (κ := dataKind s'.heap (bs.map k)) (h₁ := PySem.W.hideAll s'.heap [kS]) (fun b o _ q => PySem.W.of_hideAll _ q) hgone hk' hL' hKL (SortsAt.data (s := s') hk2 hal hsk fun d hd => ?_) hsz (by rw [hlen]; exact hZ) fun h3 tk3 c3 k3 n3 => ?_
    · obtain ⟨x, hx, rfl⟩ := List.mem_map.mp hd
      exact hu x hx
    · obtain ⟨g0, g1, g2, g3, g4, g5⟩ := fK
      have J1 : Inv X pins σ H' { s' with heap := PySem.W.hideAll s'.heap [kS] } := I'.turned (t' := s'.toks) (it := kS) hid nK' g1 g3 g4 g5
      have J2 : Inv X pins σ H' { s' with heap := h3, toks := tk3 } := L2.Inv.turned (s := { s' with heap := PySem.W.hideAll s'.heap [kS] }) (t' := tk3) (it := L) J1 (fun b o hb q => k3 b o hb q) nL' f1 f3 f4 f5
      have ko : KeyedOut false (bs.map k) us (PySem.W.sortVals (dataKind s'.heap (bs.map k)) false kA.toList us) := ⟨s'.heap, kA.toList, hal, rfl, hk2⟩
      refine q _ c3 H' _ J2 nx (fp_go fL nL') n3 ((ko.length (by rw [List.length_map, hlen])).trans hlen) (keyedOut_each k ko (e.mono fun u x ⟨v, r, d⟩ => ⟨v, r, dp_mono nx.kp _ _ d⟩))

/-- sorted(v, key=f) -/
theorem key_sorted {T : List (Addr × Str)} {β : Type} {enc k : β → PyData} {bs : List β} {v : Value} {f : Addr} {Q : VK} {PD : List Value → Heap → Prop} (I : Inv X pins σ H s) (tb : Tabs T H) (hd : Drawn X.prog X.w X.A.in1 s v PD) (hP : ∀ us h', PD us h' → EachIs (fun u x => Stands X.K H u (enc x)) us bs)
    (hZ : bs.length ≤ 100000) (hal : AllAlike (bs.map k)) (hsk : Sortable (bs.map k)) (hu : ∀ x ∈ bs, X.A.in1.in1.units + (k x).depth < cLine)
    (turn : ∀ x ∈ bs, ∀ (u : Value) (pins' : List (Addr × Obj)) (H' : Hp) (s' : Shared), (∀ p ∈ pins, p ∈ pins') → Inv X pins' σ H' s' → Nx T H H' → Stands X.K H' u (enc x) →
      wpAny (model X.prog X.w) X.A.in1.in1 (call (.ref f) [u]) (fun r s'' => ∃ y H'', Inv X pins' σ H'' s'' ∧ Nx T H' H'' ∧ RelV y r ∧ Dp X.K H'' y (k x)) (fun _ _ => False) s')
    (q : ∀ p xs H', Nx T H H' → H p = none → H' p = some (.lst xs) → DpAll X.K H' xs ((bs.mergeSort (dataLe false k)).map enc) → Q (.ref p) H') :
    wpAny (model X.prog X.w) X.A (call (.builtin "sorted") [v] [(Str.ofString "key", .ref f)]) (L2.EP X pins σ Q) X.xe s := by
  have hz : bs.length ≤ sizeLine := by rw [sizeLine_eq]; omega
  refine sorted_drawn hd (fun us h' hp => by rw [(hP us h' hp).length]; exact hz) (ksk_s1 _ _) fun us h' tk kp hp E' => ?_
  have I1 : Inv X pins σ H { s with heap := h', toks := tk } := I.kept kp
  have fresh : H h'.objs.size = none := I1.hok.fresh (Nat.le_refl _)
  have fL : FpOk X pins H h'.objs.size := I1.fpOk (Nat.le_refl _) fresh
  have hoL : (h'.push (seqObj "list" us.toArray 0)).get? h'.objs.size = some (seqObj "list" us.toArray 0) := Heap.get?_push_size _ rfl
  have I2 : Inv X pins σ H { s with heap := h'.push (seqObj "list" us.toArray 0), toks := tk } := I1.kept (t' := tk) fun b o e => Heap.get?_push_of_some _ e
  refine wpAny_call_entry_kw slot_list_sort ⟨_, hoL, rfl⟩ entry_list_sort ?_ (ksk_l1 _ _)
  rw [ksk_t1]
  refine key_tree (T := T) (enc := enc) (k := k) (bs := bs) I2 tb fL hoL (hP us h' hp) hz hal hsk hu turn fun out c H' s' J nx fL' gL hl eo => ⟨.none, rfl, ?_⟩
  obtain ⟨xs, rv, dx⟩ := each_back (each_remap eo)
  have hx : xs.length ≤ sizeLine := by rw [rv.length, hl]; exact hz
  have n2 : Nx T H' (upd H' h'.objs.size (.lst xs)) := Nx.new nx.tb fL'.1
  exact ⟨.ref h'.objs.size, _, Inv.track (o := .lst xs) J fL' (Nat.le_trans I1.sz (Nat.le_refl _)) ⟨hx, out, c, rv, gL⟩, rfl, q _ xs _ (nx.trans n2) fresh upd_same (dpAll_mono n2.kp _ _ dx)⟩
end
/-! ### a lambda with parameters, run -/
open NdefX (NF NScope CellsAt envF ncx startF inv_startN codeO_at Caps slotAt cells_of)
section
variable {CX : CXT} {P : Program} {w : World} {K : PySem.W.Frag} {mg : Str → Option Value} {base : Heap} {N ps fr : List Str} {F : NF} {f : Addr} {k : Nat}
theorem lam_run {body : Expr} {pm ctv : Value} {t : TE} {A : Around} {outer : List Env} {s : Shared} {H : Hp} {us : List Value} {vs : List V} {ws : List (Option V)} {Q : VK} {E : XK} (S : NScope N ps fr F.scope) (hr : Room (k + 1) A) (e0 : Env0 P w K mg base A outer s H)
    (of1 : s.heap.get? f = some (PySem.W.kla_obj F.name F.qual F.params body F.scope F.cl pm F.c ctv)) (hc : H F.c = some (CodeO F.c F.qual)) (C : CellsAt F.cl fr ws s.heap H) (r : Vals vs us) (hl : vs.length = ps.length)
    (hb : bindArgs (PySem.W.kla_fn F.name F.qual F.params body F.scope F.cl pm (.ref F.c) ctv) ⟨us, []⟩ = pure (ps.zip us))
    (hbody : PE (ncx CX P w K mg base N F f A outer s H E) body t) (ht : t (startF N vs ws) H Q) : codeAny (model P w) A (.call (.ref f) ⟨us, []⟩) (CR CX outer P w H s Q E) s := by
  have lim : s.heap.NoLimit := e0.mod.nolimit.keeps fun b o e => (e0.bs b o e).1
  refine PySem.W.kla_callFunE hr.depth of1 rfl S.co S.gen rfl (codeO_at e0.hok hc) ?_
  rw [hb]
  refine wpAny_pure (wpAny_newFunctionEnv S.nocell (fun ⟨n, _⟩ hy => S.par n (List.of_mem_zip hy).1) (fun h₁ hns hsb => ⟨lim.fresh _ hsb, ?_⟩) S.kind)
  show codeAny _ _ (.expr body (envF F f s.heap.objs.size)) _ _
  have kp : ∀ b o, s.heap.get? b = some o → h₁.get? b = some o := fun b o e => hsb.extBut b o (Nat.ne_of_lt (Heap.lt_size e)) (Heap.get?_push_of_some _ e)
  have J : Inv (ncx CX P w K mg base N F f A outer s H E) [] (startF N vs ws) H { s with heap := h₁, toks := s.toks + (ps.zip us).length } := inv_startN S hr.hd e0 hl r C hns kp
  refine PySem.W.kla_codeExpr (wpAny_mono (hbody.run [] _ (startF N vs ws) H Q J ht) (fun v s' hq => ?_) fun e s' hq => hq)
  obtain ⟨v', H', J', rv, q⟩ := hq
  exact ⟨v', H', J'.os, J'.bare, J'.base, J'.hok, rv, q⟩
end
end Lw
set_option Elab.async false
set_option linter.all false
set_option maxRecDepth 100000
set_option maxHeartbeats 2000000
/-! sorted(e, key=lambda x: body) as a term -/
namespace Lw
open PySem PySem.Spec PyProof.Rows L2
open LamX (ExtN Tabs TabS CodeO TabB lam_make2)
open PySem.W (EachIs AllAlike Sortable dataLe alike dataLt)
open NdefX (NF NScope CellsAt envF ncx startF inv_startN codeO_at Caps slotAt cells_of)

/-- range(n) as a value -/
theorem cr_range1 {X : Cx} : CallR X (.type "range") (fun vs H Q => ∃ n, vs = [V.int n] ∧ ∀ p, H p = none → Q (.ref p) (upd H p (.rng 0 n))) := by
  intro pins s σ H vs us Q I r h
  obtain ⟨n, rfl, q⟩ := h
  obtain ⟨u1, rfl, ri⟩ := vals1 r
  obtain ⟨t, rfl⟩ := ri
  refine call_range_1 ⟨.ref s.heap.objs.size, upd H s.heap.objs.size (.rng 0 n), I.laid (t' := s.toks + 1 + 1) (fun b o e => Heap.get?_push_of_some _ e) (Nat.le_refl _) ?_, rfl, q _ (I.hok.fresh (Nat.le_refl _))⟩
  exact ⟨_, _, _, Heap.get?_push_size _ rfl⟩
/-- what sorted draws -/
def Src (K : PySem.W.Frag) (H : Hp) (v : V) (ds : List PyData) : Prop := Dp K H v (.list ds) ∨ Dp K H v (.tuple ds) ∨ ∃ (p : Addr) (n : Nat), v = .ref p ∧ H p = some (.rng 0 n) ∧ n ≤ 1000 ∧ ds = (List.range n).map fun i => .int ((i : Nat) : Int)
section
variable {X : Cx} {pins : List (Addr × Obj)} {σ : L2.St} {H H' : Hp} {s : Shared} {K : PySem.W.Frag}
theorem Src.go {v : V} {ds : List PyData} (e : ExtN H H') (h : Src K H v ds) : Src K H' v ds := by
  rcases h with h | h | ⟨p, n, h1, h2, h3, h4⟩
  · exact .inl (dp_mono e _ _ h)
  · exact .inr (.inl (dp_mono e _ _ h))
  · exact .inr (.inr ⟨p, n, h1, e p _ h2 (fun ps z => by cases z), h3, h4⟩)
theorem range_vals : ∀ {n : Nat} {us : List Value}, us.length = n → (∀ (i : Nat) (u : Value), us[i]? = some u → ∃ t, u = .int (i : Int) t) → ∃ xs, Vals xs us ∧ DpAll K H xs ((List.range n).map fun i => .int ((i : Nat) : Int)) := by
  intro n us hl h
  have key : ∀ (l : List Nat) (us : List Value), us.length = l.length → (∀ (i : Nat) (u : Value) (m : Nat), us[i]? = some u → l[i]? = some m → ∃ t, u = .int (m : Int) t) → ∃ xs, Vals xs us ∧ DpAll K H xs (l.map fun i => .int ((i : Nat) : Int)) := by
    intro l
    induction l with
    | nil =>
      intro us h _
      rw [List.length_eq_zero_iff.mp h]
      exact ⟨[], .nil, .nil⟩
    | cons m l ih =>
      intro us h g
      cases us with
      | nil => simp at h
      | cons u us =>
        obtain ⟨t, rfl⟩ := g 0 u m rfl rfl
        obtain ⟨xs, h1, h2⟩ := ih us (by simpa using h) fun i u m a b => g (i + 1) u m (by simpa using a) (by simpa using b)
        exact ⟨.int m :: xs, .cons ⟨t, rfl⟩ h1, .cons (.int _) h2⟩
  refine key _ us (by simp [hl]) fun i u m hu hm => ?_
  obtain ⟨t, e⟩ := h i u hu
  have hi : i < n := by
    have := (List.getElem?_eq_some_iff.mp hu).1
    omega
  rw [List.getElem?_range hi] at hm
  cases hm
  exact ⟨t, e⟩
theorem drawn_src {v : V} {u : Value} {ds : List PyData} (hc : X.calm = true) (I : Inv X pins σ H s) (h : Src X.K H v ds) (r : RelV v u) : Drawn X.prog X.w X.A.in1 s u fun us _ => ∃ xs, Vals xs us ∧ DpAll X.K H xs ds := by
  rcases h with h | h | ⟨p, n, rfl, h2, h3, rfl⟩
  · obtain ⟨a, vs, rfl, hs, ha⟩ := dp_lst h
    obtain rfl : u = .ref a := r
    exact fun R E k => drawn_list I hs R E fun us h' tk kp hv => k us h' tk kp ⟨vs, hv, ha⟩
  · obtain ⟨a, vs, rfl, hs, ha⟩ := dp_tup h
    obtain rfl : u = .ref a := r
    exact fun R E k => drawn_tup I hs R E fun us h' tk kp hv => k us h' tk kp ⟨vs, hv, ha⟩
  · obtain rfl : u = .ref p := r
    obtain ⟨t, u', v', hr⟩ := (show ObjOk X.prog X.w H s.heap p (.rng 0 n) from I.hok p _ h2)
    intro R E k
    have hn : Builtin.Range.rangeSize 0 (n : Int) 1 = n := by rw [rangeSize_one]; split <;> omega
    refine collect_range (A := X.A.in1) (I.ok.hd hc) hr (small_one (by decide) (by decide) (by omega) (by omega)) hn (by omega) fun h' tk acc kp it => k _ h' tk kp ?_
    refine range_vals (by rw [Array.length_toList, it.1]) fun i w hw => ?_
    obtain ⟨t, e⟩ := it.2 i w (by rw [← Array.getElem?_toList]; exact hw)
    refine ⟨t, ?_⟩
    rw [e]
    congr 1
    omega
/-- the term -/
def tSortL (T : List (Addr × Str)) (K : PySem.W.Frag) {β : Type} (enc k : β → PyData) (N : List Str) (js : List Nat) (te t : TE) : TE := fun σ H Q => te σ H fun v H1 => ∃ bs : List β, Src K H1 v (bs.map enc) ∧ Tabs T H1 ∧ bs.length ≤ 100000 ∧ AllAlike (bs.map k) ∧ Sortable (bs.map k) ∧ (∀ x ∈ bs, (k x).depth ≤ 8) ∧
  (∀ x ∈ bs, ∀ u H', Nx T H1 H' → Dp K H' u (enc x) → t (startF N [u] (js.map (slotAt σ))) H' fun y H'' => Nx T H' H'' ∧ Dp K H'' y (k x)) ∧
  ∀ p xs H', Nx T H1 H' → H' p = some (.lst xs) → DpAll K H' xs ((bs.mergeSort (dataLe false k)).map enc) → Q (.ref p) H'
theorem pe_sortL {T : List (Addr × Str)} {β : Type} {enc k : β → PyData} {N fr : List Str} {js : List Nat} {a : Str} {e body : Expr} {te t : TE} {params : Arguments} {scope : Scope} {lpos kpos p pos : Pos} {c P : Addr} {j : Nat}
    (hc : X.calm = true) (hr : Room (j + 4) X.A) (hg : Gl X "sorted") (hm : X.mg "sorted" = none) (he : PE X e te) (TB : TabB X.base X.mg c P) (hcode : X.env.code = .ref c) (hmT : (P, X.env.qual ++ "<lambda>") ∈ T) (hu : ∀ q ∈ T, q.1 = P → q.2 = X.env.qual ++ "<lambda>")
    (S : NScope N [a] fr scope) (hfree : ∀ y ∈ scope.names, y.2 = .free → X.env.scope.names.lookup y.1 = some .cell ∨ X.env.scope.names.lookup y.1 = some .free) (hfr : ∀ y ∈ fr, (y, NameKind.free) ∈ scope.names) (hjs : js.map (fun j => X.N[j]?) = fr.map some)
    (hdef : defaultsOf params X.env = ([], [])) (hbind : ∀ (q : Str) (cl : List (Str × Addr)) (pm cv ctv : Value) (us : List Value), us.length = 1 → bindArgs (PySem.W.kla_fn "<lambda>" q params body scope cl pm cv ctv) ⟨us, []⟩ = pure ([a].zip us))
    (hbody : ∀ (A : Around) (outer : List Env) (s : Shared) (H : Hp) (f c' : Addr), Room j (A.deeper (envF ⟨"<lambda>", X.env.qual ++ "<lambda>", params, [], scope, cloFrom X.env.cells scope.names [], c'⟩ f s.heap.objs.size)) →
      PE (ncx CX0 X.prog X.w X.K X.mg X.base N ⟨"<lambda>", X.env.qual ++ "<lambda>", params, [], scope, cloFrom X.env.cells scope.names [], c'⟩ f A outer s H E0) body t)
    (hse : backTo pos (starEach [e] X.env) = [(false, eval e X.env)] := by rfl) :
    PE X (.Call (.Name "sorted" p) [e] [⟨some "key", .Lambda params body scope lpos, kpos⟩] pos) (tSortL T X.K enc k N js te t) := by
  refine ⟨fun pins s σ H Q I h => ?_⟩
  have hF : ∀ y ∈ scope.names, y.2 = .free → ∃ c, X.env.cells.lookup y.1 = some c := fun y hy e => (hfree y hy e).elim (fun z => I.ok.has _ (.inl z)) fun z => I.ok.has _ (.inr z)
  refine wpAny_Call_Name_kw (ld_blt I hg hm PyProof.Rows.boot_sorted ?_)
  refine PyProof.Rows.callWith_kw (e := e) (rest := []) ?_ hse (by rw [hse]; rfl) (by rfl) (by rfl)
  rw [hse]
  refine Calls.spliced_cons (thn (he.run pins s σ H _ I h) fun u s1 ⟨v, H1, I1, rv, bs, src, tb, hl, hal, hso, hdp, hk, q⟩ => Calls.spliced_nil ?_)
  show wpAny _ _ (evalAll [(do let v ← eval (.Lambda params body scope lpos) X.env; standAt pos; pure v)]) _ _ s1
  refine wpAny_evalAll_cons (wpAny_bind (lam_make2 I1 TB hcode hmT hu tb hdef hF fun f c' pm ctv H2 s2 I2 eN T2 hf hfn hfr' hco => wpAny_bind (wpAny_standAt (wpAny_pure (wpAny_evalAll_nil ?_)))))
  have n12 : Nx T H1 H2 := ⟨eN, T2⟩
  -- the lambda's object stays as it is
  have fL : f ≠ X.env.locals := fun z => by
    obtain ⟨m, ⟨ob, es, ep, ho, r⟩, _⟩ := I2.loc
    rw [← z, hf] at ho
    cases ho
    cases r.1
  have fS : f ∉ X.fs := fun z => hfr' (by
    rcases I2.ok.stk with q | ⟨q, _⟩
    · rw [q]; exact z
    · rw [q]
      unfold frs
      rw [List.filterMap_cons]
      split
      · exact z
      · exact List.mem_cons_of_mem _ z)
  have I3 : Inv X (pins ++ [(f, PySem.W.kla_obj "<lambda>" (X.env.qual ++ "<lambda>") params body scope (cloFrom X.env.cells scope.names []) pm c' ctv)]) σ H2 s2 := I2.pins_of fun p hp => by
    rcases List.mem_append.mp hp with z | z
    · exact I2.pin p (List.mem_append_right _ z)
    · rw [List.mem_singleton.mp z]
      exact ⟨hf, hfn, fL, fS, fun v z => nomatch z⟩
  have huU : ∀ x ∈ bs, X.A.in1.in1.units + (k x).depth < cLine := fun x hx => by
    have h1 := hdp x hx
    have h2 := hr.un
    rw [Around.in1_units, Around.in1_units]
    omega
  have capF : Caps X (cloFrom X.env.cells scope.names []) fr js := Caps.made I2.ok hfree hfr hjs
  have main := key_sorted (T := T) (enc := enc) (k := k) (bs := bs) (v := u) (f := f) (Q := fun y H' => Q y H') I3 T2 (drawn_src hc I3 (src.go eN) rv) (fun us h' ⟨xs, h1, h2⟩ => each_unmap (each_of h1 h2)) hl hal hso huU (fun x hx w pins' H' s' hsub J nx st => ?_)
    (fun p xs H' nx hp hH' hd => q p xs H' (n12.trans nx) hH' hd)
  · refine wpAny_mono main (fun r s' hq => ?_) fun _ _ x => x
    obtain ⟨y, H', J, ry, qq⟩ := hq
    exact ⟨y, H', J.unpinned, ry, qq⟩
  · obtain ⟨x0, rx0, dx0⟩ := st
    have of1 := (J.pin (f, _) (List.mem_append_right _ (hsub _ (List.mem_append_right _ (List.mem_singleton.mpr rfl))))).1
    have hr3 : Room (j + 1) X.A.in1.in1 := ((hr.mono (by omega : j + 3 ≤ j + 4)).in1).in1
    have capJ := cells_of J capF
    have hco' : H' c' = some (CodeO c' (X.env.qual ++ "<lambda>")) := nx.kp c' _ hco LamX.codeO_ne
    have rd := hk x hx x0 H' (n12.trans nx) dx0
    have rc := lam_run (CX := CX0) (N := N) (ps := [a]) (fr := fr) (F := ⟨"<lambda>", X.env.qual ++ "<lambda>", params, [], scope, cloFrom X.env.cells scope.names [], c'⟩) (f := f) (E := E0) (us := [w]) (vs := [x0]) (Q := fun y H'' => Nx T H' H'' ∧ Dp X.K H'' y (k x))
      S hr3 J.env0.in1.in1 of1 hco' capJ (.cons rx0 .nil) rfl (hbind _ _ _ _ _ _ rfl) (hbody _ _ _ _ _ _ (hr3.deeper _)) rd
    refine wpAny_call (codeAny_mono rc fun r s2 hq => ?_)
    cases r with
    | error e => exact (show False from hq).elim
    | ok fl =>
      cases fl with
      | ret r =>
        obtain ⟨y, H'', J2, ry, n2, dy⟩ := J.after hq
        exact ⟨y, H'', J2, n2, ry, dy⟩
      | next => exact False.elim hq
      | brk => exact False.elim hq
      | cont => exact False.elim hq
end
end Lw
set_option Elab.async false
set_option linter.all false
set_option maxRecDepth 100000
set_option maxHeartbeats 2000000
/-! what operators and built-ins make of data -/
namespace Lw
open PySem PySem.Spec PyProof.Rows L2
open LamX (ExtN Tabs TabS CodeO)
open PySem.W (EachIs AllAlike Sortable dataLe alike dataLt)
section
variable {T : List (Addr × Str)} {K : PySem.W.Frag} {Γ : Gam K} {x y z : Dsc K} {te ta tb : TE} {H H' : Hp}
/-! ### whole numbers -/
theorem rg_i {g : Int → Int → Int} {a b : Int} : RG (K := K) T (rI0 fun i j => .int (g i j)) (dd (.int a)) (dd (.int b)) (dd (.int (g a b))) := fun u v H tb hu hv Q q => ⟨a, b, dp_int hu, dp_int hv, q _ H (Nx.refl tb) (.int _)⟩
theorem rg_b {g : Int → Int → Bool} {a b : Int} : RG (K := K) T (rI0 fun i j => .bl (g i j)) (dd (.int a)) (dd (.int b)) (dd (.bool (g a b))) := fun u v H tb hu hv Q q => ⟨a, b, dp_int hu, dp_int hv, q _ H (Nx.refl tb) (.bl _)⟩
theorem rg_c {C : Int → Int → Prop} {g : Int → Int → Int} {a b : Int} (hc : C a b) : RG (K := K) T (rI C fun i j => .int (g i j)) (dd (.int a)) (dd (.int b)) (dd (.int (g a b))) := fun u v H tb hu hv Q q => ⟨a, b, dp_int hu, dp_int hv, hc, q _ H (Nx.refl tb) (.int _)⟩
theorem ug_i {g : Int → Int} {a : Int} : UG (K := K) T (rU fun i => .int (g i)) (dd (.int a)) (dd (.int (g a))) := fun u H tb hu Q q => ⟨a, dp_int hu, q _ H (Nx.refl tb) (.int _)⟩
/-! ### == of data -/
theorem rg_eqD {d e : PyData} {b : Bool} (h1 : SeqAt.shaped d = true) (h2 : SeqAt.shaped e = true) (hb : PyData.eqv d e = b) : RG T (rEqD K) (dd (K := K) d) (dd e) (dd (.bool b)) := fun u v H tb hu hv Q q => ⟨d, e, hu, hv, h1, h2, q _ H (Nx.refl tb) (by rw [hb]; exact .bl _)⟩
theorem rg_neD {d e : PyData} {b : Bool} (h1 : SeqAt.shaped d = true) (h2 : SeqAt.shaped e = true) (hb : (!PyData.eqv d e) = b) : RG T (rNeD K) (dd (K := K) d) (dd e) (dd (.bool b)) := fun u v H tb hu hv Q q => ⟨d, e, hu, hv, h1, h2, q _ H (Nx.refl tb) (by rw [hb]; exact .bl _)⟩
/-! ### None -/
def isNone : PyData → Bool
  | .none => true
  | _ => false
theorem dec_non {v : V} {d : PyData} (h : Dp K H v d) : decide (v = .non) = isNone d := by
  cases h <;> rfl
theorem et_isN {d : PyData} (h : ED T te Γ d) : ET T (tB (tIsN te)) Γ (isNone d) := fun σ H ok Q q => h σ H ok _ fun v H2 n dv => ⟨_, rfl, by rw [dec_non dv]; exact q H2 n⟩
theorem et_notN {d : PyData} (h : ED T te Γ d) : ET T (tB (tNotN te)) Γ (!isNone d) := fun σ H ok Q q => h σ H ok _ fun v H2 n dv => ⟨_, rfl, by rw [dec_non dv]; exact q H2 n⟩
/-! ### tuples, lists -/
theorem eg_tup {ds : List PyData} {tr : TA} (h : EA T tr Γ (ds.map dd)) (hl : ds.length ≤ 1000000) : ED T (tTup tr) Γ (.tuple ds) := fun σ H ok Q q => h σ H ok _ fun vs H1 n1 d => by
  have dv := denAll_dp d
  refine ⟨by rw [dpa_len dv, sizeLine_eq]; omega, fun p hp => ?_⟩
  have n2 : Nx T H1 (upd H1 p (.tup vs)) := Nx.new n1.tb hp
  exact q _ _ (n1.trans n2) (dp_newT upd_same (dpAll_mono n2.kp _ _ dv))
theorem en_lst {ds : List PyData} {tr : TA} (h : EA T tr Γ (ds.map dd)) (hl : ds.length ≤ 1000000) : EN T (tLst tr) Γ ds := fun σ H ok Q q => h σ H ok _ fun vs H1 n1 d => by
  have dv := denAll_dp d
  refine ⟨by rw [dpa_len dv, sizeLine_eq]; omega, fun p hp => ?_⟩
  have n2 : Nx T H1 (upd H1 p (.lst vs)) := Nx.new n1.tb hp
  exact q p vs _ (n1.trans n2) (New.back n1.kp hp) upd_same (dpAll_mono n2.kp _ _ dv)

theorem atI_dp {vs : List V} {ds : List PyData} {i : Int} {d : PyData} (h : DpAll K H vs ds) (e : atI ds i = some d) : ∃ v, atI vs i = some v ∧ Dp K H v d := by
  unfold atI at e ⊢
  rw [dpa_len h]
  cases q : ixN ds.length i with
  | none => rw [q] at e; cases e
  | some j =>
    rw [q] at e
    exact dpa_at h e
theorem rg_ixT {ds : List PyData} {i : Int} {d : PyData} (e : atI ds i = some d) : RG T (rIxT K) (dd (K := K) (.tuple ds)) (dd (.int i)) (dd d) := fun u v H tb hu hv Q q => by
  obtain ⟨a, vs, rfl, hs, ha⟩ := dp_tup hu
  obtain ⟨w, h1, h2⟩ := atI_dp ha e
  exact ⟨a, vs, i, w, rfl, dp_int hv, hs, h1, q w H (Nx.refl tb) h2⟩
theorem rg_ixL {ds : List PyData} {i : Int} {d : PyData} (e : atI ds i = some d) : RG T (rIxL K) (dd (K := K) (.list ds)) (dd (.int i)) (dd d) := fun u v H tb hu hv Q q => by
  obtain ⟨a, vs, rfl, hs, ha⟩ := dp_lst hu
  obtain ⟨w, h1, h2⟩ := atI_dp ha e
  exact ⟨a, vs, i, w, rfl, dp_int hv, hs, h1, q w H (Nx.refl tb) h2⟩
theorem rg_catT {ds es : List PyData} (hl : ds.length + es.length ≤ 1000000) : RG T (rCatA K) (dd (K := K) (.tuple ds)) (dd (.tuple es)) (dd (.tuple (ds ++ es))) := fun u v H tb hu hv Q q => by
  obtain ⟨a, vs, rfl, hs, ha⟩ := dp_tup hu
  obtain ⟨b, ws, rfl, hs2, hb⟩ := dp_tup hv
  have l1 := dpa_len ha
  have l2 := dpa_len hb
  refine ⟨a, b, vs, ws, rfl, rfl, hs, hs2, by rw [sizeLine_eq]; omega, fun e => ?_, fun _ e => ?_, fun _ _ p hp => ?_⟩
  · have : ds = [] := List.length_eq_zero_iff.mp (by rw [← l1, e]; rfl)
    subst this
    exact q _ H (Nx.refl tb) (.tup hs2 hb)
  · have : es = [] := List.length_eq_zero_iff.mp (by rw [← l2, e]; rfl)
    subst this
    rw [List.append_nil] at q
    exact q _ H (Nx.refl tb) (.tup hs ha)
  · have n : Nx T H (upd H p (.tup (vs ++ ws))) := Nx.new tb hp
    exact q _ _ n (dp_newT upd_same (dpAll_mono n.kp _ _ (dpa_app ha hb)))
theorem rg_cat {ds es : List PyData} (hl : ds.length + es.length ≤ 1000000) : RG T rCat (ll (K := K) ds) (ll es) (ll (ds ++ es)) := fun u v H tb hu hv Q q => by
  obtain ⟨a, vs, rfl, hs, ha⟩ := hu
  obtain ⟨b, ws, rfl, hs2, hb⟩ := hv
  have l1 := dpa_len ha
  have l2 := dpa_len hb
  refine ⟨a, b, vs, ws, rfl, rfl, hs, hs2, by rw [sizeLine_eq]; omega, fun p hp => ?_⟩
  have n : Nx T H (upd H p (.lst (vs ++ ws))) := Nx.new tb hp
  exact q _ _ n ⟨p, _, rfl, upd_same, dpAll_mono n.kp _ _ (dpa_app ha hb)⟩
/-- xs[::-1] -/
theorem eg_rev {ds : List PyData} (h : ED T te Γ (.list ds)) : EG T (tRevL K te) Γ (ll ds.reverse) := fun σ H ok Q q => h σ H ok _ fun v H1 n1 d => by
  obtain ⟨a, vs, rfl, hs, ha⟩ := dp_lst d
  refine ⟨a, vs, rfl, hs, fun p hp => ?_⟩
  have n : Nx T H1 (upd H1 p (.lst vs.reverse)) := Nx.new n1.tb hp
  exact q _ _ (n1.trans n) ⟨p, _, rfl, upd_same, dpAll_mono n.kp _ _ (dpa_rev ha)⟩
/-- t[:k] of a tuple -/
theorem eg_cut {ds : List PyData} {k : Nat} (h : ED T te Γ (.tuple ds)) (hk : k ≤ ds.length) : ED T (tSl (rSlA K) te tNoPart (tPart (tC (.int k)))) Γ (.tuple (ds.take k)) := fun σ H ok Q q => h σ H ok _ fun v H1 n1 d => by
  obtain ⟨a, vs, rfl, hs, ha⟩ := dp_tup d
  have l1 := dpa_len ha
  have e0 : HT.sIx vs.length 0 none = 0 := rfl
  have e1 : HT.sIx vs.length vs.length (some (k : Int)) = k := by rw [HT.sIx_nat]; omega
  refine ⟨k, rfl, a, vs, rfl, hs, fun e => ?_, fun _ p hp => ?_⟩
  · rw [e1] at e
    have : ds.take k = ds := List.take_of_length_le (by omega)
    rw [this] at q
    exact q _ H1 n1 (.tup hs ha)
  · have ec : cutV vs none (some (k : Int)) = vs.take k := by
      unfold cutV
      rw [e0, e1]
      rfl
    rw [ec]
    have n : Nx T H1 (upd H1 p (.tup (vs.take k))) := Nx.new n1.tb hp
    exact q _ _ (n1.trans n) (dp_newT upd_same (dpAll_mono n.kp _ _ (dpa_take k ha)))
/-- membership among whole numbers -/
theorem inV_ints (i : Int) : ∀ ns : List Int, inV (.int i) (ns.map V.int) = decide (i ∈ ns)
  | [] => rfl
  | n :: ns => by
    show ((n == i) || inV (.int i) (ns.map V.int)) = _
    rw [inV_ints i ns]
    by_cases h : n = i
    · simp [h]
    · simp [h, Ne.symm h]
theorem flat_ints (ns : List Int) : (ns.map V.int).all flatV = true := by
  rw [List.all_map]
  simp [flatV]
theorem rg_in {ns : List Int} {i : Int} {d : PyData} (hd : d = .list (ns.map .int) ∨ d = .tuple (ns.map .int)) : RG T (rIn K false) (dd (K := K) (.int i)) (dd d) (dd (.bool (decide (i ∈ ns)))) := fun u v H tb hu hv Q q => by
  have hu := dp_int hu
  subst hu
  rcases hd with rfl | rfl
  · obtain ⟨a, vs, rfl, hs, ha⟩ := dp_lst hv
    have := dpa_ints ha
    subst this
    exact ⟨a, _, rfl, .inl hs, rfl, flat_ints ns, q _ H (Nx.refl tb) (by rw [inV_ints]; exact .bl _)⟩
  · obtain ⟨a, vs, rfl, hs, ha⟩ := dp_tup hv
    have := dpa_ints ha
    subst this
    exact ⟨a, _, rfl, .inr hs, rfl, flat_ints ns, q _ H (Nx.refl tb) (by rw [inV_ints]; exact .bl _)⟩
theorem rg_notIn {ns : List Int} {i : Int} {d : PyData} (hd : d = .list (ns.map .int) ∨ d = .tuple (ns.map .int)) : RG T (rIn K true) (dd (K := K) (.int i)) (dd d) (dd (.bool (!decide (i ∈ ns)))) := fun u v H tb hu hv Q q => by
  have hu := dp_int hu
  subst hu
  rcases hd with rfl | rfl
  · obtain ⟨a, vs, rfl, hs, ha⟩ := dp_lst hv
    have := dpa_ints ha
    subst this
    exact ⟨a, _, rfl, .inl hs, rfl, flat_ints ns, q _ H (Nx.refl tb) (by rw [inV_ints]; exact .bl _)⟩
  · obtain ⟨a, vs, rfl, hs, ha⟩ := dp_tup hv
    have := dpa_ints ha
    subst this
    exact ⟨a, _, rfl, .inr hs, rfl, flat_ints ns, q _ H (Nx.refl tb) (by rw [inV_ints]; exact .bl _)⟩
/-- of data in a list -/
theorem rg_inD {ds : List PyData} {d : PyData} {b : Bool} (h1 : SeqAt.shaped d = true) (h2 : SeqAt.shaped (.list ds) = true) (hb : (ds.any fun z => PyData.eqv z d) = b) : RG T (rInD K) (dd (K := K) d) (dd (.list ds)) (dd (.bool b)) := fun u v H tb hu hv Q q => ⟨d, ds, hu, hv, h1, h2, q _ H (Nx.refl tb) (by rw [hb]; exact .bl _)⟩
theorem rg_notInD {ds : List PyData} {d : PyData} {b : Bool} (h1 : SeqAt.shaped d = true) (h2 : SeqAt.shaped (.list ds) = true) (hb : (!ds.any fun z => PyData.eqv z d) = b) : RG T (rNotInD K) (dd (K := K) d) (dd (.list ds)) (dd (.bool b)) := fun u v H tb hu hv Q q => ⟨d, ds, hu, hv, h1, h2, q _ H (Nx.refl tb) (by rw [hb]; exact .bl _)⟩
theorem rg_ltD {d e : PyData} (h1 : alike d e = true) (h2 : d ≠ .none) (h3 : d.depth ≤ 8) : RG T (rLtD K) (dd (K := K) d) (dd e) (dd (.bool (dataLt d e))) := fun u v H tb hu hv Q q => ⟨d, e, hu, hv, h1, h2, h3, q _ H (Nx.refl tb) (.bl _)⟩
/-! ### calls -/
theorem cg1 {r : List V → Hp → VK → Prop} (h : ∀ u H, Tabs T H → x.den u H → ∀ Q : VK, (∀ t H2, Nx T H H2 → z.den t H2 → Q t H2) → r [u] H Q) : CG T r [x] z := fun vs H tb d Q q => by
  cases d with
  | cons d1 d =>
    cases d
    exact h _ H tb d1 Q q
theorem cg2 {r : List V → Hp → VK → Prop} (h : ∀ u v H, Tabs T H → x.den u H → y.den v H → ∀ Q : VK, (∀ t H2, Nx T H H2 → z.den t H2 → Q t H2) → r [u, v] H Q) : CG T r [x, y] z := fun vs H tb d Q q => by
  cases d with
  | cons d1 d =>
    cases d with
    | cons d2 d =>
      cases d
      exact h _ _ H tb d1 d2 Q q
theorem cg_len {ds : List PyData} {d : PyData} (hd : d = .list ds ∨ d = .tuple ds) : CG T (fun xs H Q => ∃ p ys, xs = [.ref p] ∧ (SqL K H p ys ∨ SqT K H p ys) ∧ Q (.int ys.length) H) [dd (K := K) d] (dd (.int (ds.length : Nat))) := cg1 fun u H tb hu Q q => by
  rcases hd with rfl | rfl
  · obtain ⟨a, vs, rfl, hs, ha⟩ := dp_lst hu
    exact ⟨a, vs, rfl, .inl hs, by rw [dpa_len ha]; exact q _ H (Nx.refl tb) (.int _)⟩
  · obtain ⟨a, vs, rfl, hs, ha⟩ := dp_tup hu
    exact ⟨a, vs, rfl, .inr hs, by rw [dpa_len ha]; exact q _ H (Nx.refl tb) (.int _)⟩
theorem cg_tuple {ds : List PyData} : CG T (fun xs H Q => ∃ p ys, xs = [.ref p] ∧ ((SqL K H p ys ∧ ∀ l, H l = none → Q (.ref l) (upd H l (.tup ys))) ∨ (SqT K H p ys ∧ Q (.ref p) H))) [dd (K := K) (.list ds)] (dd (.tuple ds)) := cg1 fun u H tb hu Q q => by
  obtain ⟨a, vs, rfl, hs, ha⟩ := dp_lst hu
  refine ⟨a, vs, rfl, .inl ⟨hs, fun l hl => ?_⟩⟩
  have n : Nx T H (upd H l (.tup vs)) := Nx.new tb hl
  exact q _ _ n (dp_newT upd_same (dpAll_mono n.kp _ _ ha))
theorem cg_list {ds : List PyData} {d : PyData} (hd : d = .list ds ∨ d = .tuple ds) : CG T (fun xs H Q => ∃ p ys, xs = [.ref p] ∧ (SqL K H p ys ∨ SqT K H p ys) ∧ ∀ l, H l = none → Q (.ref l) (upd H l (.lst ys))) [dd (K := K) d] (ll ds) := cg1 fun u H tb hu Q q => by
  rcases hd with rfl | rfl
  · obtain ⟨a, vs, rfl, hs, ha⟩ := dp_lst hu
    refine ⟨a, vs, rfl, .inl hs, fun l hl => ?_⟩
    have n : Nx T H (upd H l (.lst vs)) := Nx.new tb hl
    exact q _ _ n ⟨l, _, rfl, upd_same, dpAll_mono n.kp _ _ ha⟩
  · obtain ⟨a, vs, rfl, hs, ha⟩ := dp_tup hu
    refine ⟨a, vs, rfl, .inr hs, fun l hl => ?_⟩
    have n : Nx T H (upd H l (.lst vs)) := Nx.new tb hl
    exact q _ _ n ⟨l, _, rfl, upd_same, dpAll_mono n.kp _ _ ha⟩
theorem cg_sorted {ds : List PyData} {d : PyData} (hd : d = .list ds ∨ d = .tuple ds) (ok : SortOk ds) : CG T (rSortD K) [dd (K := K) d] (ll (ds.mergeSort (dataLe false id))) := cg1 fun u H tb hu Q q => by
  refine ⟨u, ds, rfl, ?_, ok, fun p us hp hu' => q _ _ (Nx.new tb hp) ⟨p, us, rfl, upd_same, hu'⟩⟩
  rcases hd with rfl | rfl
  · exact .inl hu
  · exact .inr hu
theorem cg_all {bs : List Bool} : CG T (rAll K) [dd (K := K) (.list (bs.map .bool))] (dd (.bool (bs.all id))) := cg1 fun u H tb hu Q q => by
  obtain ⟨a, vs, rfl, hs, ha⟩ := dp_lst hu
  have := dpa_bools ha
  subst this
  exact ⟨a, bs, rfl, hs, q _ H (Nx.refl tb) (.bl _)⟩
theorem cg_sum {ns : List Int} : CG T (rSum K) [dd (K := K) (.list (ns.map .int))] (dd (.int ns.sum)) := cg1 fun u H tb hu Q q => by
  obtain ⟨a, vs, rfl, hs, ha⟩ := dp_lst hu
  have := dpa_ints ha
  subst this
  exact ⟨a, ns, rfl, hs, q _ H (Nx.refl tb) (.int _)⟩
theorem cg_maxL {ns : List Int} {m : Int} (h0 : 0 < ns.length) (hu : ∀ k, k ∈ ns → (∀ y ∈ ns, y ≤ k) → k = m) : CG T (rMax K) [dd (K := K) (.list (ns.map .int))] (dd (.int m)) := cg1 fun u H tb hu' Q q => by
  obtain ⟨a, vs, rfl, hs, ha⟩ := dp_lst hu'
  have := dpa_ints ha
  subst this
  exact ⟨a, ns, rfl, hs, h0, fun k hk hle => by rw [hu k hk hle]; exact q _ H (Nx.refl tb) (.int _)⟩
theorem cg_maxT {a b : Int} : CG T (rMaxT K) [dd (K := K) (.tuple [.int a, .int b])] (dd (.int (max a b))) := cg1 fun u H tb hu Q q => ⟨u, a, [b], rfl, hu, q _ H (Nx.refl tb) (.int _)⟩
theorem cg_max2 {a b : Int} : CG T (fun xs H Q => ∃ i j, xs = [.int i, .int j] ∧ Q (.int (if j > i then j else i)) H) [dd (K := K) (.int a), dd (.int b)] (dd (.int (max a b))) := cg2 fun u v H tb hu hv Q q => by
  have e1 := dp_int hu
  have e2 := dp_int hv
  subst e1 e2
  refine ⟨a, b, rfl, ?_⟩
  have e : (if b > a then b else a) = max a b := by split <;> omega
  rw [e]
  exact q _ H (Nx.refl tb) (.int _)
theorem cg_min2 {a b : Int} : CG T (fun xs H Q => ∃ i j, xs = [.int i, .int j] ∧ Q (.int (if j < i then j else i)) H) [dd (K := K) (.int a), dd (.int b)] (dd (.int (min a b))) := cg2 fun u v H tb hu hv Q q => by
  have e1 := dp_int hu
  have e2 := dp_int hv
  subst e1 e2
  refine ⟨a, b, rfl, ?_⟩
  have e : (if b < a then b else a) = min a b := by split <;> omega
  rw [e]
  exact q _ H (Nx.refl tb) (.int _)
theorem cg_abs {a : Int} : CG T (fun xs H Q => ∃ i, xs = [.int i] ∧ Q (.int (if i < 0 then -i else i)) H) [dd (K := K) (.int a)] (dd (.int (if a < 0 then -a else a))) := cg1 fun u H tb hu Q q => ⟨a, by rw [dp_int hu], q _ H (Nx.refl tb) (.int _)⟩
theorem cg_int {a : Int} : CG T (fun xs H Q => (∃ i, xs = [.int i] ∧ Q (.int i) H) ∨ ∃ k, xs = [.bl k] ∧ Q (.int (if k then 1 else 0)) H) [dd (K := K) (.int a)] (dd (.int a)) := cg1 fun u H tb hu Q q => .inl ⟨a, by rw [dp_int hu], q _ H (Nx.refl tb) (.int _)⟩
theorem cg_minD {d : PyData} {ds : List PyData} (h1 : flatA (d :: ds) = true) (h2 : PySem.W.AlikeAll (d :: ds)) (h3 : ∀ e ∈ d :: ds, e.depth ≤ 8) : CG T (rMinD K) [dd (K := K) (.list (d :: ds))] (dd (PySem.W.minD d ds)) := cg1 fun u H tb hu Q q => ⟨u, d, ds, rfl, hu, h1, h2, h3, fun x hx => q _ H (Nx.refl tb) hx⟩
def tyN : PyData → Option String
  | .none => some "NoneType"
  | .bool _ => some "bool"
  | .int _ => some "int"
  | .tuple _ => some "tuple"
  | _ => none
theorem ty_of {v : V} {d : PyData} {t : String} (h : Dp K H v d) (e : tyN d = some t) : TyX K H v (.type t) := by
  cases h with
  | non => cases e; exact .base .non
  | bl b => cases e; exact .base (.bl b)
  | int i => cases e; exact .base (.int i)
  | str s => cases e
  | lst h1 h2 => cases e
  | tup h1 h2 =>
    cases e
    rcases h1 with (h1 | ⟨o, h1⟩) | ⟨o, its, n, hk, hc, _⟩
    · exact .base (.tup h1)
    · exact .fTuple h1
    · exact .kTuple hk hc
/-- a built-in class -/
def ty (K : PySem.W.Frag) (c : String) : Dsc K := ⟨fun v _ => v = .ty c, fun _ h => h⟩
theorem eg_ty {c : String} : EG T (tC (.ty c)) Γ (ty K c) := eg_c fun _ => rfl
theorem cg_isi {d : PyData} {t c : String} {b : Bool} (e : tyN d = some t) (hk : kitB t c = some b) : CG T (rIsi K) [dd (K := K) d, ty K c] (dd (.bool b)) := cg2 fun u v H tb hu hv Q q => by
  have hv : v = .ty c := hv
  subst hv
  exact ⟨u, _, _, _, b, rfl, .ty c, ty_of hu e, kit_ty hk, q _ H (Nx.refl tb) (.bl _)⟩
end
/-! ### min of a pair -/
section
variable {X : Cx}
def rMinT (K : PySem.W.Frag) : List V → Hp → VK → Prop := fun vs H Q => ∃ (v : V) (n : Int) (ms : List Int), vs = [v] ∧ Dp K H v (.tuple (.int n :: ms.map .int)) ∧ Q (.int (ms.foldl min n)) H
theorem cr_minT (hc : X.calm = true) (hu : X.A.units + 64 < cLine) : CallR X (.builtin "min") (rMinT X.K) := by
  intro pins s σ H vs us Q I r h
  obtain ⟨v, n, ms, rfl, hv, q⟩ := h
  obtain ⟨u, rfl, rx⟩ := vals1 r
  obtain ⟨a, xs, rfl, hs, dx⟩ := dp_tup hv
  cases rx
  obtain ⟨its, rv, ht, hz⟩ := I.tuple hs
  obtain ⟨as, ra⟩ := Dp.readsAll I _ _ _ dx rv
  have al : PySem.W.AlikeAll (.int n :: ms.map PyData.int) := by
    have sh : ∀ d ∈ (.int n :: ms.map PyData.int : List PyData), ∃ i, d = .int i := fun d hd => by
      rcases List.mem_cons.mp hd with e | e
      · exact ⟨n, e⟩
      · obtain ⟨i, _, e⟩ := List.mem_map.mp e
        exact ⟨i, e.symm⟩
    refine ⟨fun d hd e he => ?_, fun d hd => ?_⟩
    · obtain ⟨i, rfl⟩ := sh d hd
      obtain ⟨j, rfl⟩ := sh e he
      simp [alike]
    · obtain ⟨i, rfl⟩ := sh d hd
      simp
  have hd0 : PyData.depthAll (.int n :: ms.map PyData.int) ≤ 0 := depthAll_le fun d hd => by
    rcases List.mem_cons.mp hd with e | e
    · rw [e]; simp [PyData.depth]
    · obtain ⟨i, _, e⟩ := List.mem_map.mp e
      rw [← e]; simp [PyData.depth]
  refine PySem.W.min_tuple_data (I.ok.hd hc) (show s.heap.IsTuple a its.toArray from ht) ra al (by omega) fun i v h' tk bs hi hr hk => ?_
  rw [PySem.W.minD_ints] at hr
  cases hr with
  | int _ t => exact ⟨.int _, H, I.kept hk, ⟨t, rfl⟩, q⟩
theorem cg_minT {T : List (Addr × Str)} {K : PySem.W.Frag} {a b : Int} : CG T (rMinT K) [dd (K := K) (.tuple [.int a, .int b])] (dd (.int (min a b))) := cg1 fun u H tb hu Q q => ⟨u, a, [b], rfl, hu, q _ H (Nx.refl tb) (.int _)⟩
end
/-! ### walks that only tuples uphold; comprehensions of two clauses -/
section
variable {T : List (Addr × Str)} {K : PySem.W.Frag} {Γ : Gam K} {te : TE}
abbrev TK (K : PySem.W.Frag) (H H' : Hp) : Prop := ∀ b xs, SqT K H b xs → SqT K H' b xs
theorem tk_of {H H' : Hp} (e : ExtN H H') : TK K H H' := fun _ _ h => sqT_mono e h
structure Wq (T : List (Addr × Str)) (K : PySem.W.Frag) (J : It) (H1 : Hp) (ys : List (Dsc K)) : Prop where
  go : ∀ i H, i < ys.length → TK K H1 H → Tabs T H → J.go i H
  stop : ∀ H, TK K H1 H → J.stop ys.length H
  yld : ∀ i H v H', i < ys.length → TK K H1 H → Tabs T H → J.yld i H v H' → Nx T H H' ∧ ∃ y, ys[i]? = some y ∧ y.den v H'
def WQ (T : List (Addr × Str)) (wi : TI) (Γ : Gam K) (ys : List (Dsc K)) : Prop := ∀ σ H, Ok T σ H Γ → ∀ R : It → Hp → Prop, (∀ J H1, Nx T H H1 → Wq T K J H1 ys → R J H1) → wi σ H R
theorem WQ.wg {wi : TI} {ys : List (Dsc K)} (h : WQ T wi Γ ys) : WG T wi Γ ys := fun σ H ok R r => h σ H ok R fun J H1 n w => r J H1 n ⟨fun i H hi n => w.go i H hi (tk_of n.kp) n.tb, fun H n => w.stop H (tk_of n.kp), fun i H v H' hi n => w.yld i H v H' hi (tk_of n.kp) n.tb⟩
theorem wq_range1 {ta : TA} {n : Nat} (h : EA T ta Γ [dd (K := K) (.int n)]) (hn : n < 1000000) : WQ T (iRng1 ta) Γ ((List.range n).map fun i => dd (.int (i : Nat))) := fun σ H ok R r => h σ H ok _ fun vs H1 n1 d => by
  cases d with
  | cons d1 d =>
    cases d
    have e := dp_int d1
    subst e
    refine ⟨(n : Int), rfl, by omega, by omega, r _ H1 n1 ⟨fun i H hi _ _ => ?_, fun H _ => ?_, fun i H v H' hi _ tb y => ?_⟩⟩
    · show i < Int.toNat _
      simpa using hi
    · show Int.toNat _ ≤ _
      simp
    · obtain ⟨rfl, rfl⟩ := y
      rw [List.length_map, List.length_range] at hi
      refine ⟨Nx.refl tb, dd (.int (i : Nat)), by simp [hi], ?_⟩
      have e0 : (0 : Int) + (i : Int) = (i : Int) := Int.zero_add _
      rw [e0]
      exact .int _
theorem wq_zip1 {ta : TA} {ds es : List PyData} (h : EA T ta Γ [dd (K := K) (.tuple ds), dd (.tuple es)]) (f1 : flatA ds = true) (f2 : flatA es = true) : WQ T (iZip1 K ta) Γ ((ds.zip es).map fun p => dd (.tuple [p.1, p.2])) := fun σ H ok R r => h σ H ok _ fun vs H1 n1 d => by
  cases d with
  | cons d1 d =>
    cases d with
    | cons d2 d =>
      cases d
      obtain ⟨a, xs, rfl, s1, a1⟩ := dp_tup d1
      obtain ⟨b, ys, rfl, s2, a2⟩ := dp_tup d2
      have l1 := dpa_len a1
      have l2 := dpa_len a2
      refine ⟨a, b, xs, ys, rfl, s1, s2, r _ H1 n1 ⟨fun i H hi k _ => ?_, fun H k => ⟨xs, ys, k _ _ s1, k _ _ s2, ?_⟩, fun i H v H' hi k tb y => ?_⟩⟩
      · rw [List.length_map, List.length_zip] at hi
        exact ⟨xs, ys, xs[i]'(by omega), ys[i]'(by omega), k _ _ s1, k _ _ s2, List.getElem?_eq_getElem (by omega), List.getElem?_eq_getElem (by omega)⟩
      · rw [List.length_map, List.length_zip]
        omega
      · rw [List.length_map, List.length_zip] at hi
        obtain ⟨p, x, y, rfl, hp, rfl, g1, g2⟩ := y
        obtain ⟨d, e1, r1⟩ := dpa_atV (dpa_flat k _ _ f1 a1) (g1 xs (k _ _ s1))
        obtain ⟨e, e2, r2⟩ := dpa_atV (dpa_flat k _ _ f2 a2) (g2 ys (k _ _ s2))
        have nx : Nx T H (upd H p (.tup [x, y])) := Nx.new tb hp
        refine ⟨nx, dd (.tuple [d, e]), ?_, dp_newT upd_same (.cons (dp_mono nx.kp _ _ r1) (.cons (dp_mono nx.kp _ _ r2) .nil))⟩
        rw [List.getElem?_map, (List.getElem?_zip_eq_some (z := (d, e))).mpr ⟨e1, e2⟩]
        rfl
/-- what a slot holds stays while tuples stay -/
def Tst (x : Dsc K) : Prop := ∀ v H H', TK K H H' → x.den v H → x.den v H'
theorem tst_flat {d : PyData} (h : flat d = true) : Tst (dd (K := K) d) := fun v H H' k hd => dp_flat k _ _ h hd
theorem wipe_get {σ : L2.St} {i : Nat} : ∀ {vs : List Nat}, i ∉ vs → (wipe σ vs)[i]? = σ[i]?
  | [], _ => rfl
  | v :: vs, h => by
    unfold wipe
    rw [List.getElem?_set_ne (fun z => h (by rw [z]; exact List.mem_cons_self))]
    exact wipe_get fun z => h (List.mem_cons_of_mem _ z)
/-- the slots of a turn, behind a change that leaves the tuples and all that was there at the start -/
theorem ok_turn {σ τ : L2.St} {H H1 H2 : Hp} {Γ' : Gam K} {vs : List Nat} (ok : Ok T σ H Γ) (ok' : Ok T τ H1 Γ') (hw : wipe τ vs = wipe σ vs) (hΓ : ∀ (i : Nat) (x : Dsc K), Γ'[i]? = some (some x) → (i ∉ vs ∧ Γ[i]? = some (some x)) ∨ Tst x) (e : ExtN H H2) (k : TK K H1 H2) (tb : Tabs T H2) : Ok T τ H2 Γ' := by
  refine ⟨tb, ok'.len, fun i x hx => ?_⟩
  rcases hΓ i x hx with ⟨hi, ho⟩ | ts
  · obtain ⟨v, a, b⟩ := ok.sl i x ho
    refine ⟨v, ?_, x.mono e b⟩
    rw [← wipe_get hi, hw, wipe_get hi]
    exact a
  · obtain ⟨v, a, b⟩ := ok'.sl i x hx
    exact ⟨v, a, ts v H1 H2 k b⟩
theorem eg_lc2 {α β : Type} {wi wi1 : TI} {g g1 : TG} {tt1 : L2.TT} {vs vs1 : List Nat} {l : List α} {enc : α → Dsc K} {l1 : α → List β} {enc1 : α → β → Dsc K} (p : α → β → Bool) (f : α → β → PyData) (hw : WG T wi Γ (l.map enc)) (hz : (l.flatMap fun a => (l1 a)).length < 1000000) (hf : ∀ a ∈ l, ∀ b ∈ l1 a, p a b = true → flat (f a b) = true)
    (hs : ∀ a ∈ l, ∃ Γ', GG T vs g (enc a) (wipeG Γ vs) Γ' ∧ (∀ (i : Nat) (x : Dsc K), Γ'[i]? = some (some x) → (i ∉ vs ∧ (wipeG Γ vs)[i]? = some (some x)) ∨ Tst x) ∧ WQ T wi1 Γ' ((l1 a).map (enc1 a)) ∧
      ∀ b ∈ l1 a, ∃ Γ'', GG T vs1 g1 (enc1 a b) (wipeG Γ' vs1) Γ'' ∧ ET T tt1 Γ'' (p a b) ∧ (p a b = true → ED T te Γ'' (f a b))) :
    EG T (tLc2 wi g tYes wi1 g1 tt1 te vs vs1) Γ (ll (l.flatMap fun a => ((l1 a).filter (p a)).map (f a))) := fun σ H ok Q q => hw σ H ok _ fun J H1 n1 wk D hD => by
  have hlen : ∀ (i : Nat) (a : α) (j : Nat), l[i]? = some a → (((l.take i).flatMap fun a => ((l1 a).filter (p a)).map (f a)) ++ (((l1 a).take j).filter (p a)).map (f a)).length ≤ (l.flatMap fun a => l1 a).length := by
    have key : ∀ (l : List α) (i : Nat) (a : α) (j : Nat), l[i]? = some a → (((l.take i).flatMap fun a => ((l1 a).filter (p a)).map (f a)) ++ (((l1 a).take j).filter (p a)).map (f a)).length ≤ (l.flatMap fun a => l1 a).length := by
      intro l
      induction l with
      | nil => intro i a j h; simp at h
      | cons x l ih =>
        intro i a j h
        cases i with
        | zero =>
          have e : x = a := by simpa using h
          subst e
          have h1 := List.length_filter_le (p x) ((l1 x).take j)
          have h2 : ((l1 x).take j).length ≤ (l1 x).length := by rw [List.length_take]; omega
          simp only [List.take_zero, List.flatMap_nil, List.nil_append, List.length_map, List.flatMap_cons, List.length_append]
          omega
        | succ i =>
          have h1 := ih i a j (by simpa using h)
          have h2 := List.length_filter_le (p x) (l1 x)
          simp only [List.take_succ_cons, List.flatMap_cons, List.length_append, List.length_map] at h1 ⊢
          omega
    exact key l
  have hll : ∀ m, (l.take m).length ≤ l.length := fun m => by rw [List.length_take]; omega
  have fl0 : ∀ i, flatA ((l.take i).flatMap fun a => ((l1 a).filter (p a)).map (f a)) = true := fun i => flatA_all.mpr fun d hd => by
    obtain ⟨a, ha, hd⟩ := List.mem_flatMap.mp hd
    obtain ⟨b, hb, rfl⟩ := List.mem_map.mp hd
    obtain ⟨b1, b2⟩ := List.mem_filter.mp hb
    exact hf a (List.mem_of_mem_take ha) b b1 b2
  refine ⟨fun i m H' => m = l.length - i ∧ i ≤ l.length ∧ Nx T H1 H' ∧ ∃ us, H' D = some (.lst us) ∧ DpAll K H' us ((l.take i).flatMap fun a => ((l1 a).filter (p a)).map (f a)), ⟨l.length, by omega, Nat.zero_le _, Nx.new n1.tb hD, [], upd_same, .nil⟩, ?_⟩
  rintro i m H' ⟨rfl, hi, nx, us, hu, hd⟩
  by_cases hlt : i < l.length
  · have ea : l[i]? = some l[i] := List.getElem?_eq_getElem hlt
    have hmem := List.getElem_mem hlt
    obtain ⟨Γ', hg, hΓ, hw1, hs1⟩ := hs l[i] hmem
    refine .inr ⟨wk.go i H' (by simpa using hlt) nx, fun H2 => Nx T H1 H2 ∧ ∃ us, H2 D = some (.lst us) ∧ DpAll K H2 us ((l.take (i + 1)).flatMap fun a => ((l1 a).filter (p a)).map (f a)), fun H2 ⟨n2, us', hu', hd'⟩ => ⟨l.length - (i + 1), by omega, rfl, hlt, n2, us', hu', hd'⟩, fun x H2 yy => ?_⟩
    obtain ⟨n2, y, ey, dy⟩ := wk.yld i H' x H2 (by simpa using hlt) nx yy
    have ey' : y = enc l[i] := by
      rw [List.getElem?_map, ea] at ey
      exact (Option.some.inj ey).symm
    subst ey'
    have okb : Ok T (wipe σ vs) H1 (wipeG Γ vs) := (ok.go n1).wipe vs
    have okw : Ok T (wipe σ vs) H2 (wipeG Γ vs) := okb.go (nx.trans n2)
    refine hg x _ H2 okw dy _ fun σ3 ok3 hw3 => ⟨by rw [hw3, wipe_wipe], ?_⟩
    show wi1 σ3 H2 _
    refine hw1 σ3 H2 ok3 _ fun J1 H4 n4 wk1 => ?_
    have hu4 : H4 D = some (.lst us) := (n2.trans n4).kp D _ hu nl
    refine ⟨fun j k H5 => k = (l1 l[i]).length - j ∧ j ≤ (l1 l[i]).length ∧ Nx T H1 H5 ∧ TK K H4 H5 ∧ ∃ us, H5 D = some (.lst us) ∧ DpAll K H5 us (((l.take i).flatMap fun a => ((l1 a).filter (p a)).map (f a)) ++ (((l1 l[i]).take j).filter (p l[i])).map (f l[i])),
      ⟨(l1 l[i]).length, by omega, Nat.zero_le _, nx.trans (n2.trans n4), fun _ _ h => h, us, hu4, by simpa using dpAll_mono (n2.trans n4).kp _ _ hd⟩, ?_⟩
    rintro j k H5 ⟨rfl, hj, nx5, tk5, vs5, hu5, hd5⟩
    by_cases hjt : j < (l1 l[i]).length
    · have eb : (l1 l[i])[j]? = some (l1 l[i])[j] := List.getElem?_eq_getElem hjt
      have hbm := List.getElem_mem hjt
      obtain ⟨Γ'', hg1, ht1, he1⟩ := hs1 (l1 l[i])[j] hbm
      refine .inr ⟨wk1.go j H5 (by simpa using hjt) tk5 nx5.tb, fun H6 => Nx T H1 H6 ∧ TK K H4 H6 ∧ ∃ us, H6 D = some (.lst us) ∧ DpAll K H6 us (((l.take i).flatMap fun a => ((l1 a).filter (p a)).map (f a)) ++ (((l1 l[i]).take (j + 1)).filter (p l[i])).map (f l[i])),
        fun H6 ⟨a1, a2, a3, a4, a5⟩ => ⟨(l1 l[i]).length - (j + 1), by omega, rfl, hjt, a1, a2, a3, a4, a5⟩, fun x2 H6 yy2 => ?_⟩
      obtain ⟨n6, y2, ey2, dy2⟩ := wk1.yld j H5 x2 H6 (by simpa using hjt) tk5 nx5.tb yy2
      have ey2' : y2 = enc1 l[i] (l1 l[i])[j] := by
        rw [List.getElem?_map, eb] at ey2
        exact (Option.some.inj ey2).symm
      subst ey2'
      have ok6 : Ok T σ3 H6 Γ' := ok_turn (vs := vs) okb (ok3.go n4) (by rw [hw3]) hΓ (nx5.trans n6).kp (fun b xs h => tk_of n6.kp _ _ (tk5 _ _ h)) n6.tb
      refine hg1 x2 _ H6 (ok6.wipe vs1) dy2 _ fun σ7 ok7 hw7 => ⟨by rw [hw7, wipe_wipe], ht1 σ7 H6 ok7 _ fun H8 n8 => ?_⟩
      have hu8 : H8 D = some (.lst vs5) := (n6.trans n8).kp D _ hu5 nl
      have hd8 := dpAll_mono (n6.trans n8).kp _ _ hd5
      have et : ((l1 l[i]).take (j + 1)).filter (p l[i]) = ((l1 l[i]).take j).filter (p l[i]) ++ [(l1 l[i])[j]].filter (p l[i]) := by rw [List.take_add_one, eb, List.filter_append]; rfl
      cases hp : p l[i] (l1 l[i])[j] with
      | true =>
        show te σ7 H8 _
        refine he1 hp σ7 H8 (ok7.go n8) _ fun v H9 n9 d9 => ⟨vs5, n9.kp D _ hu8 nl, ?_, ?_⟩
        · have h1 := hlen i l[i] j ea
          rw [dpa_len hd5, sizeLine_eq]
          omega
        · have hu9 : H9 D = some (.lst vs5) := n9.kp D _ hu8 nl
          have nn := nx5.trans (n6.trans (n8.trans n9))
          refine ⟨nn.mutL hD hu9, fun b xs h => sqT_updL hu9 _ _ (tk_of (n6.trans (n8.trans n9)).kp _ _ (tk5 _ _ h)), vs5 ++ [v], upd_same, ?_⟩
          rw [et, List.filter_cons_of_pos hp, List.filter_nil, List.map_append, ← List.append_assoc]
          have fl1 : flatA (((l.take i).flatMap fun a => ((l1 a).filter (p a)).map (f a)) ++ (((l1 l[i]).take j).filter (p l[i])).map (f l[i])) = true := flatA_all.mpr fun d hd => by
            rcases List.mem_append.mp hd with hd | hd
            · exact flatA_all.mp (fl0 i) d hd
            · obtain ⟨b, hb, rfl⟩ := List.mem_map.mp hd
              obtain ⟨b1, b2⟩ := List.mem_filter.mp hb
              exact hf _ hmem b (List.mem_of_mem_take b1) b2
          exact dpa_app (dpa_flat (sqT_updL hu9) _ _ fl1 (dpAll_mono n9.kp _ _ hd8)) (.cons (dp_flat (sqT_updL hu9) _ _ (hf _ hmem _ hbm hp) d9) .nil)
      | false =>
        refine ⟨nx5.trans (n6.trans n8), fun b xs h => tk_of (n6.trans n8).kp _ _ (tk5 _ _ h), vs5, hu8, ?_⟩
        rw [et, List.filter_cons_of_neg (by simp [hp]), List.filter_nil, List.append_nil]
        exact hd8
    · have e : j = (l1 l[i]).length := by omega
      subst e
      rw [List.take_length] at hd5
      refine .inl ⟨?_, nx5, vs5, hu5, ?_⟩
      · have := wk1.stop H5 tk5
        rwa [List.length_map] at this
      · rw [List.take_add_one, ea, List.flatMap_append]
        simpa using hd5
  · have e : i = l.length := by omega
    subst e
    rw [List.take_length] at hd
    refine .inl ⟨?_, q _ H' (n1.trans nx) ⟨D, us, rfl, hu, hd⟩⟩
    have := wk.stop H' nx
    rwa [List.length_map] at this
end
end Lw
set_option Elab.async false
set_option linter.all false
set_option maxRecDepth 100000
set_option maxHeartbeats 2000000
/-! the program's defs, and what stands of them behind the top -/
namespace Lw
open PySem PySem.Spec PyProof.Rows L2
open LamX (ExtN Tabs TabS CodeO)
def topS (i : Nat) : Stmt := PySem.Challenge.pw_laytogether_k85_across_easiest_orders.main.body.getD i (.Pass ⟨0, 0, 0, 0⟩)
/-- the built-ins that the program reads are the built-ins -/
structure Bts (mg : Str → Option Value) : Prop where
  isinstance : mg "isinstance" = none
  len : mg "len" = none
  all : mg "all" = none
  enumerate : mg "enumerate" = none
  sorted : mg "sorted" = none
  list : mg "list" = none
  range : mg "range" = none
  zip : mg "zip" = none
  tuple : mg "tuple" = none
  max : mg "max" = none
  min : mg "min" = none
  sum : mg "sum" = none
  abs : mg "abs" = none
  int : mg "int" = none
  bool : mg "bool" = none
/-- the whole numbers that the modules name -/
structure Csts (mg : Str → Option Value) : Prop where
  people : ∃ t, mg "MOST_PEOPLE" = some (.int 6 t)
  goods : ∃ t, mg "MOST_GOODS" = some (.int 5 t)
  heap : ∃ t, mg "MOST_HEAP" = some (.int 99 t)
  crowds : ∃ t, mg "MOST_MET_crowds" = some (.int 3000 t)
  lays : ∃ t, mg "MOST_MET_lays" = some (.int 3000 t)
/-- a def as the top left it -/
def Raw (mg : Str → Option Value) (K : PySem.W.Frag) (x : Str) (st : Stmt) : Prop := ∃ f fd, mg x = some (.ref f) ∧ Fun K x x st f fd
/-- a def, what it promises -/
def Def (P : Program) (w : World) (K : PySem.W.Frag) (mg : Str → Option Value) (base : Heap) (k : Nat) (x : Str) (ps : List Str) (sp : Sp) : Prop := ∃ f fd, mg x = some (.ref f) ∧ PySem.W.keepIn K (.ref f) = true ∧ Binds K fd ps [] ∧ FnOk P w K mg base CX0 k f fd ps sp
section
variable {P : Program} {w : World} {K : PySem.W.Frag} {mg : Str → Option Value} {base : Heap} {X : Cx} {k j : Nat} {x : Str} {ps : List Str} {sp sp' : Sp} {st : Stmt}
theorem Def.imp (D : Def P w K mg base k x ps sp) (h : ∀ vs H Q E, sp' vs H Q E → sp vs H Q E) : Def P w K mg base k x ps sp' := let ⟨f, fd, a, b, c, d⟩ := D; ⟨f, fd, a, b, c, d.imp h⟩
theorem pe_callD {es : List Expr} {e : Expr} {t : TA} {p pos : Pos} (D : Def X.prog X.w X.K X.mg X.base k x ps sp) (hr : Room j X.A) (hk : k ≤ j) (hg : Gl X x) (ha : PA X (e :: es) t) (hdb : (x == ("__debug__" : Str)) = false := by decide)
    (he : starEach (e :: es) X.env = (false, eval e X.env) :: starEach es X.env := by rfl) (hpl : (backTo pos (starEach es X.env)).any (·.1) = false := by rfl) :
    PE X (.Call (.Name x p) (e :: es) [] pos) (tCall sp [] E0 t) := let ⟨f, fd, a, b, c, d⟩ := D; pe_call (dvs := []) d (hr.mono hk) hg a b c .nil pass0 ha hdb he hpl
/-- THE RULE: a def by its body -/
theorem def_of {N : List Str} (R : Raw mg K x st) (S : FnScope N ps (defScope st)) (hb : ∀ (kV doc pm : Value) (an : Option Addr) (cdv ct : Value) (us : List Value), us.length = ps.length → bindArgs (PySem.W.fnOf x x (defArgs st) (defBody st) (defScope st) .none kV doc pm an cdv ct) ⟨us, []⟩ = pure (ps.zip us))
    (len : ∀ vs H Q E, sp vs H Q E → vs.length = ps.length)
    (hbody : ∀ (f : Addr) (cdv : Value) (A : Around) (outer : List Env) (s : Shared) (H : Hp) (vs : List V) (Q : VK) (E : XK), Room k (A.deeper (envOfC x (defScope st) s.heap.objs.size f cdv)) → sp vs H Q E →
      ∃ t, PSs (cxOf CX0 P w K mg base N x (defScope st) f cdv A outer s H E).nox (defBody st) t ∧ t { nx := fun _ H' => Q .non H', rt := Q } (L2.start N vs) H) : Def P w K mg base (k + 1) x ps sp := by
  obtain ⟨f, fd, hm, F⟩ := R
  exact ⟨f, fd, hm, F.kp, F.binds hb, F.ok S len fun cdv A outer s H vs Q E hr h => hbody f cdv A outer s H vs Q E hr h⟩
end
end Lw
set_option Elab.async false
set_option linter.all false
set_option maxRecDepth 100000
set_option maxHeartbeats 2000000
/-! the rules once more, told by the written part K itself (a comprehension's block has the same) -/
namespace Lw
open PySem PySem.Spec PyProof.Rows L2
open LamX (ExtN Tabs TabS CodeO TabB)
theorem units65 {k : Nat} {A : Around} (hr : Room k A) : A.units + 65 < cLine := by
  have := hr.un
  omega
def rLenS (K : PySem.W.Frag) : List V → Hp → VK → Prop := fun xs H Q => ∃ p ys, xs = [.ref p] ∧ (SqL K H p ys ∨ SqT K H p ys) ∧ Q (.int ys.length) H
def rTupO (K : PySem.W.Frag) : List V → Hp → VK → Prop := fun xs H Q => ∃ p ys, xs = [.ref p] ∧ ((SqL K H p ys ∧ ∀ l, H l = none → Q (.ref l) (upd H l (.tup ys))) ∨ (SqT K H p ys ∧ Q (.ref p) H))
def rLisO (K : PySem.W.Frag) : List V → Hp → VK → Prop := fun xs H Q => ∃ p ys, xs = [.ref p] ∧ (SqL K H p ys ∨ SqT K H p ys) ∧ ∀ l, H l = none → Q (.ref l) (upd H l (.lst ys))
def rMax2 : List V → Hp → VK → Prop := fun xs H Q => ∃ i j, xs = [.int i, .int j] ∧ Q (.int (if j > i then j else i)) H
def rMin2 : List V → Hp → VK → Prop := fun xs H Q => ∃ i j, xs = [.int i, .int j] ∧ Q (.int (if j < i then j else i)) H
def rAbs : List V → Hp → VK → Prop := fun xs H Q => ∃ i, xs = [.int i] ∧ Q (.int (if i < 0 then -i else i)) H
def rInt : List V → Hp → VK → Prop := fun xs H Q => (∃ i, xs = [.int i] ∧ Q (.int i) H) ∨ ∃ k, xs = [.bl k] ∧ Q (.int (if k then 1 else 0)) H
def rRng : List V → Hp → VK → Prop := fun vs H Q => ∃ n, vs = [V.int n] ∧ ∀ p, H p = none → Q (.ref p) (upd H p (.rng 0 n))
section
variable {X : Cx} {K : PySem.W.Frag} {P : Program} {w : World} {k : Nat}
theorem w_ixT (h : X.K = K) : IxR X (rIxT K) := h ▸ ix_tup
theorem w_ixL (h : X.K = K) : IxR X (rIxL K) := h ▸ ix_list
theorem w_catA (h : X.K = K) : OpR X (binaryOp .Add) (rCatA K) := h ▸ op_catA
theorem w_eqD (h : X.K = K) (hr : Room k X.A) : OpR X (compareOp .Eq) (rEqD K) := h ▸ op_eqD hr.units
theorem w_neD (h : X.K = K) (hr : Room k X.A) : OpR X (compareOp .NotEq) (rNeD K) := h ▸ op_neD hr.units
theorem w_inD (h : X.K = K) (hr : Room k X.A) : OpR X (compareOp .In) (rInD K) := h ▸ op_inD (units65 hr)
theorem w_notInD (h : X.K = K) (hr : Room k X.A) : OpR X (compareOp .NotIn) (rNotInD K) := h ▸ op_notInD (units65 hr)
theorem w_inS (h : X.K = K) : OpR X (compareOp .In) (rIn K false) := h ▸ op_in_seq
theorem w_notInS (h : X.K = K) : OpR X (compareOp .NotIn) (rIn K true) := h ▸ op_notIn_seq
theorem w_ltD (h : X.K = K) (hr : Room k X.A) : OpR X (compareOp .Lt) (rLtD K) := h ▸ op_ltD hr.units
theorem w_isi (h : X.K = K) : CallR X (.builtin "isinstance") (rIsi K) := h ▸ call_isi
theorem w_len (h : X.K = K) : CallR X (.builtin "len") (rLenS K) := h ▸ call_len_seq
theorem w_tup (h : X.K = K) : CallR X (.type "tuple") (rTupO K) := h ▸ call_tuple_of
theorem w_lis (h : X.K = K) : CallR X (.type "list") (rLisO K) := h ▸ call_list_of
theorem w_all (h : X.K = K) (hc : X.calm = true) : CallR X (.builtin "all") (rAll K) := h ▸ cr_all hc
theorem w_sum (h : X.K = K) (hc : X.calm = true) : CallR X (.builtin "sum") (rSum K) := h ▸ cr_sum hc
theorem w_maxL (h : X.K = K) (hc : X.calm = true) : CallR X (.builtin "max") (rMax K) := h ▸ cr_max hc
theorem w_maxT (h : X.K = K) (hc : X.calm = true) (hr : Room k X.A) : CallR X (.builtin "max") (rMaxT K) := h ▸ cr_maxT hc hr.units
theorem w_minT (h : X.K = K) (hc : X.calm = true) (hr : Room k X.A) : CallR X (.builtin "min") (rMinT K) := h ▸ cr_minT hc hr.units
theorem w_minD (h : X.K = K) (hc : X.calm = true) (hr : Room k X.A) : CallR X (.builtin "min") (rMinD K) := h ▸ cr_minD hc hr.units
theorem w_sortD (h : X.K = K) (hr : Room k X.A) : CallR X (.builtin "sorted") (rSortD K) := h ▸ cr_sortedD hr.units
theorem w_slA (h : X.K = K) : SlR X (rSlA K) := h ▸ sl_tupA
variable {e o i tg value : Expr} {te ta td ty tv tk : TE} {pos pos' p1 p2 p3 p apos cpos tpos : Pos} {j : Nat} {es : List Expr} {t : TA}
theorem w_rev (h : X.K = K) (he : PE X e te) : PE X (.Subscript e (.Slice none none (some (.UnaryOp .USub (.Constant (.int 1) j p1) p2)) p3) pos) (tRevL K te) := h ▸ pe_revL he
theorem w_piL (h : X.K = K) (he : PE X e te) : PI X tg e (iList K te) := h ▸ pi_list he
theorem w_piT (h : X.K = K) (he : PE X e te) : PI X tg e (iTup K te) := h ▸ pi_tup he
theorem w_gtup {kk n : Nat} {u : TGs} (h : X.K = K) (hc : X.calm = true) (hg : PGs X es u) (hn : (assignEach es X.env).length = n := by rfl) (hst : (assignEach es X.env).findIdx? (·.1) = none := by rfl) : PG X (.Tuple es kk pos) (gTup K n u) := h ▸ pg_tup hc hg hn hst
theorem w_zip1 {e2 : Expr} {x : Str} (h : X.K = K) (hg : Gl X "zip") (hm : X.mg "zip" = none) (ha : PA X [e, e2] t) (hs : starEach [e, e2] X.env = (false, eval e X.env) :: starEach [e2] X.env := by rfl) (hpl : (backTo pos (starEach [e2] X.env)).any (·.1) = false := by rfl) :
    PI X (.Name x tpos) (.Call (.Name "zip" p) [e, e2] [] pos) (iZip1 K t) := h ▸ pi_zip1 hg hm ha hs hpl
theorem w_zip2 {e2 : Expr} {elts : List Expr} {kk : Nat} (h : X.K = K) (hg : Gl X "zip") (hm : X.mg "zip" = none) (ha : PA X [e, e2] t) (hs : starEach [e, e2] X.env = (false, eval e X.env) :: starEach [e2] X.env := by rfl) (hpl : (backTo pos (starEach [e2] X.env)).any (·.1) = false := by rfl) :
    PI X (.Tuple elts kk tpos) (.Call (.Name "zip" p) [e, e2] [] pos) (RZ.iZipA K t) := h ▸ RZ.pi_zipA hg hm ha hs hpl
theorem w_enum {elts : List Expr} {kk : Nat} (h : X.K = K) (hg : Gl X "enumerate") (hm : X.mg "enumerate" = none) (ha : PA X [e] t) (hs : starEach [e] X.env = [(false, eval e X.env)] := by rfl) :
    PI X (.Tuple elts kk tpos) (.Call (.Name "enumerate" p) [e] [] pos) (iEnumT K t) := h ▸ pi_enumT hg hm ha hs
/-! ### dicts -/
def yGet (P : Program) (w : World) (K : PySem.W.Frag) (td ty : TE) : TE := fun σ H Q => td σ H fun x H1 => ty σ H1 fun y H2 => ∃ d kvs t z, x = .ref d ∧ KD P w K H2 d kvs ∧ Dp K H2 y (pT t) ∧ lookT kvs t = some z ∧ ∀ r, Dp K H2 r z → Q r H2
def yIn (P : Program) (w : World) (K : PySem.W.Frag) (ty td : TE) : TE := fun σ H Q => ty σ H fun y H1 => td σ H1 fun x H2 => ∃ d kvs t, x = .ref d ∧ KD P w K H2 d kvs ∧ Dp K H2 y (pT t) ∧ Q (.bl (lookT kvs t).isSome) H2
def yNotIn (P : Program) (w : World) (K : PySem.W.Frag) (ty td : TE) : TE := fun σ H Q => ty σ H fun y H1 => td σ H1 fun x H2 => ∃ d kvs t, x = .ref d ∧ KD P w K H2 d kvs ∧ Dp K H2 y (pT t) ∧ Q (.bl (!(lookT kvs t).isSome)) H2
def yK (P : Program) (w : World) (K : PySem.W.Frag) (td : TE) : TI := fun σ H R => td σ H fun x H1 => ∃ d o kvs, x = .ref d ∧ KDo P w K H1 d o kvs ∧ R (ItxK P w K d o kvs) H1
def yLen (P : Program) (w : World) (K : PySem.W.Frag) : List V → Hp → VK → Prop := fun xs H Q => ∃ d kvs, xs = [.ref d] ∧ KD P w K H d kvs ∧ Q (.int ((kvs.length : Nat) : Int)) H
theorem w_xget (h1 : X.prog = P) (h2 : X.w = w) (h3 : X.K = K) (hr : Room k X.A) (ho : PE X o td) (hi : PE X i ty) (hs : NoSl i) : PE X (.Subscript o i pos) (yGet P w K td ty) := by
  subst h1 h2 h3
  exact pe_xget hr.units ho hi hs
theorem w_xin (h1 : X.prog = P) (h2 : X.w = w) (h3 : X.K = K) (hr : Room k X.A) (hi : PE X i ty) (ho : PE X o td) : PC X .In i o (yIn P w K ty td) := by
  subst h1 h2 h3
  exact pc_xin hr.units hi ho
theorem w_xnotin (h1 : X.prog = P) (h2 : X.w = w) (h3 : X.K = K) (hr : Room k X.A) (hi : PE X i ty) (ho : PE X o td) : PC X .NotIn i o (yNotIn P w K ty td) := by
  subst h1 h2 h3
  exact pc_xnotin hr.units hi ho
theorem w_xk (h1 : X.prog = P) (h2 : X.w = w) (h3 : X.K = K) (he : PE X e td) : PI X tg e (yK P w K td) := by
  subst h1 h2 h3
  exact pi_xk he
theorem w_lenX (h1 : X.prog = P) (h2 : X.w = w) (h3 : X.K = K) : CallR X (.builtin "len") (yLen P w K) := by
  subst h1 h2 h3
  exact cr_lenX
end
end Lw
set_option Elab.async false
set_option linter.all false
set_option maxRecDepth 100000
set_option maxHeartbeats 2000000
/-! what the data says of rows, tables, orders -/
namespace Lw
open PySem PySem.Spec PyProof.Rows L2
open LamX (ExtN Tabs TabS CodeO TabB)
open PySem.W (EachIs AllAlike Sortable dataLe alike alikeAll dataLt dataLt_ints dataLt_tuple dataLt_int rowLt)
/-! ### == -/
mutual
/-- whole numbers, None, lists and tuples of such -/
def pl : PyData → Bool
  | .none => true
  | .int _ => true
  | .list ds => plA ds
  | .tuple ds => plA ds
  | _ => false
def plA : List PyData → Bool
  | [] => true
  | d :: ds => pl d && plA ds
end
theorem plA_all : ∀ {ds : List PyData}, plA ds = true ↔ ∀ d ∈ ds, pl d = true
  | [] => by simp [plA]
  | d :: ds => by simp [plA, plA_all (ds := ds)]
theorem plA_map {α : Type} {f : α → PyData} {l : List α} (h : ∀ a ∈ l, pl (f a) = true) : plA (l.map f) = true := plA_all.mpr fun d hd => by
  obtain ⟨a, ha, rfl⟩ := List.mem_map.mp hd
  exact h a ha
mutual
theorem eqv_pl : ∀ (d e : PyData), pl d = true → pl e = true → (PyData.eqv d e = true ↔ d = e)
  | .none, e, _, h => by cases e <;> simp_all [pl, PyData.eqv]
  | .int i, e, _, h => by cases e <;> simp_all [pl, PyData.eqv]
  | .list ds, e, h, h' => by
    cases e with
    | list es =>
      have := eqvAll_pl ds es (by simpa [pl] using h) (by simpa [pl] using h')
      simp [PyData.eqv, this]
    | _ => simp_all [pl, PyData.eqv]
  | .tuple ds, e, h, h' => by
    cases e with
    | tuple es =>
      have := eqvAll_pl ds es (by simpa [pl] using h) (by simpa [pl] using h')
      simp [PyData.eqv, this]
    | _ => simp_all [pl, PyData.eqv]
  | .bool _, _, h, _ => by simp [pl] at h
  | .str _, _, h, _ => by simp [pl] at h
  | .dict _, _, h, _ => by simp [pl] at h
theorem eqvAll_pl : ∀ (ds es : List PyData), plA ds = true → plA es = true → (PyData.eqvAll ds es = true ↔ ds = es)
  | [], [], _, _ => by simp [PyData.eqvAll]
  | [], _ :: _, _, _ => by simp [PyData.eqvAll]
  | _ :: _, [], _, _ => by simp [PyData.eqvAll]
  | d :: ds, e :: es, h, h' => by
    have h1 : pl d = true ∧ plA ds = true := by simpa [plA] using h
    have h2 : pl e = true ∧ plA es = true := by simpa [plA] using h'
    simp [PyData.eqvAll, eqv_pl d e h1.1 h2.1, eqvAll_pl ds es h1.2 h2.2]
end
theorem eqv_dec {d e : PyData} {p : Prop} [Decidable p] (hd : pl d = true) (he : pl e = true) (h : d = e ↔ p) : PyData.eqv d e = decide p := by
  rw [Bool.eq_iff_iff, eqv_pl d e hd he, h]
  simp
mutual
theorem pl_can : ∀ d : PyData, pl d = true → d.canLay0 = true
  | .none, _ => rfl
  | .int _, _ => rfl
  | .list ds, h => plA_can ds (by simpa [pl] using h)
  | .tuple ds, h => plA_can ds (by simpa [pl] using h)
  | .bool _, h => by simp [pl] at h
  | .str _, h => by simp [pl] at h
  | .dict _, h => by simp [pl] at h
theorem plA_can : ∀ ds : List PyData, plA ds = true → PyData.canLayAll0 ds = true
  | [], _ => rfl
  | d :: ds, h => by
    have h1 : pl d = true ∧ plA ds = true := by simpa [plA] using h
    simp [PyData.canLayAll0, pl_can d h1.1, plA_can ds h1.2]
end
theorem pl_shaped {d : PyData} (h : pl d = true) (hd : d.depth ≤ 64) : SeqAt.shaped d = true := by
  unfold SeqAt.shaped
  rw [pl_can d h, decide_eq_true hd]
  rfl
def pI (o : List Int) : PyData := .tuple (o.map .int)
def pO (o : List Nat) : PyData := .tuple (o.map fun i => .int ((i : Nat) : Int))
theorem pl_ints (l : List Int) : plA (l.map .int) = true := plA_map fun _ _ => rfl
theorem pl_nats (l : List Nat) : plA (l.map fun i => PyData.int ((i : Nat) : Int)) = true := plA_map fun _ _ => rfl
theorem pl_pR (r : List Int) : pl (pR r) = true := by
  unfold pR pl
  exact pl_ints r
theorem pl_pT (t : TT) : pl (pT t) = true := by
  unfold pT pl
  exact plA_map fun r _ => pl_pR r
theorem pl_pO (o : List Nat) : pl (pO o) = true := by
  unfold pO pl
  exact pl_nats o
theorem dp_all {k : Nat} : ∀ {ds : List PyData}, (∀ d ∈ ds, d.depth ≤ k) → PyData.depthAll ds ≤ k := depthAll_le
theorem dp_intsA (l : List Int) : PyData.depthAll (l.map PyData.int) ≤ 0 := dp_all fun d hd => by
  obtain ⟨i, _, rfl⟩ := List.mem_map.mp hd
  simp [PyData.depth]
theorem dp_natsA (l : List Nat) : PyData.depthAll (l.map fun i => PyData.int ((i : Nat) : Int)) ≤ 0 := dp_all fun d hd => by
  obtain ⟨i, _, rfl⟩ := List.mem_map.mp hd
  simp [PyData.depth]
theorem dp_pR (r : List Int) : (pR r).depth ≤ 1 := by
  have := dp_intsA r
  simp only [pR, PyData.depth]
  omega
theorem dp_pT (t : TT) : (pT t).depth ≤ 2 := by
  have : PyData.depthAll (t.map pR) ≤ 1 := dp_all fun d hd => by
    obtain ⟨r, _, rfl⟩ := List.mem_map.mp hd
    exact dp_pR r
  simp only [pT, PyData.depth]
  omega
theorem dp_pO (o : List Nat) : (pO o).depth ≤ 1 := by
  have := dp_natsA o
  simp only [pO, PyData.depth]
  omega
theorem sh_pR (r : List Int) : SeqAt.shaped (pR r) = true := pl_shaped (pl_pR r) (by have := dp_pR r; omega)
theorem sh_pT (t : TT) : SeqAt.shaped (pT t) = true := pl_shaped (pl_pT t) (by have := dp_pT t; omega)
theorem sh_pO (o : List Nat) : SeqAt.shaped (pO o) = true := pl_shaped (pl_pO o) (by have := dp_pO o; omega)
theorem sh_int (i : Int) : SeqAt.shaped (.int i) = true := pl_shaped rfl (by simp [PyData.depth])
theorem sh_listA {ds : List PyData} {k : Nat} (h : plA ds = true) (hd : ∀ d ∈ ds, d.depth ≤ k) (hk : k ≤ 63) : SeqAt.shaped (.list ds) = true := by
  refine pl_shaped (by simpa [pl] using h) ?_
  have := dp_all hd
  simp only [PyData.depth]
  omega
theorem pO_inj {a b : List Nat} (e : pO a = pO b) : a = b := by
  unfold pO at e
  injection e with e
  exact map_inj (fun x y z => by injection z with z; omega) e
/-! ### sorting -/
theorem le_ints (a b : Int) : dataLe false id (.int a) (.int b) = decide (a ≤ b) := by
  show (!dataLt (.int b) (.int a)) = _
  rw [dataLt_int]
  by_cases h : b < a
  · have h' : ¬ a ≤ b := by omega
    simp [h, h']
  · have h' : a ≤ b := by omega
    simp [h, h']
theorem le_rowsD (a b : List Int) : dataLe false id (pR a) (pR b) = Lt.rowLe a b := by
  show (!dataLt (pR b) (pR a)) = _
  unfold pR Lt.rowLe
  rw [dataLt_tuple]
  show (!rowLt (b.map .int) (a.map .int)) = _
  rw [dataLt_ints]
  by_cases h : b < a
  · have h' : ¬ a ≤ b := fun r => List.not_lt.mpr r h
    simp [h, h']
  · have h' : a ≤ b := List.not_lt.mp h
    simp [h, h']
theorem sort_ints (l : List Int) : (l.map PyData.int).mergeSort (dataLe false id) = (l.mergeSort fun a b => decide (a ≤ b)).map .int :=
  (List.map_mergeSort (f := PyData.int) fun a _ b _ => (le_ints a b).symm).symm
theorem sort_rows (t : TT) : (t.map pR).mergeSort (dataLe false id) = (t.mergeSort Lt.rowLe).map pR :=
  (List.map_mergeSort (f := pR) fun a _ b _ => (le_rowsD a b).symm).symm
/-- tables, in the order of sorted -/
def tabLe (a b : TT) : Bool := dataLe false id (pT a) (pT b)
theorem sort_tabs (ts : List TT) : (ts.map pT).mergeSort (dataLe false id) = (ts.mergeSort tabLe).map pT :=
  (List.map_mergeSort (f := pT) fun _ _ _ _ => rfl).symm
theorem alike_ints : ∀ (l m : List Int), alikeAll (l.map .int) (m.map .int) = true
  | [], _ => by simp [alikeAll]
  | _ :: _, [] => by simp [alikeAll]
  | a :: l, b :: m => by simp [alikeAll, alike, alike_ints l m]
theorem alike_pR (a b : List Int) : alike (pR a) (pR b) = true := by
  unfold pR
  simpa [alike] using alike_ints a b
theorem alike_rows : ∀ (l m : TT), alikeAll (l.map pR) (m.map pR) = true
  | [], _ => by simp [alikeAll]
  | _ :: _, [] => by simp [alikeAll]
  | a :: l, b :: m => by simp [alikeAll, alike_pR a b, alike_rows l m]
theorem alike_pT (a b : TT) : alike (pT a) (pT b) = true := by
  unfold pT
  simpa [alike] using alike_rows a b
theorem ok_ints {l : List Int} (h : l.length ≤ 100000) : SortOk (l.map .int) := by
  refine ⟨flatA_map fun _ _ => rfl, fun d hd e he => ?_, .inr fun d hd => ?_, by rw [List.length_map]; exact h, fun d hd => ?_⟩
  · obtain ⟨i, _, rfl⟩ := List.mem_map.mp hd
    obtain ⟨j, _, rfl⟩ := List.mem_map.mp he
    simp [alike]
  · obtain ⟨i, _, rfl⟩ := List.mem_map.mp hd
    exact ⟨by simp, by simp⟩
  · obtain ⟨i, _, rfl⟩ := List.mem_map.mp hd
    simp [PyData.depth]
theorem ok_rows {t : TT} (h : t.length ≤ 100000) (h1 : ∀ r ∈ t, r ≠ []) : SortOk (t.map pR) := by
  refine ⟨flatA_map fun r _ => flat_pR r, fun d hd e he => ?_, .inl fun d hd => ?_, by rw [List.length_map]; exact h, fun d hd => ?_⟩
  · obtain ⟨i, _, rfl⟩ := List.mem_map.mp hd
    obtain ⟨j, _, rfl⟩ := List.mem_map.mp he
    exact alike_pR i j
  · obtain ⟨r, hr, rfl⟩ := List.mem_map.mp hd
    cases r with
    | nil => exact absurd rfl (h1 _ hr)
    | cons x r => exact ⟨_, _, rfl⟩
  · obtain ⟨r, _, rfl⟩ := List.mem_map.mp hd
    have := dp_pR r
    omega
theorem ok_tabs {ts : List TT} (h : ts.length ≤ 100000) (h1 : ∀ t ∈ ts, t ≠ []) : SortOk (ts.map pT) := by
  refine ⟨flatA_map fun r _ => flat_pT r, fun d hd e he => ?_, .inl fun d hd => ?_, by rw [List.length_map]; exact h, fun d hd => ?_⟩
  · obtain ⟨i, _, rfl⟩ := List.mem_map.mp hd
    obtain ⟨j, _, rfl⟩ := List.mem_map.mp he
    exact alike_pT i j
  · obtain ⟨r, hr, rfl⟩ := List.mem_map.mp hd
    cases r with
    | nil => exact absurd rfl (h1 _ hr)
    | cons x r => exact ⟨_, _, rfl⟩
  · obtain ⟨r, _, rfl⟩ := List.mem_map.mp hd
    have := dp_pT r
    omega
/-- the sorted order is the people in turn -/
theorem sort_order {n : Nat} {o : List Nat} (h : Lt.IsOrd n o) : (o.map fun i => ((i : Nat) : Int)).mergeSort (fun a b => decide (a ≤ b)) = (List.range n).map fun i => ((i : Nat) : Int) := by
  have hp : ((o.map fun i => ((i : Nat) : Int)).mergeSort fun a b => decide (a ≤ b)).Perm ((List.range n).map fun i => ((i : Nat) : Int)) := (List.mergeSort_perm _ _).trans (List.Perm.map _ h)
  refine hp.eq_of_pairwise (le := fun a b : Int => a ≤ b) (fun a b _ _ h1 h2 => Int.le_antisymm h1 h2) ?_ ?_
  · have := List.pairwise_mergeSort (le := fun a b : Int => decide (a ≤ b)) (fun a b c h1 h2 => by simp only [decide_eq_true_eq] at *; omega) (fun a b => by simp; omega) (o.map fun i => ((i : Nat) : Int))
    exact this.imp fun h => by simpa using h
  · rw [List.pairwise_map]
    exact (List.pairwise_lt_range (n := n)).imp fun h => by omega
/-! ### slots that are forgotten -/
section
variable {T : List (Addr × Str)} {K : PySem.W.Frag}
structure Sub (Γ Γ' : Gam K) : Prop where
  len : Γ.length = Γ'.length
  sl : ∀ (i : Nat) (x : Dsc K), Γ[i]? = some (some x) → Γ'[i]? = some (some x)
theorem Sub.refl (Γ : Gam K) : Sub Γ Γ := ⟨rfl, fun _ _ h => h⟩
theorem Sub.set {Γ Γ' : Gam K} {i : Nat} {o : Option (Dsc K)} (s : Sub Γ Γ') (h : Γ[i]? = some none) : Sub Γ (Γ'.set i o) := by
  refine ⟨by simp [s.len], fun j x e => ?_⟩
  have hne : i ≠ j := fun z => by
    rw [z] at h
    rw [h] at e
    cases e
  rw [List.getElem?_set_ne hne]
  exact s.sl j x e
theorem sn_sub {t : TS} {Γ Γ1 Γ2 : Gam K} (h : SN T t Γ Γ2) (s : Sub Γ1 Γ2) : SN T t Γ Γ1 := sn_weak h s.len s.sl
/-- a loop that leaves the slots as they are -/
theorem sn_forC {t : TS} {wi : TI} {g : TG} {vs : List Nat} {ys : List (Dsc K)} {Γ : Gam K} (hw : WG T wi Γ ys) (hs : ∀ y ∈ ys, ∃ Γ' Γ'', GG T vs g y Γ Γ' ∧ SN T t Γ' Γ'' ∧ Sub Γ Γ'') : SN T (tFor wi g t) Γ Γ :=
  sn_for (vs := vs) (fun _ => Γ) hw fun i y e => by
    obtain ⟨Γ', Γ'', h1, h2, h3⟩ := hs y (List.mem_of_getElem? e)
    exact ⟨Γ', h1, sn_sub h2 h3⟩
theorem atN {α : Type} {xs : List α} {j : Nat} {x : α} (h : xs[j]? = some x) : atI xs ((j : Nat) : Int) = some x := atI_nat h
theorem eg_at {Γ : Gam K} {ta tb : TE} {ds : List PyData} {j : Nat} {d : PyData} (h : ED T ta Γ (.tuple ds)) (h2 : ED T tb Γ (.int (j : Nat))) (e : ds[j]? = some d) : ED T (tOp (rIxT K) ta tb) Γ d := eg_op h h2 (rg_ixT (atN e))
theorem eg_atL {Γ : Gam K} {ta tb : TE} {ds : List PyData} {j : Nat} {d : PyData} (h : ED T ta Γ (.list ds)) (h2 : ED T tb Γ (.int (j : Nat))) (e : ds[j]? = some d) : ED T (tOp (rIxL K) ta tb) Γ d := eg_op h h2 (rg_ixL (atN e))
theorem eg_row {Γ : Gam K} {ta tb : TE} {t : TT} {j : Nat} (h : ED T ta Γ (pT t)) (h2 : ED T tb Γ (.int (j : Nat))) (hj : j < t.length) : ED T (tOp (rIxT K) ta tb) Γ (pR (Lt.rw' t j)) :=
  eg_at (ds := t.map pR) h h2 (by rw [List.getElem?_map, List.getElem?_eq_getElem hj, Lt.mem_row hj]; rfl)
theorem eg_cell {Γ : Gam K} {ta tb : TE} {r : List Int} {j : Nat} (h : ED T ta Γ (pR r)) (h2 : ED T tb Γ (.int (j : Nat))) (hj : j < r.length) : ED T (tOp (rIxT K) ta tb) Γ (.int (Lt.hp r j)) :=
  eg_at (ds := r.map .int) h h2 (by
    rw [List.getElem?_map, List.getElem?_eq_getElem hj]
    simp [Lt.hp, hj])
theorem eg_ord {Γ : Gam K} {ta tb : TE} {o : List Nat} {j : Nat} (h : ED T ta Γ (pO o)) (h2 : ED T tb Γ (.int (j : Nat))) (hj : j < o.length) : ED T (tOp (rIxT K) ta tb) Γ (.int ((o[j] : Nat) : Int)) :=
  eg_at (ds := o.map fun i => .int ((i : Nat) : Int)) h h2 (by rw [List.getElem?_map, List.getElem?_eq_getElem hj]; rfl)
/-- list(range(n)) -/
theorem eg_listRg {Γ : Gam K} {ta : TE} {n : Nat} (h : ED T ta Γ (.int (n : Nat))) (hn : n ≤ 1000000) : EG T (tLstRg (tRg1 ta)) Γ (ll ((List.range n).map fun i => .int ((i : Nat) : Int))) := fun σ H ok Q q => h σ H ok _ fun v H1 n1 d => by
  have e := dp_int d
  subst e
  refine ⟨(n : Int), rfl, ⟨by omega, by omega, by omega, by omega, by omega⟩, fun p hp => ?_⟩
  have nx : Nx T H1 (upd H1 p (.lst (rgV 0 (n : Int)))) := Nx.new n1.tb hp
  refine q _ _ (n1.trans nx) ⟨p, _, rfl, upd_same, ?_⟩
  have er : rgV 0 (n : Int) = ((List.range n).map fun i => ((i : Nat) : Int)).map V.int := by
    unfold rgV
    rw [List.map_map]
    have : ((n : Int) - 0).toNat = n := by omega
    rw [this]
    refine List.map_congr_left fun i _ => ?_
    show V.int (0 + (i : Int)) = V.int (i : Int)
    congr 1
    omega
  rw [er]
  have := dpAll_ints (K := K) (H := upd H1 p (.lst (((List.range n).map fun i => ((i : Nat) : Int)).map V.int))) ((List.range n).map fun i => ((i : Nat) : Int))
  have e2 : (((List.range n).map fun i => ((i : Nat) : Int)).map PyData.int) = (List.range n).map fun i => PyData.int ((i : Nat) : Int) := List.map_map
  rw [e2] at this
  exact this
end
end Lw
set_option Elab.async false
set_option linter.all false
set_option maxRecDepth 100000
set_option maxHeartbeats 2000000
/-! a def whose code object is named: for lambdas -/
namespace Lw
open PySem PySem.Spec PyProof.Rows L2
open LamX (ExtN Tabs TabS CodeO TabB)
structure FunC (K : PySem.W.Frag) (x qual : Str) (st : Stmt) (f : Addr) (fd : FuncData) (c : Addr) : Prop where
  ex : ∃ (oc : Value) (od : Option Addr) (kV doc pm : Value) (an : Option Addr) (ct : Value) (osl : Array (Option Value)),
    fd = PySem.W.fnOf x qual (defArgs st) (defBody st) (defScope st) .none kV doc pm an (.ref c) ct ∧ K.lookup f = some ⟨oc, od, .func fd, osl⟩ ∧ PySem.W.codeIn K (.ref c) qual = true
  kp : PySem.W.keepIn K (.ref f) = true
def RawC (mg : Str → Option Value) (K : PySem.W.Frag) (x : Str) (st : Stmt) (c : Addr) : Prop := ∃ f fd, mg x = some (.ref f) ∧ FunC K x x st f fd c
section
variable {P : Program} {w : World} {K : PySem.W.Frag} {mg : Str → Option Value} {base : Heap} {k : Nat} {x : Str} {ps : List Str} {sp : Sp} {st : Stmt} {c : Addr}
theorem def_ofC {N : List Str} (R : RawC mg K x st c) (S : FnScope N ps (defScope st)) (hb : ∀ (kV doc pm : Value) (an : Option Addr) (cdv ct : Value) (us : List Value), us.length = ps.length → bindArgs (PySem.W.fnOf x x (defArgs st) (defBody st) (defScope st) .none kV doc pm an cdv ct) ⟨us, []⟩ = pure (ps.zip us))
    (len : ∀ vs H Q E, sp vs H Q E → vs.length = ps.length)
    (hbody : ∀ (f : Addr) (A : Around) (outer : List Env) (s : Shared) (H : Hp) (vs : List V) (Q : VK) (E : XK), Room k (A.deeper (envOfC x (defScope st) s.heap.objs.size f (.ref c))) → sp vs H Q E →
      ∃ t, PSs (cxOf CX0 P w K mg base N x (defScope st) f (.ref c) A outer s H E).nox (defBody st) t ∧ t { nx := fun _ H' => Q .non H', rt := Q } (L2.start N vs) H) : Def P w K mg base (k + 1) x ps sp := by
  obtain ⟨f, fd, hm, F⟩ := R
  have F' : Fun K x x st f fd := ⟨by
    obtain ⟨oc, od, kV, doc, pm, an, ct, osl, e1, e2, e3⟩ := F.ex
    exact ⟨oc, od, kV, doc, pm, an, _, ct, osl, e1, e2, e3⟩, F.kp⟩
  refine ⟨f, fd, hm, F.kp, F'.binds hb, ?_⟩
  obtain ⟨oc, od, kV, doc, pm, an, ct, osl, rfl, lk, hcd⟩ := F.ex
  refine fn_of lk hcd S len fun A outer s H vs Q E hr hsp => ?_
  obtain ⟨t, h, q⟩ := hbody f A outer s H vs Q E hr hsp
  exact ⟨t, h.nox, q⟩
end
end Lw
set_option Elab.async false
set_option linter.all false
set_option maxRecDepth 100000
set_option maxHeartbeats 2000000
/-! loops with a state found, sorted(.., key=lambda), the orders of a table's rows -/
namespace Lw
open PySem PySem.Spec PyProof.Rows L2
open LamX (ExtN Tabs TabS CodeO TabB)
open NdefX (NF NScope CellsAt envF ncx startF inv_startN codeO_at Caps slotAt cells_of)
open PySem.W (EachIs AllAlike Sortable dataLe alike alikeAll dataLt)
variable {P : Program} {w : World} {K : PySem.W.Frag} {T : List (Addr × Str)}
/-- a told value held by hand -/
def tHold (x : Dsc K) (v : V) : TE := fun _ H Q => x.den v H → Q v H
theorem eg_hold {Γ : Gam K} (x : Dsc K) (v : V) : EG T (tHold x v) Γ x := fun σ H ok Q q d => q v H (Nx.refl ok.tb) d
theorem ep_bind {Γ : Gam K} {td : TE} {P1 P2 : Dsc K → Prop} (F : TE → TE) (hF : ∀ td σ H Q, F td σ H Q = td σ H fun v H1 => F (tC v) σ H1 Q) (h : EP' T td Γ P1) (hb : ∀ x v, P1 x → EP' T (F (tHold x v)) Γ P2) : EP' T (F td) Γ P2 := fun σ H ok Q q => by
  rw [hF]
  refine h σ H ok _ fun x v H1 px n d => ?_
  have := hb x v px σ H1 (ok.go n) Q fun y u H2 py n2 d2 => q y u H2 py (n.trans n2) d2
  rw [hF] at this
  exact this d
theorem sr_bind {Γ : Gam K} {td : TE} {P1 P2 : Dsc K → Prop} (F : TE → TS) (hF : ∀ td D σ H, F td D σ H = td σ H fun v H1 => F (tC v) D σ H1) (h : EP' T td Γ P1) (hb : ∀ x v, P1 x → SR T (F (tHold x v)) Γ P2) : SR T (F td) Γ P2 := fun D σ H ok q => by
  rw [hF]
  refine h σ H ok _ fun x v H1 px n d => ?_
  have := hb x v px D σ H1 (ok.go n) fun y u H2 py n2 d2 => q y u H2 py (n.trans n2) d2
  rw [hF] at this
  exact this d
theorem sr_par3E {Γ : Gam K} {i j l : Nat} {te : TE} {tr : TA} {u : TS} {P1 P2 : Dsc K → Prop} {y z : Dsc K} (h : EP' T te Γ P1) (hr : EA T tr Γ [y, z]) (hb : ∀ x, P1 x → SR T u (((Γ.set i (some x)).set j (some y)).set l (some z)) P2) : SR T (tSeq (tPar3 i j l (tCons te tr)) u) Γ P2 :=
  sr_bind (fun td => tSeq (tPar3 i j l (tCons td tr)) u) (fun _ _ _ _ => rfl) h fun x v px => sr_seq (sn_par3 (ea_cons (eg_hold x v) hr)) (hb x px)
theorem sr_forP {ι : Type} {wi : TI} {g : TG} {vs : List Nat} {ys : List (Dsc K)} {t u : TS} {P2 : Dsc K → Prop} (Γs : ι → Gam K) (I : Nat → ι → Prop) (b0 : ι) (h0 : I 0 b0) (hw : WG T wi (Γs b0) ys)
    (hs : ∀ i y b, ys[i]? = some y → I i b → ∃ Γ' b', GG T vs g y (Γs b) Γ' ∧ I (i + 1) b' ∧ SN T t Γ' (Γs b')) (hu : ∀ b, I ys.length b → SR T u (Γs b) P2) : SR T (tSeq (tFor wi g t) u) (Γs b0) P2 := fun D σ H ok k => hw σ H ok _ fun J H1 n1 wk => by
  refine ⟨fun i m σ' H' => m = ys.length - i ∧ i ≤ ys.length ∧ Nx T H1 H' ∧ ∃ b, I i b ∧ Ok T σ' H' (Γs b), ⟨ys.length, rfl, Nat.zero_le _, Nx.refl n1.tb, b0, h0, ok.go n1⟩, ?_⟩
  rintro i m σ' H' ⟨rfl, hi, nx, b, ib, ok'⟩
  by_cases hlt : i < ys.length
  · refine .inr ⟨wk.go i H' hlt nx, fun σ2 H2 => Nx T H1 H2 ∧ ∃ b, I (i + 1) b ∧ Ok T σ2 H2 (Γs b), fun σ2 H2 ⟨n2, o2⟩ => ⟨ys.length - (i + 1), by omega, rfl, hlt, n2, o2⟩, fun x H2 yy => ?_⟩
    obtain ⟨n2, y, ey, dy⟩ := wk.yld i H' x H2 hlt nx yy
    obtain ⟨Γ', b', hg, ib', hb⟩ := hs i y b ey ib
    refine hg x σ' H2 (ok'.go n2) dy _ fun σ3 ok3 _ => ?_
    exact hb _ σ3 H2 ok3 fun σ4 H4 n4 ok4 => ⟨(nx.trans n2).trans n4, b', ib', ok4⟩
  · have e : i = ys.length := by omega
    subst e
    exact .inl ⟨wk.stop H' nx, hu b ib D σ' H' ok' fun x v H2 p n d => k x v H2 p ((n1.trans nx).trans n) d⟩
/-! ### sorted(.., key=lambda) -/
def rngD (n : Nat) : Dsc K := ⟨fun v H => ∃ p, v = .ref p ∧ H p = some (.rng 0 (n : Int)), fun e ⟨p, h1, h2⟩ => ⟨p, h1, e p _ h2 (fun ps z => by cases z)⟩⟩
theorem eg_range {Γ : Gam K} {te : TE} {n : Nat} (h : ED T te Γ (.int (n : Nat))) : EG T (tCB (fun vs H Q => ∃ n, vs = [V.int n] ∧ ∀ p, H p = none → Q (.ref p) (upd H p (.rng 0 n))) (tCons te tNil)) Γ (rngD n) := eg_cb (ea_cons h ea_nil) (cg1 fun u H tb hu Q q => ⟨_, by rw [dp_int hu], fun p hp => q _ _ (Nx.new tb hp) ⟨p, rfl, upd_same⟩⟩)
theorem eg_sortL {β : Type} {enc k : β → PyData} {N : List Str} {js : List Nat} {te t : TE} {Γ : Gam K} (Γl : β → Gam K) (x : Dsc K) (bs : List β) (h : EG T te Γ x) (hx : ∀ v H, x.den v H → Src K H v (bs.map enc)) (hl : bs.length ≤ 100000) (hal : ∀ a b, alike (k a) (k b) = true) (hso : Sortable (bs.map k)) (hdp : ∀ x ∈ bs, (k x).depth ≤ 8)
    (hΓ : ∀ b ∈ bs, ∀ σ H u, Ok T σ H Γ → Dp K H u (enc b) → Ok T (startF N [u] (js.map (slotAt σ))) H (Γl b)) (hb : ∀ b ∈ bs, ED T t (Γl b) (k b)) : EG T (tSortL T K enc k N js te t) Γ (ll ((bs.mergeSort (dataLe false k)).map enc)) := fun σ H ok Q q => h σ H ok _ fun v H1 n1 d1 => by
  refine ⟨bs, hx v H1 d1, n1.tb, hl, fun d hd d' hd' => ?_, hso, hdp, fun b hbm u H' nx dx => ?_, fun p xs H' nx hp hd => q _ H' (n1.trans nx) ⟨p, xs, rfl, hp, hd⟩⟩
  · obtain ⟨a, _, rfl⟩ := List.mem_map.mp hd
    obtain ⟨b, _, rfl⟩ := List.mem_map.mp hd'
    exact hal a b
  · exact hb b hbm _ H' (hΓ b hbm σ H' u ((ok.go n1).go nx) dx) _ fun y H2 n2 d2 => ⟨n2, d2⟩
/-! ### dicts, walked by items -/
def yI (P : Program) (w : World) (K : PySem.W.Frag) (td : TE) : TI := fun σ H R => td σ H fun x H1 => ∃ d o kvs, x = .ref d ∧ KDo P w K H1 d o kvs ∧ R (ItxI P w K d o kvs) H1
def kdd (P : Program) (w : World) (K : PySem.W.Frag) (kvs : List (TT × PyData)) : Dsc K := ⟨fun v H => ∃ d, v = .ref d ∧ KD P w K H d kvs, fun e ⟨d, h1, h2⟩ => ⟨d, h1, h2.go e⟩⟩
section
variable {X : Cx} {elts : List Expr} {kk : Nat} {tpos apos cpos : Pos} {e : Expr} {td : TE}
theorem w_xi (h1 : X.prog = P) (h2 : X.w = w) (h3 : X.K = K) (he : PE X e td) (hbase : attributeBase e "items" X.env (eval e X.env) = eval e X.env := by rfl) (hline : (apos.endLine == cpos.line) = true := by rfl) :
    PI X (.Tuple elts kk tpos) (.Call (.Attribute e "items" apos) [] [] cpos) (yI P w K td) := by
  subst h1 h2 h3
  exact pi_xi he hbase hline
end
theorem wg_yi {Γ : Gam K} {td : TE} {kvs : List (TT × PyData)} (h : EG T td Γ (kdd P w K kvs)) : WG T (yI P w K td) Γ (kvs.map fun p => dd (.tuple [pT p.1, p.2])) := fun σ H ok R r => h σ H ok _ fun v H1 n1 d1 => by
  obtain ⟨d, rfl, o, k⟩ := d1
  refine ⟨d, o, kvs, rfl, k, r _ H1 n1 ⟨fun i H hi n => ⟨k.go n.kp, by simpa using hi⟩, fun H n => ⟨k.go n.kp, by simp⟩, fun i H v H' hi n y => ?_⟩⟩
  obtain ⟨T', p, b, y, hp, rfl, hT, rfl, hb, hy⟩ := y
  have nx : Nx T H (upd H T' (.tup [.ref b, y])) := Nx.new n.tb hT
  exact ⟨nx, dd (.tuple [pT p.1, p.2]), by rw [List.getElem?_map, hp]; rfl, dp_newT upd_same (.cons (dp_mono nx.kp _ _ hb) (.cons (dp_mono nx.kp _ _ hy) .nil))⟩
theorem ep_yget {Γ : Gam K} {td ty : TE} {P1 P2 : Dsc K → Prop} {t : TT} (h : EP' T td Γ P1) (hy : EG T ty Γ (dd (pT t))) (hx : ∀ x, P1 x → ∃ kvs z, x = kdd P w K kvs ∧ lookT kvs t = some z ∧ P2 (dd z)) : EP' T (yGet P w K td ty) Γ P2 := fun σ H ok Q q => h σ H ok _ fun x v H1 px n1 d1 => hy σ H1 (ok.go n1) _ fun y H2 n2 d2 => by
  obtain ⟨kvs, z, rfl, e, p2⟩ := hx x px
  obtain ⟨d, rfl, kd⟩ := d1
  exact ⟨d, kvs, t, z, rfl, kd.go n2.kp, d2, e, fun r hr => q _ r H2 p2 (n1.trans n2) hr⟩
theorem eg_yget {Γ : Gam K} {td ty : TE} {t : TT} {kvs : List (TT × PyData)} {z : PyData} (h : EG T td Γ (kdd P w K kvs)) (hy : EG T ty Γ (dd (pT t))) (e : lookT kvs t = some z) : ED T (yGet P w K td ty) Γ z :=
  (ep_yget (P2 := fun y => y = dd z) (h.ep (P := fun x => x = kdd P w K kvs) rfl) hy fun x hx => ⟨kvs, z, hx, e, rfl⟩).eg
theorem wg_yk {Γ : Gam K} {td : TE} {kvs : List (TT × PyData)} (h : EG T td Γ (kdd P w K kvs)) : WG T (yK P w K td) Γ (kvs.map fun p => dd (pT p.1)) := fun σ H ok R r => h σ H ok _ fun v H1 n1 d1 => by
  obtain ⟨d, rfl, o, kd⟩ := d1
  refine ⟨d, o, kvs, rfl, kd, r _ H1 n1 ⟨fun i H hi n => ⟨kd.go n.kp, by simpa using hi⟩, fun H n => ⟨kd.go n.kp, by simp⟩, fun i H v H' hi n y => ?_⟩⟩
  obtain ⟨rfl, p, b, hp, rfl, hb⟩ := y
  exact ⟨Nx.refl n.tb, dd (pT p.1), by rw [List.getElem?_map, hp]; rfl, hb⟩
/-! ### the lambda's names -/
theorem hfree_by {names : List (Str × NameKind)} {sc : Scope} (h : (names.all fun y => !decide (y.2 = .free) || decide (sc.names.lookup y.1 = some .cell)) = true) : ∀ y ∈ names, y.2 = .free → sc.names.lookup y.1 = some .cell ∨ sc.names.lookup y.1 = some .free := fun y hy e => .inl (by
  have := List.all_eq_true.mp h y hy
  rw [e] at this
  simpa using this)
theorem hfr_by {names : List (Str × NameKind)} {fr : List Str} (h : (fr.all fun y => decide ((y, NameKind.free) ∈ names)) = true) : ∀ y ∈ fr, (y, NameKind.free) ∈ names := fun y hy => of_decide_eq_true (List.all_eq_true.mp h y hy)
theorem nd_pth : (["person", "told", "heap"] : List Str).Nodup := by decide
/-! ### the order of a table's rows -/
def negs (u : TT) (i : Nat) : List Int := (Lt.rw' u i).map fun h => -h
def keyE (u : TT) (i : Nat) : PyData := .tuple [.list ((negs u i).map .int), .int ((i : Nat) : Int)]
def keyLe (u : TT) (i j : Nat) : Bool := decide (negs u i < negs u j ∨ (negs u i = negs u j ∧ i ≤ j))
theorem keyE_le (u : TT) (i j : Nat) : dataLe false (keyE u) i j = keyLe u i j := by
  show (!dataLt (keyE u j) (keyE u i)) = _
  have e : dataLt (keyE u j) (keyE u i) = _ := PySem.W.dataLt_pair (x := .list ((negs u j).map .int)) (x' := .list ((negs u i).map .int)) (y := .int ((j : Nat) : Int)) (y' := .int ((i : Nat) : Int)) (by simpa [alike] using alike_ints _ _) (by simp [alike])
  have e2 : dataLt (.list ((negs u j).map .int)) (.list ((negs u i).map .int)) = decide (negs u j < negs u i) := by
    rw [PySem.W.dataLt_list]
    exact PySem.W.dataLt_ints _ _
  rw [e, PySem.W.dataLt_int, e2]
  have e3 : PyData.eqv (.list ((negs u j).map .int)) (.list ((negs u i).map .int)) = decide (negs u j = negs u i) := eqv_dec (by unfold pl; exact pl_ints _) (by unfold pl; exact pl_ints _) ⟨fun z => by
    have z' := PyData.list.inj z
    exact (List.map_inj_right (fun a b h => PyData.int.inj h)).mp z', fun z => by rw [z]⟩
  have e4 : PyData.eqv (.int ((j : Nat) : Int)) (.int ((i : Nat) : Int)) = decide (j = i) := eqv_dec rfl rfl ⟨fun z => by
    have := PyData.int.inj z
    omega, fun z => by rw [z]⟩
  rw [e3, e4]
  unfold keyLe
  by_cases h1 : negs u j = negs u i
  · rw [if_pos (decide_eq_true h1)]
    by_cases h2 : j = i
    · rw [if_pos (decide_eq_true h2)]
      subst h2
      simp
    · rw [if_neg (by simp [h2])]
      have h3 : ¬ negs u i < negs u j := by rw [h1]; exact List.lt_irrefl _
      by_cases h4 : ((j : Nat) : Int) < (i : Nat)
      · have : ¬ i ≤ j := by omega
        simp [h1, h4, this, List.lt_irrefl]
      · have : i ≤ j := by omega
        simp [h1, h4, this, List.lt_irrefl]
  · rw [if_neg (by simp [h1])]
    have h1' : ¬ negs u i = negs u j := fun z => h1 z.symm
    by_cases h2 : negs u j < negs u i
    · have h3 : ¬ negs u i < negs u j := fun z => List.lt_irrefl _ (List.lt_trans h2 z)
      simp [h1', h2, h3]
    · have h3 : negs u i < negs u j := by
        have := List.not_lt.mp h2
        rcases Classical.em (negs u i < negs u j) with z | z
        · exact z
        · exact absurd (Lt.row_le_antisymm (List.not_lt.mp z) this) h1
      simp [h1', h2, h3]
theorem keyLe_total (u : TT) (i j : Nat) : (keyLe u i j || keyLe u j i) = true := by
  unfold keyLe
  by_cases h1 : negs u i < negs u j
  · simp [h1]
  by_cases h2 : negs u j < negs u i
  · simp [h2]
  have e : negs u i = negs u j := Lt.row_le_antisymm (List.not_lt.mp h2) (List.not_lt.mp h1)
  rcases Nat.le_total i j with h | h
  · simp [e, h]
  · simp [e, h]
theorem keyLe_trans (u : TT) (i j k : Nat) (h1 : keyLe u i j = true) (h2 : keyLe u j k = true) : keyLe u i k = true := by
  unfold keyLe at *
  have h1 := of_decide_eq_true h1
  have h2 := of_decide_eq_true h2
  refine decide_eq_true ?_
  rcases h1 with h1 | ⟨h1, a⟩
  · rcases h2 with h2 | ⟨h2, b⟩
    · exact .inl (List.lt_trans h1 h2)
    · exact .inl (h2 ▸ h1)
  · rcases h2 with h2 | ⟨h2, b⟩
    · exact .inl (h1 ▸ h2)
    · exact .inr ⟨h1.trans h2, by omega⟩
theorem neg_lt : ∀ (a b : List Int), a.length = b.length → (a.map fun h => -h) < (b.map fun h => -h) → b < a
  | [], [], _, h => absurd h (List.lt_irrefl _)
  | [], _ :: _, hl, _ => by simp at hl
  | _ :: _, [], hl, _ => by simp at hl
  | x :: a, y :: b, hl, h => by
    rw [List.map_cons, List.map_cons, List.cons_lt_cons_iff] at h
    rw [List.cons_lt_cons_iff]
    rcases h with h | ⟨h1, h2⟩
    · exact .inl (by omega)
    · exact .inr ⟨by omega, neg_lt a b (by simpa using hl) h2⟩
theorem keyLe_row {n g : Nat} {u : TT} (hu : Lt.WF n g u) {i j : Nat} (hi : i < n) (hj : j < n) (h : keyLe u i j = true) : Lt.rw' u j ≤ Lt.rw' u i := by
  unfold keyLe at h
  have hl : (Lt.rw' u i).length = (Lt.rw' u j).length := by rw [hu.row hi, hu.row hj]
  rcases of_decide_eq_true h with h | ⟨h, _⟩
  · exact List.not_lt.mp fun z => List.lt_irrefl _ (List.lt_trans (neg_lt _ _ hl h) z)
  · have : Lt.rw' u i = Lt.rw' u j := (List.map_inj_right (fun a b (h : -a = -b) => by omega)).mp h
    rw [this]
    exact List.not_lt.mp (List.lt_irrefl _)
def ordE (u : TT) (n : Nat) : List Nat := (List.range n).mergeSort (keyLe u)
theorem ordE_ord (u : TT) (n : Nat) : Lt.IsOrd n (ordE u n) := List.mergeSort_perm _ _
theorem ordE_rows {n g : Nat} {u : TT} (hu : Lt.WF n g u) : (ordE u n).Pairwise fun a b => Lt.rw' u b ≤ Lt.rw' u a := by
  have h := List.pairwise_mergeSort (le := keyLe u) (keyLe_trans u) (keyLe_total u) (List.range n)
  have hm : ∀ a ∈ ordE u n, a < n := fun a ha => (ordE_ord u n).mem.mp ha
  unfold ordE at *
  exact h.imp_of_mem fun ha hb hab => keyLe_row hu (hm _ ha) (hm _ hb) hab
/-- the order of a table whose crowd is the tower -/
theorem ordE_placed {n g : Nat} {u : TT} (hu : Lt.WF n g u) : u = Lt.placed (Lt.crowd u) (ordE u n) := Lt.order_of hu (ordE_ord u n) (ordE_rows hu)
end Lw
set_option Elab.async false
set_option linter.all false
set_option maxRecDepth 100000
set_option maxHeartbeats 4000000
/-! the checks' defs -/
namespace Lw
open PySem PySem.Spec PyProof.Rows L2
open LamX (ExtN Tabs TabS CodeO TabB)
variable {P : Program} {w : World} {K : PySem.W.Frag} {mg : Str → Option Value} {base : Heap} {T : List (Addr × Str)}
theorem ea1 {Γ : Gam K} {ta : TE} {x : Dsc K} (h : EG T ta Γ x) : EA T (tCons ta tNil) Γ [x] := ea_cons h ea_nil
theorem ea2 {Γ : Gam K} {ta tb : TE} {x y : Dsc K} (h : EG T ta Γ x) (h2 : EG T tb Γ y) : EA T (tCons ta (tCons tb tNil)) Γ [x, y] := ea_cons h (ea1 h2)
theorem ea3 {Γ : Gam K} {ta tb tc : TE} {x y z : Dsc K} (h : EG T ta Γ x) (h2 : EG T tb Γ y) (h3 : EG T tc Γ z) : EA T (tCons ta (tCons tb (tCons tc tNil))) Γ [x, y, z] := ea_cons h (ea2 h2 h3)
abbrev vr {Γ : Gam K} {x : Dsc K} {i : Nat} (h : Γ[i]? = some (some x) := by rfl) : EG T (tVar i) Γ x := eg_var h
/-- a row of the table within the program's lines -/
def HeapOk (h : Int) : Prop := 0 ≤ h ∧ h ≤ 99
def RowOk (w : Nat) (r : List Int) : Prop := r.length = w ∧ ∀ h ∈ r, HeapOk h
structure TabOk (n w : Nat) (t : TT) : Prop where
  len : t.length = n
  rows : ∀ r ∈ t, RowOk w r
  n1 : 1 ≤ n
  n6 : n ≤ 6
  w1 : 1 ≤ w
  w5 : w ≤ 5

abbrev sp_whole (T : List (Addr × Str)) (K : PySem.W.Frag) : Sp := Pr T (fun v : Int => [dd (K := K) (.int v)]) (fun _ => True) fun _ y => y = dd (.bool true)
theorem sc_whole : FnScope ["value"] ["value"] (defScope (topS 12)) := ⟨rfl, rfl, rfl, by decide +kernel, rfl, by decide +kernel, by decide +kernel⟩
theorem d_whole (B : Bts mg) (C : Csts mg)  (R : Raw mg K "whole" (topS 12)) : Def P w K mg base 1 "whole" ["value"] (sp_whole T K) := by
  refine def_of R sc_whole (fun _ _ _ _ _ _ us hl => match us, hl with | [_], _ => rfl) (fun vs H Q E h => Pr.len (n := 1) (fun _ => rfl) h) fun f cdv A outer s H vs Q E hr h => ?_
  have nd := sc_whole.nd
  refine ⟨_, (pss_one (ps_ret (pe_and (pe_callB (w_isi (K := K) (by rfl)) (by rfl) B.isinstance PyProof.Rows.boot_isinstance (pa_cons (pv 0) (pa_cons (pe_bltn (v := .ty "int") (by rfl) B.int (u := .type "int") (by decide +kernel) rfl) pa_nil))) (pe_one (pe_not (pe_callB (w_isi (K := K) (by rfl)) (by rfl) B.isinstance PyProof.Rows.boot_isinstance (pa_cons (pv 0) (pa_cons (pe_bltn (v := .ty "bool") (by rfl) B.bool (u := .type "bool") (by decide +kernel) rfl) pa_nil)))))))), body_ret h ?_⟩
  intro v _
  exact sr_ret ((ed_andV (a := true) (b := true) (eg_cb (ea2 vr eg_ty) (cg_isi rfl (by decide +kernel))) fun _ => ed_notV (a := false) (eg_cb (ea2 vr eg_ty) (cg_isi rfl (by decide +kernel)))).ep rfl)

abbrev sp_within (T : List (Addr × Str)) (K : PySem.W.Frag) : Sp := Pr T (fun v : Int × Int × Int => [dd (K := K) (.int v.1), dd (.int v.2.1), dd (.int v.2.2)]) (fun _ => True) fun v y => y = dd (.bool (decide (v.2.1 ≤ v.1) && decide (v.1 ≤ v.2.2)))
theorem sc_within : FnScope ["value", "low", "high"] ["value", "low", "high"] (defScope (topS 13)) := ⟨rfl, rfl, rfl, by decide +kernel, rfl, by decide +kernel, by decide +kernel⟩
theorem d_within (B : Bts mg) (C : Csts mg) (D_whole : Def P w K mg base 1 "whole" ["value"] (sp_whole T K)) (R : Raw mg K "within" (topS 13)) : Def P w K mg base 2 "within" ["value", "low", "high"] (sp_within T K) := by
  refine def_of R sc_within (fun _ _ _ _ _ _ us hl => match us, hl with | [_, _, _], _ => rfl) (fun vs H Q E h => Pr.len (n := 3) (fun _ => rfl) h) fun f cdv A outer s H vs Q E hr h => ?_
  have nd := sc_within.nd
  refine ⟨_, (pss_one (ps_ret (pe_and (pe_callD D_whole hr (by decide) (by rfl) (pa_cons (pv 0) pa_nil)) (pe_one (pe_chain op_le op_le (pv 1) (pv 0) (pv 2)))))), body_ret h ?_⟩
  intro v _
  refine sr_ret ((ed_andV (a := true) (b := decide (v.2.1 ≤ v.1) && decide (v.1 ≤ v.2.2)) (eg_call v.1 (ea1 vr) trivial) fun _ => ed_chain (a := decide (v.2.1 ≤ v.1)) (b := decide (v.1 ≤ v.2.2)) vr vr rg_b fun _ => ⟨vr, rg_b⟩).ep ?_)
  simp

abbrev sp_tuple_of (T : List (Addr × Str)) (K : PySem.W.Frag) : Sp := Pr T (fun v : List PyData × Int × Int => [dd (K := K) (.tuple v.1), dd (.int v.2.1), dd (.int v.2.2)]) (fun v => v.2.1 ≤ v.1.length ∧ v.1.length ≤ v.2.2) fun v y => y = dd (.bool true)
theorem sc_tuple_of : FnScope ["value", "low", "high"] ["value", "low", "high"] (defScope (topS 14)) := ⟨rfl, rfl, rfl, by decide +kernel, rfl, by decide +kernel, by decide +kernel⟩
theorem d_tuple_of (B : Bts mg) (C : Csts mg)  (R : Raw mg K "tuple_of" (topS 14)) : Def P w K mg base 1 "tuple_of" ["value", "low", "high"] (sp_tuple_of T K) := by
  refine def_of R sc_tuple_of (fun _ _ _ _ _ _ us hl => match us, hl with | [_, _, _], _ => rfl) (fun vs H Q E h => Pr.len (n := 3) (fun _ => rfl) h) fun f cdv A outer s H vs Q E hr h => ?_
  have nd := sc_tuple_of.nd
  refine ⟨_, (pss_one (ps_ret (pe_and (pe_callB (w_isi (K := K) (by rfl)) (by rfl) B.isinstance PyProof.Rows.boot_isinstance (pa_cons (pv 0) (pa_cons (pe_bltn (v := .ty "tuple") (by rfl) B.tuple (u := .type "tuple") (by decide +kernel) rfl) pa_nil))) (pe_one (pe_chain op_le op_le (pv 1) (pe_callB (w_len (K := K) (by rfl)) (by rfl) B.len PySem.boot_len (pa_cons (pv 0) pa_nil)) (pv 2)))))), body_ret h ?_⟩
  rintro ⟨ds, lo, hi⟩ ⟨h1, h2⟩
  refine sr_ret ((ed_andV (a := true) (b := true) (eg_cb (ea2 vr eg_ty) (cg_isi rfl (by decide +kernel))) fun _ => (ed_chain (a := decide (lo ≤ ds.length)) (b := decide ((ds.length : Int) ≤ hi)) vr (eg_cb (ea1 vr) (cg_len (.inr rfl))) rg_b fun _ => ⟨vr, rg_b⟩).is ?_).ep rfl)
  rw [decide_eq_true h1, decide_eq_true h2]
  rfl

abbrev sp_is_row (T : List (Addr × Str)) (K : PySem.W.Frag) : Sp := Pr T (fun v : List Int × Nat => [dd (K := K) (pR v.1), dd (.int v.2)]) (fun v => RowOk v.2 v.1 ∧ v.2 ≤ 5) fun v y => y = dd (.bool true)
theorem sc_is_row : FnScope ["value", "goods", "heap"] ["value", "goods"] (defScope (topS 15)) := ⟨rfl, rfl, rfl, by decide +kernel, rfl, by decide +kernel, by decide +kernel⟩
theorem d_is_row (B : Bts mg) (C : Csts mg) (D_tuple_of : Def P w K mg base 1 "tuple_of" ["value", "low", "high"] (sp_tuple_of T K)) (D_within : Def P w K mg base 2 "within" ["value", "low", "high"] (sp_within T K)) (R : Raw mg K "is_row" (topS 15)) : Def P w K mg base 3 "is_row" ["value", "goods"] (sp_is_row T K) := by
  refine def_of R sc_is_row (fun _ _ _ _ _ _ us hl => match us, hl with | [_, _], _ => rfl) (fun vs H Q E h => Pr.len (n := 2) (fun _ => rfl) h) fun f cdv A outer s H vs Q E hr h => ?_
  have nd := sc_is_row.nd
  refine ⟨_, (pss_one (ps_ret (pe_and (pe_callD D_tuple_of hr (by decide) (by rfl) (pa_cons (pv 0) (pa_cons (pv 1) (pa_cons (pv 1) pa_nil)))) (pe_one (pe_callB (w_all (K := K) (by rfl) rfl) (by rfl) B.all PyProof.Rows.boot_all (pa_cons (pe_lc (own := [("heap", 2)]) rfl nd (w_piT (K := K) (by rfl) (pv 0)) (blkOk_by (by kernel_rfl)) (fun _ _ _ _ _ => (pg_name (i := 2) nd rfl (Or.inl rfl) (Or.inr rfl))) (fun _ _ _ _ _ => pts_nil) (fun _ _ _ _ _ => (pe_callD D_within hr (by decide) (by rfl) (pa_cons (pv 2) (pa_cons pe_int (pa_cons (pe_glob (v := .int 99) (by rfl) C.heap.choose_spec ⟨_, rfl⟩) pa_nil)))))) pa_nil)))))), body_ret h ?_⟩
  rintro ⟨r, g⟩ ⟨⟨h1, h2⟩, h5⟩
  have hl : (r.map PyData.int).length = g := by rw [List.length_map]; exact h1
  refine sr_ret ((ed_andV (a := true) (b := true) (eg_call (r.map .int, (g : Int), (g : Int)) (ea3 vr vr vr) ⟨by rw [hl]; exact Int.le_refl _, by rw [hl]; exact Int.le_refl _⟩) fun _ => ?_).ep rfl)
  have wl : WG T (iTup K (tVar 0)) (startG 3 [dd (K := K) (pR r), dd (.int g)]) ((r.map PyData.int).map dd) := wg_tup vr
  rw [List.map_map] at wl
  have lc := eg_lcA (T := T) (g := gName 2) (vs := [2]) (l := r) (enc := fun h => dd (K := K) (.int h)) (fun _ => .bool true) wl (by have : r.length = g := h1; omega) (fun _ _ => rfl) (te := tCall (sp_within T K) [] E0 (tCons (tVar 2) (tCons (tC (.int 0)) (tCons (tC (.int 99)) tNil)))) fun h hh => ⟨_, gg_name (by simp), (eg_call (h, 0, 99) (ea3 vr (ed_int 0) (ed_int 99)) trivial).is (by
    obtain ⟨a, b⟩ := h2 h hh
    simp [a, b])⟩
  have e : r.map (fun _ => PyData.bool true) = (r.map fun _ => true).map PyData.bool := by rw [List.map_map]; rfl
  rw [e] at lc
  refine (eg_cb (ea1 lc.ld) cg_all).is ?_
  congr 2
  simp

theorem et_nI {Γ : Gam K} {ta tb : TE} {a b : Int} (h1 : ED T ta Γ (.int a)) (h2 : ED T tb Γ (.int b)) : ED T (tOp (rNeD K) ta tb) Γ (.bool (!decide (a = b))) :=
  eg_op h1 h2 (rg_neD (sh_int a) (sh_int b) (by rw [eqv_dec (p := a = b) rfl rfl (by simp)]))
theorem eg_eqI {Γ : Gam K} {ta tb : TE} {a b : Int} (h1 : ED T ta Γ (.int a)) (h2 : ED T tb Γ (.int b)) : ED T (tOp (rEqD K) ta tb) Γ (.bool (decide (a = b))) :=
  eg_op h1 h2 (rg_eqD (sh_int a) (sh_int b) (by rw [eqv_dec (p := a = b) rfl rfl (by simp)]))
theorem eg_lenT {Γ : Gam K} {ta : TE} {ds : List PyData} (h : ED T ta Γ (.tuple ds)) : ED T (tCB (rLenS K) (tCons ta tNil)) Γ (.int (ds.length : Nat)) := eg_cb (ea1 h) (cg_len (.inr rfl))
theorem eg_lenL {Γ : Gam K} {ta : TE} {ds : List PyData} (h : ED T ta Γ (.list ds)) : ED T (tCB (rLenS K) (tCons ta tNil)) Γ (.int (ds.length : Nat)) := eg_cb (ea1 h) (cg_len (.inl rfl))
theorem eg_lenTab {Γ : Gam K} {ta : TE} {t : TT} (h : ED T ta Γ (pT t)) : ED T (tCB (rLenS K) (tCons ta tNil)) Γ (.int (t.length : Nat)) := (eg_lenT h).is (by rw [List.length_map])
theorem eg_lenRow {Γ : Gam K} {ta : TE} {r : List Int} (h : ED T ta Γ (pR r)) : ED T (tCB (rLenS K) (tCons ta tNil)) Γ (.int (r.length : Nat)) := (eg_lenT h).is (by rw [List.length_map])
theorem eg_lenOrd {Γ : Gam K} {ta : TE} {r : List Nat} (h : ED T ta Γ (pO r)) : ED T (tCB (rLenS K) (tCons ta tNil)) Γ (.int (r.length : Nat)) := (eg_lenT h).is (by rw [List.length_map])
theorem eg_tupO {Γ : Gam K} {ta : TE} {ds : List PyData} (h : ED T ta Γ (.list ds)) : ED T (tCB (rTupO K) (tCons ta tNil)) Γ (.tuple ds) := eg_cb (ea1 h) cg_tuple
theorem TabOk.r0 {n w : Nat} {t : TT} (h : TabOk n w t) : 0 < t.length ∧ (Lt.rw' t 0).length = w := by
  have h0 : 0 < t.length := by have := h.n1; have := h.len; omega
  refine ⟨h0, ?_⟩
  rw [Lt.mem_row h0]
  exact (h.rows _ (List.getElem_mem h0)).1
theorem TabOk.wf {n w : Nat} {t : TT} (h : TabOk n w t) : Lt.WF n w t := ⟨h.len, fun r hr => (h.rows r hr).1⟩

abbrev sp_bad_row (T : List (Addr × Str)) (K : PySem.W.Frag) : Sp := Pr T (fun v : Nat × Nat × TT => [dd (K := K) (pT v.2.2)]) (fun v => TabOk v.1 v.2.1 v.2.2) fun v y => y = dd .none
theorem sc_bad_row : FnScope ["table", "goods", "index", "row"] ["table"] (defScope (topS 16)) := ⟨rfl, rfl, rfl, by decide +kernel, rfl, by decide +kernel, by decide +kernel⟩
theorem d_bad_row (B : Bts mg) (C : Csts mg) (D_is_row : Def P w K mg base 3 "is_row" ["value", "goods"] (sp_is_row T K)) (D_tuple_of : Def P w K mg base 1 "tuple_of" ["value", "low", "high"] (sp_tuple_of T K)) (R : Raw mg K "bad_row" (topS 16)) : Def P w K mg base 4 "bad_row" ["table"] (sp_bad_row T K) := by
  refine def_of R sc_bad_row (fun _ _ _ _ _ _ us hl => match us, hl with | [_], _ => rfl) (fun vs H Q E h => Pr.len (n := 1) (fun _ => rfl) h) fun f cdv A outer s H vs Q E hr h => ?_
  have nd := sc_bad_row.nd
  refine ⟨_, (pss_cons (ps_set (i := 1) nd rfl (Or.inl rfl) (pe_ifExp (pt_val (pe_callD D_tuple_of hr (by decide) (by rfl) (pa_cons (pe_ix (w_ixT (K := K) (by rfl)) (pv 0) pe_int (fun _ _ => rfl)) (pa_cons pe_int (pa_cons (pe_glob (v := .int 5) (by rfl) C.goods.choose_spec ⟨_, rfl⟩) pa_nil))))) (pe_callB (w_len (K := K) (by rfl)) (by rfl) B.len PySem.boot_len (pa_cons (pe_ix (w_ixT (K := K) (by rfl)) (pv 0) pe_int (fun _ _ => rfl)) pa_nil)) pe_non))
    (pss_cons (ps_for PassesOwn.never rfl (w_enum (K := K) (by rfl) (by rfl) B.enumerate (pa_cons (pv 0) pa_nil)) (w_gtup (K := K) (n := 2) (by rfl) rfl (pgs_cons (pg_name (i := 2) nd rfl (Or.inl rfl) (Or.inr rfl)) (pgs_cons (pg_name (i := 3) nd rfl (Or.inl rfl) (Or.inr rfl)) pgs_nil)))
     (pss_one (ps_if (PW.pt (pw_or (pt_cmp (pc_isN (pv 1))) (pw_or1 (pt_not (pt_val (pe_callD D_is_row hr (by decide) (by rfl) (pa_cons (pv 3) (pa_cons (pv 1) pa_nil)))))))) (pss_one (ps_ret (pv 2))) pss_nil)))
    (pss_one (ps_ret pe_non)))), body_ret h ?_⟩
  rintro ⟨n, g, t⟩ ht
  obtain ⟨h0, hl⟩ := ht.r0
  have w1 : 1 ≤ g := ht.w1
  have w5 : g ≤ 5 := ht.w5
  have n6 : n ≤ 6 := ht.n6
  have hlen : t.length = n := ht.len
  have hl' : ((((Lt.rw' t 0).map PyData.int).length : Nat) : Int) = (g : Int) := by rw [List.length_map]; exact congrArg _ hl
  have l1 : (1 : Int) ≤ ((((Lt.rw' t 0).map PyData.int).length : Nat) : Int) := by rw [hl']; omega
  have l2 : ((((Lt.rw' t 0).map PyData.int).length : Nat) : Int) ≤ 5 := by rw [hl']; omega
  refine sr_seq (sn_set (x := dd (.int g)) (eg_if (b := true) (et_B (eg_call ((Lt.rw' t 0).map .int, (1 : Int), (5 : Int)) (ea3 (eg_row vr (ed_int 0) h0) (ed_int 1) (ed_int 5)) ⟨l1, l2⟩)) (fun _ => (eg_lenRow (eg_row vr (ed_int 0) h0)).is (by rw [hl])) fun z => by cases z)) ?_
  refine sr_seq (sn_forC (vs := [2, 3]) (wg_enumT (ds := t.map pR) (ea1 vr)) fun y hy => ?_) (sr_ret (ed_non.ep rfl))
  obtain ⟨⟨i, d⟩, hp, rfl⟩ := List.mem_map.mp hy
  obtain ⟨r, hr, rfl⟩ := List.mem_map.mp (List.of_mem_zip hp).2
  refine ⟨_, _, gg_two (by simp) (by simp), sn_ifF (et_or (a := false) (b := false) (et_isN (d := .int g) vr) fun _ => et_not (b := true) (et_B (eg_call (r, g) (ea2 vr vr) ⟨ht.rows r hr, w5⟩))) sn_next, ((Sub.refl _).set rfl).set rfl⟩

abbrev sp_need_table (T : List (Addr × Str)) (K : PySem.W.Frag) : Sp := Pr T (fun v : Nat × Nat × TT => [dd (K := K) (pT v.2.2)]) (fun v => TabOk v.1 v.2.1 v.2.2) fun v y => y = dd .none
theorem sc_need_table : FnScope ["table", "index"] ["table"] (defScope (topS 17)) := ⟨rfl, rfl, rfl, by decide +kernel, rfl, by decide +kernel, by decide +kernel⟩
theorem d_need_table (B : Bts mg) (C : Csts mg) (D_bad_row : Def P w K mg base 4 "bad_row" ["table"] (sp_bad_row T K)) (D_tuple_of : Def P w K mg base 1 "tuple_of" ["value", "low", "high"] (sp_tuple_of T K)) (R : Raw mg K "need_table" (topS 17)) : Def P w K mg base 5 "need_table" ["table"] (sp_need_table T K) := by
  refine def_of R sc_need_table (fun _ _ _ _ _ _ us hl => match us, hl with | [_], _ => rfl) (fun vs H Q E h => Pr.len (n := 1) (fun _ => rfl) h) fun f cdv A outer s H vs Q E hr h => ?_
  have nd := sc_need_table.nd
  refine ⟨_, (pss_cons (ps_if (pt_not (pt_val (pe_callD D_tuple_of hr (by decide) (by rfl) (pa_cons (pv 0) (pa_cons pe_int (pa_cons (pe_glob (v := .int 6) (by rfl) C.people.choose_spec ⟨_, rfl⟩) pa_nil)))))) (pss_one ps_never) pss_nil)
    (pss_cons (ps_set (i := 1) nd rfl (Or.inl rfl) (pe_callD D_bad_row hr (by decide) (by rfl) (pa_cons (pv 0) pa_nil)))
    (pss_one (ps_if (pt_cmp (pc_notN (pv 1))) (pss_one ps_never) pss_nil)))), body_end h ?_⟩
  rintro ⟨n, g, t⟩ ht
  have n1 : 1 ≤ n := ht.n1
  have n6 : n ≤ 6 := ht.n6
  have hlen : (((t.map pR).length : Nat) : Int) = (n : Int) := by rw [List.length_map]; exact congrArg _ ht.len
  have l1 : (1 : Int) ≤ (((t.map pR).length : Nat) : Int) := by rw [hlen]; omega
  have l2 : (((t.map pR).length : Nat) : Int) ≤ 6 := by rw [hlen]; omega
  refine ⟨rfl, _, sn_seq (sn_ifF (et_not (b := true) (et_B (eg_call (t.map pR, (1 : Int), (6 : Int)) (ea3 vr (ed_int 1) (ed_int 6)) ⟨l1, l2⟩))) sn_next) (sn_seq (sn_set (eg_call (n, g, t) (ea1 vr) ht)) (sn_ifF (et_notN (d := .none) vr) sn_next))⟩

abbrev sp_need_person (T : List (Addr × Str)) (K : PySem.W.Frag) : Sp := Pr T (fun v : TT × Nat => [dd (K := K) (pT v.1), dd (.int v.2)]) (fun v => v.2 < v.1.length) fun v y => y = dd .none
theorem sc_need_person : FnScope ["table", "person"] ["table", "person"] (defScope (topS 18)) := ⟨rfl, rfl, rfl, by decide +kernel, rfl, by decide +kernel, by decide +kernel⟩
theorem d_need_person (B : Bts mg) (C : Csts mg) (D_within : Def P w K mg base 2 "within" ["value", "low", "high"] (sp_within T K)) (R : Raw mg K "need_person" (topS 18)) : Def P w K mg base 3 "need_person" ["table", "person"] (sp_need_person T K) := by
  refine def_of R sc_need_person (fun _ _ _ _ _ _ us hl => match us, hl with | [_, _], _ => rfl) (fun vs H Q E h => Pr.len (n := 2) (fun _ => rfl) h) fun f cdv A outer s H vs Q E hr h => ?_
  have nd := sc_need_person.nd
  refine ⟨_, (pss_one (ps_if (pt_not (pt_val (pe_callD D_within hr (by decide) (by rfl) (pa_cons (pv 1) (pa_cons pe_int (pa_cons (pe_op op_sub (pe_callB (w_len (K := K) (by rfl)) (by rfl) B.len PySem.boot_len (pa_cons (pv 0) pa_nil)) pe_int) pa_nil)))))) (pss_one ps_never) pss_nil)), body_end h ?_⟩
  rintro ⟨t, p⟩ hp
  have hp : p < t.length := hp
  refine ⟨rfl, _, sn_ifF (et_not (b := true) (et_B ((eg_call ((p : Int), (0 : Int), ((t.length : Nat) : Int) - 1) (ea3 vr (ed_int 0) (eg_op (eg_lenTab vr) (ed_int 1) rg_i)) trivial).is ?_))) sn_next⟩
  have h1 : (0 : Int) ≤ p := by omega
  have h2 : (p : Int) ≤ ((t.length : Nat) : Int) - 1 := by omega
  simp [h1, h2]

abbrev sp_is_order (T : List (Addr × Str)) (K : PySem.W.Frag) : Sp := Pr T (fun v : List Nat × Nat => [dd (K := K) (pO v.1), dd (.int v.2)]) (fun v => Lt.IsOrd v.2 v.1 ∧ v.2 ≤ 1000) fun v y => y = dd (.bool true)
theorem sc_is_order : FnScope ["value", "many", "told"] ["value", "many"] (defScope (topS 19)) := ⟨rfl, rfl, rfl, by decide +kernel, rfl, by decide +kernel, by decide +kernel⟩
theorem d_is_order (B : Bts mg) (C : Csts mg) (D_tuple_of : Def P w K mg base 1 "tuple_of" ["value", "low", "high"] (sp_tuple_of T K)) (D_whole : Def P w K mg base 1 "whole" ["value"] (sp_whole T K)) (R : Raw mg K "is_order" (topS 19)) : Def P w K mg base 2 "is_order" ["value", "many"] (sp_is_order T K) := by
  refine def_of R sc_is_order (fun _ _ _ _ _ _ us hl => match us, hl with | [_, _], _ => rfl) (fun vs H Q E h => Pr.len (n := 2) (fun _ => rfl) h) fun f cdv A outer s H vs Q E hr h => ?_
  have nd := sc_is_order.nd
  refine ⟨_, (pss_one (ps_ret (pe_and (pe_callD D_tuple_of hr (by decide) (by rfl) (pa_cons (pv 0) (pa_cons (pv 1) (pa_cons (pv 1) pa_nil)))) (pe_and (pe_callB (w_all (K := K) (by rfl) rfl) (by rfl) B.all PyProof.Rows.boot_all (pa_cons (pe_lc (own := [("told", 2)]) rfl nd (w_piT (K := K) (by rfl) (pv 0)) (blkOk_by (by kernel_rfl)) (fun _ _ _ _ _ => (pg_name (i := 2) nd rfl (Or.inl rfl) (Or.inr rfl))) (fun _ _ _ _ _ => pts_nil) (fun _ _ _ _ _ => (pe_callD D_whole hr (by decide) (by rfl) (pa_cons (pv 2) pa_nil)))) pa_nil)) (pe_one (pe_cmpR (w_eqD (K := K) (by rfl) hr) (pe_callB (w_sortD (K := K) (by rfl) hr) (by rfl) B.sorted PyProof.Rows.boot_sorted (pa_cons (pv 0) pa_nil)) (pe_listRg rfl (by rfl) B.list (prg_1 (by rfl) B.range (pv 1))) (nomark _))))))), body_ret h ?_⟩
  rintro ⟨o, n⟩ ⟨ho, hn⟩
  have ho : Lt.IsOrd n o := ho
  have hn : n ≤ 1000 := hn
  have hl : o.length = n := ho.len
  have hlen : (o.map fun i => PyData.int ((i : Nat) : Int)).length = n := by rw [List.length_map]; exact hl
  refine sr_ret ((ed_andV (a := true) (b := true) (eg_call (o.map fun i => .int ((i : Nat) : Int), (n : Int), (n : Int)) (ea3 vr vr vr) ⟨by rw [hlen]; exact Int.le_refl _, by rw [hlen]; exact Int.le_refl _⟩) fun _ => ed_andV (a := true) (b := true) ?_ fun _ => ?_).ep rfl)
  · have wl : WG T (iTup K (tVar 0)) (startG 3 [dd (K := K) (pO o), dd (.int n)]) ((o.map fun i => PyData.int ((i : Nat) : Int)).map dd) := wg_tup vr
    rw [List.map_map] at wl
    have lc := eg_lcA (T := T) (g := gName 2) (vs := [2]) (l := o) (enc := fun i => dd (K := K) (.int ((i : Nat) : Int))) (fun _ => .bool true) wl (by omega) (fun _ _ => rfl) (te := tCall (sp_whole T K) [] E0 (tCons (tVar 2) tNil)) fun i hi => ⟨_, gg_name (by simp), eg_call (i : Int) (ea1 vr) trivial⟩
    have e : o.map (fun _ => PyData.bool true) = (o.map fun _ => true).map PyData.bool := by rw [List.map_map]; rfl
    rw [e] at lc
    refine (eg_cb (ea1 lc.ld) cg_all).is ?_
    congr 2
    simp
  · have e0 : (o.map fun i => PyData.int ((i : Nat) : Int)) = (o.map fun i => ((i : Nat) : Int)).map PyData.int := List.map_map.symm
    have ok := ok_ints (l := o.map fun i => ((i : Nat) : Int)) (by rw [List.length_map]; omega)
    refine eg_op (eg_cb (ea1 vr) (cg_sorted (ds := o.map fun i => .int ((i : Nat) : Int)) (.inr rfl) (by rw [e0]; exact ok))).ld (eg_listRg vr (by omega)).ld ?_
    rw [e0, sort_ints, sort_order ho, List.map_map]
    have pa : plA ((List.range n).map fun i => PyData.int ((i : Nat) : Int)) = true := pl_nats _
    refine rg_eqD (sh_listA (k := 0) pa (fun d hd => ?_) (by omega)) (sh_listA (k := 0) pa (fun d hd => ?_) (by omega)) ((eqv_pl _ _ (by unfold pl; exact pa) (by unfold pl; exact pa)).mpr rfl)
    · obtain ⟨i, _, rfl⟩ := List.mem_map.mp hd
      simp [PyData.depth]
    · obtain ⟨i, _, rfl⟩ := List.mem_map.mp hd
      simp [PyData.depth]

abbrev sp_need_order (T : List (Addr × Str)) (K : PySem.W.Frag) : Sp := Pr T (fun v : TT × List Nat => [dd (K := K) (pT v.1), dd (pO v.2)]) (fun v => Lt.IsOrd v.1.length v.2 ∧ v.1.length ≤ 1000) fun v y => y = dd .none
theorem sc_need_order : FnScope ["table", "order"] ["table", "order"] (defScope (topS 20)) := ⟨rfl, rfl, rfl, by decide +kernel, rfl, by decide +kernel, by decide +kernel⟩
theorem d_need_order (B : Bts mg) (C : Csts mg) (D_is_order : Def P w K mg base 2 "is_order" ["value", "many"] (sp_is_order T K)) (R : Raw mg K "need_order" (topS 20)) : Def P w K mg base 3 "need_order" ["table", "order"] (sp_need_order T K) := by
  refine def_of R sc_need_order (fun _ _ _ _ _ _ us hl => match us, hl with | [_, _], _ => rfl) (fun vs H Q E h => Pr.len (n := 2) (fun _ => rfl) h) fun f cdv A outer s H vs Q E hr h => ?_
  have nd := sc_need_order.nd
  refine ⟨_, (pss_one (ps_if (pt_not (pt_val (pe_callD D_is_order hr (by decide) (by rfl) (pa_cons (pv 1) (pa_cons (pe_callB (w_len (K := K) (by rfl)) (by rfl) B.len PySem.boot_len (pa_cons (pv 0) pa_nil)) pa_nil))))) (pss_one ps_never) pss_nil)), body_end h ?_⟩
  rintro ⟨t, o⟩ ⟨ho, hn⟩
  exact ⟨rfl, _, sn_ifF (et_not (b := true) (et_B (eg_call (o, t.length) (ea2 vr (eg_lenTab vr)) ⟨ho, hn⟩))) sn_next⟩

abbrev sp_need_like (T : List (Addr × Str)) (K : PySem.W.Frag) : Sp := Pr T (fun v : Nat × Nat × TT × TT => [dd (K := K) (pT v.2.2.1), dd (pT v.2.2.2)]) (fun v => TabOk v.1 v.2.1 v.2.2.1 ∧ TabOk v.1 v.2.1 v.2.2.2) fun v y => y = dd .none
theorem sc_need_like : FnScope ["one", "other"] ["one", "other"] (defScope (topS 21)) := ⟨rfl, rfl, rfl, by decide +kernel, rfl, by decide +kernel, by decide +kernel⟩
theorem d_need_like (B : Bts mg) (C : Csts mg) (D_need_table : Def P w K mg base 5 "need_table" ["table"] (sp_need_table T K)) (R : Raw mg K "need_like" (topS 21)) : Def P w K mg base 6 "need_like" ["one", "other"] (sp_need_like T K) := by
  refine def_of R sc_need_like (fun _ _ _ _ _ _ us hl => match us, hl with | [_, _], _ => rfl) (fun vs H Q E h => Pr.len (n := 2) (fun _ => rfl) h) fun f cdv A outer s H vs Q E hr h => ?_
  have nd := sc_need_like.nd
  refine ⟨_, (pss_cons (ps_expr (pe_callD D_need_table hr (by decide) (by rfl) (pa_cons (pv 0) pa_nil)))
    (pss_cons (ps_expr (pe_callD D_need_table hr (by decide) (by rfl) (pa_cons (pv 1) pa_nil)))
    (pss_one (ps_if (PW.pt (pw_or (pt_cmpR (w_neD (K := K) (by rfl) hr) (pe_callB (w_len (K := K) (by rfl)) (by rfl) B.len PySem.boot_len (pa_cons (pv 0) pa_nil)) (pe_callB (w_len (K := K) (by rfl)) (by rfl) B.len PySem.boot_len (pa_cons (pv 1) pa_nil)) (nomark _)) (pw_or1 (pt_cmpR (w_neD (K := K) (by rfl) hr) (pe_callB (w_len (K := K) (by rfl)) (by rfl) B.len PySem.boot_len (pa_cons (pe_ix (w_ixT (K := K) (by rfl)) (pv 0) pe_int (fun _ _ => rfl)) pa_nil)) (pe_callB (w_len (K := K) (by rfl)) (by rfl) B.len PySem.boot_len (pa_cons (pe_ix (w_ixT (K := K) (by rfl)) (pv 1) pe_int (fun _ _ => rfl)) pa_nil)) (nomark _))))) (pss_one ps_never) pss_nil)))), body_end h ?_⟩
  rintro ⟨n, g, t, u⟩ ⟨ht, hu⟩
  refine ⟨rfl, _, sn_seq (sn_drop (eg_call (n, g, t) (ea1 vr) ht)) (sn_seq (sn_drop (eg_call (n, g, u) (ea1 vr) hu)) (sn_ifF (et_or (a := false) (b := false) ((et_test (et_nI (eg_lenTab vr) (eg_lenTab vr))).is ?_) fun _ => (et_test (et_nI (eg_lenRow (eg_row vr (ed_int 0) ht.r0.1)) (eg_lenRow (eg_row vr (ed_int 0) hu.r0.1)))).is ?_) sn_next))⟩
  · have e1 := ht.len
    have e2 := hu.len
    have : t.length = u.length := by rw [e1]; exact e2.symm
    simp [this]
  · rw [ht.r0.2, hu.r0.2]
    simp
end Lw
set_option Elab.async false
set_option linter.all false
set_option maxRecDepth 100000
set_option maxHeartbeats 4000000
/-! the tables' defs -/
namespace Lw
open PySem PySem.Spec PyProof.Rows L2
open LamX (ExtN Tabs TabS CodeO TabB)
variable {P : Program} {w : World} {K : PySem.W.Frag} {mg : Str → Option Value} {base : Heap} {T : List (Addr × Str)}
theorem zip_enc {α β : Type} {f : α → PyData} {g : β → PyData} {F : PyData × PyData → Dsc K} (l : List α) (m : List β) : (((l.map f).zip (m.map g)).map F) = (l.zip m).map fun p => F (f p.1, g p.2) := by
  rw [List.zip_map, List.map_map]
  rfl

abbrev sp_is_over_row (T : List (Addr × Str)) (K : PySem.W.Frag) : Sp := Pr T (fun v : List Int × List Int => [dd (K := K) (pR v.1), dd (pR v.2)]) (fun v => v.1.length ≤ 1000) fun v y => y = dd (.bool (Lt.isOver v.1 v.2))
theorem sc_is_over_row : FnScope ["one", "other", "first", "second"] ["one", "other"] (defScope (topS 23)) := ⟨rfl, rfl, rfl, by decide +kernel, rfl, by decide +kernel, by decide +kernel⟩
theorem d_is_over_row (B : Bts mg) (C : Csts mg)  (R : Raw mg K "is_over_row" (topS 23)) : Def P w K mg base 1 "is_over_row" ["one", "other"] (sp_is_over_row T K) := by
  refine def_of R sc_is_over_row (fun _ _ _ _ _ _ us hl => match us, hl with | [_, _], _ => rfl) (fun vs H Q E h => Pr.len (n := 2) (fun _ => rfl) h) fun f cdv A outer s H vs Q E hr h => ?_
  have nd := sc_is_over_row.nd
  refine ⟨_, (pss_one (ps_ret (pe_callB (w_all (K := K) (by rfl) rfl) (by rfl) B.all PyProof.Rows.boot_all (pa_cons (pe_lc (own := [("first", 2), ("second", 3)]) rfl nd (w_zip2 (K := K) (by rfl) (by rfl) B.zip (pa_cons (pv 0) (pa_cons (pv 1) pa_nil))) (blkOk_by (by kernel_rfl)) (fun _ _ _ _ _ => (w_gtup (K := K) (n := 2) (by rfl) rfl (pgs_cons (pg_name (i := 2) nd rfl (Or.inl rfl) (Or.inr rfl)) (pgs_cons (pg_name (i := 3) nd rfl (Or.inl rfl) (Or.inr rfl)) pgs_nil)))) (fun _ _ _ _ _ => pts_nil) (fun _ _ _ _ _ => (pe_cmpR op_ge (pv 2) (pv 3) (nomark _)))) pa_nil)))), body_ret h ?_⟩
  rintro ⟨a, b⟩ hl
  have hl : a.length ≤ 1000 := hl
  have wl := wg_zip2 (T := T) (K := K) (Γ := startG 4 [dd (K := K) (pR a), dd (pR b)]) (ds := a.map .int) (es := b.map .int) (ea2 (vr (i := 0)) (vr (i := 1)))
  rw [zip_enc] at wl
  have lc := eg_lcA (T := T) (g := gTup K 2 (gCons (gName 2) (gCons (gName 3) gNil))) (vs := [2, 3]) (l := a.zip b) (enc := fun p => dd (K := K) (.tuple [.int p.1, .int p.2])) (fun p => .bool (decide (p.2 ≤ p.1))) wl (by rw [List.length_zip]; omega) (fun _ _ => rfl)
    (te := tOp (rI0 fun i j => .bl (decide (j ≤ i))) (tVar 2) (tVar 3)) fun p hp => ⟨_, gg_two (by simp) (by simp), eg_op vr vr rg_b⟩
  have e : (a.zip b).map (fun p => PyData.bool (decide (p.2 ≤ p.1))) = ((a.zip b).map fun p => decide (p.2 ≤ p.1)).map PyData.bool := by rw [List.map_map]; rfl
  rw [e] at lc
  refine sr_ret (((eg_cb (ea1 lc.ld) cg_all).is ?_).ep rfl)
  congr 2
  unfold Lt.isOver
  rw [List.all_map]
  rfl

abbrev sp_are_at_odds (T : List (Addr × Str)) (K : PySem.W.Frag) : Sp := Pr T (fun v : List Int × List Int => [dd (K := K) (pR v.1), dd (pR v.2)]) (fun v => v.1.length ≤ 1000 ∧ v.2.length ≤ 1000) fun v y => y = dd (.bool (Lt.atOdds v.1 v.2))
theorem sc_are_at_odds : FnScope ["one", "other"] ["one", "other"] (defScope (topS 24)) := ⟨rfl, rfl, rfl, by decide +kernel, rfl, by decide +kernel, by decide +kernel⟩
theorem d_are_at_odds (B : Bts mg) (C : Csts mg) (D_is_over_row : Def P w K mg base 1 "is_over_row" ["one", "other"] (sp_is_over_row T K)) (R : Raw mg K "are_at_odds" (topS 24)) : Def P w K mg base 2 "are_at_odds" ["one", "other"] (sp_are_at_odds T K) := by
  refine def_of R sc_are_at_odds (fun _ _ _ _ _ _ us hl => match us, hl with | [_, _], _ => rfl) (fun vs H Q E h => Pr.len (n := 2) (fun _ => rfl) h) fun f cdv A outer s H vs Q E hr h => ?_
  have nd := sc_are_at_odds.nd
  refine ⟨_, (pss_one (ps_ret (pe_and (pe_not (pe_callD D_is_over_row hr (by decide) (by rfl) (pa_cons (pv 0) (pa_cons (pv 1) pa_nil)))) (pe_one (pe_not (pe_callD D_is_over_row hr (by decide) (by rfl) (pa_cons (pv 1) (pa_cons (pv 0) pa_nil)))))))), body_ret h ?_⟩
  rintro ⟨a, b⟩ ⟨h1, h2⟩
  exact sr_ret ((ed_andV (a := !Lt.isOver a b) (b := !Lt.isOver b a) (ed_notV (eg_call (a, b) (ea2 vr vr) h1)) fun _ => ed_notV (eg_call (b, a) (ea2 vr vr) h2)).ep rfl)

def pPr (p : Nat × Nat) : PyData := .tuple [.int ((p.1 : Nat) : Int), .int ((p.2 : Nat) : Int)]
theorem flat_pPr (p : Nat × Nat) : flat (pPr p) = true := rfl
def pOd (t : TT) : PyData := .list ((Lt.oddsOf t).map pPr)
abbrev sp_odds_of (T : List (Addr × Str)) (K : PySem.W.Frag) : Sp := Pr T (fun v : Nat × Nat × TT => [dd (K := K) (pT v.2.2)]) (fun v => Lt.WF v.1 v.2.1 v.2.2 ∧ v.1 ≤ 1000 ∧ v.2.1 ≤ 1000) fun v y => y = dd (pOd v.2.2)
theorem odds_few {n g : Nat} {t : TT} (ht : Lt.WF n g t) (m : Nat) (hm : m ≤ n) : ((List.range m).flatMap fun i => ((List.range (n - (i + 1))).filter fun k => Lt.atOdds (Lt.rw' t i) (Lt.rw' t (i + 1 + k))).map fun k => (i, i + 1 + k)).length ≤ m * n := by
  induction m with
  | zero => simp
  | succ m ih =>
    rw [List.range_succ, List.flatMap_append, List.length_append]
    have h1 := ih (by omega)
    have h2 : (([m].flatMap fun i => ((List.range (n - (i + 1))).filter fun k => Lt.atOdds (Lt.rw' t i) (Lt.rw' t (i + 1 + k))).map fun k => (i, i + 1 + k)).length) ≤ n := by
      simp only [List.flatMap_cons, List.flatMap_nil, List.append_nil, List.length_map]
      refine Nat.le_trans (List.length_filter_le _ _) ?_
      rw [List.length_range]
      omega
    have h3 : (m + 1) * n = m * n + n := Nat.succ_mul m n
    omega
theorem odds_eq {n g : Nat} {t : TT} (ht : Lt.WF n g t) : Lt.oddsOf t = (List.range n).flatMap fun i => ((List.range (n - (i + 1))).filter fun k => Lt.atOdds (Lt.rw' t i) (Lt.rw' t (i + 1 + k))).map fun k => (i, i + 1 + k) := by
  unfold Lt.oddsOf
  rw [ht.1]
  congr 1
  funext i
  rw [List.filter_map, List.map_map]
  rfl
theorem sc_odds_of : FnScope ["table", "many", "found", "one", "other"] ["table"] (defScope (topS 25)) := ⟨rfl, rfl, rfl, by decide +kernel, rfl, by decide +kernel, by decide +kernel⟩
theorem d_odds_of (B : Bts mg) (C : Csts mg) (D_are_at_odds : Def P w K mg base 2 "are_at_odds" ["one", "other"] (sp_are_at_odds T K)) (R : Raw mg K "odds_of" (topS 25)) : Def P w K mg base 3 "odds_of" ["table"] (sp_odds_of T K) := by
  refine def_of R sc_odds_of (fun _ _ _ _ _ _ us hl => match us, hl with | [_], _ => rfl) (fun vs H Q E h => Pr.len (n := 1) (fun _ => rfl) h) fun f cdv A outer s H vs Q E hr h => ?_
  have nd := sc_odds_of.nd
  refine ⟨_, (pss_cons (ps_par (i := 1) (j := 2) rfl nd rfl rfl (by decide) rfl rfl (pa_cons (pe_callB (w_len (K := K) (by rfl)) (by rfl) B.len PySem.boot_len (pa_cons (pv 0) pa_nil)) (pa_cons (pe_lst pa_nil) pa_nil)) (by rfl))
    (pss_cons (ps_for PassesOwn.never rfl (pi_range1 (by rfl) B.range (pa_cons (pv 1) pa_nil)) (pg_name (i := 3) nd rfl (Or.inr rfl) (Or.inl rfl))
     (pss_one (ps_set (i := 2) nd rfl (Or.inl rfl) (pe_op op_cat (pv 2) (pe_lc (own := [("other", 4)]) rfl nd (pi_range2 (by rfl) B.range (pa_cons (pe_op op_add (pv 3) pe_int) (pa_cons (pv 1) pa_nil))) (blkOk_by (by kernel_rfl)) (fun _ _ _ _ _ => (pg_name (i := 4) nd rfl (Or.inl rfl) (Or.inr rfl))) (fun _ _ _ _ _ => (pts_one (pt_val (pe_callD D_are_at_odds hr (by decide) (by rfl) (pa_cons (pe_ix (w_ixT (K := K) (by rfl)) (pv 0) (pv 3) (fun _ _ => rfl)) (pa_cons (pe_ix (w_ixT (K := K) (by rfl)) (pv 0) (pv 4) (fun _ _ => rfl)) pa_nil)))))) (fun _ _ _ _ _ => (pe_tup (pa_cons (pv 3) (pa_cons (pv 4) pa_nil)))))))))
    (pss_one (ps_ret (pv 2))))), body_ret h ?_⟩
  rintro ⟨n, g, t⟩ ⟨ht, hn, hg⟩
  have ht : Lt.WF n g t := ht
  have hn : n ≤ 1000 := hn
  have hlen : t.length = n := ht.1
  let pre : Nat → List (Nat × Nat) := fun m => (List.range m).flatMap fun i => ((List.range (n - (i + 1))).filter fun k => Lt.atOdds (Lt.rw' t i) (Lt.rw' t (i + 1 + k))).map fun k => (i, i + 1 + k)
  let Γs : Nat → Gam K := fun i => [some (dd (pT t)), some (dd (.int n)), some (ll ((pre i).map pPr)), none, none]
  refine sr_seq (Γ1 := Γs 0) (sn_par (x := dd (.int n)) (y := ll []) (ea2 ((eg_lenTab vr).is (by rw [hlen])) (en_lst ea_nil (by simp)).eg)) ?_
  have hw : WG T (iRng1 (tCons (tVar 1) tNil)) (Γs 0) ((List.range n).map fun i => dd (K := K) (.int (i : Nat))) := wg_range1 (ea1 vr) (by omega)
  refine sr_seq (Γ1 := Γs n) ?_ (sr_ret (EG.ep (x := dd (pOd t)) ?_ rfl))
  · have loop := sn_for (T := T) (g := gName 3) (vs := [3]) (t := tAsg (tOp rCat (tVar 2) (tLc (iRng2 (tCons (tOp (rI0 fun i j => .int (i + j)) (tVar 3) (tC (.int 1))) (tCons (tVar 1) tNil))) (gName 4) (tB (tCall (sp_are_at_odds T K) [] E0 (tCons (tOp (rIxT K) (tVar 0) (tVar 3)) (tCons (tOp (rIxT K) (tVar 0) (tVar 4)) tNil)))) (tTup (tCons (tVar 3) (tCons (tVar 4) tNil))) [4])) (gName 2)) Γs hw fun i y hy => ?_
    · rw [List.length_map, List.length_range] at loop
      exact loop
    · have hi : i < n := by
        have := (List.getElem?_eq_some_iff.mp hy).1
        simpa using this
      rw [List.getElem?_map, List.getElem?_range hi] at hy
      obtain rfl := (Option.some.inj hy).symm
      refine ⟨_, gg_name (by simp), sn_sub (Γ2 := (([some (dd (pT t)), some (dd (.int n)), some (ll ((pre i).map pPr)), some (dd (.int (i : Nat))), none] : Gam K).set 2 (some (ll ((pre (i + 1)).map pPr))))) (sn_set ?_) ⟨rfl, fun j x e => ?_⟩⟩
      · have hr : WG T (iRng2 (tCons (tOp (rI0 fun i j => .int (i + j)) (tVar 3) (tC (.int 1))) (tCons (tVar 1) tNil))) ([some (dd (pT t)), some (dd (.int n)), some (ll ((pre i).map pPr)), some (dd (.int (i : Nat))), none] : Gam K) ((List.range (n - (i + 1))).map fun k => dd (K := K) (.int ((i + 1 + k : Nat) : Int))) :=
          wg_range2 (ea2 ((eg_op (vr (i := 3)) (ed_int 1) rg_i).is (by congr 1)) (vr (i := 1))) (by omega) (by omega)
        have lc := eg_lc (T := T) (g := gName 4) (vs := [4]) (l := List.range (n - (i + 1))) (enc := fun k => dd (K := K) (.int ((i + 1 + k : Nat) : Int))) (fun k => Lt.atOdds (Lt.rw' t i) (Lt.rw' t (i + 1 + k))) (fun k => pPr (i, i + 1 + k)) hr (by rw [List.length_range]; omega) (fun _ _ _ => rfl)
          (tt := tB (tCall (sp_are_at_odds T K) [] E0 (tCons (tOp (rIxT K) (tVar 0) (tVar 3)) (tCons (tOp (rIxT K) (tVar 0) (tVar 4)) tNil)))) (te := tTup (tCons (tVar 3) (tCons (tVar 4) tNil))) fun k hk => ?_
        · refine (eg_op vr lc (rg_cat ?_)).is ?_
          · have h1 := odds_few ht i (by omega)
            have h2 := List.length_filter_le (fun k => Lt.atOdds (Lt.rw' t i) (Lt.rw' t (i + 1 + k))) (List.range (n - (i + 1)))
            rw [List.length_range] at h2
            have h3 : i * n ≤ 999 * 1000 := Nat.mul_le_mul (by omega) hn
            rw [List.length_map, List.length_map]
            have h4 : (pre i).length ≤ i * n := h1
            omega
          · show ll _ = ll _
            congr 1
            show _ = List.map pPr (List.flatMap _ (List.range (i + 1)))
            rw [List.range_succ, List.flatMap_append, List.map_append]
            simp only [List.flatMap_cons, List.flatMap_nil, List.append_nil, List.map_map]
            rfl
        · have hk' : k < n - (i + 1) := List.mem_range.mp hk
          refine ⟨_, gg_name (by simp), et_B (eg_call (Lt.rw' t i, Lt.rw' t (i + 1 + k)) (ea2 (eg_row vr vr (by omega)) (eg_row vr vr (by omega))) ⟨?_, ?_⟩), fun _ => eg_tup (ds := [_, _]) (ea2 vr vr) (by simp)⟩
          · show (Lt.rw' t i).length ≤ 1000
            rw [ht.row (by omega)]
            exact hg
          · show (Lt.rw' t (i + 1 + k)).length ≤ 1000
            rw [ht.row (by omega)]
            exact hg
      · match j, e with
        | 0, e => exact e
        | 1, e => exact e
        | 2, e => exact e
        | 3, e => cases e
        | 4, e => cases e
        | j + 5, e => cases e
  · refine EG.ld (ds := (Lt.oddsOf t).map pPr) ((vr (i := 2)).is ?_)
    rw [odds_eq ht]

abbrev sp_need_two (T : List (Addr × Str)) (K : PySem.W.Frag) : Sp := Pr T (fun v : Nat × Nat × TT × Nat × Nat => [dd (K := K) (pT v.2.2.1), dd (.int v.2.2.2.1), dd (.int v.2.2.2.2)]) (fun v => TabOk v.1 v.2.1 v.2.2.1 ∧ v.2.2.2.1 < v.1 ∧ v.2.2.2.2 < v.1 ∧ v.2.2.2.1 ≠ v.2.2.2.2) fun v y => y = dd .none
theorem sc_need_two : FnScope ["table", "one", "other"] ["table", "one", "other"] (defScope (topS 26)) := ⟨rfl, rfl, rfl, by decide +kernel, rfl, by decide +kernel, by decide +kernel⟩
theorem d_need_two (B : Bts mg) (C : Csts mg) (D_need_person : Def P w K mg base 3 "need_person" ["table", "person"] (sp_need_person T K)) (D_need_table : Def P w K mg base 5 "need_table" ["table"] (sp_need_table T K)) (R : Raw mg K "need_two" (topS 26)) : Def P w K mg base 6 "need_two" ["table", "one", "other"] (sp_need_two T K) := by
  refine def_of R sc_need_two (fun _ _ _ _ _ _ us hl => match us, hl with | [_, _, _], _ => rfl) (fun vs H Q E h => Pr.len (n := 3) (fun _ => rfl) h) fun f cdv A outer s H vs Q E hr h => ?_
  have nd := sc_need_two.nd
  refine ⟨_, (pss_cons (ps_expr (pe_callD D_need_table hr (by decide) (by rfl) (pa_cons (pv 0) pa_nil)))
    (pss_cons (ps_expr (pe_callD D_need_person hr (by decide) (by rfl) (pa_cons (pv 0) (pa_cons (pv 1) pa_nil))))
    (pss_cons (ps_expr (pe_callD D_need_person hr (by decide) (by rfl) (pa_cons (pv 0) (pa_cons (pv 2) pa_nil))))
    (pss_one (ps_if (pt_cmpR (w_eqD (K := K) (by rfl) hr) (pv 1) (pv 2) (nomark _)) (pss_one ps_never) pss_nil))))), body_end h ?_⟩
  rintro ⟨n, g, t, a, b⟩ ⟨ht, ha, hb, hab⟩
  have ha : a < n := ha
  have hb : b < n := hb
  have hab : a ≠ b := hab
  have hl : t.length = n := ht.len
  refine ⟨rfl, _, sn_seq (sn_drop (eg_call (n, g, t) (ea1 vr) ht)) (sn_seq (sn_drop (eg_call (t, a) (ea2 vr vr) (by rw [hl]; exact ha))) (sn_seq (sn_drop (eg_call (t, b) (ea2 vr vr) (by rw [hl]; exact hb))) (sn_ifF ((et_test (eg_eqI vr vr)).is ?_) sn_next)))⟩
  have : ¬ ((a : Int) = (b : Int)) := by omega
  simp [this]

theorem odds_len {n g : Nat} {t : TT} (ht : Lt.WF n g t) : (Lt.oddsOf t).length ≤ n * n := by
  rw [odds_eq ht]
  exact odds_few ht n (Nat.le_refl _)
abbrev sp_at_odds (T : List (Addr × Str)) (K : PySem.W.Frag) : Sp := Pr T (fun v : Nat × Nat × TT => [dd (K := K) (pT v.2.2)]) (fun v => TabOk v.1 v.2.1 v.2.2) fun v y => y = dd (pOd v.2.2)
theorem TabOk.small {n g : Nat} {t : TT} (h : TabOk n g t) : Lt.WF n g t ∧ n ≤ 1000 ∧ g ≤ 1000 := ⟨h.wf, by have := h.n6; omega, by have := h.w5; omega⟩
theorem sc_at_odds : FnScope ["table"] ["table"] (defScope (topS 27)) := ⟨rfl, rfl, rfl, by decide +kernel, rfl, by decide +kernel, by decide +kernel⟩
theorem d_at_odds (B : Bts mg) (C : Csts mg) (D_need_table : Def P w K mg base 5 "need_table" ["table"] (sp_need_table T K)) (D_odds_of : Def P w K mg base 3 "odds_of" ["table"] (sp_odds_of T K)) (R : Raw mg K "at_odds" (topS 27)) : Def P w K mg base 6 "at_odds" ["table"] (sp_at_odds T K) := by
  refine def_of R sc_at_odds (fun _ _ _ _ _ _ us hl => match us, hl with | [_], _ => rfl) (fun vs H Q E h => Pr.len (n := 1) (fun _ => rfl) h) fun f cdv A outer s H vs Q E hr h => ?_
  have nd := sc_at_odds.nd
  refine ⟨_, (pss_cons (ps_expr (pe_callD D_need_table hr (by decide) (by rfl) (pa_cons (pv 0) pa_nil)))
    (pss_one (ps_ret (pe_callD D_odds_of hr (by decide) (by rfl) (pa_cons (pv 0) pa_nil))))), body_ret h ?_⟩
  rintro ⟨n, g, t⟩ ht
  exact sr_seq (sn_drop (eg_call (n, g, t) (ea1 vr) ht)) (sr_ret ((eg_call (n, g, t) (ea1 vr) ht.small).ep rfl))

abbrev sp_count_at_odds (T : List (Addr × Str)) (K : PySem.W.Frag) : Sp := Pr T (fun v : Nat × Nat × TT => [dd (K := K) (pT v.2.2)]) (fun v => TabOk v.1 v.2.1 v.2.2) fun v y => y = dd (.int ((Lt.oddsOf v.2.2).length : Nat))
theorem sc_count_at_odds : FnScope ["table"] ["table"] (defScope (topS 28)) := ⟨rfl, rfl, rfl, by decide +kernel, rfl, by decide +kernel, by decide +kernel⟩
theorem d_count_at_odds (B : Bts mg) (C : Csts mg) (D_need_table : Def P w K mg base 5 "need_table" ["table"] (sp_need_table T K)) (D_odds_of : Def P w K mg base 3 "odds_of" ["table"] (sp_odds_of T K)) (R : Raw mg K "count_at_odds" (topS 28)) : Def P w K mg base 6 "count_at_odds" ["table"] (sp_count_at_odds T K) := by
  refine def_of R sc_count_at_odds (fun _ _ _ _ _ _ us hl => match us, hl with | [_], _ => rfl) (fun vs H Q E h => Pr.len (n := 1) (fun _ => rfl) h) fun f cdv A outer s H vs Q E hr h => ?_
  have nd := sc_count_at_odds.nd
  refine ⟨_, (pss_cons (ps_expr (pe_callD D_need_table hr (by decide) (by rfl) (pa_cons (pv 0) pa_nil)))
    (pss_one (ps_ret (pe_callB (w_len (K := K) (by rfl)) (by rfl) B.len PySem.boot_len (pa_cons (pe_callD D_odds_of hr (by decide) (by rfl) (pa_cons (pv 0) pa_nil)) pa_nil))))), body_ret h ?_⟩
  rintro ⟨n, g, t⟩ ht
  refine sr_seq (sn_drop (eg_call (n, g, t) (ea1 vr) ht)) (sr_ret (((eg_lenL (ds := (Lt.oddsOf t).map pPr) (eg_call (n, g, t) (ea1 vr) ht.small)).is ?_).ep rfl))
  rw [List.length_map]

theorem pl_pPr (p : Nat × Nat) : pl (pPr p) = true := rfl
theorem dp_pPr (p : Nat × Nat) : (pPr p).depth ≤ 1 := by simp [pPr, PyData.depth, PyData.depthAll]
theorem sh_pOd (t : TT) : SeqAt.shaped (pOd t) = true := sh_listA (k := 1) (plA_map fun p _ => pl_pPr p) (fun d hd => by
  obtain ⟨p, _, rfl⟩ := List.mem_map.mp hd
  exact dp_pPr p) (by omega)
abbrev sp_is_tower (T : List (Addr × Str)) (K : PySem.W.Frag) : Sp := Pr T (fun v : Nat × Nat × TT => [dd (K := K) (pT v.2.2)]) (fun v => TabOk v.1 v.2.1 v.2.2) fun v y => y = dd (.bool (decide (Lt.oddsOf v.2.2 = [])))
theorem sc_is_tower : FnScope ["table"] ["table"] (defScope (topS 29)) := ⟨rfl, rfl, rfl, by decide +kernel, rfl, by decide +kernel, by decide +kernel⟩
theorem d_is_tower (B : Bts mg) (C : Csts mg) (D_need_table : Def P w K mg base 5 "need_table" ["table"] (sp_need_table T K)) (D_odds_of : Def P w K mg base 3 "odds_of" ["table"] (sp_odds_of T K)) (R : Raw mg K "is_tower" (topS 29)) : Def P w K mg base 6 "is_tower" ["table"] (sp_is_tower T K) := by
  refine def_of R sc_is_tower (fun _ _ _ _ _ _ us hl => match us, hl with | [_], _ => rfl) (fun vs H Q E h => Pr.len (n := 1) (fun _ => rfl) h) fun f cdv A outer s H vs Q E hr h => ?_
  have nd := sc_is_tower.nd
  refine ⟨_, (pss_cons (ps_expr (pe_callD D_need_table hr (by decide) (by rfl) (pa_cons (pv 0) pa_nil)))
    (pss_one (ps_ret (pe_cmpR (w_eqD (K := K) (by rfl) hr) (pe_callD D_odds_of hr (by decide) (by rfl) (pa_cons (pv 0) pa_nil)) (pe_lst pa_nil) (nomark _))))), body_ret h ?_⟩
  rintro ⟨n, g, t⟩ ht
  refine sr_seq (sn_drop (eg_call (n, g, t) (ea1 vr) ht)) (sr_ret ((eg_op (eg_call (n, g, t) (ea1 vr) ht.small) (en_lst (ds := []) ea_nil (by simp)).eg.ld (rg_eqD (sh_pOd t) (sh_listA (k := 0) rfl (fun d hd => by cases hd) (by omega)) (eqv_dec (by unfold pOd pl; exact plA_map fun p _ => pl_pPr p) (by simp [pl, plA]) ?_))).ep rfl))
  simp [pOd]

/-! ### tops and bottoms -/
theorem eg_allR {Γ : Gam K} {te : TE} {j i : Nat} {t : TT} (f : List Int → Bool) (ht : ED T (tVar i) Γ (pT t)) (hl : t.length ≤ 1000) (h : ∀ r ∈ t, ED T te ((wipeG Γ [j]).set j (some (dd (pR r)))) (.bool (f r))) :
    ED T (tCB (rAll K) (tCons (tLc (iTup K (tVar i)) (gName j) tYes te [j]) tNil)) Γ (.bool (t.all f)) := by
  have wl := wg_tup (ds := t.map pR) ht
  rw [List.map_map] at wl
  have lc := eg_lcA (T := T) (g := gName j) (vs := [j]) (te := te) (l := t) (enc := fun r => dd (K := K) (pR r)) (fun r => .bool (f r)) wl (by omega) (fun _ _ => rfl) fun r hr => ⟨_, gg_name (by simp), h r hr⟩
  have e : t.map (fun r => PyData.bool (f r)) = (t.map f).map PyData.bool := by rw [List.map_map]; rfl
  rw [e] at lc
  refine (eg_cb (ea1 lc.ld) cg_all).is ?_
  rw [List.all_map]
  rfl
theorem enum_enc {t : TT} {F : Nat × PyData → Dsc K} : (((List.range (t.map pR).length).zip (t.map pR)).map F) = ((List.range t.length).zip t).map fun p => F (p.1, pR p.2) := by
  rw [List.length_map, ← List.map_id (List.range t.length), List.zip_map, List.map_map]
  simp
def topsL (t : TT) : List Nat := (((List.range t.length).zip t).filter fun p => t.all fun r => Lt.isOver p.2 r).map Prod.fst
def botsL (t : TT) : List Nat := (((List.range t.length).zip t).filter fun p => t.all fun r => Lt.isOver r p.2).map Prod.fst
def pNs (l : List Nat) : PyData := .list (l.map fun i => .int ((i : Nat) : Int))
abbrev sp_tops (T : List (Addr × Str)) (K : PySem.W.Frag) : Sp := Pr T (fun v : Nat × Nat × TT => [dd (K := K) (pT v.2.2)]) (fun v => TabOk v.1 v.2.1 v.2.2) fun v y => y = dd (pNs (topsL v.2.2))
theorem sc_tops : FnScope ["table", "at", "row", "other"] ["table"] (defScope (topS 30)) := ⟨rfl, rfl, rfl, by decide +kernel, rfl, by decide +kernel, by decide +kernel⟩
theorem d_tops (B : Bts mg) (C : Csts mg) (D_is_over_row : Def P w K mg base 1 "is_over_row" ["one", "other"] (sp_is_over_row T K)) (D_need_table : Def P w K mg base 5 "need_table" ["table"] (sp_need_table T K)) (R : Raw mg K "tops" (topS 30)) : Def P w K mg base 6 "tops" ["table"] (sp_tops T K) := by
  refine def_of R sc_tops (fun _ _ _ _ _ _ us hl => match us, hl with | [_], _ => rfl) (fun vs H Q E h => Pr.len (n := 1) (fun _ => rfl) h) fun f cdv A outer s H vs Q E hr h => ?_
  have nd := sc_tops.nd
  refine ⟨_, (pss_cons (ps_expr (pe_callD D_need_table hr (by decide) (by rfl) (pa_cons (pv 0) pa_nil)))
    (pss_one (ps_ret (pe_lc (own := [("at", 1), ("row", 2)]) rfl nd (w_enum (K := K) (by rfl) (by rfl) B.enumerate (pa_cons (pv 0) pa_nil)) (blkOk_by (by kernel_rfl)) (fun _ _ _ _ _ => (w_gtup (K := K) (n := 2) (by rfl) rfl (pgs_cons (pg_name (i := 1) nd rfl (Or.inl rfl) (Or.inr rfl)) (pgs_cons (pg_name (i := 2) nd rfl (Or.inr rfl) (Or.inl rfl)) pgs_nil)))) (fun _ _ _ _ _ => (pts_one (pt_val (pe_callB (w_all (K := K) (by rfl) rfl) (by rfl) B.all PyProof.Rows.boot_all (pa_cons (pe_lc (own := [("other", 3)]) rfl nd (w_piT (K := K) (by rfl) (pv 0)) (blkOk_by (by kernel_rfl)) (fun _ _ _ _ _ => (pg_name (i := 3) nd rfl (Or.inl rfl) (Or.inr rfl))) (fun _ _ _ _ _ => pts_nil) (fun _ _ _ _ _ => (pe_callD D_is_over_row hr (by decide) (by rfl) (pa_cons (pv 2) (pa_cons (pv 3) pa_nil))))) pa_nil))))) (fun _ _ _ _ _ => (pv 1)))))), body_ret h ?_⟩
  rintro ⟨n, g, t⟩ ht
  have hl : t.length = n := ht.len
  have n6 : n ≤ 6 := ht.n6
  have w5 : g ≤ 5 := ht.w5
  have hw := wg_enumT (T := T) (Γ := startG 4 [dd (K := K) (pT t)]) (ds := t.map pR) (ea1 (vr (i := 0)))
  rw [enum_enc] at hw
  refine sr_seq (sn_drop (eg_call (n, g, t) (ea1 vr) ht)) (sr_ret ((EG.is (eg_lc (l := (List.range t.length).zip t) (enc := fun p => dd (K := K) (.tuple [.int (p.1 : Nat), pR p.2])) (fun p => t.all fun r => Lt.isOver p.2 r) (fun p => .int ((p.1 : Nat) : Int)) hw (by rw [List.length_zip, List.length_range]; omega) (fun _ _ _ => rfl) fun p hp => ⟨_, gg_two (by simp) (by simp), et_B (eg_allR (fun r => Lt.isOver p.2 r) vr (by omega) fun r hr => eg_call (p.2, r) (ea2 vr vr) ?_), fun _ => vr⟩).ld ?_).ep rfl))
  · have : p.2.length = g := (ht.rows p.2 (List.of_mem_zip hp).2).1
    show p.2.length ≤ 1000
    omega
  · unfold pNs topsL
    rw [List.map_map]
    rfl
abbrev sp_bottoms (T : List (Addr × Str)) (K : PySem.W.Frag) : Sp := Pr T (fun v : Nat × Nat × TT => [dd (K := K) (pT v.2.2)]) (fun v => TabOk v.1 v.2.1 v.2.2) fun v y => y = dd (pNs (botsL v.2.2))
theorem sc_bottoms : FnScope ["table", "at", "row", "other"] ["table"] (defScope (topS 31)) := ⟨rfl, rfl, rfl, by decide +kernel, rfl, by decide +kernel, by decide +kernel⟩
theorem d_bottoms (B : Bts mg) (C : Csts mg) (D_is_over_row : Def P w K mg base 1 "is_over_row" ["one", "other"] (sp_is_over_row T K)) (D_need_table : Def P w K mg base 5 "need_table" ["table"] (sp_need_table T K)) (R : Raw mg K "bottoms" (topS 31)) : Def P w K mg base 6 "bottoms" ["table"] (sp_bottoms T K) := by
  refine def_of R sc_bottoms (fun _ _ _ _ _ _ us hl => match us, hl with | [_], _ => rfl) (fun vs H Q E h => Pr.len (n := 1) (fun _ => rfl) h) fun f cdv A outer s H vs Q E hr h => ?_
  have nd := sc_bottoms.nd
  refine ⟨_, (pss_cons (ps_expr (pe_callD D_need_table hr (by decide) (by rfl) (pa_cons (pv 0) pa_nil)))
    (pss_one (ps_ret (pe_lc (own := [("at", 1), ("row", 2)]) rfl nd (w_enum (K := K) (by rfl) (by rfl) B.enumerate (pa_cons (pv 0) pa_nil)) (blkOk_by (by kernel_rfl)) (fun _ _ _ _ _ => (w_gtup (K := K) (n := 2) (by rfl) rfl (pgs_cons (pg_name (i := 1) nd rfl (Or.inl rfl) (Or.inr rfl)) (pgs_cons (pg_name (i := 2) nd rfl (Or.inr rfl) (Or.inl rfl)) pgs_nil)))) (fun _ _ _ _ _ => (pts_one (pt_val (pe_callB (w_all (K := K) (by rfl) rfl) (by rfl) B.all PyProof.Rows.boot_all (pa_cons (pe_lc (own := [("other", 3)]) rfl nd (w_piT (K := K) (by rfl) (pv 0)) (blkOk_by (by kernel_rfl)) (fun _ _ _ _ _ => (pg_name (i := 3) nd rfl (Or.inl rfl) (Or.inr rfl))) (fun _ _ _ _ _ => pts_nil) (fun _ _ _ _ _ => (pe_callD D_is_over_row hr (by decide) (by rfl) (pa_cons (pv 3) (pa_cons (pv 2) pa_nil))))) pa_nil))))) (fun _ _ _ _ _ => (pv 1)))))), body_ret h ?_⟩
  rintro ⟨n, g, t⟩ ht
  have hl : t.length = n := ht.len
  have n6 : n ≤ 6 := ht.n6
  have w5 : g ≤ 5 := ht.w5
  have hw := wg_enumT (T := T) (Γ := startG 4 [dd (K := K) (pT t)]) (ds := t.map pR) (ea1 (vr (i := 0)))
  rw [enum_enc] at hw
  refine sr_seq (sn_drop (eg_call (n, g, t) (ea1 vr) ht)) (sr_ret ((EG.is (eg_lc (l := (List.range t.length).zip t) (enc := fun p => dd (K := K) (.tuple [.int (p.1 : Nat), pR p.2])) (fun p => t.all fun r => Lt.isOver r p.2) (fun p => .int ((p.1 : Nat) : Int)) hw (by rw [List.length_zip, List.length_range]; omega) (fun _ _ _ => rfl) fun p hp => ⟨_, gg_two (by simp) (by simp), et_B (eg_allR (fun r => Lt.isOver r p.2) vr (by omega) fun r hr => eg_call (r, p.2) (ea2 vr vr) ?_), fun _ => vr⟩).ld ?_).ep rfl))
  · have : r.length = g := (ht.rows r hr).1
    show r.length ≤ 1000
    omega
  · unfold pNs botsL
    rw [List.map_map]
    rfl

/-! ### lots -/
theorem lots_len : ∀ n, (Lt.allLots n).length = 2 ^ n
  | 0 => rfl
  | n + 1 => by
    show (Lt.allLots n ++ _).length = _
    rw [List.length_append, List.length_map, lots_len n, Nat.pow_succ]
    omega
def pLots (l : List (List Nat)) : PyData := .list (l.map pO)
theorem flat_pO (o : List Nat) : flat (pO o) = true := by
  unfold pO flat
  exact flatA_map fun _ _ => rfl
abbrev sp_all_lots (T : List (Addr × Str)) (K : PySem.W.Frag) : Sp := Pr T (fun v : Nat => [dd (K := K) (.int v)]) (fun v => v ≤ 10) fun v y => y = dd (pLots (Lt.allLots v))
theorem sc_all_lots : FnScope ["many", "found", "person", "lot"] ["many"] (defScope (topS 32)) := ⟨rfl, rfl, rfl, by decide +kernel, rfl, by decide +kernel, by decide +kernel⟩
theorem d_all_lots (B : Bts mg) (C : Csts mg)  (R : Raw mg K "all_lots" (topS 32)) : Def P w K mg base 1 "all_lots" ["many"] (sp_all_lots T K) := by
  refine def_of R sc_all_lots (fun _ _ _ _ _ _ us hl => match us, hl with | [_], _ => rfl) (fun vs H Q E h => Pr.len (n := 1) (fun _ => rfl) h) fun f cdv A outer s H vs Q E hr h => ?_
  have nd := sc_all_lots.nd
  refine ⟨_, (pss_cons (ps_set (i := 1) nd rfl (Or.inl rfl) (pe_lst (pa_cons (pe_tup pa_nil) pa_nil)))
    (pss_cons (ps_for PassesOwn.never rfl (pi_range1 (by rfl) B.range (pa_cons (pv 0) pa_nil)) (pg_name (i := 2) nd rfl (Or.inr rfl) (Or.inl rfl))
     (pss_one (ps_set (i := 1) nd rfl (Or.inl rfl) (pe_op op_cat (pv 1) (pe_lc (own := [("lot", 3)]) rfl nd (w_piL (K := K) (by rfl) (pv 1)) (blkOk_by (by kernel_rfl)) (fun _ _ _ _ _ => (pg_name (i := 3) nd rfl (Or.inl rfl) (Or.inr rfl))) (fun _ _ _ _ _ => pts_nil) (fun _ _ _ _ _ => (pe_op (w_catA (K := K) (by rfl)) (pv 3) (pe_tup (pa_cons (pv 2) pa_nil)))))))))
    (pss_one (ps_ret (pv 1))))), body_ret h ?_⟩
  intro n hn
  have hn : n ≤ 10 := hn
  have hp : ∀ m, m ≤ n → 2 ^ m ≤ 1024 := fun m hm => Nat.le_trans (Nat.pow_le_pow_right (by omega) (by omega : m ≤ 10)) (by decide)
  let Γs : Nat → Gam K := fun i => [some (dd (.int n)), some (ll ((Lt.allLots i).map pO)), none, none]
  refine sr_seq (Γ1 := Γs 0) (sn_set (x := ll ((Lt.allLots 0).map pO)) (en_lst (ds := [.tuple []]) (ea1 (eg_tup (ds := []) ea_nil (by simp))) (by simp)).eg) ?_
  have hw : WG T (iRng1 (tCons (tVar 0) tNil)) (Γs 0) ((List.range n).map fun i => dd (K := K) (.int (i : Nat))) := wg_range1 (ea1 vr) (by omega)
  refine sr_seq (Γ1 := Γs n) ?_ (sr_ret (EG.ep (x := dd (pLots (Lt.allLots n))) (EG.ld (ds := (Lt.allLots n).map pO) (vr (i := 1))) rfl))
  have loop := sn_for (T := T) (g := gName 2) (vs := [2]) (t := tAsg (tOp rCat (tVar 1) (tLc (iList K (tVar 1)) (gName 3) tYes (tOp (rCatA K) (tVar 3) (tTup (tCons (tVar 2) tNil))) [3])) (gName 1)) Γs hw fun i y hy => ?_
  · rw [List.length_map, List.length_range] at loop
    exact loop
  · have hi : i < n := by
      have := (List.getElem?_eq_some_iff.mp hy).1
      simpa using this
    rw [List.getElem?_map, List.getElem?_range hi] at hy
    obtain rfl := (Option.some.inj hy).symm
    have l1 := lots_len i
    have l2 := hp i (by omega)
    refine ⟨_, gg_name (by simp), sn_sub (Γ2 := (([some (dd (.int n)), some (ll ((Lt.allLots i).map pO)), some (dd (.int (i : Nat))), none] : Gam K).set 1 (some (ll ((Lt.allLots (i + 1)).map pO))))) (sn_set ?_) ⟨rfl, fun j x e => ?_⟩⟩
    · have wl : WG T (iList K (tVar 1)) ([some (dd (.int n)), some (ll ((Lt.allLots i).map pO)), some (dd (.int (i : Nat))), none] : Gam K) (((Lt.allLots i).map pO).map dd) := wg_list (EG.ld vr)
      rw [List.map_map] at wl
      refine (eg_op vr (eg_lcA (l := Lt.allLots i) (enc := fun o => dd (K := K) (pO o)) (fun o => pO (o ++ [i])) wl (by omega) (fun _ _ => flat_pO _) fun o ho => ⟨_, gg_name (by simp), (eg_op (vr (x := dd (.tuple (o.map fun i => .int ((i : Nat) : Int))))) (eg_tup (ds := [_]) (ea1 vr) (by simp)) (rg_catT ?_)).is ?_⟩) (rg_cat ?_)).is ?_
      · have : ∀ (m : Nat) (o : List Nat), o ∈ Lt.allLots m → o.length ≤ m := by
          intro m
          induction m with
          | zero =>
            intro o ho
            simp [Lt.allLots] at ho
            simp [ho]
          | succ m ih =>
            intro o ho
            rcases List.mem_append.mp (show o ∈ Lt.allLots m ++ _ from ho) with h | h
            · have := ih o h; omega
            · obtain ⟨q, hq, rfl⟩ := List.mem_map.mp h
              have := ih q hq
              rw [List.length_append]
              simp
              omega
        have := this i o ho
        rw [List.length_map]
        simp
        omega
      · unfold pO
        rw [List.map_append]
        rfl
      · rw [List.length_map, List.length_map]
        omega
      · show ll _ = ll (((Lt.allLots i) ++ _).map pO)
        rw [List.map_append, List.map_map]
        rfl
    · match j, e with
      | 0, e => exact e
      | 1, e => exact e
      | 2, e => cases e
      | 3, e => cases e
      | j + 4, e => cases e
end Lw
set_option Elab.async false
set_option linter.all false
set_option maxRecDepth 100000
set_option maxHeartbeats 4000000
/-! the crowds' defs, to tower -/
namespace Lw
open PySem PySem.Spec PyProof.Rows L2
open LamX (ExtN Tabs TabS CodeO TabB)
open PySem.W (dataLe)
variable {P : Program} {w : World} {K : PySem.W.Frag} {mg : Str → Option Value} {base : Heap} {T : List (Addr × Str)}
theorem wf_ne {n g : Nat} {t : TT} (h : Lt.WF n g t) (hg : 1 ≤ g) : ∀ r ∈ t, r ≠ [] := fun r hr z => by
  have := h.2 r hr
  rw [z] at this
  simp at this
  omega
abbrev sp_crowd_of (T : List (Addr × Str)) (K : PySem.W.Frag) : Sp := Pr T (fun v : TT => [dd (K := K) (pT v)]) (fun v => v.length ≤ 1000 ∧ ∀ r ∈ v, r ≠ []) fun v y => y = dd (pT (Lt.crowd v))
theorem sc_crowd_of : FnScope ["table"] ["table"] (defScope (topS 35)) := ⟨rfl, rfl, rfl, by decide +kernel, rfl, by decide +kernel, by decide +kernel⟩
theorem d_crowd_of (B : Bts mg) (C : Csts mg)  (R : Raw mg K "crowd_of" (topS 35)) : Def P w K mg base 1 "crowd_of" ["table"] (sp_crowd_of T K) := by
  refine def_of R sc_crowd_of (fun _ _ _ _ _ _ us hl => match us, hl with | [_], _ => rfl) (fun vs H Q E h => Pr.len (n := 1) (fun _ => rfl) h) fun f cdv A outer s H vs Q E hr h => ?_
  have nd := sc_crowd_of.nd
  refine ⟨_, (pss_one (ps_ret (pe_callTy (w_tup (K := K) (by rfl)) (by rfl) B.tuple PyProof.Rows.boot_tuple (pa_cons (w_rev (K := K) (by rfl) (pe_callB (w_sortD (K := K) (by rfl) hr) (by rfl) B.sorted PyProof.Rows.boot_sorted (pa_cons (pv 0) pa_nil))) pa_nil)))), body_ret h ?_⟩
  rintro t ⟨h1, h2⟩
  refine sr_ret ((eg_tupO ((eg_rev (eg_cb (ea1 (vr (x := dd (.tuple (t.map pR))))) (cg_sorted (.inr rfl) (ok_rows (by omega) h2))).ld).ld.is ?_)).ep rfl)
  show dd _ = dd (PyData.list ((Lt.crowd t).map pR))
  rw [sort_rows, ← List.map_reverse]
  rfl

abbrev sp_crowd (T : List (Addr × Str)) (K : PySem.W.Frag) : Sp := Pr T (fun v : Nat × Nat × TT => [dd (K := K) (pT v.2.2)]) (fun v => TabOk v.1 v.2.1 v.2.2) fun v y => y = dd (pT (Lt.crowd v.2.2))
theorem sc_crowd : FnScope ["table"] ["table"] (defScope (topS 36)) := ⟨rfl, rfl, rfl, by decide +kernel, rfl, by decide +kernel, by decide +kernel⟩
theorem d_crowd (B : Bts mg) (C : Csts mg) (D_crowd_of : Def P w K mg base 1 "crowd_of" ["table"] (sp_crowd_of T K)) (D_need_table : Def P w K mg base 5 "need_table" ["table"] (sp_need_table T K)) (R : Raw mg K "crowd" (topS 36)) : Def P w K mg base 6 "crowd" ["table"] (sp_crowd T K) := by
  refine def_of R sc_crowd (fun _ _ _ _ _ _ us hl => match us, hl with | [_], _ => rfl) (fun vs H Q E h => Pr.len (n := 1) (fun _ => rfl) h) fun f cdv A outer s H vs Q E hr h => ?_
  have nd := sc_crowd.nd
  refine ⟨_, (pss_cons (ps_expr (pe_callD D_need_table hr (by decide) (by rfl) (pa_cons (pv 0) pa_nil)))
    (pss_one (ps_ret (pe_callD D_crowd_of hr (by decide) (by rfl) (pa_cons (pv 0) pa_nil))))), body_ret h ?_⟩
  rintro ⟨n, g, t⟩ ht
  have hl : t.length = n := ht.len
  have n6 : n ≤ 6 := ht.n6
  exact sr_seq (sn_drop (eg_call (n, g, t) (ea1 vr) ht)) (sr_ret ((eg_call t (ea1 vr) ⟨by omega, wf_ne ht.wf ht.w1⟩).ep rfl))

abbrev sp_laid (T : List (Addr × Str)) (K : PySem.W.Frag) : Sp := Pr T (fun v : TT × Nat × Nat => [dd (K := K) (pT v.1), dd (.int v.2.1), dd (.int v.2.2)]) (fun v => v.2.1 < v.1.length ∧ v.2.2 < v.1.length ∧ v.1.length ≤ 1000 ∧ ∀ r ∈ v.1, r.length ≤ 1000) fun v y => y = dd (pT (Lt.laid v.1 v.2.1 v.2.2))
theorem sc_laid : FnScope ["table", "one", "other", "high", "lesser", "pair", "at", "row"] ["table", "one", "other"] (defScope (topS 37)) := ⟨rfl, rfl, rfl, by decide +kernel, rfl, by decide +kernel, by decide +kernel⟩
theorem d_laid (B : Bts mg) (C : Csts mg)  (R : Raw mg K "laid" (topS 37)) : Def P w K mg base 1 "laid" ["table", "one", "other"] (sp_laid T K) := by
  refine def_of R sc_laid (fun _ _ _ _ _ _ us hl => match us, hl with | [_, _, _], _ => rfl) (fun vs H Q E h => Pr.len (n := 3) (fun _ => rfl) h) fun f cdv A outer s H vs Q E hr h => ?_
  have nd := sc_laid.nd
  refine ⟨_, (pss_cons (ps_set (i := 3) nd rfl (Or.inr rfl) (pe_callTy (w_tup (K := K) (by rfl)) (by rfl) B.tuple PyProof.Rows.boot_tuple (pa_cons (pe_lc (own := [("pair", 5)]) rfl nd (w_zip1 (K := K) (by rfl) (by rfl) B.zip (pa_cons (pe_ix (w_ixT (K := K) (by rfl)) (pv 0) (pv 1) (fun _ _ => rfl)) (pa_cons (pe_ix (w_ixT (K := K) (by rfl)) (pv 0) (pv 2) (fun _ _ => rfl)) pa_nil))) (blkOk_by (by kernel_rfl)) (fun _ _ _ _ _ => (pg_name (i := 5) nd rfl (Or.inl rfl) (Or.inr rfl))) (fun _ _ _ _ _ => pts_nil) (fun _ _ _ _ _ => (pe_callB (w_maxT (K := K) (by rfl) rfl hr) (by rfl) B.max PyProof.Rows.boot_max (pa_cons (pv 5) pa_nil)))) pa_nil)))
    (pss_cons (ps_set (i := 4) nd rfl (Or.inr rfl) (pe_callTy (w_tup (K := K) (by rfl)) (by rfl) B.tuple PyProof.Rows.boot_tuple (pa_cons (pe_lc (own := [("pair", 5)]) rfl nd (w_zip1 (K := K) (by rfl) (by rfl) B.zip (pa_cons (pe_ix (w_ixT (K := K) (by rfl)) (pv 0) (pv 1) (fun _ _ => rfl)) (pa_cons (pe_ix (w_ixT (K := K) (by rfl)) (pv 0) (pv 2) (fun _ _ => rfl)) pa_nil))) (blkOk_by (by kernel_rfl)) (fun _ _ _ _ _ => (pg_name (i := 5) nd rfl (Or.inl rfl) (Or.inr rfl))) (fun _ _ _ _ _ => pts_nil) (fun _ _ _ _ _ => (pe_callB (w_minT (K := K) (by rfl) rfl hr) (by rfl) B.min PyProof.Rows.boot_min (pa_cons (pv 5) pa_nil)))) pa_nil)))
    (pss_one (ps_ret (pe_callTy (w_tup (K := K) (by rfl)) (by rfl) B.tuple PyProof.Rows.boot_tuple (pa_cons (pe_lc (own := [("at", 6), ("row", 7)]) rfl nd (w_enum (K := K) (by rfl) (by rfl) B.enumerate (pa_cons (pv 0) pa_nil)) (blkOk_by (by kernel_rfl)) (fun _ _ _ _ _ => (w_gtup (K := K) (n := 2) (by rfl) rfl (pgs_cons (pg_name (i := 6) nd rfl (Or.inl rfl) (Or.inr rfl)) (pgs_cons (pg_name (i := 7) nd rfl (Or.inl rfl) (Or.inr rfl)) pgs_nil)))) (fun _ _ _ _ _ => pts_nil) (fun _ _ _ _ _ => (pe_ifExp (pt_cmpR (w_eqD (K := K) (by rfl) hr) (pv 6) (pv 1) (nomark _)) (pv 3) (pe_ifExp (pt_cmpR (w_eqD (K := K) (by rfl) hr) (pv 6) (pv 2) (nomark _)) (pv 4) (pv 7))))) pa_nil)))))), body_ret h ?_⟩
  rintro ⟨t, i, j⟩ ⟨hi, hj, hl, hr⟩
  have hi : i < t.length := hi
  have hj : j < t.length := hj
  have hl : t.length ≤ 1000 := hl
  have ri : (Lt.rw' t i).length ≤ 1000 := by rw [Lt.mem_row hi]; exact hr _ (List.getElem_mem hi)
  have rj : (Lt.rw' t j).length ≤ 1000 := by rw [Lt.mem_row hj]; exact hr _ (List.getElem_mem hj)
  have wz : ∀ Γ : Gam K, Γ[0]? = some (some (dd (pT t))) → Γ[1]? = some (some (dd (.int (i : Nat)))) → Γ[2]? = some (some (dd (.int (j : Nat)))) → WG T (iZip1 K (tCons (tOp (rIxT K) (tVar 0) (tVar 1)) (tCons (tOp (rIxT K) (tVar 0) (tVar 2)) tNil))) Γ (((Lt.rw' t i).zip (Lt.rw' t j)).map fun p => dd (K := K) (.tuple [.int p.1, .int p.2])) := fun Γ h0 h1 h2 => by
    have := wg_zip1 (T := T) (K := K) (Γ := Γ) (ds := (Lt.rw' t i).map .int) (es := (Lt.rw' t j).map .int) (ea2 (eg_row (eg_var h0) (eg_var h1) hi) (eg_row (eg_var h0) (eg_var h2) hj))
    rw [zip_enc] at this
    exact this
  refine sr_seq (sn_set (x := dd (pR (Lt.joinR (Lt.rw' t i) (Lt.rw' t j)))) (EG.is (eg_tupO (eg_lcA (l := (Lt.rw' t i).zip (Lt.rw' t j)) (enc := fun p => dd (K := K) (.tuple [.int p.1, .int p.2])) (fun p => .int (max p.1 p.2)) (wz _ rfl rfl rfl) (by rw [List.length_zip]; omega) (fun _ _ => rfl) fun p hp => ⟨_, gg_name (by simp), eg_cb (ea1 vr) cg_maxT⟩).ld) ?_)) ?_
  · unfold Lt.joinR pR
    rw [List.map_map]
    rfl
  refine sr_seq (sn_set (x := dd (pR (Lt.meetR (Lt.rw' t i) (Lt.rw' t j)))) (EG.is (eg_tupO (eg_lcA (l := (Lt.rw' t i).zip (Lt.rw' t j)) (enc := fun p => dd (K := K) (.tuple [.int p.1, .int p.2])) (fun p => .int (min p.1 p.2)) (wz _ rfl rfl rfl) (by rw [List.length_zip]; omega) (fun _ _ => rfl) fun p hp => ⟨_, gg_name (by simp), eg_cb (ea1 vr) cg_minT⟩).ld) ?_)) ?_
  · unfold Lt.meetR pR
    rw [List.map_map]
    rfl
  have hw := wg_enumT (T := T) (K := K) (Γ := ((startG 8 [dd (pT t), dd (.int (i : Nat)), dd (.int (j : Nat))]).set 3 (some (dd (pR (Lt.joinR (Lt.rw' t i) (Lt.rw' t j)))))).set 4 (some (dd (pR (Lt.meetR (Lt.rw' t i) (Lt.rw' t j)))))) (ds := t.map pR) (ea1 (vr (i := 0)))
  rw [enum_enc] at hw
  refine sr_ret (EG.ep (EG.is (eg_tupO (eg_lcA (l := (List.range t.length).zip t) (enc := fun p => dd (K := K) (.tuple [.int (p.1 : Nat), pR p.2])) (fun p => pR (if p.1 = i then Lt.joinR (Lt.rw' t i) (Lt.rw' t j) else if p.1 = j then Lt.meetR (Lt.rw' t i) (Lt.rw' t j) else p.2)) hw (by rw [List.length_zip, List.length_range]; omega) (fun _ _ => flat_pR _) fun p hp => ⟨_, gg_two (by simp) (by simp),
    eg_if (et_test (eg_eqI vr vr)) (fun e => ?_) fun e => eg_if (et_test (eg_eqI vr vr)) (fun e2 => ?_) fun e2 => ?_⟩).ld) ?_) rfl)
  · have e : p.1 = i := by have := of_decide_eq_true e; omega
    rw [if_pos e]
    exact vr (i := 3)
  · have e : ¬ p.1 = i := by have := of_decide_eq_false e; omega
    have e2 : p.1 = j := by have := of_decide_eq_true e2; omega
    rw [if_neg e, if_pos e2]
    exact vr (i := 4)
  · have e : ¬ p.1 = i := by have := of_decide_eq_false e; omega
    have e2 : ¬ p.1 = j := by have := of_decide_eq_false e2; omega
    rw [if_neg e, if_neg e2]
    exact vr (i := 7)
  · show dd (PyData.tuple _) = dd (PyData.tuple ((Lt.laid t i j).map pR))
    congr 2
    unfold Lt.laid
    apply List.ext_getElem (by simp)
    intro k h1 h2
    have hk : k < t.length := by simpa using h2
    simp [Lt.mem_row hk]

abbrev sp_tower_of (T : List (Addr × Str)) (K : PySem.W.Frag) : Sp := Pr T (fun v : Nat × Nat × TT => [dd (K := K) (pT v.2.2)]) (fun v => Lt.WF v.1 v.2.1 v.2.2 ∧ 1 ≤ v.1 ∧ v.1 ≤ 1000 ∧ v.2.1 ≤ 1000) fun v y => y = dd (pT (Lt.tower v.2.2))
theorem en_rev {Γ : Gam K} {te : TE} {ds : List PyData} (h : ED T te Γ (.list ds)) : EN T (tRevL K te) Γ ds.reverse := fun σ H ok Q q => h σ H ok _ fun v H1 n1 d => by
  obtain ⟨a, vs, rfl, hs, ha⟩ := dp_lst d
  refine ⟨a, vs, rfl, hs, fun p hp => ?_⟩
  have n : Nx T H1 (upd H1 p (.lst vs.reverse)) := Nx.new n1.tb hp
  exact q p _ _ (n1.trans n) (New.back n1.kp hp) upd_same (dpAll_mono n.kp _ _ (dpa_rev ha))
theorem sc_tower_of : FnScope ["table", "sides", "good", "at", "row", "side"] ["table"] (defScope (topS 39)) := ⟨rfl, rfl, rfl, by decide +kernel, rfl, by decide +kernel, by decide +kernel⟩
theorem d_tower_of (B : Bts mg) (C : Csts mg)  (R : Raw mg K "tower_of" (topS 39)) : Def P w K mg base 1 "tower_of" ["table"] (sp_tower_of T K) := by
  refine def_of R sc_tower_of (fun _ _ _ _ _ _ us hl => match us, hl with | [_], _ => rfl) (fun vs H Q E h => Pr.len (n := 1) (fun _ => rfl) h) fun f cdv A outer s H vs Q E hr h => ?_
  have nd := sc_tower_of.nd
  refine ⟨_, (pss_cons (ps_set (i := 1) nd rfl (Or.inr rfl) (pe_lc (own := [("good", 2)]) rfl nd (pi_range1 (by rfl) B.range (pa_cons (pe_callB (w_len (K := K) (by rfl)) (by rfl) B.len PySem.boot_len (pa_cons (pe_ix (w_ixT (K := K) (by rfl)) (pv 0) pe_int (fun _ _ => rfl)) pa_nil)) pa_nil)) (blkOk_by (by kernel_rfl)) (fun _ _ _ _ _ => (pg_name (i := 2) nd rfl (Or.inr rfl) (Or.inl rfl))) (fun _ _ _ _ _ => pts_nil) (fun _ _ _ _ _ => (w_rev (K := K) (by rfl) (pe_callB (w_sortD (K := K) (by rfl) hr) (by rfl) B.sorted PyProof.Rows.boot_sorted (pa_cons (pe_lc (own := [("row", 4)]) rfl nd (w_piT (K := K) (by rfl) (pv 0)) (blkOk_by (by kernel_rfl)) (fun _ _ _ _ _ => (pg_name (i := 4) nd rfl (Or.inl rfl) (Or.inr rfl))) (fun _ _ _ _ _ => pts_nil) (fun _ _ _ _ _ => (pe_ix (w_ixT (K := K) (by rfl)) (pv 4) (pv 2) (fun _ _ => rfl)))) pa_nil))))))
    (pss_one (ps_ret (pe_callTy (w_tup (K := K) (by rfl)) (by rfl) B.tuple PyProof.Rows.boot_tuple (pa_cons (pe_lc (own := [("at", 3)]) rfl nd (pi_range1 (by rfl) B.range (pa_cons (pe_callB (w_len (K := K) (by rfl)) (by rfl) B.len PySem.boot_len (pa_cons (pv 0) pa_nil)) pa_nil)) (blkOk_by (by kernel_rfl)) (fun _ _ _ _ _ => (pg_name (i := 3) nd rfl (Or.inr rfl) (Or.inl rfl))) (fun _ _ _ _ _ => pts_nil) (fun _ _ _ _ _ => (pe_callTy (w_tup (K := K) (by rfl)) (by rfl) B.tuple PyProof.Rows.boot_tuple (pa_cons (pe_lc (own := [("side", 5)]) rfl nd (w_piL (K := K) (by rfl) (pv 1)) (blkOk_by (by kernel_rfl)) (fun _ _ _ _ _ => (pg_name (i := 5) nd rfl (Or.inl rfl) (Or.inr rfl))) (fun _ _ _ _ _ => pts_nil) (fun _ _ _ _ _ => (pe_ix (w_ixL (K := K) (by rfl)) (pv 5) (pv 3) (fun _ _ => rfl)))) pa_nil)))) pa_nil))))), body_ret h ?_⟩
  rintro ⟨n, g, t⟩ ⟨ht, h1, hn, hg⟩
  have ht : Lt.WF n g t := ht
  have h1 : 1 ≤ n := h1
  have hn : n ≤ 1000 := hn
  have hg : g ≤ 1000 := hg
  have hl : t.length = n := ht.1
  have r0 : (Lt.rw' t 0).length = g := ht.row (by omega)
  have h0 : 0 < t.length := by omega
  have hw : ∀ Γ : Gam K, Γ[0]? = some (some (dd (pT t))) → WG T (iRng1 (tCons (tCB (rLenS K) (tCons (tOp (rIxT K) (tVar 0) (tC (.int 0))) tNil)) tNil)) Γ ((List.range g).map fun k => dd (K := K) (.int (k : Nat))) := fun Γ h0' => wg_range1 (ea1 ((eg_lenRow (eg_row (eg_var h0') (ed_int 0) h0)).is (by rw [r0]))) (by omega)
  have wt : ∀ Γ : Gam K, Γ[0]? = some (some (dd (pT t))) → WG T (iTup K (tVar 0)) Γ (t.map fun r => dd (K := K) (pR r)) := fun Γ h0 => by
    have := wg_tup (T := T) (ds := t.map pR) (eg_var h0)
    rw [List.map_map] at this
    exact this
  refine sr_seq (sn_set (x := ll ((List.range g).map fun k => .list ((Lt.sortD (Lt.col t k)).map .int))) (eg_lcL (l := List.range g) (enc := fun k => dd (K := K) (.int (k : Nat))) (fun k => (Lt.sortD (Lt.col t k)).map .int) (hw _ rfl) (by rw [List.length_range]; omega) (fun _ _ => flatA_map fun _ _ => rfl) fun k hk => ⟨_, gg_name (by simp), ?_⟩)) ?_
  · have hk' : k < g := List.mem_range.mp hk
    have lc := eg_lcA (T := T) (l := t) (enc := fun r => dd (K := K) (pR r)) (g := gName 4) (vs := [4]) (te := tOp (rIxT K) (tVar 4) (tVar 2)) (fun r => .int (Lt.hp r k)) (wt ((wipeG (startG 6 [dd (pT t)]) [2]).set 2 (some (dd (.int (k : Nat))))) rfl) (by omega) (fun _ _ => rfl) fun r hr => ⟨_, gg_name (by simp), eg_cell vr vr (by have := ht.2 r hr; omega)⟩
    have e : (t.map fun r => PyData.int (Lt.hp r k)) = (Lt.col t k).map PyData.int := by unfold Lt.col; rw [List.map_map]; rfl
    rw [e] at lc
    have so := eg_cb (ea1 lc.ld) (cg_sorted (.inl rfl) (ok_ints (l := Lt.col t k) (by unfold Lt.col; rw [List.length_map]; omega)))
    have rv := en_rev so.ld
    rw [sort_ints, ← List.map_reverse] at rv
    exact rv
  refine sr_ret (EG.ep (EG.is (eg_tupO (eg_lcA (l := List.range n) (enc := fun k => dd (K := K) (.int (k : Nat))) (fun k => pR ((List.range g).map fun q => (Lt.sortD (Lt.col t q)).getD k 0)) (wg_range1 (ea1 ((eg_lenTab vr).is (by rw [hl]))) (by omega)) (by rw [List.length_range]; omega) (fun _ _ => flat_pR _) fun k hk => ⟨_, gg_name (by simp), ?_⟩).ld) ?_) rfl)
  · have hk' : k < n := List.mem_range.mp hk
    have ws := wg_list (T := T) (K := K) (ds := (List.range g).map fun k => .list ((Lt.sortD (Lt.col t k)).map .int)) (EG.ld (vr (Γ := (wipeG ((startG 6 [dd (pT t)]).set 1 (some (ll ((List.range g).map fun k => .list ((Lt.sortD (Lt.col t k)).map .int))))) [3]).set 3 (some (dd (.int (k : Nat))))) (i := 1)))
    rw [List.map_map] at ws
    refine EG.is (eg_tupO (eg_lcA (l := List.range g) (enc := fun q => dd (K := K) (.list ((Lt.sortD (Lt.col t q)).map .int))) (fun q => .int ((Lt.sortD (Lt.col t q)).getD k 0)) ws (by rw [List.length_range]; omega) (fun _ _ => rfl) fun q hq => ⟨_, gg_name (by simp), eg_atL vr vr ?_⟩).ld) ?_
    · have hlq : k < (Lt.sortD (Lt.col t q)).length := by rw [Lt.sortD_len, Lt.col_len]; omega
      rw [List.getElem?_map, List.getElem?_eq_getElem hlq]
      simp [hlq]
    · unfold pR
      rw [List.map_map]
      rfl
  · show dd (PyData.tuple _) = dd (PyData.tuple ((Lt.tower t).map pR))
    unfold Lt.tower
    rw [List.map_map, r0, hl]
    rfl

abbrev sp_tower (T : List (Addr × Str)) (K : PySem.W.Frag) : Sp := Pr T (fun v : Nat × Nat × TT => [dd (K := K) (pT v.2.2)]) (fun v => TabOk v.1 v.2.1 v.2.2) fun v y => y = dd (pT (Lt.tower v.2.2))
theorem sc_tower : FnScope ["table"] ["table"] (defScope (topS 40)) := ⟨rfl, rfl, rfl, by decide +kernel, rfl, by decide +kernel, by decide +kernel⟩
theorem d_tower (B : Bts mg) (C : Csts mg) (D_need_table : Def P w K mg base 5 "need_table" ["table"] (sp_need_table T K)) (D_tower_of : Def P w K mg base 1 "tower_of" ["table"] (sp_tower_of T K)) (R : Raw mg K "tower" (topS 40)) : Def P w K mg base 6 "tower" ["table"] (sp_tower T K) := by
  refine def_of R sc_tower (fun _ _ _ _ _ _ us hl => match us, hl with | [_], _ => rfl) (fun vs H Q E h => Pr.len (n := 1) (fun _ => rfl) h) fun f cdv A outer s H vs Q E hr h => ?_
  have nd := sc_tower.nd
  refine ⟨_, (pss_cons (ps_expr (pe_callD D_need_table hr (by decide) (by rfl) (pa_cons (pv 0) pa_nil)))
    (pss_one (ps_ret (pe_callD D_tower_of hr (by decide) (by rfl) (pa_cons (pv 0) pa_nil))))), body_ret h ?_⟩
  rintro ⟨n, g, t⟩ ht
  exact sr_seq (sn_drop (eg_call (n, g, t) (ea1 vr) ht)) (sr_ret ((eg_call (n, g, t) (ea1 vr) ⟨ht.wf, ht.n1, ht.small.2⟩).ep rfl))
end Lw
set_option Elab.async false
set_option linter.all false
set_option maxRecDepth 100000
set_option maxHeartbeats 4000000
/-! the lays' defs that no search asks -/
namespace Lw
open PySem PySem.Spec PyProof.Rows L2
open LamX (ExtN Tabs TabS CodeO TabB)
open PySem.W (dataLe dataLt alike)
variable {P : Program} {w : World} {K : PySem.W.Frag} {mg : Str → Option Value} {base : Heap} {T : List (Addr × Str)}
/-! ### loops with what one will -/
theorem fa_for {wi : TI} {g : TG} {ts : TS} {ys : List (Dsc K)} {Γ : Gam K} {σ : L2.St} {H : Hp} {D : Ends} (hw : WQ T wi Γ ys) (ok : Ok T σ H Γ) (Pv : Hp → Nat → L2.St → Hp → Prop) (h0 : ∀ H1, Nx T H H1 → Pv H1 0 σ H1)
    (htk : ∀ H1, Nx T H H1 → ∀ i σ' H', Pv H1 i σ' H' → TK K H1 H' ∧ Tabs T H')
    (step : ∀ H1, Nx T H H1 → ∀ (i : Nat) (y : Dsc K) (σ' : L2.St) (H' : Hp) (v : V) (H'' : Hp), ys[i]? = some y → Pv H1 i σ' H' → Nx T H' H'' → y.den v H'' → g v σ' H'' fun σ2 H2 => ts { D with nx := Pv H1 (i + 1), ct := Pv H1 (i + 1), bk := D.nx } σ2 H2)
    (done : ∀ H1, Nx T H H1 → ∀ σ' H', Pv H1 ys.length σ' H' → D.nx σ' H') : tFor wi g ts D σ H := hw σ H ok _ fun J H1 n1 wk => by
  refine ⟨fun i m σ' H' => m = ys.length - i ∧ i ≤ ys.length ∧ Pv H1 i σ' H', ⟨ys.length, rfl, Nat.zero_le _, h0 H1 n1⟩, ?_⟩
  rintro i m σ' H' ⟨rfl, hi, pv⟩
  obtain ⟨tk, tb⟩ := htk H1 n1 i σ' H' pv
  by_cases hlt : i < ys.length
  · refine .inr ⟨wk.go i H' hlt tk tb, fun σ2 H2 => Pv H1 (i + 1) σ2 H2, fun σ2 H2 p2 => ⟨ys.length - (i + 1), by omega, rfl, hlt, p2⟩, fun x H2 yy => ?_⟩
    obtain ⟨n2, y, ey, dy⟩ := wk.yld i H' x H2 hlt tk tb yy
    exact step H1 n1 i y σ' H' x H2 ey pv n2 dy
  · have e : i = ys.length := by omega
    subst e
    exact .inl ⟨wk.stop H' tk, done H1 n1 σ' H' pv⟩
theorem wq_zip2 {Γ : Gam K} {ta : TA} {ds es : List PyData} (h : EA T ta Γ [dd (K := K) (.tuple ds), dd (.tuple es)]) (f1 : flatA ds = true) (f2 : flatA es = true) : WQ T (RZ.iZipA K ta) Γ ((ds.zip es).map fun p => dd (.tuple [p.1, p.2])) := fun σ H ok R r => h σ H ok _ fun vs H1 n1 d => by
  cases d with
  | cons d1 d =>
    cases d with
    | cons d2 d =>
      cases d
      obtain ⟨a, xs, rfl, s1, a1⟩ := dp_tup d1
      obtain ⟨b, ys, rfl, s2, a2⟩ := dp_tup d2
      have l1 := dpa_len a1
      have l2 := dpa_len a2
      refine ⟨a, b, xs, ys, rfl, .inr ⟨s1, s2, r _ H1 n1 ⟨fun i H hi k _ => ?_, fun H k => ⟨xs, ys, k _ _ s1, k _ _ s2, ?_⟩, fun i H v H' hi k tb y => ?_⟩⟩⟩
      · rw [List.length_map, List.length_zip] at hi
        exact ⟨xs, ys, xs[i]'(by omega), ys[i]'(by omega), k _ _ s1, k _ _ s2, List.getElem?_eq_getElem (by omega), List.getElem?_eq_getElem (by omega)⟩
      · rw [List.length_map, List.length_zip]
        omega
      · rw [List.length_map, List.length_zip] at hi
        obtain ⟨p, x, y, rfl, hp, rfl, g1, g2⟩ := y
        obtain ⟨d, e1, r1⟩ := dpa_atV (dpa_flat k _ _ f1 a1) (g1 xs (k _ _ s1))
        obtain ⟨e, e2, r2⟩ := dpa_atV (dpa_flat k _ _ f2 a2) (g2 ys (k _ _ s2))
        have nx : Nx T H (upd H p (.tup [x, y])) := Nx.new tb hp
        refine ⟨nx, dd (.tuple [d, e]), ?_, dp_newT upd_same (.cons (dp_mono nx.kp _ _ r1) (.cons (dp_mono nx.kp _ _ r2) .nil))⟩
        rw [List.getElem?_map, (List.getElem?_zip_eq_some (z := (d, e))).mpr ⟨e1, e2⟩]
        rfl
/-- a slot that holds the object at D -/
def isR (D : Addr) : Dsc K := ⟨fun v _ => v = .ref D, fun _ h => h⟩
theorem tst_isR (D : Addr) : Tst (isR (K := K) D) := fun v H H' k h => h
/-- all slots stay while tuples stay -/
def Fl (Γ : Gam K) : Prop := ∀ (i : Nat) (x : Dsc K), Γ[i]? = some (some x) → Tst x
theorem ok_tk {σ : L2.St} {H H' : Hp} {Γ : Gam K} (ok : Ok T σ H Γ) (f : Fl Γ) (k : TK K H H') (tb : Tabs T H') : Ok T σ H' Γ :=
  ⟨tb, ok.len, fun i x e => let ⟨v, a, b⟩ := ok.sl i x e; ⟨v, a, f i x e v H H' k b⟩⟩
theorem Fl.nil : Fl ([] : Gam K) := fun i x e => by simp at e
theorem Fl.none {Γ : Gam K} (h : Fl Γ) : Fl (none :: Γ) := fun i x e => by
  cases i with
  | zero => cases e
  | succ i => exact h i x e
theorem Fl.some {Γ : Gam K} {y : Dsc K} (t : Tst y) (h : Fl Γ) : Fl (some y :: Γ) := fun i x e => by
  cases i with
  | zero => cases e; exact t
  | succ i => exact h i x e
theorem Nx.tabL {H H1 : Hp} {D : Addr} {o : HO} {xs : List V} (t : Tabs T H) (h : H D = some (.lst xs)) : Tabs T (upd H D o) := by
  intro p hp
  obtain ⟨ps, a1, a2, a3⟩ := t p hp
  have nP : p.1 ≠ D := fun z => by
    rw [z, h] at a1
    cases a1
  refine ⟨ps, by rw [upd_ne nP]; exact a1, a2, fun pos cv hc => ?_⟩
  obtain ⟨c, e1, e2⟩ := a3 pos cv hc
  have nC : c ≠ D := fun z => by
    rw [z, h] at e2
    cases e2
  exact ⟨c, e1, by rw [upd_ne nC]; exact e2⟩
theorem ok_val {σ : L2.St} {H : Hp} {Γ : Gam K} {i : Nat} {x : Dsc K} (ok : Ok T σ H Γ) (h : Γ[i]? = some (some x)) : ∃ v, σ[i]? = some (some v) ∧ x.den v H := ok.sl i x h

theorem dpa_set {v : V} {d : PyData} {Hx : Hp} : ∀ {vs : List V} {ds : List PyData} (j : Nat), DpAll K Hx vs ds → Dp K Hx v d → DpAll K Hx (vs.set j v) (ds.set j d)
  | _, _, _, .nil, _ => .nil
  | _, _, 0, .cons _ b, h => .cons h b
  | _, _, j + 1, .cons a b, h => .cons a (dpa_set j b h)
/-! ### ordered -/
def ordD (t : TT) (o : List Nat) (i : Nat) : List PyData := (List.range o.length).map fun p => if o.idxOf p < i then pR (Lt.rw' t (o.idxOf p)) else .none
abbrev sp_ordered (T : List (Addr × Str)) (K : PySem.W.Frag) : Sp := Pr T (fun v : TT × List Nat => [dd (K := K) (pT v.1), dd (pO v.2)]) (fun v => Lt.IsOrd v.1.length v.2 ∧ v.1.length ≤ 1000) fun v y => y = dd (pT (Lt.placed v.1 v.2))
theorem ordD_set {n : Nat} {t : TT} {o : List Nat} (ho : Lt.IsOrd n o) (i : Nat) (hi : i < o.length) : (ordD t o i).set o[i] (pR (Lt.rw' t i)) = ordD t o (i + 1) := by
  have hoi : o[i] < o.length := by rw [ho.len]; exact ho.mem.mp (List.getElem_mem hi)
  apply List.ext_getElem (by simp [ordD])
  intro p h1 h2
  have hp : p < o.length := by simpa [ordD] using h2
  rw [List.getElem_set]
  by_cases e : o[i] = p
  · subst e
    simp only [if_true, ordD, List.getElem_map, List.getElem_range]
    rw [ho.idx_at hi]
    simp
  · rw [if_neg e]
    simp only [ordD, List.getElem_map, List.getElem_range]
    have hx : o.idxOf p ≠ i := fun z => e (by
      have hm : p ∈ o := ho.mem.mpr (by rw [← ho.len]; exact hp)
      have := List.getElem_idxOf (List.idxOf_lt_length_of_mem hm)
      simp only [z] at this
      exact this)
    by_cases h : o.idxOf p < i
    · rw [if_pos h, if_pos (by omega)]
    · rw [if_neg h, if_neg (by omega)]
theorem flat_ordD (t : TT) (o : List Nat) (i : Nat) : flatA (ordD t o i) = true := flatA_map fun p _ => by
  split
  · exact flat_pR _
  · rfl
theorem sc_ordered : FnScope ["rows", "order", "found", "row", "person"] ["rows", "order"] (defScope (topS 49)) := ⟨rfl, rfl, rfl, by decide +kernel, rfl, by decide +kernel, by decide +kernel⟩
theorem d_ordered (B : Bts mg) (C : Csts mg)  (R : Raw mg K "ordered" (topS 49)) : Def P w K mg base 1 "ordered" ["rows", "order"] (sp_ordered T K) := by
  refine def_of R sc_ordered (fun _ _ _ _ _ _ us hl => match us, hl with | [_, _], _ => rfl) (fun vs H Q E h => Pr.len (n := 2) (fun _ => rfl) h) fun f cdv A outer s H vs Q E hr h => ?_
  have nd := sc_ordered.nd
  refine ⟨_, (pss_cons (ps_set (i := 2) nd rfl (Or.inl rfl) (pe_op op_rep (pe_lst (pa_cons pe_non pa_nil)) (pe_callB (w_len (K := K) (by rfl)) (by rfl) B.len PySem.boot_len (pa_cons (pv 1) pa_nil))))
    (pss_cons (ps_for PassesOwn.never rfl (w_zip2 (K := K) (by rfl) (by rfl) B.zip (pa_cons (pv 0) (pa_cons (pv 1) pa_nil))) (w_gtup (K := K) (n := 2) (by rfl) rfl (pgs_cons (pg_name (i := 3) nd rfl (Or.inl rfl) (Or.inr rfl)) (pgs_cons (pg_name (i := 4) nd rfl (Or.inl rfl) (Or.inr rfl)) pgs_nil)))
     (pss_one (ps_asg (pv 3) (pg_sub (pv 2) (pv 4) set_list))))
    (pss_one (ps_ret (pe_callTy (w_tup (K := K) (by rfl)) (by rfl) B.tuple PyProof.Rows.boot_tuple (pa_cons (pv 2) pa_nil)))))), body_ret h ?_⟩
  rintro ⟨t, o⟩ ⟨ho, hn⟩
  have ho : Lt.IsOrd t.length o := ho
  have hn : t.length ≤ 1000 := hn
  have hol : o.length = t.length := ho.len
  intro D σ H0 ok k
  -- [None] * len(order)
  refine (show _ ∧ _ from ⟨by decide, fun l1 hl1 => ?_⟩)
  have n1 : Nx T H0 (upd H0 l1 (.lst [V.non])) := Nx.new ok.tb hl1
  refine (eg_lenOrd (T := T) (K := K) (Γ := [some (dd (pT t)), some (dd (pO o)), none, none, none]) (r := o) (vr (i := 1))) σ _ (ok.go n1) _ fun v H2 n2 d2 => ?_
  have ev := dp_int d2
  subst ev
  have h2l : H2 l1 = some (.lst [V.non]) := n2.kp l1 _ upd_same nl
  refine ⟨l1, (o.length : Nat), [V.non], rfl, rfl, h2l, by omega, by omega, ?_, fun Dl hD => ?_⟩
  · rw [sizeLine_eq]
    simp
    omega
  have rep : (List.replicate ((o.length : Nat) : Int).toNat [V.non]).flatten = List.replicate o.length V.non := by
    rw [Int.toNat_natCast]
    induction o.length with
    | zero => rfl
    | succ m ih =>
      rw [List.replicate_succ, List.flatten_cons, ih, List.replicate_succ]
      rfl
  rw [rep]
  have n3 : Nx T H2 (upd H2 Dl (.lst (List.replicate o.length V.non))) := Nx.new n2.tb hD
  have n03 := n1.trans (n2.trans n3)
  have fresh : New H0 Dl := New.back (n1.trans n2).kp hD
  generalize hH3 : upd H2 Dl (.lst (List.replicate o.length V.non)) = H3 at n3 n03
  have hD3 : H3 Dl = some (.lst (List.replicate o.length V.non)) := by rw [← hH3]; exact upd_same
  have ok3 : Ok T (σ.set 2 (some (.ref Dl))) H3 ([some (dd (pT t)), some (dd (pO o)), some (isR Dl), none, none] : Gam K) := (ok.go n03).set (x := isR Dl) 2 rfl
  have fl : Fl ([some (dd (pT t)), some (dd (pO o)), some (isR Dl), none, none] : Gam K) := .some (tst_flat (flat_pT t)) (.some (tst_flat (flat_pO o)) (.some (tst_isR Dl) (.none (.none .nil))))
  have hw := wq_zip2 (T := T) (K := K) (Γ := ([some (dd (pT t)), some (dd (pO o)), some (isR Dl), none, none] : Gam K)) (ds := t.map pR) (es := o.map fun i => .int ((i : Nat) : Int)) (ea2 (vr (i := 0)) (vr (i := 1))) (flatA_map fun r _ => flat_pR r) (flatA_map fun _ _ => rfl)
  rw [zip_enc] at hw
  refine fa_for hw ok3 (fun H1 i σ' H' => Ok T σ' H' ([some (dd (pT t)), some (dd (pO o)), some (isR Dl), none, none] : Gam K) ∧ Nx T H0 H' ∧ TK K H1 H' ∧ ∃ us, H' Dl = some (.lst us) ∧ DpAll K H' us (ordD t o i)) (fun H1 nn => ⟨ok3.go nn, n03.trans nn, fun _ _ h => h, _, nn.kp Dl _ hD3 nl, ?_⟩) (fun H1 nn i σ' H' h => ⟨h.2.2.1, h.1.tb⟩) (fun H1 nn i y σ' H' v H'' hy ⟨ok4, n4, tk4, us, hu, hd⟩ n5 dv => ?_) (fun H1 nn σ' H' ⟨ok4, n4, tk4, us, hu, hd⟩ => ?_)
  · have e0 : ordD t o 0 = List.replicate o.length .none := by
      unfold ordD
      have : ∀ l : List Nat, (l.map fun p => if o.idxOf p < 0 then pR (Lt.rw' t (o.idxOf p)) else .none) = List.replicate l.length PyData.none := fun l => by
        induction l with
        | nil => rfl
        | cons a l ih => rw [List.map_cons, ih, if_neg (Nat.not_lt_zero _)]; rfl
      rw [this, List.length_range]
    rw [e0]
    have : ∀ m, DpAll K H1 (List.replicate m V.non) (List.replicate m PyData.none) := fun m => by
      induction m with
      | zero => exact .nil
      | succ m ih => exact .cons .non ih
    exact this _
  · have hil : i < t.length ∧ i < o.length := by
      have := (List.getElem?_eq_some_iff.mp hy).1
      rw [List.length_map, List.length_zip] at this
      omega
    have ey : y = dd (.tuple [pR (Lt.rw' t i), .int ((o[i] : Nat) : Int)]) := by
      rw [List.getElem?_map, List.getElem?_eq_getElem (by rw [List.length_zip]; omega), List.getElem_zip] at hy
      rw [Lt.mem_row hil.1]
      exact (Option.some.inj hy).symm
    subst ey
    have hu5 : H'' Dl = some (.lst us) := n5.kp Dl _ hu nl
    refine gg_two (vs := [3, 4]) (by simp) (by simp) v σ' H'' (ok4.go n5) dv _ fun σ6 ok6 _ => ?_
    obtain ⟨v3, e3, d3⟩ := ok_val ok6 (i := 3) rfl
    obtain ⟨v2, e2, d2⟩ := ok_val ok6 (i := 2) rfl
    obtain ⟨v4, e4, d4⟩ := ok_val ok6 (i := 4) rfl
    have e2' : v2 = .ref Dl := d2
    have e4' := dp_int d4
    subst e2' e4'
    have hlen : us.length = o.length := by rw [dpa_len hd]; simp [ordD]
    have hoi : o[i] < us.length := Nat.lt_of_lt_of_eq (ho.mem.mp (List.getElem_mem hil.2)) (by omega)
    refine ⟨v3, e3, .ref Dl, e2, .int ((o[i] : Nat) : Int), e4, Dl, us, _, o[i], rfl, rfl, hu5, ?_, ?_⟩
    · unfold ixN
      rw [if_pos (by omega), if_pos (by omega)]
      simp
    · have ok7 : Ok T σ6 H'' ([some (dd (pT t)), some (dd (pO o)), some (isR Dl), none, none] : Gam K) := ok6.weak rfl fun j x e => by
        match j, e with
        | 0, e => exact e
        | 1, e => exact e
        | 2, e => exact e
        | 3, e => cases e
        | 4, e => cases e
        | j + 5, e => cases e
      have nn5 := n4.trans n5
      have tb8 : Tabs T (upd H'' Dl (.lst (us.set o[i] v3))) := Nx.tabL (H1 := H'') n5.tb hu5
      refine ⟨ok_tk ok7 fl (sqT_updL hu5) tb8, ⟨fun b u e n => ?_, tb8⟩, fun b xs h => sqT_updL hu5 _ _ (tk_of n5.kp _ _ (tk4 _ _ h)), _, upd_same, ?_⟩
      · rw [upd_ne (fresh b u e n)]
        exact nn5.kp b u e n
      · rw [← ordD_set ho i hil.2]
        have d5 := dpa_flat (sqT_updL (o := .lst (us.set o[i] v3)) hu5) _ _ (flat_ordD t o i) (dpAll_mono n5.kp _ _ hd)
        have dv3 := dp_flat (sqT_updL (o := .lst (us.set o[i] v3)) hu5) _ _ (flat_pR _) d3
        exact dpa_set _ d5 dv3
  · rw [List.length_map, List.length_zip] at hd
    have em : min t.length o.length = o.length := by omega
    rw [em] at hd
    obtain ⟨v2, e2, d2⟩ := ok_val ok4 (i := 2) rfl
    have e2' : v2 = .ref Dl := d2
    subst e2'
    refine ⟨.ref Dl, e2, Dl, us, rfl, .inl ⟨.inl (.inl hu), fun l hl => ?_⟩⟩
    have n9 : Nx T H' (upd H' l (.tup us)) := Nx.new ok4.tb hl
    refine k (dd (pT (Lt.placed t o))) _ _ rfl (n4.trans n9) (dp_newT upd_same ?_)
    have ef : ordD t o o.length = (Lt.placed t o).map pR := by
      unfold ordD Lt.placed
      rw [List.map_map]
      refine List.map_congr_left fun p hp => ?_
      have hp' : p < o.length := List.mem_range.mp hp
      have hm : p ∈ o := ho.mem.mpr (by rw [← hol]; exact hp')
      rw [if_pos (List.idxOf_lt_length_of_mem hm)]
      rfl
    rw [← ef]
    exact dpAll_mono n9.kp _ _ hd
end Lw
set_option Elab.async false
set_option linter.all false
set_option maxRecDepth 100000
set_option maxHeartbeats 4000000
/-! more of the lays' defs: lay, in_order, the helpers -/
namespace Lw
open PySem PySem.Spec PyProof.Rows L2
open LamX (ExtN Tabs TabS CodeO TabB)
open PySem.W (dataLe dataLt alike alikeAll)
variable {P : Program} {w : World} {K : PySem.W.Frag} {mg : Str → Option Value} {base : Heap} {T : List (Addr × Str)}
abbrev sp_lay (T : List (Addr × Str)) (K : PySem.W.Frag) : Sp := Pr T (fun v : Nat × Nat × TT × Nat × Nat => [dd (K := K) (pT v.2.2.1), dd (.int v.2.2.2.1), dd (.int v.2.2.2.2)]) (fun v => TabOk v.1 v.2.1 v.2.2.1 ∧ v.2.2.2.1 < v.1 ∧ v.2.2.2.2 < v.1 ∧ v.2.2.2.1 ≠ v.2.2.2.2) fun v y => y = dd (pT (Lt.laid v.2.2.1 v.2.2.2.1 v.2.2.2.2))
theorem TabOk.laidPre {n g : Nat} {t : TT} (h : TabOk n g t) {a b : Nat} (ha : a < n) (hb : b < n) : a < t.length ∧ b < t.length ∧ t.length ≤ 1000 ∧ ∀ r ∈ t, r.length ≤ 1000 := by
  have h1 := h.len
  have h2 := h.n6
  have h3 := h.w5
  exact ⟨by omega, by omega, by omega, fun r hr => by have := (h.rows r hr).1; omega⟩
theorem sc_lay : FnScope ["table", "one", "other"] ["table", "one", "other"] (defScope (topS 47)) := ⟨rfl, rfl, rfl, by decide +kernel, rfl, by decide +kernel, by decide +kernel⟩
theorem d_lay (B : Bts mg) (C : Csts mg) (D_laid : Def P w K mg base 1 "laid" ["table", "one", "other"] (sp_laid T K)) (D_need_two : Def P w K mg base 6 "need_two" ["table", "one", "other"] (sp_need_two T K)) (R : Raw mg K "lay" (topS 47)) : Def P w K mg base 7 "lay" ["table", "one", "other"] (sp_lay T K) := by
  refine def_of R sc_lay (fun _ _ _ _ _ _ us hl => match us, hl with | [_, _, _], _ => rfl) (fun vs H Q E h => Pr.len (n := 3) (fun _ => rfl) h) fun f cdv A outer s H vs Q E hr h => ?_
  have nd := sc_lay.nd
  refine ⟨_, (pss_cons (ps_expr (pe_callD D_need_two hr (by decide) (by rfl) (pa_cons (pv 0) (pa_cons (pv 1) (pa_cons (pv 2) pa_nil)))))
    (pss_one (ps_ret (pe_callD D_laid hr (by decide) (by rfl) (pa_cons (pv 0) (pa_cons (pv 1) (pa_cons (pv 2) pa_nil))))))), body_ret h ?_⟩
  rintro ⟨n, g, t, a, b⟩ ⟨ht, ha, hb, hab⟩
  exact sr_seq (sn_drop (eg_call (n, g, t, a, b) (ea3 vr vr vr) ⟨ht, ha, hb, hab⟩)) (sr_ret ((eg_call (t, a, b) (ea3 vr vr vr) (ht.laidPre ha hb)).ep rfl))

abbrev sp_in_order (T : List (Addr × Str)) (K : PySem.W.Frag) : Sp := Pr T (fun v : Nat × Nat × TT × List Nat => [dd (K := K) (pT v.2.2.1), dd (pO v.2.2.2)]) (fun v => TabOk v.1 v.2.1 v.2.2.1 ∧ Lt.IsOrd v.1 v.2.2.2) fun v y => y = dd (pT (Lt.placed (Lt.tower v.2.2.1) v.2.2.2))
theorem sc_in_order : FnScope ["table", "order"] ["table", "order"] (defScope (topS 48)) := ⟨rfl, rfl, rfl, by decide +kernel, rfl, by decide +kernel, by decide +kernel⟩
theorem d_in_order (B : Bts mg) (C : Csts mg) (D_need_order : Def P w K mg base 3 "need_order" ["table", "order"] (sp_need_order T K)) (D_need_table : Def P w K mg base 5 "need_table" ["table"] (sp_need_table T K)) (D_ordered : Def P w K mg base 1 "ordered" ["rows", "order"] (sp_ordered T K)) (D_tower_of : Def P w K mg base 1 "tower_of" ["table"] (sp_tower_of T K)) (R : Raw mg K "in_order" (topS 48)) : Def P w K mg base 6 "in_order" ["table", "order"] (sp_in_order T K) := by
  refine def_of R sc_in_order (fun _ _ _ _ _ _ us hl => match us, hl with | [_, _], _ => rfl) (fun vs H Q E h => Pr.len (n := 2) (fun _ => rfl) h) fun f cdv A outer s H vs Q E hr h => ?_
  have nd := sc_in_order.nd
  refine ⟨_, (pss_cons (ps_expr (pe_callD D_need_table hr (by decide) (by rfl) (pa_cons (pv 0) pa_nil)))
    (pss_cons (ps_expr (pe_callD D_need_order hr (by decide) (by rfl) (pa_cons (pv 0) (pa_cons (pv 1) pa_nil))))
    (pss_one (ps_ret (pe_callD D_ordered hr (by decide) (by rfl) (pa_cons (pe_callD D_tower_of hr (by decide) (by rfl) (pa_cons (pv 0) pa_nil)) (pa_cons (pv 1) pa_nil))))))), body_ret h ?_⟩
  rintro ⟨n, g, t, o⟩ ⟨ht, ho⟩
  have hl : t.length = n := ht.len
  have n6 : n ≤ 6 := ht.n6
  have ho : Lt.IsOrd n o := ho
  exact sr_seq (sn_drop (eg_call (n, g, t) (ea1 vr) ht)) (sr_seq (sn_drop (eg_call (t, o) (ea2 vr vr) ⟨by rw [hl]; exact ho, (show t.length ≤ 1000 by omega)⟩)) (sr_ret ((eg_call (Lt.tower t, o) (ea2 (eg_call (n, g, t) (ea1 vr) ⟨ht.wf, ht.n1, ht.small.2⟩) vr) ⟨by rw [Lt.tower_len, hl]; exact ho, by rw [Lt.tower_len]; omega⟩).ep rfl)))

abbrev sp_best_row (T : List (Addr × Str)) (K : PySem.W.Frag) : Sp := Pr T (fun v : Nat × Nat × TT × List Nat => [dd (K := K) (pT v.2.2.1), dd (pO v.2.2.2)]) (fun v => Lt.WF v.1 v.2.1 v.2.2.1 ∧ v.2.1 ≤ 1000 ∧ v.2.2.2 ≠ [] ∧ (∀ p ∈ v.2.2.2, p < v.1) ∧ v.2.2.2.length ≤ 1000) fun v y => y = dd (pR (Lt.bestRow v.2.2.1 v.2.2.2))
theorem sc_best_row : FnScope ["table", "lot", "good", "person"] ["table", "lot"] (defScope (topS 54)) := ⟨rfl, rfl, rfl, by decide +kernel, rfl, by decide +kernel, by decide +kernel⟩
theorem d_best_row (B : Bts mg) (C : Csts mg)  (R : Raw mg K "best_row" (topS 54)) : Def P w K mg base 1 "best_row" ["table", "lot"] (sp_best_row T K) := by
  refine def_of R sc_best_row (fun _ _ _ _ _ _ us hl => match us, hl with | [_, _], _ => rfl) (fun vs H Q E h => Pr.len (n := 2) (fun _ => rfl) h) fun f cdv A outer s H vs Q E hr h => ?_
  have nd := sc_best_row.nd
  refine ⟨_, (pss_one (ps_ret (pe_callTy (w_tup (K := K) (by rfl)) (by rfl) B.tuple PyProof.Rows.boot_tuple (pa_cons (pe_lc (own := [("good", 2)]) rfl nd (pi_range1 (by rfl) B.range (pa_cons (pe_callB (w_len (K := K) (by rfl)) (by rfl) B.len PySem.boot_len (pa_cons (pe_ix (w_ixT (K := K) (by rfl)) (pv 0) pe_int (fun _ _ => rfl)) pa_nil)) pa_nil)) (blkOk_by (by kernel_rfl)) (fun _ _ _ _ _ => (pg_name (i := 2) nd rfl (Or.inr rfl) (Or.inl rfl))) (fun _ _ _ _ _ => pts_nil) (fun _ _ _ _ _ => (pe_callB (w_maxL (K := K) (by rfl) rfl) (by rfl) B.max PyProof.Rows.boot_max (pa_cons (pe_lc (own := [("person", 3)]) rfl nd (w_piT (K := K) (by rfl) (pv 1)) (blkOk_by (by kernel_rfl)) (fun _ _ _ _ _ => (pg_name (i := 3) nd rfl (Or.inl rfl) (Or.inr rfl))) (fun _ _ _ _ _ => pts_nil) (fun _ _ _ _ _ => (pe_ix (w_ixT (K := K) (by rfl)) (pe_ix (w_ixT (K := K) (by rfl)) (pv 0) (pv 3) (fun _ _ => rfl)) (pv 2) (fun _ _ => rfl)))) pa_nil)))) pa_nil)))), body_ret h ?_⟩
  rintro ⟨n, g, t, lot⟩ ⟨ht, hg, hne, hlt, hll⟩
  have ht : Lt.WF n g t := ht
  have hg : g ≤ 1000 := hg
  have hlt : ∀ p ∈ lot, p < n := hlt
  have hll : lot.length ≤ 1000 := hll
  have hne : lot ≠ [] := hne
  have hn : 0 < n := by
    cases lot with
    | nil => exact absurd rfl hne
    | cons p l => have := hlt p List.mem_cons_self; omega
  have hl : t.length = n := ht.1
  have h0 : 0 < t.length := by omega
  have r0 : (Lt.rw' t 0).length = g := ht.row hn
  refine sr_ret (EG.ep (EG.is (eg_tupO (eg_lcA (l := List.range g) (enc := fun k => dd (K := K) (.int (k : Nat))) (fun k => .int (Lt.maxL (lot.map fun p => Lt.hp (Lt.rw' t p) k))) (wg_range1 (ea1 ((eg_lenRow (eg_row vr (ed_int 0) h0)).is (by rw [r0]))) (by omega)) (by rw [List.length_range]; omega) (fun _ _ => rfl) fun k hk => ⟨_, gg_name (by simp), ?_⟩).ld) ?_) rfl)
  · have hk' : k < g := List.mem_range.mp hk
    have ws := wg_tup (T := T) (K := K) (ds := lot.map fun i => .int ((i : Nat) : Int)) (vr (Γ := (wipeG (startG 4 [dd (pT t), dd (pO lot)]) [2]).set 2 (some (dd (.int (k : Nat))))) (i := 1))
    rw [List.map_map] at ws
    have lc := eg_lcA (T := T) (l := lot) (enc := fun p => dd (K := K) (.int ((p : Nat) : Int))) (g := gName 3) (vs := [3]) (te := tOp (rIxT K) (tOp (rIxT K) (tVar 0) (tVar 3)) (tVar 2)) (fun p => .int (Lt.hp (Lt.rw' t p) k)) ws (by omega) (fun _ _ => rfl) fun p hp => ⟨_, gg_name (by simp), eg_cell (eg_row vr vr (by rw [hl]; exact hlt p hp)) vr (by rw [ht.row (hlt p hp)]; exact hk')⟩
    have e : (lot.map fun p => PyData.int (Lt.hp (Lt.rw' t p) k)) = (lot.map fun p => Lt.hp (Lt.rw' t p) k).map PyData.int := by rw [List.map_map]; rfl
    rw [e] at lc
    refine eg_cb (ea1 lc.ld) (cg_maxL ?_ fun m hm hle => Lt.maxL_unique hm hle)
    rw [List.length_map]
    exact List.length_pos_iff.mpr hne
  · show dd (PyData.tuple _) = dd (PyData.tuple ((Lt.bestRow t lot).map .int))
    unfold Lt.bestRow
    rw [List.map_map, r0]
    rfl

/-! ### the helpers -/
theorem lot_len : ∀ (n : Nat) {lot : List Nat}, lot ∈ Lt.allLots n → lot.length ≤ n := by
  intro m
  induction m with
  | zero =>
    intro o ho
    simp [Lt.allLots] at ho
    simp [ho]
  | succ m ih =>
    intro o ho
    rcases List.mem_append.mp (show o ∈ Lt.allLots m ++ _ from ho) with h | h
    · have := ih h; omega
    · obtain ⟨q, hq, rfl⟩ := List.mem_map.mp h
      have := ih hq
      rw [List.length_append]
      simp
      omega
def lenD (o : List Nat) : PyData := .tuple [.int ((o.length : Nat) : Int), pO o]
open Classical in
noncomputable def hStep (t : TT) (p : Nat) (b : Option (List Nat)) (lot : List Nat) : Option (List Nat) :=
  if Lt.Valid t p lot then (match b with
    | none => some lot
    | some c => if dataLt (lenD lot) (lenD c) = true then some lot else some c) else b
noncomputable def hBest (t : TT) (p : Nat) (l : List (List Nat)) : Option (List Nat) := l.foldl (hStep t p) none
def optO : Option (List Nat) → PyData
  | none => .none
  | some o => pO o
theorem pO_pR (a : List Nat) : pO a = pR (a.map fun i => ((i : Nat) : Int)) := by
  unfold pO pR
  rw [List.map_map]
  rfl
theorem alike_pO (a b : List Nat) : alike (pO a) (pO b) = true := by
  rw [pO_pR, pO_pR]
  exact alike_pR _ _
theorem len_lt {a b : List Nat} (h : dataLt (lenD a) (lenD b) = true) : a.length ≤ b.length := by
  have e : dataLt (lenD a) (lenD b) = _ := PySem.W.dataLt_pair (x := .int ((a.length : Nat) : Int)) (x' := .int ((b.length : Nat) : Int)) (y := pO a) (y' := pO b) (by simp [alike]) (alike_pO a b)
  rw [e] at h
  split at h
  · rename_i q
    have q' : ((a.length : Nat) : Int) = ((b.length : Nat) : Int) := by simpa [PyData.eqv] using q
    omega
  · rw [PySem.W.dataLt_int] at h
    have := of_decide_eq_true h
    omega
theorem len_nlt {a b : List Nat} (h : dataLt (lenD a) (lenD b) = false) : b.length ≤ a.length := by
  have e : dataLt (lenD a) (lenD b) = _ := PySem.W.dataLt_pair (x := .int ((a.length : Nat) : Int)) (x' := .int ((b.length : Nat) : Int)) (y := pO a) (y' := pO b) (by simp [alike]) (alike_pO a b)
  rw [e] at h
  split at h
  · rename_i q
    have q' : ((a.length : Nat) : Int) = ((b.length : Nat) : Int) := by simpa [PyData.eqv] using q
    omega
  · rw [PySem.W.dataLt_int] at h
    have := of_decide_eq_false h
    omega
/-- the fold's result is a shortest valid lot -/
theorem hBest_ok {t : TT} {p : Nat} (l : List (List Nat)) : (hBest t p l = none → ∀ lot ∈ l, ¬ Lt.Valid t p lot) ∧ ∀ c, hBest t p l = some c → c ∈ l ∧ Lt.Valid t p c ∧ ∀ lot ∈ l, Lt.Valid t p lot → c.length ≤ lot.length := by
  have key : ∀ (l pre : List (List Nat)) (b : Option (List Nat)), ((b = none → ∀ lot ∈ pre, ¬ Lt.Valid t p lot) ∧ ∀ c, b = some c → c ∈ pre ∧ Lt.Valid t p c ∧ ∀ lot ∈ pre, Lt.Valid t p lot → c.length ≤ lot.length) →
      ((l.foldl (hStep t p) b = none → ∀ lot ∈ pre ++ l, ¬ Lt.Valid t p lot) ∧ ∀ c, l.foldl (hStep t p) b = some c → c ∈ pre ++ l ∧ Lt.Valid t p c ∧ ∀ lot ∈ pre ++ l, Lt.Valid t p lot → c.length ≤ lot.length) := by
    intro l
    induction l with
    | nil => intro pre b h; simpa using h
    | cons x l ih =>
      intro pre b h
      rw [List.foldl_cons]
      have := ih (pre ++ [x]) (hStep t p b x) ?_
      · simpa using this
      · unfold hStep
        by_cases hv : Lt.Valid t p x
        · rw [if_pos hv]
          cases b with
          | none =>
            refine ⟨fun z => (by cases z), fun c hc => ?_⟩
            have hc : some x = some c := hc
            cases hc
            refine ⟨by simp, hv, fun lot hl hvl => ?_⟩
            rcases List.mem_append.mp hl with hl | hl
            · exact absurd hvl (h.1 rfl lot hl)
            · rw [List.mem_singleton.mp hl]
              exact Nat.le_refl _
          | some c0 =>
            obtain ⟨a1, a2, a3⟩ := h.2 c0 rfl
            by_cases hd : dataLt (lenD x) (lenD c0) = true
            · refine ⟨fun z => (by simp [hd] at z), fun c hc => ?_⟩
              have hc : c = x := by simp [hd] at hc; exact hc.symm
              subst hc
              refine ⟨by simp, hv, fun lot hl hvl => ?_⟩
              have := len_lt hd
              rcases List.mem_append.mp hl with hl | hl
              · have := a3 lot hl hvl; omega
              · rw [List.mem_singleton.mp hl]
                exact Nat.le_refl _
            · have hd' : dataLt (lenD x) (lenD c0) = false := by simpa using hd
              refine ⟨fun z => (by simp [hd'] at z), fun c hc => ?_⟩
              have hc : c = c0 := by simp [hd'] at hc; exact hc.symm
              subst hc
              refine ⟨List.mem_append_left _ a1, a2, fun lot hl hvl => ?_⟩
              rcases List.mem_append.mp hl with hl | hl
              · exact a3 lot hl hvl
              · rw [List.mem_singleton.mp hl]
                exact len_nlt hd'
        · rw [if_neg hv]
          refine ⟨fun z lot hl => ?_, fun c hc => ?_⟩
          · rcases List.mem_append.mp hl with hl | hl
            · exact h.1 z lot hl
            · rw [List.mem_singleton.mp hl]; exact hv
          · obtain ⟨a1, a2, a3⟩ := h.2 c hc
            refine ⟨List.mem_append_left _ a1, a2, fun lot hl hvl => ?_⟩
            rcases List.mem_append.mp hl with hl | hl
            · exact a3 lot hl hvl
            · rw [List.mem_singleton.mp hl] at hvl
              exact absurd hvl hv
  have := key l [] none ⟨fun _ lot hl => (by cases hl), fun c hc => (by cases hc)⟩
  unfold hBest
  simpa using this
abbrev HelpsOk (t : TT) (p : Nat) (c : List Nat) : Prop := ∀ lot ∈ Lt.allLots t.length, Lt.Valid t p lot → c.length ≤ lot.length
abbrev sp_helpers_of (T : List (Addr × Str)) (K : PySem.W.Frag) : Sp := Pr T (fun v : Nat × Nat × TT × Nat => [dd (K := K) (pT v.2.2.1), dd (.int v.2.2.2)]) (fun v => Lt.WF v.1 v.2.1 v.2.2.1 ∧ 1 ≤ v.1 ∧ v.1 ≤ 10 ∧ v.2.1 ≤ 1000 ∧ v.2.2.2 < v.1 ∧ ∃ lot ∈ Lt.allLots v.1, Lt.Valid v.2.2.1 v.2.2.2 lot) fun v y => ∃ c, y = dd (pO c) ∧ HelpsOk v.2.2.1 v.2.2.2 c
theorem dp_lenD (o : List Nat) : (lenD o).depth ≤ 8 := by
  have := dp_pO o
  simp only [lenD, PyData.depth, PyData.depthAll]
  omega
theorem alike_lenD (a b : List Nat) : alike (lenD a) (lenD b) = true := by
  have h := alike_pO a b
  unfold lenD
  simp [alike, alikeAll, h]
theorem sc_helpers_of : FnScope ["table", "person", "top", "best", "lot"] ["table", "person"] (defScope (topS 53)) := ⟨rfl, rfl, rfl, by decide +kernel, rfl, by decide +kernel, by decide +kernel⟩
theorem d_helpers_of (B : Bts mg) (C : Csts mg) (D_all_lots : Def P w K mg base 1 "all_lots" ["many"] (sp_all_lots T K)) (D_best_row : Def P w K mg base 1 "best_row" ["table", "lot"] (sp_best_row T K)) (D_tower_of : Def P w K mg base 1 "tower_of" ["table"] (sp_tower_of T K)) (R : Raw mg K "helpers_of" (topS 53)) : Def P w K mg base 2 "helpers_of" ["table", "person"] (sp_helpers_of T K) := by
  refine def_of R sc_helpers_of (fun _ _ _ _ _ _ us hl => match us, hl with | [_, _], _ => rfl) (fun vs H Q E h => Pr.len (n := 2) (fun _ => rfl) h) fun f cdv A outer s H vs Q E hr h => ?_
  have nd := sc_helpers_of.nd
  refine ⟨_, (pss_cons (ps_par (i := 2) (j := 3) rfl nd rfl rfl (by decide) rfl rfl (pa_cons (pe_ix (w_ixT (K := K) (by rfl)) (pe_callD D_tower_of hr (by decide) (by rfl) (pa_cons (pv 0) pa_nil)) pe_int (fun _ _ => rfl)) (pa_cons pe_non pa_nil)) (by rfl))
    (pss_cons (ps_for PassesOwn.never rfl (w_piL (K := K) (by rfl) (pe_callD D_all_lots hr (by decide) (by rfl) (pa_cons (pe_callB (w_len (K := K) (by rfl)) (by rfl) B.len PySem.boot_len (pa_cons (pv 0) pa_nil)) pa_nil))) (pg_name (i := 4) nd rfl (Or.inl rfl) (Or.inr rfl))
     (pss_one (ps_if (PW.pt (pw_and (pt_cmpR (w_notInS (K := K) (by rfl)) (pv 1) (pv 4) rfl) (pw_and1 (pt_cmpR (w_eqD (K := K) (by rfl) hr) (pe_callD D_best_row hr (by decide) (by rfl) (pa_cons (pv 0) (pa_cons (pe_op (w_catA (K := K) (by rfl)) (pv 4) (pe_tup (pa_cons (pv 1) pa_nil))) pa_nil))) (pv 2) (nomark _))))) (pss_one (ps_if (PW.pt (pw_or (pt_cmp (pc_isN (pv 3))) (pw_or1 (pt_cmpR (w_ltD (K := K) (by rfl) hr) (pe_tup (pa_cons (pe_callB (w_len (K := K) (by rfl)) (by rfl) B.len PySem.boot_len (pa_cons (pv 4) pa_nil)) (pa_cons (pv 4) pa_nil))) (pe_tup (pa_cons (pe_callB (w_len (K := K) (by rfl)) (by rfl) B.len PySem.boot_len (pa_cons (pv 3) pa_nil)) (pa_cons (pv 3) pa_nil))) (nomark _))))) (pss_one (ps_set (i := 3) nd rfl (Or.inl rfl) (pv 4))) pss_nil)) pss_nil)))
    (pss_one (ps_ret (pv 3))))), body_ret h ?_⟩
  rintro ⟨n, g, t, p⟩ ⟨ht, h1, h10, hg, hp, lot0, hlot0, hv0⟩
  have ht : Lt.WF n g t := ht
  have h1 : 1 ≤ n := h1
  have h10 : n ≤ 10 := h10
  have hg : g ≤ 1000 := hg
  have hp : p < n := hp
  have hl : t.length = n := ht.1
  let Γs : Nat → Gam K := fun i => [some (dd (pT t)), some (dd (.int (p : Nat))), some (dd (pR (Lt.rw' (Lt.tower t) 0))), some (dd (optO (hBest t p ((Lt.allLots n).take i)))), none]
  have htl : 0 < (Lt.tower t).length := by rw [Lt.tower_len]; omega
  refine sr_seq (Γ1 := Γs 0) (sn_par (x := dd (pR (Lt.rw' (Lt.tower t) 0))) (y := dd .none) (ea2 (eg_row (eg_call (n, g, t) (ea1 vr) ⟨ht, h1, by omega, hg⟩) (ed_int 0) htl) ed_non)) ?_
  have hw : WG T (iList K (tCall (sp_all_lots T K) [] E0 (tCons (tCB (rLenS K) (tCons (tVar 0) tNil)) tNil))) (Γs 0) (((Lt.allLots n).map pO).map dd) := wg_list (eg_call n (ea1 ((eg_lenTab vr).is (by rw [hl]))) h10)
  rw [List.map_map] at hw
  refine sr_seq (Γ1 := Γs (Lt.allLots n).length) ?_ (sr_ret (EG.ep (x := dd (optO (hBest t p ((Lt.allLots n).take (Lt.allLots n).length)))) (vr (i := 3)) ?_))
  · have loop := sn_for (T := T) (g := gName 4) (vs := [4]) (t := tIfS (tAnd (tTest (tOp (rIn K true) (tVar 1) (tVar 4))) (tTest (tOp (rEqD K) (tCall (sp_best_row T K) [] E0 (tCons (tVar 0) (tCons (tOp (rCatA K) (tVar 4) (tTup (tCons (tVar 1) tNil))) tNil))) (tVar 2))))
        (tIfS (tOr (tB (tIsN (tVar 3))) (tTest (tOp (rLtD K) (tTup (tCons (tCB (rLenS K) (tCons (tVar 4) tNil)) (tCons (tVar 4) tNil))) (tTup (tCons (tCB (rLenS K) (tCons (tVar 3) tNil)) (tCons (tVar 3) tNil)))))) (tAsg (tVar 4) (gName 3)) tNext) tNext) Γs hw fun i y hy => ?_
    · rw [List.length_map] at loop
      exact loop
    · have hi : i < (Lt.allLots n).length := by
        have := (List.getElem?_eq_some_iff.mp hy).1
        simpa using this
      have ei : (Lt.allLots n)[i]? = some (Lt.allLots n)[i] := List.getElem?_eq_getElem hi
      generalize hlot : (Lt.allLots n)[i] = lot at ei
      have hmem : lot ∈ Lt.allLots n := List.mem_of_getElem? ei
      have ey : y = dd (pO lot) := by
        rw [List.getElem?_map, ei] at hy
        exact (Option.some.inj hy).symm
      subst ey
      have hll := lot_len n hmem
      have hlt := Lt.lot_lt n hmem
      have estep : hBest t p ((Lt.allLots n).take (i + 1)) = hStep t p (hBest t p ((Lt.allLots n).take i)) lot := by
        unfold hBest
        rw [List.take_add_one, ei, List.foldl_append]
        rfl
      generalize hb : hBest t p ((Lt.allLots n).take i) = b at estep
      let Γm : Gam K := [some (dd (pT t)), some (dd (.int (p : Nat))), some (dd (pR (Lt.rw' (Lt.tower t) 0))), some (dd (optO b)), some (dd (pO lot))]
      have fin : SN T (tIfS (tAnd (tTest (tOp (rIn K true) (tVar 1) (tVar 4))) (tTest (tOp (rEqD K) (tCall (sp_best_row T K) [] E0 (tCons (tVar 0) (tCons (tOp (rCatA K) (tVar 4) (tTup (tCons (tVar 1) tNil))) tNil))) (tVar 2))))
          (tIfS (tOr (tB (tIsN (tVar 3))) (tTest (tOp (rLtD K) (tTup (tCons (tCB (rLenS K) (tCons (tVar 4) tNil)) (tCons (tVar 4) tNil))) (tTup (tCons (tCB (rLenS K) (tCons (tVar 3) tNil)) (tCons (tVar 3) tNil)))))) (tAsg (tVar 4) (gName 3)) tNext) tNext) Γm (Γm.set 3 (some (dd (optO (hStep t p b lot))))) := by
        have same : hStep t p b lot = b → Γm.set 3 (some (dd (optO (hStep t p b lot)))) = Γm := fun e => by rw [e]; rfl
        have htest : ET T (tAnd (tTest (tOp (rIn K true) (tVar 1) (tVar 4))) (tTest (tOp (rEqD K) (tCall (sp_best_row T K) [] E0 (tCons (tVar 0) (tCons (tOp (rCatA K) (tVar 4) (tTup (tCons (tVar 1) tNil))) tNil))) (tVar 2)))) Γm ((!decide (((p : Nat) : Int) ∈ lot.map fun i => ((i : Nat) : Int))) && decide (Lt.bestRow t (lot ++ [p]) = Lt.rw' (Lt.tower t) 0)) := by
          refine et_and (et_test (eg_op vr vr (rg_notIn (ns := lot.map fun i => ((i : Nat) : Int)) (.inr (by unfold pO; rw [List.map_map]; rfl))))) fun _ => et_test (eg_op (eg_call (n, g, t, lot ++ [p]) (ea2 vr ((eg_op (vr (x := dd (.tuple (lot.map fun i => .int ((i : Nat) : Int))))) (eg_tup (ds := [_]) (ea1 vr) (by simp)) (rg_catT ?_)).is ?_)) ⟨ht, hg, by simp, fun q hq => ?_, ?_⟩) vr (rg_eqD (sh_pR _) (sh_pR _) (eqv_dec (pl_pR _) (pl_pR _) ⟨fun e => pR_inj _ _ e, fun e => by rw [e]⟩)))
          · rw [List.length_map]
            simp
            omega
          · unfold pO
            rw [List.map_append]
            rfl
          · rcases List.mem_append.mp hq with hq | hq
            · exact hlt q hq
            · rw [List.mem_singleton.mp hq]; exact hp
          · show (lot ++ [p]).length ≤ 1000
            rw [List.length_append]
            simp
            omega
        have hval : ((!decide (((p : Nat) : Int) ∈ lot.map fun i => ((i : Nat) : Int))) && decide (Lt.bestRow t (lot ++ [p]) = Lt.rw' (Lt.tower t) 0)) = true ↔ Lt.Valid t p lot := by
          unfold Lt.Valid
          have hm : (((p : Nat) : Int) ∈ lot.map fun i => ((i : Nat) : Int)) ↔ p ∈ lot := by
            rw [List.mem_map]
            constructor
            · rintro ⟨a, ha, e⟩
              have : a = p := by omega
              exact this ▸ ha
            · exact fun h => ⟨p, h, rfl⟩
          simp [hm]
        refine sn_if htest (fun e => ?_) fun e => ?_
        · have hv := hval.mp e
          cases b with
          | none =>
            have es : hStep t p none lot = some lot := by unfold hStep; rw [if_pos hv]
            rw [es]
            exact sn_if (b := true) (et_or (a := true) (b := true) (et_isN (d := .none) vr) fun z => by cases z) (fun _ => sn_set vr) fun z => by cases z
          | some c =>
            have es : hStep t p (some c) lot = if dataLt (lenD lot) (lenD c) = true then some lot else some c := by unfold hStep; rw [if_pos hv]
            refine sn_if (b := dataLt (lenD lot) (lenD c)) (et_or (a := false) (b := dataLt (lenD lot) (lenD c)) (et_isN (d := pO c) vr) fun _ => et_test (eg_op (eg_tup (ds := [_, _]) (ea2 (eg_lenOrd vr) vr) (by simp)) (eg_tup (ds := [_, _]) (ea2 (eg_lenOrd (r := c) (vr (i := 3))) (vr (i := 3))) (by simp)) (rg_ltD (alike_lenD lot c) (by simp) (dp_lenD lot)))) (fun e2 => ?_) fun e2 => ?_
            · rw [es, if_pos e2]
              exact sn_set vr
            · rw [es, if_neg (by simp [e2])]
              exact sn_next
        · have hv : ¬ Lt.Valid t p lot := fun z => by rw [hval.mpr z] at e; cases e
          rw [same (by unfold hStep; rw [if_neg hv])]
          exact sn_next
      refine ⟨Γm, ?_, sn_sub fin ?_⟩
      · have := gg_name (T := T) (K := K) (x := dd (pO lot)) (Γ := Γs i) (vs := [4]) (j := 4) (by simp)
        show GG T [4] (gName 4) (dd (pO lot)) (Γs i) Γm
        have e : (Γs i).set 4 (some (dd (pO lot))) = Γm := by
          show [_, _, _, some (dd (optO (hBest t p ((Lt.allLots n).take i)))), _] = _
          rw [hb]
        rw [← e]
        exact this
      · refine ⟨rfl, fun j x e => ?_⟩
        have e2 : Γs (i + 1) = [some (dd (pT t)), some (dd (.int (p : Nat))), some (dd (pR (Lt.rw' (Lt.tower t) 0))), some (dd (optO (hStep t p b lot))), none] := by
          show [_, _, _, some (dd (optO (hBest t p ((Lt.allLots n).take (i + 1))))), _] = _
          rw [estep]
        rw [e2] at e
        match j, e with
        | 0, e => exact e
        | 1, e => exact e
        | 2, e => exact e
        | 3, e => exact e
        | 4, e => cases e
        | j + 5, e => cases e
  · rw [List.take_length]
    obtain ⟨b1, b2⟩ := hBest_ok (t := t) (p := p) (Lt.allLots n)
    cases hb : hBest t p (Lt.allLots n) with
    | none => exact absurd hv0 (b1 hb lot0 hlot0)
    | some c => exact ⟨c, rfl, fun lot hlot hv => (b2 c hb).2.2 lot (by rw [← hl]; exact hlot) hv⟩

abbrev sp_lays_to_top (T : List (Addr × Str)) (K : PySem.W.Frag) : Sp := Pr T (fun v : Nat × Nat × TT × Nat => [dd (K := K) (pT v.2.2.1), dd (.int v.2.2.2)]) (fun v => TabOk v.1 v.2.1 v.2.2.1 ∧ v.2.2.2 < v.1 ∧ ∃ lot ∈ Lt.allLots v.1, Lt.Valid v.2.2.1 v.2.2.2 lot) fun v y => ∃ c : List Nat, y = dd (.int ((c.length : Nat) : Int)) ∧ HelpsOk v.2.2.1 v.2.2.2 c
theorem EP'.lenO {Γ : Gam K} {te : TE} {Q : List Nat → Prop} (h : EP' T te Γ fun y => ∃ c, y = dd (pO c) ∧ Q c) : EP' T (tCB (rLenS K) (tCons te tNil)) Γ fun y => ∃ c : List Nat, y = dd (.int ((c.length : Nat) : Int)) ∧ Q c := fun σ H ok R r =>
  h σ H ok _ fun x v H1 ⟨c, e, hc⟩ n1 d1 => by
    subst e
    obtain ⟨a, vs, rfl, hs, ha⟩ := dp_tup d1
    refine ⟨a, vs, rfl, .inr hs, ?_⟩
    have hl : vs.length = c.length := by rw [dpa_len ha, List.length_map]
    rw [hl]
    exact r _ _ H1 ⟨c, rfl, hc⟩ n1 (.int _)
theorem sc_lays_to_top : FnScope ["table", "person"] ["table", "person"] (defScope (topS 52)) := ⟨rfl, rfl, rfl, by decide +kernel, rfl, by decide +kernel, by decide +kernel⟩
theorem d_lays_to_top (B : Bts mg) (C : Csts mg) (D_helpers_of : Def P w K mg base 2 "helpers_of" ["table", "person"] (sp_helpers_of T K)) (D_need_person : Def P w K mg base 3 "need_person" ["table", "person"] (sp_need_person T K)) (D_need_table : Def P w K mg base 5 "need_table" ["table"] (sp_need_table T K)) (R : Raw mg K "lays_to_top" (topS 52)) : Def P w K mg base 6 "lays_to_top" ["table", "person"] (sp_lays_to_top T K) := by
  refine def_of R sc_lays_to_top (fun _ _ _ _ _ _ us hl => match us, hl with | [_, _], _ => rfl) (fun vs H Q E h => Pr.len (n := 2) (fun _ => rfl) h) fun f cdv A outer s H vs Q E hr h => ?_
  have nd := sc_lays_to_top.nd
  refine ⟨_, (pss_cons (ps_expr (pe_callD D_need_table hr (by decide) (by rfl) (pa_cons (pv 0) pa_nil)))
    (pss_cons (ps_expr (pe_callD D_need_person hr (by decide) (by rfl) (pa_cons (pv 0) (pa_cons (pv 1) pa_nil))))
    (pss_one (ps_ret (pe_callB (w_len (K := K) (by rfl)) (by rfl) B.len PySem.boot_len (pa_cons (pe_callD D_helpers_of hr (by decide) (by rfl) (pa_cons (pv 0) (pa_cons (pv 1) pa_nil))) pa_nil)))))), body_ret h ?_⟩
  rintro ⟨n, g, t, p⟩ ⟨ht, hp, hv⟩
  have hl : t.length = n := ht.len
  have n6 : n ≤ 6 := ht.n6
  refine sr_seq (sn_drop (eg_call (n, g, t) (ea1 vr) ht)) (sr_seq (sn_drop (eg_call (t, p) (ea2 vr vr) (by rw [hl]; exact hp))) (sr_ret (EP'.lenO (ep_call (n, g, t, p) (ea2 vr vr) ⟨ht.wf, ht.n1, by show n ≤ 10; omega, ht.small.2.2, hp, hv⟩))))

abbrev sp_lays_to_bottom (T : List (Addr × Str)) (K : PySem.W.Frag) : Sp := Pr T (fun v : Nat × Nat × TT × Nat => [dd (K := K) (pT v.2.2.1), dd (.int v.2.2.2)]) (fun v => TabOk v.1 v.2.1 v.2.2.1 ∧ v.2.2.2 < v.1 ∧ ∃ lot ∈ Lt.allLots v.1, Lt.Valid (Lt.negT v.2.2.1) v.2.2.2 lot) fun v y => ∃ c : List Nat, y = dd (.int ((c.length : Nat) : Int)) ∧ HelpsOk (Lt.negT v.2.2.1) v.2.2.2 c
theorem sc_lays_to_bottom : FnScope ["table", "person", "down", "row", "heap"] ["table", "person"] (defScope (topS 55)) := ⟨rfl, rfl, rfl, by decide +kernel, rfl, by decide +kernel, by decide +kernel⟩
theorem d_lays_to_bottom (B : Bts mg) (C : Csts mg) (D_helpers_of : Def P w K mg base 2 "helpers_of" ["table", "person"] (sp_helpers_of T K)) (D_need_person : Def P w K mg base 3 "need_person" ["table", "person"] (sp_need_person T K)) (D_need_table : Def P w K mg base 5 "need_table" ["table"] (sp_need_table T K)) (R : Raw mg K "lays_to_bottom" (topS 55)) : Def P w K mg base 6 "lays_to_bottom" ["table", "person"] (sp_lays_to_bottom T K) := by
  refine def_of R sc_lays_to_bottom (fun _ _ _ _ _ _ us hl => match us, hl with | [_, _], _ => rfl) (fun vs H Q E h => Pr.len (n := 2) (fun _ => rfl) h) fun f cdv A outer s H vs Q E hr h => ?_
  have nd := sc_lays_to_bottom.nd
  refine ⟨_, (pss_cons (ps_expr (pe_callD D_need_table hr (by decide) (by rfl) (pa_cons (pv 0) pa_nil)))
    (pss_cons (ps_expr (pe_callD D_need_person hr (by decide) (by rfl) (pa_cons (pv 0) (pa_cons (pv 1) pa_nil))))
    (pss_cons (ps_set (i := 2) nd rfl (Or.inl rfl) (pe_callTy (w_tup (K := K) (by rfl)) (by rfl) B.tuple PyProof.Rows.boot_tuple (pa_cons (pe_lc (own := [("row", 3)]) rfl nd (w_piT (K := K) (by rfl) (pv 0)) (blkOk_by (by kernel_rfl)) (fun _ _ _ _ _ => (pg_name (i := 3) nd rfl (Or.inl rfl) (Or.inr rfl))) (fun _ _ _ _ _ => pts_nil) (fun _ _ _ _ _ => (pe_callTy (w_tup (K := K) (by rfl)) (by rfl) B.tuple PyProof.Rows.boot_tuple (pa_cons (pe_lc (own := [("heap", 4)]) rfl nd (w_piT (K := K) (by rfl) (pv 3)) (blkOk_by (by kernel_rfl)) (fun _ _ _ _ _ => (pg_name (i := 4) nd rfl (Or.inl rfl) (Or.inr rfl))) (fun _ _ _ _ _ => pts_nil) (fun _ _ _ _ _ => (pe_un un_neg (pv 4)))) pa_nil)))) pa_nil)))
    (pss_one (ps_ret (pe_callB (w_len (K := K) (by rfl)) (by rfl) B.len PySem.boot_len (pa_cons (pe_callD D_helpers_of hr (by decide) (by rfl) (pa_cons (pv 2) (pa_cons (pv 1) pa_nil))) pa_nil))))))), body_ret h ?_⟩
  rintro ⟨n, g, t, p⟩ ⟨ht, hp, hv⟩
  have hl : t.length = n := ht.len
  have n6 : n ≤ 6 := ht.n6
  have w5 : g ≤ 5 := ht.w5
  have wt := wg_tup (T := T) (K := K) (ds := t.map pR) (vr (Γ := startG 5 [dd (pT t), dd (.int (p : Nat))]) (i := 0))
  rw [List.map_map] at wt
  refine sr_seq (sn_drop (eg_call (n, g, t) (ea1 vr) ht)) (sr_seq (sn_drop (eg_call (t, p) (ea2 vr vr) (by rw [hl]; exact hp))) (sr_seq (sn_set (x := dd (pT (Lt.negT t))) (EG.is (eg_tupO (eg_lcA (l := t) (enc := fun r => dd (K := K) (pR r)) (fun r => pR (Lt.negR r)) wt (by omega) (fun _ _ => flat_pR _) fun r hr => ⟨_, gg_name (by simp), ?_⟩).ld) ?_)) (sr_ret (EP'.lenO (ep_call (n, g, Lt.negT t, p) (ea2 vr vr) ⟨Lt.neg_wf ht.wf, ht.n1, by show n ≤ 10; omega, ht.small.2.2, hp, hv⟩)))))
  · have wr := wg_tup (T := T) (K := K) (ds := r.map .int) (vr (Γ := (wipeG (startG 5 [dd (pT t), dd (.int (p : Nat))]) [3]).set 3 (some (dd (pR r)))) (i := 3))
    rw [List.map_map] at wr
    have hrl : r.length = g := (ht.rows r hr).1
    refine EG.is (eg_tupO (eg_lcA (l := r) (enc := fun h => dd (K := K) (.int h)) (fun h => .int (-h)) wr (by omega) (fun _ _ => rfl) fun h hh => ⟨_, gg_name (by simp), eg_un vr ug_i⟩).ld) ?_
    unfold pR Lt.negR
    rw [List.map_map]
    rfl
  · show dd (PyData.tuple _) = dd (PyData.tuple ((Lt.negT t).map pR))
    unfold Lt.negT
    rw [List.map_map]
    rfl
end Lw
set_option Elab.async false
set_option linter.all false
set_option maxRecDepth 100000
set_option maxHeartbeats 4000000
/-! the compares' defs; nexts_of -/
namespace Lw
open PySem PySem.Spec PyProof.Rows L2
open LamX (ExtN Tabs TabS CodeO TabB)
open PySem.W (dataLe dataLt alike alikeAll)
variable {P : Program} {w : World} {K : PySem.W.Frag} {mg : Str → Option Value} {base : Heap} {T : List (Addr × Str)}
abbrev sp_moved (T : List (Addr × Str)) (K : PySem.W.Frag) : Sp := Pr T (fun v : Nat × Nat × TT × TT => [dd (K := K) (pT v.2.2.1), dd (pT v.2.2.2)]) (fun v => TabOk v.1 v.2.1 v.2.2.1 ∧ TabOk v.1 v.2.1 v.2.2.2) fun v y => y = dd (.int (Lt.moved v.2.2.1 v.2.2.2))
theorem zip_cells {t u : TT} {g : Nat} (ht : ∀ r ∈ t, r.length = g) : ((t.zip u).flatMap fun q => q.1.zip q.2).length ≤ t.length * g := by
  induction t generalizing u with
  | nil => simp
  | cons r t ih =>
    cases u with
    | nil => simp
    | cons s u =>
      have h1 := ih (u := u) fun x hx => ht x (List.mem_cons_of_mem _ hx)
      have h2 := ht r List.mem_cons_self
      simp only [List.zip_cons_cons, List.flatMap_cons, List.length_append, List.length_zip, List.length_cons]
      have h3 : (t.length + 1) * g = t.length * g + g := Nat.succ_mul _ _
      omega
theorem ds_int {Γ : Gam K} {te : TE} {t u : TT} (h : EG T te Γ (ll ((t.zip u).flatMap fun a => ((a.1.zip a.2).filter fun _ => true).map fun q => .int (Lt.absI (q.1 - q.2))))) : EG T te Γ (ll ((Lt.diffs t u).map .int)) := h.is (by
  congr 1
  unfold Lt.diffs
  rw [List.map_flatMap]
  congr 1
  funext a
  rw [List.filter_eq_self.mpr fun _ _ => rfl, List.map_map]
  rfl)
theorem sc_moved : FnScope ["one", "other", "first", "second", "pair"] ["one", "other"] (defScope (topS 59)) := ⟨rfl, rfl, rfl, by decide +kernel, rfl, by decide +kernel, by decide +kernel⟩
theorem d_moved (B : Bts mg) (C : Csts mg) (D_need_like : Def P w K mg base 6 "need_like" ["one", "other"] (sp_need_like T K)) (R : Raw mg K "moved" (topS 59)) : Def P w K mg base 7 "moved" ["one", "other"] (sp_moved T K) := by
  refine def_of R sc_moved (fun _ _ _ _ _ _ us hl => match us, hl with | [_, _], _ => rfl) (fun vs H Q E h => Pr.len (n := 2) (fun _ => rfl) h) fun f cdv A outer s H vs Q E hr h => ?_
  have nd := sc_moved.nd
  refine ⟨_, (pss_cons (ps_expr (pe_callD D_need_like hr (by decide) (by rfl) (pa_cons (pv 0) (pa_cons (pv 1) pa_nil))))
    (pss_one (ps_ret (pe_callB (w_sum (K := K) (by rfl) rfl) (by rfl) B.sum PyProof.Rows.boot_sum (pa_cons (pe_lc2 (own := [("first", 2), ("second", 3), ("pair", 4)]) (vs1 := [4]) rfl nd (w_zip2 (K := K) (by rfl) (by rfl) B.zip (pa_cons (pv 0) (pa_cons (pv 1) pa_nil))) (blkOk_by (by kernel_rfl)) (by decide) (fun _ _ _ _ _ => (w_gtup (K := K) (n := 2) (by rfl) rfl (pgs_cons (pg_name (i := 2) nd rfl (Or.inl rfl) (Or.inr rfl)) (pgs_cons (pg_name (i := 3) nd rfl (Or.inl rfl) (Or.inr rfl)) pgs_nil)))) (fun _ _ _ _ _ => pts_nil) (fun _ _ _ _ _ => (w_zip1 (K := K) (by rfl) (by rfl) B.zip (pa_cons (pv 2) (pa_cons (pv 3) pa_nil)))) (fun _ _ _ _ _ => (pg_name (i := 4) nd rfl (Or.inl rfl) (Or.inr rfl))) (fun _ _ _ _ _ => pts_nil) (fun _ _ _ _ _ => (pe_callB call_abs (by rfl) B.abs PyProof.Rows.boot_abs (pa_cons (pe_op op_sub (pe_ix (w_ixT (K := K) (by rfl)) (pv 4) pe_int (fun _ _ => rfl)) (pe_ix (w_ixT (K := K) (by rfl)) (pv 4) pe_int (fun _ _ => rfl))) pa_nil)))) pa_nil))))), body_ret h ?_⟩
  rintro ⟨n, g, t, u⟩ ⟨ht, hu⟩
  have hl : t.length = n := ht.len
  have hlu : u.length = n := hu.len
  have n6 : n ≤ 6 := ht.n6
  have w5 : g ≤ 5 := ht.w5
  have hw := wg_zip2 (T := T) (K := K) (Γ := startG 5 [dd (pT t), dd (pT u)]) (ds := t.map pR) (es := u.map pR) (ea2 (vr (i := 0)) (vr (i := 1)))
  rw [zip_enc] at hw
  have lc := eg_lc2 (T := T) (l := t.zip u) (enc := fun p => dd (K := K) (.tuple [pR p.1, pR p.2])) (l1 := fun p => p.1.zip p.2) (enc1 := fun _ q => dd (K := K) (.tuple [.int q.1, .int q.2])) (g := gTup K 2 (gCons (gName 2) (gCons (gName 3) gNil))) (vs := [2, 3, 4]) (g1 := gName 4) (vs1 := [4]) (tt1 := tYes)
    (te := tCB (fun xs H Q => ∃ i, xs = [.int i] ∧ Q (.int (if i < 0 then -i else i)) H) (tCons (tOp (rI0 fun i j => .int (i - j)) (tOp (rIxT K) (tVar 4) (tC (.int 0))) (tOp (rIxT K) (tVar 4) (tC (.int 1)))) tNil)) (wi1 := iZip1 K (tCons (tVar 2) (tCons (tVar 3) tNil))) (fun _ _ => true) (fun _ q => .int (Lt.absI (q.1 - q.2))) hw (by
      have := zip_cells (t := t) (u := u) (g := g) fun r hr => (ht.rows r hr).1
      have h2 : t.length * g ≤ 6 * 5 := Nat.mul_le_mul (by omega) w5
      omega) (fun _ _ _ _ _ => rfl) fun p hp => ⟨_, gg_two (by simp) (by simp), fun i x e => ?_, ?_, fun q hq => ⟨_, gg_name (by simp), fun σ H ok Q k => k H (Nx.refl ok.tb), fun _ => eg_cb (ea1 (eg_op (eg_at vr (ed_int 0) rfl) (eg_at vr (ed_int 1) rfl) rg_i)) cg_abs⟩⟩
  · refine sr_seq (sn_drop (eg_call (n, g, t, u) (ea2 vr vr) ⟨ht, hu⟩)) (sr_ret (EG.ep (EG.is (eg_cb (ea1 (ds_int lc).ld) cg_sum) ?_) rfl))
    rfl
  · match i, e with
    | 0, e => exact .inl ⟨by decide, e⟩
    | 1, e => exact .inl ⟨by decide, e⟩
    | 2, e => exact .inr (by cases e; exact tst_flat (flat_pR _))
    | 3, e => exact .inr (by cases e; exact tst_flat (flat_pR _))
    | 4, e => cases e
    | i + 5, e => cases e
  · have wq := wq_zip1 (T := T) (K := K) (Γ := ((wipeG (startG 5 [dd (pT t), dd (pT u)]) [2, 3, 4]).set 2 (some (dd (pR p.1)))).set 3 (some (dd (pR p.2)))) (ds := p.1.map .int) (es := p.2.map .int) (ea2 (vr (i := 2)) (vr (i := 3))) (flatA_map fun _ _ => rfl) (flatA_map fun _ _ => rfl)
    rw [zip_enc] at wq
    exact wq

theorem TabOk.kin {n g : Nat} {t u : TT} (ht : TabOk n g t) (h : Lt.Kin n g t u) : TabOk n g u := by
  refine ⟨h.wf.1, fun r hr => ⟨h.wf.2 r hr, fun x hx => ?_⟩, ht.n1, ht.n6, ht.w1, ht.w5⟩
  obtain ⟨k, hk, e⟩ := List.mem_iff_getElem.mp hx
  have hkg : k < g := by rw [← h.wf.2 r hr]; exact hk
  have hm : x ∈ Lt.col u k := List.mem_map.mpr ⟨r, hr, by simp [Lt.hp, hk, e]⟩
  have hm2 : x ∈ Lt.col t k := (h.col k hkg).mem_iff.mp hm
  obtain ⟨r2, hr2, e2⟩ := List.mem_map.mp hm2
  obtain ⟨l2, h2⟩ := ht.rows r2 hr2
  have hk2 : k < r2.length := by omega
  refine h2 x ?_
  have e3 : r2[k] = x := by
    rw [← e2]
    simp [Lt.hp, hk2]
  rw [← e3]
  exact List.getElem_mem hk2
abbrev sp_to_order (T : List (Addr × Str)) (K : PySem.W.Frag) : Sp := Pr T (fun v : Nat × Nat × TT × List Nat => [dd (K := K) (pT v.2.2.1), dd (pO v.2.2.2)]) (fun v => TabOk v.1 v.2.1 v.2.2.1 ∧ Lt.IsOrd v.1 v.2.2.2) fun v y => y = dd (.int (Lt.toOrder v.2.2.1 v.2.2.2))
theorem sc_to_order : FnScope ["table", "order"] ["table", "order"] (defScope (topS 60)) := ⟨rfl, rfl, rfl, by decide +kernel, rfl, by decide +kernel, by decide +kernel⟩
theorem d_to_order (B : Bts mg) (C : Csts mg) (D_is_order : Def P w K mg base 2 "is_order" ["value", "many"] (sp_is_order T K)) (D_moved : Def P w K mg base 7 "moved" ["one", "other"] (sp_moved T K)) (D_need_table : Def P w K mg base 5 "need_table" ["table"] (sp_need_table T K)) (D_ordered : Def P w K mg base 1 "ordered" ["rows", "order"] (sp_ordered T K)) (D_tower_of : Def P w K mg base 1 "tower_of" ["table"] (sp_tower_of T K)) (R : Raw mg K "to_order" (topS 60)) : Def P w K mg base 8 "to_order" ["table", "order"] (sp_to_order T K) := by
  refine def_of R sc_to_order (fun _ _ _ _ _ _ us hl => match us, hl with | [_, _], _ => rfl) (fun vs H Q E h => Pr.len (n := 2) (fun _ => rfl) h) fun f cdv A outer s H vs Q E hr h => ?_
  have nd := sc_to_order.nd
  refine ⟨_, (pss_cons (ps_expr (pe_callD D_need_table hr (by decide) (by rfl) (pa_cons (pv 0) pa_nil)))
    (pss_cons (ps_if (pt_not (pt_val (pe_callD D_is_order hr (by decide) (by rfl) (pa_cons (pv 1) (pa_cons (pe_callB (w_len (K := K) (by rfl)) (by rfl) B.len PySem.boot_len (pa_cons (pv 0) pa_nil)) pa_nil))))) (pss_one (ps_ret pe_non)) pss_nil)
    (pss_one (ps_ret (pe_op op_fdiv (pe_callD D_moved hr (by decide) (by rfl) (pa_cons (pv 0) (pa_cons (pe_callD D_ordered hr (by decide) (by rfl) (pa_cons (pe_callD D_tower_of hr (by decide) (by rfl) (pa_cons (pv 0) pa_nil)) (pa_cons (pv 1) pa_nil))) pa_nil))) pe_int))))), body_ret h ?_⟩
  rintro ⟨n, g, t, o⟩ ⟨ht, ho⟩
  have hl : t.length = n := ht.len
  have n6 : n ≤ 6 := ht.n6
  have ho : Lt.IsOrd n o := ho
  have hk : TabOk n g (Lt.placed (Lt.tower t) o) := ht.kin (Lt.placed_kin ht.wf ho)
  exact sr_seq (sn_drop (eg_call (n, g, t) (ea1 vr) ht)) (sr_seq (sn_ifF (et_not (b := true) (et_B (eg_call (o, n) (ea2 vr ((eg_lenTab vr).is (by rw [hl]))) ⟨ho, (show n ≤ 1000 by omega)⟩))) sn_next)
    (sr_ret (EG.ep (eg_op (eg_call (n, g, t, Lt.placed (Lt.tower t) o) (ea2 vr (eg_call (Lt.tower t, o) (ea2 (eg_call (n, g, t) (ea1 vr) ⟨ht.wf, ht.n1, ht.small.2⟩) vr) ⟨by rw [Lt.tower_len, hl]; exact ho, by rw [Lt.tower_len]; omega⟩)) ⟨ht, hk⟩) (ed_int 2) (rg_c (C := CDiv) (g := fun i j => i / j) ⟨by omega, by omega⟩)) rfl)))

/-! ### all orders -/
def ordsK (n : Nat) : Nat → List (List Nat)
  | 0 => [[]]
  | k + 1 => (ordsK n k).flatMap fun o => ((List.range n).filter fun p => !decide (p ∈ o)).map fun p => o ++ [p]
theorem ordsK_mem {n : Nat} : ∀ {k : Nat} {o : List Nat}, o ∈ ordsK n k ↔ o.length = k ∧ o.Nodup ∧ ∀ p ∈ o, p < n
  | 0, o => by
    show o ∈ [[]] ↔ _
    rw [List.mem_singleton]
    constructor
    · rintro rfl
      simp
    · rintro ⟨h, _⟩
      exact List.length_eq_zero_iff.mp h
  | k + 1, o => by
    show o ∈ (ordsK n k).flatMap _ ↔ _
    rw [List.mem_flatMap]
    constructor
    · rintro ⟨q, hq, ho⟩
      obtain ⟨p, hp, rfl⟩ := List.mem_map.mp ho
      obtain ⟨h1, h2, h3⟩ := ordsK_mem.mp hq
      obtain ⟨p1, p2⟩ := List.mem_filter.mp hp
      have p2 : p ∉ q := by simpa using p2
      refine ⟨by simp [h1], List.nodup_append.mpr ⟨h2, by simp, fun a ha b hb => ?_⟩, fun x hx => ?_⟩
      · rw [List.mem_singleton.mp hb]
        exact fun z => p2 (z ▸ ha)
      · rcases List.mem_append.mp hx with hx | hx
        · exact h3 x hx
        · rw [List.mem_singleton.mp hx]
          exact List.mem_range.mp p1
    · rintro ⟨h1, h2, h3⟩
      have hne : o ≠ [] := fun z => by rw [z] at h1; cases h1
      have eo := List.dropLast_concat_getLast hne
      have hnd : (o.dropLast ++ [o.getLast hne]).Nodup := by rw [eo]; exact h2
      obtain ⟨n1, _, n3⟩ := List.nodup_append.mp hnd
      refine ⟨o.dropLast, ordsK_mem.mpr ⟨by rw [List.length_dropLast]; omega, n1, fun p hp => h3 p (List.dropLast_subset o hp)⟩, List.mem_map.mpr ⟨o.getLast hne, List.mem_filter.mpr ⟨List.mem_range.mpr (h3 _ (List.getLast_mem hne)), ?_⟩, eo⟩⟩
      have : o.getLast hne ∉ o.dropLast := fun z => n3 _ z _ List.mem_cons_self rfl
      simpa using this
theorem nodup_small {n : Nat} : ∀ {l : List Nat}, l.Nodup → (∀ q ∈ l, q < n) → l.length ≤ n := by
  induction n with
  | zero =>
    intro l _ h
    cases l with
    | nil => exact Nat.le_refl _
    | cons a l => exact absurd (h a List.mem_cons_self) (Nat.not_lt_zero _)
  | succ n ih =>
    intro l hn h
    have h1 := ih (l := l.erase n) (hn.erase n) fun q hq => by
      have hm := (List.Nodup.mem_erase_iff hn).mp hq
      have := h q hm.2
      omega
    by_cases hm : n ∈ l
    · rw [List.length_erase_of_mem hm] at h1
      omega
    · rw [List.erase_of_not_mem hm] at h1
      omega
theorem ords_ord {n : Nat} {o : List Nat} : o ∈ ordsK n n ↔ Lt.IsOrd n o := by
  rw [ordsK_mem]
  constructor
  · rintro ⟨h1, h2, h3⟩
    refine (List.perm_ext_iff_of_nodup h2 List.nodup_range).mpr fun p => ⟨fun hp => List.mem_range.mpr (h3 p hp), fun hp => Classical.byContradiction fun hn => ?_⟩
    have hnd : (p :: o).Nodup := List.nodup_cons.mpr ⟨hn, h2⟩
    have := nodup_small hnd (n := n) fun q hq => by
      rcases List.mem_cons.mp hq with e | e
      · rw [e]; exact List.mem_range.mp hp
      · exact h3 q e
    rw [List.length_cons] at this
    omega
  · intro h
    exact ⟨h.len, h.nodup, fun p hp => h.mem.mp hp⟩
theorem ordsK_len (n : Nat) : ∀ k, (ordsK n k).length ≤ n ^ k
  | 0 => by simp [ordsK]
  | k + 1 => by
    have h := ordsK_len n k
    have key : ∀ l : List (List Nat), (l.flatMap fun o => ((List.range n).filter fun p => !decide (p ∈ o)).map fun p => o ++ [p]).length ≤ l.length * n := by
      intro l
      induction l with
      | nil => simp
      | cons o l ih =>
        have h1 := List.length_filter_le (fun p => !decide (p ∈ o)) (List.range n)
        rw [List.length_range] at h1
        simp only [List.flatMap_cons, List.length_append, List.length_map, List.length_cons]
        have := Nat.add_mul l.length 1 n
        omega
    refine Nat.le_trans (key _) ?_
    rw [Nat.pow_succ]
    exact Nat.mul_le_mul_right _ h
abbrev sp_all_orders (T : List (Addr × Str)) (K : PySem.W.Frag) : Sp := Pr T (fun v : Nat => [dd (K := K) (.int v)]) (fun v => v ≤ 6) fun v y => y = dd (pLots (ordsK v v))
theorem sc_all_orders : FnScope ["many", "found", "turn", "told", "person"] ["many"] (defScope (topS 61)) := ⟨rfl, rfl, rfl, by decide +kernel, rfl, by decide +kernel, by decide +kernel⟩
theorem d_all_orders (B : Bts mg) (C : Csts mg)  (R : Raw mg K "all_orders" (topS 61)) : Def P w K mg base 1 "all_orders" ["many"] (sp_all_orders T K) := by
  refine def_of R sc_all_orders (fun _ _ _ _ _ _ us hl => match us, hl with | [_], _ => rfl) (fun vs H Q E h => Pr.len (n := 1) (fun _ => rfl) h) fun f cdv A outer s H vs Q E hr h => ?_
  have nd := sc_all_orders.nd
  refine ⟨_, (pss_cons (ps_set (i := 1) nd rfl (Or.inl rfl) (pe_lst (pa_cons (pe_tup pa_nil) pa_nil)))
    (pss_cons (ps_for PassesOwn.never rfl (pi_range1 (by rfl) B.range (pa_cons (pv 0) pa_nil)) (pg_name (i := 2) nd rfl (Or.inl rfl) (Or.inr rfl))
     (pss_one (ps_setLc2 (i := 1)  (own := [("told", 3), ("person", 4)]) (vs1 := [4]) rfl nd rfl rfl (sw_true rfl rfl rfl (by decide +kernel)) (w_piL (K := K) (by rfl) (pv 1)) (blkOk_by (by kernel_rfl)) (by decide) (fun _ _ _ _ _ => (pg_name (i := 3) nd rfl (Or.inl rfl) (Or.inr rfl))) (fun _ _ _ _ _ => pts_nil) (fun _ _ _ _ _ => (pi_range1 (by rfl) B.range (pa_cons (pv 0) pa_nil))) (fun _ _ _ _ _ => (pg_name (i := 4) nd rfl (Or.inl rfl) (Or.inr rfl))) (fun _ _ _ _ _ => (pts_one (pt_cmpR (w_notInS (K := K) (by rfl)) (pv 4) (pv 3) rfl))) (fun _ _ _ _ _ => (pe_op (w_catA (K := K) (by rfl)) (pv 3) (pe_tup (pa_cons (pv 4) pa_nil)))))))
    (pss_one (ps_ret (pv 1))))), body_ret h ?_⟩
  intro n hn
  have hn : n ≤ 6 := hn
  have hsz : ∀ i, i < n → (ordsK n i).length * n ≤ 46656 := fun i hi => by
    have h1 := ordsK_len n i
    have h2 : n ^ i ≤ 6 ^ 5 := Nat.le_trans (Nat.pow_le_pow_left hn i) (Nat.pow_le_pow_right (by omega) (by omega))
    have h3 : (ordsK n i).length * n ≤ 6 ^ 5 * 6 := Nat.mul_le_mul (by omega) hn
    omega
  let Γs : Nat → Gam K := fun i => [some (dd (.int n)), some (ll ((ordsK n i).map pO)), none, none, none]
  refine sr_seq (Γ1 := Γs 0) (sn_set (x := ll ((ordsK n 0).map pO)) (en_lst (ds := [.tuple []]) (ea1 (eg_tup (ds := []) ea_nil (by simp))) (by simp)).eg) ?_
  have hw : WG T (iRng1 (tCons (tVar 0) tNil)) (Γs 0) ((List.range n).map fun i => dd (K := K) (.int (i : Nat))) := wg_range1 (ea1 vr) (by omega)
  refine sr_seq (Γ1 := Γs n) ?_ (sr_ret (EG.ep (x := dd (pLots (ordsK n n))) (EG.ld (ds := (ordsK n n).map pO) (vr (i := 1))) rfl))
  have loop := sn_for (T := T) (g := gName 2) (vs := [2]) (t := tAsg (tLc2 (iList K (tVar 1)) (gName 3) tYes (iRng1 (tCons (tVar 0) tNil)) (gName 4) (tTest (tOp (rIn K true) (tVar 4) (tVar 3))) (tOp (rCatA K) (tVar 3) (tTup (tCons (tVar 4) tNil))) [3, 4] [4]) (gName 1)) Γs hw fun i y hy => ?_
  · rw [List.length_map, List.length_range] at loop
    exact loop
  · have hi : i < n := by
      have := (List.getElem?_eq_some_iff.mp hy).1
      simpa using this
    rw [List.getElem?_map, List.getElem?_range hi] at hy
    obtain rfl := (Option.some.inj hy).symm
    have hzi := hsz i hi
    refine ⟨_, gg_name (by simp), sn_sub (Γ2 := (([some (dd (.int n)), some (ll ((ordsK n i).map pO)), some (dd (.int (i : Nat))), none, none] : Gam K).set 1 (some (ll ((ordsK n (i + 1)).map pO))))) (sn_set ?_) ⟨rfl, fun j x e => ?_⟩⟩
    · have wl : WG T (iList K (tVar 1)) ([some (dd (.int n)), some (ll ((ordsK n i).map pO)), some (dd (.int (i : Nat))), none, none] : Gam K) (((ordsK n i).map pO).map dd) := wg_list (EG.ld vr)
      rw [List.map_map] at wl
      have lc := eg_lc2 (T := T) (l := ordsK n i) (enc := fun o => dd (K := K) (pO o)) (l1 := fun _ => List.range n) (enc1 := fun _ p => dd (K := K) (.int ((p : Nat) : Int))) (g := gName 3) (vs := [3, 4]) (g1 := gName 4) (vs1 := [4]) (tt1 := tTest (tOp (rIn K true) (tVar 4) (tVar 3))) (te := tOp (rCatA K) (tVar 3) (tTup (tCons (tVar 4) tNil))) (wi1 := iRng1 (tCons (tVar 0) tNil))
        (fun o p => !decide (p ∈ o)) (fun o p => pO (o ++ [p])) wl ?_ (fun _ _ _ _ _ => flat_pO _) fun o ho => ⟨_, gg_name (by simp), fun j x e => ?_, wq_range1 (ea1 (vr (i := 0))) (by omega), fun p hp => ⟨_, gg_name (by simp), (et_test (eg_op (vr (i := 4)) (vr (i := 3)) (rg_notIn (ns := o.map fun i => ((i : Nat) : Int)) (.inr ?_)))).is ?_, fun _ => (eg_op (vr (x := dd (.tuple (o.map fun i => .int ((i : Nat) : Int))))) (eg_tup (ds := [_]) (ea1 vr) (by simp)) (rg_catT ?_)).is ?_⟩⟩
      · refine lc.is ?_
        congr 1
        show _ = ((ordsK n i).flatMap _).map pO
        rw [List.map_flatMap]
        congr 1
        funext o
        rw [List.map_map]
        rfl
      · have key : ∀ l : List (List Nat), (l.flatMap fun _ => List.range n).length = l.length * n := by
          intro l
          induction l with
          | nil => simp
          | cons o l ih =>
            simp only [List.flatMap_cons, List.length_append, List.length_range, List.length_cons, ih]
            have := Nat.add_mul l.length 1 n
            omega
        rw [key]
        omega
      · match j, e with
        | 0, e => exact .inl ⟨by decide, e⟩
        | 1, e => exact .inl ⟨by decide, e⟩
        | 2, e => exact .inl ⟨by decide, e⟩
        | 3, e => exact .inr (by cases e; exact tst_flat (flat_pO _))
        | 4, e => cases e
        | j + 5, e => cases e
      · unfold pO
        rw [List.map_map]
        rfl
      · congr 1
        rw [decide_eq_decide]
        rw [List.mem_map]
        constructor
        · rintro ⟨a, ha, e⟩
          have : a = p := by omega
          exact this ▸ ha
        · exact fun h => ⟨p, h, rfl⟩
      · have := (ordsK_mem.mp ho).1
        rw [List.length_map]
        simp
        omega
      · unfold pO
        rw [List.map_append]
        rfl
    · match j, e with
      | 0, e => exact e
      | 1, e => exact e
      | 2, e => cases e
      | 3, e => cases e
      | 4, e => cases e
      | j + 5, e => cases e

/-! ### the cheapest -/
def costD (t : TT) (o : List Nat) : PyData := .tuple [.int (Lt.toOrder t o), pO o]
theorem cost_lt {t : TT} {a b : List Nat} : (dataLt (costD t a) (costD t b) = true → Lt.toOrder t a ≤ Lt.toOrder t b) ∧ (dataLt (costD t a) (costD t b) = false → Lt.toOrder t b ≤ Lt.toOrder t a) := by
  have e : dataLt (costD t a) (costD t b) = _ := PySem.W.dataLt_pair (x := .int (Lt.toOrder t a)) (x' := .int (Lt.toOrder t b)) (y := pO a) (y' := pO b) (by simp [alike]) (alike_pO a b)
  constructor
  · intro h
    rw [e] at h
    split at h
    · rename_i q
      have q' : Lt.toOrder t a = Lt.toOrder t b := by simpa [PyData.eqv] using q
      omega
    · rw [PySem.W.dataLt_int] at h
      have := of_decide_eq_true h
      omega
  · intro h
    rw [e] at h
    split at h
    · rename_i q
      have q' : Lt.toOrder t a = Lt.toOrder t b := by simpa [PyData.eqv] using q
      omega
    · rw [PySem.W.dataLt_int] at h
      have := of_decide_eq_false h
      omega
theorem minD_cost {t : TT} (o : List Nat) (os : List (List Nat)) : ∃ c ∈ o :: os, PySem.W.minD (costD t o) (os.map (costD t)) = costD t c ∧ ∀ q ∈ o :: os, Lt.toOrder t c ≤ Lt.toOrder t q := by
  induction os generalizing o with
  | nil => exact ⟨o, by simp, rfl, fun q hq => by rw [List.mem_singleton.mp hq]; exact Int.le_refl _⟩
  | cons x os ih =>
    have e : PySem.W.minD (costD t o) ((x :: os).map (costD t)) = PySem.W.minD (if dataLt (costD t x) (costD t o) then costD t x else costD t o) (os.map (costD t)) := rfl
    rw [e]
    cases hd : dataLt (costD t x) (costD t o) with
    | true =>
      obtain ⟨c, h1, h2, h3⟩ := ih x
      refine ⟨c, List.mem_cons_of_mem _ h1, by simpa using h2, fun q hq => ?_⟩
      rcases List.mem_cons.mp hq with z | z
      · have a := cost_lt.1 hd
        have b := h3 x List.mem_cons_self
        rw [z]
        omega
      · exact h3 q z
    | false =>
      obtain ⟨c, h1, h2, h3⟩ := ih o
      refine ⟨c, ?_, by simpa using h2, fun q hq => ?_⟩
      · rcases List.mem_cons.mp h1 with z | z
        · rw [z]; exact List.mem_cons_self
        · exact List.mem_cons_of_mem _ (List.mem_cons_of_mem _ z)
      · rcases List.mem_cons.mp hq with z | z
        · rw [z]; exact h3 o List.mem_cons_self
        · rcases List.mem_cons.mp z with z | z
          · have a := cost_lt.2 hd
            have b := h3 o List.mem_cons_self
            rw [z]
            omega
          · exact h3 q (List.mem_cons_of_mem _ z)
abbrev sp_cheapest_order (T : List (Addr × Str)) (K : PySem.W.Frag) : Sp := Pr T (fun v : Nat × Nat × TT => [dd (K := K) (pT v.2.2)]) (fun v => TabOk v.1 v.2.1 v.2.2) fun v y => ∃ c, y = dd (costD v.2.2 c) ∧ Lt.IsOrd v.1 c ∧ ∀ q, Lt.IsOrd v.1 q → Lt.toOrder v.2.2 c ≤ Lt.toOrder v.2.2 q
theorem flat_cost (t : TT) (o : List Nat) : flat (costD t o) = true := by
  have := flat_pO o
  simp [costD, flat, flatA, this]
theorem sc_cheapest_order : FnScope ["table", "order"] ["table"] (defScope (topS 62)) := ⟨rfl, rfl, rfl, by decide +kernel, rfl, by decide +kernel, by decide +kernel⟩
theorem d_cheapest_order (B : Bts mg) (C : Csts mg) (D_all_orders : Def P w K mg base 1 "all_orders" ["many"] (sp_all_orders T K)) (D_need_table : Def P w K mg base 5 "need_table" ["table"] (sp_need_table T K)) (D_to_order : Def P w K mg base 8 "to_order" ["table", "order"] (sp_to_order T K)) (R : Raw mg K "cheapest_order" (topS 62)) : Def P w K mg base 9 "cheapest_order" ["table"] (sp_cheapest_order T K) := by
  refine def_of R sc_cheapest_order (fun _ _ _ _ _ _ us hl => match us, hl with | [_], _ => rfl) (fun vs H Q E h => Pr.len (n := 1) (fun _ => rfl) h) fun f cdv A outer s H vs Q E hr h => ?_
  have nd := sc_cheapest_order.nd
  refine ⟨_, (pss_cons (ps_expr (pe_callD D_need_table hr (by decide) (by rfl) (pa_cons (pv 0) pa_nil)))
    (pss_one (ps_ret (pe_callB (w_minD (K := K) (by rfl) rfl hr) (by rfl) B.min PyProof.Rows.boot_min (pa_cons (pe_lc (own := [("order", 1)]) rfl nd (w_piL (K := K) (by rfl) (pe_callD D_all_orders hr (by decide) (by rfl) (pa_cons (pe_callB (w_len (K := K) (by rfl)) (by rfl) B.len PySem.boot_len (pa_cons (pv 0) pa_nil)) pa_nil))) (blkOk_by (by kernel_rfl)) (fun _ _ _ _ _ => (pg_name (i := 1) nd rfl (Or.inl rfl) (Or.inr rfl))) (fun _ _ _ _ _ => pts_nil) (fun _ _ _ _ _ => (pe_tup (pa_cons (pe_callD D_to_order hr (by decide) (by rfl) (pa_cons (pv 0) (pa_cons (pv 1) pa_nil))) (pa_cons (pv 1) pa_nil))))) pa_nil))))), body_ret h ?_⟩
  rintro ⟨n, g, t⟩ ht
  have hl : t.length = n := ht.len
  have n6 : n ≤ 6 := ht.n6
  have hw : WG T (iList K (tCall (sp_all_orders T K) [] E0 (tCons (tCB (rLenS K) (tCons (tVar 0) tNil)) tNil))) (startG 2 [dd (K := K) (pT t)]) (((ordsK n n).map pO).map dd) := wg_list (eg_call n (ea1 ((eg_lenTab vr).is (by rw [hl]))) n6)
  rw [List.map_map] at hw
  have hlen : (ordsK n n).length ≤ 46656 := Nat.le_trans (ordsK_len n n) (Nat.le_trans (Nat.pow_le_pow_left n6 n) (Nat.pow_le_pow_right (by omega : 0 < 6) n6))
  have lc := eg_lcA (T := T) (l := ordsK n n) (enc := fun o => dd (K := K) (pO o)) (g := gName 1) (vs := [1]) (te := tTup (tCons (tCall (sp_to_order T K) [] E0 (tCons (tVar 0) (tCons (tVar 1) tNil))) (tCons (tVar 1) tNil))) (costD t) hw (by omega) (fun _ _ => flat_cost t _) fun o ho => ⟨_, gg_name (by simp), eg_tup (ds := [_, _]) (ea2 (eg_call (n, g, t, o) (ea2 vr vr) ⟨ht, ords_ord.mp ho⟩) vr) (by simp)⟩
  have hid : Lt.IsOrd n (List.range n) := List.Perm.refl _
  refine sr_seq (sn_drop (eg_call (n, g, t) (ea1 vr) ht)) (sr_ret ?_)
  cases hos : ordsK n n with
  | nil =>
    have := ords_ord.mpr hid
    rw [hos] at this
    cases this
  | cons o os =>
    rw [hos] at lc
    obtain ⟨c, c1, c2, c3⟩ := minD_cost (t := t) o os
    rw [← hos] at c1 c3
    refine EG.ep (EG.is (eg_cb (ea1 lc.ld) (cg_minD (show flatA ((o :: os).map (costD t)) = true from flatA_map fun _ _ => flat_cost t _) ⟨fun a ha b hb => ?_, fun a ha => ?_⟩ fun a ha => ?_)) (congrArg dd c2)) ⟨c, rfl, ords_ord.mp c1, fun q hq => c3 q (ords_ord.mpr hq)⟩
    · obtain ⟨x, _, rfl⟩ := List.mem_map.mp (show a ∈ (o :: os).map (costD t) from ha)
      obtain ⟨y, _, rfl⟩ := List.mem_map.mp (show b ∈ (o :: os).map (costD t) from hb)
      simp [costD, alike, alikeAll, alike_pO]
    · obtain ⟨x, _, rfl⟩ := List.mem_map.mp (show a ∈ (o :: os).map (costD t) from ha)
      simp [costD]
    · obtain ⟨x, _, rfl⟩ := List.mem_map.mp (show a ∈ (o :: os).map (costD t) from ha)
      have := dp_pO x
      simp only [costD, PyData.depth, PyData.depthAll]
      omega
end Lw
set_option Elab.async false
set_option linter.all false
set_option maxRecDepth 100000
set_option maxHeartbeats 4000000
/-! the search over lays -/
namespace Lw
open PySem PySem.Spec PyProof.Rows L2
open LamX (ExtN Tabs TabS CodeO TabB)
open PySem.W (dataLe dataLt alike alikeAll)
variable {P : Program} {w : World} {K : PySem.W.Frag} {mg : Str → Option Value} {base : Heap} {T : List (Addr × Str)}
/-! ### dicts told by tables and numbers -/
def kvF (f : List (TT × Nat)) : List (TT × PyData) := f.map fun p => (p.1, .int ((p.2 : Nat) : Int))
theorem kvF_flat (f : List (TT × Nat)) : ∀ p ∈ kvF f, flat p.2 = true := fun p hp => by
  obtain ⟨q, _, rfl⟩ := List.mem_map.mp hp
  rfl
theorem lookT_none {kvs : List (TT × PyData)} {t : TT} (h : t ∉ kvs.map Prod.fst) : lookT kvs t = none := by
  induction kvs with
  | nil => rfl
  | cons p l ih =>
    have h1 : ¬ p.1 = t := fun e => h (by simp [e])
    rw [lookT_neg h1]
    exact ih fun z => h (by simp [z])
theorem lookT_mem {kvs : List (TT × PyData)} {t : TT} {v : PyData} (hn : (kvs.map Prod.fst).Nodup) (h : (t, v) ∈ kvs) : lookT kvs t = some v := by
  induction kvs with
  | nil => cases h
  | cons p l ih =>
    rw [List.map_cons, List.nodup_cons] at hn
    rcases List.mem_cons.mp h with e | e
    · rw [← e]
      exact lookT_pos rfl
    · have h1 : ¬ p.1 = t := fun z => hn.1 (List.mem_map.mpr ⟨_, e, z.symm⟩)
      rw [lookT_neg h1]
      exact ih hn.2 e
theorem keys_kvF (f : List (TT × Nat)) : (kvF f).map Prod.fst = Lt.keys f := by
  unfold kvF Lt.keys
  rw [List.map_map]
  rfl
theorem lookF_none {f : List (TT × Nat)} {t : TT} (h : t ∉ Lt.keys f) : lookT (kvF f) t = none := lookT_none (by rw [keys_kvF]; exact h)
theorem lookF_some {f : List (TT × Nat)} {t : TT} {m : Nat} (hn : (Lt.keys f).Nodup) (h : (t, m) ∈ f) : lookT (kvF f) t = some (.int ((m : Nat) : Int)) := lookT_mem (by rw [keys_kvF]; exact hn) (List.mem_map.mpr ⟨(t, m), h, rfl⟩)
theorem putF {f : List (TT × Nat)} {t : TT} {m : Nat} (h : t ∉ Lt.keys f) : putT (kvF f) t (.int ((m : Nat) : Int)) = kvF (f ++ [(t, m)]) := by
  unfold putT
  rw [lookF_none h]
  simp [kvF]
/-! ### a loop over a list that stays -/
theorem fl_for {i : Nat} {g : TG} {ts : TS} {σ : L2.St} {H : Hp} {D : Ends} {r : Addr} {us : List V} (hv : σ[i]? = some (some (.ref r))) (Pv : Nat → L2.St → Hp → Prop) (h0 : Pv 0 σ H) (hsq : ∀ j σ' H', Pv j σ' H' → SqL K H' r us)
    (step : ∀ j v σ' H', us[j]? = some v → Pv j σ' H' → g v σ' H' fun σ2 H2 => ts { D with nx := Pv (j + 1), ct := Pv (j + 1), bk := D.nx } σ2 H2) (done : ∀ σ' H', Pv us.length σ' H' → D.nx σ' H') : tFor (iList K (tVar i)) g ts D σ H := by
  refine ⟨.ref r, hv, r, rfl, ⟨us, hsq 0 σ H h0⟩, ?_⟩
  refine ⟨fun j m σ' H' => m = us.length - j ∧ j ≤ us.length ∧ Pv j σ' H', ⟨us.length, rfl, Nat.zero_le _, h0⟩, ?_⟩
  rintro j m σ' H' ⟨rfl, hj, pv⟩
  have sq := hsq j σ' H' pv
  by_cases hlt : j < us.length
  · refine .inr ⟨⟨us, us[j], sq, List.getElem?_eq_getElem hlt⟩, fun σ2 H2 => Pv (j + 1) σ2 H2, fun σ2 H2 p2 => ⟨us.length - (j + 1), by omega, rfl, hlt, p2⟩, fun x H2 yy => ?_⟩
    obtain ⟨rfl, hx⟩ := yy
    exact step j x σ' _ (hx us sq) pv
  · have e : j = us.length := by omega
    subst e
    exact .inl ⟨⟨us, sq, Nat.le_refl _⟩, done σ' H' pv⟩
theorem ok_put {σ : L2.St} {H : Hp} {Γ : Gam K} {i : Nat} {v : V} {x : Dsc K} (ok : Ok T σ H Γ) (hv : σ[i]? = some (some v)) (hx : x.den v H) : Ok T σ H (Γ.set i (some x)) := by
  have := ok.set (v := v) (x := x) i hx
  have e : σ.set i (some v) = σ := by
    apply List.ext_getElem?
    intro j
    by_cases q : i = j
    · subst q
      rw [hv, List.getElem?_set_self (List.getElem?_eq_some_iff.mp hv).1]
    · rw [List.getElem?_set_ne q]
  rw [e] at this
  exact this
theorem nx_new {H0 H : Hp} {D : Addr} {o : HO} (n : Nx T H0 H) (h : New H0 D) (tb : Tabs T (upd H D o)) : Nx T H0 (upd H D o) := ⟨fun b u e q => by
  rw [upd_ne (h b u e q)]
  exact n.kp b u e q, tb⟩
/-! ### the search's state -/
structure LS (T : List (Addr × Str)) (P : Program) (w : World) (H0 : Hp) (F r L : Addr) (Γ : Gam K) (found : List (TT × Nat)) (rim later : List TT) (σ : L2.St) (H : Hp) : Prop where
  ok : Ok T σ H Γ
  nx : Nx T H0 H
  kd : KD P w K H F (kvF found)
  rm : ∃ us, H r = some (.lst us) ∧ DpAll K H us (rim.map pT)
  lt : ∃ us, H L = some (.lst us) ∧ DpAll K H us (later.map pT)
section
variable {H0 H H' : Hp} {F r L : Addr} {Γ Γ' : Gam K} {found : List (TT × Nat)} {rim later : List TT} {σ σ' : L2.St}
theorem flats (l : List TT) : flatA (l.map pT) = true := flatA_map fun t _ => flat_pT t
theorem LS.go (s : LS T P w H0 F r L Γ found rim later σ H) (n : Nx T H H') : LS T P w H0 F r L Γ found rim later σ H' :=
  ⟨s.ok.go n, s.nx.trans n, s.kd.go n.kp, let ⟨us, a, b⟩ := s.rm; ⟨us, n.kp r _ a nl, dpAll_mono n.kp _ _ b⟩, let ⟨us, a, b⟩ := s.lt; ⟨us, n.kp L _ a nl, dpAll_mono n.kp _ _ b⟩⟩
theorem LS.slots (s : LS T P w H0 F r L Γ found rim later σ H) (ok : Ok T σ' H Γ') : LS T P w H0 F r L Γ' found rim later σ' H := ⟨ok, s.nx, s.kd, s.rm, s.lt⟩
theorem LS.put {o' : Obj} {t : TT} {m : Nat} (s : LS T P w H0 F r L Γ found rim later σ H) (fl : Fl Γ) (nF : New H0 F) (ht : t ∉ Lt.keys found) (h : KDo P w K (upd H F (xO F o')) F o' (putT (kvF found) t (.int ((m : Nat) : Int)))) :
    LS T P w H0 F r L Γ (found ++ [(t, m)]) rim later σ (upd H F (xO F o')) := by
  obtain ⟨o, k⟩ := s.kd
  have tb : Tabs T (upd H F (xO F o')) := Tabs.mutX s.ok.tb k
  have tk := sqT_ext (K := K) (o' := xO F o') k.at'
  have ne : ∀ {b : Addr} {us : List V}, H b = some (.lst us) → b ≠ F := fun e z => by
    rw [z, k.at'] at e
    cases e
  rw [putF ht] at h
  obtain ⟨us, a1, a2⟩ := s.rm
  obtain ⟨vs, b1, b2⟩ := s.lt
  exact ⟨ok_tk s.ok fl tk tb, nx_new s.nx nF tb, ⟨o', h⟩, ⟨us, by rw [upd_ne (ne a1)]; exact a1, dpa_flat tk _ _ (flats _) a2⟩, ⟨vs, by rw [upd_ne (ne b1)]; exact b1, dpa_flat tk _ _ (flats _) b2⟩⟩
theorem LS.app {us : List V} {v : V} {t : TT} (s : LS T P w H0 F r L Γ found rim later σ H) (fl : Fl Γ) (nL : New H0 L) (hrL : r ≠ L) (hu : H L = some (.lst us)) (hd : DpAll K H us (later.map pT)) (hv : Dp K H v (pT t)) :
    LS T P w H0 F r L Γ found rim (later ++ [t]) σ (upd H L (.lst (us ++ [v]))) := by
  obtain ⟨o, k⟩ := s.kd
  have tb : Tabs T (upd H L (.lst (us ++ [v]))) := Nx.tabL (H1 := H) s.ok.tb hu
  have tk := sqT_updL (K := K) (o := .lst (us ++ [v])) hu
  have hF : F ≠ L := fun z => by
    have := k.at'
    rw [z, hu] at this
    cases this
  obtain ⟨ws, a1, a2⟩ := s.rm
  refine ⟨ok_tk s.ok fl tk tb, nx_new s.nx nL tb, ⟨o, k.tup tk (kvF_flat _) (upd_ne hF)⟩, ⟨ws, by rw [upd_ne hrL]; exact a1, dpa_flat tk _ _ (flats _) a2⟩, ⟨_, upd_same, ?_⟩⟩
  rw [List.map_append]
  exact dpa_app (dpa_flat tk _ _ (flats _) hd) (.cons (dp_flat tk _ _ (flat_pT t) hv) .nil)
end
/-! ### spread_lays -/
def tlay (here : TT) (i k : Nat) : TT := if i = k then here else Lt.laid here i k
def Lone (n : Nat) (here : TT) (i : Nat) : List TT := (List.range i).flatMap fun a => (List.range n).map (tlay here a)
def Lrim (n : Nat) (rim : List TT) (j : Nat) : List TT := (rim.take j).flatMap fun h => Lone n h n
theorem Lone_succ (n : Nat) (here : TT) (i : Nat) : Lone n here (i + 1) = Lone n here i ++ (List.range n).map (tlay here i) := by
  unfold Lone
  rw [List.range_succ, List.flatMap_append]
  simp
theorem Lrim_succ {n : Nat} {rim : List TT} {j : Nat} {h : TT} (e : rim[j]? = some h) : Lrim n rim (j + 1) = Lrim n rim j ++ Lone n h n := by
  unfold Lrim
  rw [List.take_add_one, e, List.flatMap_append]
  simp
structure LysPre (n g : Nat) (t : TT) : Prop where
  wf : Lt.WF n g t
  n1 : 1 ≤ n
  n6 : n ≤ 6
  g1 : 1 ≤ g
  g5 : g ≤ 5
  few : Lt.fac n ^ g ≤ 1296
def LysPost (n : Nat) (t : TT) (f : List (TT × Nat)) : Prop := Lt.Far (Lt.LayR n) t f
abbrev sp_spread_lays (P : Program) (w : World) (T : List (Addr × Str)) (K : PySem.W.Frag) : Sp := Pr T (fun v : Nat × Nat × TT => [dd (K := K) (pT v.2.2)]) (fun v => LysPre v.1 v.2.1 v.2.2) fun v y => ∃ f, y = kdd P w K (kvF f) ∧ LysPost v.1 v.2.2 f
theorem lys_few {n g d : Nat} {t : TT} {f : List (TT × Nat)} {rim : List TT} (h : LysPre n g t) (l : Lt.Lvl (Lt.LayR n) t d f rim) : f.length ≤ 1296 := by
  have h1 := Lt.count_most h.wf (ks := Lt.keys f) l.nodup fun u hu => by
    obtain ⟨m, hm⟩ := Lt.mem_keys.mp hu
    exact Lt.lays_kin h.wf (l.dist u m hm).1.1
  have h2 : (Lt.keys f).length = f.length := by
    unfold Lt.keys
    rw [List.length_map]
  have := h.few
  omega
theorem lys_wf {n g d : Nat} {t u : TT} {f : List (TT × Nat)} {rim : List TT} {m : Nat} (h : LysPre n g t) (l : Lt.Lvl (Lt.LayR n) t d f rim) (hu : (u, m) ∈ f) : Lt.WF n g u := (Lt.lays_kin h.wf (l.dist u m hu).1.1).wf
theorem tl_kin {n g d : Nat} {t here : TT} {f : List (TT × Nat)} {rim : List TT} (h : LysPre n g t) (l : Lt.Lvl (Lt.LayR n) t d f rim) (hm : here ∈ rim) {a b : Nat} (ha : a < n) (hb : b < n) : Lt.Kin n g t (tlay here a b) := by
  have k := Lt.lays_kin h.wf (l.dist here d ((l.rim here).mp hm)).1.1
  unfold tlay
  by_cases e : a = b
  · rw [if_pos e]
    exact k
  · rw [if_neg e]
    exact k.trans (Lt.lay_kin k.wf ⟨a, b, ha, hb, e, rfl⟩)
theorem lr_kin {n g d j i k : Nat} {t here q : TT} {f : List (TT × Nat)} {rim : List TT} (h : LysPre n g t) (l : Lt.Lvl (Lt.LayR n) t d f rim) (hm : here ∈ rim) (hi : i < n) (hk : k ≤ n) (hq : q ∈ Lrim n rim j ++ Lone n here i ++ (List.range k).map (tlay here i)) : Lt.Kin n g t q := by
  have one : ∀ x ∈ rim, ∀ m, m ≤ n → q ∈ Lone n x m → Lt.Kin n g t q := fun x hx m hm' hq => by
    unfold Lone at hq
    obtain ⟨a, ha, hq⟩ := List.mem_flatMap.mp hq
    obtain ⟨b, hb, rfl⟩ := List.mem_map.mp hq
    exact tl_kin h l hx (by have := List.mem_range.mp ha; omega) (List.mem_range.mp hb)
  rcases List.mem_append.mp hq with hq | hq
  · rcases List.mem_append.mp hq with hq | hq
    · unfold Lrim at hq
      obtain ⟨x, hx, hq⟩ := List.mem_flatMap.mp hq
      exact one x (List.mem_of_mem_take hx) n (Nat.le_refl _) hq
    · exact one here hm i (by omega) hq
  · obtain ⟨b, hb, rfl⟩ := List.mem_map.mp hq
    exact tl_kin h l hm hi (by have := List.mem_range.mp hb; omega)
/-- a level's end -/
theorem lys_next {n g d : Nat} {t : TT} {f : List (TT × Nat)} {rim : List TT} {acc : List (TT × Nat) × List TT} (h : LysPre n g t) (l : Lt.Lvl (Lt.LayR n) t d f rim) (p : Lt.Puts (d + 1) f (Lrim n rim rim.length) acc) : Lt.Lvl (Lt.LayR n) t (d + 1) acc.1 acc.2 := by
  refine l.next (fun y hy => ?_) (fun x hx y hr => ?_) p
  · unfold Lrim Lone at hy
    rw [List.take_length] at hy
    obtain ⟨x, hx, hy⟩ := List.mem_flatMap.mp hy
    obtain ⟨a, ha, hy⟩ := List.mem_flatMap.mp hy
    obtain ⟨b, hb, rfl⟩ := List.mem_map.mp hy
    refine ⟨x, hx, ?_⟩
    unfold tlay
    by_cases e : a = b
    · exact .inr (by rw [if_pos e])
    · rw [if_neg e]
      exact .inl ⟨a, b, List.mem_range.mp ha, List.mem_range.mp hb, e, rfl⟩
  · obtain ⟨a, b, ha, hb, hab, rfl⟩ := hr
    unfold Lrim Lone
    rw [List.take_length]
    refine List.mem_flatMap.mpr ⟨x, hx, List.mem_flatMap.mpr ⟨a, List.mem_range.mpr ha, List.mem_map.mpr ⟨b, List.mem_range.mpr hb, ?_⟩⟩⟩
    unfold tlay
    rw [if_neg hab]
def ga (t : TT) (n : Nat) (F r L : Addr) (a b c d : Option (Dsc K)) : Gam K := [some (dd (pT t)), some (dd (.int n)), some (isR F), some (isR r), some (isR L), a, b, c, d]
theorem fl_ga (t : TT) (n : Nat) (F r L : Addr) (h i j u : TT) : True := trivial
theorem ga_fl {t : TT} {n : Nat} {F r L : Addr} {a b c d : Option (Dsc K)} (ha : ∀ x, a = some x → Tst x) (hb : ∀ x, b = some x → Tst x) (hc : ∀ x, c = some x → Tst x) (hd : ∀ x, d = some x → Tst x) : Fl (ga t n F r L a b c d) := fun i x e => by
  match i, e with
  | 0, e => cases e; exact tst_flat (flat_pT _)
  | 1, e => cases e; exact tst_flat rfl
  | 2, e => cases e; exact tst_isR _
  | 3, e => cases e; exact tst_isR _
  | 4, e => cases e; exact tst_isR _
  | 5, e => exact ha x (Option.some.inj e)
  | 6, e => exact hb x (Option.some.inj e)
  | 7, e => exact hc x (Option.some.inj e)
  | 8, e => exact hd x (Option.some.inj e)
  | i + 9, e => cases e
theorem tsN : ∀ x : Dsc K, (none : Option (Dsc K)) = some x → Tst x := fun x e => by cases e
theorem tsT (t : TT) : ∀ x : Dsc K, some (dd (pT t)) = some x → Tst x := fun x e => by cases e; exact tst_flat (flat_pT t)
theorem tsI (i : Int) : ∀ x : Dsc K, some (dd (.int i)) = some x → Tst x := fun x e => by cases e; exact tst_flat rfl
theorem sc_spread_lays : FnScope ["table", "many", "found", "rim", "later", "here", "one", "other", "told"] ["table"] (defScope (topS 50)) := ⟨rfl, rfl, rfl, by decide +kernel, rfl, by decide +kernel, by decide +kernel⟩
theorem d_spread_lays (B : Bts mg) (C : Csts mg) (D_laid : Def P w K mg base 1 "laid" ["table", "one", "other"] (sp_laid T K)) (R : Raw mg K "spread_lays" (topS 50)) : Def P w K mg base 2 "spread_lays" ["table"] (sp_spread_lays P w T K) := by
  refine def_of R sc_spread_lays (fun _ _ _ _ _ _ us hl => match us, hl with | [_], _ => rfl) (fun vs H Q E h => Pr.len (n := 1) (fun _ => rfl) h) fun f cdv A outer s H vs Q E hr h => ?_
  have nd := sc_spread_lays.nd
  refine ⟨_, (pss_cons (ps_par3 (i := 1) (j := 2) (l := 3) rfl nd rfl rfl rfl (by decide) (by decide) (by decide) rfl rfl rfl (pa_cons (pe_callB (w_len (K := K) (by rfl)) (by rfl) B.len PySem.boot_len (pa_cons (pv 0) pa_nil)) (pa_cons (pe_xnew1 hr.units (pv 0) pe_int) (pa_cons (pe_lst (pa_cons (pv 0) pa_nil)) pa_nil))) (by rfl))
    (pss_cons (ps_while PassesOwn.never (pt_cmpR (w_neD (K := K) (by rfl) hr) (pv 3) (pe_lst pa_nil) (nomark _))
     (pss_cons (ps_set (i := 4) nd rfl (Or.inl rfl) (pe_lst pa_nil))
     (pss_cons (ps_for PassesOwn.never rfl (w_piL (K := K) (by rfl) (pv 3)) (pg_name (i := 5) nd rfl (Or.inl rfl) (Or.inr rfl))
      (pss_one (ps_for PassesOwn.never rfl (pi_range1 (by rfl) B.range (pa_cons (pv 1) pa_nil)) (pg_name (i := 6) nd rfl (Or.inl rfl) (Or.inr rfl))
       (pss_one (ps_for PassesOwn.never rfl (pi_range1 (by rfl) B.range (pa_cons (pv 1) pa_nil)) (pg_name (i := 7) nd rfl (Or.inl rfl) (Or.inr rfl))
        (pss_cons (ps_set (i := 8) nd rfl (Or.inl rfl) (pe_ifExp (pt_cmpR (w_neD (K := K) (by rfl) hr) (pv 6) (pv 7) (nomark _)) (pe_callD D_laid hr (by decide) (by rfl) (pa_cons (pv 5) (pa_cons (pv 6) (pa_cons (pv 7) pa_nil)))) (pv 5)))
        (pss_one (ps_if (pt_cmp (w_xnotin (P := P) (w := w) (K := K) (by rfl) (by rfl) (by rfl) hr (pv 8) (pv 2))) (pss_cons (ps_xput hr.units (pv 2) (pv 8) (pe_op op_add (w_xget (P := P) (w := w) (K := K) (by rfl) (by rfl) (by rfl) hr (pv 2) (pv 5) (fun _ _ => rfl)) pe_int) rfl)
         (pss_one (ps_expr (pe_bm PySem.F.plainAttrs_list PySem.F.slot_list_append PySem.F.type_list_append mt_append (pv 4) (pa_cons (pv 8) pa_nil))))) pss_nil))))))))
     (pss_cons (ps_set (i := 3) nd rfl (Or.inl rfl) (pv 4))
     (pss_one (ps_if (pt_cmpR op_gt (pe_callB (w_lenX (P := P) (w := w) (K := K) (by rfl) (by rfl) (by rfl)) (by rfl) B.len PySem.boot_len (pa_cons (pv 2) pa_nil)) (pe_glob (v := .int 3000) (by rfl) C.lays.choose_spec ⟨_, rfl⟩) (nomark _)) (pss_one ps_never) pss_nil))))))
    (pss_one (ps_ret (pv 2))))), body_ret h ?_⟩
  rintro ⟨n, g, t⟩ hpre
  have hpre : LysPre n g t := hpre
  have ht := hpre.wf
  have hl : t.length = n := ht.1
  have n6 := hpre.n6
  have g5 := hpre.g5
  intro D σ H0 ok kk
  refine (eg_lenTab (T := T) (K := K) (Γ := startG 9 [dd (pT t)]) (vr (i := 0))) σ H0 ok _ fun vn H1 n1 d1 => ?_
  have en := dp_int d1
  rw [hl] at en
  subst en
  intro F o hF k0
  obtain ⟨v0, e0, d0⟩ := ok_val (ok.go n1) (i := 0) rfl
  have nF1 : Nx T H1 (upd H1 F (xO F o)) := Nx.new n1.tb hF
  refine ⟨v0, e0, upd_same, t, .int 0, dp_mono nF1.kp _ _ d0, rfl, .int 0, fun o1 k1 => ?_⟩
  have newF : New H0 F := New.back n1.kp hF
  generalize hH2 : upd (upd H1 F (xO F o)) F (xO F o1) = H2 at k1
  have n2 : Nx T H1 H2 := by
    rw [← hH2]
    exact nF1.mutX hF k0
  obtain ⟨v0', e0', d0'⟩ := ok_val (ok.go (n1.trans n2)) (i := 0) rfl
  refine ⟨v0', e0', (show (1 : Nat) ≤ sizeLine by rw [sizeLine_eq]; omega), fun r hr => ?_⟩
  have n3 : Nx T H2 (upd H2 r (.lst [v0'])) := Nx.new n2.tb hr
  generalize hH3 : upd H2 r (.lst [v0']) = H3 at n3
  have hr3 : H3 r = some (.lst [v0']) := by rw [← hH3]; exact upd_same
  have n03 := n1.trans (n2.trans n3)
  refine ⟨_, _, _, rfl, ?_⟩
  -- the while loop's state
  let St : Nat → L2.St → Hp → Prop := fun m σ' H' => ∃ (d : Nat) (f : List (TT × Nat)) (rim : List TT) (r : Addr), Lt.Lvl (Lt.LayR n) t d f rim ∧ m = 2 * (1296 - f.length) + (if rim = [] then 0 else 1) ∧
    ∃ L, LS T P w H0 F r L ([some (dd (pT t)), some (dd (.int n)), some (isR F), some (isR r), none, none, none, none, none] : Gam K) f rim rim σ' H'
  refine ⟨St, ⟨_, 0, [(t, 0)], [t], r, Lt.Lvl.start, rfl, r, ?_⟩, ?_⟩
  · have okA : Ok T (((σ.set 1 (some (.int n))).set 2 (some (.ref F))).set 3 (some (.ref r))) H3 ([some (dd (pT t)), some (dd (.int n)), some (isR F), some (isR r), none, none, none, none, none] : Gam K) :=
      (((ok.go n03).set (x := dd (.int n)) 1 (.int _)).set (x := isR F) 2 rfl).set (x := isR r) 3 rfl
    have hrm : ∃ us, H3 r = some (.lst us) ∧ DpAll K H3 us ([t].map pT) := ⟨_, hr3, .cons (dp_mono n3.kp _ _ d0') .nil⟩
    exact ⟨okA, n03, ⟨o1, KDo.go n3.kp k1⟩, hrm, hrm⟩
  rintro m σ1 H1' ⟨d, f, rim, r, lvl, rfl, L0, s⟩
  have hfew := lys_few hpre lvl
  -- the test
  obtain ⟨us, hus, dus⟩ := s.rm
  obtain ⟨v3, e3, d3⟩ := ok_val s.ok (i := 3) rfl
  have d3 : v3 = .ref r := d3
  subst d3
  have ok3 := ok_put (x := dd (.list (rim.map pT))) s.ok e3 (dp_newL hus dus)
  have htest : ET T (tTest (tOp (rNeD K) (tVar 3) (tLst tNil))) _ (!decide (rim = [])) := et_test (eg_op (x := dd (.list (rim.map pT))) (vr (Γ := ([some (dd (pT t)), some (dd (.int n)), some (isR F), some (isR r), none, none, none, none, none] : Gam K).set 3 (some (dd (.list (rim.map pT))))) (i := 3)) (en_lst (ds := []) ea_nil (by simp)).eg.ld (rg_neD (sh_listA (k := 2) (plA_map fun t _ => pl_pT t) (fun d hd => by
    obtain ⟨t, _, rfl⟩ := List.mem_map.mp hd
    exact dp_pT t) (by omega)) (sh_listA (k := 0) rfl (fun d hd => by cases hd) (by omega)) (by
      rw [eqv_dec (p := rim = []) (by unfold pl; exact plA_map fun t _ => pl_pT t) rfl (by simp)])))
  refine htest σ1 H1' ok3 _ fun H4 n4 => ?_
  have s4 := s.go n4
  by_cases hrim : rim = []
  · rw [decide_eq_true hrim]
    show tRet (tVar 2) D σ1 H4
    obtain ⟨v2, e2, d2⟩ := ok_val s4.ok (i := 2) rfl
    have d2 : v2 = .ref F := d2
    subst d2
    exact ⟨_, e2, kk (kdd P w K (kvF f)) _ _ ⟨f, rfl, by rw [hrim] at lvl; exact lvl.done⟩ s4.nx ⟨F, rfl, s4.kd⟩⟩
  rw [decide_eq_false hrim]
  refine ⟨fun σ' H' => ∃ m', m' < 2 * (1296 - f.length) + (if rim = [] then 0 else 1) ∧ St m' σ' H', fun σ' H' h => h, ?_⟩
  -- later = []
  refine ⟨by decide, fun L hL => ?_⟩
  have newL : New H0 L := New.back s4.nx.kp hL
  have n5 : Nx T H4 (upd H4 L (.lst [])) := Nx.new n4.tb hL
  generalize hH5 : upd H4 L (.lst []) = H5 at n5
  have hL5 : H5 L = some (.lst []) := by rw [← hH5]; exact upd_same
  have s5 := s4.go n5
  have hrL : r ≠ L := ne_of_none (n4.kp r _ hus nl) hL
  have hus5 : H5 r = some (.lst us) := (n4.trans n5).kp r _ hus nl
  have sA : LS T P w H0 F r L (ga (K := K) t n F r L none none none none) f rim [] (σ1.set 4 (some (.ref L))) H5 := ⟨s5.ok.set (x := isR L) 4 rfl, s5.nx, s5.kd, s5.rm, ⟨[], hL5, .nil⟩⟩
  -- for here in rim
  refine fl_for (r := r) (us := us) (i := 3) ?_ (fun j σ' H' => ∃ acc, Lt.Puts (d + 1) f (Lrim n rim j) acc ∧ H' r = some (.lst us) ∧ DpAll K H' us (rim.map pT) ∧ LS T P w H0 F r L (ga (K := K) t n F r L none none none none) acc.1 rim acc.2 σ' H') ⟨(f, []), Lt.Puts.nil lvl.nodup, hus5, dpAll_mono (n4.trans n5).kp _ _ dus, sA⟩ (fun j σ' H' h => .inl (.inl h.choose_spec.2.1)) (fun j v σ' H' hv h => ?_) (fun σ' H' h => ?_)
  · obtain ⟨v, e, dv⟩ := ok_val sA.ok (i := 3) rfl
    have dv : v = .ref r := dv
    rw [dv] at e
    exact e
  · obtain ⟨acc, pp, hr', dr', s'⟩ := h
    obtain ⟨dh, eh, dvh⟩ := dpa_atV dr' hv
    rw [List.getElem?_map] at eh
    obtain ⟨here, ehere, rfl⟩ := Option.map_eq_some_iff.mp eh
    have hmem : here ∈ rim := List.mem_of_getElem? ehere
    have hd0 : (here, d) ∈ f := (lvl.rim here).mp hmem
    have hwf := lys_wf hpre lvl hd0
    have hhl : here.length = n := hwf.1
    -- here
    refine fa_for (T := T) (K := K) (Γ := ga (K := K) t n F r L (some (dd (pT here))) none none none) (wq_range1 (ea1 (vr (i := 1))) (by omega)) (s'.ok.set (x := dd (pT here)) 5 dvh) (fun Hb i σ2 H2 => ∃ acc, Lt.Puts (d + 1) f (Lrim n rim j ++ Lone n here i) acc ∧ TK K Hb H2 ∧ H2 r = some (.lst us) ∧ DpAll K H2 us (rim.map pT) ∧ LS T P w H0 F r L (ga (K := K) t n F r L (some (dd (pT here))) none none none) acc.1 rim acc.2 σ2 H2)
      (fun Hb nb => ⟨acc, by simpa [Lone] using pp, fun _ _ h => h, nb.kp r _ hr' nl, dpAll_mono nb.kp _ _ dr', (s'.slots (s'.ok.set (x := dd (pT here)) 5 dvh)).go nb⟩) (fun Hb nb i σ2 H2 h => ⟨h.choose_spec.2.1, h.choose_spec.2.2.2.2.ok.tb⟩) (fun Hb nb i y σ2 H2 v2 H3 hy h n6' dv2 => ?_) (fun Hb nb σ2 H2 h => ?_)
    · obtain ⟨acc, pp, tk2, hr2, dr2, s2⟩ := h
      have hi : i < n := by
        have := (List.getElem?_eq_some_iff.mp hy).1
        simpa using this
      rw [List.getElem?_map, List.getElem?_range hi] at hy
      obtain rfl := (Option.some.inj hy).symm
      have s2' := (s2.go n6').slots ((s2.go n6').ok.set (x := dd (.int (i : Nat))) 6 dv2)
      refine fa_for (T := T) (K := K) (Γ := ga (K := K) t n F r L (some (dd (pT here))) (some (dd (.int (i : Nat)))) none none) (wq_range1 (ea1 (vr (i := 1))) (by omega)) s2'.ok (fun Hc k σ3 H3 => ∃ acc, Lt.Puts (d + 1) f (Lrim n rim j ++ Lone n here i ++ (List.range k).map (tlay here i)) acc ∧ TK K Hc H3 ∧ H3 r = some (.lst us) ∧ DpAll K H3 us (rim.map pT) ∧ LS T P w H0 F r L (ga (K := K) t n F r L (some (dd (pT here))) (some (dd (.int (i : Nat)))) none none) acc.1 rim acc.2 σ3 H3)
        (fun Hc nc => ⟨acc, by simpa using pp, fun _ _ h => h, (n6'.trans nc).kp r _ hr2 nl, dpAll_mono (n6'.trans nc).kp _ _ dr2, s2'.go nc⟩) (fun Hc nc k σ3 H3 h => ⟨h.choose_spec.2.1, h.choose_spec.2.2.2.2.ok.tb⟩) (fun Hc nc k y σ3 H3' v3 H4' hy h n7 dv3 => ?_) (fun Hc nc σ3 H3' h => ?_)
      · obtain ⟨acc, pp, tk3, hr3', dr3, s3⟩ := h
        have hk : k < n := by
          have := (List.getElem?_eq_some_iff.mp hy).1
          simpa using this
        rw [List.getElem?_map, List.getElem?_range hk] at hy
        obtain rfl := (Option.some.inj hy).symm
        have s3' := (s3.go n7).slots ((s3.go n7).ok.set (x := dd (.int (k : Nat))) 7 dv3)
        have egT : EG T (tIf (tTest (tOp (rNeD K) (tVar 6) (tVar 7))) (tCall (sp_laid T K) [] E0 (tCons (tVar 5) (tCons (tVar 6) (tCons (tVar 7) tNil)))) (tVar 5)) (ga (K := K) t n F r L (some (dd (pT here))) (some (dd (.int (i : Nat)))) (some (dd (.int (k : Nat)))) none) (dd (pT (tlay here i k))) := by
          refine eg_if (et_test (et_nI (vr (i := 6)) (vr (i := 7)))) (fun e => ?_) fun e => ?_
          · have hne : i ≠ k := fun z => by rw [z] at e; simp at e
            unfold tlay
            rw [if_neg hne]
            exact eg_call (here, i, k) (ea3 vr vr vr) ⟨by rw [hhl]; exact hi, by rw [hhl]; exact hk, by rw [hhl]; omega, fun q hq => by have := hwf.2 q hq; omega⟩
          · have he : i = k := by
              have : decide (((i : Nat) : Int) = ((k : Nat) : Int)) = true := by simpa using e
              have := of_decide_eq_true this
              omega
            unfold tlay
            rw [if_pos he]
            exact vr
        refine egT (σ3.set 7 (some v3)) H4' s3'.ok _ fun v8 H5' n8 d8 => ?_
        have s8 := (s3'.go n8).slots ((s3'.go n8).ok.set (x := dd (pT (tlay here i k))) 8 d8)
        have n78 := n7.trans n8
        -- if told not in found
        obtain ⟨w8, e8, x8⟩ := ok_val s8.ok (i := 8) rfl
        obtain ⟨w2, e2, x2⟩ := ok_val s8.ok (i := 2) rfl
        obtain ⟨w4, e4, x4⟩ := ok_val s8.ok (i := 4) rfl
        obtain ⟨w5, e5, x5⟩ := ok_val s8.ok (i := 5) rfl
        have x2 : w2 = .ref F := x2
        have x4 : w4 = .ref L := x4
        subst x2 x4
        refine ⟨w8, e8, .ref F, e2, F, kvF acc.1, tlay here i k, rfl, s8.kd, x8, _, rfl, ?_⟩
        have eR : Lrim n rim j ++ Lone n here i ++ (List.range (k + 1)).map (tlay here i) = Lrim n rim j ++ Lone n here i ++ (List.range k).map (tlay here i) ++ [tlay here i k] := by
          rw [List.range_succ, List.map_append, ← List.append_assoc]
          rfl
        have pnext := pp.snoc (tlay here i k)
        rw [← eR] at pnext
        by_cases hin : tlay here i k ∈ Lt.keys acc.1
        · obtain ⟨m0, hm0⟩ := Lt.mem_keys.mp hin
          rw [lookF_some pp.nodup hm0]
          have ep : Lt.put (d + 1) acc (tlay here i k) = acc := by unfold Lt.put; rw [if_pos hin]
          rw [ep] at pnext
          refine ⟨acc, pnext, fun b xs h => tk_of n78.kp _ _ (tk3 _ _ h), n78.kp r _ hr3' nl, dpAll_mono n78.kp _ _ dr3, s8.slots (s8.ok.weak rfl fun j x e => ?_)⟩
          match j, e with
          | 0, e => exact e
          | 1, e => exact e
          | 2, e => exact e
          | 3, e => exact e
          | 4, e => exact e
          | 5, e => exact e
          | 6, e => exact e
          | 7, e => cases e
          | 8, e => cases e
          | j + 9, e => cases e
        · rw [lookF_none hin]
          have hdacc : (here, d) ∈ acc.1 := by rw [pp.eq]; exact List.mem_append_left _ hd0
          have elk : lookT (kvF acc.1) here = some (.int ((d : Nat) : Int)) := lookF_some pp.nodup hdacc
          have hfl := ga_fl (K := K) (t := t) (n := n) (F := F) (r := r) (L := L) (tsT here) (tsI (i : Nat)) (tsI (k : Nat)) (tsT (tlay here i k))
          have hsz : (kvF acc.1).length < sizeLine := by
            have h1 := pp.length
            have h2 : (kvF acc.1).length = acc.1.length := by unfold kvF; rw [List.length_map]
            have h3 := Lt.count_most ht (ks := Lt.keys acc.1) pp.nodup fun u hu => by
              obtain ⟨m, hm⟩ := Lt.mem_keys.mp hu
              rw [pp.eq] at hm
              rcases List.mem_append.mp hm with z | z
              · exact Lt.lays_kin ht (lvl.dist u m z).1.1
              · obtain ⟨q, hq, e⟩ := List.mem_map.mp z
                cases e
                exact lr_kin hpre lvl hmem hi (by omega) (pp.mem u hq).1
            have h4 : (Lt.keys acc.1).length = acc.1.length := by unfold Lt.keys; rw [List.length_map]
            have := hpre.few
            rw [sizeLine_eq]
            omega
          refine ⟨.ref F, e2, w5, e5, F, kvF acc.1, here, .int ((d : Nat) : Int), rfl, s8.kd, x5, elk, fun rr hrr => ?_⟩
          have hrr := dp_int hrr
          subst hrr
          refine ⟨(d : Nat), 1, rfl, rfl, .ref F, e2, w8, e8, F, kvF acc.1, tlay here i k, .int (((d + 1 : Nat)) : Int), rfl, s8.kd, kvF_flat _, x8, rfl, .int _, hsz, fun o' ko' => ?_⟩
          have s9 := s8.put hfl newF hin ko'
          obtain ⟨us9, hu9, du9⟩ := s9.lt
          obtain ⟨w8', e8', x8'⟩ := ok_val s9.ok (i := 8) rfl
          refine ⟨.ref L, e4, .inl ⟨rfl, _, .inl (.inl hu9)⟩, w8', e8', L, us9, w8', rfl, rfl, hu9, ?_, ?_⟩
          · rw [dpa_len du9, List.length_map]
            have h1 := pp.length
            have h2 : (kvF acc.1).length = acc.1.length := by unfold kvF; rw [List.length_map]
            omega
          · have s10 := s9.app hfl newL hrL hu9 du9 x8'
            have ep : Lt.put (d + 1) acc (tlay here i k) = (acc.1 ++ [(tlay here i k, d + 1)], acc.2 ++ [tlay here i k]) := by unfold Lt.put; rw [if_neg hin]
            rw [ep] at pnext
            obtain ⟨oo, ko⟩ := s8.kd
            have t1 := sqT_ext (K := K) (o' := xO F o') ko.at'
            have t2 := sqT_updL (K := K) (o := .lst (us9 ++ [w8'])) hu9
            have hrF : r ≠ F := fun z => by
              have a := n78.kp r _ hr3' nl
              rw [z, ko.at'] at a
              cases a
            refine ⟨_, pnext, fun b xs h => t2 _ _ (t1 _ _ (tk_of n78.kp _ _ (tk3 _ _ h))), ?_, dpa_flat t2 _ _ (flats _) (dpa_flat t1 _ _ (flats _) (dpAll_mono n78.kp _ _ dr3)), s10.slots (s10.ok.weak rfl fun j x e => ?_)⟩
            · rw [upd_ne hrL, upd_ne hrF]
              exact n78.kp r _ hr3' nl
            · match j, e with
              | 0, e => exact e
              | 1, e => exact e
              | 2, e => exact e
              | 3, e => exact e
              | 4, e => exact e
              | 5, e => exact e
              | 6, e => exact e
              | 7, e => cases e
              | 8, e => cases e
              | j + 9, e => cases e
      · obtain ⟨acc, pp, tk3, hr3', dr3, s3⟩ := h
        rw [List.length_map, List.length_range] at pp
        refine ⟨acc, by rw [Lone_succ, ← List.append_assoc]; exact pp, fun b xs h => tk3 _ _ (tk_of nc.kp _ _ (tk_of n6'.kp _ _ (tk2 _ _ h))), hr3', dr3, s3.slots (s3.ok.weak rfl fun j x e => ?_)⟩
        match j, e with
        | 0, e => exact e
        | 1, e => exact e
        | 2, e => exact e
        | 3, e => exact e
        | 4, e => exact e
        | 5, e => exact e
        | 6, e => cases e
        | 7, e => cases e
        | 8, e => cases e
        | j + 9, e => cases e
    · obtain ⟨acc, pp, tk2, hr2, dr2, s2⟩ := h
      rw [List.length_map, List.length_range] at pp
      refine ⟨acc, by rw [Lrim_succ ehere]; exact pp, hr2, dr2, s2.slots (s2.ok.weak rfl fun j x e => ?_)⟩
      match j, e with
      | 0, e => exact e
      | 1, e => exact e
      | 2, e => exact e
      | 3, e => exact e
      | 4, e => exact e
      | 5, e => cases e
      | 6, e => cases e
      | 7, e => cases e
      | 8, e => cases e
      | j + 9, e => cases e
  · obtain ⟨acc, pp, hr', dr', s'⟩ := h
    have hul : us.length = rim.length := by rw [dpa_len dr', List.length_map]
    rw [hul] at pp
    have lvl' := lys_next hpre lvl pp
    have hfew' := lys_few hpre lvl'
    have hlen' := pp.length
    obtain ⟨w4, e4, x4⟩ := ok_val s'.ok (i := 4) rfl
    have x4 : w4 = .ref L := x4
    subst x4
    -- rim = later
    refine ⟨.ref L, e4, ?_⟩
    obtain ⟨w2, e2, x2⟩ := ok_val (s'.ok.set (x := isR L) 3 rfl) (i := 2) rfl
    have x2 : w2 = .ref F := x2
    subst x2
    refine ⟨.ref F, e2, F, kvF acc.1, rfl, s'.kd, _, 3000, rfl, rfl, _, rfl, ?_⟩
    have hlt : ¬ ((3000 : Int) < ((kvF acc.1).length : Nat)) := by
      have h2 : (kvF acc.1).length = acc.1.length := by unfold kvF; rw [List.length_map]
      omega
    rw [decide_eq_false hlt]
    refine ⟨2 * (1296 - acc.1.length) + (if acc.2 = [] then 0 else 1), ?_, d + 1, acc.1, acc.2, L, lvl', rfl, L, ⟨(s'.ok.set (x := isR L) 3 rfl).weak rfl fun j x e => ?_, s'.nx, s'.kd, s'.lt, s'.lt⟩⟩
    · rw [if_neg hrim]
      by_cases ha : acc.2 = []
      · rw [if_pos ha]
        rw [ha, List.length_nil] at hlen'
        omega
      · rw [if_neg ha]
        have : 0 < acc.2.length := List.length_pos_iff.mpr ha
        omega
    · match j, e with
      | 0, e => exact e
      | 1, e => exact e
      | 2, e => exact e
      | 3, e => exact e
      | 4, e => cases e
      | 5, e => cases e
      | 6, e => cases e
      | 7, e => cases e
      | 8, e => cases e
      | j + 9, e => cases e
end Lw
set_option Elab.async false
set_option linter.all false
set_option maxRecDepth 100000
set_option maxHeartbeats 4000000
/-! least_lays, count_orders_met -/
namespace Lw
open PySem PySem.Spec PyProof.Rows L2
open LamX (ExtN Tabs TabS CodeO TabB)
open PySem.W (dataLe dataLt alike alikeAll)
variable {P : Program} {w : World} {K : PySem.W.Frag} {mg : Str → Option Value} {base : Heap} {T : List (Addr × Str)}
theorem TabOk.lys {n g : Nat} {t : TT} (h : TabOk n g t) (f : Lt.fac n ^ g ≤ 1296) : LysPre n g t := ⟨h.wf, h.n1, h.n6, h.w1, h.w5, f⟩
abbrev LeastIs (n : Nat) (t : TT) (o : List Nat) (m : Nat) : Prop := Lt.Dist (Lt.LayR n) t (Lt.placed (Lt.tower t) o) m
abbrev sp_least_lays (T : List (Addr × Str)) (K : PySem.W.Frag) : Sp := Pr T (fun v : Nat × Nat × TT × List Nat => [dd (K := K) (pT v.2.2.1), dd (pO v.2.2.2)]) (fun v => TabOk v.1 v.2.1 v.2.2.1 ∧ Lt.fac v.1 ^ v.2.1 ≤ 1296 ∧ Lt.IsOrd v.1 v.2.2.2) fun v y => ∃ m : Nat, y = dd (.int m) ∧ LeastIs v.1 v.2.2.1 v.2.2.2 m
theorem kvF_at {n : Nat} {t u : TT} {f : List (TT × Nat)} (h : Lt.Far (Lt.LayR n) t f) {k : Nat} (p : Lt.Path (Lt.LayR n) k t u) : ∃ m : Nat, lookT (kvF f) u = some (.int m) ∧ Lt.Dist (Lt.LayR n) t u m := by
  obtain ⟨m, _, hm⟩ := Lt.dist_of_path p
  exact ⟨m, lookF_some h.nodup (h.val hm), hm⟩
theorem sc_least_lays : FnScope ["table", "order"] ["table", "order"] (defScope (topS 51)) := ⟨rfl, rfl, rfl, by decide +kernel, rfl, by decide +kernel, by decide +kernel⟩
theorem d_least_lays (B : Bts mg) (C : Csts mg) (D_need_order : Def P w K mg base 3 "need_order" ["table", "order"] (sp_need_order T K)) (D_need_table : Def P w K mg base 5 "need_table" ["table"] (sp_need_table T K)) (D_ordered : Def P w K mg base 1 "ordered" ["rows", "order"] (sp_ordered T K)) (D_spread_lays : Def P w K mg base 2 "spread_lays" ["table"] (sp_spread_lays P w T K)) (D_tower_of : Def P w K mg base 1 "tower_of" ["table"] (sp_tower_of T K)) (R : Raw mg K "least_lays" (topS 51)) : Def P w K mg base 6 "least_lays" ["table", "order"] (sp_least_lays T K) := by
  refine def_of R sc_least_lays (fun _ _ _ _ _ _ us hl => match us, hl with | [_, _], _ => rfl) (fun vs H Q E h => Pr.len (n := 2) (fun _ => rfl) h) fun f cdv A outer s H vs Q E hr h => ?_
  have nd := sc_least_lays.nd
  refine ⟨_, (pss_cons (ps_expr (pe_callD D_need_table hr (by decide) (by rfl) (pa_cons (pv 0) pa_nil)))
    (pss_cons (ps_expr (pe_callD D_need_order hr (by decide) (by rfl) (pa_cons (pv 0) (pa_cons (pv 1) pa_nil))))
    (pss_one (ps_ret (w_xget (P := P) (w := w) (K := K) (by rfl) (by rfl) (by rfl) hr (pe_callD D_spread_lays hr (by decide) (by rfl) (pa_cons (pv 0) pa_nil)) (pe_callD D_ordered hr (by decide) (by rfl) (pa_cons (pe_callD D_tower_of hr (by decide) (by rfl) (pa_cons (pv 0) pa_nil)) (pa_cons (pv 1) pa_nil))) (fun _ _ => rfl)))))), body_ret h ?_⟩
  rintro ⟨n, g, t, o⟩ ⟨ht, hf, ho⟩
  have hl : t.length = n := ht.len
  have n6 : n ≤ 6 := ht.n6
  have ho : Lt.IsOrd n o := ho
  refine sr_seq (sn_drop (eg_call (n, g, t) (ea1 vr) ht)) (sr_seq (sn_drop (eg_call (t, o) (ea2 vr vr) ⟨by rw [hl]; exact ho, (show t.length ≤ 1000 by omega)⟩)) (sr_ret (ep_yget (ep_call (n, g, t) (ea1 vr) (ht.lys hf)) (eg_call (Lt.tower t, o) (ea2 (eg_call (n, g, t) (ea1 vr) ⟨ht.wf, ht.n1, ht.small.2⟩) vr) ⟨by rw [Lt.tower_len, hl]; exact ho, by rw [Lt.tower_len]; omega⟩) ?_)))
  rintro x ⟨f, rfl, far⟩
  obtain ⟨k, _, p⟩ := Lt.reach_order ht.wf ho
  obtain ⟨m, e1, e2⟩ := kvF_at far p
  exact ⟨_, _, rfl, e1, m, rfl, e2⟩
theorem far_len {n g : Nat} {t : TT} {f : List (TT × Nat)} (h : LysPre n g t) (l : Lt.Far (Lt.LayR n) t f) : f.length ≤ 1296 := by
  have h1 := Lt.count_most h.wf (ks := Lt.keys f) l.nodup fun u hu => by
    obtain ⟨m, hm⟩ := Lt.mem_keys.mp hu
    exact Lt.lays_kin h.wf (l.dist u m hm).1
  have h2 : (Lt.keys f).length = f.length := by
    unfold Lt.keys
    rw [List.length_map]
  have := h.few
  omega
theorem far_wf {n g : Nat} {t u : TT} {m : Nat} {f : List (TT × Nat)} (ht : Lt.WF n g t) (l : Lt.Far (Lt.LayR n) t f) (hm : (u, m) ∈ f) : Lt.WF n g u := (Lt.lays_kin ht (l.dist u m hm).1).wf
/-- sorted(told)[::-1] == list(tower) -/
theorem ed_crowdIs {Γ : Gam K} {ta tb : TE} {u c : TT} (h : ED T ta Γ (pT u)) (h2 : ED T tb Γ (.list (c.map pR))) (hl : u.length ≤ 1000) (hr : ∀ r ∈ u, r ≠ []) : ED T (tOp (rEqD K) (tRevL K (tCB (rSortD K) (tCons ta tNil))) tb) Γ (.bool (decide (Lt.crowd u = c))) := by
  have e : ED T (tRevL K (tCB (rSortD K) (tCons ta tNil))) Γ (.list ((Lt.crowd u).map pR)) := ((eg_rev (eg_cb (ea1 (x := dd (.tuple (u.map pR))) h) (cg_sorted (.inr rfl) (ok_rows (by omega) hr))).ld).ld.is (by
    rw [sort_rows, ← List.map_reverse]
    rfl))
  have sh : ∀ t : TT, SeqAt.shaped (.list (t.map pR)) = true := fun t => sh_listA (k := 1) (plA_map fun r _ => pl_pR r) (fun d hd => by
    obtain ⟨r, _, rfl⟩ := List.mem_map.mp hd
    exact dp_pR r) (by omega)
  have pp : ∀ t : TT, pl (.list (t.map pR)) = true := fun t => by
    unfold pl
    exact plA_map fun r _ => pl_pR r
  exact eg_op e h2 (rg_eqD (sh _) (sh _) (eqv_dec (pp _) (pp _) ⟨fun z => by
    have z' : (Lt.crowd u).map pR = c.map pR := PyData.list.inj z
    exact pT_inj (by unfold pT; rw [z']), fun z => by rw [z]⟩))
abbrev sp_count_orders_met (T : List (Addr × Str)) (K : PySem.W.Frag) : Sp := Pr T (fun v : Nat × Nat × TT => [dd (K := K) (pT v.2.2)]) (fun v => TabOk v.1 v.2.1 v.2.2 ∧ Lt.fac v.1 ^ v.2.1 ≤ 1296) fun v y => ∃ k : Nat, y = dd (.int k) ∧ 1 ≤ k
theorem id_ord (n : Nat) : Lt.IsOrd n (List.range n) := List.Perm.refl _
theorem sc_count_orders_met : FnScope ["table", "goal", "told"] ["table"] (defScope (topS 57)) := ⟨rfl, rfl, rfl, by decide +kernel, rfl, by decide +kernel, by decide +kernel⟩
theorem d_count_orders_met (B : Bts mg) (C : Csts mg) (D_need_table : Def P w K mg base 5 "need_table" ["table"] (sp_need_table T K)) (D_spread_lays : Def P w K mg base 2 "spread_lays" ["table"] (sp_spread_lays P w T K)) (D_tower_of : Def P w K mg base 1 "tower_of" ["table"] (sp_tower_of T K)) (R : Raw mg K "count_orders_met" (topS 57)) : Def P w K mg base 6 "count_orders_met" ["table"] (sp_count_orders_met T K) := by
  refine def_of R sc_count_orders_met (fun _ _ _ _ _ _ us hl => match us, hl with | [_], _ => rfl) (fun vs H Q E h => Pr.len (n := 1) (fun _ => rfl) h) fun f cdv A outer s H vs Q E hr h => ?_
  have nd := sc_count_orders_met.nd
  refine ⟨_, (pss_cons (ps_expr (pe_callD D_need_table hr (by decide) (by rfl) (pa_cons (pv 0) pa_nil)))
    (pss_cons (ps_set (i := 1) nd rfl (Or.inr rfl) (pe_callTy (w_lis (K := K) (by rfl)) (by rfl) B.list PyProof.Rows.boot_list (pa_cons (pe_callD D_tower_of hr (by decide) (by rfl) (pa_cons (pv 0) pa_nil)) pa_nil)))
    (pss_one (ps_ret (pe_callB (w_len (K := K) (by rfl)) (by rfl) B.len PySem.boot_len (pa_cons (pe_lc (own := [("told", 2)]) rfl nd (w_xk (P := P) (w := w) (K := K) (by rfl) (by rfl) (by rfl) (pe_callD D_spread_lays hr (by decide) (by rfl) (pa_cons (pv 0) pa_nil))) (blkOk_by (by kernel_rfl)) (fun _ _ _ _ _ => (pg_name (i := 2) nd rfl (Or.inl rfl) (Or.inr rfl))) (fun _ _ _ _ _ => (pts_one (pt_cmpR (w_eqD (K := K) (by rfl) hr) (w_rev (K := K) (by rfl) (pe_callB (w_sortD (K := K) (by rfl) hr) (by rfl) B.sorted PyProof.Rows.boot_sorted (pa_cons (pv 2) pa_nil))) (pv 1) (nomark _)))) (fun _ _ _ _ _ => (pv 2))) pa_nil)))))), body_ret h ?_⟩
  rintro ⟨n, g, t⟩ ⟨ht, hf⟩
  have hl : t.length = n := ht.len
  have n6 : n ≤ 6 := ht.n6
  have ht : TabOk n g t := ht
  refine sr_seq (sn_drop (eg_call (n, g, t) (ea1 vr) ht)) (sr_seq (sn_set (x := ll ((Lt.tower t).map pR)) (eg_cb (ea1 (eg_call (n, g, t) (ea1 vr) ⟨ht.wf, ht.n1, ht.small.2⟩)) (cg_list (.inr rfl)))) (sr_ret (ep_bind (fun td => tCB (rLenS K) (tCons (tLc (yK P w K td) (gName 2) (tTest (tOp (rEqD K) (tRevL K (tCB (rSortD K) (tCons (tVar 2) tNil))) (tVar 1))) (tVar 2) [2]) tNil)) (fun _ _ _ _ => rfl) (ep_call (n, g, t) (ea1 vr) (ht.lys hf)) ?_)))
  rintro x v ⟨f, rfl, far⟩
  have far : Lt.Far (Lt.LayR n) t f := far
  have fl := far_len (ht.lys hf) far
  refine EG.ep (eg_cb (ea1 ((eg_lc (l := f) (enc := fun q => dd (pT q.1)) (fun q => decide (Lt.crowd q.1 = Lt.tower t)) (fun q => pT q.1) ?_ (by omega) (fun q _ _ => flat_pT q.1) fun q hq => ?_)).ld) (cg_len (.inl rfl))) ?_
  · have := wg_yk (eg_hold (T := T) (Γ := (startG 3 [dd (K := K) (pT t)]).set 1 (some (ll ((Lt.tower t).map pR)))) (kdd P w K (kvF f)) v)
    unfold kvF at this
    rw [List.map_map] at this
    exact this
  · have hw := far_wf ht.wf far (u := q.1) (m := q.2) hq
    have hwl : q.1.length = n := hw.1
    exact ⟨_, gg_name (by simp), et_test (ed_crowdIs vr (vr (x := ll ((Lt.tower t).map pR)) (i := 1)).ld (by omega) (wf_ne hw ht.w1)), fun _ => vr⟩
  · refine ⟨_, rfl, ?_⟩
    obtain ⟨k, _, p⟩ := Lt.reach_order ht.wf (id_ord n)
    obtain ⟨m, _, hm⟩ := Lt.dist_of_path p
    have hin := far.val hm
    rw [List.length_map]
    exact List.length_pos_of_mem (List.mem_filter.mpr ⟨hin, decide_eq_true (Lt.placed_crowd ht.wf (id_ord n))⟩)
end Lw
set_option Elab.async false
set_option linter.all false
set_option maxRecDepth 100000
set_option maxHeartbeats 4000000
/-! easiest_order -/
namespace Lw
open PySem PySem.Spec PyProof.Rows L2
open LamX (ExtN Tabs TabS CodeO TabB)
open PySem.W (dataLe dataLt alike alikeAll)
open NdefX (slotAt startF)
variable {P : Program} {w : World} {K : PySem.W.Frag} {mg : Str → Option Value} {base : Heap} {T : List (Addr × Str)}
def costE (m : Nat) (o : List Nat) : PyData := .tuple [.int ((m : Nat) : Int), pO o]
theorem costE_lt {a b : Nat} {o o' : List Nat} : (dataLt (costE a o) (costE b o') = true → a ≤ b) ∧ (dataLt (costE a o) (costE b o') = false → b ≤ a) := by
  have e : dataLt (costE a o) (costE b o') = _ := PySem.W.dataLt_pair (x := .int (a : Nat)) (x' := .int (b : Nat)) (y := pO o) (y' := pO o') (by simp [alike]) (alike_pO o o')
  constructor
  · intro h
    rw [e] at h
    split at h
    · rename_i q
      have q' : ((a : Nat) : Int) = (b : Nat) := by simpa [PyData.eqv] using q
      omega
    · rw [PySem.W.dataLt_int] at h
      have := of_decide_eq_true h
      omega
  · intro h
    rw [e] at h
    split at h
    · rename_i q
      have q' : ((a : Nat) : Int) = (b : Nat) := by simpa [PyData.eqv] using q
      omega
    · rw [PySem.W.dataLt_int] at h
      have := of_decide_eq_false h
      omega
theorem costE_dp (m : Nat) (o : List Nat) : (costE m o).depth ≤ 8 := by
  have := dp_pO o
  simp only [costE, PyData.depth, PyData.depthAll]
  omega
theorem costE_alike (a b : Nat) (o o' : List Nat) : alike (costE a o) (costE b o') = true := by
  have h := alike_pO o o'
  unfold costE
  simp [alike, alikeAll, h]
def bestD : Option (Nat × List Nat) → PyData
  | none => .none
  | some p => costE p.1 p.2
structure BestOk (n : Nat) (t : TT) (f : List (TT × Nat)) (b : Option (Nat × List Nat)) : Prop where
  non : b = none → ∀ q ∈ f, Lt.crowd q.1 ≠ Lt.tower t
  sm : ∀ p, b = some p → Lt.IsOrd n p.2 ∧ LeastIs n t p.2 p.1 ∧ ∀ q ∈ f, Lt.crowd q.1 = Lt.tower t → p.1 ≤ q.2
/-- sorted(range(n), key=..) -/
theorem eg_ordE {Γ : Gam K} {te : TE} {u : TT} {n g : Nat} (hu : Lt.WF n g u) (hn : n ≤ 1000) (hg : g ≤ 1000) (h4 : Γ[4]? = some (some (dd (pT u)))) (h : EG T te Γ (rngD n)) :
    EG T (tSortL T K (fun q : TT × Nat => .int ((q.2 : Nat) : Int)) (fun q => keyE q.1 q.2) ["person", "told", "heap"] [4] te (tTup (tCons (tLc (iTup K (tOp (rIxT K) (tVar 1) (tVar 0))) (gName 2) tYes (tUn (fun u H Q => ∃ i, u = .int i ∧ Q (.int (-i)) H) (tVar 2)) [2]) (tCons (tVar 0) tNil)))) Γ (ll ((ordE u n).map fun i => .int ((i : Nat) : Int))) := by
  have hm : ((List.range n).map fun i => (u, i)).mergeSort (dataLe false fun q : TT × Nat => keyE q.1 q.2) = (ordE u n).map fun i => (u, i) := (List.map_mergeSort (f := fun i => (u, i)) fun a _ b _ => (keyE_le u a b).symm).symm
  have main := eg_sortL (T := T) (K := K) (enc := fun q : TT × Nat => .int ((q.2 : Nat) : Int)) (k := fun q => keyE q.1 q.2) (N := ["person", "told", "heap"]) (js := [4]) (te := te) (t := tTup (tCons (tLc (iTup K (tOp (rIxT K) (tVar 1) (tVar 0))) (gName 2) tYes (tUn (fun u H Q => ∃ i, u = .int i ∧ Q (.int (-i)) H) (tVar 2)) [2]) (tCons (tVar 0) tNil))) (Γ := Γ)
    (fun q => [some (dd (.int ((q.2 : Nat) : Int))), some (dd (pT u)), none]) (rngD n) ((List.range n).map fun i => (u, i)) h (fun v H ⟨p, e1, e2⟩ => .inr (.inr ⟨p, n, e1, e2, hn, by rw [List.map_map]; rfl⟩)) (by simp; omega) (fun a b => by
      have := alike_ints (negs a.1 a.2) (negs b.1 b.2)
      unfold keyE
      simp [alike, alikeAll, this]) (.inl fun d hd => by
      obtain ⟨q, _, rfl⟩ := List.mem_map.mp hd
      exact ⟨_, _, rfl⟩) (fun q _ => by
      have := dp_intsA (negs q.1 q.2)
      simp only [keyE, PyData.depth, PyData.depthAll]
      omega) (fun q _ σ H v ok dv => ?_) (fun q hq => ?_)
  · rw [hm, List.map_map] at main
    exact main
  · obtain ⟨v4, e4, d4⟩ := ok_val ok h4
    have es : slotAt σ 4 = some v4 := by
      unfold NdefX.slotAt
      rw [e4]
    have e : NdefX.startF ["person", "told", "heap"] [v] ([4].map (NdefX.slotAt σ)) = [some v, some v4, none] := by
      show [some v] ++ ([NdefX.slotAt σ 4] ++ [none]) = _
      rw [es]
      rfl
    rw [e]
    refine ⟨ok.tb, rfl, fun i x hx => ?_⟩
    match i, hx with
    | 0, hx => cases hx; exact ⟨v, rfl, dv⟩
    | 1, hx => cases hx; exact ⟨v4, rfl, d4⟩
    | 2, hx => cases hx
    | i + 3, hx => cases hx
  · obtain ⟨i, hi, rfl⟩ := List.mem_map.mp hq
    have hi' : i < n := List.mem_range.mp hi
    have hr : (Lt.rw' u i).length = g := hu.row hi'
    refine eg_tup (ds := [.list ((negs u i).map .int), .int ((i : Nat) : Int)]) (ea2 ?_ vr) (by simp)
    refine EG.ld ((eg_lcA (l := Lt.rw' u i) (enc := fun h => dd (.int h)) (fun h => .int (-h)) ?_ (by omega) (fun _ _ => rfl) fun h _ => ?_).is ?_)
    · have := wg_tup (T := T) (K := K) (tl := tOp (rIxT K) (tVar 1) (tVar 0)) (Γ := [some (dd (.int ((i : Nat) : Int))), some (dd (pT u)), none]) (ds := (Lt.rw' u i).map .int) (eg_row vr vr (by rw [hu.1]; exact hi'))
      rw [List.map_map] at this
      exact this
    · exact ⟨_, gg_name (by simp), eg_un vr fun v H tb hv Q q => ⟨h, dp_int hv, q _ H (Nx.refl tb) (.int _)⟩⟩
    · unfold negs
      rw [List.map_map]
      rfl
abbrev sp_easiest_order (T : List (Addr × Str)) (K : PySem.W.Frag) : Sp := Pr T (fun v : Nat × Nat × TT => [dd (K := K) (pT v.2.2)]) (fun v => TabOk v.1 v.2.1 v.2.2 ∧ Lt.fac v.1 ^ v.2.1 ≤ 1296) fun v y => ∃ m o, y = dd (costE m o) ∧ Lt.IsOrd v.1 o ∧ LeastIs v.1 v.2.2 o m ∧ ∀ k u, Lt.Path (Lt.LayR v.1) k v.2.2 u → Lt.crowd u = Lt.tower v.2.2 → m ≤ k
theorem sc_easiest_order : FnScope ["table", "far", "goal", "best", "told", "many", "order", "heap"] ["table"] (defScope (topS 56)) := ⟨rfl, rfl, rfl, by decide +kernel, rfl, by decide +kernel, by decide +kernel⟩
theorem d_easiest_order (B : Bts mg) (C : Csts mg) (D_need_table : Def P w K mg base 5 "need_table" ["table"] (sp_need_table T K)) (D_spread_lays : Def P w K mg base 2 "spread_lays" ["table"] (sp_spread_lays P w T K)) (D_tower_of : Def P w K mg base 1 "tower_of" ["table"] (sp_tower_of T K)) {cA pA : Addr} (TB : TabB base mg cA pA) (hT : (pA, ("easiest_order.<locals>." ++ "<lambda>" : Str)) ∈ T) (hU : ∀ q ∈ T, q.1 = pA → q.2 = ("easiest_order.<locals>." ++ "<lambda>" : Str)) (R : RawC mg K "easiest_order" (topS 56) cA) : Def P w K mg base 6 "easiest_order" ["table"] (sp_easiest_order T K) := by
  refine def_ofC R sc_easiest_order (fun _ _ _ _ _ _ us hl => match us, hl with | [_], _ => rfl) (fun vs H Q E h => Pr.len (n := 1) (fun _ => rfl) h) fun f A outer s H vs Q E hr h => ?_
  have nd := sc_easiest_order.nd
  refine ⟨_, (pss_cons (ps_expr (pe_callD D_need_table hr (by decide) (by rfl) (pa_cons (pv 0) pa_nil)))
    (pss_cons (ps_par3 (i := 1) (j := 2) (l := 3) rfl nd rfl rfl rfl (by decide) (by decide) (by decide) rfl rfl rfl (pa_cons (pe_callD D_spread_lays hr (by decide) (by rfl) (pa_cons (pv 0) pa_nil)) (pa_cons (pe_callD D_tower_of hr (by decide) (by rfl) (pa_cons (pv 0) pa_nil)) (pa_cons pe_non pa_nil))) (by rfl))
    (pss_cons (ps_for PassesOwn.never rfl (w_xi (P := P) (w := w) (K := K) (by rfl) (by rfl) (by rfl) (pv 1)) (w_gtup (K := K) (n := 2) (by rfl) rfl (pgs_cons (pg_name (i := 4) nd rfl (Or.inr rfl) (Or.inl rfl)) (pgs_cons (pg_name (i := 5) nd rfl (Or.inl rfl) (Or.inr rfl)) pgs_nil)))
     (pss_one (ps_if (pt_cmpR (w_eqD (K := K) (by rfl) hr) (w_rev (K := K) (by rfl) (pe_callB (w_sortD (K := K) (by rfl) hr) (by rfl) B.sorted PyProof.Rows.boot_sorted (pa_cons (pv 4) pa_nil))) (pe_callTy (w_lis (K := K) (by rfl)) (by rfl) B.list PyProof.Rows.boot_list (pa_cons (pv 2) pa_nil)) (nomark _)) (pss_cons (ps_set (i := 6) nd rfl (Or.inl rfl) (pe_callTy (w_tup (K := K) (by rfl)) (by rfl) B.tuple PyProof.Rows.boot_tuple (pa_cons (pe_sortL (T := T) (enc := fun q : TT × Nat => .int ((q.2 : Nat) : Int)) (k := fun q => keyE q.1 q.2) (N := ["person", "told", "heap"]) (fr := ["told"]) (js := [4]) (a := "person") (j := 1) rfl hr (by rfl) B.sorted (pe_callTy cr_range1 (by rfl) B.range PyProof.Rows.boot_range (pa_cons (pe_callB (w_len (K := K) (by rfl)) (by rfl) B.len PySem.boot_len (pa_cons (pv 0) pa_nil)) pa_nil)) TB rfl hT hU (NdefX.nscope_by (by decide +kernel)) (hfree_by (by kernel_rfl)) (hfr_by (by decide +kernel)) rfl rfl (fun _ _ _ _ _ us hl => match us, hl with | [_], _ => rfl) (fun _ _ _ _ _ _ _ => pe_tup (pa_cons (pe_lc (own := [("heap", 2)]) rfl nd_pth (w_piT (K := K) (by rfl) (pe_ix (w_ixT (K := K) (by rfl)) (pv 1) (pv 0) (fun _ _ => rfl))) (blkOk_by (by kernel_rfl)) (fun _ _ _ _ _ => (pg_name (i := 2) nd_pth rfl (Or.inl rfl) (Or.inr rfl))) (fun _ _ _ _ _ => pts_nil) (fun _ _ _ _ _ => (pe_un un_neg (pv 2)))) (pa_cons (pv 0) pa_nil)))) pa_nil)))
      (pss_one (ps_if (PW.pt (pw_or (pt_cmp (pc_isN (pv 3))) (pw_or1 (pt_cmpR (w_ltD (K := K) (by rfl) hr) (pe_tup (pa_cons (pv 5) (pa_cons (pv 6) pa_nil))) (pv 3) (nomark _))))) (pss_one (ps_set (i := 3) nd rfl (Or.inl rfl) (pe_tup (pa_cons (pv 5) (pa_cons (pv 6) pa_nil))))) pss_nil))) pss_nil)))
    (pss_one (ps_ret (pv 3)))))), body_ret h ?_⟩
  rintro ⟨n, g, t⟩ ⟨ht, hf⟩
  have hl : t.length = n := ht.len
  have n6 : n ≤ 6 := ht.n6
  have ht : TabOk n g t := ht
  refine sr_seq (sn_drop (eg_call (n, g, t) (ea1 vr) ht)) ?_
  refine sr_par3E (y := dd (pT (Lt.tower t))) (z := dd .none) (ep_call (n, g, t) (ea1 vr) (ht.lys hf)) (ea2 (eg_call (n, g, t) (ea1 vr) ⟨ht.wf, ht.n1, ht.small.2⟩) ed_non) ?_
  rintro x ⟨f, rfl, far⟩
  have far : Lt.Far (Lt.LayR n) t f := far
  let Γs : Option (Nat × List Nat) → Gam K := fun b => [some (dd (pT t)), some (kdd P w K (kvF f)), some (dd (pT (Lt.tower t))), some (dd (bestD b)), none, none, none, none]
  refine sr_forP (Γs := Γs) (vs := [4, 5]) (ys := f.map fun q => dd (.tuple [pT q.1, .int ((q.2 : Nat) : Int)])) (fun i b => BestOk n t (f.take i) b) none ⟨fun _ q hq => by simp at hq, (fun p e => nomatch e)⟩ ?_ (fun i y b hy hb => ?_) (fun b hb => ?_)
  · have := wg_yi (T := T) (td := tVar 1) (Γ := Γs none) (kvs := kvF f) (vr (i := 1))
    unfold kvF at this
    rw [List.map_map] at this
    exact this
  · obtain ⟨q, hq, ey⟩ : ∃ q, f[i]? = some q ∧ y = dd (.tuple [pT q.1, .int ((q.2 : Nat) : Int)]) := by
      rw [List.getElem?_map] at hy
      obtain ⟨q, h1, h2⟩ := Option.map_eq_some_iff.mp hy
      exact ⟨q, h1, h2.symm⟩
    subst ey
    have hqm : (q.1, q.2) ∈ f := List.mem_of_getElem? hq
    have hqw := far_wf ht.wf far hqm
    have hql : q.1.length = n := hqw.1
    have et : f.take (i + 1) = f.take i ++ [q] := by rw [List.take_add_one, hq]; rfl
    let Γm : Gam K := [some (dd (pT t)), some (kdd P w K (kvF f)), some (dd (pT (Lt.tower t))), some (dd (bestD b)), some (dd (pT q.1)), some (dd (.int ((q.2 : Nat) : Int))), none, none]
    have hGG : GG T [4, 5] (gTup K 2 (gCons (gName 4) (gCons (gName 5) gNil))) (dd (.tuple [pT q.1, .int ((q.2 : Nat) : Int)])) (Γs b) Γm := gg_two (by simp) (by simp)
    have hG : Sub (Γs b) Γm := ⟨rfl, fun j x e => by
      match j, e with
      | 0, e => exact e
      | 1, e => exact e
      | 2, e => exact e
      | 3, e => exact e
      | 4, e => cases e
      | 5, e => cases e
      | 6, e => cases e
      | 7, e => cases e
      | j + 8, e => cases e⟩
    have htest := et_test (ed_crowdIs (T := T) (Γ := Γm) (ta := tVar 4) (tb := tCB (rLisO K) (tCons (tVar 2) tNil)) (u := q.1) (c := Lt.tower t) vr (EG.ld (eg_cb (ea1 (x := dd (.tuple ((Lt.tower t).map pR))) (vr (i := 2))) (cg_list (.inr rfl)))) (by omega) (wf_ne hqw ht.w1))
    by_cases hc : Lt.crowd q.1 = Lt.tower t
    · have hord := ordE_ord q.1 n
      have hd : LeastIs n t (ordE q.1 n) q.2 := by
        have := ordE_placed hqw
        rw [hc] at this
        unfold LeastIs
        rw [← this]
        exact far.dist _ _ hqm
      have hset : SN T (tAsg (tCB (rTupO K) (tCons (tSortL T K (fun q : TT × Nat => .int ((q.2 : Nat) : Int)) (fun q => keyE q.1 q.2) ["person", "told", "heap"] [4] (tCB (fun vs H Q => ∃ n, vs = [V.int n] ∧ ∀ p, H p = none → Q (.ref p) (upd H p (.rng 0 n))) (tCons (tCB (rLenS K) (tCons (tVar 0) tNil)) tNil)) (tTup (tCons (tLc (iTup K (tOp (rIxT K) (tVar 1) (tVar 0))) (gName 2) tYes (tUn (fun u H Q => ∃ i, u = .int i ∧ Q (.int (-i)) H) (tVar 2)) [2]) (tCons (tVar 0) tNil)))) tNil)) (gName 6)) Γm (Γm.set 6 (some (dd (pO (ordE q.1 n))))) :=
        sn_set (eg_tupO (EG.ld (eg_ordE hqw (by omega) (by have := ht.w5; omega) rfl (eg_range ((eg_lenTab (vr (i := 0))).is (by rw [hl]))))))
      have take : ∀ b', BestOk n t (f.take (i + 1)) b' → b' = some (q.2, ordE q.1 n) → BestOk n t (f.take (i + 1)) b' := fun b' h _ => h
      have good : (∀ p, b = some p → q.2 ≤ p.1) → BestOk n t (f.take (i + 1)) (some (q.2, ordE q.1 n)) := fun hle => ⟨(fun e => nomatch e), fun p e => by
        cases e
        refine ⟨hord, hd, fun z hz hzc => ?_⟩
        rw [et] at hz
        rcases List.mem_append.mp hz with hz | hz
        · cases b with
          | none => exact absurd hzc (hb.non rfl z hz)
          | some p => exact Nat.le_trans (hle p rfl) ((hb.sm p rfl).2.2 z hz hzc)
        · rw [List.mem_singleton.mp hz]
          exact Nat.le_refl _⟩
      let Γn : Gam K := Γm.set 6 (some (dd (pO (ordE q.1 n))))
      have hpair : ED T (tTup (tCons (tVar 5) (tCons (tVar 6) tNil))) Γn (costE q.2 (ordE q.1 n)) := eg_tup (ds := [.int ((q.2 : Nat) : Int), pO (ordE q.1 n)]) (ea2 vr vr) (by simp)
      have sub1 : ∀ b' : Option (Nat × List Nat), Sub (Γs b') (Γn.set 3 (some (dd (bestD b')))) := fun b' => ⟨rfl, fun j x e => by
        match j, e with
        | 0, e => exact e
        | 1, e => exact e
        | 2, e => exact e
        | 3, e => exact e
        | 4, e => cases e
        | 5, e => cases e
        | 6, e => cases e
        | 7, e => cases e
        | j + 8, e => cases e⟩
      cases b with
      | none =>
        refine ⟨Γm, some (q.2, ordE q.1 n), hGG, good (fun p e => nomatch e), sn_sub (Γ2 := Γn.set 3 (some (dd (bestD (some (q.2, ordE q.1 n)))))) ?_ (sub1 _)⟩
        refine sn_if htest (fun _ => sn_seq hset ?_) fun e => absurd hc (of_decide_eq_false e)
        exact sn_if (b := true) (et_or (a := true) (b := true) (et_isN (d := .none) (vr (i := 3))) fun z => by cases z) (fun _ => sn_set hpair) fun z => by cases z
      | some p =>
        have h2 : ET T (tOr (tB (tIsN (tVar 3))) (tTest (tOp (rLtD K) (tTup (tCons (tVar 5) (tCons (tVar 6) tNil))) (tVar 3)))) Γn (dataLt (costE q.2 (ordE q.1 n)) (costE p.1 p.2)) := et_or (a := false) (et_isN (d := costE p.1 p.2) (vr (i := 3))) fun _ => et_test (eg_op hpair (vr (i := 3)) (rg_ltD (costE_alike _ _ _ _) (by simp [costE]) (costE_dp _ _)))
        cases hlt : dataLt (costE q.2 (ordE q.1 n)) (costE p.1 p.2) with
        | true =>
          rw [hlt] at h2
          refine ⟨Γm, some (q.2, ordE q.1 n), hGG, good (fun p2 e => by cases e; exact costE_lt.1 hlt), sn_sub (Γ2 := Γn.set 3 (some (dd (bestD (some (q.2, ordE q.1 n)))))) ?_ (sub1 _)⟩
          exact sn_if htest (fun _ => sn_seq hset (sn_if h2 (fun _ => sn_set hpair) fun z => by cases z)) fun e => absurd hc (of_decide_eq_false e)
        | false =>
          rw [hlt] at h2
          refine ⟨Γm, some p, hGG, ⟨(fun e => nomatch e), fun p' e => ?_⟩, sn_sub (Γ2 := Γn.set 3 (some (dd (bestD (some p))))) ?_ (sub1 _)⟩
          · cases e
            refine ⟨(hb.sm p rfl).1, (hb.sm p rfl).2.1, fun z hz hzc => ?_⟩
            rw [et] at hz
            rcases List.mem_append.mp hz with hz | hz
            · exact (hb.sm p rfl).2.2 z hz hzc
            · rw [List.mem_singleton.mp hz]
              exact costE_lt.2 hlt
          · exact sn_if htest (fun _ => sn_seq hset (sn_if h2 (fun z => by cases z) fun _ => sn_next)) fun e => absurd hc (of_decide_eq_false e)
    · refine ⟨Γm, b, hGG, ⟨fun e z hz => ?_, fun p e => ⟨(hb.sm p e).1, (hb.sm p e).2.1, fun z hz hzc => ?_⟩⟩, sn_sub (Γ2 := Γm) (sn_if htest (fun e => absurd (of_decide_eq_true e) hc) fun _ => sn_next) hG⟩
      · rw [et] at hz
        rcases List.mem_append.mp hz with hz | hz
        · exact hb.non e z hz
        · rw [List.mem_singleton.mp hz]
          exact hc
      · rw [et] at hz
        rcases List.mem_append.mp hz with hz | hz
        · exact (hb.sm p e).2.2 z hz hzc
        · rw [List.mem_singleton.mp hz] at hzc
          exact absurd hzc hc
  · rw [List.length_map, List.take_length] at hb
    obtain ⟨k0, _, p0⟩ := Lt.reach_order ht.wf (id_ord n)
    obtain ⟨m0, _, hm0⟩ := Lt.dist_of_path p0
    have hin := far.val hm0
    cases b with
    | none => exact absurd (Lt.placed_crowd ht.wf (id_ord n)) (hb.non rfl _ hin)
    | some p =>
      refine sr_ret (EG.ep (x := dd (bestD (some p))) (vr (i := 3)) ⟨p.1, p.2, rfl, (hb.sm p rfl).1, (hb.sm p rfl).2.1, fun k u hp hu => ?_⟩)
      obtain ⟨m, hm, hd⟩ := Lt.dist_of_path hp
      exact Nat.le_trans ((hb.sm p rfl).2.2 _ (far.val hd) hu) hm
end Lw
set_option Elab.async false
set_option linter.all false
set_option maxRecDepth 100000
set_option maxHeartbeats 4000000
/-! nexts_of -/
namespace Lw
open PySem PySem.Spec PyProof.Rows L2
open LamX (ExtN Tabs TabS CodeO TabB)
open PySem.W (dataLe dataLt alike alikeAll)
variable {P : Program} {w : World} {K : PySem.W.Frag} {mg : Str → Option Value} {base : Heap} {T : List (Addr × Str)}
/-! ### dicts told as lists -/
theorem lookT_some {kvs : List (TT × PyData)} {t : TT} : (lookT kvs t).isSome = true ↔ t ∈ kvs.map Prod.fst := by
  induction kvs with
  | nil => simp [lookT_nil]
  | cons p l ih =>
    by_cases h : p.1 = t
    · rw [lookT_pos h]
      simp [h]
    · rw [lookT_neg h, ih, List.map_cons, List.mem_cons]
      constructor
      · exact .inr
      · rintro (e | e)
        · exact absurd e.symm h
        · exact e
theorem putT_keys (kvs : List (TT × PyData)) (t : TT) (v : PyData) : (putT kvs t v).map Prod.fst = if t ∈ kvs.map Prod.fst then kvs.map Prod.fst else kvs.map Prod.fst ++ [t] := by
  unfold putT
  by_cases h : t ∈ kvs.map Prod.fst
  · rw [if_pos h, if_pos (lookT_some.mpr h), List.map_map]
    refine List.map_congr_left fun p _ => ?_
    show (if p.1 = t then (p.1, v) else p).1 = p.1
    split <;> rfl
  · rw [if_neg h, if_neg (fun z => h (lookT_some.mp z)), List.map_append]
    rfl
theorem keysOf_fst (z : PyData) : ∀ (l : List TT) (kvs : List (TT × PyData)), (kvs.map Prod.fst).Nodup → ((l.foldl (fun kvs t => putT kvs t z) kvs).map Prod.fst).Nodup ∧ ∀ t, t ∈ (l.foldl (fun kvs t => putT kvs t z) kvs).map Prod.fst ↔ t ∈ kvs.map Prod.fst ∨ t ∈ l
  | [], kvs, h => ⟨h, fun t => by simp⟩
  | a :: l, kvs, h => by
    have e := putT_keys kvs a z
    have hn : ((putT kvs a z).map Prod.fst).Nodup := by
      rw [e]
      split
      · exact h
      · rename_i q
        exact List.nodup_append.mpr ⟨h, by simp, fun x hx y hy e => q (by rw [List.mem_singleton.mp hy] at e; exact e ▸ hx)⟩
    have hm : ∀ t, t ∈ (putT kvs a z).map Prod.fst ↔ t ∈ kvs.map Prod.fst ∨ t = a := fun t => by
      rw [e]
      split
      · rename_i q
        exact ⟨.inl, fun h => h.elim id fun e => e ▸ q⟩
      · rw [List.mem_append, List.mem_singleton]
    obtain ⟨h1, h2⟩ := keysOf_fst z l (putT kvs a z) hn
    refine ⟨h1, fun t => ?_⟩
    rw [List.foldl_cons, h2 t, hm t, List.mem_cons]
    exact or_assoc
structure Nexts (t : TT) (ts : List TT) : Prop where
  nd : ts.Nodup
  mem : ∀ d, d ∈ ts ↔ Lt.DeedR t d
  few : ts.length ≤ 1000
structure NxPre (n g : Nat) (t : TT) : Prop where
  wf : Lt.WF n g t
  n6 : n ≤ 6
  g1 : 1 ≤ g
  g5 : g ≤ 5
abbrev sp_nexts_of (T : List (Addr × Str)) (K : PySem.W.Frag) : Sp := Pr T (fun v : Nat × Nat × TT => [dd (K := K) (pT v.2.2)]) (fun v => NxPre v.1 v.2.1 v.2.2) fun v y => ∃ ts, y = ll (ts.map pT) ∧ Nexts v.2.2 ts
theorem cg_sortX {X : Cx} {kvs : List (TT × PyData)} (hs : SortOk (kvs.map fun p => pT p.1)) : CG T (rSortX X) [kd X kvs] (ll ((kvs.map fun p => pT p.1).mergeSort (dataLe false id))) := cg1 fun u H tb hu Q q => by
  obtain ⟨d, rfl, k⟩ := hu
  exact ⟨d, kvs, rfl, k, hs, fun p us hp hd => q _ _ (Nx.new tb hp) ⟨p, us, rfl, upd_same, hd⟩⟩
theorem sc_nexts_of : FnScope ["table", "one", "other"] ["table"] (defScope (topS 38)) := ⟨rfl, rfl, rfl, by decide +kernel, rfl, by decide +kernel, by decide +kernel⟩
theorem d_nexts_of (B : Bts mg) (C : Csts mg) (D_crowd_of : Def P w K mg base 1 "crowd_of" ["table"] (sp_crowd_of T K)) (D_laid : Def P w K mg base 1 "laid" ["table", "one", "other"] (sp_laid T K)) (D_odds_of : Def P w K mg base 3 "odds_of" ["table"] (sp_odds_of T K)) (R : Raw mg K "nexts_of" (topS 38)) : Def P w K mg base 4 "nexts_of" ["table"] (sp_nexts_of T K) := by
  refine def_of R sc_nexts_of (fun _ _ _ _ _ _ us hl => match us, hl with | [_], _ => rfl) (fun vs H Q E h => Pr.len (n := 1) (fun _ => rfl) h) fun f cdv A outer s H vs Q E hr h => ?_
  have nd := sc_nexts_of.nd
  refine ⟨_, (pss_one (ps_ret (pe_callB (cr_sortX rfl hr.units) (by rfl) B.sorted PyProof.Rows.boot_sorted (pa_cons (pe_dcx (own := [("one", 1), ("other", 2)]) rfl hr.units nd (w_piL (K := K) (by rfl) (pe_callD D_odds_of hr (by decide) (by rfl) (pa_cons (pv 0) pa_nil))) (blkOk_by (by kernel_rfl)) (fun _ _ _ _ _ => (w_gtup (K := K) (n := 2) (by rfl) rfl (pgs_cons (pg_name (i := 1) nd rfl (Or.inl rfl) (Or.inr rfl)) (pgs_cons (pg_name (i := 2) nd rfl (Or.inl rfl) (Or.inr rfl)) pgs_nil)))) (fun _ _ _ _ _ => pts_nil) (fun _ _ _ _ _ => (pe_callD D_crowd_of hr (by decide) (by rfl) (pa_cons (pe_callD D_laid hr (by decide) (by rfl) (pa_cons (pv 0) (pa_cons (pv 1) (pa_cons (pv 2) pa_nil)))) pa_nil))) (fun _ _ _ _ _ => pe_bl)) pa_nil)))), body_ret h ?_⟩
  rintro ⟨n, g, t⟩ hp
  have hp : NxPre n g t := hp
  have ht := hp.wf
  have n6 := hp.n6
  have g5 := hp.g5
  have hl : t.length = n := ht.1
  let l := Lt.oddsOf t
  let fn : Nat × Nat → TT := fun q => Lt.crowd (Lt.laid t q.1 q.2)
  have hlen : (Lt.oddsOf t).length ≤ n * n := odds_len ht
  have hlen2 : (Lt.oddsOf t).length ≤ 36 := Nat.le_trans hlen (Nat.mul_le_mul n6 n6)
  have hw : WG T (iList K (tCall (sp_odds_of T K) [] E0 (tCons (tVar 0) tNil))) (startG 3 [dd (K := K) (pT t)]) ((Lt.oddsOf t).map fun q => dd (pPr q)) := by
    have := wg_list (T := T) (K := K) (Γ := startG 3 [dd (K := K) (pT t)]) (tl := tCall (sp_odds_of T K) [] E0 (tCons (tVar 0) tNil)) (ds := (Lt.oddsOf t).map pPr) (eg_call (n, g, t) (ea1 (vr (i := 0))) ⟨ht, (show n ≤ 1000 by omega), (show g ≤ 1000 by omega)⟩)
    rw [List.map_map] at this
    exact this
  obtain ⟨k1, k2⟩ := keysOf_fst (.bool true) ((Lt.oddsOf t).map fn) [] (by simp)
  have k3 := fold_len (.bool true) ((Lt.oddsOf t).map fn) []
  refine sr_ret (EG.ep (eg_cb (ea1 (eg_dcx (l := Lt.oddsOf t) (enc := fun q => dd (pPr q)) (vs := [1, 2]) fn (.bool true) rfl hw (by omega) fun q hq => ?_)) (cg_sortX ?_)) ?_)
  · obtain ⟨h1, h2, _⟩ := Lt.mem_oddsOf.mp (show (q.1, q.2) ∈ Lt.oddsOf t from hq)
    refine ⟨_, gg_two (d := .int ((q.1 : Nat) : Int)) (e := .int ((q.2 : Nat) : Int)) (by simp) (by simp), ?_, ed_bl true⟩
    have hw := Lt.laid_wf ht (i := q.1) (j := q.2) (by omega) (by omega)
    exact eg_call (Lt.laid t q.1 q.2) (ea1 (eg_call (t, q.1, q.2) (ea3 (vr (i := 0)) (vr (i := 1)) (vr (i := 2))) ⟨(show q.1 < t.length by omega), h2, (show t.length ≤ 1000 by omega), fun r hr => by
      have := ht.2 r hr
      omega⟩)) ⟨by rw [hw.1]; omega, wf_ne hw hp.g1⟩
  · have e : (keysOf ((Lt.oddsOf t).map fn) (.bool true)).map (fun p => pT p.1) = ((keysOf ((Lt.oddsOf t).map fn) (.bool true)).map Prod.fst).map pT := by rw [List.map_map]; rfl
    rw [e]
    refine ok_tabs (by rw [List.length_map]; unfold keysOf; simp at k3; omega) fun u hu => ?_
    have := (k2 u).mp hu
    simp only [List.map_nil, List.not_mem_nil, false_or] at this
    obtain ⟨q, hq, rfl⟩ := List.mem_map.mp this
    obtain ⟨h1, h2, _⟩ := Lt.mem_oddsOf.mp (show (q.1, q.2) ∈ Lt.oddsOf t from hq)
    have hw := Lt.laid_wf ht (i := q.1) (j := q.2) (by omega) (by omega)
    intro z
    have h3 := Lt.crowd_len (Lt.laid t q.1 q.2)
    rw [show Lt.crowd (Lt.laid t q.1 q.2) = [] from z, hw.1] at h3
    simp at h3
    omega
  · have e : (keysOf ((Lt.oddsOf t).map fn) (.bool true)).map (fun p => pT p.1) = ((keysOf ((Lt.oddsOf t).map fn) (.bool true)).map Prod.fst).map pT := by rw [List.map_map]; rfl
    refine ⟨((keysOf ((Lt.oddsOf t).map fn) (.bool true)).map Prod.fst).mergeSort tabLe, by rw [e, sort_tabs]; rfl, ?_⟩
    have hperm := List.mergeSort_perm ((keysOf ((Lt.oddsOf t).map fn) (.bool true)).map Prod.fst) tabLe
    refine ⟨hperm.symm.nodup k1, fun d => ?_, ?_⟩
    · rw [hperm.mem_iff]
      have := k2 d
      simp only [List.map_nil, List.not_mem_nil, false_or] at this
      refine this.trans ?_
      rw [List.mem_map]
      constructor
      · rintro ⟨q, hq, e⟩
        exact ⟨q.1, q.2, hq, e.symm⟩
      · rintro ⟨i, j, hq, e⟩
        exact ⟨(i, j), hq, e.symm⟩
    · rw [hperm.length_eq, List.length_map]
      unfold keysOf
      simp at k3
      omega
end Lw
set_option Elab.async false
set_option linter.all false
set_option maxRecDepth 100000
set_option maxHeartbeats 4000000
/-! spread -/
namespace Lw
open PySem PySem.Spec PyProof.Rows L2
open LamX (ExtN Tabs TabS CodeO TabB)
open PySem.W (dataLe dataLt alike alikeAll)
variable {P : Program} {w : World} {K : PySem.W.Frag} {mg : Str → Option Value} {base : Heap} {T : List (Addr × Str)}
/-! ### lists and dicts that stay beside one that is put to -/
def rawL (K : PySem.W.Frag) (H : Hp) (r : Addr) (ts : List TT) : Prop := ∃ us, H r = some (.lst us) ∧ DpAll K H us (ts.map pT)
structure Mv (K : PySem.W.Frag) (H H' : Hp) (D : Addr) : Prop where
  tk : TK K H H'
  ne : ∀ b, b ≠ D → H' b = H b
section
variable {H0 H H' : Hp} {F D r : Addr} {o o' : Obj} {kvs : List (TT × PyData)} {ts : List TT}
theorem rawL.go (h : rawL K H r ts) (n : Nx T H H') : rawL K H' r ts := let ⟨us, a, b⟩ := h; ⟨us, n.kp r _ a nl, dpAll_mono n.kp _ _ b⟩
theorem rawL.mv (h : rawL K H r ts) (m : Mv K H H' D) (hr : r ≠ D) : rawL K H' r ts := let ⟨us, a, b⟩ := h; ⟨us, (m.ne r hr).trans a, dpa_flat m.tk _ _ (flats _) b⟩
theorem raw_ne (h : rawL K H r ts) (k : KDo P w K H D o kvs) : r ≠ D := fun z => by
  obtain ⟨us, a, _⟩ := h
  rw [z, k.at'] at a
  cases a
theorem kd_mv (h : KD P w K H F kvs) (m : Mv K H H' D) (hf : ∀ p ∈ kvs, flat p.2 = true) (hF : F ≠ D) : KD P w K H' F kvs := let ⟨o, k⟩ := h; ⟨o, k.tup m.tk hf (m.ne F hF)⟩
theorem mv_dict (k : KDo P w K H D o kvs) : Mv K H (upd H D (xO D o')) D := ⟨sqT_ext k.at', fun b hb => upd_ne hb⟩
theorem mv_list {us : List V} {u : HO} (h : H D = some (.lst us)) : Mv K H (upd H D u) D := ⟨sqT_updL h, fun b hb => upd_ne hb⟩
theorem kd_ne {us : List V} (h : KD P w K H F kvs) (hr : H r = some (.lst us)) : F ≠ r := fun z => by
  obtain ⟨o, k⟩ := h
  have := k.at'
  rw [z, hr] at this
  cases this
end
def lstAt (K : PySem.W.Frag) (H : Hp) (r : Addr) (us : List V) (ts : List TT) : Prop := H r = some (.lst us) ∧ DpAll K H us (ts.map pT)
section
variable {H0 H H' : Hp} {F D r : Addr} {o o' : Obj} {kvs : List (TT × PyData)} {ts : List TT} {us : List V}
theorem lstAt.go (h : lstAt K H r us ts) (n : Nx T H H') : lstAt K H' r us ts := ⟨n.kp r _ h.1 nl, dpAll_mono n.kp _ _ h.2⟩
theorem lstAt.mv (h : lstAt K H r us ts) (m : Mv K H H' D) (hr : r ≠ D) : lstAt K H' r us ts := ⟨(m.ne r hr).trans h.1, dpa_flat m.tk _ _ (flats _) h.2⟩
theorem lstAt.ne (h : lstAt K H r us ts) (k : KDo P w K H D o kvs) : r ≠ D := raw_ne ⟨us, h.1, h.2⟩ k
theorem lstAt.len (h : lstAt K H r us ts) : us.length = ts.length := by rw [dpa_len h.2, List.length_map]
end
/-- a put, its value told -/
theorem put_one {X : Cx} {td ty tv : TE} {D : Ends} {σ : L2.St} {H : Hp} {z : PyData} {Γ : Gam X.K} (hv : ED T tv Γ z) (ok : Ok T σ H Γ) (k : ∀ v H1, Nx T H H1 → Dp X.K H1 v z → td σ H1 fun x H2 => ty σ H2 fun y H3 => ∃ d kvs t z, x = .ref d ∧ KDc X H3 d kvs ∧ (∀ p ∈ kvs, flat p.2 = true) ∧ Dp X.K H3 y (pT t) ∧ flat z = true ∧ Dp X.K H3 v z ∧ kvs.length < sizeLine ∧
    ∀ o', KDoc X (upd H3 d (xO d o')) d o' (putT kvs t z) → D.nx σ (upd H3 d (xO d o'))) : sXPut X td ty tv D σ H := hv σ H ok _ k
theorem put_seq {X : Cx} {td ty tv : TE} {u : TS} {D : Ends} {σ : L2.St} {H : Hp} {z : PyData} {Γ : Gam X.K} (hv : ED T tv Γ z) (ok : Ok T σ H Γ) (k : ∀ v H1, Nx T H H1 → Dp X.K H1 v z → td σ H1 fun x H2 => ty σ H2 fun y H3 => ∃ d kvs t z, x = .ref d ∧ KDc X H3 d kvs ∧ (∀ p ∈ kvs, flat p.2 = true) ∧ Dp X.K H3 y (pT t) ∧ flat z = true ∧ Dp X.K H3 v z ∧ kvs.length < sizeLine ∧
    ∀ o', KDoc X (upd H3 d (xO d o')) d o' (putT kvs t z) → u D σ (upd H3 d (xO d o'))) : tSeq (sXPut X td ty tv) u D σ H := hv σ H ok _ k
/-- for x in a told list of tables -/
theorem el_for {te : TE} {g : TG} {ts : TS} {Q0 : List TT → Prop} {Γ : Gam K} {σ : L2.St} {H : Hp} {D : Ends} (h : EP' T te Γ fun x => ∃ l : List TT, x = ll (l.map pT) ∧ Q0 l) (ok : Ok T σ H Γ) (Pv : List TT → Addr → List V → Nat → L2.St → Hp → Prop) (h0 : ∀ l p us H1, Q0 l → Nx T H H1 → lstAt K H1 p us l → Pv l p us 0 σ H1)
    (hsq : ∀ l p us j σ' H', Pv l p us j σ' H' → lstAt K H' p us l)
    (step : ∀ l p us j u v σ' H', Q0 l → l[j]? = some u → Dp K H' v (pT u) → Pv l p us j σ' H' → g v σ' H' fun σ2 H2 => ts { D with nx := Pv l p us (j + 1), ct := Pv l p us (j + 1), bk := D.nx } σ2 H2) (done : ∀ l p us σ' H', Q0 l → Pv l p us l.length σ' H' → D.nx σ' H') : tFor (iList K te) g ts D σ H := by
  refine h σ H ok _ fun x y H1 px n1 d1 => ?_
  obtain ⟨l, rfl, q0⟩ := px
  obtain ⟨p, us, e, hp, hd⟩ := d1
  subst e
  refine ⟨p, rfl, ⟨us, .inl (.inl hp)⟩, ?_⟩
  refine ⟨fun j m σ' H' => m = us.length - j ∧ j ≤ us.length ∧ Pv l p us j σ' H', ⟨us.length, rfl, Nat.zero_le _, h0 l p us H1 q0 n1 ⟨hp, hd⟩⟩, ?_⟩
  rintro j m σ' H' ⟨rfl, hj, pv⟩
  have la := hsq l p us j σ' H' pv
  have sq : SqL K H' p us := .inl (.inl la.1)
  by_cases hlt : j < us.length
  · refine .inr ⟨⟨us, us[j], sq, List.getElem?_eq_getElem hlt⟩, fun σ2 H2 => Pv l p us (j + 1) σ2 H2, fun σ2 H2 p2 => ⟨us.length - (j + 1), by omega, rfl, hlt, p2⟩, fun x H2 yy => ?_⟩
    obtain ⟨rfl, hx⟩ := yy
    have hv := hx us sq
    obtain ⟨d, ed, dv⟩ := dpa_atV la.2 hv
    rw [List.getElem?_map] at ed
    obtain ⟨u, eu, rfl⟩ := Option.map_eq_some_iff.mp ed
    exact step l p us j u x σ' _ q0 eu dv pv
  · have e : j = us.length := by omega
    have e2 := la.len
    refine .inl ⟨⟨us, sq, by omega⟩, done l p us σ' H' q0 ?_⟩
    rw [← e2, ← e]
    exact pv
/-! ### what spread finds -/
def gv (d m : Nat) : PyData := .tuple [.int ((d : Nat) : Int), .int ((m : Nat) : Int)]
def kvG (f : List (TT × Nat)) (m : TT → Nat) : List (TT × PyData) := f.map fun p => (p.1, gv p.2 (m p.1))
def kvB (l : List TT) : List (TT × PyData) := l.map fun t => (t, .bool true)
theorem kvG_flat (f : List (TT × Nat)) (m : TT → Nat) : ∀ p ∈ kvG f m, flat p.2 = true := fun p hp => by
  obtain ⟨q, _, rfl⟩ := List.mem_map.mp hp
  rfl
theorem kvB_flat (l : List TT) : ∀ p ∈ kvB l, flat p.2 = true := fun p hp => by
  obtain ⟨q, _, rfl⟩ := List.mem_map.mp hp
  rfl
theorem keys_kvG (f : List (TT × Nat)) (m : TT → Nat) : (kvG f m).map Prod.fst = Lt.keys f := by
  unfold kvG Lt.keys
  rw [List.map_map]
  rfl
theorem keys_kvB (l : List TT) : (kvB l).map Prod.fst = l := by
  unfold kvB
  rw [List.map_map]
  exact List.map_id _
theorem lookG_none {f : List (TT × Nat)} {m : TT → Nat} {t : TT} (h : t ∉ Lt.keys f) : lookT (kvG f m) t = none := lookT_none (by rw [keys_kvG]; exact h)
theorem lookG_some {f : List (TT × Nat)} {m : TT → Nat} {t : TT} {d : Nat} (hn : (Lt.keys f).Nodup) (h : (t, d) ∈ f) : lookT (kvG f m) t = some (gv d (m t)) := lookT_mem (by rw [keys_kvG]; exact hn) (List.mem_map.mpr ⟨(t, d), h, rfl⟩)
theorem putG_new {f : List (TT × Nat)} {m : TT → Nat} {t : TT} {d : Nat} (h : t ∉ Lt.keys f) : putT (kvG f m) t (gv d (m t)) = kvG (f ++ [(t, d)]) m := by
  unfold putT
  rw [lookG_none h]
  simp [kvG]
theorem putG_old {f : List (TT × Nat)} {m : TT → Nat} {t : TT} {d v : Nat} (hn : (Lt.keys f).Nodup) (h : (t, d) ∈ f) : putT (kvG f m) t (gv d v) = kvG f (Lt.updF m t v) := by
  unfold putT
  rw [lookG_some hn h]
  show (kvG f m).map _ = _
  unfold kvG
  rw [List.map_map]
  refine List.map_congr_left fun p hp => ?_
  show (if p.1 = t then (p.1, gv d v) else (p.1, gv p.2 (m p.1))) = (p.1, gv p.2 (Lt.updF m t v p.1))
  by_cases e : p.1 = t
  · rw [if_pos e, e, Lt.updF_at]
    have e2 : p.2 = d := by
      have h1 := lookG_some (m := m) hn (t := p.1) (d := p.2) hp
      rw [e, lookG_some hn h] at h1
      have h2 := Option.some.inj h1
      have h3 := PyData.tuple.inj h2
      have h4 := (List.cons.inj h3).1
      have h5 := PyData.int.inj h4
      omega
    rw [e2]
  · rw [if_neg e]
    unfold Lt.updF
    rw [if_neg e]
theorem putB {l : List TT} {t : TT} (h : t ∉ l) : putT (kvB l) t (.bool true) = kvB (l ++ [t]) := by
  unfold putT
  rw [lookT_none (by rw [keys_kvB]; exact h)]
  simp [kvB]
theorem len_kvG (f : List (TT × Nat)) (m : TT → Nat) : (kvG f m).length = f.length := List.length_map ..
theorem len_kvB (l : List TT) : (kvB l).length = l.length := List.length_map ..
/-- what spread gives -/
structure Spread (t : TT) (f : List (TT × Nat)) (m : TT → Nat) : Prop where
  far : Lt.Far Lt.DeedR (Lt.crowd t) f
  most : ∀ x d, (x, d) ∈ f → d ≤ m x
structure SpPre (n g : Nat) (t : TT) : Prop where
  wf : Lt.WF n g t
  n1 : 1 ≤ n
  n6 : n ≤ 6
  g1 : 1 ≤ g
  g5 : g ≤ 5
  few : Lt.fac n ^ g ≤ 1296
abbrev sp_spread (P : Program) (w : World) (T : List (Addr × Str)) (K : PySem.W.Frag) : Sp := Pr T (fun v : Nat × Nat × TT => [dd (K := K) (pT v.2.2)]) (fun v => SpPre v.1 v.2.1 v.2.2) fun v y => ∃ f m, y = kdd P w K (kvG f m) ∧ Spread v.2.2 f m
theorem SpPre.nx {n g : Nat} {t u : TT} (h : SpPre n g t) (hu : Lt.WF n g u) : NxPre n g u := ⟨hu, h.n6, h.g1, h.g5⟩
def keyS (u : TT) : PyData := .int (-(((Lt.oddsOf u).length : Nat) : Int))
theorem sd_kin {n g d m : Nat} {t u : TT} {f : List (TT × Nat)} {rim : List TT} (h : SpPre n g t) (l : Lt.Lvl Lt.DeedR (Lt.crowd t) d f rim) (hu : (u, m) ∈ f) : Lt.Kin n g (Lt.crowd t) u := Lt.deeds_kin (Lt.crowd_wf h.wf) (l.dist u m hu).1.1
theorem sd_few {n g : Nat} {t : TT} {f : List (TT × Nat)} (h : SpPre n g t) (hn : (Lt.keys f).Nodup) (hk : ∀ u ∈ Lt.keys f, Lt.Kin n g (Lt.crowd t) u) : f.length ≤ 1296 := by
  have h1 := Lt.count_most (Lt.crowd_wf h.wf) hn hk
  have h2 : (Lt.keys f).length = f.length := by
    unfold Lt.keys
    rw [List.length_map]
  have := h.few
  omega
structure DS (T : List (Addr × Str)) (P : Program) (w : World) (H0 : Hp) (F r O : Addr) (Γ : Gam K) (f : List (TT × Nat)) (m : TT → Nat) (us : List V) (rim ord : List TT) (σ : L2.St) (H : Hp) : Prop where
  ok : Ok T σ H Γ
  nx : Nx T H0 H
  kd : KD P w K H F (kvG f m)
  rm : lstAt K H r us rim
  od : rawL K H O ord
section
variable {H0 H H' : Hp} {F r O D : Addr} {Γ Γ' : Gam K} {f : List (TT × Nat)} {m : TT → Nat} {us : List V} {rim ord : List TT} {σ σ' : L2.St}
theorem DS.go (s : DS T P w H0 F r O Γ f m us rim ord σ H) (n : Nx T H H') : DS T P w H0 F r O Γ f m us rim ord σ H' := ⟨s.ok.go n, s.nx.trans n, s.kd.go n.kp, s.rm.go n, s.od.go n⟩
theorem DS.slots (s : DS T P w H0 F r O Γ f m us rim ord σ H) (ok : Ok T σ' H Γ') : DS T P w H0 F r O Γ' f m us rim ord σ' H := ⟨ok, s.nx, s.kd, s.rm, s.od⟩
/-- a put to found -/
theorem DS.put {o' : Obj} {f' : List (TT × Nat)} {m' : TT → Nat} {t : TT} {z : PyData} (s : DS T P w H0 F r O Γ f m us rim ord σ H) (fl : Fl Γ) (nF : New H0 F) (e : putT (kvG f m) t z = kvG f' m') (h : KDo P w K (upd H F (xO F o')) F o' (putT (kvG f m) t z)) : DS T P w H0 F r O Γ f' m' us rim ord σ (upd H F (xO F o')) := by
  obtain ⟨o, k⟩ := s.kd
  have tb : Tabs T (upd H F (xO F o')) := Tabs.mutX s.ok.tb k
  have mv : Mv K H (upd H F (xO F o')) F := mv_dict k
  rw [e] at h
  exact ⟨ok_tk s.ok fl mv.tk tb, nx_new s.nx nF tb, ⟨o', h⟩, s.rm.mv mv (s.rm.ne k), s.od.mv mv (raw_ne s.od k)⟩
/-- a put to another dict -/
theorem DS.beside {o o' : Obj} {kvs : List (TT × PyData)} (s : DS T P w H0 F r O Γ f m us rim ord σ H) (fl : Fl Γ) (nD : New H0 D) (k : KDo P w K H D o kvs) (hF : F ≠ D) : DS T P w H0 F r O Γ f m us rim ord σ (upd H D (xO D o')) := by
  have tb : Tabs T (upd H D (xO D o')) := Tabs.mutX s.ok.tb k
  have mv : Mv K H (upd H D (xO D o')) D := mv_dict k
  exact ⟨ok_tk s.ok fl mv.tk tb, nx_new s.nx nD tb, kd_mv s.kd mv (kvG_flat _ _) hF, s.rm.mv mv (s.rm.ne k), s.od.mv mv (raw_ne s.od k)⟩
/-- order.append -/
theorem DS.app {os : List V} {v : V} {t : TT} (s : DS T P w H0 F r O Γ f m us rim ord σ H) (fl : Fl Γ) (nO : New H0 O) (hr : r ≠ O) (hu : H O = some (.lst os)) (hd : DpAll K H os (ord.map pT)) (hv : Dp K H v (pT t)) : DS T P w H0 F r O Γ f m us rim (ord ++ [t]) σ (upd H O (.lst (os ++ [v]))) := by
  have tb : Tabs T (upd H O (.lst (os ++ [v]))) := Nx.tabL (H1 := H) s.ok.tb hu
  have mv : Mv K H (upd H O (.lst (os ++ [v]))) O := mv_list hu
  refine ⟨ok_tk s.ok fl mv.tk tb, nx_new s.nx nO tb, kd_mv s.kd mv (kvG_flat _ _) (kd_ne s.kd hu), s.rm.mv mv hr, ⟨_, upd_same, ?_⟩⟩
  rw [List.map_append]
  exact dpa_app (dpa_flat mv.tk _ _ (flats _) hd) (.cons (dp_flat mv.tk _ _ (flat_pT t) hv) .nil)
end
def gs (t : TT) (F r O : Addr) (a b c : Option (Dsc K)) : Gam K := [some (dd (pT t)), some (isR F), some (isR r), some (isR O), a, b, c]
theorem gs_fl {t : TT} {F r O : Addr} {a b c : Option (Dsc K)} (ha : ∀ x, a = some x → Tst x) (hb : ∀ x, b = some x → Tst x) (hc : ∀ x, c = some x → Tst x) : Fl (gs t F r O a b c) := fun i x e => by
  match i, e with
  | 0, e => cases e; exact tst_flat (flat_pT _)
  | 1, e => cases e; exact tst_isR _
  | 2, e => cases e; exact tst_isR _
  | 3, e => cases e; exact tst_isR _
  | 4, e => exact ha x (Option.some.inj e)
  | 5, e => exact hb x (Option.some.inj e)
  | 6, e => exact hc x (Option.some.inj e)
  | i + 7, e => cases e
theorem tsR (D : Addr) : ∀ x : Dsc K, some (isR D) = some x → Tst x := fun x e => by cases e; exact tst_isR D
theorem sc_spread : FnScope ["table", "found", "rim", "order", "here", "later", "told"] ["table"] (defScope (topS 41)) := ⟨rfl, rfl, rfl, by decide +kernel, rfl, by decide +kernel, by decide +kernel⟩
theorem d_spread (B : Bts mg) (C : Csts mg) (D_crowd_of : Def P w K mg base 1 "crowd_of" ["table"] (sp_crowd_of T K)) (D_nexts_of : Def P w K mg base 4 "nexts_of" ["table"] (sp_nexts_of T K)) (D_odds_of : Def P w K mg base 3 "odds_of" ["table"] (sp_odds_of T K)) {cA pA : Addr} (TB : TabB base mg cA pA) (hT : (pA, ("spread.<locals>." ++ "<lambda>" : Str)) ∈ T) (hU : ∀ q ∈ T, q.1 = pA → q.2 = ("spread.<locals>." ++ "<lambda>" : Str)) (R : RawC mg K "spread" (topS 41) cA) : Def P w K mg base 8 "spread" ["table"] (sp_spread P w T K) := by
  refine def_ofC R sc_spread (fun _ _ _ _ _ _ us hl => match us, hl with | [_], _ => rfl) (fun vs H Q E h => Pr.len (n := 1) (fun _ => rfl) h) fun f A outer s H vs Q E hr h => ?_
  have nd := sc_spread.nd
  refine ⟨_, (pss_cons (ps_par (i := 1) (j := 2) rfl nd rfl rfl (by decide) rfl rfl (pa_cons (pe_xnew1 hr.units (pe_callD D_crowd_of hr (by decide) (by rfl) (pa_cons (pv 0) pa_nil)) (pe_tup (pa_cons pe_int (pa_cons pe_int pa_nil)))) (pa_cons (pe_lst (pa_cons (pe_callD D_crowd_of hr (by decide) (by rfl) (pa_cons (pv 0) pa_nil)) pa_nil)) pa_nil)) (by rfl))
    (pss_cons (ps_set (i := 3) nd rfl (Or.inl rfl) (pe_lst pa_nil))
    (pss_cons (ps_while PassesOwn.never (pt_cmpR (w_neD (K := K) (by rfl) hr) (pv 2) (pe_lst pa_nil) (nomark _))
     (pss_cons (ps_set (i := 5) nd rfl (Or.inl rfl) pe_xnew)
     (pss_cons (ps_for PassesOwn.never rfl (w_piL (K := K) (by rfl) (pv 2)) (pg_name (i := 4) nd rfl (Or.inl rfl) (Or.inr rfl))
      (pss_cons (ps_expr (pe_bm PySem.F.plainAttrs_list PySem.F.slot_list_append PySem.F.type_list_append mt_append (pv 3) (pa_cons (pv 4) pa_nil)))
      (pss_one (ps_for PassesOwn.never rfl (w_piL (K := K) (by rfl) (pe_callD D_nexts_of hr (by decide) (by rfl) (pa_cons (pv 4) pa_nil))) (pg_name (i := 6) nd rfl (Or.inl rfl) (Or.inr rfl))
       (pss_one (ps_if (pt_cmp (w_xnotin (P := P) (w := w) (K := K) (by rfl) (by rfl) (by rfl) hr (pv 6) (pv 1))) (pss_cons (ps_xput hr.units (pv 1) (pv 6) (pe_tup (pa_cons (pe_op op_add (pe_ix (w_ixT (K := K) (by rfl)) (w_xget (P := P) (w := w) (K := K) (by rfl) (by rfl) (by rfl) hr (pv 1) (pv 4) (fun _ _ => rfl)) pe_int (fun _ _ => rfl)) pe_int) (pa_cons pe_int pa_nil))) rfl)
        (pss_one (ps_xput hr.units (pv 5) (pv 6) pe_bl rfl))) pss_nil))))))
     (pss_cons (ps_set (i := 2) nd rfl (Or.inl rfl) (pe_callTy (cr_listX rfl) (by rfl) B.list PyProof.Rows.boot_list (pa_cons (pv 5) pa_nil)))
     (pss_one (ps_if (pt_cmpR op_gt (pe_callB (w_lenX (P := P) (w := w) (K := K) (by rfl) (by rfl) (by rfl)) (by rfl) B.len PySem.boot_len (pa_cons (pv 1) pa_nil)) (pe_glob (v := .int 3000) (by rfl) C.crowds.choose_spec ⟨_, rfl⟩) (nomark _)) (pss_one ps_never) pss_nil))))))
    (pss_cons (ps_for PassesOwn.never rfl (w_piL (K := K) (by rfl) (pe_sortL (T := T) (enc := pT) (k := keyS) (N := ["told"]) (fr := []) (js := []) (a := "told") (j := 3) rfl hr (by rfl) B.sorted (pv 3) TB rfl hT hU (NdefX.nscope_by (by decide +kernel)) (hfree_by (by kernel_rfl)) (hfr_by (by decide +kernel)) rfl rfl (fun _ _ _ _ _ us hl => match us, hl with | [_], _ => rfl) (fun _ _ _ _ _ _ hr => pe_un un_neg (pe_callB (w_len (K := K) (by rfl)) (by rfl) B.len PySem.boot_len (pa_cons (pe_callD D_odds_of hr (by decide) (by rfl) (pa_cons (pv 0) pa_nil)) pa_nil))))) (pg_name (i := 4) nd rfl (Or.inl rfl) (Or.inr rfl))
     (pss_one (ps_for PassesOwn.never rfl (w_piL (K := K) (by rfl) (pe_callD D_nexts_of hr (by decide) (by rfl) (pa_cons (pv 4) pa_nil))) (pg_name (i := 6) nd rfl (Or.inl rfl) (Or.inr rfl))
      (pss_one (ps_xput hr.units (pv 1) (pv 6) (pe_tup (pa_cons (pe_ix (w_ixT (K := K) (by rfl)) (w_xget (P := P) (w := w) (K := K) (by rfl) (by rfl) (by rfl) hr (pv 1) (pv 6) (fun _ _ => rfl)) pe_int (fun _ _ => rfl)) (pa_cons (pe_callB (call_max2 rfl) (by rfl) B.max PyProof.Rows.boot_max (pa_cons (pe_ix (w_ixT (K := K) (by rfl)) (w_xget (P := P) (w := w) (K := K) (by rfl) (by rfl) (by rfl) hr (pv 1) (pv 6) (fun _ _ => rfl)) pe_int (fun _ _ => rfl)) (pa_cons (pe_op op_add (pe_ix (w_ixT (K := K) (by rfl)) (w_xget (P := P) (w := w) (K := K) (by rfl) (by rfl) (by rfl) hr (pv 1) (pv 4) (fun _ _ => rfl)) pe_int (fun _ _ => rfl)) pe_int) pa_nil))) pa_nil))) rfl)))))
    (pss_one (ps_ret (pv 1))))))), body_ret h ?_⟩
  rintro ⟨n, g, t⟩ hpre
  have hpre : SpPre n g t := hpre
  have ht := hpre.wf
  have hl : t.length = n := ht.1
  have n6 := hpre.n6
  have g5 := hpre.g5
  have hct := Lt.crowd_wf ht
  intro D σ H0 ok kk
  have ecrowd : EG T (tCall (sp_crowd_of T K) [] E0 (tCons (tVar 0) tNil)) (startG 7 [dd (K := K) (pT t)]) (dd (pT (Lt.crowd t))) := eg_call t (ea1 (vr (i := 0))) ⟨(show t.length ≤ 1000 by omega), wf_ne ht hpre.g1⟩
  intro F o hF k0
  have nF : Nx T H0 (upd H0 F (xO F o)) := Nx.new ok.tb hF
  refine ecrowd σ _ (ok.go nF) _ fun y H1 n1 d1 => ?_
  refine (eg_tup (T := T) (K := K) (Γ := startG 7 [dd (K := K) (pT t)]) (ds := [.int 0, .int 0]) (ea2 (ed_int 0) (ed_int 0)) (by simp)) σ H1 ((ok.go nF).go n1) _ fun v H2 n2 d2 => ?_
  have k2 := k0.go (n1.trans n2).kp
  refine ⟨k2.at', Lt.crowd t, gv 0 0, dp_mono n2.kp _ _ d1, rfl, d2, fun o1 k1 => ?_⟩
  have newF : New H0 F := New.back (ExtN.refl _) hF
  have n3 : Nx T H0 (upd H2 F (xO F o1)) := ((nF.trans n1).trans n2).mutX hF k2
  generalize hH3 : upd H2 F (xO F o1) = H3 at k1 n3
  refine (en_lst (ds := [pT (Lt.crowd t)]) (ea1 ecrowd) (by simp)) σ H3 (ok.go n3) _ fun r us H4 n4 newr er dr => ?_
  refine ⟨_, _, rfl, ?_⟩
  have n04 := n3.trans n4
  have ok4 : Ok T ((σ.set 1 (some (.ref F))).set 2 (some (.ref r))) H4 ([some (dd (pT t)), some (isR F), some (isR r), none, none, none, none] : Gam K) := ((ok.go n04).set (x := isR F) 1 rfl).set (x := isR r) 2 rfl
  refine ⟨Nat.zero_le _, fun O hO => ?_⟩
  have n5 : Nx T H4 (upd H4 O (.lst [])) := Nx.new n4.tb hO
  have eO : upd H4 O (.lst []) O = some (.lst []) := upd_same
  generalize hH5 : upd H4 O (.lst []) = H5 at n5 eO
  have hrO : r ≠ O := ne_of_none er hO
  have newO0 : New H0 O := New.back n04.kp hO
  let G0 : Addr → Gam K := fun r => gs (K := K) t F r O none none none
  let St : Nat → L2.St → Hp → Prop := fun m σ' H' => ∃ (d : Nat) (f : List (TT × Nat)) (rim ord : List TT) (r : Addr) (us : List V), Lt.Lvl Lt.DeedR (Lt.crowd t) d f rim ∧ ord ++ rim = Lt.keys f ∧ r ≠ O ∧ m = 2 * (1296 - f.length) + (if rim = [] then 0 else 1) ∧ DS T P w H0 F r O (G0 r) f (fun _ => 0) us rim ord σ' H'
  refine ⟨St, ⟨_, 0, [(Lt.crowd t, 0)], [Lt.crowd t], [], r, us, Lt.Lvl.start, rfl, hrO, rfl, (ok4.go n5).set (x := isR O) 3 rfl, n04.trans n5, ⟨o1, (k1.go n4.kp).go n5.kp⟩, ⟨n5.kp r _ er nl, dpAll_mono n5.kp _ _ dr⟩, ⟨[], eO, .nil⟩⟩, ?_⟩
  rintro m σ1 H1' ⟨d, f, rim, ord, r, us, lvl, hord, hrO, rfl, s⟩
  have kins : ∀ u d', (u, d') ∈ f → Lt.Kin n g (Lt.crowd t) u := fun u d' hu => sd_kin hpre lvl hu
  have hfew : f.length ≤ 1296 := sd_few hpre lvl.nodup fun u hu => by
    obtain ⟨d', hd'⟩ := Lt.mem_keys.mp hu
    exact kins u d' hd'
  have hordl : ord.length + rim.length = f.length := by
    have := congrArg List.length hord
    rw [List.length_append] at this
    rw [this]
    unfold Lt.keys
    rw [List.length_map]
  -- the test
  obtain ⟨v2, e2, d2'⟩ := ok_val s.ok (i := 2) rfl
  have d2' : v2 = .ref r := d2'
  subst d2'
  have ok3 := ok_put (x := dd (.list (rim.map pT))) s.ok e2 (dp_newL s.rm.1 s.rm.2)
  have htest : ET T (tTest (tOp (rNeD K) (tVar 2) (tLst tNil))) ((G0 r).set 2 (some (dd (.list (rim.map pT))))) (!decide (rim = [])) := et_test (eg_op (x := dd (.list (rim.map pT))) (vr (Γ := (G0 r).set 2 (some (dd (.list (rim.map pT))))) (i := 2)) (en_lst (ds := []) ea_nil (by simp)).eg.ld (rg_neD (sh_listA (k := 2) (plA_map fun t _ => pl_pT t) (fun d hd => by
    obtain ⟨t, _, rfl⟩ := List.mem_map.mp hd
    exact dp_pT t) (by omega)) (sh_listA (k := 0) rfl (fun d hd => by cases hd) (by omega)) (by
      rw [eqv_dec (p := rim = []) (by unfold pl; exact plA_map fun t _ => pl_pT t) rfl (by simp)])))
  refine htest σ1 H1' ok3 _ fun H4 n4 => ?_
  have s4 := s.go n4
  by_cases hrim : rim = []
  · rw [decide_eq_true hrim]
    have far : Lt.Far Lt.DeedR (Lt.crowd t) f := by rw [hrim] at lvl; exact lvl.done
    rw [hrim, List.append_nil] at hord
    have hf : ∀ u, u ∈ ord → ∃ d', (u, d') ∈ f := fun u hu => Lt.mem_keys.mp (by rw [← hord]; exact hu)
    -- sorted(order, key=..)
    obtain ⟨os, hos, dos⟩ := s4.od
    obtain ⟨w3, e3, x3⟩ := ok_val s4.ok (i := 3) rfl
    have x3 : w3 = .ref O := x3
    subst x3
    have okO := ok_put (x := dd (.list (ord.map pT))) s4.ok e3 (dp_newL hos dos)
    have hsort : EP' T (tSortL T K pT keyS ["told"] [] (tVar 3) (tUn (rU fun i => .int (-i)) (tCB (rLenS K) (tCons (tCall (sp_odds_of T K) [] E0 (tCons (tVar 0) tNil)) tNil)))) ((G0 r).set 3 (some (dd (.list (ord.map pT))))) (fun x => ∃ l : List TT, x = ll (l.map pT) ∧ l = ord.mergeSort (dataLe false keyS)) := by
      refine EG.ep (eg_sortL (fun u => [some (dd (pT u))]) (dd (.list (ord.map pT))) ord (vr (i := 3)) (fun v H d => .inl d) (by omega) (fun a b => by simp [keyS, alike]) (.inr fun d hd => ?_) (fun x _ => by simp [keyS, PyData.depth]) (fun b _ σ H u ok dv => ?_) (fun b hb => ?_)) ⟨_, rfl, rfl⟩
      · obtain ⟨u, _, rfl⟩ := List.mem_map.mp hd
        exact ⟨by simp [keyS], fun xs z => by cases z⟩
      · refine ⟨ok.tb, rfl, fun i x hx => ?_⟩
        match i, hx with
        | 0, hx => cases hx; exact ⟨u, rfl, dv⟩
        | i + 1, hx => cases hx
      · obtain ⟨d', hd'⟩ := hf b hb
        have hk := kins b d' hd'
        refine (eg_un (eg_cb (ea1 (eg_call (n, g, b) (ea1 (vr (i := 0))) ⟨hk.wf, (show n ≤ 1000 by omega), (show g ≤ 1000 by omega)⟩)) (cg_len (ds := (Lt.oddsOf b).map pPr) (.inl rfl))) (ug_i (g := fun i => -i))).is ?_
        rw [List.length_map]
        rfl
    generalize hso : ord.mergeSort (dataLe false keyS) = so at hsort
    have hOrd : Lt.Ordd (Lt.crowd t) f so := by
      refine ⟨?_, ?_⟩
      · rw [← hso, ← hord]
        exact List.mergeSort_perm _ _
      · rw [← hso, show dataLe false keyS = _ from PySem.W.dataLe_int fun u => -(((Lt.oddsOf u).length : Nat) : Int)]
        have hp := List.pairwise_mergeSort (le := fun a b : TT => decide (-(((Lt.oddsOf a).length : Nat) : Int) ≤ -(((Lt.oddsOf b).length : Nat) : Int))) (fun a b c h1 h2 => by
          have h1 := of_decide_eq_true h1
          have h2 := of_decide_eq_true h2
          exact decide_eq_true (by omega)) (fun a b => by
          by_cases h : -(((Lt.oddsOf a).length : Nat) : Int) ≤ -(((Lt.oddsOf b).length : Nat) : Int)
          · simp only [decide_eq_true h, Bool.true_or]
          · have : -(((Lt.oddsOf b).length : Nat) : Int) ≤ -(((Lt.oddsOf a).length : Nat) : Int) := by omega
            simp only [decide_eq_true this, Bool.or_true]) ord
        exact hp.imp fun {a b} h => by
          have := of_decide_eq_true h
          omega
    have hwf : ∀ x d, (x, d) ∈ f → Lt.WF n g x := fun x d hx => (kins x d hx).wf
    refine el_for hsort okO (fun l p us2 i σ' H' => ∃ mm, Lt.MInv f so i mm ∧ lstAt K H' p us2 l ∧ DS T P w H0 F r O (G0 r) f mm us rim ord σ' H') (fun l p us2 H6 _ n6' hp => ⟨fun _ => 0, fun p hp => by simp at hp, hp, s4.go n6'⟩) (fun l p us2 i σ' H' h => by
      obtain ⟨_, _, h, _⟩ := h
      exact h) (fun l p us2 i here v σ' H' hl2 hhere dvh h => ?_) (fun l p us2 σ' H' hl2 h => ?_)
    · subst hl2
      obtain ⟨mm, hmi, hp, s6⟩ := h
      have hmem : here ∈ ord := by
        have := hOrd.perm.mem_iff.mp (List.mem_of_getElem? hhere)
        rw [hord]
        exact this
      obtain ⟨dh, hd0⟩ := hf here hmem
      have hkin := kins _ _ hd0
      have s7 : DS T P w H0 F r O (gs (K := K) t F r O (some (dd (pT here))) none none) f mm us rim ord (σ'.set 4 (some v)) H' := s6.slots (s6.ok.set (x := dd (pT here)) 4 dvh)
      have hnext : EP' T (tCall (sp_nexts_of T K) [] E0 (tCons (tVar 4) tNil)) (gs (K := K) t F r O (some (dd (pT here))) none none) (fun x => ∃ l : List TT, x = ll (l.map pT) ∧ Nexts here l) := ep_call (n, g, here) (ea1 (vr (i := 4))) (hpre.nx hkin.wf)
      refine el_for hnext s7.ok (fun ts q us3 k σ2 H2 => ∃ mm, Lt.MInv f l i mm ∧ (∀ x ∈ ts.take k, dh + 1 ≤ mm x) ∧ lstAt K H2 p us2 l ∧ lstAt K H2 q us3 ts ∧ DS T P w H0 F r O (gs (K := K) t F r O (some (dd (pT here))) none none) f mm us rim ord σ2 H2)
        (fun ts q us3 H8 hts n8 hq => ⟨mm, hmi, fun x hx => by simp at hx, hp.go n8, hq, s7.go n8⟩) (fun ts q us3 k σ2 H2 h => by
          obtain ⟨_, _, _, _, h, _⟩ := h
          exact h) (fun ts q us3 k told v σ2 H2 hts htold dv h => ?_) (fun ts q us3 σ2 H2 hts h => ?_)
      · obtain ⟨mm, hmi, hlow, hp, hq, s8⟩ := h
        have hdeed : Lt.DeedR here told := (hts.mem told).mp (List.mem_of_getElem? htold)
        obtain ⟨dt, hdt⟩ := far.all told _ (Lt.Path.snoc (far.dist _ _ hd0).1 hdeed)
        have s9 : DS T P w H0 F r O (gs (K := K) t F r O (some (dd (pT here))) none (some (dd (pT told)))) f mm us rim ord (σ2.set 6 (some v)) H2 := s8.slots (s8.ok.set (x := dd (pT told)) 6 dv)
        have fl6 : Fl (gs (K := K) t F r O (some (dd (pT here))) none (some (dd (pT told)))) := gs_fl (tsT here) tsN (tsT told)
        have etk : ts.take (k + 1) = ts.take k ++ [told] := by rw [List.take_add_one, htold]; rfl
        have hlo := hmi.here far hwf hOrd hhere hd0
        obtain ⟨w6, e6, x6⟩ := ok_val s9.ok (i := 6) rfl
        obtain ⟨w1, e1, x1⟩ := ok_val s9.ok (i := 1) rfl
        have x1 : w1 = .ref F := x1
        subst x1
        have okp := ok_put (x := kdd P w K (kvG f mm)) s9.ok e1 ⟨F, rfl, s9.kd⟩
        let Γp : Gam K := (gs (K := K) t F r O (some (dd (pT here))) none (some (dd (pT told)))).set 1 (some (kdd P w K (kvG f mm)))
        have g1 : ED T (yGet P w K (tVar 1) (tVar 6)) Γp (gv dt (mm told)) := eg_yget (vr (i := 1)) (vr (i := 6)) (lookG_some lvl.nodup hdt)
        have g2 : ED T (yGet P w K (tVar 1) (tVar 4)) Γp (gv dh (mm here)) := eg_yget (vr (i := 1)) (vr (i := 4)) (lookG_some lvl.nodup hd0)
        have hv : ED T (tTup (tCons (tOp (rIxT K) (yGet P w K (tVar 1) (tVar 6)) (tC (.int 0))) (tCons (tCB (fun xs H Q => ∃ i j, xs = [.int i, .int j] ∧ Q (.int (if j > i then j else i)) H) (tCons (tOp (rIxT K) (yGet P w K (tVar 1) (tVar 6)) (tC (.int 1))) (tCons (tOp (rI0 fun i j => .int (i + j)) (tOp (rIxT K) (yGet P w K (tVar 1) (tVar 4)) (tC (.int 1))) (tC (.int 1))) tNil))) tNil))) Γp (gv dt (max (mm told) (mm here + 1))) :=
          (eg_tup (ds := [.int ((dt : Nat) : Int), .int (max ((mm told : Nat) : Int) (((mm here : Nat) : Int) + 1))]) (ea2 (eg_op g1 (ed_int 0) (rg_ixT (d := .int ((dt : Nat) : Int)) rfl)) (eg_cb (ea2 (eg_op g1 (ed_int 1) (rg_ixT (d := .int ((mm told : Nat) : Int)) rfl)) (eg_op (eg_op g2 (ed_int 1) (rg_ixT (d := .int ((mm here : Nat) : Int)) rfl)) (ed_int 1) (rg_i (g := fun i j => i + j)))) cg_max2)) (by simp)).is (by
              have : max ((mm told : Nat) : Int) (((mm here : Nat) : Int) + 1) = ((max (mm told) (mm here + 1) : Nat) : Int) := by omega
              rw [this]
              rfl)
        refine put_one hv okp fun v9 H9 n9 d9 => ?_
        have s10 := s9.go n9
        have x6' := dp_mono n9.kp _ _ x6
        refine ⟨.ref F, e1, w6, e6, F, kvG f mm, told, gv dt (max (mm told) (mm here + 1)), rfl, s10.kd, kvG_flat _ _, x6', rfl, d9, by rw [len_kvG, sizeLine_eq]; omega, fun o' ko' => ?_⟩
        have s11 := s10.put fl6 newF (putG_old lvl.nodup hdt) ko'
        obtain ⟨oF, kF⟩ := s10.kd
        have mvF : Mv K H9 (upd H9 F (xO F o')) F := mv_dict kF
        have hp9 := hp.go n9
        have hq9 := hq.go n9
        have hle : ∀ u, mm u ≤ Lt.updF mm told (max (mm told) (mm here + 1)) u := Lt.updF_le (Nat.le_max_left _ _)
        refine ⟨Lt.updF mm told (max (mm told) (mm here + 1)), hmi.mono hle, fun x hx => ?_, hp9.mv mvF (hp9.ne kF), hq9.mv mvF (hq9.ne kF), s11.slots (s11.ok.weak rfl fun j x e => ?_)⟩
        · rw [etk] at hx
          rcases List.mem_append.mp hx with z | z
          · exact Nat.le_trans (hlow x z) (hle x)
          · rw [List.mem_singleton.mp z, Lt.updF_at]
            omega
        · match j, e with
          | 0, e => exact e
          | 1, e => exact e
          | 2, e => exact e
          | 3, e => exact e
          | 4, e => exact e
          | 5, e => exact e
          | 6, e => cases e
          | j + 7, e => cases e
      · obtain ⟨mm, hmi, hlow, hp, hq, s8⟩ := h
        rw [List.take_length] at hlow
        refine ⟨mm, hmi.next far hhere hd0 fun x hr => hlow x ((hts.mem x).mpr hr), hp, s8.slots (s8.ok.weak rfl fun j x e => ?_)⟩
        match j, e with
        | 0, e => exact e
        | 1, e => exact e
        | 2, e => exact e
        | 3, e => exact e
        | 4, e => cases e
        | 5, e => cases e
        | 6, e => cases e
        | j + 7, e => cases e
    · subst hl2
      obtain ⟨mm, hmi, _, s6⟩ := h
      obtain ⟨w1, e1, x1⟩ := ok_val s6.ok (i := 1) rfl
      have x1 : w1 = .ref F := x1
      subst x1
      exact ⟨_, e1, kk (kdd P w K (kvG f mm)) _ _ ⟨f, mm, rfl, far, hmi.done far hOrd⟩ s6.nx ⟨F, rfl, s6.kd⟩⟩
  rw [decide_eq_false hrim]
  refine ⟨fun σ' H' => ∃ m', m' < 2 * (1296 - f.length) + (if rim = [] then 0 else 1) ∧ St m' σ' H', fun σ' H' h => h, ?_⟩
  -- later = {}
  intro L oL hL k0L
  have newL : New H0 L := New.back s4.nx.kp hL
  have nL5 : Nx T H4 (upd H4 L (xO L oL)) := Nx.new n4.tb hL
  have hFL : F ≠ L := fun z => by
    obtain ⟨o2, k2⟩ := s4.kd
    have := k2.at'
    rw [z, hL] at this
    cases this
  have s5 := s4.go nL5
  have sA : DS T P w H0 F r O (gs (K := K) t F r O none (some (isR L)) none) f (fun _ => 0) us rim ord (σ1.set 5 (some (.ref L))) (upd H4 L (xO L oL)) := s5.slots (s5.ok.set (x := isR L) 5 rfl)
  -- for here in rim
  refine fl_for (r := r) (us := us) (i := 2) ?_ (fun j σ' H' => ∃ L1 acc, Lt.Puts (d + 1) f L1 acc ∧ (∀ y ∈ L1, ∃ x ∈ rim, Lt.DeedR x y ∨ y = x) ∧ (∀ x ∈ rim.take j, ∀ y, Lt.DeedR x y → y ∈ L1) ∧ KD P w K H' L (kvB acc.2) ∧ DS T P w H0 F r O (gs (K := K) t F r O none (some (isR L)) none) acc.1 (fun _ => 0) us rim (ord ++ rim.take j) σ' H')
    ⟨[], (f, []), Lt.Puts.nil lvl.nodup, fun y hy => by simp at hy, fun x hx => by simp at hx, ⟨oL, k0L⟩, by simpa using sA⟩ (fun j σ' H' h => by
      obtain ⟨_, _, _, _, _, _, s'⟩ := h
      exact .inl (.inl s'.rm.1)) (fun j v σ' H' hv h => ?_) (fun σ' H' h => ?_)
  · obtain ⟨v, e, dv⟩ := ok_val sA.ok (i := 2) rfl
    have dv : v = .ref r := dv
    rw [dv] at e
    exact e
  · obtain ⟨L1, acc, pp, hL1, hL2, kL, s'⟩ := h
    obtain ⟨dh, eh, dvh⟩ := dpa_atV s'.rm.2 hv
    rw [List.getElem?_map] at eh
    obtain ⟨here, ehere, rfl⟩ := Option.map_eq_some_iff.mp eh
    have hmem : here ∈ rim := List.mem_of_getElem? ehere
    have hd0 : (here, d) ∈ f := (lvl.rim here).mp hmem
    have hkin := kins _ _ hd0
    have hhl : here.length = n := hkin.wf.1
    have etake : rim.take (j + 1) = rim.take j ++ [here] := by rw [List.take_add_one, ehere]; rfl
    have hj : j < rim.length := (List.getElem?_eq_some_iff.mp ehere).1
    have s6 : DS T P w H0 F r O (gs (K := K) t F r O (some (dd (pT here))) (some (isR L)) none) acc.1 (fun _ => 0) us rim (ord ++ rim.take j) (σ'.set 4 (some v)) H' := s'.slots (s'.ok.set (x := dd (pT here)) 4 dvh)
    have hnext : EP' T (tCall (sp_nexts_of T K) [] E0 (tCons (tVar 4) tNil)) (gs (K := K) t F r O (some (dd (pT here))) (some (isR L)) none) (fun x => ∃ l : List TT, x = ll (l.map pT) ∧ Nexts here l) := ep_call (n, g, here) (ea1 (vr (i := 4))) (hpre.nx hkin.wf)
    have fl4 : Fl (gs (K := K) t F r O (some (dd (pT here))) (some (isR L)) none) := gs_fl (tsT here) (tsR L) tsN
    -- order.append(here)
    obtain ⟨os, hos, dos⟩ := s6.od
    obtain ⟨w3, e3, x3⟩ := ok_val s6.ok (i := 3) rfl
    have x3 : w3 = .ref O := x3
    subst x3
    obtain ⟨w4, e4, x4⟩ := ok_val s6.ok (i := 4) rfl
    refine ⟨.ref O, e3, .inl ⟨rfl, _, .inl (.inl hos)⟩, w4, e4, O, os, w4, rfl, rfl, hos, ?_, ?_⟩
    · rw [dpa_len dos, List.length_map, List.length_append, List.length_take, sizeLine_eq]
      omega
    have s7 := s6.app fl4 newO0 hrO hos dos x4
    rw [List.append_assoc, ← etake] at s7
    have kL7 : KD P w K (upd H' O (.lst (os ++ [w4]))) L (kvB acc.2) := kd_mv kL (mv_list hos) (kvB_flat _) (kd_ne kL hos)
    generalize hH7 : upd H' O (.lst (os ++ [w4])) = H7 at s7 kL7
    -- for told in nexts_of(here)
    refine el_for hnext s7.ok (fun ts q us2 k σ2 H2 => ∃ acc, Lt.Puts (d + 1) f (L1 ++ ts.take k) acc ∧ lstAt K H2 q us2 ts ∧ KD P w K H2 L (kvB acc.2) ∧ DS T P w H0 F r O (gs (K := K) t F r O (some (dd (pT here))) (some (isR L)) none) acc.1 (fun _ => 0) us rim (ord ++ rim.take (j + 1)) σ2 H2)
      (fun ts q us2 H8 hts n8 hq => ⟨acc, by simpa using pp, hq, kL7.go n8.kp, s7.go n8⟩) (fun ts q us2 k σ2 H2 h => by
        obtain ⟨_, _, h, _⟩ := h
        exact h) (fun ts q us2 k told v σ2 H2 hts htold dv h => ?_) (fun ts q us2 σ2 H2 hts h => ?_)
    · obtain ⟨acc, pp, hq, kL, s8⟩ := h
      have hdeed : Lt.DeedR here told := (hts.mem told).mp (List.mem_of_getElem? htold)
      have s9 : DS T P w H0 F r O (gs (K := K) t F r O (some (dd (pT here))) (some (isR L)) (some (dd (pT told)))) acc.1 (fun _ => 0) us rim (ord ++ rim.take (j + 1)) (σ2.set 6 (some v)) H2 := s8.slots (s8.ok.set (x := dd (pT told)) 6 dv)
      have fl6 : Fl (gs (K := K) t F r O (some (dd (pT here))) (some (isR L)) (some (dd (pT told)))) := gs_fl (tsT here) (tsR L) (tsT told)
      have etk : ts.take (k + 1) = ts.take k ++ [told] := by rw [List.take_add_one, htold]; rfl
      have pnext := pp.snoc told
      rw [List.append_assoc, ← etk] at pnext
      obtain ⟨w6, e6, x6⟩ := ok_val s9.ok (i := 6) rfl
      obtain ⟨w1, e1, x1⟩ := ok_val s9.ok (i := 1) rfl
      obtain ⟨w4, e4, x4⟩ := ok_val s9.ok (i := 4) rfl
      obtain ⟨w5, e5, x5⟩ := ok_val s9.ok (i := 5) rfl
      have x1 : w1 = .ref F := x1
      have x5 : w5 = .ref L := x5
      subst x1 x5
      have hwk : ∀ {σ3 : L2.St} {H3 : Hp} {f3 : List (TT × Nat)}, DS T P w H0 F r O (gs (K := K) t F r O (some (dd (pT here))) (some (isR L)) (some (dd (pT told)))) f3 (fun _ => 0) us rim (ord ++ rim.take (j + 1)) σ3 H3 → DS T P w H0 F r O (gs (K := K) t F r O (some (dd (pT here))) (some (isR L)) none) f3 (fun _ => 0) us rim (ord ++ rim.take (j + 1)) σ3 H3 := fun s => s.slots (s.ok.weak rfl fun j x e => by
        match j, e with
        | 0, e => exact e
        | 1, e => exact e
        | 2, e => exact e
        | 3, e => exact e
        | 4, e => exact e
        | 5, e => exact e
        | 6, e => cases e
        | j + 7, e => cases e)
      refine ⟨w6, e6, .ref F, e1, F, kvG acc.1 (fun _ => 0), told, rfl, s9.kd, x6, _, rfl, ?_⟩
      by_cases hin : told ∈ Lt.keys acc.1
      · obtain ⟨m0, hm0⟩ := Lt.mem_keys.mp hin
        rw [lookG_some pp.nodup hm0]
        have ep : Lt.put (d + 1) acc told = acc := by unfold Lt.put; rw [if_pos hin]
        rw [ep] at pnext
        exact ⟨acc, pnext, hq, kL, hwk s9⟩
      · rw [lookG_none hin]
        have ep : Lt.put (d + 1) acc told = (acc.1 ++ [(told, d + 1)], acc.2 ++ [told]) := by unfold Lt.put; rw [if_neg hin]
        rw [ep] at pnext
        have hdacc : (here, d) ∈ acc.1 := by rw [pp.eq]; exact List.mem_append_left _ hd0
        have kinA : ∀ u ∈ Lt.keys acc.1, Lt.Kin n g (Lt.crowd t) u := fun u hu => by
          obtain ⟨m', hm'⟩ := Lt.mem_keys.mp hu
          rw [pp.eq] at hm'
          rcases List.mem_append.mp hm' with z | z
          · exact kins u m' z
          · obtain ⟨q', hq', e⟩ := List.mem_map.mp z
            cases e
            have hq1 := (pp.mem u hq').1
            rcases List.mem_append.mp hq1 with z1 | z1
            · obtain ⟨x, hx, hxy⟩ := hL1 u z1
              have kx := kins x d ((lvl.rim x).mp hx)
              rcases hxy with r1 | r1
              · exact kx.trans (Lt.deed_kin kx.wf r1)
              · exact r1 ▸ kx
            · exact hkin.trans (Lt.deed_kin hkin.wf ((hts.mem u).mp (List.mem_of_mem_take z1)))
        have hfA : acc.1.length ≤ 1296 := sd_few hpre pp.nodup kinA
        have hlA := pp.length
        have okp := ok_put (x := kdd P w K (kvG acc.1 fun _ => 0)) s9.ok e1 ⟨F, rfl, s9.kd⟩
        have hv : ED T (tTup (tCons (tOp (rI0 fun i j => .int (i + j)) (tOp (rIxT K) (yGet P w K (tVar 1) (tVar 4)) (tC (.int 0))) (tC (.int 1))) (tCons (tC (.int 0)) tNil))) ((gs (K := K) t F r O (some (dd (pT here))) (some (isR L)) (some (dd (pT told)))).set 1 (some (kdd P w K (kvG acc.1 fun _ => 0)))) (gv (d + 1) 0) :=
          (eg_tup (ds := [.int (((d : Nat) : Int) + 1), .int 0]) (ea2 (eg_op (eg_op (eg_yget (vr (i := 1)) (vr (i := 4)) (lookG_some pp.nodup hdacc)) (ed_int 0) (rg_ixT (d := .int ((d : Nat) : Int)) rfl)) (ed_int 1) (rg_i (g := fun i j => i + j))) (ed_int 0)) (by simp)).is rfl
        show ite (_ = true) _ _
        rw [if_pos (show (!(Option.none (α := PyData)).isSome) = true from rfl)]
        refine put_seq hv okp fun v9 H9 n9 d9 => ?_
        have s10 := s9.go n9
        have kL10 := kL.go n9.kp
        have hq10 := hq.go n9
        have x6' := dp_mono n9.kp _ _ x6
        refine ⟨.ref F, e1, w6, e6, F, kvG acc.1 (fun _ => 0), told, gv (d + 1) 0, rfl, s10.kd, kvG_flat _ _, x6', rfl, d9, by rw [len_kvG, sizeLine_eq]; omega, fun o' ko' => ?_⟩
        have s11 := s10.put fl6 newF (putG_new (d := d + 1) hin) ko'
        obtain ⟨oF, kF⟩ := s10.kd
        have mvF : Mv K H9 (upd H9 F (xO F o')) F := mv_dict kF
        have kL11 := kd_mv kL10 mvF (kvB_flat _) (Ne.symm hFL)
        have hq11 := hq10.mv mvF (hq10.ne kF)
        generalize hH11 : upd H9 F (xO F o') = H11 at s11 kL11 hq11
        -- later[told] = True
        have hnl : told ∉ acc.2 := fun z => hin (by
          rw [pp.eq, Lt.keys_app]
          exact List.mem_append_right _ z)
        obtain ⟨w6', e6', x6''⟩ := ok_val s11.ok (i := 6) rfl
        refine ⟨.ref L, e5, w6', e6', L, kvB acc.2, told, .bool true, rfl, kL11, kvB_flat _, x6'', rfl, .bl _, by rw [len_kvB, sizeLine_eq]; omega, fun o2 ko2 => ?_⟩
        obtain ⟨oL2, kL2⟩ := kL11
        have s12 := s11.beside (o' := o2) fl6 newL kL2 hFL
        have hq12 := hq11.mv (mv_dict (o' := o2) kL2) (hq11.ne kL2)
        rw [putB hnl] at ko2
        exact ⟨_, pnext, hq12, ⟨o2, ko2⟩, hwk s12⟩
    · obtain ⟨acc, pp, hq, kL, s8⟩ := h
      rw [List.take_length] at pp
      refine ⟨L1 ++ ts, acc, pp, fun y hy => ?_, fun x hx y hr => ?_, kL, s8.slots (s8.ok.weak rfl fun j x e => ?_)⟩
      · rcases List.mem_append.mp hy with z | z
        · exact hL1 y z
        · exact ⟨here, hmem, .inl ((hts.mem y).mp z)⟩
      · rw [etake] at hx
        rcases List.mem_append.mp hx with z | z
        · exact List.mem_append_left _ (hL2 x z y hr)
        · rw [List.mem_singleton.mp z] at hr
          exact List.mem_append_right _ ((hts.mem y).mpr hr)
      · match j, e with
        | 0, e => exact e
        | 1, e => exact e
        | 2, e => exact e
        | 3, e => exact e
        | 4, e => cases e
        | 5, e => exact e
        | 6, e => cases e
        | j + 7, e => cases e
  · obtain ⟨L1, acc, pp, hL1, hL2, kL, s'⟩ := h
    rw [s'.rm.len, List.take_length] at s' hL2
    have lvl' := lvl.next hL1 hL2 pp
    have hord' : ord ++ rim ++ acc.2 = Lt.keys acc.1 := by rw [pp.eq, Lt.keys_app, hord]
    have hlen' := pp.length
    have hfA : acc.1.length ≤ 1296 := sd_few hpre pp.nodup fun u hu => by
      obtain ⟨m', hm'⟩ := Lt.mem_keys.mp hu
      exact sd_kin hpre lvl' hm'
    obtain ⟨w5, e5, x5⟩ := ok_val s'.ok (i := 5) rfl
    have x5 : w5 = .ref L := x5
    subst x5
    -- rim = list(later)
    refine ⟨.ref L, e5, L, kvB acc.2, rfl, kL, fun p us' hp hus => ?_⟩
    have hus : DpAll K H' us' (acc.2.map pT) := by
      have e : (kvB acc.2).map (fun p => pT p.1) = acc.2.map pT := by
        unfold kvB
        rw [List.map_map]
        rfl
      rw [← e]
      exact hus
    have np : Nx T H' (upd H' p (.lst us')) := Nx.new s'.ok.tb hp
    obtain ⟨os, hos, _⟩ := s'.od
    have hpO : p ≠ O := Ne.symm (ne_of_none hos hp)
    have sp := s'.go np
    have okp : Ok T (σ'.set 2 (some (.ref p))) (upd H' p (.lst us')) ((gs (K := K) t F r O none (some (isR L)) none).set 2 (some (isR p))) := sp.ok.set (x := isR p) 2 rfl
    have s6 : DS T P w H0 F p O (gs (K := K) t F p O none (some (isR L)) none) acc.1 (fun _ => 0) us' acc.2 (ord ++ rim) (σ'.set 2 (some (.ref p))) (upd H' p (.lst us')) := ⟨okp, sp.nx, sp.kd, ⟨upd_same, dpAll_mono np.kp _ _ hus⟩, sp.od⟩
    obtain ⟨w1, e1, x1⟩ := ok_val s6.ok (i := 1) rfl
    have x1 : w1 = .ref F := x1
    subst x1
    refine ⟨.ref F, e1, F, kvG acc.1 (fun _ => 0), rfl, s6.kd, _, 3000, rfl, rfl, _, rfl, ?_⟩
    have hlt : ¬ ((3000 : Int) < ((kvG acc.1 (fun _ => 0)).length : Nat)) := by
      rw [len_kvG]
      omega
    rw [decide_eq_false hlt]
    refine ⟨2 * (1296 - acc.1.length) + (if acc.2 = [] then 0 else 1), ?_, d + 1, acc.1, acc.2, ord ++ rim, p, us', lvl', hord', hpO, rfl, s6.slots (s6.ok.weak rfl fun j x e => ?_)⟩
    · rw [if_neg hrim]
      by_cases ha : acc.2 = []
      · rw [if_pos ha]
        rw [ha, List.length_nil] at hlen'
        omega
      · rw [if_neg ha]
        have : 0 < acc.2.length := List.length_pos_iff.mpr ha
        omega
    · match j, e with
      | 0, e => exact e
      | 1, e => exact e
      | 2, e => exact e
      | 3, e => exact e
      | 4, e => cases e
      | 5, e => cases e
      | 6, e => cases e
      | j + 7, e => cases e
end Lw
set_option Elab.async false
set_option linter.all false
set_option maxRecDepth 100000
set_option maxHeartbeats 4000000
/-! least_deeds, most_deeds, way -/
namespace Lw
open PySem PySem.Spec PyProof.Rows L2
open LamX (ExtN Tabs TabS CodeO TabB)
open PySem.W (dataLe dataLt alike alikeAll)
variable {P : Program} {w : World} {K : PySem.W.Frag} {mg : Str → Option Value} {base : Heap} {T : List (Addr × Str)}
theorem ep_xget1 {X : Cx} {Γ : Gam X.K} {td ty : TE} {P1 P2 : Dsc X.K → Prop} {t : TT} (h : EP' T td Γ P1) (hy : EG T ty Γ (dd (pT t))) (hx : ∀ x, P1 x → ∃ kvs z, x = kdd X.prog X.w X.K kvs ∧ lookT kvs t = some z ∧ P2 (dd z)) : EP' T (tXGet1 X td ty) Γ P2 := fun σ H ok Q q => h σ H ok _ fun x v H1 px n1 d1 => by
  obtain ⟨kvs, z, rfl, e, p2⟩ := hx x px
  obtain ⟨d, rfl, kd⟩ := d1
  refine ⟨d, kvs, rfl, kd, ?_⟩
  refine hy σ H1 (ok.go n1) _ fun y H2 n2 d2 => ⟨t, kd.go n2.kp, d2, fun r hr => q _ r H2 p2 (n1.trans n2) ?_⟩
  rw [e] at hr
  exact hr
structure DeedPre (n g : Nat) (t u : TT) : Prop where
  ot : TabOk n g t
  ou : TabOk n g u
  few : Lt.fac n ^ g ≤ 1296
  can : ∃ k, Lt.Path Lt.DeedR k (Lt.crowd t) (Lt.crowd u)
theorem DeedPre.sp {n g : Nat} {t u : TT} (h : DeedPre n g t u) : SpPre n g t := ⟨h.ot.wf, h.ot.n1, h.ot.n6, h.ot.w1, h.ot.w5, h.few⟩
theorem Spread.at {t u : TT} {f : List (TT × Nat)} {m : TT → Nat} (s : Spread t f m) {k : Nat} (p : Lt.Path Lt.DeedR k (Lt.crowd t) u) : ∃ D, (u, D) ∈ f ∧ Lt.Dist Lt.DeedR (Lt.crowd t) u D := by
  obtain ⟨D, _, hD⟩ := Lt.dist_of_path p
  exact ⟨D, s.far.val hD, hD⟩
abbrev LeastD (t u : TT) (D : Nat) : Prop := Lt.Dist Lt.DeedR (Lt.crowd t) (Lt.crowd u) D
abbrev sp_least_deeds (T : List (Addr × Str)) (K : PySem.W.Frag) : Sp := Pr T (fun v : Nat × Nat × TT × TT => [dd (K := K) (pT v.2.2.1), dd (pT v.2.2.2)]) (fun v => DeedPre v.1 v.2.1 v.2.2.1 v.2.2.2) fun v y => ∃ D : Nat, y = dd (.int D) ∧ LeastD v.2.2.1 v.2.2.2 D
theorem sc_least_deeds : FnScope ["one", "other", "found"] ["one", "other"] (defScope (topS 42)) := ⟨rfl, rfl, rfl, by decide +kernel, rfl, by decide +kernel, by decide +kernel⟩
theorem d_least_deeds (B : Bts mg) (C : Csts mg) (D_crowd_of : Def P w K mg base 1 "crowd_of" ["table"] (sp_crowd_of T K)) (D_need_like : Def P w K mg base 6 "need_like" ["one", "other"] (sp_need_like T K)) (D_spread : Def P w K mg base 8 "spread" ["table"] (sp_spread P w T K)) (R : Raw mg K "least_deeds" (topS 42)) : Def P w K mg base 9 "least_deeds" ["one", "other"] (sp_least_deeds T K) := by
  refine def_of R sc_least_deeds (fun _ _ _ _ _ _ us hl => match us, hl with | [_, _], _ => rfl) (fun vs H Q E h => Pr.len (n := 2) (fun _ => rfl) h) fun f cdv A outer s H vs Q E hr h => ?_
  have nd := sc_least_deeds.nd
  refine ⟨_, (pss_cons (ps_expr (pe_callD D_need_like hr (by decide) (by rfl) (pa_cons (pv 0) (pa_cons (pv 1) pa_nil))))
    (pss_cons (ps_set (i := 2) nd rfl (Or.inl rfl) (pe_xget1 hr.units (pe_callD D_spread hr (by decide) (by rfl) (pa_cons (pv 0) pa_nil)) (pe_callD D_crowd_of hr (by decide) (by rfl) (pa_cons (pv 1) pa_nil)) ⟨rfl, rfl, rfl, rfl⟩))
    (pss_one (ps_ret (pe_ifExp (pt_cmp (pc_isN (pv 2))) pe_non (pe_ix (w_ixT (K := K) (by rfl)) (pv 2) pe_int (fun _ _ => rfl))))))), body_ret h ?_⟩
  rintro ⟨n, g, t, u⟩ hp
  have hp : DeedPre n g t u := hp
  have hl : t.length = n := hp.ot.len
  have hlu : u.length = n := hp.ou.len
  have n6 := hp.ot.n6
  refine sr_seq (sn_drop (eg_call (n, g, t, u) (ea2 vr vr) ⟨hp.ot, hp.ou⟩)) (sr_setP (P1 := fun y => ∃ D m, y = dd (gv D m) ∧ LeastD t u D) (ep_xget1 (ep_call (n, g, t) (ea1 vr) hp.sp) (eg_call u (ea1 vr) ⟨(show u.length ≤ 1000 by omega), wf_ne hp.ou.wf hp.ou.w1⟩) ?_) ?_)
  · rintro x ⟨f, m, rfl, s⟩
    obtain ⟨k, pk⟩ := hp.can
    obtain ⟨D, h1, h2⟩ := s.at pk
    exact ⟨_, _, rfl, lookG_some s.far.nodup h1, D, _, rfl, h2⟩
  · rintro x ⟨D, m, rfl, h⟩
    exact sr_ret (EG.ep (eg_if (b := false) (et_isN (d := gv D m) (vr (i := 2))) (fun z => by cases z) fun _ => eg_op (vr (i := 2) (x := dd (gv D m))) (ed_int 0) (rg_ixT (d := .int ((D : Nat) : Int)) rfl)) ⟨D, rfl, h⟩)
abbrev sp_most_deeds (T : List (Addr × Str)) (K : PySem.W.Frag) : Sp := Pr T (fun v : Nat × Nat × TT × TT => [dd (K := K) (pT v.2.2.1), dd (pT v.2.2.2)]) (fun v => DeedPre v.1 v.2.1 v.2.2.1 v.2.2.2) fun v y => ∃ M : Nat, y = dd (.int M) ∧ ∃ D, LeastD v.2.2.1 v.2.2.2 D ∧ D ≤ M
theorem sc_most_deeds : FnScope ["one", "other", "found"] ["one", "other"] (defScope (topS 43)) := ⟨rfl, rfl, rfl, by decide +kernel, rfl, by decide +kernel, by decide +kernel⟩
theorem d_most_deeds (B : Bts mg) (C : Csts mg) (D_crowd_of : Def P w K mg base 1 "crowd_of" ["table"] (sp_crowd_of T K)) (D_need_like : Def P w K mg base 6 "need_like" ["one", "other"] (sp_need_like T K)) (D_spread : Def P w K mg base 8 "spread" ["table"] (sp_spread P w T K)) (R : Raw mg K "most_deeds" (topS 43)) : Def P w K mg base 9 "most_deeds" ["one", "other"] (sp_most_deeds T K) := by
  refine def_of R sc_most_deeds (fun _ _ _ _ _ _ us hl => match us, hl with | [_, _], _ => rfl) (fun vs H Q E h => Pr.len (n := 2) (fun _ => rfl) h) fun f cdv A outer s H vs Q E hr h => ?_
  have nd := sc_most_deeds.nd
  refine ⟨_, (pss_cons (ps_expr (pe_callD D_need_like hr (by decide) (by rfl) (pa_cons (pv 0) (pa_cons (pv 1) pa_nil))))
    (pss_cons (ps_set (i := 2) nd rfl (Or.inl rfl) (pe_xget1 hr.units (pe_callD D_spread hr (by decide) (by rfl) (pa_cons (pv 0) pa_nil)) (pe_callD D_crowd_of hr (by decide) (by rfl) (pa_cons (pv 1) pa_nil)) ⟨rfl, rfl, rfl, rfl⟩))
    (pss_one (ps_ret (pe_ifExp (pt_cmp (pc_isN (pv 2))) pe_non (pe_ix (w_ixT (K := K) (by rfl)) (pv 2) pe_int (fun _ _ => rfl))))))), body_ret h ?_⟩
  rintro ⟨n, g, t, u⟩ hp
  have hp : DeedPre n g t u := hp
  have hl : t.length = n := hp.ot.len
  have hlu : u.length = n := hp.ou.len
  have n6 := hp.ot.n6
  refine sr_seq (sn_drop (eg_call (n, g, t, u) (ea2 vr vr) ⟨hp.ot, hp.ou⟩)) (sr_setP (P1 := fun y => ∃ D m, y = dd (gv D m) ∧ LeastD t u D ∧ D ≤ m) (ep_xget1 (ep_call (n, g, t) (ea1 vr) hp.sp) (eg_call u (ea1 vr) ⟨(show u.length ≤ 1000 by omega), wf_ne hp.ou.wf hp.ou.w1⟩) ?_) ?_)
  · rintro x ⟨f, m, rfl, s⟩
    obtain ⟨k, pk⟩ := hp.can
    obtain ⟨D, h1, h2⟩ := s.at pk
    exact ⟨_, _, rfl, lookG_some s.far.nodup h1, D, _, rfl, h2, s.most _ _ h1⟩
  · rintro x ⟨D, m, rfl, h, h'⟩
    exact sr_ret (EG.ep (eg_if (b := false) (et_isN (d := gv D m) (vr (i := 2))) (fun z => by cases z) fun _ => eg_op (vr (i := 2) (x := dd (gv D m))) (ed_int 1) (rg_ixT (d := .int ((m : Nat) : Int)) rfl)) ⟨m, rfl, D, h, h'⟩)
/-! ### way -/
abbrev sp_way (T : List (Addr × Str)) (K : PySem.W.Frag) : Sp := Pr T (fun v : Nat × Nat × TT × TT => [dd (K := K) (pT v.2.2.1), dd (pT v.2.2.2)]) (fun v => DeedPre v.1 v.2.1 v.2.2.1 v.2.2.2) fun v y => ∃ ts : List TT, y = dd (.tuple (ts.map pT)) ∧ ∃ D, LeastD v.2.2.1 v.2.2.2 D ∧ ts.length = D + 1
noncomputable def deedB (c d : TT) : Bool := @decide (Lt.DeedR c d) (Classical.propDecidable _)
theorem deedB_iff {c d : TT} : deedB c d = true ↔ Lt.DeedR c d := by
  unfold deedB
  simp
theorem eg_inN {Γ : Gam K} {ta te : TE} {here told : TT} (h1 : ED T ta Γ (pT here)) (h2 : EP' T te Γ fun x => ∃ l : List TT, x = ll (l.map pT) ∧ Nexts told l) : ED T (tOp (rInD K) ta te) Γ (.bool (deedB told here)) := fun σ H ok Q q => h1 σ H ok _ fun u H1 n1 d1 => h2 σ H1 (ok.go n1) _ fun x v H2 px n2 d2 => by
  obtain ⟨l, rfl, hn⟩ := px
  refine rg_inD (T := T) (b := deedB told here) (sh_pT here) (sh_listA (k := 2) (plA_map fun t _ => pl_pT t) (fun d hd => by
    obtain ⟨t, _, rfl⟩ := List.mem_map.mp hd
    exact dp_pT t) (by omega)) ?_ u v H2 n2.tb (dp_mono n2.kp _ _ d1) (ll_dd d2) Q fun t H3 n3 d3 => q t H3 ((n1.trans n2).trans n3) d3
  rw [List.any_map]
  have e : ∀ z : TT, PyData.eqv (pT z) (pT here) = decide (z = here) := fun z => eqv_dec (pl_pT _) (pl_pT _) ⟨fun e => pT_inj e, fun e => by rw [e]⟩
  cases hb : deedB told here with
  | true =>
    have := (hn.mem here).mpr (deedB_iff.mp hb)
    exact List.any_eq_true.mpr ⟨here, this, by simp [e]⟩
  | false =>
    refine List.any_eq_false.mpr fun z hz => ?_
    simp only [Function.comp, e]
    intro hz2
    have := of_decide_eq_true hz2
    subst this
    have := deedB_iff.mpr ((hn.mem z).mp hz)
    rw [hb] at this
    cases this
structure WS (T : List (Addr × Str)) (P : Program) (w : World) (H0 : Hp) (F O : Addr) (Γ : Gam K) (kvs : List (TT × PyData)) (us : List V) (wl : List TT) (σ : L2.St) (H : Hp) : Prop where
  ok : Ok T σ H Γ
  nx : Nx T H0 H
  kd : KD P w K H F kvs
  od : lstAt K H O us wl
def gw (t u : TT) (F O : Addr) (a b : Option (Dsc K)) : Gam K := [some (dd (pT t)), some (dd (pT u)), some (isR F), some (isR O), a, b, none]
def ge (P : Program) (w : World) (t u : TT) (kvs : List (TT × PyData)) (wl : List TT) (a b : Option (Dsc K)) : Gam K := [some (dd (pT t)), some (dd (pT u)), some (kdd P w K kvs), some (dd (.list (wl.map pT))), a, b, none]
theorem mk_ge {t u : TT} {F O : Addr} {kvs : List (TT × PyData)} {us : List V} {wl : List TT} {a b : Option (Dsc K)} {σ : L2.St} {H : Hp} (ok : Ok T σ H (gw t u F O a b)) (kd : KD P w K H F kvs) (od : lstAt K H O us wl) : Ok T σ H (ge P w t u kvs wl a b) := by
  obtain ⟨v2, e2, d2⟩ := ok_val ok (i := 2) rfl
  have d2 : v2 = .ref F := d2
  subst d2
  have ok2 := ok_put (x := kdd P w K kvs) ok e2 ⟨F, rfl, kd⟩
  obtain ⟨v3, e3, d3⟩ := ok_val ok2 (i := 3) rfl
  have d3 : v3 = .ref O := d3
  subst d3
  exact ok_put (x := dd (.list (wl.map pT))) ok2 e3 (dp_newL od.1 od.2)
theorem fl_gw {t u : TT} {F O : Addr} : Fl (gw (K := K) t u F O none none) := fun i x e => by
  match i, e with
  | 0, e => cases e; exact tst_flat (flat_pT _)
  | 1, e => cases e; exact tst_flat (flat_pT _)
  | 2, e => cases e; exact tst_isR _
  | 3, e => cases e; exact tst_isR _
  | 4, e => cases e
  | 5, e => cases e
  | 6, e => cases e
  | i + 7, e => cases e
theorem asg_one {te : TE} {i : Nat} {u : TS} {D : Ends} {σ : L2.St} {H : Hp} {x : Dsc K} {Γ : Gam K} (h : EG T te Γ x) (ok : Ok T σ H Γ) (k : ∀ v H1, Nx T H H1 → x.den v H1 → u D (σ.set i (some v)) H1) : tSeq (tAsg te (gName i)) u D σ H := h σ H ok _ k
theorem asg_new {te : TE} {i : Nat} {u : TS} {D : Ends} {σ : L2.St} {H : Hp} {ds : List PyData} {Γ : Gam K} (h : EN T te Γ ds) (ok : Ok T σ H Γ) (k : ∀ O us H1, Nx T H H1 → New H O → H1 O = some (.lst us) → DpAll K H1 us ds → u D (σ.set i (some (.ref O))) H1) : tSeq (tAsg te (gName i)) u D σ H := h σ H ok _ k
theorem et_ynotin {Γ : Gam K} {td ty : TE} {t : TT} {kvs : List (TT × PyData)} (hy : EG T ty Γ (dd (pT t))) (h : EG T td Γ (kdd P w K kvs)) : ET T (tB (yNotIn P w K ty td)) Γ (!(lookT kvs t).isSome) := fun σ H ok Q q => hy σ H ok _ fun y H1 n1 d1 => h σ H1 (ok.go n1) _ fun x H2 n2 d2 => by
  obtain ⟨d, rfl, kd⟩ := d2
  exact ⟨d, kvs, t, rfl, kd, dp_mono n2.kp _ _ d1, _, rfl, q H2 (n1.trans n2)⟩
theorem path_odds {n g k : Nat} {c d : TT} (h : Lt.Path Lt.DeedR k c d) (hc : Lt.WF n g c) : k + (Lt.oddsOf d).length ≤ (Lt.oddsOf c).length := by
  induction h with
  | nil a => omega
  | cons r p ih =>
    have h1 := Lt.deed_fewer hc r
    have h2 := ih (Lt.deed_kin hc r).wf
    omega
theorem sc_way : FnScope ["one", "other", "far", "found", "here", "befores", "told"] ["one", "other"] (defScope (topS 44)) := ⟨rfl, rfl, rfl, by decide +kernel, rfl, by decide +kernel, by decide +kernel⟩
theorem d_way (B : Bts mg) (C : Csts mg) (D_crowd_of : Def P w K mg base 1 "crowd_of" ["table"] (sp_crowd_of T K)) (D_need_like : Def P w K mg base 6 "need_like" ["one", "other"] (sp_need_like T K)) (D_nexts_of : Def P w K mg base 4 "nexts_of" ["table"] (sp_nexts_of T K)) (D_spread : Def P w K mg base 8 "spread" ["table"] (sp_spread P w T K)) (R : Raw mg K "way" (topS 44)) : Def P w K mg base 9 "way" ["one", "other"] (sp_way T K) := by
  refine def_of R sc_way (fun _ _ _ _ _ _ us hl => match us, hl with | [_, _], _ => rfl) (fun vs H Q E h => Pr.len (n := 2) (fun _ => rfl) h) fun f cdv A outer s H vs Q E hr h => ?_
  have nd := sc_way.nd
  refine ⟨_, (pss_cons (ps_expr (pe_callD D_need_like hr (by decide) (by rfl) (pa_cons (pv 0) (pa_cons (pv 1) pa_nil))))
    (pss_cons (ps_set (i := 2) nd rfl (Or.inr rfl) (pe_callD D_spread hr (by decide) (by rfl) (pa_cons (pv 0) pa_nil)))
    (pss_cons (ps_if (pt_cmp (w_xnotin (P := P) (w := w) (K := K) (by rfl) (by rfl) (by rfl) hr (pe_callD D_crowd_of hr (by decide) (by rfl) (pa_cons (pv 1) pa_nil)) (pv 2))) (pss_one (ps_ret pe_non)) pss_nil)
    (pss_cons (ps_set (i := 3) nd rfl (Or.inl rfl) (pe_lst (pa_cons (pe_callD D_crowd_of hr (by decide) (by rfl) (pa_cons (pv 1) pa_nil)) pa_nil)))
    (pss_cons (ps_while PassesOwn.never (pt_cmpR (w_neD (K := K) (by rfl) hr) (pe_ix (w_ixL (K := K) (by rfl)) (pv 3) (pe_un un_neg pe_int) (fun _ _ => rfl)) (pe_callD D_crowd_of hr (by decide) (by rfl) (pa_cons (pv 0) pa_nil)) (nomark _))
     (pss_cons (ps_set (i := 4) nd rfl (Or.inr rfl) (pe_ix (w_ixL (K := K) (by rfl)) (pv 3) (pe_un un_neg pe_int) (fun _ _ => rfl)))
     (pss_cons (ps_setLc (i := 5)  (own := [("told", 6)]) rfl nd rfl rfl (sw_true rfl rfl rfl (by decide +kernel)) (w_xk (P := P) (w := w) (K := K) (by rfl) (by rfl) (by rfl) (pv 2)) (blkOk_by (by kernel_rfl)) (fun _ _ _ _ _ => (pg_name (i := 6) nd rfl (Or.inl rfl) (Or.inr rfl))) (fun _ _ _ _ _ => (pts_one (pt_cmpR (w_eqD (K := K) (by rfl) hr) (pe_ix (w_ixT (K := K) (by rfl)) (w_xget (P := P) (w := w) (K := K) (by rfl) (by rfl) (by rfl) hr (pv 2) (pv 6) (fun _ _ => rfl)) pe_int (fun _ _ => rfl)) (pe_op op_sub (pe_ix (w_ixT (K := K) (by rfl)) (w_xget (P := P) (w := w) (K := K) (by rfl) (by rfl) (by rfl) hr (pv 2) (pv 4) (fun _ _ => rfl)) pe_int (fun _ _ => rfl)) pe_int) (nomark _)))) (fun _ _ _ _ _ => (pv 6)))
     (pss_one (ps_expr (pe_bm PySem.F.plainAttrs_list PySem.F.slot_list_append PySem.F.type_list_append mt_append (pv 3) (pa_cons (pe_ix (w_ixL (K := K) (by rfl)) (pe_lc (own := [("told", 6)]) rfl nd (w_piL (K := K) (by rfl) (pv 5)) (blkOk_by (by kernel_rfl)) (fun _ _ _ _ _ => (pg_name (i := 6) nd rfl (Or.inl rfl) (Or.inr rfl))) (fun _ _ _ _ _ => (pts_one (pt_cmpR (w_inD (K := K) (by rfl) hr) (pv 4) (pe_callD D_nexts_of hr (by decide) (by rfl) (pa_cons (pv 6) pa_nil)) rfl))) (fun _ _ _ _ _ => (pv 6))) pe_int (fun _ _ => rfl)) pa_nil)))))))
    (pss_one (ps_ret (pe_callTy (w_tup (K := K) (by rfl)) (by rfl) B.tuple PyProof.Rows.boot_tuple (pa_cons (w_rev (K := K) (by rfl) (pv 3)) pa_nil))))))))), body_ret h ?_⟩
  rintro ⟨n, g, t, u⟩ hp
  have hp : DeedPre n g t u := hp
  have hl : t.length = n := hp.ot.len
  have hlu : u.length = n := hp.ou.len
  have n6 := hp.ot.n6
  have hct := Lt.crowd_wf hp.ot.wf
  refine sr_seq (sn_drop (eg_call (n, g, t, u) (ea2 vr vr) ⟨hp.ot, hp.ou⟩)) (sr_setP (ep_call (n, g, t) (ea1 vr) hp.sp) ?_)
  rintro x ⟨f, m, rfl, sp⟩
  have sp : Spread t f m := sp
  have far := sp.far
  obtain ⟨k0, pk⟩ := hp.can
  obtain ⟨D0, hD, hdist⟩ := sp.at pk
  have hD36 : D0 ≤ 36 := by
    have h1 := path_odds hdist.1 hct
    have h2 := odds_len hct
    have h3 : n * n ≤ 36 := Nat.mul_le_mul n6 n6
    omega
  have pre1 : ∀ c : TT, Lt.WF n g c → c.length ≤ 1000 ∧ ∀ r ∈ c, r ≠ [] := fun c hc => ⟨by rw [hc.1]; omega, wf_ne hc hp.ot.w1⟩
  let Γ2 : Gam K := [some (dd (pT t)), some (dd (pT u)), some (kdd P w K (kvG f m)), none, none, none, none]
  have htest : ET T (tB (yNotIn P w K (tCall (sp_crowd_of T K) [] E0 (tCons (tVar 1) tNil)) (tVar 2))) Γ2 false := (et_ynotin (eg_call u (ea1 (vr (i := 1))) (pre1 u hp.ou.wf)) (vr (i := 2))).is (by
    rw [lookG_some far.nodup hD]
    rfl)
  refine sr_seq (sn_ifF htest sn_next) ?_
  intro D σ H0 ok kk
  have okF : Ok T σ H0 Γ2 := ok
  obtain ⟨v2, e2, d2⟩ := ok_val okF (i := 2) rfl
  obtain ⟨F, rfl, kd⟩ := d2
  refine asg_new (en_lst (ds := [pT (Lt.crowd u)]) (ea1 (eg_call u (ea1 (vr (i := 1))) (pre1 u hp.ou.wf))) (by simp)) okF fun O us H1 n1 newO hO dO => ?_
  have ok1 : Ok T (σ.set 3 (some (.ref O))) H1 (gw (K := K) t u F O none none) := by
    have a := ok_put (x := isR F) (okF.go n1) e2 rfl
    exact a.set (x := isR O) 3 rfl
  let St : Nat → L2.St → Hp → Prop := fun mm σ' H' => ∃ (wi : List TT) (cur : TT) (us : List V) (dc : Nat), (cur, dc) ∈ f ∧ wi.length + dc = D0 ∧ mm = dc ∧ WS T P w H0 F O (gw (K := K) t u F O none none) (kvG f m) us (wi ++ [cur]) σ' H'
  refine ⟨St, ⟨_, [], Lt.crowd u, us, D0, hD, by simp, rfl, ok1, n1, kd.go n1.kp, hO, dO⟩, ?_⟩
  rintro dc σ1 H1' ⟨wi, cur, us, dc0, hcur, hlen, rfl, s⟩
  have hkin : Lt.Kin n g (Lt.crowd t) cur := Lt.deeds_kin hct (far.dist _ _ hcur).1
  have okE := mk_ge s.ok s.kd s.od
  have elast : ∀ (a b : Option (Dsc K)), ED T (tOp (rIxL K) (tVar 3) (tUn (rU fun i => .int (-i)) (tC (.int 1)))) (ge P w t u (kvG f m) (wi ++ [cur]) a b) (pT cur) := fun a b => eg_op (vr (i := 3) (x := dd (.list ((wi ++ [cur]).map pT)))) (eg_un (ed_int 1) (ug_i (g := fun i => -i))) (rg_ixL (by
    rw [List.map_append]
    exact atI_last _ _))
  have ht : ET T (tTest (tOp (rNeD K) (tOp (rIxL K) (tVar 3) (tUn (rU fun i => .int (-i)) (tC (.int 1)))) (tCall (sp_crowd_of T K) [] E0 (tCons (tVar 0) tNil)))) (ge P w t u (kvG f m) (wi ++ [cur]) none none) (!decide (cur = Lt.crowd t)) :=
    et_test (eg_op (elast none none) (eg_call t (ea1 (vr (i := 0))) (pre1 t hp.ot.wf)) (rg_neD (sh_pT _) (sh_pT _) (by rw [eqv_dec (p := cur = Lt.crowd t) (pl_pT _) (pl_pT _) ⟨fun e => pT_inj e, fun e => by rw [e]⟩])))
  refine ht σ1 H1' okE _ fun H4 n4 => ?_
  have hself : (Lt.crowd t, 0) ∈ f := far.val ⟨.nil _, fun _ _ => Nat.zero_le _⟩
  by_cases hc : cur = Lt.crowd t
  · rw [decide_eq_true hc]
    have h0 : dc = 0 := far.uniq (hc ▸ hcur) hself
    show tRet (tCB (rTupO K) (tCons (tRevL K (tVar 3)) tNil)) D σ1 H4
    have hret : ED T (tCB (rTupO K) (tCons (tRevL K (tVar 3)) tNil)) (ge P w t u (kvG f m) (wi ++ [cur]) none none) (.tuple ((wi ++ [cur]).reverse.map pT)) := (eg_tupO (eg_rev (vr (i := 3) (x := dd (.list ((wi ++ [cur]).map pT))))).ld).is (by rw [List.map_reverse])
    refine hret σ1 H4 (okE.go n4) _ fun v H5 n5 d5 => kk _ v H5 ⟨_, rfl, D0, hdist, ?_⟩ ((s.nx.trans n4).trans n5) d5
    rw [List.length_reverse, List.length_append]
    simp
    omega
  rw [decide_eq_false hc]
  have hdc : dc ≠ 0 := fun z => by
    rw [z] at hcur
    exact hc (Lt.Path.zero (far.dist _ _ hcur).1).symm
  obtain ⟨dp, rfl⟩ : ∃ dp, dc = dp + 1 := ⟨dc - 1, by omega⟩
  refine ⟨fun σ' H' => ∃ m', m' < dp + 1 ∧ St m' σ' H', fun σ' H' h => h, ?_⟩
  -- here = found[-1]
  refine asg_one (elast none none) (okE.go n4) fun v4 H5 n5 d5 => ?_
  have s5 := s.ok.go (n4.trans n5)
  have ok5 : Ok T (σ1.set 4 (some v4)) H5 (gw (K := K) t u F O (some (dd (pT cur))) none) := s5.set (x := dd (pT cur)) 4 d5
  have kd5 := s.kd.go (n4.trans n5).kp
  have od5 := s.od.go (n4.trans n5)
  -- befores
  let pB : TT × Nat → Bool := fun q => decide (((q.2 : Nat) : Int) = ((dp + 1 : Nat) : Int) - 1)
  let bl : List TT := (f.filter pB).map Prod.fst
  have hflen : f.length ≤ 1296 := sd_few hp.sp far.nodup fun z hz => by
    obtain ⟨d', hd'⟩ := Lt.mem_keys.mp hz
    exact Lt.deeds_kin hct (far.dist _ _ hd').1
  let ΓE : Gam K := ge P w t u (kvG f m) (wi ++ [cur]) (some (dd (pT cur))) none
  have hbef : EG T (tLc (yK P w K (tVar 2)) (gName 6) (tTest (tOp (rEqD K) (tOp (rIxT K) (yGet P w K (tVar 2) (tVar 6)) (tC (.int 0))) (tOp (rI0 fun i j => .int (i - j)) (tOp (rIxT K) (yGet P w K (tVar 2) (tVar 4)) (tC (.int 0))) (tC (.int 1))))) (tVar 6) [6]) ΓE (ll (bl.map pT)) := by
    refine (eg_lc (l := f) (enc := fun q => dd (pT q.1)) pB (fun q => pT q.1) ?_ (by omega) (fun q _ _ => flat_pT q.1) fun q hq => ?_).is ?_
    · have := wg_yk (T := T) (td := tVar 2) (Γ := ΓE) (kvs := kvG f m) (vr (i := 2))
      unfold kvG at this
      rw [List.map_map] at this
      exact this
    · refine ⟨ΓE.set 6 (some (dd (pT q.1))), gg_name (by simp), et_test (eg_eqI (eg_op (eg_yget (vr (i := 2)) (vr (i := 6)) (lookG_some (m := m) far.nodup (show (q.1, q.2) ∈ f from hq))) (ed_int 0) (rg_ixT (d := .int ((q.2 : Nat) : Int)) rfl)) (eg_op (eg_op (eg_yget (vr (i := 2)) (vr (i := 4)) (lookG_some (m := m) far.nodup hcur)) (ed_int 0) (rg_ixT (d := .int ((dp + 1 : Nat) : Int)) rfl)) (ed_int 1) (rg_i (g := fun i j => i - j)))), fun _ => vr (i := 6)⟩
    · show ll _ = ll (((f.filter pB).map Prod.fst).map pT)
      rw [List.map_map]
      rfl
  refine asg_one hbef (mk_ge ok5 kd5 od5) fun v5 H6 n6' d6 => ?_
  have ok6 : Ok T ((σ1.set 4 (some v4)).set 5 (some v5)) H6 (gw (K := K) t u F O (some (dd (pT cur))) (some (dd (.list (bl.map pT))))) := (ok5.go n6').set (x := dd (.list (bl.map pT))) 5 (ll_dd d6)
  have kd6 := kd5.go n6'.kp
  have od6 := od5.go n6'
  have hbl : ∀ z, z ∈ bl → (z, dp) ∈ f := fun z hz => by
    obtain ⟨q, hq, rfl⟩ := List.mem_map.mp hz
    obtain ⟨h1, h2⟩ := List.mem_filter.mp hq
    have h3 : ((q.2 : Nat) : Int) = ((dp + 1 : Nat) : Int) - 1 := of_decide_eq_true h2
    have : q.2 = dp := by omega
    exact this ▸ h1
  have hblen : bl.length ≤ 1296 := by
    show ((f.filter pB).map Prod.fst).length ≤ 1296
    rw [List.length_map]
    exact Nat.le_trans (List.length_filter_le _ _) hflen
  obtain ⟨bk, hbk, hdeed⟩ := far.back hcur
  have hbkm : bk ∈ bl.filter fun z => deedB z cur := List.mem_filter.mpr ⟨List.mem_map.mpr ⟨(bk, dp), List.mem_filter.mpr ⟨hbk, decide_eq_true (by show ((dp : Nat) : Int) = _; omega)⟩, rfl⟩, deedB_iff.mpr hdeed⟩
  cases hfl : bl.filter fun z => deedB z cur with
  | nil => rw [hfl] at hbkm; cases hbkm
  | cons prev rest =>
  have hprev : (prev, dp) ∈ f := hbl prev (List.mem_filter.mp (hfl ▸ List.mem_cons_self)).1
  have hadd : ED T (tOp (rIxL K) (tLc (iList K (tVar 5)) (gName 6) (tTest (tOp (rInD K) (tVar 4) (tCall (sp_nexts_of T K) [] E0 (tCons (tVar 6) tNil)))) (tVar 6) [6]) (tC (.int 0))) (ge (K := K) P w t u (kvG f m) (wi ++ [cur]) (some (dd (pT cur))) (some (dd (.list (bl.map pT))))) (pT prev) := by
    refine eg_atL (ds := (prev :: rest).map pT) (EG.ld ((eg_lc (l := bl) (enc := fun z => dd (pT z)) (fun z => deedB z cur) pT ?_ (by omega) (fun z _ _ => flat_pT z) fun z hz => ?_).is ?_)) (ed_int 0) rfl
    · have := wg_list (T := T) (tl := tVar 5) (Γ := ge (K := K) P w t u (kvG f m) (wi ++ [cur]) (some (dd (pT cur))) (some (dd (.list (bl.map pT))))) (ds := bl.map pT) (vr (i := 5))
      have e : ∀ l : List TT, (l.map pT).map (dd (K := K)) = l.map fun z => dd (pT z) := fun l => by rw [List.map_map]; rfl
      rw [e bl] at this
      exact this
    · have hzw : Lt.WF n g z := (Lt.deeds_kin hct (far.dist _ _ (hbl z hz)).1).wf
      exact ⟨_, gg_name (by simp), et_test (eg_inN (vr (i := 4)) (ep_call (n, g, z) (ea1 (vr (i := 6))) (hp.sp.nx hzw))), fun _ => vr (i := 6)⟩
    · rw [hfl]
  -- found.append(..)
  obtain ⟨w3, e3, x3⟩ := ok_val ok6 (i := 3) rfl
  have x3 : w3 = .ref O := x3
  subst x3
  refine ⟨.ref O, e3, .inl ⟨rfl, _, .inl (.inl od6.1)⟩, ?_⟩
  refine (ea1 hadd) _ H6 (mk_ge ok6 kd6 od6) _ fun vs H7 n7 dvs => ?_
  obtain ⟨v7, rfl, d7⟩ : ∃ v7, vs = [v7] ∧ Dp K H7 v7 (pT prev) := by
    cases dvs with
    | cons h t => cases t; exact ⟨_, rfl, h⟩
  have od7 := od6.go n7
  have kd7 := kd6.go n7.kp
  refine ⟨O, us, v7, rfl, rfl, od7.1, ?_, ?_⟩
  · rw [od7.len, List.length_append, sizeLine_eq]
    simp
    omega
  · have mv : Mv K H7 (upd H7 O (.lst (us ++ [v7]))) O := mv_list od7.1
    have tb : Tabs T (upd H7 O (.lst (us ++ [v7]))) := Nx.tabL (H1 := H7) n7.tb od7.1
    have nall : Nx T H0 H7 := (((s.nx.trans n4).trans n5).trans n6').trans n7
    have okw : Ok T ((σ1.set 4 (some v4)).set 5 (some v5)) H7 (gw (K := K) t u F O none none) := (ok6.go n7).weak rfl fun j x e => by
      match j, e with
      | 0, e => exact e
      | 1, e => exact e
      | 2, e => exact e
      | 3, e => exact e
      | 4, e => cases e
      | 5, e => cases e
      | 6, e => cases e
      | j + 7, e => cases e
    refine ⟨dp, by omega, wi ++ [cur], prev, us ++ [v7], dp, hprev, by rw [List.length_append]; simp; omega, rfl, ok_tk okw fl_gw mv.tk tb, nx_new nall newO tb, kd_mv kd7 mv (kvG_flat _ _) (kd_ne kd7 od7.1), upd_same, ?_⟩
    rw [List.map_append]
    exact dpa_app (dpa_flat mv.tk _ _ (flats _) od7.2) (.cons (dp_flat mv.tk _ _ (flat_pT prev) d7) .nil)
end Lw
set_option Elab.async false
set_option linter.all false
set_option maxRecDepth 100000
set_option maxHeartbeats 4000000
/-! the script's row -/
namespace Lw
open PySem PySem.Spec PyProof.Rows L2
open LamX (ExtN Tabs TabS CodeO TabB)
open PySem.W (dataLe dataLt alike alikeAll)
variable {P : Program} {w : World} {K : PySem.W.Frag} {mg : Str → Option Value} {base : Heap} {T : List (Addr × Str)}
/-- a list among what is written -/
def KB (K : PySem.W.Frag) (a : Addr) (xs : List V) : Prop := ∃ (o : Obj) (its : Array Value) (n : Nat), K.lookup a = some o ∧ o.cls = .type "list" ∧ o.dict = none ∧ o.data = .seq its n ∧ its.size ≤ sizeLine ∧ Vals xs its.toList
/-- what stands but the row at R -/
structure RM (T : List (Addr × Str)) (K : PySem.W.Frag) (R : Addr) (H H' : Hp) : Prop where
  tk : TK K H H'
  sq : ∀ b xs, b ≠ R → SqL K H b xs → SqL K H' b xs
  ex : ∀ b u, b ≠ R → H b = some u → (∀ ps, u ≠ .tbl ps) → H' b = some u
  tb : Tabs T H'
section
variable {R : Addr} {H H1 H2 : Hp}
theorem RM.refl (h : Tabs T H) : RM T K R H H := ⟨fun _ _ x => x, fun _ _ _ x => x, fun _ _ _ x _ => x, h⟩
theorem RM.trans (a : RM T K R H H1) (b : RM T K R H1 H2) : RM T K R H H2 := ⟨fun c xs x => b.tk c xs (a.tk c xs x), fun c xs n x => b.sq c xs n (a.sq c xs n x), fun c u n e q => b.ex c u n (a.ex c u n e q) q, b.tb⟩
theorem RM.of (n : Nx T H H1) : RM T K R H H1 := ⟨tk_of n.kp, fun _ _ _ h => sqL_mono n.kp h, fun b u _ e q => n.kp b u e q, n.tb⟩
theorem RM.step {xs ys : List V} (t : Tabs T H) (h : H R = some (.lst xs)) : RM T K R H (upd H R (.lst ys)) := ⟨sqT_updL h, fun b zs n s => by
  rcases s with (s | ⟨o, s⟩) | s
  · exact .inl (.inl (by rw [upd_ne n]; exact s))
  · exact .inl (.inr ⟨o, by rw [upd_ne n]; exact s⟩)
  · exact .inr s, fun b u n e _ => by rw [upd_ne n]; exact e, Nx.tabL (H1 := H) t h⟩
end
theorem RM.sq' {R a : Addr} {H H' : Hp} {xs : List V} (r : RM T K R H H') (ha : a ≠ R ∨ KB K a xs) (h : SqL K H a xs) : SqL K H' a xs := ha.elim (fun n => r.sq a _ n h) .inr
def rowV (a : Addr) (c s k : Int) : List V := [.ref a, .int c, .int s, .int k]
structure RowInv (T : List (Addr × Str)) (K : PySem.W.Frag) (R a : Addr) (ns : List Int) (H : Hp) : Prop where
  tb : Tabs T H
  ne : a ≠ R ∨ KB K a (ns.map V.int)
  sq : SqL K H a (ns.map V.int)
  at' : ∃ c s k : Int, H R = some (.lst (rowV a c s k)) ∧ 0 ≤ c ∧ 0 ≤ s ∧ s < 2147483647
theorem RowInv.go {R a : Addr} {ns : List Int} {H H' : Hp} (h : RowInv T K R a ns H) (n : Nx T H H') : RowInv T K R a ns H' := ⟨n.tb, h.ne, sqL_mono n.kp h.sq, let ⟨c, s, k, h1, h2⟩ := h.at'; ⟨c, s, k, n.kp R _ h1 nl, h2⟩⟩
/-- a list that is new since H0 changes -/
theorem RM.fresh {R L : Addr} {H0 H : Hp} {xs ys : List V} (r : RM T K R H0 H) (hL : New H0 L) (e : H L = some (.lst xs)) : RM T K R H0 (upd H L (.lst ys)) := by
  refine ⟨fun b zs h => sqT_updL e _ _ (r.tk b zs h), fun b zs n s => ?_, fun b u n e2 q => ?_, Nx.tabL (H1 := H) r.tb e⟩
  · by_cases hb : b = L
    · subst hb
      rcases s with (s | ⟨o, s⟩) | s
      · exact absurd rfl (hL b _ s (fun _ z => by cases z))
      · exact absurd rfl (hL b _ s (fun _ z => by cases z))
      · exact .inr s
    · rcases r.sq b zs n s with (s | ⟨o, s⟩) | s
      · exact .inl (.inl (by rw [upd_ne hb]; exact s))
      · exact .inl (.inr ⟨o, by rw [upd_ne hb]; exact s⟩)
      · exact .inr s
  · rw [upd_ne (hL b u e2 q)]
    exact r.ex b u n e2 q
theorem RowInv.fresh {R L a : Addr} {ns : List Int} {H0 H : Hp} {xs ys : List V} (h0 : RowInv T K R a ns H0) (h : RowInv T K R a ns H) (r : RM T K R H0 H) (hL : New H0 L) (e : H L = some (.lst xs)) : RowInv T K R a ns (upd H L (.lst ys)) := by
  have r2 := r.fresh (ys := ys) hL e
  obtain ⟨c0, s0, k0, e0, _⟩ := h0.at'
  have hLR : R ≠ L := hL R _ e0 nl
  obtain ⟨c, s, k, e1, h2⟩ := h.at'
  exact ⟨r2.tb, h0.ne, r2.sq' h0.ne h0.sq, c, s, k, by rw [upd_ne hLR]; exact e1, h2⟩
/-- a promise that takes of the row -/
def sp_taken (T : List (Addr × Str)) (K : PySem.W.Frag) : Sp := fun vs H Q _ => ∃ R m a ns, vs = [.ref R, .int m] ∧ RowInv T K R a ns H ∧ 1 ≤ m ∧ m < 1073741824 ∧ ∀ i : Nat, (i : Int) < m → ∀ H', RM T K R H H' → RowInv T K R a ns H' → Q (.int i) H'
def ge2 (ns : List Int) (c s k m : Int) (x y : Option (Dsc K)) : Gam K := [some (dd (.list [.list (ns.map .int), .int c, .int s, .int k])), some (dd (.int m)), x, y]
structure RS (T : List (Addr × Str)) (K : PySem.W.Frag) (H0 : Hp) (R a : Addr) (ns : List Int) (m c s k : Int) (x y : Option (Dsc K)) (σ : L2.St) (H : Hp) : Prop where
  ok : Ok T σ H ([some (isR R), some (dd (.int m)), x, y] : Gam K)
  rm : RM T K R H0 H
  at' : H R = some (.lst (rowV a c s k))
  sq : SqL K H a (ns.map V.int)
section
variable {H0 H H' : Hp} {R a : Addr} {ns : List Int} {m c s k : Int} {x y : Option (Dsc K)} {σ : L2.St}
theorem dp_ints {H : Hp} {a : Addr} {ns : List Int} (h : SqL K H a (ns.map V.int)) : Dp K H (.ref a) (.list (ns.map .int)) := .lst h (dpAll_ints ns)
theorem RS.ev (r : RS T K H0 R a ns m c s k x y σ H) : Ok T σ H (ge2 (K := K) ns c s k m x y) := by
  obtain ⟨v0, e0, d0⟩ := ok_val r.ok (i := 0) rfl
  have d0 : v0 = .ref R := d0
  subst d0
  exact ok_put (x := dd (.list [.list (ns.map .int), .int c, .int s, .int k])) r.ok e0 (dp_newL r.at' (.cons (dp_ints r.sq) (.cons (.int _) (.cons (.int _) (.cons (.int _) .nil)))))
theorem RS.go (r : RS T K H0 R a ns m c s k x y σ H) (n : Nx T H H') : RS T K H0 R a ns m c s k x y σ H' := ⟨r.ok.go n, r.rm.trans (RM.of n), n.kp R _ r.at' nl, sqL_mono n.kp r.sq⟩
/-- row[i] = v -/
theorem RS.put (r : RS T K H0 R a ns m c s k x y σ H) (fx : ∀ z, x = some z → Tst z) (fy : ∀ z, y = some z → Tst z) (ha : a ≠ R ∨ KB K a (ns.map V.int)) {c' s' k' : Int} : RS T K H0 R a ns m c' s' k' x y σ (upd H R (.lst (rowV a c' s' k'))) := by
  have u := RM.step (K := K) (ys := rowV a c' s' k') r.ok.tb r.at'
  refine ⟨ok_tk r.ok (fun i z e => ?_) u.tk u.tb, r.rm.trans u, upd_same, u.sq' ha r.sq⟩
  match i, e with
  | 0, e => cases e; exact tst_isR _
  | 1, e => cases e; exact tst_flat rfl
  | 2, e => exact fx z (Option.some.inj e)
  | 3, e => exact fy z (Option.some.inj e)
  | i + 4, e => cases e
theorem asg_row1 {te : TE} {D : Ends} {v c' s' k' : Int} {i : Int} {j : Nat} (r : RS T K H0 R a ns m c s k x y σ H) (fx : ∀ z, x = some z → Tst z) (fy : ∀ z, y = some z → Tst z) (ha : a ≠ R ∨ KB K a (ns.map V.int)) (h : ED T te (ge2 (K := K) ns c s k m x y) (.int v)) (hj : ixN 4 i = some j) (hl : (rowV a c s k).set j (.int v) = rowV a c' s' k')
    (kk : ∀ H', RS T K H0 R a ns m c' s' k' x y σ H' → D.nx σ H') : tAsg te (gSub (tVar 0) (tC (.int i)) rSetL) D σ H := h σ H r.ev _ fun w H1 n1 d1 => by
  have r1 := r.go n1
  obtain ⟨v0, e0, d0⟩ := ok_val r1.ok (i := 0) rfl
  have d0 : v0 = .ref R := d0
  subst d0
  have dw := dp_int d1
  subst dw
  refine ⟨.ref R, e0, R, _, i, j, rfl, rfl, r1.at', hj, kk _ ?_⟩
  rw [hl]
  exact r1.put fx fy ha
theorem asg_row {te : TE} {u : TS} {D : Ends} {v c' s' k' : Int} {i : Int} {j : Nat} (r : RS T K H0 R a ns m c s k x y σ H) (fx : ∀ z, x = some z → Tst z) (fy : ∀ z, y = some z → Tst z) (ha : a ≠ R ∨ KB K a (ns.map V.int)) (h : ED T te (ge2 (K := K) ns c s k m x y) (.int v)) (hj : ixN 4 i = some j) (hl : (rowV a c s k).set j (.int v) = rowV a c' s' k')
    (kk : ∀ H', RS T K H0 R a ns m c' s' k' x y σ H' → u D σ H') : tSeq (tAsg te (gSub (tVar 0) (tC (.int i)) rSetL)) u D σ H := h σ H r.ev _ fun w H1 n1 d1 => by
  have r1 := r.go n1
  obtain ⟨v0, e0, d0⟩ := ok_val r1.ok (i := 0) rfl
  have d0 : v0 = .ref R := d0
  subst d0
  have dw := dp_int d1
  subst dw
  refine ⟨.ref R, e0, R, _, i, j, rfl, rfl, r1.at', hj, kk _ ?_⟩
  rw [hl]
  exact r1.put fx fy ha
end
theorem if_seqN {tt : L2.TT} {t u : TS} {D : Ends} {σ : L2.St} {H : Hp} {b : Bool} {Γ : Gam K} (h : ET T tt Γ b) (ok : Ok T σ H Γ) (k1 : b = true → ∀ H1, Nx T H H1 → t { D with nx := u D } σ H1) (k2 : b = false → ∀ H1, Nx T H H1 → u D σ H1) : tSeq (tIfS tt t tNext) u D σ H := h σ H ok _ fun H1 n1 => by
  cases b with
  | true => exact k1 rfl H1 n1
  | false => exact k2 rfl H1 n1
theorem ret_one {te : TE} {D : Ends} {σ : L2.St} {H : Hp} {x : Dsc K} {Γ : Gam K} (h : EG T te Γ x) (ok : Ok T σ H Γ) (k : ∀ v H1, Nx T H H1 → x.den v H1 → D.rt v H1) : tRet te D σ H := h σ H ok _ k
theorem len_law_taken {vs : List V} {H : Hp} {Q : VK} {E : XK} (h : sp_taken T K vs H Q E) : vs.length = 2 := by
  obtain ⟨R, m, a, ns, rfl, _⟩ := h
  rfl
theorem sc_law_taken : FnScope ["_law_row", "_law_many", "_law_cell", "_law_found"] ["_law_row", "_law_many"] (defScope (topS 64)) := ⟨rfl, rfl, rfl, by decide +kernel, rfl, by decide +kernel, by decide +kernel⟩
theorem d_law_taken (B : Bts mg) (C : Csts mg)  (R : Raw mg K "_law_taken" (topS 64)) : Def P w K mg base 1 "_law_taken" ["_law_row", "_law_many"] (sp_taken T K) := by
  refine def_of R sc_law_taken (fun _ _ _ _ _ _ us hl => match us, hl with | [_, _], _ => rfl) (fun _ _ _ _ h => len_law_taken h) fun f cdv A outer s H vs Q E hr h => ?_
  have nd := sc_law_taken.nd
  refine ⟨_, (pss_cons (ps_if (pt_cmpR op_gt (pe_ix (w_ixL (K := K) (by rfl)) (pv 0) pe_int (fun _ _ => rfl)) pe_int (nomark _)) (pss_cons (ps_set (i := 3) nd rfl (Or.inl rfl) (pe_op op_mod (pe_callTy call_int1 (by rfl) B.int PyProof.Rows.boot_int (pa_cons (pe_ix (w_ixL (K := K) (by rfl)) (pv 0) pe_int (fun _ _ => rfl)) pa_nil)) (pv 1)))
     (pss_cons (ps_asg (pe_op op_fdiv (pe_ix (w_ixL (K := K) (by rfl)) (pv 0) pe_int (fun _ _ => rfl)) (pv 1)) (pg_sub (pv 0) pe_int set_list))
     (pss_one (ps_ret (pv 3))))) pss_nil)
    (pss_cons (ps_asg (pe_op op_add (pe_ix (w_ixL (K := K) (by rfl)) (pv 0) pe_int (fun _ _ => rfl)) pe_int) (pg_sub (pv 0) pe_int set_list))
    (pss_cons (ps_if (pt_cmpR op_gt (pe_ix (w_ixL (K := K) (by rfl)) (pv 0) pe_int (fun _ _ => rfl)) (pe_callB (w_len (K := K) (by rfl)) (by rfl) B.len PySem.boot_len (pa_cons (pe_ix (w_ixL (K := K) (by rfl)) (pv 0) pe_int (fun _ _ => rfl)) pa_nil)) (nomark _)) (pss_cons (ps_asg (pe_op op_mod (pe_callTy call_int1 (by rfl) B.int PyProof.Rows.boot_int (pa_cons (pe_op op_add (pe_op op_mul (pe_ix (w_ixL (K := K) (by rfl)) (pv 0) pe_int (fun _ _ => rfl)) pe_int) pe_int) pa_nil)) pe_int) (pg_sub (pv 0) pe_int set_list))
     (pss_one (ps_ret (pe_op op_mod (pe_callTy call_int1 (by rfl) B.int PyProof.Rows.boot_int (pa_cons (pe_op op_fdiv (pe_ix (w_ixL (K := K) (by rfl)) (pv 0) pe_int (fun _ _ => rfl)) pe_int) pa_nil)) (pv 1))))) pss_nil)
    (pss_cons (ps_set (i := 2) nd rfl (Or.inl rfl) (pe_ix (w_ixL (K := K) (by rfl)) (pe_ix (w_ixL (K := K) (by rfl)) (pv 0) pe_int (fun _ _ => rfl)) (pe_op op_sub (pe_ix (w_ixL (K := K) (by rfl)) (pv 0) pe_int (fun _ _ => rfl)) pe_int) (fun _ _ => rfl)))
    (pss_cons (ps_asg (pe_op op_mod (pe_callTy call_int1 (by rfl) B.int PyProof.Rows.boot_int (pa_cons (pe_op op_add (pe_op op_add (pe_op op_mul (pe_ix (w_ixL (K := K) (by rfl)) (pv 0) pe_int (fun _ _ => rfl)) pe_int) (pv 2)) pe_int) pa_nil)) pe_int) (pg_sub (pv 0) pe_int set_list))
    (pss_cons (ps_if (pt_cmpR op_ge (pv 2) (pe_op op_pow pe_int pe_int) (nomark _)) (pss_one (ps_asg (pe_op op_fdiv (pv 2) (pv 1)) (pg_sub (pv 0) pe_int set_list))) pss_nil)
    (pss_one (ps_ret (pe_op op_mod (pe_callTy call_int1 (by rfl) B.int PyProof.Rows.boot_int (pa_cons (pv 2) pa_nil)) (pv 1)))))))))), ?_⟩
  obtain ⟨R, m, a, ns, rfl, inv, m1, m2, q⟩ := h
  obtain ⟨tb, ha, hs, c, s0, k, hR, hc0, hs0, hs1⟩ := inv
  have r0 : RS T K H R a ns m c s0 k (none : Option (Dsc K)) none (L2.start ["_law_row", "_law_many", "_law_cell", "_law_found"] [.ref R, .int m]) H := by
    refine ⟨⟨tb, rfl, fun i x e => ?_⟩, RM.refl tb, hR, hs⟩
    match i, e with
    | 0, e => cases e; exact ⟨_, rfl, rfl⟩
    | 1, e => cases e; exact ⟨_, rfl, .int _⟩
    | 2, e => cases e
    | 3, e => cases e
    | i + 4, e => cases e
  have fin : ∀ {x y : Option (Dsc K)} {c s k i : Int} {σ : L2.St} {H' : Hp}, 0 ≤ c → 0 ≤ s → s < 2147483647 → 0 ≤ i → i < m → RS T K H R a ns m c s k x y σ H' → Q (.int i) H' := fun {x y c s k i σ H'} h1 h2 h3 h4 h5 r => by
    have e : i = ((i.toNat : Nat) : Int) := by omega
    rw [e]
    exact q i.toNat (by omega) H' r.rm ⟨r.ok.tb, ha, r.sq, c, s, k, r.at', h1, h2, h3⟩
  have rw3 : ∀ (x y : Option (Dsc K)) (c s k : Int) (i : Nat) (d : PyData), [PyData.list (ns.map .int), .int c, .int s, .int k][i]? = some d → ED T (tOp (rIxL K) (tVar 0) (tC (.int (i : Nat)))) (ge2 (K := K) ns c s k m x y) d := fun x y c s k i d e => eg_op (vr (i := 0) (x := dd (.list [.list (ns.map .int), .int c, .int s, .int k]))) (ed_int _) (rg_ixL (atN e))
  have mpos : (0 : Int) < m := by omega
  have ls : (PyData.list (ns.map PyData.int)) = PyData.list (ns.map PyData.int) := rfl
  refine if_seqN (b := decide (0 < k)) (et_test (eg_op (rw3 none none c s0 k 3 _ rfl) (ed_int 0) (rg_b (g := fun i j => decide (j < i))))) r0.ev (fun hk H1 n1 => ?_) fun hk H1 n1 => ?_
  · have hk := of_decide_eq_true hk
    have r1 := r0.go n1
    refine asg_one (x := dd (.int (k % m))) (eg_op (eg_cb (ea1 (rw3 none none c s0 k 3 _ rfl)) cg_int) (vr (i := 1)) (rg_c (C := fun _ j => 0 < j) (g := fun i j => i % j) mpos)) r1.ev fun v2 H2 n2 d2 => ?_
    have r2 : RS T K H R a ns m c s0 k (none : Option (Dsc K)) (some (dd (.int (k % m)))) _ H2 := ⟨(r1.go n2).ok.set (x := dd (.int (k % m))) 3 d2, (r1.go n2).rm, (r1.go n2).at', (r1.go n2).sq⟩
    refine asg_row r2 tsN (tsI _) ha (eg_op (rw3 none _ c s0 k 3 _ rfl) (vr (i := 1)) (rg_c (C := CDiv) (g := fun i j => i / j) ⟨mpos, m2⟩)) (j := 3) rfl rfl fun H3 r3 => ?_
    refine ret_one (vr (i := 3) (x := dd (.int (k % m)))) r3.ev fun v H4 n4 d4 => ?_
    have e := dp_int d4
    subst e
    exact fin hc0 hs0 hs1 (Int.emod_nonneg _ (by omega)) (Int.emod_lt_of_pos _ mpos) (r3.go n4)
  have r1 := r0.go n1
  refine asg_row (v := c + 1) r1 tsN tsN ha (eg_op (rw3 none none c s0 k 1 _ rfl) (ed_int 1) (rg_i (g := fun i j => i + j))) (j := 1) rfl rfl fun H2 r2 => ?_
  refine if_seqN (b := decide (((ns.map PyData.int).length : Nat) < c + 1)) (et_test (eg_op (rw3 none none (c + 1) s0 k 1 _ rfl) (eg_cb (ea1 (rw3 none none (c + 1) s0 k 0 _ rfl)) (cg_len (.inl rfl))) (rg_b (g := fun i j => decide (j < i))))) r2.ev (fun hk H3 n3 => ?_) fun hk H3 n3 => ?_
  · have r3 := r2.go n3
    refine asg_row (v := (s0 * 48271 + 11) % 2147483647) r3 tsN tsN ha (eg_op (eg_cb (ea1 (eg_op (eg_op (rw3 none none (c + 1) s0 k 2 _ rfl) (ed_int 48271) (rg_c (C := CMul) (g := fun i j => i * j) (.inr ⟨by decide, by decide⟩))) (ed_int 11) (rg_i (g := fun i j => i + j)))) cg_int) (ed_int 2147483647) (rg_c (C := fun _ j => 0 < j) (g := fun i j => i % j) (by decide))) (j := 2) rfl rfl fun H4 r4 => ?_
    refine ret_one (x := dd (.int (((s0 * 48271 + 11) % 2147483647 / 7) % m))) (eg_op (eg_cb (ea1 (eg_op (rw3 none none (c + 1) ((s0 * 48271 + 11) % 2147483647) k 2 _ rfl) (ed_int 7) (rg_c (C := CDiv) (g := fun i j => i / j) ⟨by decide, by decide⟩))) cg_int) (vr (i := 1)) (rg_c (C := fun _ j => 0 < j) (g := fun i j => i % j) mpos)) r4.ev fun v H5 n5 d5 => ?_
    have e := dp_int d5
    subst e
    exact fin (by omega) (by omega) (by omega) (Int.emod_nonneg _ (by omega)) (Int.emod_lt_of_pos _ mpos) (r4.go n5)
  have hk := of_decide_eq_false hk
  rw [List.length_map] at hk
  obtain ⟨cn, rfl⟩ : ∃ cn : Nat, c = (cn : Nat) := ⟨c.toNat, by omega⟩
  have hcn : cn < ns.length := by omega
  have r3 := r2.go n3
  refine asg_one (x := dd (.int ns[cn])) (eg_op (rw3 none none (((cn : Nat) : Int) + 1) s0 k 0 _ rfl) (eg_op (rw3 none none (((cn : Nat) : Int) + 1) s0 k 1 _ rfl) (ed_int 1) (rg_i (g := fun i j => i - j))) (rg_ixL (d := .int ns[cn]) (by
    have e : ((cn : Nat) : Int) + 1 - 1 = (cn : Nat) := by omega
    rw [e]
    exact atN (by rw [List.getElem?_map, List.getElem?_eq_getElem hcn]; rfl)))) r3.ev fun v4 H4 n4 d4 => ?_
  generalize ns[cn] = cell at d4
  have r4 : RS T K H R a ns m (((cn : Nat) : Int) + 1) s0 k (some (dd (.int cell))) (none : Option (Dsc K)) _ H4 := ⟨(r3.go n4).ok.set (x := dd (.int cell)) 2 d4, (r3.go n4).rm, (r3.go n4).at', (r3.go n4).sq⟩
  refine asg_row (v := (s0 * 48271 + cell + 11) % 2147483647) r4 (tsI _) tsN ha (eg_op (eg_cb (ea1 (eg_op (eg_op (eg_op (rw3 _ none (((cn : Nat) : Int) + 1) s0 k 2 _ rfl) (ed_int 48271) (rg_c (C := CMul) (g := fun i j => i * j) (.inr ⟨by decide, by decide⟩))) (vr (i := 2)) (rg_i (g := fun i j => i + j))) (ed_int 11) (rg_i (g := fun i j => i + j)))) cg_int) (ed_int 2147483647) (rg_c (C := fun _ j => 0 < j) (g := fun i j => i % j) (by decide))) (j := 2) rfl rfl fun H5 r5 => ?_
  have last : ∀ {k' : Int} {σ' : L2.St} {H' : Hp}, RS T K H R a ns m (((cn : Nat) : Int) + 1) ((s0 * 48271 + cell + 11) % 2147483647) k' (some (dd (.int cell))) (none : Option (Dsc K)) σ' H' → tRet (tOp (rI (fun _ j => 0 < j) fun i j => .int (i % j)) (tCB (fun xs H Q => (∃ i, xs = [.int i] ∧ Q (.int i) H) ∨ ∃ k, xs = [.bl k] ∧ Q (.int (if k then 1 else 0)) H) (tCons (tVar 2) tNil)) (tVar 1)) { nx := fun _ H' => Q .non H', rt := Q } σ' H' := fun {k' σ' H'} r => by
    refine ret_one (x := dd (.int (cell % m))) (eg_op (eg_cb (ea1 (vr (i := 2))) cg_int) (vr (i := 1)) (rg_c (C := fun _ j => 0 < j) (g := fun i j => i % j) mpos)) r.ev fun v H5 n5 d5 => ?_
    have e := dp_int d5
    subst e
    exact fin (by omega) (by omega) (by omega) (Int.emod_nonneg _ (by omega)) (Int.emod_lt_of_pos _ mpos) (r.go n5)
  refine if_seqN (b := decide ((10 : Int) ^ (18 : Int).toNat ≤ cell)) (et_test (eg_op (vr (i := 2)) (eg_op (ed_int 10) (ed_int 18) (rg_c (C := CPow) (g := fun i j => i ^ j.toNat) ⟨by decide, by decide, by decide⟩)) (rg_b (g := fun i j => decide (j ≤ i))))) r5.ev (fun hk H6 n6 => ?_) fun hk H6 n6 => last (r5.go n6)
  exact asg_row1 (v := cell / m) (r5.go n6) (tsI _) tsN ha (eg_op (vr (i := 2)) (vr (i := 1)) (rg_c (C := CDiv) (g := fun i j => i / j) ⟨mpos, m2⟩)) (i := 3) (j := 3) rfl rfl fun H7 r7 => last r7
end Lw
set_option Elab.async false
set_option linter.all false
set_option maxRecDepth 100000
set_option maxHeartbeats 4000000
/-! _law_pick, _law_table, _law_order -/
namespace Lw
open PySem PySem.Spec PyProof.Rows L2
open LamX (ExtN Tabs TabS CodeO TabB)
open PySem.W (dataLe dataLt alike alikeAll)
variable {P : Program} {w : World} {K : PySem.W.Frag} {mg : Str → Option Value} {base : Heap} {T : List (Addr × Str)}
/-- a value taken by way of the row -/
def EM (T : List (Addr × Str)) (K : PySem.W.Frag) (R a : Addr) (ns : List Int) (te : TE) (Γ : Gam K) (P : PyData → Prop) : Prop := ∀ σ H, Ok T σ H Γ → RowInv T K R a ns H → ∀ Q : VK, (∀ d v H2, P d → RM T K R H H2 → RowInv T K R a ns H2 → Dp K H2 v d → Q v H2) → te σ H Q
section
variable {R a : Addr} {ns : List Int} {Γ : Gam K}
theorem em_of {te : TE} {d : PyData} (h : ED T te Γ d) : EM T K R a ns te Γ (fun x => x = d) := fun σ H ok inv Q q => h σ H ok Q fun v H2 n dv => q d v H2 rfl (RM.of n) (inv.go n) dv
theorem EM.imp {te : TE} {P P' : PyData → Prop} (h : EM T K R a ns te Γ P) (hp : ∀ d, P d → P' d) : EM T K R a ns te Γ P' := fun σ H ok inv Q q => h σ H ok inv Q fun d v H2 p => q d v H2 (hp d p)
theorem em_taken {ta tb : TE} {m : Nat} (h1 : EG T ta Γ (isR R)) (h2 : ED T tb Γ (.int (m : Nat))) (hm : 1 ≤ m) (hm2 : m ≤ 1000000) : EM T K R a ns (tCall (sp_taken T K) [] E0 (tCons ta (tCons tb tNil))) Γ (fun d => ∃ i : Nat, i < m ∧ d = .int (i : Nat)) := fun σ H ok inv Q q => by
  refine (ea_cons h1 (ea_cons h2 ea_nil)) σ H ok _ fun vs H1 n1 dv => ?_
  cases dv with
  | cons d1 dv =>
  cases dv with
  | cons d2 dv =>
  cases dv
  have e1 : _ = V.ref R := d1
  have e2 := dp_int d2
  subst e1 e2
  exact ⟨R, (m : Nat), a, ns, rfl, inv.go n1, by omega, by omega, fun i hi H' rm inv' => q (.int (i : Nat)) _ H' ⟨i, by omega, rfl⟩ ((RM.of n1).trans rm) inv' (.int _)⟩
theorem em_add1 {te : TE} {m : Nat} (h : EM T K R a ns te Γ (fun d => ∃ i : Nat, i < m ∧ d = .int (i : Nat))) : EM T K R a ns (tOp (rI0 fun i j => .int (i + j)) (tC (.int 1)) te) Γ (fun d => ∃ i : Nat, 1 ≤ i ∧ i ≤ m ∧ d = .int (i : Nat)) := fun σ H ok inv Q q => h σ H ok inv _ fun d v H1 ⟨i, hi, e⟩ rm inv' dv => by
  subst e
  have e := dp_int dv
  subst e
  refine ⟨1, (i : Nat), rfl, rfl, ?_⟩
  exact q (.int ((i + 1 : Nat) : Int)) _ H1 ⟨i + 1, by omega, by omega, rfl⟩ rm inv' (by
    have e : (1 : Int) + (i : Nat) = ((i + 1 : Nat) : Int) := by omega
    show Dp K H1 (V.int ((1 : Int) + (i : Nat))) _
    rw [e]
    exact .int _)
theorem em_tup2 {ta tb : TE} {P1 P2 : PyData → Prop} (fl : Fl Γ) (h1 : EM T K R a ns ta Γ P1) (hf : ∀ d, P1 d → flat d = true) (h2 : EM T K R a ns tb Γ P2) : EM T K R a ns (tTup (tCons ta (tCons tb tNil))) Γ (fun d => ∃ d1 d2, P1 d1 ∧ P2 d2 ∧ d = .tuple [d1, d2]) := fun σ H ok inv Q q => h1 σ H ok inv _ fun d1 v1 H1 p1 r1 i1 dv1 => h2 σ H1 (ok_tk ok fl r1.tk r1.tb) i1 _ fun d2 v2 H2 p2 r2 i2 dv2 => by
  refine ⟨by simp [sizeLine_eq], fun p hp => ?_⟩
  have nx : Nx T H2 (upd H2 p (.tup [v1, v2])) := Nx.new r2.tb hp
  exact q _ _ _ ⟨d1, d2, p1, p2, rfl⟩ ((r1.trans r2).trans (RM.of nx)) (i2.go nx) (dp_newT upd_same (.cons (dp_mono nx.kp _ _ (dp_flat r2.tk _ _ (hf d1 p1) dv1)) (.cons (dp_mono nx.kp _ _ dv2) .nil)))
theorem em_asg {te : TE} {g : TG} {vs : List Nat} {u : TS} {D : Ends} {P : PyData → Prop} {Γ2 : PyData → Gam K} {σ : L2.St} {H : Hp} (fl : Fl Γ) (h : EM T K R a ns te Γ P) (hg : ∀ d, P d → GG T vs g (dd d) Γ (Γ2 d)) (ok : Ok T σ H Γ) (inv : RowInv T K R a ns H)
    (k : ∀ d σ' H', P d → RM T K R H H' → RowInv T K R a ns H' → Ok T σ' H' (Γ2 d) → u D σ' H') : tSeq (tAsg te g) u D σ H := h σ H ok inv _ fun d v H1 p rm inv' dv => hg d p v σ H1 (ok_tk ok fl rm.tk rm.tb) dv _ fun σ' ok' _ => k d σ' H1 p rm inv' ok'
/-- a list comprehension over range(n), each turn taking -/
theorem em_lc {n : Nat} {wi : TI} {te : TE} {vs : List Nat} {j : Nat} {P : PyData → Prop} (hw : WQ T wi Γ ((List.range n).map fun i => dd (.int (i : Nat)))) (hn : n ≤ 1000) (fl : Fl Γ) (hP : ∀ d, P d → flat d = true) (hj : j ∈ vs)
    (he : ∀ i : Nat, EM T K R a ns te ((wipeG Γ vs).set j (some (dd (.int (i : Nat))))) P) {σ : L2.St} {H : Hp} (ok : Ok T σ H Γ) (inv : RowInv T K R a ns H) (Q : VK)
    (q : ∀ ds p us H2, ds.length = n → (∀ d ∈ ds, P d) → RM T K R H H2 → RowInv T K R a ns H2 → H2 p = some (.lst us) → DpAll K H2 us ds → Q (.ref p) H2) : tLc wi (gName j) tYes te vs σ H Q := hw σ H ok _ fun J H1 n1 wk D hD => by
  have inv1 := inv.go n1
  have nD : New H1 D := New.back (ExtN.refl _) hD
  have nx0 : Nx T H1 (upd H1 D (.lst [])) := Nx.new n1.tb hD
  refine ⟨fun i m H' => m = n - i ∧ i ≤ n ∧ RM T K R H1 H' ∧ RowInv T K R a ns H' ∧ ∃ us ds, H' D = some (.lst us) ∧ DpAll K H' us ds ∧ ds.length = i ∧ ∀ d ∈ ds, P d, ⟨n, by omega, Nat.zero_le _, RM.of nx0, inv1.go nx0, [], [], upd_same, .nil, rfl, fun d hd => by cases hd⟩, ?_⟩
  rintro i m H' ⟨rfl, hi, rm, inv', us, ds, hu, hd, hdl, hp⟩
  have hlen : ((List.range n).map fun i => (dd (.int (i : Nat)) : Dsc K)).length = n := by simp
  by_cases hlt : i < n
  · refine .inr ⟨wk.go i H' (by omega) rm.tk rm.tb, fun H2 => RM T K R H1 H2 ∧ RowInv T K R a ns H2 ∧ ∃ us ds, H2 D = some (.lst us) ∧ DpAll K H2 us ds ∧ ds.length = i + 1 ∧ ∀ d ∈ ds, P d, fun H2 ⟨r2, v2, h⟩ => ⟨n - (i + 1), by omega, rfl, hlt, r2, v2, h⟩, fun x H2 yy => ?_⟩
    obtain ⟨n2, y, ey, dy⟩ := wk.yld i H' x H2 (by omega) rm.tk rm.tb yy
    have ey' : y = dd (.int ((i : Nat) : Int)) := by
      rw [List.getElem?_map, List.getElem?_range hlt] at ey
      exact (Option.some.inj ey).symm
    subst ey'
    have rm2 := rm.trans (RM.of n2)
    have ok2 : Ok T σ H2 Γ := ok_tk (ok.go n1) fl rm2.tk rm2.tb
    refine gg_name (T := T) hj x _ H2 (ok2.wipe vs) dy _ fun σ3 ok3 hw3 => ⟨by rw [hw3, wipe_wipe], ?_⟩
    show te σ3 H2 _
    have inv2 := inv'.go n2
    have hu2 : H2 D = some (.lst us) := n2.kp D _ hu nl
    obtain ⟨c0, s0, k0, e0, _⟩ := inv1.at'
    have hDR : D ≠ R := Ne.symm (nD R _ e0 nl)
    refine he i σ3 H2 ok3 inv2 _ fun d v H4 pd rm4 inv4 dv => ?_
    have hu4 : H4 D = some (.lst us) := rm4.ex D _ hDR hu2 nl
    refine ⟨us, hu4, by rw [dpa_len hd, sizeLine_eq]; omega, ?_⟩
    have rmA := rm2.trans rm4
    refine ⟨rmA.fresh nD hu4, inv1.fresh inv4 rmA nD hu4, us ++ [v], ds ++ [d], upd_same, ?_, by simp [hdl], fun d' hd' => ?_⟩
    · have t4 := sqT_updL (K := K) (o := .lst (us ++ [v])) hu4
      exact dpa_app (dpa_flat t4 _ _ (flatA_all.mpr fun d' h' => hP d' (hp d' h')) (dpa_flat rm4.tk _ _ (flatA_all.mpr fun d' h' => hP d' (hp d' h')) (dpAll_mono n2.kp _ _ hd))) (.cons (dp_flat t4 _ _ (hP d pd) dv) .nil)
    · rcases List.mem_append.mp hd' with z | z
      · exact hp d' z
      · rw [List.mem_singleton.mp z]
        exact pd
  · have e : i = n := by omega
    subst e
    refine .inl ⟨?_, q ds D us H' hdl hp ((RM.of n1).trans rm) inv' hu hd⟩
    have := wk.stop H' rm.tk
    rwa [hlen] at this
/-- tuple([.. for .. in range(n)]) -/
theorem em_tupLc {n : Nat} {wi : TI} {te : TE} {vs : List Nat} {j : Nat} {P : PyData → Prop} (hw : WQ T wi Γ ((List.range n).map fun i => dd (.int (i : Nat)))) (hn : n ≤ 1000) (fl : Fl Γ) (hP : ∀ d, P d → flat d = true) (hj : j ∈ vs)
    (he : ∀ i : Nat, EM T K R a ns te ((wipeG Γ vs).set j (some (dd (.int (i : Nat))))) P) : EM T K R a ns (tCB (rTupO K) (tCons (tLc wi (gName j) tYes te vs) tNil)) Γ (fun d => ∃ ds : List PyData, d = .tuple ds ∧ ds.length = n ∧ ∀ x ∈ ds, P x) := fun σ H ok inv Q q =>
  em_lc hw hn fl hP hj he ok inv (fun x H2 => rTupO K [x] H2 Q) fun ds p us H2 hl hp rm inv2 hu hd => by
    refine ⟨p, us, rfl, .inl ⟨.inl (.inl hu), fun l hl' => ?_⟩⟩
    have nx : Nx T H2 (upd H2 l (.tup us)) := Nx.new rm.tb hl'
    exact q _ _ _ ⟨ds, rfl, hl, hp⟩ (rm.trans (RM.of nx)) (inv2.go nx) (dp_newT upd_same (dpAll_mono nx.kp _ _ hd))
end
theorem unmap {α : Type} {f : α → PyData} : ∀ {ds : List PyData} {p : α → Prop}, (∀ d ∈ ds, ∃ a, p a ∧ d = f a) → ∃ l : List α, ds = l.map f ∧ ∀ a ∈ l, p a
  | [], _, _ => ⟨[], rfl, fun _ h => by cases h⟩
  | d :: ds, p, h => by
    obtain ⟨a, pa, rfl⟩ := h d List.mem_cons_self
    obtain ⟨l, rfl, hl⟩ := unmap (ds := ds) fun d hd => h d (List.mem_cons_of_mem _ hd)
    exact ⟨a :: l, rfl, fun x hx => by
      rcases List.mem_cons.mp hx with z | z
      · exact z ▸ pa
      · exact hl x z⟩
def sp_table (T : List (Addr × Str)) (K : PySem.W.Frag) : Sp := fun vs H Q _ => ∃ (R a : Addr) (ns : List Int) (cr so top : Nat), vs = [.ref R, .int cr, .int so, .int top] ∧ RowInv T K R a ns H ∧ 1 ≤ cr ∧ cr ≤ 6 ∧ 1 ≤ so ∧ so ≤ 5 ∧ top ≤ 99 ∧
  ∀ n g t, n ≤ cr → g ≤ so → TabOk n g t → ∀ v H', RM T K R H H' → RowInv T K R a ns H' → Dp K H' v (pT t) → Q v H'
theorem len_law_table {vs : List V} {H : Hp} {Q : VK} {E : XK} (h : sp_table T K vs H Q E) : vs.length = 4 := by
  obtain ⟨R, a, ns, cr, so, top, rfl, _⟩ := h
  rfl
theorem sc_law_table : FnScope ["_law_row", "_law_crowded", "_law_sorts", "_law_top", "_law_many", "_law_wide", "_law_person", "_law_good"] ["_law_row", "_law_crowded", "_law_sorts", "_law_top"] (defScope (topS 66)) := ⟨rfl, rfl, rfl, by decide +kernel, rfl, by decide +kernel, by decide +kernel⟩
theorem d_law_table (B : Bts mg) (C : Csts mg) (D_law_taken : Def P w K mg base 1 "_law_taken" ["_law_row", "_law_many"] (sp_taken T K)) (R : Raw mg K "_law_table" (topS 66)) : Def P w K mg base 2 "_law_table" ["_law_row", "_law_crowded", "_law_sorts", "_law_top"] (sp_table T K) := by
  refine def_of R sc_law_table (fun _ _ _ _ _ _ us hl => match us, hl with | [_, _, _, _], _ => rfl) (fun _ _ _ _ h => len_law_table h) fun f cdv A outer s H vs Q E hr h => ?_
  have nd := sc_law_table.nd
  refine ⟨_, (pss_cons (ps_asg (pe_tup (pa_cons (pe_op op_add pe_int (pe_callD D_law_taken hr (by decide) (by rfl) (pa_cons (pv 0) (pa_cons (pv 1) pa_nil)))) (pa_cons (pe_op op_add pe_int (pe_callD D_law_taken hr (by decide) (by rfl) (pa_cons (pv 0) (pa_cons (pv 2) pa_nil)))) pa_nil))) (w_gtup (K := K) (n := 2) (by rfl) rfl (pgs_cons (pg_name (i := 4) nd rfl (Or.inl rfl) (Or.inr rfl)) (pgs_cons (pg_name (i := 5) nd rfl (Or.inr rfl) (Or.inl rfl)) pgs_nil))))
    (pss_one (ps_ret (pe_callTy (w_tup (K := K) (by rfl)) (by rfl) B.tuple PyProof.Rows.boot_tuple (pa_cons (pe_lc (own := [("_law_person", 6)]) rfl nd (pi_range1 (by rfl) B.range (pa_cons (pv 4) pa_nil)) (blkOk_by (by kernel_rfl)) (fun _ _ _ _ _ => (pg_name (i := 6) nd rfl (Or.inl rfl) (Or.inr rfl))) (fun _ _ _ _ _ => pts_nil) (fun _ _ _ _ _ => (pe_callTy (w_tup (K := K) (by rfl)) (by rfl) B.tuple PyProof.Rows.boot_tuple (pa_cons (pe_lc (own := [("_law_good", 7)]) rfl nd (pi_range1 (by rfl) B.range (pa_cons (pv 5) pa_nil)) (blkOk_by (by kernel_rfl)) (fun _ _ _ _ _ => (pg_name (i := 7) nd rfl (Or.inl rfl) (Or.inr rfl))) (fun _ _ _ _ _ => pts_nil) (fun _ _ _ _ _ => (pe_callD D_law_taken hr (by decide) (by rfl) (pa_cons (pv 0) (pa_cons (pe_op op_add (pv 3) pe_int) pa_nil))))) pa_nil)))) pa_nil))))), ?_⟩
  obtain ⟨R, a, ns, cr, so, top, rfl, inv, cr1, cr6, so1, so5, top9, q⟩ := h
  let Γ0 : Gam K := [some (isR R), some (dd (.int (cr : Nat))), some (dd (.int (so : Nat))), some (dd (.int (top : Nat))), none, none, none, none]
  have ok0 : Ok T (L2.start ["_law_row", "_law_crowded", "_law_sorts", "_law_top", "_law_many", "_law_wide", "_law_person", "_law_good"] [.ref R, .int cr, .int so, .int top]) H Γ0 := by
    refine ⟨inv.tb, rfl, fun i x e => ?_⟩
    match i, e with
    | 0, e => cases e; exact ⟨_, rfl, rfl⟩
    | 1, e => cases e; exact ⟨_, rfl, .int _⟩
    | 2, e => cases e; exact ⟨_, rfl, .int _⟩
    | 3, e => cases e; exact ⟨_, rfl, .int _⟩
    | 4, e => cases e
    | 5, e => cases e
    | 6, e => cases e
    | 7, e => cases e
    | i + 8, e => cases e
  let ΓT : Option (Dsc K) → Option (Dsc K) → Option (Dsc K) → Option (Dsc K) → Gam K := fun x y z u => [some (isR R), some (dd (.int (cr : Nat))), some (dd (.int (so : Nat))), some (dd (.int (top : Nat))), x, y, z, u]
  have flT : ∀ x y z u : Option (Dsc K), (∀ v, x = some v → Tst v) → (∀ v, y = some v → Tst v) → (∀ v, z = some v → Tst v) → (∀ v, u = some v → Tst v) → Fl (ΓT x y z u) := fun x y z u hx hy hz hu i v e => by
    match i, e with
    | 0, e => cases e; exact tst_isR _
    | 1, e => cases e; exact tst_flat rfl
    | 2, e => cases e; exact tst_flat rfl
    | 3, e => cases e; exact tst_flat rfl
    | 4, e => exact hx v (Option.some.inj e)
    | 5, e => exact hy v (Option.some.inj e)
    | 6, e => exact hz v (Option.some.inj e)
    | 7, e => exact hu v (Option.some.inj e)
    | i + 8, e => cases e
  refine em_asg (vs := [4, 5]) (Γ := Γ0) (R := R) (a := a) (ns := ns) (Γ2 := fun d => match d with
      | .tuple [d1, d2] => ΓT (some (dd d1)) (some (dd d2)) none none
      | _ => Γ0) (flT none none none none tsN tsN tsN tsN) (em_tup2 (flT none none none none tsN tsN tsN tsN) (em_add1 (m := cr) (em_taken (vr (i := 0)) (vr (i := 1)) cr1 (by omega))) (fun d ⟨i, _, _, e⟩ => by rw [e]; rfl) (em_add1 (m := so) (em_taken (vr (i := 0)) (vr (i := 2)) so1 (by omega)))) (fun d hd => ?_) ok0 inv fun d σ1 H1 hd rm1 inv1 ok1 => ?_
  · obtain ⟨d1, d2, _, _, rfl⟩ := hd
    exact gg_two (by simp) (by simp)
  obtain ⟨d1, d2, ⟨n, n1, n2, rfl⟩, ⟨g, g1, g2, rfl⟩, rfl⟩ := hd
  let Γ1 : Gam K := ΓT (some (dd (.int (n : Nat)))) (some (dd (.int (g : Nat)))) none none
  have ok1 : Ok T σ1 H1 Γ1 := ok1
  have rowP : ∀ i : Nat, EM T K R a ns (tCB (rTupO K) (tCons (tLc (iRng1 (tCons (tVar 5) tNil)) (gName 7) tYes (tCall (sp_taken T K) [] E0 (tCons (tVar 0) (tCons (tOp (rI0 fun i j => .int (i + j)) (tVar 3) (tC (.int 1))) tNil))) [7]) tNil)) ((wipeG Γ1 [6]).set 6 (some (dd (.int (i : Nat))))) (fun d => ∃ r : List Int, RowOk g r ∧ d = pR r) := fun i => by
    have ew : (wipeG Γ1 [6]).set 6 (some (dd (.int (i : Nat)))) = ΓT (some (dd (.int (n : Nat)))) (some (dd (.int (g : Nat)))) (some (dd (.int (i : Nat)))) none := rfl
    rw [ew]
    refine (em_tupLc (n := g) (P := fun d => ∃ i : Nat, i < top + 1 ∧ d = .int (i : Nat)) (wq_range1 (ea1 (vr (i := 5))) (by omega)) (by omega) (flT _ _ _ _ (tsI _) (tsI _) (tsI _) tsN) (fun d ⟨i, _, e⟩ => by rw [e]; rfl) (by simp) fun k => em_taken (vr (i := 0)) ((eg_op (vr (i := 3)) (ed_int 1) (rg_i (g := fun i j => i + j))).is rfl) (by omega) (by omega)).imp fun d ⟨ds, e, hl, hp⟩ => ?_
    obtain ⟨l, rfl, hl2⟩ := unmap (f := PyData.int) (p := fun z => HeapOk z) (ds := ds) fun d hd => by
      obtain ⟨i, hi, e⟩ := hp d hd
      exact ⟨(i : Nat), ⟨by omega, by omega⟩, e⟩
    rw [List.length_map] at hl
    exact ⟨l, ⟨hl, hl2⟩, e⟩
  have tabP : EM T K R a ns (tCB (rTupO K) (tCons (tLc (iRng1 (tCons (tVar 4) tNil)) (gName 6) tYes (tCB (rTupO K) (tCons (tLc (iRng1 (tCons (tVar 5) tNil)) (gName 7) tYes (tCall (sp_taken T K) [] E0 (tCons (tVar 0) (tCons (tOp (rI0 fun i j => .int (i + j)) (tVar 3) (tC (.int 1))) tNil))) [7]) tNil)) [6]) tNil)) Γ1 (fun d => ∃ t : TT, TabOk n g t ∧ d = pT t) := by
    refine (em_tupLc (n := n) (P := fun d => ∃ r : List Int, RowOk g r ∧ d = pR r) (wq_range1 (ea1 (vr (i := 4))) (by omega)) (by omega) (flT _ _ _ _ (tsI _) (tsI _) tsN tsN) (fun d ⟨r, _, e⟩ => by rw [e]; exact flat_pR r) (by simp) rowP).imp fun d ⟨ds, e, hl, hp⟩ => ?_
    obtain ⟨t, rfl, ht⟩ := unmap (f := pR) (p := fun r => RowOk g r) (ds := ds) fun d hd => hp d hd
    rw [List.length_map] at hl
    exact ⟨t, ⟨hl, ht, by omega, by omega, by omega, by omega⟩, e⟩
  refine tabP σ1 H1 ok1 inv1 Q fun d v H2 hd rm2 inv2 dv => ?_
  obtain ⟨t, ht, rfl⟩ := hd
  exact q n g t n2 g2 ht v H2 (rm1.trans rm2) inv2 dv
def sp_pick (T : List (Addr × Str)) (K : PySem.W.Frag) : Sp := fun vs H Q _ => ∃ (R a p : Addr) (ns : List Int) (us : List V) (ts : List TT), vs = [.ref R, .ref p] ∧ RowInv T K R a ns H ∧ p ≠ R ∧ H p = some (.lst us) ∧ DpAll K H us (ts.map pT) ∧ 1 ≤ ts.length ∧ ts.length ≤ 1000 ∧
  ∀ t ∈ ts, ∀ v H', RM T K R H H' → RowInv T K R a ns H' → Dp K H' v (pT t) → Q v H'
theorem len_law_pick {vs : List V} {H : Hp} {Q : VK} {E : XK} (h : sp_pick T K vs H Q E) : vs.length = 2 := by
  obtain ⟨R, a, p, ns, us, ts, rfl, _⟩ := h
  rfl
theorem sc_law_pick : FnScope ["_law_row", "_law_things"] ["_law_row", "_law_things"] (defScope (topS 65)) := ⟨rfl, rfl, rfl, by decide +kernel, rfl, by decide +kernel, by decide +kernel⟩
theorem d_law_pick (B : Bts mg) (C : Csts mg) (D_law_taken : Def P w K mg base 1 "_law_taken" ["_law_row", "_law_many"] (sp_taken T K)) (R : Raw mg K "_law_pick" (topS 65)) : Def P w K mg base 2 "_law_pick" ["_law_row", "_law_things"] (sp_pick T K) := by
  refine def_of R sc_law_pick (fun _ _ _ _ _ _ us hl => match us, hl with | [_, _], _ => rfl) (fun _ _ _ _ h => len_law_pick h) fun f cdv A outer s H vs Q E hr h => ?_
  have nd := sc_law_pick.nd
  refine ⟨_, (pss_one (ps_ret (pe_ix (w_ixL (K := K) (by rfl)) (pv 1) (pe_callD D_law_taken hr (by decide) (by rfl) (pa_cons (pv 0) (pa_cons (pe_callB (w_len (K := K) (by rfl)) (by rfl) B.len PySem.boot_len (pa_cons (pv 1) pa_nil)) pa_nil))) (fun _ _ => rfl)))), ?_⟩
  obtain ⟨R, a, p, ns, us, ts, rfl, inv, hpR, hp, hd, l1, l2, q⟩ := h
  have hul : us.length = ts.length := by rw [dpa_len hd, List.length_map]
  refine ⟨.ref p, rfl, .ref R, rfl, .ref p, rfl, p, us, rfl, .inl (.inl (.inl hp)), R, (us.length : Nat), a, ns, rfl, inv, by omega, by omega, fun i hi H' rm inv' => ?_⟩
  have hi' : i < ts.length := by omega
  have hp' := rm.ex p _ hpR hp nl
  have hd' := dpa_flat rm.tk _ _ (flats ts) hd
  exact rg_ixL (T := T) (ds := ts.map pT) (d := pT ts[i]) (atN (by rw [List.getElem?_map, List.getElem?_eq_getElem hi']; rfl)) (.ref p) (.int (i : Nat)) H' rm.tb (dp_newL hp' hd') (.int _) Q fun v H2 n2 d2 => q ts[i] (List.getElem_mem hi') v H2 (rm.trans (RM.of n2)) (inv'.go n2) d2
/-! ### _law_order -/
def sp_lorder (T : List (Addr × Str)) (K : PySem.W.Frag) : Sp := fun vs H Q _ => ∃ (R a : Addr) (ns : List Int) (n : Nat), vs = [.ref R, .int n] ∧ RowInv T K R a ns H ∧ n ≤ 1000 ∧
  ∀ o, Lt.IsOrd n o → ∀ v H', RM T K R H H' → RowInv T K R a ns H' → Dp K H' v (pO o) → Q v H'
theorem len_law_order {vs : List V} {H : Hp} {Q : VK} {E : XK} (h : sp_lorder T K vs H Q E) : vs.length = 2 := by
  obtain ⟨R, a, ns, n, rfl, _⟩ := h
  rfl
def intsV (l : List Nat) : List V := l.map fun i => V.int ((i : Nat) : Int)
theorem dp_intsV {H : Hp} (l : List Nat) : DpAll K H (intsV l) (l.map fun i => PyData.int ((i : Nat) : Int)) := by
  induction l with
  | nil => exact .nil
  | cons x l ih => exact .cons (.int _) ih
theorem erase_map {α β : Type} (f : α → β) : ∀ (l : List α) (k : Nat), (l.map f).eraseIdx k = (l.eraseIdx k).map f
  | [], _ => rfl
  | _ :: _, 0 => rfl
  | x :: l, k + 1 => by
    rw [List.map_cons, List.eraseIdx_cons_succ, List.eraseIdx_cons_succ, List.map_cons, erase_map f l k]
theorem sc_law_order : FnScope ["_law_row", "_law_many", "_law_left", "_law_found", "_law_turn"] ["_law_row", "_law_many"] (defScope (topS 67)) := ⟨rfl, rfl, rfl, by decide +kernel, rfl, by decide +kernel, by decide +kernel⟩
theorem d_law_order (B : Bts mg) (C : Csts mg) (D_law_taken : Def P w K mg base 1 "_law_taken" ["_law_row", "_law_many"] (sp_taken T K)) (R : Raw mg K "_law_order" (topS 67)) : Def P w K mg base 2 "_law_order" ["_law_row", "_law_many"] (sp_lorder T K) := by
  refine def_of R sc_law_order (fun _ _ _ _ _ _ us hl => match us, hl with | [_, _], _ => rfl) (fun _ _ _ _ h => len_law_order h) fun f cdv A outer s H vs Q E hr h => ?_
  have nd := sc_law_order.nd
  refine ⟨_, (pss_cons (ps_par (i := 2) (j := 3) rfl nd rfl rfl (by decide) rfl rfl (pa_cons (pe_listRg rfl (by rfl) B.list (prg_1 (by rfl) B.range (pv 1))) (pa_cons (pe_lst pa_nil) pa_nil)) (by rfl))
    (pss_cons (ps_for PassesOwn.never rfl (pi_range1 (by rfl) B.range (pa_cons (pv 1) pa_nil)) (pg_name (i := 4) nd rfl (Or.inl rfl) (Or.inr rfl))
     (pss_one (ps_expr (pe_bm PySem.F.plainAttrs_list PySem.F.slot_list_append PySem.F.type_list_append mt_append (pv 3) (pa_cons (pe_bm PySem.F.plainAttrs_list PySem.F.slot_list_pop PySem.F.type_list_pop mt_popAt (pv 2) (pa_cons (pe_callD D_law_taken hr (by decide) (by rfl) (pa_cons (pv 0) (pa_cons (pe_callB (w_len (K := K) (by rfl)) (by rfl) B.len PySem.boot_len (pa_cons (pv 2) pa_nil)) pa_nil))) pa_nil)) pa_nil)))))
    (pss_one (ps_ret (pe_callTy (w_tup (K := K) (by rfl)) (by rfl) B.tuple PyProof.Rows.boot_tuple (pa_cons (pv 3) pa_nil)))))), ?_⟩
  obtain ⟨R, a, ns, n, rfl, inv, hn, q⟩ := h
  let Γ0 : Gam K := [some (isR R), some (dd (.int (n : Nat))), none, none, none]
  have ok0 : Ok T (L2.start ["_law_row", "_law_many", "_law_left", "_law_found", "_law_turn"] [.ref R, .int n]) H Γ0 := by
    refine ⟨inv.tb, rfl, fun i x e => ?_⟩
    match i, e with
    | 0, e => cases e; exact ⟨_, rfl, rfl⟩
    | 1, e => cases e; exact ⟨_, rfl, .int _⟩
    | 2, e => cases e
    | 3, e => cases e
    | 4, e => cases e
    | i + 5, e => cases e
  have hgen : rgV 0 (n : Int) = intsV (List.range n) := by
    unfold rgV intsV
    have : ((n : Int) - 0).toNat = n := by omega
    rw [this]
    refine List.map_congr_left fun i _ => ?_
    show V.int (0 + (i : Int)) = V.int (i : Int)
    congr 1
    omega
  refine ⟨.int n, rfl, (n : Int), rfl, ⟨by omega, by omega, by omega, by omega, by omega⟩, fun L hL => ?_⟩
  rw [hgen]
  have n1 : Nx T H (upd H L (.lst (intsV (List.range n)))) := Nx.new inv.tb hL
  have eL : upd H L (.lst (intsV (List.range n))) L = some (.lst (intsV (List.range n))) := upd_same
  have newL : New H L := New.back (ExtN.refl _) hL
  generalize upd H L (.lst (intsV (List.range n))) = H1 at n1 eL
  refine ⟨Nat.zero_le _, fun F hF => ?_⟩
  have n2 : Nx T H1 (upd H1 F (.lst [])) := Nx.new n1.tb hF
  have eF : upd H1 F (.lst []) F = some (.lst []) := upd_same
  have newF : New H F := New.back n1.kp hF
  have hLF : L ≠ F := ne_of_none eL hF
  have eL2 : upd H1 F (.lst []) L = some (.lst (intsV (List.range n))) := n2.kp L _ eL nl
  generalize upd H1 F (.lst []) = H2 at n2 eF eL2
  obtain ⟨c0, s0, k0, e0, _⟩ := inv.at'
  have hLR : L ≠ R := Ne.symm (newL R _ e0 nl)
  have hFR : F ≠ R := Ne.symm (newF R _ e0 nl)
  refine ⟨_, _, rfl, ?_⟩
  let Γ1 : Gam K := [some (isR R), some (dd (.int (n : Nat))), some (isR L), some (isR F), none]
  have n12 := n1.trans n2
  have ok1 : Ok T (((L2.start ["_law_row", "_law_many", "_law_left", "_law_found", "_law_turn"] [.ref R, .int n]).set 2 (some (.ref L))).set 3 (some (.ref F))) H2 Γ1 := ((ok0.go n12).set (x := isR L) 2 rfl).set (x := isR F) 3 rfl
  have fl1 : ∀ z : Option (Dsc K), (∀ v, z = some v → Tst v) → Fl ([some (isR R), some (dd (.int (n : Nat))), some (isR L), some (isR F), z] : Gam K) := fun z hz i v e => by
    match i, e with
    | 0, e => cases e; exact tst_isR _
    | 1, e => cases e; exact tst_flat rfl
    | 2, e => cases e; exact tst_isR _
    | 3, e => cases e; exact tst_isR _
    | 4, e => exact hz v (Option.some.inj e)
    | i + 5, e => cases e
  refine fa_for (T := T) (K := K) (Γ := Γ1) (wq_range1 (ea1 (vr (i := 1))) (by omega)) ok1 (fun Hb i σ' H' => RM T K R H H' ∧ TK K Hb H' ∧ RowInv T K R a ns H' ∧ Ok T σ' H' Γ1 ∧ ∃ left found : List Nat, H' L = some (.lst (intsV left)) ∧ H' F = some (.lst (intsV found)) ∧ (found ++ left).Perm (List.range n) ∧ found.length = i)
    (fun Hb nb => ⟨RM.of (n12.trans nb), fun _ _ h => h, inv.go (n12.trans nb), ok1.go nb, List.range n, [], nb.kp L _ eL2 nl, nb.kp F _ eF nl, List.Perm.refl _, rfl⟩) (fun Hb nb i σ' H' h => ⟨h.2.1, h.1.tb⟩) (fun Hb nb i y σ' H' v H3 hy h n3 dv => ?_) (fun Hb nb σ' H' h => ?_)
  · obtain ⟨rm, tk, inv', ok', left, found, hl, hf, hp, hfl⟩ := h
    have hi : i < n := by
      have := (List.getElem?_eq_some_iff.mp hy).1
      simpa using this
    rw [List.getElem?_map, List.getElem?_range hi] at hy
    obtain rfl := (Option.some.inj hy).symm
    have hlen : found.length + left.length = n := by
      have := hp.length_eq
      rw [List.length_append, List.length_range] at this
      exact this
    let Γ2 : Gam K := [some (isR R), some (dd (.int (n : Nat))), some (isR L), some (isR F), some (dd (.int (i : Nat)))]
    have ok3 : Ok T (σ'.set 4 (some v)) H3 Γ2 := (ok'.go n3).set (x := dd (.int (i : Nat))) 4 dv
    have hl3 := n3.kp L _ hl nl
    have hf3 := n3.kp F _ hf nl
    have inv3 := inv'.go n3
    have rm3 := rm.trans (RM.of n3)
    obtain ⟨w0, e0', x0⟩ := ok_val ok3 (i := 0) rfl
    obtain ⟨w2, e2', x2⟩ := ok_val ok3 (i := 2) rfl
    obtain ⟨w3, e3', x3⟩ := ok_val ok3 (i := 3) rfl
    have x0 : w0 = .ref R := x0
    have x2 : w2 = .ref L := x2
    have x3 : w3 = .ref F := x3
    subst x0 x2 x3
    have ill : (intsV left).length = left.length := List.length_map ..
    refine ⟨.ref F, e3', .inl ⟨rfl, _, .inl (.inl hf3)⟩, ?_⟩
    refine ⟨.ref L, e2', .inl ⟨rfl, _, .inl (.inl hl3)⟩, .ref R, e0', .ref L, e2', L, intsV left, rfl, .inl (.inl (.inl hl3)), R, ((intsV left).length : Nat), a, ns, rfl, inv3, by omega, by omega, fun k hk H4 rm4 inv4 => ?_⟩
    have hk' : k < left.length := by omega
    have hl4 := rm4.ex L _ hLR hl3 nl
    have hf4 := rm4.ex F _ hFR hf3 nl
    have rmA := rm3.trans rm4
    refine ⟨L, intsV left, (k : Nat), k, .int ((left[k] : Nat) : Int), rfl, rfl, hl4, by omega, by omega, ?_, ?_, ?_⟩
    · have := seqIndex_of (k := ((k : Nat) : Int)) (n := (intsV left).length) (by omega) (by omega)
      rw [this]
      congr 1
    · unfold intsV
      rw [List.getElem?_map, List.getElem?_eq_getElem hk']
      rfl
    have ee : (intsV left).eraseIdx k = intsV (left.eraseIdx k) := by
      unfold intsV
      exact (erase_map _ _ _)
    rw [ee]
    have rmB := rmA.fresh (ys := intsV (left.eraseIdx k)) newL hl4
    have invB := inv.fresh (ys := intsV (left.eraseIdx k)) inv4 rmA newL hl4
    have tkB : TK K Hb (upd H4 L (.lst (intsV (left.eraseIdx k)))) := fun b xs hb => sqT_updL hl4 _ _ (rm4.tk b xs (tk_of n3.kp b xs (tk b xs hb)))
    have hfB : upd H4 L (.lst (intsV (left.eraseIdx k))) F = some (.lst (intsV found)) := by rw [upd_ne (Ne.symm hLF)]; exact hf4
    have hlB : upd H4 L (.lst (intsV (left.eraseIdx k))) L = some (.lst (intsV (left.eraseIdx k))) := upd_same
    have okB : Ok T (σ'.set 4 (some v)) (upd H4 L (.lst (intsV (left.eraseIdx k)))) Γ2 := ok_tk (ok_tk ok3 (fl1 _ (tsI _)) rm4.tk rm4.tb) (fl1 _ (tsI _)) (sqT_updL hl4) rmB.tb
    generalize upd H4 L (.lst (intsV (left.eraseIdx k))) = HB at rmB invB tkB hfB hlB okB
    refine ⟨F, intsV found, .int ((left[k] : Nat) : Int), rfl, rfl, hfB, ?_, ?_⟩
    · unfold intsV
      rw [List.length_map, sizeLine_eq]
      omega
    have rmC := rmB.fresh (ys := intsV found ++ [.int ((left[k] : Nat) : Int)]) newF hfB
    have invC := inv.fresh (ys := intsV found ++ [.int ((left[k] : Nat) : Int)]) invB rmB newF hfB
    refine ⟨rmC, fun b xs hb => sqT_updL hfB _ _ (tkB b xs hb), invC, (ok_tk okB (fl1 _ (tsI _)) (sqT_updL hfB) rmC.tb).weak rfl fun j x e => ?_, left.eraseIdx k, found ++ [left[k]], by rw [upd_ne hLF]; exact hlB, ?_, ?_, by rw [List.length_append, hfl]; rfl⟩
    · match j, e with
      | 0, e => exact e
      | 1, e => exact e
      | 2, e => exact e
      | 3, e => exact e
      | 4, e => cases e
      | j + 5, e => cases e
    · rw [upd_same]
      unfold intsV
      rw [List.map_append]
      rfl
    · refine List.Perm.trans ?_ hp
      rw [List.append_assoc]
      exact List.Perm.append_left _ (by
        have h := Lt.set_perm left k left[k] hk'
        rw [List.set_getElem_self] at h
        exact h.symm)
  · obtain ⟨rm, tk, inv', ok', left, found, hl, hf, hp, hfl⟩ := h
    rw [List.length_map, List.length_range] at hfl
    have hlen : found.length + left.length = n := by
      have := hp.length_eq
      rw [List.length_append, List.length_range] at this
      exact this
    have hle : left = [] := List.length_eq_zero_iff.mp (by omega)
    rw [hle, List.append_nil] at hp
    obtain ⟨w3, e3', x3⟩ := ok_val ok' (i := 3) rfl
    have x3 : w3 = .ref F := x3
    subst x3
    have okE := ok_put (x := dd (.list (found.map fun i => .int ((i : Nat) : Int)))) ok' e3' (dp_newL hf (dp_intsV found))
    refine (eg_tupO (vr (i := 3) (Γ := Γ1.set 3 (some (dd (.list (found.map fun i => .int ((i : Nat) : Int)))))) (x := dd (.list (found.map fun i => .int ((i : Nat) : Int)))))) σ' H' okE _ fun v H3 n3 d3 => ?_
    exact q found hp v H3 (rm.trans (RM.of n3)) (inv'.go n3) d3
end Lw
set_option Elab.async false
set_option linter.all false
set_option maxRecDepth 100000
set_option maxHeartbeats 4000000
/-! law -/
namespace Lw
open PySem PySem.Spec PyProof.Rows L2
open LamX (ExtN Tabs TabS CodeO TabB)
open PySem.W (dataLe dataLt alike alikeAll)
variable {P : Program} {w : World} {K : PySem.W.Frag} {mg : Str → Option Value} {base : Heap} {T : List (Addr × Str)}
/-! ### what the law leans on, plain -/
structure LawOk (n g : Nat) (t : TT) : Prop where
  ot : TabOk n g t
  few : Lt.fac n ^ g ≤ 1296
structure Easy (n : Nat) (t : TT) (L : Nat) (o : List Nat) : Prop where
  ord : Lt.IsOrd n o
  is : LeastIs n t o L
  min : ∀ k u, Lt.Path (Lt.LayR n) k t u → Lt.crowd u = Lt.tower t → L ≤ k
section
variable {n g : Nat} {t t1 : TT} {L : Nat} {o : List Nat}
theorem LawOk.tower (h : LawOk n g t) : TabOk n g (Lt.tower t) := h.ot.kin ((Lt.placed_kin h.ot.wf (id_ord n)).perm (Lt.placed_perm (Lt.tower_wf h.ot.wf) (id_ord n)).symm)
theorem LawOk.deed (h : LawOk n g t) : DeedPre n g t (Lt.tower t) := ⟨h.ot, h.tower, h.few, by
  obtain ⟨k, _, p⟩ := Lt.reach_order h.ot.wf (id_ord n)
  obtain ⟨m, _, q⟩ := Lt.lays_deeds h.ot.wf p
  rw [Lt.placed_crowd h.ot.wf (id_ord n)] at q
  exact ⟨m, by rw [Lt.crowd_tower h.ot.wf]; exact q⟩⟩
theorem Easy.deed (h : LawOk n g t) (e : Easy n t L o) {D : Nat} (hD : LeastD t (Lt.tower t) D) : L = D := by
  unfold LeastD at hD
  rw [Lt.crowd_tower h.ot.wf] at hD
  exact Lt.least_eq h.ot.wf e.is.1 (Lt.placed_crowd h.ot.wf e.ord) e.min hD
theorem Easy.least (e : Easy n t L o) {m : Nat} (h : LeastIs n t o m) : m = L := Lt.Dist.unique h e.is
theorem LawOk.lay (h : LawOk n g t) (l : Lt.LayR n t t1) : LawOk n g t1 ∧ Lt.tower t1 = Lt.tower t := by
  have k := Lt.lay_kin h.ot.wf l
  exact ⟨⟨h.ot.kin k, h.few⟩, k.tower h.ot.wf⟩
theorem Easy.lay {L1 : Nat} {o1 : List Nat} (h : LawOk n g t) (e : Easy n t L o) (l : Lt.LayR n t t1) (e1 : Easy n t1 L1 o1) : L ≤ L1 + 1 :=
  e.min (L1 + 1) _ (.cons l e1.is.1) (by
    rw [Lt.placed_crowd (h.lay l).1.ot.wf e1.ord, (h.lay l).2])
theorem cost_lay {q : List Nat} {c c1 : Nat} (h : LawOk n g t) (l : Lt.LayR n t t1) (hc : LeastIs n t q c) (h1 : LeastIs n t1 q c1) : c ≤ c1 + 1 := by
  have p := h1.1
  rw [(h.lay l).2] at p
  exact hc.2 (c1 + 1) (.cons l p)
theorem Easy.quiet {L1 : Nat} {o1 : List Nat} {i j : Nat} (h : LawOk n g t) (e : Easy n t L o) (hi : i < n) (hj : j < n) (hij : i ≠ j) (ho : Lt.atOdds (Lt.rw' t i) (Lt.rw' t j) = false) (e1 : Easy n (Lt.laid t i j) L1 o1) : L1 = L := by
  have l : Lt.LayR n t (Lt.laid t i j) := ⟨i, j, hi, hj, hij, rfl⟩
  obtain ⟨k, p⟩ := h.deed.can
  obtain ⟨D, _, hD⟩ := Lt.dist_of_path p
  have a := e.deed h hD
  have hD1 : LeastD (Lt.laid t i j) (Lt.tower (Lt.laid t i j)) D := by
    unfold LeastD
    rw [(h.lay l).2, Lt.lay_quiet h.ot.wf hi hj hij ho]
    exact hD
  have b := e1.deed (h.lay l).1 hD1
  omega
theorem Easy.zero (h : LawOk n g t) (e : Easy n t L o) : L = 0 ↔ Lt.oddsOf t = [] := by
  rw [Lt.oddsOf_nil h.ot.wf, Lt.quiet_iff h.ot.wf]
  constructor
  · intro z
    have p := e.is.1
    rw [z] at p
    have e2 := Lt.Path.zero p
    have := Lt.placed_crowd h.ot.wf e.ord
    rw [← e2] at this
    exact this
  · intro z
    have := e.min 0 t (.nil t) z
    omega
theorem cheap_zero {c : List Nat} (h : LawOk n g t) (ho : Lt.IsOrd n c) (hm : ∀ q, Lt.IsOrd n q → Lt.toOrder t c ≤ Lt.toOrder t q) : Lt.toOrder t c = 0 ↔ Lt.oddsOf t = [] := by
  rw [Lt.oddsOf_nil h.ot.wf]
  constructor
  · exact Lt.order_zero h.ot.wf ho
  · intro q
    have h1 := Lt.quiet_order h.ot.wf q (ordE_ord t n) (ordE_rows h.ot.wf)
    have h2 := hm _ (ordE_ord t n)
    have h3 := Lt.order_nn t c
    omega
theorem ord_first (ho : Lt.IsOrd n o) (hn : 0 < n) : ∃ p, o[0]? = some p ∧ p < n ∧ o.idxOf p = 0 := by
  have hl := ho.len
  have h0 : 0 < o.length := by omega
  exact ⟨o[0], List.getElem?_eq_getElem h0, ho.mem.mp (List.getElem_mem h0), ho.idx_at h0⟩
theorem ord_last (ho : Lt.IsOrd n o) (hn : 0 < n) : ∃ p, o = o.dropLast ++ [p] ∧ p < n ∧ o.idxOf p = n - 1 := by
  have hl := ho.len
  have h0 : o.length - 1 < o.length := by omega
  have hne : o ≠ [] := fun z => by rw [z] at hl; simp at hl; omega
  refine ⟨o[o.length - 1], ?_, ho.mem.mp (List.getElem_mem h0), ?_⟩
  · conv => lhs; rw [← List.dropLast_concat_getLast hne]
    rw [List.getLast_eq_getElem]
  · rw [ho.idx_at h0, hl]
theorem top_help (h : LawOk n g t) (e : Easy n t L o) {p : Nat} (hp : p < n) (hi : o.idxOf p = 0) : ∃ lot, lot ∈ Lt.allLots n ∧ Lt.Valid t p lot ∧ lot.length ≤ L := Lt.help_top h.ot.wf hp e.is.1 (by rw [Lt.placed_row e.ord hp, hi])
theorem bot_help (h : LawOk n g t) (e : Easy n t L o) {p : Nat} (hp : p < n) (hi : o.idxOf p = n - 1) : ∃ lot, lot ∈ Lt.allLots n ∧ Lt.Valid (Lt.negT t) p lot ∧ lot.length ≤ L := Lt.help_bottom h.ot.wf hp e.is.1 (by rw [Lt.placed_row e.ord hp, hi])
theorem mem_zip {u : TT} {p : Nat} (hp : p < u.length) : (p, Lt.rw' u p) ∈ (List.range u.length).zip u := by
  refine List.mem_iff_getElem?.mpr ⟨p, ?_⟩
  rw [List.getElem?_zip_eq_some]
  exact ⟨List.getElem?_range hp, by simp [Lt.rw', hp]⟩
theorem top_mem (h : LawOk n g t) (ho : Lt.IsOrd n o) {p : Nat} (hp : p < n) (hi : o.idxOf p = 0) : p ∈ topsL (Lt.placed (Lt.tower t) o) := by
  have hl : (Lt.placed (Lt.tower t) o).length = n := by rw [Lt.placed_len, ho.len]
  refine List.mem_map.mpr ⟨(p, Lt.rw' (Lt.placed (Lt.tower t) o) p), List.mem_filter.mpr ⟨mem_zip (by omega), List.all_eq_true.mpr fun r hr => ?_⟩, rfl⟩
  obtain ⟨k, hk, rfl⟩ := List.mem_iff_getElem.mp hr
  have e : (Lt.placed (Lt.tower t) o)[k] = Lt.rw' (Lt.placed (Lt.tower t) o) k := by simp [Lt.rw', hk]
  show Lt.isOver (Lt.rw' (Lt.placed (Lt.tower t) o) p) _ = true
  rw [e, Lt.placed_row ho hp, Lt.placed_row ho (by omega), hi]
  exact Lt.tower_chain h.ot.wf (Nat.zero_le _) (ho.idx_lt (by omega))
theorem bot_mem (h : LawOk n g t) (ho : Lt.IsOrd n o) {p : Nat} (hp : p < n) (hi : o.idxOf p = n - 1) : p ∈ botsL (Lt.placed (Lt.tower t) o) := by
  have hl : (Lt.placed (Lt.tower t) o).length = n := by rw [Lt.placed_len, ho.len]
  refine List.mem_map.mpr ⟨(p, Lt.rw' (Lt.placed (Lt.tower t) o) p), List.mem_filter.mpr ⟨mem_zip (by omega), List.all_eq_true.mpr fun r hr => ?_⟩, rfl⟩
  obtain ⟨k, hk, rfl⟩ := List.mem_iff_getElem.mp hr
  have e : (Lt.placed (Lt.tower t) o)[k] = Lt.rw' (Lt.placed (Lt.tower t) o) k := by simp [Lt.rw', hk]
  show Lt.isOver _ (Lt.rw' (Lt.placed (Lt.tower t) o) p) = true
  have hk' := ho.idx_lt (p := k) (by omega)
  rw [e, Lt.placed_row ho hp, Lt.placed_row ho (by omega), hi]
  exact Lt.tower_chain h.ot.wf (by omega) (by omega)
end
/-! ### rules for statements beside the row -/
abbrev SX (T : List (Addr × Str)) (K : PySem.W.Frag) (R a : Addr) (ns : List Int) (t : TS) (Γ Γ1 : Gam K) : Prop := ∀ D σ H, Ok T σ H Γ → RowInv T K R a ns H → (∀ H2, D.rt (.bl true) H2) → (∀ σ' H', RowInv T K R a ns H' → Ok T σ' H' Γ1 → D.nx σ' H') → t D σ H
section
variable {R a : Addr} {ns : List Int} {Γ Γ1 Γ2 : Gam K} {t u : TS} {te : TE} {tt : L2.TT}
theorem sx_if0 (h : ET T tt Γ false) (hu : SX T K R a ns u Γ Γ1) : SX T K R a ns (tSeq (tIfS tt t tNext) u) Γ Γ1 := fun D σ H ok inv rt nx => h σ H ok _ fun H1 n1 => hu D σ H1 (ok.go n1) (inv.go n1) rt nx
theorem sx_if0e (h : ET T tt Γ false) (s : Sub Γ1 Γ) : SX T K R a ns (tIfS tt t tNext) Γ Γ1 := fun D σ H ok inv rt nx => h σ H ok _ fun H1 n1 => nx σ H1 (inv.go n1) ((ok.go n1).weak s.len s.sl)
theorem sx_ifB {b : Bool} (h : ET T tt Γ b) (ht : b = true → SX T K R a ns t Γ Γ) (hu : SX T K R a ns u Γ Γ1) : SX T K R a ns (tSeq (tIfS tt t tNext) u) Γ Γ1 := fun D σ H ok inv rt nx => h σ H ok _ fun H1 n1 => by
  cases b with
  | true => exact ht rfl { D with nx := u D } σ H1 (ok.go n1) (inv.go n1) rt fun σ' H' inv' ok' => hu D σ' H' ok' inv' rt nx
  | false => exact hu D σ H1 (ok.go n1) (inv.go n1) rt nx
theorem sx_asgP {vs : List Nat} {g : TG} {P1 : Dsc K → Prop} (h : EP' T te Γ P1) (hb : ∀ x, P1 x → ∃ Γ2, GG T vs g x Γ Γ2 ∧ SX T K R a ns u Γ2 Γ1) : SX T K R a ns (tSeq (tAsg te g) u) Γ Γ1 := fun D σ H ok inv rt nx => h σ H ok _ fun x v H1 px n1 d1 => by
  obtain ⟨Γ2, hg, hu⟩ := hb x px
  exact hg v σ H1 (ok.go n1) d1 _ fun σ' ok' _ => hu D σ' H1 ok' (inv.go n1) rt nx
theorem sx_set {i : Nat} {x : Dsc K} (h : EG T te Γ x) (hu : SX T K R a ns u (Γ.set i (some x)) Γ1) : SX T K R a ns (tSeq (tAsg te (gName i)) u) Γ Γ1 := fun D σ H ok inv rt nx => h σ H ok _ fun v H1 n1 d1 => hu D _ H1 ((ok.go n1).set i d1) (inv.go n1) rt nx
theorem sx_setP {i : Nat} {P1 : Dsc K → Prop} (h : EP' T te Γ P1) (hu : ∀ x, P1 x → SX T K R a ns u (Γ.set i (some x)) Γ1) : SX T K R a ns (tSeq (tAsg te (gName i)) u) Γ Γ1 := fun D σ H ok inv rt nx => h σ H ok _ fun x v H1 px n1 d1 => hu x px D _ H1 ((ok.go n1).set i d1) (inv.go n1) rt nx
theorem sx_seq (h : SN T t Γ Γ2) (hu : SX T K R a ns u Γ2 Γ1) : SX T K R a ns (tSeq t u) Γ Γ1 := fun D σ H ok inv rt nx => h _ σ H ok fun σ' H' n' ok' => hu D σ' H' ok' (inv.go n') rt nx
theorem sx_em {vs : List Nat} {g : TG} {P1 : PyData → Prop} (fl : Fl Γ) (h : EM T K R a ns te Γ P1) (hb : ∀ d, P1 d → ∃ Γ2, GG T vs g (dd d) Γ Γ2 ∧ SX T K R a ns u Γ2 Γ1) : SX T K R a ns (tSeq (tAsg te g) u) Γ Γ1 := fun D σ H ok inv rt nx => h σ H ok inv _ fun d v H1 pd rm inv' dv => by
  obtain ⟨Γ2, hg, hu⟩ := hb d pd
  exact hg v σ H1 (ok_tk ok fl rm.tk rm.tb) dv _ fun σ' ok' _ => hu D σ' H1 ok' inv' rt nx
theorem sx_ret (h : ED T te Γ (.bool true)) : SX T K R a ns (tRet te) Γ Γ1 := fun D σ H ok inv rt nx => h σ H ok _ fun v H1 n1 d1 => by
  have e := dp_bl d1
  subst e
  exact rt H1
theorem em_bind {td : TE} {P1 P2 : PyData → Prop} (F : TE → TE) (hF : ∀ td σ H Q, F td σ H Q = td σ H fun v H1 => F (tC v) σ H1 Q) (fl : Fl Γ) (h : EM T K R a ns td Γ P1) (hb : ∀ d v, P1 d → EM T K R a ns (F (tHold (dd (K := K) d) v)) Γ P2) : EM T K R a ns (F td) Γ P2 := fun σ H ok inv Q q => by
  rw [hF]
  refine h σ H ok inv _ fun d v H1 pd rm inv1 dv => ?_
  have := hb d v pd σ H1 (ok_tk ok fl rm.tk rm.tb) inv1 Q fun d2 u H2 p2 rm2 inv2 dv2 => q d2 u H2 p2 (rm.trans rm2) inv2 dv2
  rw [hF] at this
  exact this dv
theorem ep_opP {r : R2} {ta tb : TE} {P1 P2 P3 : Dsc K → Prop} (h1 : EP' T ta Γ P1) (h2 : EP' T tb Γ P2) (h3 : ∀ x y, P1 x → P2 y → ∃ z, RG T r x y z ∧ P3 z) : EP' T (tOp r ta tb) Γ P3 := fun σ H ok Q q => h1 σ H ok _ fun x u H1 px n1 d1 => h2 σ H1 (ok.go n1) _ fun y v H2 py n2 d2 => by
  obtain ⟨z, hr, pz⟩ := h3 x y px py
  exact hr u v H2 n2.tb (x.mono n2.kp d1) d2 Q fun t H3 n3 d3 => q z t H3 pz ((n1.trans n2).trans n3) d3
theorem EP'.is {P1 : Dsc K → Prop} {y : Dsc K} (h : EP' T te Γ P1) (hp : ∀ x, P1 x → x = y) : EG T te Γ y := fun σ H ok Q q => h σ H ok Q fun x v H2 p n d => q v H2 n (hp x p ▸ d)
theorem EP'.imp {P1 P2 : Dsc K → Prop} (h : EP' T te Γ P1) (hp : ∀ x, P1 x → P2 x) : EP' T te Γ P2 := fun σ H ok Q q => h σ H ok Q fun x v H2 p n d => q x v H2 (hp x p) n d
theorem EP'.cb {f : List V → Hp → VK → Prop} {P1 P2 : Dsc K → Prop} (h : EP' T te Γ P1) (hp : ∀ x, P1 x → ∃ z, CG T f [x] z ∧ P2 z) : EP' T (tCB f (tCons te tNil)) Γ P2 := fun σ H ok Q q => h σ H ok _ fun x v H1 px n1 d1 => by
  obtain ⟨z, hc, pz⟩ := hp x px
  exact hc [v] H1 n1.tb (.cons d1 .nil) Q fun t H2 n2 d2 => q z t H2 pz (n1.trans n2) d2
end
/-! ### takings as data -/
section
variable {R a : Addr} {ns : List Int} {Γ : Gam K}
theorem em_order {ta tb : TE} {n : Nat} (h1 : EG T ta Γ (isR R)) (h2 : ED T tb Γ (.int (n : Nat))) (hn : n ≤ 1000) : EM T K R a ns (tCall (sp_lorder T K) [] E0 (tCons ta (tCons tb tNil))) Γ (fun d => ∃ o, Lt.IsOrd n o ∧ d = pO o) := fun σ H ok inv Q q => by
  refine (ea_cons h1 (ea_cons h2 ea_nil)) σ H ok _ fun vs H1 n1 dv => ?_
  cases dv with
  | cons d1 dv =>
  cases dv with
  | cons d2 dv =>
  cases dv
  have e1 : _ = V.ref R := d1
  have e2 := dp_int d2
  subst e1 e2
  exact ⟨R, a, ns, n, rfl, inv.go n1, hn, fun o ho v H' rm inv' dv => q (pO o) v H' ⟨o, ho, rfl⟩ ((RM.of n1).trans rm) inv' dv⟩
theorem em_table {ta : TE} (cr so top : Nat) (h1 : EG T ta Γ (isR R)) (c1 : 1 ≤ cr ∧ cr ≤ 6) (s1 : 1 ≤ so ∧ so ≤ 5) (t9 : top ≤ 99) : EM T K R a ns (tCall (sp_table T K) [] E0 (tCons ta (tCons (tC (.int (cr : Nat))) (tCons (tC (.int (so : Nat))) (tCons (tC (.int (top : Nat))) tNil))))) Γ (fun d => ∃ n g t, n ≤ cr ∧ g ≤ so ∧ TabOk n g t ∧ d = pT t) := fun σ H ok inv Q q => by
  refine (ea_cons h1 (ea_cons (ed_int (cr : Nat)) (ea_cons (ed_int (so : Nat)) (ea_cons (ed_int (top : Nat)) ea_nil)))) σ H ok _ fun vs H1 n1 dv => ?_
  cases dv with
  | cons d1 dv =>
  cases dv with
  | cons d2 dv =>
  cases dv with
  | cons d3 dv =>
  cases dv with
  | cons d4 dv =>
  cases dv
  have e1 : _ = V.ref R := d1
  have e2 := dp_int d2
  have e3 := dp_int d3
  have e4 := dp_int d4
  subst e1 e2 e3 e4
  exact ⟨R, a, ns, cr, so, top, rfl, inv.go n1, c1.1, c1.2, s1.1, s1.2, t9, fun n g t hn hg ht v H' rm inv' dv => q (pT t) v H' ⟨n, g, t, hn, hg, ht, rfl⟩ ((RM.of n1).trans rm) inv' dv⟩
end
theorem call2 {sp : Sp} {ta tb : TE} {x : Dsc K} {Γ : Gam K} {σ : L2.St} {H : Hp} {Q : VK} (h1 : EG T ta Γ x) (ok : Ok T σ H Γ) (k : ∀ v H1, Nx T H H1 → x.den v H1 → tb σ H1 fun u H2 => sp [v, u] H2 Q E0) : tCall sp [] E0 (tCons ta (tCons tb tNil)) σ H Q := h1 σ H ok _ k
theorem em_lst2 {R a : Addr} {ns : List Int} {Γ : Gam K} {ta tb : TE} {P1 P2 : PyData → Prop} (fl : Fl Γ) (h1 : EM T K R a ns ta Γ P1) (hf : ∀ d, P1 d → flat d = true) (h2 : EM T K R a ns tb Γ P2) {σ : L2.St} {H : Hp} (ok : Ok T σ H Γ) (inv : RowInv T K R a ns H) (Q : VK)
    (q : ∀ d1 d2 p us H2, P1 d1 → P2 d2 → p ≠ R → RM T K R H H2 → RowInv T K R a ns H2 → H2 p = some (.lst us) → DpAll K H2 us [d1, d2] → Q (.ref p) H2) : tLst (tCons ta (tCons tb tNil)) σ H Q := h1 σ H ok inv _ fun d1 v1 H1 p1 r1 i1 dv1 => h2 σ H1 (ok_tk ok fl r1.tk r1.tb) i1 _ fun d2 v2 H2 p2 r2 i2 dv2 => by
  refine ⟨by simp [sizeLine_eq], fun p hp => ?_⟩
  have nx : Nx T H2 (upd H2 p (.lst [v1, v2])) := Nx.new r2.tb hp
  obtain ⟨c, s, k, e0, _⟩ := i2.at'
  exact q d1 d2 p _ _ p1 p2 (Ne.symm (ne_of_none e0 hp)) ((r1.trans r2).trans (RM.of nx)) (i2.go nx) upd_same (.cons (dp_mono nx.kp _ _ (dp_flat r2.tk _ _ (hf d1 p1) dv1)) (.cons (dp_mono nx.kp _ _ dv2) .nil))
theorem em_pick {R a : Addr} {ns : List Int} {Γ : Gam K} {i : Nat} (h1 : Γ[i]? = some (some (isR R))) (fl : Fl Γ) : EM T K R a ns (tCall (sp_pick T K) [] E0 (tCons (tVar i) (tCons (tLst (tCons (tCall (sp_table T K) [] E0 (tCons (tVar i) (tCons (tC (.int 4)) (tCons (tC (.int 2)) (tCons (tC (.int 4)) tNil))))) (tCons (tCall (sp_table T K) [] E0 (tCons (tVar i) (tCons (tC (.int 3)) (tCons (tC (.int 4)) (tCons (tC (.int 9)) tNil))))) tNil))) tNil))) Γ (fun d => ∃ n g t, LawOk n g t ∧ d = pT t) := fun σ H ok inv Q q => by
  refine call2 (vr h1) ok fun v H1 n1 dv => ?_
  have e : v = .ref R := dv
  subst e
  refine em_lst2 (ta := tCall (sp_table T K) [] E0 (tCons (tVar i) (tCons (tC (.int 4)) (tCons (tC (.int 2)) (tCons (tC (.int 4)) tNil))))) (tb := tCall (sp_table T K) [] E0 (tCons (tVar i) (tCons (tC (.int 3)) (tCons (tC (.int 4)) (tCons (tC (.int 9)) tNil))))) fl (em_table 4 2 4 (vr h1) ⟨by omega, by omega⟩ ⟨by omega, by omega⟩ (by omega)) (fun d ⟨_, _, t, _, _, _, e⟩ => by rw [e]; exact flat_pT t) (em_table 3 4 9 (vr h1) ⟨by omega, by omega⟩ ⟨by omega, by omega⟩ (by omega)) (ok.go n1) (inv.go n1) _ fun d1 d2 p us H2 p1 p2 hpR rm inv2 hp hd => ?_
  obtain ⟨a1, b1, t1, ha1, hb1, ht1, rfl⟩ := p1
  obtain ⟨a2, b2, t2, ha2, hb2, ht2, rfl⟩ := p2
  refine ⟨R, a, p, ns, us, [t1, t2], rfl, inv2, hpR, hp, hd, by simp, by simp, fun t ht v H' rm' inv' dv => ?_⟩
  refine q (pT t) v H' ?_ (((RM.of n1).trans rm).trans rm') inv' dv
  rcases List.mem_cons.mp ht with e | e
  · exact ⟨a1, b1, t1, ⟨ht1, Lt.fac_small (.inl ⟨ha1, hb1⟩)⟩, by rw [e]⟩
  · exact ⟨a2, b2, t2, ⟨ht2, Lt.fac_small (.inr ⟨ha2, hb2⟩)⟩, by rw [List.mem_singleton.mp e]⟩
theorem fl_set {Γ : Gam K} (h : Fl Γ) {x : Dsc K} (i : Nat) (t : Tst x) : Fl (Γ.set i (some x)) := fun j y e => by
  by_cases q : i = j
  · subst q
    have hl : i < Γ.length := by
      have := (List.getElem?_eq_some_iff.mp e).1
      rwa [List.length_set] at this
    rw [List.getElem?_set_self hl] at e
    cases e
    exact t
  · rw [List.getElem?_set_ne q] at e
    exact h j y e
def ΓF : Gam K := [some ⟨fun _ _ => False, fun _ h => h⟩]
theorem sx_start {R a : Addr} {ns : List Int} {Γ : Gam K} {t : TS} {D : Ends} {σ : L2.St} {H : Hp} (ok : Ok T σ H Γ) (inv : RowInv T K R a ns H) (rt : ∀ H2, D.rt (.bl true) H2) (h : SX T K R a ns t Γ ΓF) : t D σ H := h D σ H ok inv rt fun σ' H' _ ok' => by
  obtain ⟨_, _, z⟩ := ok'.sl 0 _ rfl
  exact z.elim
theorem row_new {a : Addr} {ns : List Int} {u : TS} {D : Ends} {σ : L2.St} {H : Hp} (e0 : σ[0]? = some (some (.ref a))) (hs : SqL K H a (ns.map V.int)) (tb : Tabs T H) (k : ∀ R, RowInv T K R a ns (upd H R (.lst (rowV a 0 8085 0))) → Nx T H (upd H R (.lst (rowV a 0 8085 0))) → u D (σ.set 1 (some (.ref R))) (upd H R (.lst (rowV a 0 8085 0)))) :
    tSeq (tAsg (tLst (tCons (tVar 0) (tCons (tC (.int 0)) (tCons (tC (.int 8085)) (tCons (tC (.int 0)) tNil))))) (gName 1)) u D σ H := by
  refine ⟨.ref a, e0, by simp [sizeLine_eq], fun R hR => ?_⟩
  have nx : Nx T H (upd H R (.lst (rowV a 0 8085 0))) := Nx.new tb hR
  refine k R ⟨nx.tb, ?_, sqL_mono nx.kp hs, 0, 8085, 0, upd_same, by omega, by omega, by omega⟩ nx
  rcases hs with (s | ⟨o, s⟩) | s
  · exact .inl fun z => by rw [z, hR] at s; cases s
  · exact .inl fun z => by rw [z, hR] at s; cases s
  · exact .inr s
theorem ed_gt0 {Γ : Gam K} {ta tb : TE} {P1 P2 : Dsc K → Prop} (h1 : EP' T ta Γ P1) (h2 : EP' T tb Γ P2) (h3 : ∀ x y, P1 x → P2 y → ∃ a b : Int, x = dd (.int a) ∧ y = dd (.int b) ∧ ¬ b < a) : ED T (tOp (rI0 fun i j => .bl (decide (j < i))) ta tb) Γ (.bool false) := (ep_opP (P3 := fun z => z = dd (.bool false)) h1 h2 fun x y p1 p2 => by
  obtain ⟨a, b, rfl, rfl, h⟩ := h3 x y p1 p2
  exact ⟨_, rg_b (g := fun i j => decide (j < i)), by rw [decide_eq_false h]⟩).eg
theorem ed_lt0 {Γ : Gam K} {ta tb : TE} {P1 P2 : Dsc K → Prop} (h1 : EP' T ta Γ P1) (h2 : EP' T tb Γ P2) (h3 : ∀ x y, P1 x → P2 y → ∃ a b : Int, x = dd (.int a) ∧ y = dd (.int b) ∧ ¬ a < b) : ED T (tOp (rI0 fun i j => .bl (decide (i < j))) ta tb) Γ (.bool false) := (ep_opP (P3 := fun z => z = dd (.bool false)) h1 h2 fun x y p1 p2 => by
  obtain ⟨a, b, rfl, rfl, h⟩ := h3 x y p1 p2
  exact ⟨_, rg_b (g := fun i j => decide (i < j)), by rw [decide_eq_false h]⟩).eg
theorem sh_bool (b : Bool) : SeqAt.shaped (.bool b) = true := by cases b <;> rfl
theorem eqv_bool (a b : Bool) : PyData.eqv (.bool a) (.bool b) = decide (a = b) := by cases a <;> cases b <;> rfl
theorem ne_bool {a b : Bool} (h : a = b) : RG T (rNeD K) (dd (K := K) (.bool a)) (dd (.bool b)) (dd (.bool false)) := rg_neD (sh_bool a) (sh_bool b) (by rw [eqv_bool, decide_eq_true h]; rfl)
theorem halfc {n c : Nat} (h1 : 1 ≤ n) (h6 : n ≤ 6) (h : 2 * c ≤ n * (n - 1)) : ¬ (((n : Nat) : Int) * (((n : Nat) : Int) - 1) / 2 < (c : Nat)) := by
  rcases (by omega : n = 1 ∨ n = 2 ∨ n = 3 ∨ n = 4 ∨ n = 5 ∨ n = 6) with rfl | rfl | rfl | rfl | rfl | rfl <;> simp at h ⊢ <;> omega
theorem odds_any (l : List (Nat × Nat)) (q : Nat × Nat) : ((l.map pPr).any fun z => PyData.eqv z (pPr q)) = decide (q ∈ l) := by
  rw [List.any_map]
  have e : ∀ z : Nat × Nat, PyData.eqv (pPr z) (pPr q) = decide (z = q) := fun z => eqv_dec (pl_pPr _) (pl_pPr _) ⟨fun e => by
    have h := PyData.tuple.inj e
    have h1 := PyData.int.inj (List.cons.inj h).1
    have h2 := PyData.int.inj (List.cons.inj (List.cons.inj h).2).1
    exact Prod.ext (by omega) (by omega), fun e => by rw [e]⟩
  by_cases hq : q ∈ l
  · rw [decide_eq_true hq]
    exact List.any_eq_true.mpr ⟨q, hq, by simp [e]⟩
  · rw [decide_eq_false hq]
    refine List.any_eq_false.mpr fun z hz => ?_
    simp only [Function.comp, e]
    intro h
    exact hq (of_decide_eq_true h ▸ hz)
theorem not_odds {n g : Nat} {t : TT} (ht : Lt.WF n g t) {i j : Nat} (hi : i < n) (hj : j < n) (hij : i ≠ j) (h : (min i j, max i j) ∉ Lt.oddsOf t) : Lt.atOdds (Lt.rw' t i) (Lt.rw' t j) = false := by
  cases hb : Lt.atOdds (Lt.rw' t i) (Lt.rw' t j) with
  | false => rfl
  | true =>
    exfalso
    apply h
    rcases Nat.lt_or_ge i j with q | q
    · have e1 : min i j = i := by omega
      have e2 : max i j = j := by omega
      rw [e1, e2]
      exact Lt.mem_oddsOf.mpr ⟨q, by rw [ht.1]; exact hj, hb⟩
    · have e1 : min i j = j := by omega
      have e2 : max i j = i := by omega
      rw [e1, e2]
      exact Lt.mem_oddsOf.mpr ⟨by omega, by rw [ht.1]; exact hi, by rw [Lt.atOdds_comm]; exact hb⟩
def sp_law (T : List (Addr × Str)) (K : PySem.W.Frag) : Sp := fun vs H Q _ => ∃ (a : Addr) (ns : List Int), vs = [.ref a] ∧ SqL K H a (ns.map V.int) ∧ Tabs T H ∧ ∀ H', Q (.bl true) H'
theorem len_law {vs : List V} {H : Hp} {Q : VK} {E : XK} (h : sp_law T K vs H Q E) : vs.length = 1 := by
  obtain ⟨a, ns, rfl, _⟩ := h
  rfl
theorem sc_law : FnScope ["_law_script", "_law_row", "_law_table_here", "_law_many", "_law_top", "_law_least", "_law_best", "_law_order_here", "_law_cost", "_law_amount", "_law_cheap", "_law_goal", "_law_one", "_law_other", "_law_later", "_law_swapped", "_law_at"] ["_law_script"] (defScope (topS 68)) := ⟨rfl, rfl, rfl, by decide +kernel, rfl, by decide +kernel, by decide +kernel⟩
theorem d_law (B : Bts mg) (C : Csts mg) (D_at_odds : Def P w K mg base 6 "at_odds" ["table"] (sp_at_odds T K)) (D_bottoms : Def P w K mg base 6 "bottoms" ["table"] (sp_bottoms T K)) (D_cheapest_order : Def P w K mg base 9 "cheapest_order" ["table"] (sp_cheapest_order T K)) (D_count_at_odds : Def P w K mg base 6 "count_at_odds" ["table"] (sp_count_at_odds T K)) (D_count_orders_met : Def P w K mg base 6 "count_orders_met" ["table"] (sp_count_orders_met T K)) (D_crowd : Def P w K mg base 6 "crowd" ["table"] (sp_crowd T K)) (D_easiest_order : Def P w K mg base 6 "easiest_order" ["table"] (sp_easiest_order T K)) (D_in_order : Def P w K mg base 6 "in_order" ["table", "order"] (sp_in_order T K)) (D_is_tower : Def P w K mg base 6 "is_tower" ["table"] (sp_is_tower T K)) (D_law_order : Def P w K mg base 2 "_law_order" ["_law_row", "_law_many"] (sp_lorder T K)) (D_law_pick : Def P w K mg base 2 "_law_pick" ["_law_row", "_law_things"] (sp_pick T K)) (D_law_table : Def P w K mg base 2 "_law_table" ["_law_row", "_law_crowded", "_law_sorts", "_law_top"] (sp_table T K)) (D_lay : Def P w K mg base 7 "lay" ["table", "one", "other"] (sp_lay T K)) (D_lays_to_bottom : Def P w K mg base 6 "lays_to_bottom" ["table", "person"] (sp_lays_to_bottom T K)) (D_lays_to_top : Def P w K mg base 6 "lays_to_top" ["table", "person"] (sp_lays_to_top T K)) (D_least_deeds : Def P w K mg base 9 "least_deeds" ["one", "other"] (sp_least_deeds T K)) (D_least_lays : Def P w K mg base 6 "least_lays" ["table", "order"] (sp_least_lays T K)) (D_most_deeds : Def P w K mg base 9 "most_deeds" ["one", "other"] (sp_most_deeds T K)) (D_moved : Def P w K mg base 7 "moved" ["one", "other"] (sp_moved T K)) (D_to_order : Def P w K mg base 8 "to_order" ["table", "order"] (sp_to_order T K)) (D_tops : Def P w K mg base 6 "tops" ["table"] (sp_tops T K)) (D_tower : Def P w K mg base 6 "tower" ["table"] (sp_tower T K)) (D_way : Def P w K mg base 9 "way" ["one", "other"] (sp_way T K)) {f0 : Addr} {fd0 : FuncData} (F0 : Fun K "law" "law" (topS 68) f0 fd0) : FnOk P w K mg base CX0 10 f0 fd0 ["_law_script"] (sp_law T K) := by
  refine F0.ok sc_law (fun _ _ _ _ h => len_law h) fun cdv A outer s H vs Q E hr h => ?_
  have nd := sc_law.nd
  refine ⟨_, (pss_cons (ps_set (i := 1) nd rfl (Or.inl rfl) (pe_lst (pa_cons (pv 0) (pa_cons pe_int (pa_cons pe_int (pa_cons pe_int pa_nil))))))
    (pss_cons (ps_set (i := 2) nd rfl (Or.inl rfl) (pe_callD D_law_pick hr (by decide) (by rfl) (pa_cons (pv 1) (pa_cons (pe_lst (pa_cons (pe_callD D_law_table hr (by decide) (by rfl) (pa_cons (pv 1) (pa_cons pe_int (pa_cons pe_int (pa_cons pe_int pa_nil))))) (pa_cons (pe_callD D_law_table hr (by decide) (by rfl) (pa_cons (pv 1) (pa_cons pe_int (pa_cons pe_int (pa_cons pe_int pa_nil))))) pa_nil))) pa_nil))))
    (pss_cons (ps_par (i := 3) (j := 4) rfl nd rfl rfl (by decide) rfl rfl (pa_cons (pe_callB (w_len (K := K) (by rfl)) (by rfl) B.len PySem.boot_len (pa_cons (pv 2) pa_nil)) (pa_cons (pe_callD D_tower hr (by decide) (by rfl) (pa_cons (pv 2) pa_nil)) pa_nil)) (by rfl))
    (pss_cons (ps_asg (pe_callD D_easiest_order hr (by decide) (by rfl) (pa_cons (pv 2) pa_nil)) (w_gtup (K := K) (n := 2) (by rfl) rfl (pgs_cons (pg_name (i := 5) nd rfl (Or.inl rfl) (Or.inr rfl)) (pgs_cons (pg_name (i := 6) nd rfl (Or.inl rfl) (Or.inr rfl)) pgs_nil))))
    (pss_cons (ps_if (PW.pt (pw_or (pt_cmpR (w_neD (K := K) (by rfl) hr) (pv 5) (pe_callD D_least_deeds hr (by decide) (by rfl) (pa_cons (pv 2) (pa_cons (pv 4) pa_nil))) (nomark _)) (pw_or1 (pt_cmpR (w_neD (K := K) (by rfl) hr) (pe_callD D_least_lays hr (by decide) (by rfl) (pa_cons (pv 2) (pa_cons (pv 6) pa_nil))) (pv 5) (nomark _))))) (pss_one (ps_ret pe_bl)) pss_nil)
    (pss_cons (ps_set (i := 7) nd rfl (Or.inl rfl) (pe_callD D_law_order hr (by decide) (by rfl) (pa_cons (pv 1) (pa_cons (pv 3) pa_nil))))
    (pss_cons (ps_set (i := 8) nd rfl (Or.inl rfl) (pe_callD D_least_lays hr (by decide) (by rfl) (pa_cons (pv 2) (pa_cons (pv 7) pa_nil))))
    (pss_cons (ps_if (PW.pt (pw_or (pt_not (pt_chain op_le op_le (pv 5) (pv 8) (pe_op op_sub (pe_op op_add (pv 5) (pv 3)) pe_int))) (pw_or1 (pt_cmpR op_gt (pv 8) (pe_op op_fdiv (pe_op op_mul (pv 3) (pe_op op_sub (pv 3) pe_int)) pe_int) (nomark _))))) (pss_one (ps_ret pe_bl)) pss_nil)
    (pss_cons (ps_if (pt_cmpR op_gt (pv 3) pe_int (nomark _)) (pss_cons (ps_asg (pe_slice (w_slA (K := K) (by rfl)) (pe_callD D_law_order hr (by decide) (by rfl) (pa_cons (pv 1) (pa_cons (pv 3) pa_nil))) po_none (po_some pe_int)) (w_gtup (K := K) (n := 2) (by rfl) rfl (pgs_cons (pg_name (i := 12) nd rfl (Or.inr rfl) (Or.inl rfl)) (pgs_cons (pg_name (i := 13) nd rfl (Or.inr rfl) (Or.inl rfl)) pgs_nil))))
     (pss_cons (ps_set (i := 14) nd rfl (Or.inl rfl) (pe_callD D_lay hr (by decide) (by rfl) (pa_cons (pv 2) (pa_cons (pv 12) (pa_cons (pv 13) pa_nil)))))
     (pss_cons (ps_if (PW.pt (pw_or (pt_cmpR op_gt (pv 8) (pe_op op_add pe_int (pe_callD D_least_lays hr (by decide) (by rfl) (pa_cons (pv 14) (pa_cons (pv 7) pa_nil)))) (nomark _)) (pw_or1 (pt_cmpR op_lt (pe_ix (w_ixT (K := K) (by rfl)) (pe_callD D_easiest_order hr (by decide) (by rfl) (pa_cons (pv 14) pa_nil)) pe_int (fun _ _ => rfl)) (pe_op op_sub (pv 5) pe_int) (nomark _))))) (pss_one (ps_ret pe_bl)) pss_nil)
     (pss_cons (ps_if (PW.pt (pw_and (pt_cmpR (w_notInD (K := K) (by rfl) hr) (pe_tup (pa_cons (pe_callB (call_min2 rfl) (by rfl) B.min PyProof.Rows.boot_min (pa_cons (pv 12) (pa_cons (pv 13) pa_nil))) (pa_cons (pe_callB (call_max2 rfl) (by rfl) B.max PyProof.Rows.boot_max (pa_cons (pv 12) (pa_cons (pv 13) pa_nil))) pa_nil))) (pe_callD D_at_odds hr (by decide) (by rfl) (pa_cons (pv 2) pa_nil)) rfl) (pw_and1 (pt_cmpR (w_neD (K := K) (by rfl) hr) (pe_ix (w_ixT (K := K) (by rfl)) (pe_callD D_easiest_order hr (by decide) (by rfl) (pa_cons (pv 14) pa_nil)) pe_int (fun _ _ => rfl)) (pv 5) (nomark _))))) (pss_one (ps_ret pe_bl)) pss_nil)
     (pss_cons (ps_set (i := 15) nd rfl (Or.inl rfl) (pe_callTy (w_tup (K := K) (by rfl)) (by rfl) B.tuple PyProof.Rows.boot_tuple (pa_cons (pe_lc (own := [("_law_at", 16)]) rfl nd (w_piT (K := K) (by rfl) (pv 7)) (blkOk_by (by kernel_rfl)) (fun _ _ _ _ _ => (pg_name (i := 16) nd rfl (Or.inl rfl) (Or.inr rfl))) (fun _ _ _ _ _ => pts_nil) (fun _ _ _ _ _ => (pe_ifExp (pt_cmpR (w_eqD (K := K) (by rfl) hr) (pv 16) (pv 12) (nomark _)) (pv 13) (pe_ifExp (pt_cmpR (w_eqD (K := K) (by rfl) hr) (pv 16) (pv 13) (nomark _)) (pv 12) (pv 16))))) pa_nil)))
     (pss_one (ps_if (pt_cmpR op_gt (pe_callB call_abs (by rfl) B.abs PyProof.Rows.boot_abs (pa_cons (pe_op op_sub (pe_callD D_least_lays hr (by decide) (by rfl) (pa_cons (pv 2) (pa_cons (pv 15) pa_nil))) (pv 8)) pa_nil)) pe_int (nomark _)) (pss_one (ps_ret pe_bl)) pss_nil))))))) pss_nil)
    (pss_cons (ps_asg (pe_callD D_cheapest_order hr (by decide) (by rfl) (pa_cons (pv 2) pa_nil)) (w_gtup (K := K) (n := 2) (by rfl) rfl (pgs_cons (pg_name (i := 9) nd rfl (Or.inl rfl) (Or.inr rfl)) (pgs_cons (pg_name (i := 10) nd rfl (Or.inl rfl) (Or.inr rfl)) pgs_nil))))
    (pss_cons (ps_if (PW.pt (pw_or (pt_cmpR op_gt (pv 9) (pe_callD D_to_order hr (by decide) (by rfl) (pa_cons (pv 2) (pa_cons (pv 6) pa_nil))) (nomark _)) (pw_or1 (pt_cmpR (w_neD (K := K) (by rfl) hr) (pe_op op_mul pe_int (pv 9)) (pe_callD D_moved hr (by decide) (by rfl) (pa_cons (pv 2) (pa_cons (pe_callD D_in_order hr (by decide) (by rfl) (pa_cons (pv 2) (pa_cons (pv 10) pa_nil))) pa_nil))) (nomark _))))) (pss_one (ps_ret pe_bl)) pss_nil)
    (pss_cons (ps_if (pt_cmpR (w_neD (K := K) (by rfl) hr) (pe_cmpR (w_eqD (K := K) (by rfl) hr) (pv 9) pe_int (nomark _)) (pe_callD D_is_tower hr (by decide) (by rfl) (pa_cons (pv 2) pa_nil)) (nomark _)) (pss_one (ps_ret pe_bl)) pss_nil)
    (pss_cons (ps_if (PW.pt (pw_or (pt_cmpR op_gt (pe_callD D_lays_to_top hr (by decide) (by rfl) (pa_cons (pv 2) (pa_cons (pe_ix (w_ixT (K := K) (by rfl)) (pv 6) pe_int (fun _ _ => rfl)) pa_nil))) (pv 5) (nomark _)) (pw_or1 (pt_cmpR op_gt (pe_callD D_lays_to_bottom hr (by decide) (by rfl) (pa_cons (pv 2) (pa_cons (pe_ix (w_ixT (K := K) (by rfl)) (pv 6) (pe_un un_neg pe_int) (fun _ _ => rfl)) pa_nil))) (pv 5) (nomark _))))) (pss_one (ps_ret pe_bl)) pss_nil)
    (pss_cons (ps_if (pt_cmpR (w_neD (K := K) (by rfl) hr) (pe_cmpR (w_eqD (K := K) (by rfl) hr) (pv 5) pe_int (nomark _)) (pe_cmpR (w_eqD (K := K) (by rfl) hr) (pe_callD D_count_at_odds hr (by decide) (by rfl) (pa_cons (pv 2) pa_nil)) pe_int (nomark _)) (nomark _)) (pss_one (ps_ret pe_bl)) pss_nil)
    (pss_cons (ps_set (i := 11) nd rfl (Or.inl rfl) (pe_callD D_in_order hr (by decide) (by rfl) (pa_cons (pv 2) (pa_cons (pv 6) pa_nil))))
    (pss_cons (ps_if (PW.pt (pw_or (pt_cmpR (w_neD (K := K) (by rfl) hr) (pe_callD D_crowd hr (by decide) (by rfl) (pa_cons (pv 11) pa_nil)) (pv 4) (nomark _)) (pw_or1 (pt_cmpR (w_notInS (K := K) (by rfl)) (pe_ix (w_ixT (K := K) (by rfl)) (pv 6) pe_int (fun _ _ => rfl)) (pe_callD D_tops hr (by decide) (by rfl) (pa_cons (pv 11) pa_nil)) rfl)))) (pss_one (ps_ret pe_bl)) pss_nil)
    (pss_cons (ps_if (PW.pt (pw_or (pt_cmpR (w_notInS (K := K) (by rfl)) (pe_ix (w_ixT (K := K) (by rfl)) (pv 6) (pe_un un_neg pe_int) (fun _ _ => rfl)) (pe_callD D_bottoms hr (by decide) (by rfl) (pa_cons (pv 11) pa_nil)) rfl) (pw_or1 (pt_cmpR (w_neD (K := K) (by rfl) hr) (pe_callB (w_len (K := K) (by rfl)) (by rfl) B.len PySem.boot_len (pa_cons (pe_callD D_way hr (by decide) (by rfl) (pa_cons (pv 2) (pa_cons (pv 4) pa_nil))) pa_nil)) (pe_op op_add (pv 5) pe_int) (nomark _))))) (pss_one (ps_ret pe_bl)) pss_nil)
    (pss_one (ps_ret (pe_and (pe_cmpR op_ge (pe_callD D_count_orders_met hr (by decide) (by rfl) (pa_cons (pv 2) pa_nil)) pe_int (nomark _)) (pe_one (pe_cmpR op_ge (pe_callD D_most_deeds hr (by decide) (by rfl) (pa_cons (pv 2) (pa_cons (pv 4) pa_nil))) (pv 5) (nomark _))))))))))))))))))))))), ?_⟩
  obtain ⟨a, ns, rfl, hs, tb, q⟩ := h
  refine row_new (a := a) (ns := ns) rfl hs tb fun R inv n0 => ?_
  let Γ0 : Gam K := [none, some (isR R), none, none, none, none, none, none, none, none, none, none, none, none, none, none, none]
  have ok0 : Ok T ((L2.start ["_law_script", "_law_row", "_law_table_here", "_law_many", "_law_top", "_law_least", "_law_best", "_law_order_here", "_law_cost", "_law_amount", "_law_cheap", "_law_goal", "_law_one", "_law_other", "_law_later", "_law_swapped", "_law_at"] [.ref a]).set 1 (some (.ref R))) (upd H R (.lst (rowV a 0 8085 0))) Γ0 := by
    refine ⟨inv.tb, rfl, fun i x e => ?_⟩
    match i, e with
    | 0, e => cases e
    | 1, e => cases e; exact ⟨_, rfl, rfl⟩
    | 2, e => cases e
    | 3, e => cases e
    | 4, e => cases e
    | 5, e => cases e
    | 6, e => cases e
    | 7, e => cases e
    | 8, e => cases e
    | 9, e => cases e
    | 10, e => cases e
    | 11, e => cases e
    | 12, e => cases e
    | 13, e => cases e
    | 14, e => cases e
    | 15, e => cases e
    | 16, e => cases e
    | i + 17, e => cases e
  have fl0 : Fl Γ0 := fun i x e => by
    match i, e with
    | 0, e => cases e
    | 1, e => cases e; exact tst_isR _
    | 2, e => cases e
    | 3, e => cases e
    | 4, e => cases e
    | 5, e => cases e
    | 6, e => cases e
    | 7, e => cases e
    | 8, e => cases e
    | 9, e => cases e
    | 10, e => cases e
    | 11, e => cases e
    | 12, e => cases e
    | 13, e => cases e
    | 14, e => cases e
    | 15, e => cases e
    | 16, e => cases e
    | i + 17, e => cases e
  refine sx_start ok0 inv (fun H2 => q H2) ?_
  -- the table
  refine sx_em (vs := [2]) fl0 (em_pick (i := 1) rfl fl0) fun d ⟨n, g, t, hok, e⟩ => ⟨Γ0.set 2 (some (dd (pT t))), by rw [e]; exact gg_name (by simp), ?_⟩
  clear e
  have hl : t.length = n := hok.ot.len
  have n1 : 1 ≤ n := hok.ot.n1
  have n6 : n ≤ 6 := hok.ot.n6
  have ht := hok.ot.wf
  let Γ4 : Gam K := ((Γ0.set 2 (some (dd (pT t)))).set 3 (some (dd (.int (n : Nat))))).set 4 (some (dd (pT (Lt.tower t))))
  have fl4 : Fl Γ4 := fl_set (fl_set (fl_set fl0 2 (tst_flat (flat_pT t))) 3 (tst_flat rfl)) 4 (tst_flat (flat_pT _))
  refine sx_seq (Γ2 := Γ4) (sn_par (x := dd (.int (n : Nat))) (y := dd (pT (Lt.tower t))) (ea2 ((eg_lenTab (vr (i := 2))).is (by rw [hl])) (eg_call (n, g, t) (ea1 (vr (i := 2))) hok.ot))) ?_
  -- easiest_order
  refine sx_asgP (vs := [5, 6]) (ep_call (n, g, t) (ea1 (vr (i := 2))) ⟨hok.ot, hok.few⟩) fun x ⟨L, best, e, ho, his, hmin⟩ => ?_
  have e : x = dd (costE L best) := e
  subst e
  have E : Easy n t L best := ⟨ho, his, hmin⟩
  let Γ6 : Gam K := (Γ4.set 5 (some (dd (.int (L : Nat))))).set 6 (some (dd (pO best)))
  have fl6 : Fl Γ6 := fl_set (fl_set fl4 5 (tst_flat rfl)) 6 (tst_flat (flat_pO best))
  refine ⟨Γ6, gg_two (d := .int (L : Nat)) (e := pO best) (by simp) (by simp), ?_⟩
  have hdeedP := hok.deed
  have htow := hok.tower
  -- least_deeds, least_lays
  refine sx_if0 (et_or (a := false) (b := false) (et_test ((et_nI (vr (i := 5)) (EP'.is (y := dd (.int (L : Nat))) (ep_call (n, g, t, Lt.tower t) (ea2 (vr (i := 2)) (vr (i := 4))) hdeedP) fun x ⟨D, e, h⟩ => by rw [e, E.deed hok h])).is (by simp))) fun _ => et_test ((et_nI (EP'.is (y := dd (.int (L : Nat))) (ep_call (n, g, t, best) (ea2 (vr (i := 2)) (vr (i := 6))) ⟨hok.ot, hok.few, ho⟩) fun x ⟨m, e, h⟩ => by rw [e, E.least h]) (vr (i := 5))).is (by simp))) ?_
  -- an order
  refine sx_em (vs := [7]) fl6 (em_order (n := n) (vr (i := 1)) (vr (i := 3)) (by omega)) fun d ⟨o, hoo, e⟩ => ⟨Γ6.set 7 (some (dd (pO o))), by rw [e]; exact gg_name (by simp), ?_⟩
  clear e
  let Γ7 : Gam K := Γ6.set 7 (some (dd (pO o)))
  have fl7 : Fl Γ7 := fl_set fl6 7 (tst_flat (flat_pO o))
  refine sx_setP (Γ := Γ7) (ep_call (n, g, t, o) (ea2 (vr (i := 2)) (vr (i := 7))) ⟨hok.ot, hok.few, hoo⟩) fun x ⟨c, e, hc⟩ => ?_
  have e : x = dd (.int (c : Nat)) := e
  subst e
  have hc : LeastIs n t o c := hc
  let Γ8 : Gam K := Γ7.set 8 (some (dd (.int (c : Nat))))
  have fl8 : Fl Γ8 := fl_set fl7 8 (tst_flat rfl)
  have hLc : L ≤ c := hmin c _ hc.1 (Lt.placed_crowd ht hoo)
  have hcn : c ≤ L + (n - 1) := Lt.cost_near ht (by omega) ho hoo his.1 hc
  have hhalf := halfc n1 n6 (Lt.cost_most ht hoo hc)
  refine sx_if0 (Γ := Γ8) (et_or (a := false) (b := false) ((et_not (et_test (ed_chain (a := decide (((L : Nat) : Int) ≤ (c : Nat))) (b := decide (((c : Nat) : Int) ≤ (L : Nat) + (n : Nat) - 1)) (vr (i := 5)) (vr (i := 8)) (rg_b (g := fun i j => decide (i ≤ j))) fun _ => ⟨eg_op (eg_op (vr (i := 5)) (vr (i := 3)) (rg_i (g := fun i j => i + j))) (ed_int 1) (rg_i (g := fun i j => i - j)), rg_b (g := fun i j => decide (i ≤ j))⟩))).is (by
      have h1 : ((L : Nat) : Int) ≤ (c : Nat) := by omega
      have h2 : ((c : Nat) : Int) ≤ (L : Nat) + (n : Nat) - 1 := by omega
      rw [decide_eq_true h1, decide_eq_true h2]
      rfl)) fun _ => (et_test (eg_op (vr (i := 8)) (eg_op (eg_op (vr (i := 3)) (eg_op (vr (i := 3)) (ed_int 1) (rg_i (g := fun i j => i - j))) (rg_c (C := CMul) (g := fun i j => i * j) (.inl ⟨by omega, by omega⟩))) (ed_int 2) (rg_c (C := CDiv) (g := fun i j => i / j) ⟨by decide, by decide⟩)) (rg_b (g := fun i j => decide (j < i))))).is (decide_eq_false hhalf)) ?_
  -- two people
  refine sx_ifB (Γ := Γ8) (b := decide ((1 : Int) < (n : Nat))) (et_test (eg_op (vr (i := 3)) (ed_int 1) (rg_b (g := fun i j => decide (j < i))))) (fun hb => ?_) ?_
  · have hn2 : 2 ≤ n := by
      have := of_decide_eq_true hb
      omega
    have hcut : EM T K R a ns (tSl (rSlA K) (tCall (sp_lorder T K) [] E0 (tCons (tVar 1) (tCons (tVar 3) tNil))) tNoPart (tPart (tC (.int 2)))) Γ8 (fun d => ∃ p1 p2 : Nat, p1 < n ∧ p2 < n ∧ p1 ≠ p2 ∧ d = .tuple [.int (p1 : Nat), .int (p2 : Nat)]) := by
      refine em_bind (fun td => tSl (rSlA K) td tNoPart (tPart (tC (.int 2)))) (fun _ _ _ _ => rfl) fl8 (em_order (n := n) (vr (i := 1)) (vr (i := 3)) (by omega)) fun d v ⟨o2, ho2, e⟩ => ?_
      subst e
      have hl2 := ho2.len
      refine (em_of (eg_cut (k := 2) (ds := o2.map fun i => .int ((i : Nat) : Int)) (eg_hold (dd (pO o2)) v) (by rw [List.length_map]; omega))).imp fun d e => ?_
      match o2, hl2, ho2, e with
      | [], hl2, _, _ => simp at hl2; omega
      | [_], hl2, _, _ => simp at hl2; omega
      | p1 :: p2 :: rest, hl2, ho2, e =>
        have hnd := ho2.nodup
        refine ⟨p1, p2, ho2.mem.mp (by simp), ho2.mem.mp (by simp), fun z => ?_, e⟩
        rw [z] at hnd
        simp at hnd
    refine sx_em (vs := [12, 13]) fl8 hcut fun d ⟨p1, p2, hp1, hp2, hpp, e⟩ => ?_
    subst e
    let Γ13 : Gam K := (Γ8.set 12 (some (dd (.int (p1 : Nat))))).set 13 (some (dd (.int (p2 : Nat))))
    refine ⟨Γ13, gg_two (d := .int (p1 : Nat)) (e := .int (p2 : Nat)) (by simp) (by simp), ?_⟩
    -- lay
    have hlay : Lt.LayR n t (Lt.laid t p1 p2) := ⟨p1, p2, hp1, hp2, hpp, rfl⟩
    have hok1 := (hok.lay hlay).1
    refine sx_set (eg_call (n, g, t, p1, p2) (ea3 (vr (i := 2)) (vr (i := 12)) (vr (i := 13))) ⟨hok.ot, hp1, hp2, hpp⟩) ?_
    let Γ14 : Gam K := Γ13.set 14 (some (dd (pT (Lt.laid t p1 p2))))
    have hE1 : EP' T (tOp (rIxT K) (tCall (sp_easiest_order T K) [] E0 (tCons (tVar 14) tNil)) (tC (.int 0))) Γ14 (fun y => ∃ L1 o1, y = dd (.int (L1 : Nat)) ∧ Easy n (Lt.laid t p1 p2) L1 o1) := ep_opP (P2 := fun y => y = dd (.int 0)) (ep_call (n, g, Lt.laid t p1 p2) (ea1 (vr (i := 14))) ⟨hok1.ot, hok1.few⟩) (EG.ep (ed_int 0) rfl) fun x y ⟨L1, o1, e1, h1, h2, h3⟩ e2 => ⟨dd (.int (L1 : Nat)), by
      rw [e1, e2]
      exact rg_ixT (ds := [.int (L1 : Nat), pO o1]) rfl, L1, o1, rfl, h1, h2, h3⟩
    have hA : EP' T (tOp (rI0 fun i j => .int (i + j)) (tC (.int 1)) (tCall (sp_least_lays T K) [] E0 (tCons (tVar 14) (tCons (tVar 7) tNil)))) Γ14 (fun y => ∃ m : Nat, y = dd (.int (1 + (m : Nat))) ∧ LeastIs n (Lt.laid t p1 p2) o m) := ep_opP (P1 := fun y => y = dd (.int 1)) (EG.ep (ed_int 1) rfl) (ep_call (n, g, Lt.laid t p1 p2, o) (ea2 (vr (i := 14)) (vr (i := 7))) ⟨hok1.ot, hok1.few, hoo⟩) fun x y e1 ⟨m, e2, h2⟩ => ⟨dd (.int (1 + (m : Nat))), by
      rw [e1, e2]
      exact rg_i (g := fun i j => i + j), m, rfl, h2⟩
    refine sx_if0 (Γ := Γ14) (et_or (a := false) (b := false) (et_test (ed_gt0 (P1 := fun y => y = dd (.int (c : Nat))) (EG.ep (vr (i := 8)) rfl) hA fun x y e1 ⟨m, e2, h2⟩ => ⟨_, _, e1, e2, by
        have := cost_lay hok hlay hc h2
        omega⟩)) fun _ => et_test (ed_lt0 (P2 := fun y => y = dd (.int ((L : Nat) - 1))) hE1 (EG.ep (eg_op (vr (i := 5)) (ed_int 1) (rg_i (g := fun i j => i - j))) rfl) fun x y ⟨L1, o1, e1, h1⟩ e2 => ⟨_, _, e1, e2, by
        have := E.lay hok hlay h1
        omega⟩)) ?_
    refine sx_if0 (Γ := Γ14) ((et_and (a := !decide ((min p1 p2, max p1 p2) ∈ Lt.oddsOf t)) (b := false) (et_test (eg_op (eg_tup (ds := [.int (min ((p1 : Nat) : Int) (p2 : Nat)), .int (max ((p1 : Nat) : Int) (p2 : Nat))]) (ea2 (eg_cb (ea2 (vr (i := 12)) (vr (i := 13))) cg_min2) (eg_cb (ea2 (vr (i := 12)) (vr (i := 13))) cg_max2)) (by simp)) (eg_call (n, g, t) (ea1 (vr (i := 2))) hok.ot) (rg_notInD (by
        have e : (PyData.tuple [.int (min ((p1 : Nat) : Int) (p2 : Nat)), .int (max ((p1 : Nat) : Int) (p2 : Nat))]) = pPr (min p1 p2, max p1 p2) := by
          have h1 : min ((p1 : Nat) : Int) (p2 : Nat) = ((min p1 p2 : Nat) : Int) := by omega
          have h2 : max ((p1 : Nat) : Int) (p2 : Nat) = ((max p1 p2 : Nat) : Int) := by omega
          rw [h1, h2]
          rfl
        rw [e]
        exact pl_shaped (pl_pPr _) (by have := dp_pPr (min p1 p2, max p1 p2); omega)) (sh_pOd t) (by
        have e : (PyData.tuple [.int (min ((p1 : Nat) : Int) (p2 : Nat)), .int (max ((p1 : Nat) : Int) (p2 : Nat))]) = pPr (min p1 p2, max p1 p2) := by
          have h1 : min ((p1 : Nat) : Int) (p2 : Nat) = ((min p1 p2 : Nat) : Int) := by omega
          have h2 : max ((p1 : Nat) : Int) (p2 : Nat) = ((max p1 p2 : Nat) : Int) := by omega
          rw [h1, h2]
          rfl
        rw [e, odds_any])))) fun hno => et_test ((et_nI (EP'.is (y := dd (.int (L : Nat))) hE1 fun x ⟨L1, o1, e1, h1⟩ => by
        have hno' : (min p1 p2, max p1 p2) ∉ Lt.oddsOf t := by simpa using hno
        rw [e1, E.quiet hok hp1 hp2 hpp (not_odds ht hp1 hp2 hpp hno') h1]) (vr (i := 5))).is (by simp))).is (Bool.and_false _)) ?_
    -- the swapped order
    have hsw : Lt.IsOrd n (o.map (Lt.sw p1 p2)) := hoo.swap hp1 hp2
    have hwo : WG T (iTup K (tVar 7)) Γ14 (o.map fun i => dd (.int ((i : Nat) : Int))) := by
      have := wg_tup (T := T) (K := K) (tl := tVar 7) (Γ := Γ14) (ds := o.map fun i => .int ((i : Nat) : Int)) (vr (i := 7) (x := dd (pO o)))
      rw [List.map_map] at this
      exact this
    have hol := hoo.len
    refine sx_set (x := dd (pO (o.map (Lt.sw p1 p2)))) (EG.is (eg_tupO (EG.ld (eg_lcA (l := o) (enc := fun i => dd (.int ((i : Nat) : Int))) (vs := [16]) (fun i => .int ((Lt.sw p1 p2 i : Nat) : Int)) hwo (by omega) (fun _ _ => rfl) fun i hi => ⟨Γ14.set 16 (some (dd (.int (i : Nat)))), gg_name (by simp), ?_⟩))) ?_) ?_
    · refine eg_if (et_test (eg_eqI (vr (i := 16)) (vr (i := 12)))) (fun e => ?_) fun e => eg_if (et_test (eg_eqI (vr (i := 16)) (vr (i := 13)))) (fun e2 => ?_) fun e2 => ?_
      · have e := of_decide_eq_true e
        have e' : i = p1 := by omega
        have es : Lt.sw p1 p2 i = p2 := by unfold Lt.sw; rw [if_pos e']
        rw [es]
        exact vr (i := 13)
      · have e := of_decide_eq_false e
        have e2 := of_decide_eq_true e2
        have e' : ¬ i = p1 := by omega
        have e2' : i = p2 := by omega
        have es : Lt.sw p1 p2 i = p1 := by unfold Lt.sw; rw [if_neg e', if_pos e2']
        rw [es]
        exact vr (i := 12)
      · have e := of_decide_eq_false e
        have e2 := of_decide_eq_false e2
        have e' : ¬ i = p1 := by omega
        have e2' : ¬ i = p2 := by omega
        have es : Lt.sw p1 p2 i = i := by unfold Lt.sw; rw [if_neg e', if_neg e2']
        rw [es]
        exact vr (i := 16)
    · unfold pO
      rw [List.map_map]
      rfl
    have hD3 : EP' T (tOp (rI0 fun i j => .int (i - j)) (tCall (sp_least_lays T K) [] E0 (tCons (tVar 2) (tCons (tVar 15) tNil))) (tVar 8)) (Γ14.set 15 (some (dd (pO (o.map (Lt.sw p1 p2)))))) (fun y => ∃ m3 : Nat, y = dd (.int ((m3 : Nat) - (c : Nat))) ∧ LeastIs n t (o.map (Lt.sw p1 p2)) m3) := ep_opP (P2 := fun y => y = dd (.int (c : Nat))) (ep_call (n, g, t, o.map (Lt.sw p1 p2)) (ea2 (vr (i := 2)) (vr (i := 15))) ⟨hok.ot, hok.few, hsw⟩) (EG.ep (vr (i := 8)) rfl) fun x y ⟨m3, e1, h1⟩ e2 => ⟨dd (.int ((m3 : Nat) - (c : Nat))), by
      rw [e1, e2]
      exact rg_i (g := fun i j => i - j), m3, rfl, h1⟩
    refine sx_if0e (et_test (ed_gt0 (P1 := fun y => ∃ z : Int, y = dd (.int z) ∧ z ≤ 1) (P2 := fun y => y = dd (.int 1)) (EP'.cb hD3 fun x ⟨m3, e1, h1⟩ => ⟨dd (.int (if ((m3 : Nat) : Int) - (c : Nat) < 0 then -(((m3 : Nat) : Int) - (c : Nat)) else ((m3 : Nat) : Int) - (c : Nat))), by
        rw [e1]
        exact cg_abs, _, rfl, by
        have := Lt.cost_swap ht hoo hp1 hp2 hpp hc h1
        split <;> omega⟩) (EG.ep (ed_int 1) rfl) fun x y ⟨z, e1, hz⟩ e2 => ⟨_, _, e1, e2, by omega⟩)) ?_
    exact ((((Sub.refl Γ8).set (i := 12) rfl).set (i := 13) rfl).set (i := 14) rfl).set (i := 15) rfl
  -- cheapest_order
  refine sx_asgP (vs := [9, 10]) (Γ := Γ8) (ep_call (n, g, t) (ea1 (vr (i := 2))) hok.ot) fun x ⟨ch, e, hch, hcm⟩ => ?_
  have e : x = dd (costD t ch) := e
  subst e
  have hch : Lt.IsOrd n ch := hch
  have hcm : ∀ q, Lt.IsOrd n q → Lt.toOrder t ch ≤ Lt.toOrder t q := hcm
  let Γ9 : Gam K := (Γ8.set 9 (some (dd (.int (Lt.toOrder t ch))))).set 10 (some (dd (pO ch)))
  refine ⟨Γ9, gg_two (d := .int (Lt.toOrder t ch)) (e := pO ch) (by simp) (by simp), ?_⟩
  have hpl : ∀ q, Lt.IsOrd n q → TabOk n g (Lt.placed (Lt.tower t) q) := fun q hq => hok.ot.kin (Lt.placed_kin ht hq)
  have hbest := hcm best ho
  refine sx_if0 (et_or (a := false) (b := false) ((et_test (eg_op (vr (i := 9)) (eg_call (n, g, t, best) (ea2 (vr (i := 2)) (vr (i := 6))) ⟨hok.ot, ho⟩) (rg_b (g := fun i j => decide (j < i))))).is (decide_eq_false (by
      show ¬ Lt.toOrder t best < Lt.toOrder t ch
      omega))) fun _ => et_test ((et_nI (eg_op (ed_int 2) (vr (i := 9)) (rg_c (C := CMul) (g := fun i j => i * j) (.inl ⟨by decide, by decide⟩))) (eg_call (n, g, t, Lt.placed (Lt.tower t) ch) (ea2 (vr (i := 2)) (eg_call (n, g, t, ch) (ea2 (vr (i := 2)) (vr (i := 10))) ⟨hok.ot, hch⟩)) ⟨hok.ot, hpl ch hch⟩)).is (by
      show dd (.bool (!decide (2 * Lt.toOrder t ch = Lt.moved t (Lt.placed (Lt.tower t) ch)))) = _
      rw [decide_eq_true (Lt.twice_order ht hch)]
      rfl))) ?_
  -- amount and tower
  refine sx_if0 (et_test (eg_op (eg_eqI (vr (i := 9)) (ed_int 0)) (eg_call (n, g, t) (ea1 (vr (i := 2))) hok.ot) (ne_bool (decide_eq_decide.mpr (cheap_zero hok hch hcm))))) ?_
  -- helpers
  obtain ⟨p0, ep0, hp0, ip0⟩ := ord_first ho n1
  obtain ⟨p9, ep9, hp9, ip9⟩ := ord_last ho n1
  have i0 : ∀ Γ : Gam K, Γ[6]? = some (some (dd (pO best))) → ED T (tOp (rIxT K) (tVar 6) (tC (.int 0))) Γ (.int (p0 : Nat)) := fun Γ h => eg_op (vr (x := dd (pO best)) h) (ed_int 0) (rg_ixT (atN (j := 0) (by rw [List.getElem?_map, ep0]; rfl)))
  have i9 : ∀ Γ : Gam K, Γ[6]? = some (some (dd (pO best))) → ED T (tOp (rIxT K) (tVar 6) (tUn (rU fun i => .int (-i)) (tC (.int 1)))) Γ (.int (p9 : Nat)) := fun Γ h => eg_op (vr (x := dd (pO best)) h) (eg_un (ed_int 1) (ug_i (g := fun i => -i))) (rg_ixT (by
    rw [ep9, List.map_append]
    exact atI_last _ _))
  obtain ⟨lt0, hlt0, hv0, hle0⟩ := top_help hok E hp0 ip0
  obtain ⟨lt9, hlt9, hv9, hle9⟩ := bot_help hok E hp9 ip9
  refine sx_if0 (et_or (a := false) (b := false) (et_test (ep_opP (P2 := fun y => y = dd (.int (L : Nat))) (ep_call (n, g, t, p0) (ea2 (vr (i := 2)) (i0 _ rfl)) ⟨hok.ot, hp0, lt0, hlt0, hv0⟩) (EG.ep (vr (i := 5)) rfl) fun x y ⟨cc, e1, h1⟩ e2 => ⟨_, by
      rw [e1, e2]
      exact rg_b (g := fun i j => decide (j < i)), by
      have h1 : cc.length ≤ lt0.length := h1 lt0 (by rw [hl]; exact hlt0) hv0
      rw [decide_eq_false (by omega)]⟩).eg) fun _ => et_test (ep_opP (P2 := fun y => y = dd (.int (L : Nat))) (ep_call (n, g, t, p9) (ea2 (vr (i := 2)) (i9 _ rfl)) ⟨hok.ot, hp9, lt9, hlt9, hv9⟩) (EG.ep (vr (i := 5)) rfl) fun x y ⟨cc, e1, h1⟩ e2 => ⟨_, by
      rw [e1, e2]
      exact rg_b (g := fun i j => decide (j < i)), by
      have h1 : cc.length ≤ lt9.length := h1 lt9 (by
        show lt9 ∈ Lt.allLots (Lt.negT t).length
        unfold Lt.negT
        rw [List.length_map, hl]
        exact hlt9) hv9
      rw [decide_eq_false (by omega)]⟩).eg) ?_
  -- at odds
  refine sx_if0 (et_test (eg_op (eg_eqI (vr (i := 5)) (ed_int 0)) (eg_eqI (eg_call (n, g, t) (ea1 (vr (i := 2))) hok.ot) (ed_int 0)) (ne_bool (decide_eq_decide.mpr (by
      have h1 := E.zero hok
      have h2 : (Lt.oddsOf t).length = 0 ↔ Lt.oddsOf t = [] := List.length_eq_zero_iff
      show ((L : Nat) : Int) = 0 ↔ (((Lt.oddsOf t).length : Nat) : Int) = 0
      constructor
      · intro z
        have := h2.mpr (h1.mp (by omega))
        omega
      · intro z
        have := h1.mpr (h2.mp (by omega))
        omega))))) ?_
  -- the goal
  refine sx_set (eg_call (n, g, t, best) (ea2 (vr (i := 2)) (vr (i := 6))) ⟨hok.ot, ho⟩) ?_
  let G := Lt.placed (Lt.tower t) best
  have hG : TabOk n g G := hpl best ho
  have memT : ∀ (l : List Nat) (p : Nat), p ∈ l → ((p : Nat) : Int) ∈ l.map fun i => ((i : Nat) : Int) := fun l p hp => List.mem_map.mpr ⟨p, hp, rfl⟩
  have pNsI : ∀ l : List Nat, pNs l = .list ((l.map fun i => ((i : Nat) : Int)).map .int) := fun l => by
    unfold pNs
    rw [List.map_map]
    rfl
  refine sx_if0 (et_or (a := false) (b := false) (et_test (eg_op (eg_call (n, g, G) (ea1 (vr (i := 11))) hG) (vr (i := 4)) (rg_neD (sh_pT _) (sh_pT _) (by
      rw [eqv_dec (p := True) (pl_pT _) (pl_pT _) ⟨fun _ => trivial, fun _ => by rw [Lt.placed_crowd ht ho]⟩]
      rfl)))) fun _ => et_test ((eg_op (i0 _ rfl) (eg_call (n, g, G) (ea1 (vr (i := 11))) hG) (rg_notIn (ns := (topsL G).map fun i => ((i : Nat) : Int)) (.inl (pNsI _)))).is (by
      rw [decide_eq_true (memT _ _ (top_mem hok ho hp0 ip0))]
      rfl))) ?_
  refine sx_if0 (et_or (a := false) (b := false) (et_test ((eg_op (i9 _ rfl) (eg_call (n, g, G) (ea1 (vr (i := 11))) hG) (rg_notIn (ns := (botsL G).map fun i => ((i : Nat) : Int)) (.inl (pNsI _)))).is (by
      rw [decide_eq_true (memT _ _ (bot_mem hok ho hp9 ip9))]
      rfl))) fun _ => et_test ((et_nI (EP'.is (y := dd (.int ((L + 1 : Nat) : Int))) (EP'.cb (P2 := fun y => y = dd (.int ((L + 1 : Nat) : Int))) (ep_call (n, g, t, Lt.tower t) (ea2 (vr (i := 2)) (vr (i := 4))) hdeedP) fun x ⟨ts, e, D, hD, hlen⟩ => ⟨_, by
        rw [e]
        exact cg_len (.inr rfl), by
        rw [List.length_map, hlen, E.deed hok hD]⟩) fun x e => e) (eg_op (vr (i := 5)) (ed_int 1) (rg_i (g := fun i j => i + j)))).is (by
      rw [decide_eq_true (by omega)]
      rfl))) ?_
  refine sx_ret ((ed_andV (a := true) (b := true) (ep_opP (P2 := fun y => y = dd (.int 1)) (ep_call (n, g, t) (ea1 (vr (i := 2))) ⟨hok.ot, hok.few⟩) (EG.ep (ed_int 1) rfl) fun x y ⟨k, e1, h1⟩ e2 => ⟨_, by
      rw [e1, e2]
      exact rg_b (g := fun i j => decide (j ≤ i)), by
      rw [decide_eq_true (by omega)]⟩).eg fun _ => (ep_opP (P2 := fun y => y = dd (.int (L : Nat))) (ep_call (n, g, t, Lt.tower t) (ea2 (vr (i := 2)) (vr (i := 4))) hdeedP) (EG.ep (vr (i := 5)) rfl) fun x y ⟨M, e1, D, hD, hM⟩ e2 => ⟨_, by
      rw [e1, e2]
      exact rg_b (g := fun i j => decide (j ≤ i)), by
      have := E.deed hok hD
      rw [decide_eq_true (by omega)]⟩).eg).is rfl)
end Lw
set_option Elab.async false
set_option linter.all false
set_option maxRecDepth 100000
set_option maxHeartbeats 4000000
/-! all defs, chained; the law at the head's end -/
namespace Lw
open PySem PySem.Spec PyProof.Rows L2
open LamX (ExtN Tabs TabS CodeO TabB)
theorem raw_of {K : PySem.W.Frag} {h : Heap} {mg : Str → Option Value} {x : Str} {st : Stmt} {f : Addr} {od an : Option Addr} {sl : Array (Option Value)} {oc kV dc pm cd ct : Value} (X : K.In h) (G : h.Ns mainGlobals mg) (a : PySem.W.nsIn K mainGlobals x = some (some (.ref f))) (l : K.lookup f = some ⟨oc, od, .func (PySem.W.fnOf x x (defArgs st) (defBody st) (defScope st) .none kV dc pm an cd ct), sl⟩) (c : PySem.W.codeIn K cd x = true) (k : PySem.W.keepIn K (.ref f) = true) : Raw mg K x st := ⟨f, _, PySem.W.mg_of X G a, fun_mk (st := st) l c k⟩
theorem rawC_of {K : PySem.W.Frag} {h : Heap} {mg : Str → Option Value} {x : Str} {st : Stmt} {f : Addr} {od an : Option Addr} {sl : Array (Option Value)} {oc kV dc pm ct : Value} {cc : Addr} (X : K.In h) (G : h.Ns mainGlobals mg) (a : PySem.W.nsIn K mainGlobals x = some (some (.ref f))) (l : K.lookup f = some ⟨oc, od, .func (PySem.W.fnOf x x (defArgs st) (defBody st) (defScope st) .none kV dc pm an (.ref cc) ct), sl⟩) (c : PySem.W.codeIn K (.ref cc) x = true) (k : PySem.W.keepIn K (.ref f) = true) : RawC mg K x st cc := ⟨f, _, PySem.W.mg_of X G a, ⟨⟨_, _, _, _, _, _, _, _, rfl, l, c⟩, k⟩⟩
theorem cst_of {K : PySem.W.Frag} {h : Heap} {mg : Str → Option Value} {x : Str} {v : Value} {n : Int} (X : K.In h) (G : h.Ns mainGlobals mg) (a : PySem.W.nsIn K mainGlobals x = some (some v)) (e : ∃ t, v = .int n t) : ∃ t, mg x = some (.int n t) := by
  obtain ⟨t, rfl⟩ := e
  exact ⟨t, PySem.W.mg_of X G a⟩
abbrev kOf {K : PySem.W.Frag} {h : Heap} (_ : K.In h) : PySem.W.Frag := K
def tabs2 (pA pB : Addr) : List (Addr × Str) := [(pA, ("spread.<locals>." ++ "<lambda>" : Str)), (pB, ("easiest_order.<locals>." ++ "<lambda>" : Str))]
section
variable {P : Program} {w : World} {K : PySem.W.Frag} {mg : Str → Option Value} {base : Heap}
theorem law_all {c_spread p_spread c_easiest_order p_easiest_order f0 : Addr} {fd0 : FuncData} (B : Bts mg) (C : Csts mg) (R_whole : Raw mg K "whole" (topS 12)) (R_within : Raw mg K "within" (topS 13)) (R_tuple_of : Raw mg K "tuple_of" (topS 14)) (R_is_row : Raw mg K "is_row" (topS 15)) (R_bad_row : Raw mg K "bad_row" (topS 16)) (R_need_table : Raw mg K "need_table" (topS 17)) (R_need_person : Raw mg K "need_person" (topS 18)) (R_is_order : Raw mg K "is_order" (topS 19)) (R_need_order : Raw mg K "need_order" (topS 20)) (R_need_like : Raw mg K "need_like" (topS 21)) (R_is_over_row : Raw mg K "is_over_row" (topS 23)) (R_are_at_odds : Raw mg K "are_at_odds" (topS 24)) (R_odds_of : Raw mg K "odds_of" (topS 25)) (R_need_two : Raw mg K "need_two" (topS 26)) (R_at_odds : Raw mg K "at_odds" (topS 27)) (R_count_at_odds : Raw mg K "count_at_odds" (topS 28)) (R_is_tower : Raw mg K "is_tower" (topS 29)) (R_tops : Raw mg K "tops" (topS 30)) (R_bottoms : Raw mg K "bottoms" (topS 31)) (R_all_lots : Raw mg K "all_lots" (topS 32)) (R_crowd_of : Raw mg K "crowd_of" (topS 35)) (R_crowd : Raw mg K "crowd" (topS 36)) (R_laid : Raw mg K "laid" (topS 37)) (R_tower_of : Raw mg K "tower_of" (topS 39)) (R_tower : Raw mg K "tower" (topS 40)) (R_ordered : Raw mg K "ordered" (topS 49)) (R_lay : Raw mg K "lay" (topS 47)) (R_in_order : Raw mg K "in_order" (topS 48)) (R_best_row : Raw mg K "best_row" (topS 54)) (R_helpers_of : Raw mg K "helpers_of" (topS 53)) (R_lays_to_top : Raw mg K "lays_to_top" (topS 52)) (R_lays_to_bottom : Raw mg K "lays_to_bottom" (topS 55)) (R_moved : Raw mg K "moved" (topS 59)) (R_to_order : Raw mg K "to_order" (topS 60)) (R_all_orders : Raw mg K "all_orders" (topS 61)) (R_cheapest_order : Raw mg K "cheapest_order" (topS 62)) (R_spread_lays : Raw mg K "spread_lays" (topS 50)) (R_least_lays : Raw mg K "least_lays" (topS 51)) (R_count_orders_met : Raw mg K "count_orders_met" (topS 57)) (R_easiest_order : RawC mg K "easiest_order" (topS 56) c_easiest_order) (R_nexts_of : Raw mg K "nexts_of" (topS 38)) (R_spread : RawC mg K "spread" (topS 41) c_spread) (R_least_deeds : Raw mg K "least_deeds" (topS 42)) (R_most_deeds : Raw mg K "most_deeds" (topS 43)) (R_way : Raw mg K "way" (topS 44)) (R_law_taken : Raw mg K "_law_taken" (topS 64)) (R_law_table : Raw mg K "_law_table" (topS 66)) (R_law_pick : Raw mg K "_law_pick" (topS 65)) (R_law_order : Raw mg K "_law_order" (topS 67)) (TA : TabB base mg c_spread p_spread) (TE : TabB base mg c_easiest_order p_easiest_order) (hne : p_spread ≠ p_easiest_order) (F0 : Fun K "law" "law" (topS 68) f0 fd0) : FnOk P w K mg base CX0 10 f0 fd0 ["_law_script"] (sp_law (tabs2 p_spread p_easiest_order) K) := by
  have mA : (p_spread, ("spread.<locals>." ++ "<lambda>" : Str)) ∈ tabs2 p_spread p_easiest_order := List.mem_cons_self
  have mE : (p_easiest_order, ("easiest_order.<locals>." ++ "<lambda>" : Str)) ∈ tabs2 p_spread p_easiest_order := List.mem_cons_of_mem _ List.mem_cons_self
  have uA : ∀ q ∈ tabs2 p_spread p_easiest_order, q.1 = p_spread → q.2 = ("spread.<locals>." ++ "<lambda>" : Str) := fun q hq e => by
    rcases List.mem_cons.mp hq with z | z
    · rw [z]
    · rw [List.mem_singleton.mp z] at e
      exact absurd e.symm hne
  have uE : ∀ q ∈ tabs2 p_spread p_easiest_order, q.1 = p_easiest_order → q.2 = ("easiest_order.<locals>." ++ "<lambda>" : Str) := fun q hq e => by
    rcases List.mem_cons.mp hq with z | z
    · rw [z] at e
      exact absurd e hne
    · rw [List.mem_singleton.mp z]
  have D_whole := d_whole (P := P) (w := w) (base := base) (T := tabs2 p_spread p_easiest_order) B C  R_whole
  have D_within := d_within (P := P) (w := w) (base := base) (T := tabs2 p_spread p_easiest_order) B C D_whole R_within
  have D_tuple_of := d_tuple_of (P := P) (w := w) (base := base) (T := tabs2 p_spread p_easiest_order) B C  R_tuple_of
  have D_is_row := d_is_row (P := P) (w := w) (base := base) (T := tabs2 p_spread p_easiest_order) B C D_tuple_of D_within R_is_row
  have D_bad_row := d_bad_row (P := P) (w := w) (base := base) (T := tabs2 p_spread p_easiest_order) B C D_is_row D_tuple_of R_bad_row
  have D_need_table := d_need_table (P := P) (w := w) (base := base) (T := tabs2 p_spread p_easiest_order) B C D_bad_row D_tuple_of R_need_table
  have D_need_person := d_need_person (P := P) (w := w) (base := base) (T := tabs2 p_spread p_easiest_order) B C D_within R_need_person
  have D_is_order := d_is_order (P := P) (w := w) (base := base) (T := tabs2 p_spread p_easiest_order) B C D_tuple_of D_whole R_is_order
  have D_need_order := d_need_order (P := P) (w := w) (base := base) (T := tabs2 p_spread p_easiest_order) B C D_is_order R_need_order
  have D_need_like := d_need_like (P := P) (w := w) (base := base) (T := tabs2 p_spread p_easiest_order) B C D_need_table R_need_like
  have D_is_over_row := d_is_over_row (P := P) (w := w) (base := base) (T := tabs2 p_spread p_easiest_order) B C  R_is_over_row
  have D_are_at_odds := d_are_at_odds (P := P) (w := w) (base := base) (T := tabs2 p_spread p_easiest_order) B C D_is_over_row R_are_at_odds
  have D_odds_of := d_odds_of (P := P) (w := w) (base := base) (T := tabs2 p_spread p_easiest_order) B C D_are_at_odds R_odds_of
  have D_need_two := d_need_two (P := P) (w := w) (base := base) (T := tabs2 p_spread p_easiest_order) B C D_need_person D_need_table R_need_two
  have D_at_odds := d_at_odds (P := P) (w := w) (base := base) (T := tabs2 p_spread p_easiest_order) B C D_need_table D_odds_of R_at_odds
  have D_count_at_odds := d_count_at_odds (P := P) (w := w) (base := base) (T := tabs2 p_spread p_easiest_order) B C D_need_table D_odds_of R_count_at_odds
  have D_is_tower := d_is_tower (P := P) (w := w) (base := base) (T := tabs2 p_spread p_easiest_order) B C D_need_table D_odds_of R_is_tower
  have D_tops := d_tops (P := P) (w := w) (base := base) (T := tabs2 p_spread p_easiest_order) B C D_is_over_row D_need_table R_tops
  have D_bottoms := d_bottoms (P := P) (w := w) (base := base) (T := tabs2 p_spread p_easiest_order) B C D_is_over_row D_need_table R_bottoms
  have D_all_lots := d_all_lots (P := P) (w := w) (base := base) (T := tabs2 p_spread p_easiest_order) B C  R_all_lots
  have D_crowd_of := d_crowd_of (P := P) (w := w) (base := base) (T := tabs2 p_spread p_easiest_order) B C  R_crowd_of
  have D_crowd := d_crowd (P := P) (w := w) (base := base) (T := tabs2 p_spread p_easiest_order) B C D_crowd_of D_need_table R_crowd
  have D_laid := d_laid (P := P) (w := w) (base := base) (T := tabs2 p_spread p_easiest_order) B C  R_laid
  have D_tower_of := d_tower_of (P := P) (w := w) (base := base) (T := tabs2 p_spread p_easiest_order) B C  R_tower_of
  have D_tower := d_tower (P := P) (w := w) (base := base) (T := tabs2 p_spread p_easiest_order) B C D_need_table D_tower_of R_tower
  have D_ordered := d_ordered (P := P) (w := w) (base := base) (T := tabs2 p_spread p_easiest_order) B C  R_ordered
  have D_lay := d_lay (P := P) (w := w) (base := base) (T := tabs2 p_spread p_easiest_order) B C D_laid D_need_two R_lay
  have D_in_order := d_in_order (P := P) (w := w) (base := base) (T := tabs2 p_spread p_easiest_order) B C D_need_order D_need_table D_ordered D_tower_of R_in_order
  have D_best_row := d_best_row (P := P) (w := w) (base := base) (T := tabs2 p_spread p_easiest_order) B C  R_best_row
  have D_helpers_of := d_helpers_of (P := P) (w := w) (base := base) (T := tabs2 p_spread p_easiest_order) B C D_all_lots D_best_row D_tower_of R_helpers_of
  have D_lays_to_top := d_lays_to_top (P := P) (w := w) (base := base) (T := tabs2 p_spread p_easiest_order) B C D_helpers_of D_need_person D_need_table R_lays_to_top
  have D_lays_to_bottom := d_lays_to_bottom (P := P) (w := w) (base := base) (T := tabs2 p_spread p_easiest_order) B C D_helpers_of D_need_person D_need_table R_lays_to_bottom
  have D_moved := d_moved (P := P) (w := w) (base := base) (T := tabs2 p_spread p_easiest_order) B C D_need_like R_moved
  have D_to_order := d_to_order (P := P) (w := w) (base := base) (T := tabs2 p_spread p_easiest_order) B C D_is_order D_moved D_need_table D_ordered D_tower_of R_to_order
  have D_all_orders := d_all_orders (P := P) (w := w) (base := base) (T := tabs2 p_spread p_easiest_order) B C  R_all_orders
  have D_cheapest_order := d_cheapest_order (P := P) (w := w) (base := base) (T := tabs2 p_spread p_easiest_order) B C D_all_orders D_need_table D_to_order R_cheapest_order
  have D_spread_lays := d_spread_lays (P := P) (w := w) (base := base) (T := tabs2 p_spread p_easiest_order) B C D_laid R_spread_lays
  have D_least_lays := d_least_lays (P := P) (w := w) (base := base) (T := tabs2 p_spread p_easiest_order) B C D_need_order D_need_table D_ordered D_spread_lays D_tower_of R_least_lays
  have D_count_orders_met := d_count_orders_met (P := P) (w := w) (base := base) (T := tabs2 p_spread p_easiest_order) B C D_need_table D_spread_lays D_tower_of R_count_orders_met
  have D_easiest_order := d_easiest_order (P := P) (w := w) (base := base) (T := tabs2 p_spread p_easiest_order) B C D_need_table D_spread_lays D_tower_of TE mE uE R_easiest_order
  have D_nexts_of := d_nexts_of (P := P) (w := w) (base := base) (T := tabs2 p_spread p_easiest_order) B C D_crowd_of D_laid D_odds_of R_nexts_of
  have D_spread := d_spread (P := P) (w := w) (base := base) (T := tabs2 p_spread p_easiest_order) B C D_crowd_of D_nexts_of D_odds_of TA mA uA R_spread
  have D_least_deeds := d_least_deeds (P := P) (w := w) (base := base) (T := tabs2 p_spread p_easiest_order) B C D_crowd_of D_need_like D_spread R_least_deeds
  have D_most_deeds := d_most_deeds (P := P) (w := w) (base := base) (T := tabs2 p_spread p_easiest_order) B C D_crowd_of D_need_like D_spread R_most_deeds
  have D_way := d_way (P := P) (w := w) (base := base) (T := tabs2 p_spread p_easiest_order) B C D_crowd_of D_need_like D_nexts_of D_spread R_way
  have D_law_taken := d_law_taken (P := P) (w := w) (base := base) (T := tabs2 p_spread p_easiest_order) B C  R_law_taken
  have D_law_table := d_law_table (P := P) (w := w) (base := base) (T := tabs2 p_spread p_easiest_order) B C D_law_taken R_law_table
  have D_law_pick := d_law_pick (P := P) (w := w) (base := base) (T := tabs2 p_spread p_easiest_order) B C D_law_taken R_law_pick
  have D_law_order := d_law_order (P := P) (w := w) (base := base) (T := tabs2 p_spread p_easiest_order) B C D_law_taken R_law_order
  exact d_law (T := tabs2 p_spread p_easiest_order) B C D_at_odds D_bottoms D_cheapest_order D_count_at_odds D_count_orders_met D_crowd D_easiest_order D_in_order D_is_tower D_law_order D_law_pick D_law_table D_lay D_lays_to_bottom D_lays_to_top D_least_deeds D_least_lays D_most_deeds D_moved D_to_order D_tops D_tower D_way F0
end
theorem law_at {l : PySem.W.OpenLaw} {w : World} {K : PySem.W.Frag} {h : Heap} {mg : Str → Option Value} {fa : Addr} {c_spread p_spread c_easiest_order p_easiest_order : Addr} (X : K.In h) (hfa : mg "law" = some (.ref fa)) (B : Bts mg) (C : Csts mg) (R_whole : Raw mg K "whole" (topS 12)) (R_within : Raw mg K "within" (topS 13)) (R_tuple_of : Raw mg K "tuple_of" (topS 14)) (R_is_row : Raw mg K "is_row" (topS 15)) (R_bad_row : Raw mg K "bad_row" (topS 16)) (R_need_table : Raw mg K "need_table" (topS 17)) (R_need_person : Raw mg K "need_person" (topS 18)) (R_is_order : Raw mg K "is_order" (topS 19)) (R_need_order : Raw mg K "need_order" (topS 20)) (R_need_like : Raw mg K "need_like" (topS 21)) (R_is_over_row : Raw mg K "is_over_row" (topS 23)) (R_are_at_odds : Raw mg K "are_at_odds" (topS 24)) (R_odds_of : Raw mg K "odds_of" (topS 25)) (R_need_two : Raw mg K "need_two" (topS 26)) (R_at_odds : Raw mg K "at_odds" (topS 27)) (R_count_at_odds : Raw mg K "count_at_odds" (topS 28)) (R_is_tower : Raw mg K "is_tower" (topS 29)) (R_tops : Raw mg K "tops" (topS 30)) (R_bottoms : Raw mg K "bottoms" (topS 31)) (R_all_lots : Raw mg K "all_lots" (topS 32)) (R_crowd_of : Raw mg K "crowd_of" (topS 35)) (R_crowd : Raw mg K "crowd" (topS 36)) (R_laid : Raw mg K "laid" (topS 37)) (R_tower_of : Raw mg K "tower_of" (topS 39)) (R_tower : Raw mg K "tower" (topS 40)) (R_ordered : Raw mg K "ordered" (topS 49)) (R_lay : Raw mg K "lay" (topS 47)) (R_in_order : Raw mg K "in_order" (topS 48)) (R_best_row : Raw mg K "best_row" (topS 54)) (R_helpers_of : Raw mg K "helpers_of" (topS 53)) (R_lays_to_top : Raw mg K "lays_to_top" (topS 52)) (R_lays_to_bottom : Raw mg K "lays_to_bottom" (topS 55)) (R_moved : Raw mg K "moved" (topS 59)) (R_to_order : Raw mg K "to_order" (topS 60)) (R_all_orders : Raw mg K "all_orders" (topS 61)) (R_cheapest_order : Raw mg K "cheapest_order" (topS 62)) (R_spread_lays : Raw mg K "spread_lays" (topS 50)) (R_least_lays : Raw mg K "least_lays" (topS 51)) (R_count_orders_met : Raw mg K "count_orders_met" (topS 57)) (R_easiest_order : RawC mg K "easiest_order" (topS 56) c_easiest_order) (R_nexts_of : Raw mg K "nexts_of" (topS 38)) (R_spread : RawC mg K "spread" (topS 41) c_spread) (R_least_deeds : Raw mg K "least_deeds" (topS 42)) (R_most_deeds : Raw mg K "most_deeds" (topS 43)) (R_way : Raw mg K "way" (topS 44)) (R_law_taken : Raw mg K "_law_taken" (topS 64)) (R_law_table : Raw mg K "_law_table" (topS 66)) (R_law_pick : Raw mg K "_law_pick" (topS 65)) (R_law_order : Raw mg K "_law_order" (topS 67)) (Rl : Raw mg K "law" (topS 68)) (hne : p_spread ≠ p_easiest_order)
    (t1 : h.get? p_spread = some { cls := .none, data := .fields #[] }) (t2 : h.get? p_easiest_order = some { cls := .none, data := .fields #[] }) (n1 : K.lookup p_spread = none) (n2 : K.lookup p_easiest_order = none) (h1 : PySem.W.codeHdIn K c_spread p_spread = true) (h2 : PySem.W.codeHdIn K c_easiest_order p_easiest_order = true) :
    LamX.LawAtS l w K CX0 10 63 "_law_script" mg fa h := by
  obtain ⟨f, fd, hm, F⟩ := Rl
  have e := hfa.symm.trans hm
  cases e
  have F0 := F
  obtain ⟨oc, od, kV, doc, pm, an, cdv, ct, osl, e, lk, hcd⟩ := F.ex
  subst e
  have two : ∀ {p : Addr × Addr} {Q : Addr × Addr → Prop}, Q (c_spread, p_spread) → Q (c_easiest_order, p_easiest_order) → p ∈ [(c_spread, p_spread), (c_easiest_order, p_easiest_order)] → Q p := fun {p Q} a b hp => by
    rcases List.mem_cons.mp hp with z | z
    · rw [z]; exact a
    · rw [List.mem_singleton.mp z]; exact b
  refine ⟨_, [(c_spread, p_spread), (c_easiest_order, p_easiest_order)], sp_law (tabs2 p_spread p_easiest_order) K, fun p hp => two (Q := fun p => h.get? p.2 = some { cls := .none, data := .fields #[] }) t1 t2 hp, fun p hp => two (Q := fun p => K.lookup p.2 = none) n1 n2 hp, fun p hp => two (Q := fun p => PySem.W.CodeHd h p.1 p.2) (PySem.W.codeHd_of_K X h1) (PySem.W.codeHd_of_K X h2) hp, fun s v => .of_eq rfl, fun H a ns _ _ hT hS => ⟨a, ns, rfl, hS, ?_, fun _ => rfl⟩, fun base _ _ hTB => law_all B C R_whole R_within R_tuple_of R_is_row R_bad_row R_need_table R_need_person R_is_order R_need_order R_need_like R_is_over_row R_are_at_odds R_odds_of R_need_two R_at_odds R_count_at_odds R_is_tower R_tops R_bottoms R_all_lots R_crowd_of R_crowd R_laid R_tower_of R_tower R_ordered R_lay R_in_order R_best_row R_helpers_of R_lays_to_top R_lays_to_bottom R_moved R_to_order R_all_orders R_cheapest_order R_spread_lays R_least_lays R_count_orders_met R_easiest_order R_nexts_of R_spread R_least_deeds R_most_deeds R_way R_law_taken R_law_table R_law_pick R_law_order (hTB _ List.mem_cons_self) (hTB _ (List.mem_cons_of_mem _ List.mem_cons_self)) hne F0⟩
  have tb : ∀ {q : Str} {pp : Addr}, H pp = some (.tbl #[]) → TabS H pp q := fun e => ⟨#[], e, True.intro, fun pos cv z => by cases z⟩
  intro p hp
  rcases List.mem_cons.mp hp with z | z
  · rw [z]
    exact tb (hT (c_spread, p_spread) List.mem_cons_self)
  · rw [List.mem_singleton.mp z]
    exact tb (hT (c_easiest_order, p_easiest_order) (List.mem_cons_of_mem _ List.mem_cons_self))
end Lw
open PySem PySem.W PyProof.Rows
set_option maxHeartbeats 0 in
theorem PySem.Challenge.cw_laytogether_k85_across_easiest_orders_holds : PySem.Challenge.rw_laytogether_k85_across_easiest_orders.Holds := by
  w_on; o_law; k_head; (case hw => w_witness2)
  k_fill
  refine LamX.walk_ofTs (l := PySem.Challenge.rw_laytogether_k85_across_easiest_orders) (n := 63) (k := 10) (x := "_law_script") (CX := fun _ => L2.CX0) rfl (by decide) rfl ⟨rfl, by decide, by decide⟩ (fun w h Y => PySem.W.km_in_of Y) ?F (fun _ _ _ _ _ h => h)
  case F =>
    intro w mg fa h Y KX G hmg
    have hT := PySem.W.km_tabs_of Y
    clear Y
    refine' Lw.law_at (p_spread := 277) (p_easiest_order := 362) KX hmg ⟨PySem.W.mg_none_of KX G ?z_isinstance, PySem.W.mg_none_of KX G ?z_len, PySem.W.mg_none_of KX G ?z_all, PySem.W.mg_none_of KX G ?z_enumerate, PySem.W.mg_none_of KX G ?z_sorted, PySem.W.mg_none_of KX G ?z_list, PySem.W.mg_none_of KX G ?z_range, PySem.W.mg_none_of KX G ?z_zip, PySem.W.mg_none_of KX G ?z_tuple, PySem.W.mg_none_of KX G ?z_max, PySem.W.mg_none_of KX G ?z_min, PySem.W.mg_none_of KX G ?z_sum, PySem.W.mg_none_of KX G ?z_abs, PySem.W.mg_none_of KX G ?z_int, PySem.W.mg_none_of KX G ?z_bool⟩ ⟨(Lw.cst_of KX G ?y_people ?e_people), (Lw.cst_of KX G ?y_goods ?e_goods), (Lw.cst_of KX G ?y_heap ?e_heap), (Lw.cst_of KX G ?y_crowds ?e_crowds), (Lw.cst_of KX G ?y_lays ?e_lays)⟩ (Lw.raw_of KX G ?a_whole ?l_whole ?c_whole ?k_whole) (Lw.raw_of KX G ?a_within ?l_within ?c_within ?k_within) (Lw.raw_of KX G ?a_tuple_of ?l_tuple_of ?c_tuple_of ?k_tuple_of) (Lw.raw_of KX G ?a_is_row ?l_is_row ?c_is_row ?k_is_row) (Lw.raw_of KX G ?a_bad_row ?l_bad_row ?c_bad_row ?k_bad_row) (Lw.raw_of KX G ?a_need_table ?l_need_table ?c_need_table ?k_need_table) (Lw.raw_of KX G ?a_need_person ?l_need_person ?c_need_person ?k_need_person) (Lw.raw_of KX G ?a_is_order ?l_is_order ?c_is_order ?k_is_order) (Lw.raw_of KX G ?a_need_order ?l_need_order ?c_need_order ?k_need_order) (Lw.raw_of KX G ?a_need_like ?l_need_like ?c_need_like ?k_need_like) (Lw.raw_of KX G ?a_is_over_row ?l_is_over_row ?c_is_over_row ?k_is_over_row) (Lw.raw_of KX G ?a_are_at_odds ?l_are_at_odds ?c_are_at_odds ?k_are_at_odds) (Lw.raw_of KX G ?a_odds_of ?l_odds_of ?c_odds_of ?k_odds_of) (Lw.raw_of KX G ?a_need_two ?l_need_two ?c_need_two ?k_need_two) (Lw.raw_of KX G ?a_at_odds ?l_at_odds ?c_at_odds ?k_at_odds) (Lw.raw_of KX G ?a_count_at_odds ?l_count_at_odds ?c_count_at_odds ?k_count_at_odds) (Lw.raw_of KX G ?a_is_tower ?l_is_tower ?c_is_tower ?k_is_tower) (Lw.raw_of KX G ?a_tops ?l_tops ?c_tops ?k_tops) (Lw.raw_of KX G ?a_bottoms ?l_bottoms ?c_bottoms ?k_bottoms) (Lw.raw_of KX G ?a_all_lots ?l_all_lots ?c_all_lots ?k_all_lots) (Lw.raw_of KX G ?a_crowd_of ?l_crowd_of ?c_crowd_of ?k_crowd_of) (Lw.raw_of KX G ?a_crowd ?l_crowd ?c_crowd ?k_crowd) (Lw.raw_of KX G ?a_laid ?l_laid ?c_laid ?k_laid) (Lw.raw_of KX G ?a_tower_of ?l_tower_of ?c_tower_of ?k_tower_of) (Lw.raw_of KX G ?a_tower ?l_tower ?c_tower ?k_tower) (Lw.raw_of KX G ?a_ordered ?l_ordered ?c_ordered ?k_ordered) (Lw.raw_of KX G ?a_lay ?l_lay ?c_lay ?k_lay) (Lw.raw_of KX G ?a_in_order ?l_in_order ?c_in_order ?k_in_order) (Lw.raw_of KX G ?a_best_row ?l_best_row ?c_best_row ?k_best_row) (Lw.raw_of KX G ?a_helpers_of ?l_helpers_of ?c_helpers_of ?k_helpers_of) (Lw.raw_of KX G ?a_lays_to_top ?l_lays_to_top ?c_lays_to_top ?k_lays_to_top) (Lw.raw_of KX G ?a_lays_to_bottom ?l_lays_to_bottom ?c_lays_to_bottom ?k_lays_to_bottom) (Lw.raw_of KX G ?a_moved ?l_moved ?c_moved ?k_moved) (Lw.raw_of KX G ?a_to_order ?l_to_order ?c_to_order ?k_to_order) (Lw.raw_of KX G ?a_all_orders ?l_all_orders ?c_all_orders ?k_all_orders) (Lw.raw_of KX G ?a_cheapest_order ?l_cheapest_order ?c_cheapest_order ?k_cheapest_order) (Lw.raw_of KX G ?a_spread_lays ?l_spread_lays ?c_spread_lays ?k_spread_lays) (Lw.raw_of KX G ?a_least_lays ?l_least_lays ?c_least_lays ?k_least_lays) (Lw.raw_of KX G ?a_count_orders_met ?l_count_orders_met ?c_count_orders_met ?k_count_orders_met) (Lw.rawC_of KX G ?a_easiest_order ?l_easiest_order ?c_easiest_order ?k_easiest_order) (Lw.raw_of KX G ?a_nexts_of ?l_nexts_of ?c_nexts_of ?k_nexts_of) (Lw.rawC_of KX G ?a_spread ?l_spread ?c_spread ?k_spread) (Lw.raw_of KX G ?a_least_deeds ?l_least_deeds ?c_least_deeds ?k_least_deeds) (Lw.raw_of KX G ?a_most_deeds ?l_most_deeds ?c_most_deeds ?k_most_deeds) (Lw.raw_of KX G ?a_way ?l_way ?c_way ?k_way) (Lw.raw_of KX G ?a_law_taken ?l_law_taken ?c_law_taken ?k_law_taken) (Lw.raw_of KX G ?a_law_table ?l_law_table ?c_law_table ?k_law_table) (Lw.raw_of KX G ?a_law_pick ?l_law_pick ?c_law_pick ?k_law_pick) (Lw.raw_of KX G ?a_law_order ?l_law_order ?c_law_order ?k_law_order) (Lw.raw_of KX G ?a_law ?l_law ?c_law ?k_law) (by decide) (hT _ ?t1) (hT _ ?t2) ?n1 ?n2 ?h1 ?h2
    (case a_whole => k_is); (case l_whole => k_is); (case c_whole => k_is); (case k_whole => k_is)
    (case a_within => k_is); (case l_within => k_is); (case c_within => k_is); (case k_within => k_is)
    (case a_tuple_of => k_is); (case l_tuple_of => k_is); (case c_tuple_of => k_is); (case k_tuple_of => k_is)
    (case a_is_row => k_is); (case l_is_row => k_is); (case c_is_row => k_is); (case k_is_row => k_is)
    (case a_bad_row => k_is); (case l_bad_row => k_is); (case c_bad_row => k_is); (case k_bad_row => k_is)
    (case a_need_table => k_is); (case l_need_table => k_is); (case c_need_table => k_is); (case k_need_table => k_is)
    (case a_need_person => k_is); (case l_need_person => k_is); (case c_need_person => k_is); (case k_need_person => k_is)
    (case a_is_order => k_is); (case l_is_order => k_is); (case c_is_order => k_is); (case k_is_order => k_is)
    (case a_need_order => k_is); (case l_need_order => k_is); (case c_need_order => k_is); (case k_need_order => k_is)
    (case a_need_like => k_is); (case l_need_like => k_is); (case c_need_like => k_is); (case k_need_like => k_is)
    (case a_is_over_row => k_is); (case l_is_over_row => k_is); (case c_is_over_row => k_is); (case k_is_over_row => k_is)
    (case a_are_at_odds => k_is); (case l_are_at_odds => k_is); (case c_are_at_odds => k_is); (case k_are_at_odds => k_is)
    (case a_odds_of => k_is); (case l_odds_of => k_is); (case c_odds_of => k_is); (case k_odds_of => k_is)
    (case a_need_two => k_is); (case l_need_two => k_is); (case c_need_two => k_is); (case k_need_two => k_is)
    (case a_at_odds => k_is); (case l_at_odds => k_is); (case c_at_odds => k_is); (case k_at_odds => k_is)
    (case a_count_at_odds => k_is); (case l_count_at_odds => k_is); (case c_count_at_odds => k_is); (case k_count_at_odds => k_is)
    (case a_is_tower => k_is); (case l_is_tower => k_is); (case c_is_tower => k_is); (case k_is_tower => k_is)
    (case a_tops => k_is); (case l_tops => k_is); (case c_tops => k_is); (case k_tops => k_is)
    (case a_bottoms => k_is); (case l_bottoms => k_is); (case c_bottoms => k_is); (case k_bottoms => k_is)
    (case a_all_lots => k_is); (case l_all_lots => k_is); (case c_all_lots => k_is); (case k_all_lots => k_is)
    (case a_crowd_of => k_is); (case l_crowd_of => k_is); (case c_crowd_of => k_is); (case k_crowd_of => k_is)
    (case a_crowd => k_is); (case l_crowd => k_is); (case c_crowd => k_is); (case k_crowd => k_is)
    (case a_laid => k_is); (case l_laid => k_is); (case c_laid => k_is); (case k_laid => k_is)
    (case a_tower_of => k_is); (case l_tower_of => k_is); (case c_tower_of => k_is); (case k_tower_of => k_is)
    (case a_tower => k_is); (case l_tower => k_is); (case c_tower => k_is); (case k_tower => k_is)
    (case a_ordered => k_is); (case l_ordered => k_is); (case c_ordered => k_is); (case k_ordered => k_is)
    (case a_lay => k_is); (case l_lay => k_is); (case c_lay => k_is); (case k_lay => k_is)
    (case a_in_order => k_is); (case l_in_order => k_is); (case c_in_order => k_is); (case k_in_order => k_is)
    (case a_best_row => k_is); (case l_best_row => k_is); (case c_best_row => k_is); (case k_best_row => k_is)
    (case a_helpers_of => k_is); (case l_helpers_of => k_is); (case c_helpers_of => k_is); (case k_helpers_of => k_is)
    (case a_lays_to_top => k_is); (case l_lays_to_top => k_is); (case c_lays_to_top => k_is); (case k_lays_to_top => k_is)
    (case a_lays_to_bottom => k_is); (case l_lays_to_bottom => k_is); (case c_lays_to_bottom => k_is); (case k_lays_to_bottom => k_is)
    (case a_moved => k_is); (case l_moved => k_is); (case c_moved => k_is); (case k_moved => k_is)
    (case a_to_order => k_is); (case l_to_order => k_is); (case c_to_order => k_is); (case k_to_order => k_is)
    (case a_all_orders => k_is); (case l_all_orders => k_is); (case c_all_orders => k_is); (case k_all_orders => k_is)
    (case a_cheapest_order => k_is); (case l_cheapest_order => k_is); (case c_cheapest_order => k_is); (case k_cheapest_order => k_is)
    (case a_spread_lays => k_is); (case l_spread_lays => k_is); (case c_spread_lays => k_is); (case k_spread_lays => k_is)
    (case a_least_lays => k_is); (case l_least_lays => k_is); (case c_least_lays => k_is); (case k_least_lays => k_is)
    (case a_count_orders_met => k_is); (case l_count_orders_met => k_is); (case c_count_orders_met => k_is); (case k_count_orders_met => k_is)
    (case a_easiest_order => k_is); (case l_easiest_order => k_is); (case c_easiest_order => k_is); (case k_easiest_order => k_is)
    (case a_nexts_of => k_is); (case l_nexts_of => k_is); (case c_nexts_of => k_is); (case k_nexts_of => k_is)
    (case a_spread => k_is); (case l_spread => k_is); (case c_spread => k_is); (case k_spread => k_is)
    (case a_least_deeds => k_is); (case l_least_deeds => k_is); (case c_least_deeds => k_is); (case k_least_deeds => k_is)
    (case a_most_deeds => k_is); (case l_most_deeds => k_is); (case c_most_deeds => k_is); (case k_most_deeds => k_is)
    (case a_way => k_is); (case l_way => k_is); (case c_way => k_is); (case k_way => k_is)
    (case a_law_taken => k_is); (case l_law_taken => k_is); (case c_law_taken => k_is); (case k_law_taken => k_is)
    (case a_law_table => k_is); (case l_law_table => k_is); (case c_law_table => k_is); (case k_law_table => k_is)
    (case a_law_pick => k_is); (case l_law_pick => k_is); (case c_law_pick => k_is); (case k_law_pick => k_is)
    (case a_law_order => k_is); (case l_law_order => k_is); (case c_law_order => k_is); (case k_law_order => k_is)
    (case a_law => k_is); (case l_law => k_is); (case c_law => k_is); (case k_law => k_is)
    (case z_isinstance => k_is)
    (case z_len => k_is)
    (case z_all => k_is)
    (case z_enumerate => k_is)
    (case z_sorted => k_is)
    (case z_list => k_is)
    (case z_range => k_is)
    (case z_zip => k_is)
    (case z_tuple => k_is)
    (case z_max => k_is)
    (case z_min => k_is)
    (case z_sum => k_is)
    (case z_abs => k_is)
    (case z_int => k_is)
    (case z_bool => k_is)
    (case y_people => k_is); (case e_people => exact ⟨_, rfl⟩)
    (case y_goods => k_is); (case e_goods => exact ⟨_, rfl⟩)
    (case y_heap => k_is); (case e_heap => exact ⟨_, rfl⟩)
    (case y_crowds => k_is); (case e_crowds => exact ⟨_, rfl⟩)
    (case y_lays => k_is); (case e_lays => exact ⟨_, rfl⟩)
    (case t1 => simp); (case t2 => simp); (case n1 => kernel_rfl); (case n2 => kernel_rfl); (case h1 => kernel_rfl); (case h2 => kernel_rfl)
