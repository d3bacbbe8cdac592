import PyProof.Rows.All
import Wide.All
import OpenK.AllK
import Wide.FinOn
import HandS.ForMost
import HandS.IsInst
import HandS.TupAny
import HandS.TupMul
import HandS.Walk
import HandS.More
import HandS.DictTup
import KE.DataMinMax
import KE.KDictSum
import KE.GoesMore
import PyProof.TupleOfSeq
import KE.SortData
import PySem.Challenge.RW_nearhouses_k58_whole_two_sellers
set_option Elab.async false
set_option linter.all false
set_option autoImplicit false
set_option maxRecDepth 100000
set_option maxHeartbeats 4000000
namespace K58
abbrev Line := List (Int × Int)

/-! ### sums over a line -/
def sm (f : Int × Int → Int) (L : Line) : Int := (L.map f).sum
theorem sm_nil (f : Int × Int → Int) : sm f [] = 0 := rfl
theorem sm_cons (f : Int × Int → Int) (q : Int × Int) (L : Line) : sm f (q :: L) = f q + sm f L := by
  unfold sm
  rw [List.map_cons, List.sum_cons]
theorem sm_le {f g : Int × Int → Int} : ∀ {L : Line}, (∀ q, q ∈ L → f q ≤ g q) → sm f L ≤ sm g L
  | [], _ => Int.le_refl _
  | q :: L, h => by
    rw [sm_cons, sm_cons]
    have h1 := h q (List.mem_cons_self)
    have h2 := sm_le (f := f) (g := g) (L := L) fun r hr => h r (List.mem_cons_of_mem _ hr)
    omega
theorem sm_congr {f g : Int × Int → Int} {L : Line} (h : ∀ q, q ∈ L → f q = g q) : sm f L = sm g L :=
  Int.le_antisymm (sm_le fun q hq => Int.le_of_eq (h q hq)) (sm_le fun q hq => Int.le_of_eq (h q hq).symm)
theorem sm_add (f g : Int × Int → Int) : ∀ L : Line, sm (fun q => f q + g q) L = sm f L + sm g L
  | [] => rfl
  | q :: L => by
    rw [sm_cons, sm_cons, sm_cons, sm_add f g L]
    omega
theorem sm_mul (c : Int) (f : Int × Int → Int) : ∀ L : Line, sm (fun q => c * f q) L = c * sm f L
  | [] => by simp [sm_nil]
  | q :: L => by
    rw [sm_cons, sm_cons, sm_mul c f L, Int.mul_add]
theorem sm_nonneg {f : Int × Int → Int} {L : Line} (h : ∀ q, q ∈ L → 0 ≤ f q) : 0 ≤ sm f L := by
  have h1 := sm_le (f := fun q => 0 * f q) (g := f) (L := L) fun q hq => by
    have := h q hq
    omega
  rw [sm_mul] at h1
  omega
theorem sm_pos_ex {f : Int × Int → Int} : ∀ {L : Line}, 0 < sm f L → ∃ q, q ∈ L ∧ 0 < f q
  | [], h => by
    rw [sm_nil] at h
    omega
  | q :: L, h => by
    by_cases hq : 0 < f q
    · exact ⟨q, List.mem_cons_self, hq⟩
    · rw [sm_cons] at h
      obtain ⟨r, hr, h2⟩ := sm_pos_ex (f := f) (L := L) (by omega)
      exact ⟨r, List.mem_cons_of_mem _ hr, h2⟩

/-! ### what is reckoned -/
def dist (p x : Int) : Int := if p - x < 0 then -(p - x) else p - x
def gain (x y : Int) (q : Int × Int) : Int := if dist q.1 x < dist q.1 y then 2 * q.2 else if dist q.1 x = dist q.1 y then q.2 else 0
def gains (L : Line) (x y : Int) : Int := sm (gain x y) L
def wt (q : Int × Int) : Int := q.2
def whole (L : Line) : Int := sm wt L
def cost (L : Line) (x : Int) : Int := sm (fun q => q.2 * dist q.1 x) L
def below (x : Int) (q : Int × Int) : Int := if q.1 < x then q.2 else 0
def above (x : Int) (q : Int × Int) : Int := if x < q.1 then q.2 else 0
def med (L : Line) (x : Int) : Prop := 2 * sm (below x) L ≤ whole L ∧ 2 * sm (above x) L ≤ whole L

structure Valid (L : Line) : Prop where
  one : 1 ≤ L.length
  most : L.length ≤ 8
  bnd : ∀ q, q ∈ L → 0 ≤ q.1 ∧ q.1 ≤ 1000 ∧ 0 ≤ q.2 ∧ q.2 ≤ 100
  asc : L.Pairwise fun p q => p.1 < q.1
def pos (L : Line) (i : Nat) : Int := (L.getD i (0, 0)).1

/-! ### gains -/
theorem gain_two (x y : Int) (q : Int × Int) : gain x y q + gain y x q = 2 * q.2 := by
  unfold gain
  split
  · rename_i h
    rw [if_neg (by omega), if_neg (by omega)]
    omega
  · split
    · rename_i h1 h2
      rw [if_neg (by omega), if_pos h2.symm]
      omega
    · rename_i h1 h2
      rw [if_pos (by omega)]
      omega
theorem gains_two (L : Line) (x y : Int) : gains L x y + gains L y x = 2 * whole L := by
  unfold gains whole
  rw [← sm_add, ← sm_mul]
  exact sm_congr fun q _ => gain_two x y q
theorem gains_self (L : Line) (x : Int) : gains L x x = whole L := by
  have := gains_two L x x
  omega
theorem whole_nonneg {L : Line} (V : Valid L) : 0 ≤ whole L := sm_nonneg fun q hq => (V.bnd q hq).2.2.1
theorem gain_up {x y : Int} (hxy : x < y) {q : Int × Int} (hq : 0 ≤ q.2) : 2 * q.2 - 2 * above x q ≤ gain x y q := by
  unfold gain above dist
  split <;> split <;> split <;> split <;> (try split) <;> omega
theorem gain_down {x y : Int} (hxy : y < x) {q : Int × Int} (hq : 0 ≤ q.2) : 2 * q.2 - 2 * below x q ≤ gain x y q := by
  unfold gain below dist
  split <;> split <;> split <;> split <;> (try split) <;> omega
theorem gains_up {L : Line} (V : Valid L) {x y : Int} (hxy : x < y) : 2 * whole L - 2 * sm (above x) L ≤ gains L x y := by
  have h := sm_le (f := fun q => 2 * wt q + (-2) * above x q) (g := gain x y) (L := L) fun q hq => by
    have := gain_up hxy (V.bnd q hq).2.2.1
    unfold wt
    omega
  rw [sm_add, sm_mul, sm_mul] at h
  unfold gains whole
  omega
theorem gains_down {L : Line} (V : Valid L) {x y : Int} (hxy : y < x) : 2 * whole L - 2 * sm (below x) L ≤ gains L x y := by
  have h := sm_le (f := fun q => 2 * wt q + (-2) * below x q) (g := gain x y) (L := L) fun q hq => by
    have := gain_down hxy (V.bnd q hq).2.2.1
    unfold wt
    omega
  rw [sm_add, sm_mul, sm_mul] at h
  unfold gains whole
  omega
theorem med_gains {L : Line} (V : Valid L) {x : Int} (m : med L x) (y : Int) : whole L ≤ gains L x y := by
  obtain ⟨m1, m2⟩ := m
  rcases Int.lt_trichotomy x y with h | h | h
  · have := gains_up V h
    omega
  · subst h
    exact Int.le_of_eq (gains_self L x).symm
  · have := gains_down V h
    omega

/-! ### neighbours -/
theorem pos_eq {L : Line} {i : Nat} (h : i < L.length) : pos L i = L[i].1 := by
  unfold pos
  rw [List.getD_eq_getElem?_getD, List.getElem?_eq_getElem h]
  rfl
theorem pos_lt {L : Line} (V : Valid L) {i j : Nat} (hij : i < j) (hj : j < L.length) : pos L i < pos L j := by
  rw [pos_eq (Nat.lt_trans hij hj), pos_eq hj]
  exact List.pairwise_iff_getElem.mp V.asc i j (Nat.lt_trans hij hj) hj hij
theorem pos_le {L : Line} (V : Valid L) {i j : Nat} (hij : i ≤ j) (hj : j < L.length) : pos L i ≤ pos L j := by
  rcases Nat.lt_or_ge i j with h | h
  · exact Int.le_of_lt (pos_lt V h hj)
  · have e : i = j := by omega
    subst e
    exact Int.le_refl _
theorem mem_pos {L : Line} {q : Int × Int} (h : q ∈ L) : ∃ i, i < L.length ∧ pos L i = q.1 := by
  obtain ⟨i, hi, e⟩ := List.getElem_of_mem h
  exact ⟨i, hi, by rw [pos_eq hi, e]⟩
/-- no point stands between neighbours -/
theorem gap {L : Line} (V : Valid L) {a : Nat} (ha : a + 1 < L.length) {q : Int × Int} (h : q ∈ L) : q.1 ≤ pos L a ∨ pos L (a + 1) ≤ q.1 := by
  obtain ⟨i, hi, e⟩ := mem_pos h
  rcases Nat.lt_or_ge a i with h1 | h1
  · right
    rw [← e]
    exact pos_le V h1 hi
  · left
    rw [← e]
    exact pos_le V h1 (by omega)
theorem next_of {L : Line} (V : Valid L) {a : Nat} (ha : a < L.length) (h : 0 < sm (above (pos L a)) L) : a + 1 < L.length := by
  obtain ⟨q, hq, h2⟩ := sm_pos_ex h
  unfold above at h2
  split at h2
  · rename_i h3
    obtain ⟨i, hi, e⟩ := mem_pos hq
    rcases Nat.lt_or_ge a i with h4 | h4
    · omega
    · have := pos_le V h4 ha
      omega
  · omega
theorem prev_of {L : Line} (V : Valid L) {a : Nat} (ha : a < L.length) (h : 0 < sm (below (pos L a)) L) : 0 < a := by
  obtain ⟨q, hq, h2⟩ := sm_pos_ex h
  unfold below at h2
  split at h2
  · rename_i h3
    obtain ⟨i, hi, e⟩ := mem_pos hq
    rcases Nat.lt_or_ge i a with h4 | h4
    · omega
    · have := pos_le V h4 hi
      omega
  · omega
theorem below_next {L : Line} (V : Valid L) {a : Nat} (ha : a + 1 < L.length) : sm (below (pos L (a + 1))) L = whole L - sm (above (pos L a)) L := by
  have h : sm (fun q => below (pos L (a + 1)) q + above (pos L a) q) L = whole L := sm_congr fun q hq => by
    have g := gap V ha hq
    have l := pos_lt V (Nat.lt_add_one a) ha
    unfold below above wt
    split <;> split <;> omega
  rw [sm_add] at h
  omega
theorem above_prev {L : Line} (V : Valid L) {a : Nat} (ha : a + 1 < L.length) : sm (above (pos L a)) L = whole L - sm (below (pos L (a + 1))) L := by
  have := below_next V ha
  omega

/-! ### at rest -/
def rest (L : Line) (a b : Nat) : Prop :=
  (∀ c, c < L.length → gains L (pos L c) (pos L b) ≤ gains L (pos L a) (pos L b)) ∧ (∀ c, c < L.length → gains L (pos L c) (pos L a) ≤ gains L (pos L b) (pos L a))
theorem rest_eq {L : Line} {a b : Nat} (ha : a < L.length) (hb : b < L.length) (r : rest L a b) : gains L (pos L a) (pos L b) = whole L ∧ gains L (pos L b) (pos L a) = whole L := by
  have h1 := r.1 b hb
  have h2 := r.2 a ha
  rw [gains_self] at h1 h2
  have h3 := gains_two L (pos L a) (pos L b)
  omega
theorem rest_med {L : Line} (V : Valid L) {a b : Nat} (ha : a < L.length) (hb : b < L.length) (r : rest L a b) : med L (pos L a) := by
  obtain ⟨e1, e2⟩ := rest_eq ha hb r
  have hw := whole_nonneg V
  refine ⟨?_, ?_⟩
  · refine Int.not_lt.mp fun h => ?_
    have h0 := prev_of V ha (by omega)
    obtain ⟨c, rfl⟩ : ∃ c, a = c + 1 := ⟨a - 1, by omega⟩
    have g := gains_up V (pos_lt V (Nat.lt_add_one c) ha)
    have e := above_prev V ha
    have g2 := r.2 c (by omega)
    omega
  · refine Int.not_lt.mp fun h => ?_
    have h0 := next_of V ha (by omega)
    have g := gains_down V (pos_lt V (Nat.lt_add_one a) h0)
    have e := below_next V h0
    have g2 := r.2 (a + 1) h0
    omega
theorem rest_swap {L : Line} {a b : Nat} (r : rest L a b) : rest L b a := ⟨r.2, r.1⟩
theorem med_rest {L : Line} (V : Valid L) {a b : Nat} (ma : med L (pos L a)) (mb : med L (pos L b)) : rest L a b := by
  have key : ∀ c, gains L (pos L c) (pos L b) ≤ whole L := fun c => by
    have h1 := med_gains V mb (pos L c)
    have h2 := gains_two L (pos L c) (pos L b)
    omega
  have key2 : ∀ c, gains L (pos L c) (pos L a) ≤ whole L := fun c => by
    have h1 := med_gains V ma (pos L c)
    have h2 := gains_two L (pos L c) (pos L a)
    omega
  refine ⟨fun c _ => Int.le_trans (key c) (med_gains V ma _), fun c _ => Int.le_trans (key2 c) (med_gains V mb _)⟩

/-! ### best points -/
def best (L : Line) (k : Nat) : Prop := ∀ j, j < L.length → cost L (pos L k) ≤ cost L (pos L j)
theorem mul_if (d w : Int) (p : Prop) [Decidable p] : d * (if p then w else 0) = if p then d * w else 0 := by
  split
  · rfl
  · exact Int.mul_zero d
theorem step_up {x y : Int} (h : x ≤ y) {q : Int × Int} (hq : 0 ≤ q.2) : q.2 * dist q.1 x + (y - x) * q.2 + (-2 * (y - x)) * above x q ≤ q.2 * dist q.1 y := by
  have e1 : dist q.1 x + (y - x) + (if x < q.1 then -2 * (y - x) else 0) ≤ dist q.1 y := by
    unfold dist
    split <;> split <;> split <;> omega
  have e2 := Int.mul_le_mul_of_nonneg_left e1 hq
  rw [Int.mul_add, Int.mul_add] at e2
  unfold above
  rw [mul_if]
  have e3 : (y - x) * q.2 = q.2 * (y - x) := Int.mul_comm _ _
  rw [e3]
  split
  · rename_i hx
    rw [if_pos hx] at e2
    have e4 : (-2 * (y - x)) * q.2 = q.2 * (-2 * (y - x)) := Int.mul_comm _ _
    rw [e4]
    exact e2
  · rename_i hx
    rw [if_neg hx, Int.mul_zero] at e2
    exact e2
theorem step_down {x y : Int} (h : y ≤ x) {q : Int × Int} (hq : 0 ≤ q.2) : q.2 * dist q.1 x + (x - y) * q.2 + (-2 * (x - y)) * below x q ≤ q.2 * dist q.1 y := by
  have e1 : dist q.1 x + (x - y) + (if q.1 < x then -2 * (x - y) else 0) ≤ dist q.1 y := by
    unfold dist
    split <;> split <;> split <;> omega
  have e2 := Int.mul_le_mul_of_nonneg_left e1 hq
  rw [Int.mul_add, Int.mul_add] at e2
  unfold below
  rw [mul_if]
  have e3 : (x - y) * q.2 = q.2 * (x - y) := Int.mul_comm _ _
  rw [e3]
  split
  · rename_i hx
    rw [if_pos hx] at e2
    have e4 : (-2 * (x - y)) * q.2 = q.2 * (-2 * (x - y)) := Int.mul_comm _ _
    rw [e4]
    exact e2
  · rename_i hx
    rw [if_neg hx, Int.mul_zero] at e2
    exact e2
theorem cost_up {L : Line} (V : Valid L) {x y : Int} (h : x ≤ y) : cost L x + (y - x) * (whole L - 2 * sm (above x) L) ≤ cost L y := by
  have e := sm_le (f := fun q => (q.2 * dist q.1 x + (y - x) * wt q) + (-2 * (y - x)) * above x q) (g := fun q => q.2 * dist q.1 y) (L := L) fun q hq => step_up h (V.bnd q hq).2.2.1
  rw [sm_add, sm_mul, sm_add, sm_mul] at e
  unfold cost whole
  have e2 : (y - x) * (sm wt L - 2 * sm (above x) L) = (y - x) * sm wt L + -2 * (y - x) * sm (above x) L := by
    rw [Int.mul_sub, show (-2 * (y - x)) = (y - x) * (-2) from Int.mul_comm _ _, Int.mul_assoc, show ((-2 : Int) * sm (above x) L) = -(2 * sm (above x) L) by omega, Int.mul_neg]
    omega
  rw [e2]
  omega
theorem cost_down {L : Line} (V : Valid L) {x y : Int} (h : y ≤ x) : cost L x + (x - y) * (whole L - 2 * sm (below x) L) ≤ cost L y := by
  have e := sm_le (f := fun q => (q.2 * dist q.1 x + (x - y) * wt q) + (-2 * (x - y)) * below x q) (g := fun q => q.2 * dist q.1 y) (L := L) fun q hq => step_down h (V.bnd q hq).2.2.1
  rw [sm_add, sm_mul, sm_add, sm_mul] at e
  unfold cost whole
  have e2 : (x - y) * (sm wt L - 2 * sm (below x) L) = (x - y) * sm wt L + -2 * (x - y) * sm (below x) L := by
    rw [Int.mul_sub, show (-2 * (x - y)) = (x - y) * (-2) from Int.mul_comm _ _, Int.mul_assoc, show ((-2 : Int) * sm (below x) L) = -(2 * sm (below x) L) by omega, Int.mul_neg]
    omega
  rw [e2]
  omega
theorem med_best {L : Line} (V : Valid L) {k : Nat} (m : med L (pos L k)) : best L k := fun j _ => by
  rcases Int.le_total (pos L k) (pos L j) with h | h
  · have e := cost_up V h
    have e2 : 0 ≤ (pos L j - pos L k) * (whole L - 2 * sm (above (pos L k)) L) := Int.mul_nonneg (by omega) (by have := m.2; omega)
    omega
  · have e := cost_down V h
    have e2 : 0 ≤ (pos L k - pos L j) * (whole L - 2 * sm (below (pos L k)) L) := Int.mul_nonneg (by omega) (by have := m.1; omega)
    omega
theorem best_med {L : Line} (V : Valid L) {k : Nat} (hk : k < L.length) (b : best L k) : med L (pos L k) := by
  have hw := whole_nonneg V
  refine ⟨?_, ?_⟩
  · refine Int.not_lt.mp fun h => ?_
    have h0 := prev_of V hk (by omega)
    obtain ⟨c, rfl⟩ : ∃ c, k = c + 1 := ⟨k - 1, by omega⟩
    have l := pos_lt V (Nat.lt_add_one c) hk
    have e := cost_up V (Int.le_of_lt l)
    rw [above_prev V hk] at e
    have e2 : 0 < (pos L (c + 1) - pos L c) * (whole L - 2 * (whole L - sm (below (pos L (c + 1))) L)) := Int.mul_pos (by omega) (by omega)
    have := b c (by omega)
    omega
  · refine Int.not_lt.mp fun h => ?_
    have h0 := next_of V hk (by omega)
    have l := pos_lt V (Nat.lt_add_one k) h0
    have e := cost_down V (Int.le_of_lt l)
    rw [below_next V h0] at e
    have e2 : 0 < (pos L (k + 1) - pos L k) * (whole L - 2 * (whole L - sm (above (pos L k)) L)) := Int.mul_pos (by omega) (by omega)
    have := b (k + 1) h0
    omega
/-- THE LAW: two are at rest exactly if both stand at best points -/
theorem rest_iff {L : Line} (V : Valid L) {a b : Nat} (ha : a < L.length) (hb : b < L.length) : rest L a b ↔ best L a ∧ best L b :=
  ⟨fun r => ⟨med_best V (rest_med V ha hb r), med_best V (rest_med V hb ha (rest_swap r))⟩, fun ⟨x, y⟩ => med_rest V (best_med V ha x) (best_med V hb y)⟩
theorem best_gains {L : Line} (V : Valid L) {a b : Nat} (ha : a < L.length) (hb : b < L.length) (x : best L a) (y : best L b) : gains L (pos L a) (pos L b) = whole L ∧ gains L (pos L b) (pos L a) = whole L :=
  rest_eq ha hb (med_rest V (best_med V ha x) (best_med V hb y))
end K58
/-! Data on the heap, as plain PyData; readings as «evaluates to such data, the heap only grows». -/
namespace K58
open PySem PySem.Spec PyProof.Rows L2

/-! ### data -/
abbrev atD (p : Addr) : PyData := .dict [(.int (p : Int), .none)]
mutual
/-- v stands for the data d, none of whose objects is at an address of B -/
inductive DA (B : List Addr) (H : Hp) : V → PyData → Prop
  | non : DA B H .non .none
  | bl (b : Bool) : DA B H (.bl b) (.bool b)
  | int (i : Int) : DA B H (.int i) (.int i)
  | lst {a : Addr} {xs : List V} {ds : List PyData} : a ∉ B → H a = some (.lst xs) → DAs B H xs ds → DA B H (.ref a) (.list ds)
  | tup {a : Addr} {xs : List V} {ds : List PyData} : a ∉ B → H a = some (.tup xs) → DAs B H xs ds → DA B H (.ref a) (.tuple ds)
  | ptr (p : Addr) : DA B H (.ref p) (atD p)
inductive DAs (B : List Addr) (H : Hp) : List V → List PyData → Prop
  | nil : DAs B H [] []
  | cons {v : V} {vs : List V} {d : PyData} {ds : List PyData} : DA B H v d → DAs B H vs ds → DAs B H (v :: vs) (d :: ds)
end
section
variable {B B' : List Addr} {H H' : Hp}
mutual
theorem DA.mono (e : ∀ a o, a ∉ B → H a = some o → H' a = some o) : ∀ (d : PyData) (v : V), DA B H v d → DA B H' v d
  | .none, _, h => by cases h; exact .non
  | .bool _, _, h => by cases h; exact .bl _
  | .int _, _, h => by cases h; exact .int _
  | .str _, _, h => by cases h
  | .list ds, _, h => by
    cases h with
    | lst h1 h2 h3 => exact .lst h1 (e _ _ h1 h2) (DAs.mono e ds _ h3)
  | .tuple ds, _, h => by
    cases h with
    | tup h1 h2 h3 => exact .tup h1 (e _ _ h1 h2) (DAs.mono e ds _ h3)
  | .dict _, _, h => by cases h; exact .ptr _
theorem DAs.mono (e : ∀ a o, a ∉ B → H a = some o → H' a = some o) : ∀ (ds : List PyData) (vs : List V), DAs B H vs ds → DAs B H' vs ds
  | [], _, h => by cases h; exact .nil
  | d :: ds, _, h => by
    cases h with
    | cons h1 h2 => exact .cons (DA.mono e d _ h1) (DAs.mono e ds _ h2)
end
mutual
theorem DA.weak (e : ∀ a, a ∈ B' → a ∈ B) : ∀ (d : PyData) (v : V), DA B H v d → DA B' H v d
  | .none, _, h => by cases h; exact .non
  | .bool _, _, h => by cases h; exact .bl _
  | .int _, _, h => by cases h; exact .int _
  | .str _, _, h => by cases h
  | .list ds, _, h => by
    cases h with
    | lst h1 h2 h3 => exact .lst (fun z => h1 (e _ z)) h2 (DAs.weak e ds _ h3)
  | .tuple ds, _, h => by
    cases h with
    | tup h1 h2 h3 => exact .tup (fun z => h1 (e _ z)) h2 (DAs.weak e ds _ h3)
  | .dict _, _, h => by cases h; exact .ptr _
theorem DAs.weak (e : ∀ a, a ∈ B' → a ∈ B) : ∀ (ds : List PyData) (vs : List V), DAs B H vs ds → DAs B' H vs ds
  | [], _, h => by cases h; exact .nil
  | d :: ds, _, h => by
    cases h with
    | cons h1 h2 => exact .cons (DA.weak e d _ h1) (DAs.weak e ds _ h2)
end
mutual
theorem DA.add {p : Addr} (n : H p = none) : ∀ (d : PyData) (v : V), DA B H v d → DA (p :: B) H v d
  | .none, _, h => by cases h; exact .non
  | .bool _, _, h => by cases h; exact .bl _
  | .int _, _, h => by cases h; exact .int _
  | .str _, _, h => by cases h
  | .list ds, _, h => by
    cases h with
    | lst h1 h2 h3 => exact .lst (fun z => (List.mem_cons.mp z).elim (fun q => by rw [q, n] at h2; cases h2) h1) h2 (DAs.add n ds _ h3)
  | .tuple ds, _, h => by
    cases h with
    | tup h1 h2 h3 => exact .tup (fun z => (List.mem_cons.mp z).elim (fun q => by rw [q, n] at h2; cases h2) h1) h2 (DAs.add n ds _ h3)
  | .dict _, _, h => by cases h; exact .ptr _
theorem DAs.add {p : Addr} (n : H p = none) : ∀ (ds : List PyData) (vs : List V), DAs B H vs ds → DAs (p :: B) H vs ds
  | [], _, h => by cases h; exact .nil
  | d :: ds, _, h => by
    cases h with
    | cons h1 h2 => exact .cons (DA.add n d _ h1) (DAs.add n ds _ h2)
end
mutual
theorem DA.dp (K : PySem.W.Frag) : ∀ (d : PyData) (v : V), d.canLay0 = true → DA B H v d → Dp K H v d
  | .none, _, _, h => by cases h; exact .non
  | .bool _, _, _, h => by cases h; exact .bl _
  | .int _, _, _, h => by cases h; exact .int _
  | .str _, _, _, h => by cases h
  | .list ds, _, c, h => by
    cases h with
    | lst h1 h2 h3 => exact .lst (SqL.of h2) (DAs.dp K ds _ (by simpa [PyData.canLay0] using c) h3)
  | .tuple ds, _, c, h => by
    cases h with
    | tup h1 h2 h3 => exact .tup (SqT.of h2) (DAs.dp K ds _ (by simpa [PyData.canLay0] using c) h3)
  | .dict _, _, c, h => by simp [PyData.canLay0] at c
theorem DAs.dp (K : PySem.W.Frag) : ∀ (ds : List PyData) (vs : List V), PyData.canLayAll0 ds = true → DAs B H vs ds → DpAll K H vs ds
  | [], _, _, h => by cases h; exact .nil
  | d :: ds, _, c, h => by
    cases h with
    | cons h1 h2 =>
      have c' : d.canLay0 = true ∧ PyData.canLayAll0 ds = true := by simpa [PyData.canLayAll0] using c
      exact .cons (DA.dp K d _ c'.1 h1) (DAs.dp K ds _ c'.2 h2)
end
theorem DAs.length : ∀ {vs : List V} {ds : List PyData}, DAs B H vs ds → vs.length = ds.length
  | [], [], _ => rfl
  | _ :: vs, _ :: ds, h => by
    cases h with
    | cons _ h2 => rw [List.length_cons, List.length_cons, DAs.length h2]
  | [], _ :: _, h => by cases h
  | _ :: _, [], h => by cases h
theorem DAs.get : ∀ {vs : List V} {ds : List PyData} {i : Nat} {d : PyData}, DAs B H vs ds → ds[i]? = some d → ∃ v, vs[i]? = some v ∧ DA B H v d
  | [], [], i, d, _, e => by simp at e
  | v :: vs, d' :: ds, 0, d, h, e => by
    cases h with
    | cons h1 _ =>
      have e' : d' = d := by simpa using e
      subst e'
      exact ⟨v, rfl, h1⟩
  | _ :: vs, _ :: ds, i + 1, d, h, e => by
    cases h with
    | cons _ h2 =>
      obtain ⟨v, e1, h1⟩ := DAs.get (i := i) (d := d) h2 (by simpa using e)
      exact ⟨v, by simpa using e1, h1⟩
  | [], _ :: _, _, _, h, _ => by cases h
  | _ :: _, [], _, _, h, _ => by cases h
theorem DAs.getV {vs : List V} {ds : List PyData} {i : Nat} {v : V} (h : DAs B H vs ds) (e : vs[i]? = some v) : ∃ d, ds[i]? = some d ∧ DA B H v d := by
  have hl := h.length
  obtain ⟨hi, _⟩ := List.getElem?_eq_some_iff.mp e
  have hi2 : i < ds.length := by omega
  obtain ⟨v', e1, h1⟩ := h.get (i := i) (d := ds[i]) (by simp [hi2])
  rw [e] at e1
  cases e1
  exact ⟨ds[i], by simp [hi2], h1⟩
theorem DAs.append : ∀ {vs ws : List V} {ds es : List PyData}, DAs B H vs ds → DAs B H ws es → DAs B H (vs ++ ws) (ds ++ es)
  | [], _, [], _, _, h => h
  | _ :: vs, _, _ :: ds, _, h, g => by
    cases h with
    | cons h1 h2 => exact .cons h1 (DAs.append h2 g)
  | [], _, _ :: _, _, h, _ => by cases h
  | _ :: _, _, [], _, h, _ => by cases h
theorem DAs.drop : ∀ {vs : List V} {ds : List PyData} (n : Nat), DAs B H vs ds → DAs B H (vs.drop n) (ds.drop n)
  | _, _, 0, h => h
  | [], [], _ + 1, _ => .nil
  | _ :: vs, _ :: ds, n + 1, h => by
    cases h with
    | cons _ h2 => exact DAs.drop n h2
  | [], _ :: _, _ + 1, h => by cases h
  | _ :: _, [], _ + 1, h => by cases h
theorem DAs.take : ∀ {vs : List V} {ds : List PyData} (n : Nat), DAs B H vs ds → DAs B H (vs.take n) (ds.take n)
  | _, _, 0, _ => .nil
  | [], [], _ + 1, _ => .nil
  | _ :: vs, _ :: ds, n + 1, h => by
    cases h with
    | cons h1 h2 => exact .cons h1 (DAs.take n h2)
  | [], _ :: _, _ + 1, h => by cases h
  | _ :: _, [], _ + 1, h => by cases h
theorem DAs.set {v : V} {d : PyData} (hd : DA B H v d) : ∀ {vs : List V} {ds : List PyData} (n : Nat), DAs B H vs ds → DAs B H (vs.set n v) (ds.set n d)
  | [], [], _, _ => .nil
  | _ :: vs, _ :: ds, 0, h => by
    cases h with
    | cons h1 h2 => exact .cons hd h2
  | _ :: vs, _ :: ds, n + 1, h => by
    cases h with
    | cons h1 h2 => exact .cons h1 (DAs.set hd n h2)
  | [], _ :: _, _, h => by cases h
  | _ :: _, [], _, h => by cases h
theorem DAs.ints : ∀ {ns : List Int} {vs : List V}, DAs B H vs (ns.map PyData.int) → vs = ns.map V.int
  | [], _, h => by cases h; rfl
  | n :: ns, _, h => by
    cases h with
    | cons h1 h2 =>
      cases h1
      rw [DAs.ints h2, List.map_cons]
theorem DAs.ofInts : ∀ (ns : List Int), DAs B H (ns.map V.int) (ns.map PyData.int)
  | [] => .nil
  | n :: ns => .cons (.int n) (DAs.ofInts ns)
end
theorem same_upd {H : Hp} {p : Addr} {o : HO} (h : H p = none) : Same H (upd H p o) := fun b x e => by
  rw [upd_ne (ne_of_none e h)]
  exact e
theorem DA.same {B : List Addr} {H H' : Hp} {v : V} {d : PyData} (e : Same H H') (h : DA B H v d) : DA B H' v d := DA.mono (fun a o _ z => e a o z) d v h
theorem DAs.same {B : List Addr} {H H' : Hp} {vs : List V} {ds : List PyData} (e : Same H H') (h : DAs B H vs ds) : DAs B H' vs ds := DAs.mono (fun a o _ z => e a o z) ds vs h
theorem DA.upd {B : List Addr} {H : Hp} {p : Addr} {o : HO} {v : V} {d : PyData} (hp : p ∈ B) (h : DA B H v d) : DA B (upd H p o) v d :=
  DA.mono (fun a x na z => by rw [upd_ne (fun q => na (by rw [q]; exact hp))]; exact z) d v h
theorem DAs.upd {B : List Addr} {H : Hp} {p : Addr} {o : HO} {vs : List V} {ds : List PyData} (hp : p ∈ B) (h : DAs B H vs ds) : DAs B (upd H p o) vs ds :=
  DAs.mono (fun a x na z => by rw [upd_ne (fun q => na (by rw [q]; exact hp))]; exact z) ds vs h
/-- a fresh object is none of B's -/
theorem notB {B : List Addr} {H : Hp} {p : Addr} (hB : ∀ p ∈ B, H p ≠ none) (h : H p = none) : p ∉ B := fun z => hB p z h
theorem DA.newTup {B : List Addr} {H : Hp} {p : Addr} {xs : List V} {ds : List PyData} (hB : ∀ p ∈ B, H p ≠ none) (hp : H p = none) (h : DAs B H xs ds) : DA B (L2.upd H p (.tup xs)) (.ref p) (.tuple ds) :=
  .tup (notB hB hp) upd_same (h.same (same_upd hp))
theorem DA.newLst {B : List Addr} {H : Hp} {p : Addr} {xs : List V} {ds : List PyData} (hB : ∀ p ∈ B, H p ≠ none) (hp : H p = none) (h : DAs B H xs ds) : DA B (L2.upd H p (.lst xs)) (.ref p) (.list ds) :=
  .lst (notB hB hp) upd_same (h.same (same_upd hp))
theorem DA.tupInv {B : List Addr} {H : Hp} {v : V} {ds : List PyData} (h : DA B H v (.tuple ds)) : ∃ a xs, v = .ref a ∧ a ∉ B ∧ H a = some (.tup xs) ∧ DAs B H xs ds := by
  cases h with
  | tup h1 h2 h3 => exact ⟨_, _, rfl, h1, h2, h3⟩
theorem DA.lstInv {B : List Addr} {H : Hp} {v : V} {ds : List PyData} (h : DA B H v (.list ds)) : ∃ a xs, v = .ref a ∧ a ∉ B ∧ H a = some (.lst xs) ∧ DAs B H xs ds := by
  cases h with
  | lst h1 h2 h3 => exact ⟨_, _, rfl, h1, h2, h3⟩
theorem DA.intInv {B : List Addr} {H : Hp} {v : V} {i : Int} (h : DA B H v (.int i)) : v = .int i := by
  cases h
  rfl
theorem DA.blInv {B : List Addr} {H : Hp} {v : V} {b : Bool} (h : DA B H v (.bool b)) : v = .bl b := by
  cases h
  rfl
theorem DA.nonInv {B : List Addr} {H : Hp} {v : V} (h : DA B H v .none) : v = .non := by
  cases h
  rfl
theorem DA.ptrInv {B : List Addr} {H : Hp} {v : V} {p : Addr} (h : DA B H v (atD p)) : v = .ref p := by
  generalize e : atD p = d at h
  cases h with
  | ptr q =>
    have e1 : ((p : Nat) : Int) = ((q : Nat) : Int) := by
      injection e with e
      injection e with e _
      injection e with e _
      injection e with e
    have e2 : p = q := Int.ofNat.inj e1
    rw [e2]
  | _ => cases e

/-! ### contexts -/
structure Cn where
  B : List Addr
  M : Hp → Prop
  mono : ∀ H H', Same H H' → M H → M H'
abbrev Gm := List (Option PyData)
structure Gs (C : Cn) (Γ : Gm) (σ : L2.St) (H : Hp) : Prop where
  m : C.M H
  b : ∀ p ∈ C.B, H p ≠ none
  l : σ.length = Γ.length
  g : ∀ (i : Nat) (d : PyData), Γ[i]? = some (some d) → ∃ v, σ[i]? = some (some v) ∧ DA C.B H v d
theorem Bs.mono {B : List Addr} {H H' : Hp} (e : Same H H') (h : ∀ p ∈ B, H p ≠ none) : ∀ p ∈ B, H' p ≠ none := fun p hp z => h p hp (e.free z)
theorem Gs.mono {C : Cn} {Γ : Gm} {σ : L2.St} {H H' : Hp} (e : Same H H') (G : Gs C Γ σ H) : Gs C Γ σ H' :=
  ⟨C.mono _ _ e G.m, Bs.mono e G.b, G.l, fun i d h => let ⟨v, h1, h2⟩ := G.g i d h; ⟨v, h1, h2.same e⟩⟩
/-- a fresh address joins B -/
def Cn.add (C : Cn) (p : Addr) : Cn := ⟨p :: C.B, C.M, C.mono⟩
def Cn.also (C : Cn) (M : Hp → Prop) (hM : ∀ H H', Same H H' → M H → M H') : Cn := ⟨C.B, fun H => C.M H ∧ M H, fun H H' e h => ⟨C.mono _ _ e h.1, hM _ _ e h.2⟩⟩
theorem Gs.add {C : Cn} {Γ : Gm} {σ : L2.St} {H : Hp} {p : Addr} {o : HO} (G : Gs C Γ σ H) (hp : H p = none) : Gs (C.add p) Γ σ (upd H p o) :=
  ⟨C.mono _ _ (same_upd hp) G.m, fun q hq z => (List.mem_cons.mp hq).elim (fun e => by rw [e, upd_same] at z; cases z) (fun e => Bs.mono (same_upd (o := o) hp) G.b q e z), G.l,
    fun i d h => let ⟨v, h1, h2⟩ := G.g i d h; ⟨v, h1, (DA.add hp _ _ h2).same (same_upd hp)⟩⟩
/-- the slots that are forgotten -/
def Gle : Gm → Gm → Prop
  | [], [] => True
  | none :: a, _ :: b => Gle a b
  | some d :: a, e :: b => e = some d ∧ Gle a b
  | _, _ => False
theorem Gle.get : ∀ {a b : Gm} {i : Nat} {d : PyData}, Gle a b → a[i]? = some (some d) → b[i]? = some (some d)
  | [], [], _, _, _, h => by simp at h
  | none :: a, e :: b, 0, d, _, h => by simp at h
  | none :: a, e :: b, i + 1, d, l, h => by
    have h' : a[i]? = some (some d) := by simpa using h
    simpa using Gle.get (a := a) (b := b) (i := i) l h'
  | some d' :: a, e :: b, 0, d, l, h => by
    have h' : d' = d := by simpa using h
    subst h'
    simp [l.1]
  | some d' :: a, e :: b, i + 1, d, l, h => by
    have h' : a[i]? = some (some d) := by simpa using h
    simpa using Gle.get (a := a) (b := b) (i := i) l.2 h'
  | [], _ :: _, _, _, l, _ => l.elim
  | none :: _, [], _, _, l, _ => l.elim
  | some _ :: _, [], _, _, l, _ => l.elim
theorem Gle.len : ∀ {a b : Gm}, Gle a b → a.length = b.length
  | [], [], _ => rfl
  | none :: a, e :: b, l => by rw [List.length_cons, List.length_cons, Gle.len (a := a) (b := b) l]
  | some d' :: a, e :: b, l => by rw [List.length_cons, List.length_cons, Gle.len (a := a) (b := b) l.2]
  | [], _ :: _, l => l.elim
  | none :: _, [], l => l.elim
  | some _ :: _, [], l => l.elim
theorem Gle.refl : ∀ a : Gm, Gle a a
  | [] => True.intro
  | none :: a => Gle.refl a
  | some _ :: a => ⟨rfl, Gle.refl a⟩
theorem Gs.less {C : Cn} {Γ Γ' : Gm} {σ : L2.St} {H : Hp} (G : Gs C Γ σ H) (l : Gle Γ' Γ) : Gs C Γ' σ H := ⟨G.m, G.b, G.l.trans l.len.symm, fun i d h => G.g i d (l.get h)⟩
theorem Gs.set {C : Cn} {Γ : Gm} {σ : L2.St} {H : Hp} {v : V} {d : PyData} (G : Gs C Γ σ H) (h : DA C.B H v d) (j : Nat) : Gs C (Γ.set j (some d)) (σ.set j (some v)) H := by
  refine ⟨G.m, G.b, by rw [List.length_set, List.length_set]; exact G.l, fun i e hi => ?_⟩
  by_cases hij : j = i
  · subst hij
    by_cases hj : j < Γ.length
    · rw [List.getElem?_set_self hj] at hi
      cases hi
      exact ⟨v, List.getElem?_set_self (by rw [G.l]; exact hj), h⟩
    · rw [List.getElem?_eq_none (by rw [List.length_set]; omega)] at hi
      cases hi
  · rw [List.getElem?_set_ne hij] at hi
    obtain ⟨w, h1, h2⟩ := G.g i e hi
    exact ⟨w, by rw [List.getElem?_set_ne hij]; exact h1, h2⟩
def wipeG (Γ : Gm) : List Nat → Gm
  | [] => Γ
  | v :: vs => (wipeG Γ vs).set v none
theorem Gs.wipe {C : Cn} {Γ : Gm} {σ : L2.St} {H : Hp} (G : Gs C Γ σ H) : ∀ vs : List Nat, Gs C (wipeG Γ vs) (wipe σ vs) H
  | [] => G
  | v :: vs => by
    have I := Gs.wipe G vs
    refine ⟨I.m, I.b, by unfold wipeG L2.wipe; rw [List.length_set, List.length_set]; exact I.l, fun i d hi => ?_⟩
    unfold wipeG at hi
    unfold L2.wipe
    by_cases hij : v = i
    · subst hij
      by_cases hj : v < (wipeG Γ vs).length
      · rw [List.getElem?_set_self hj] at hi
        cases hi
      · rw [List.getElem?_eq_none (by rw [List.length_set]; omega)] at hi
        cases hi
    · rw [List.getElem?_set_ne hij] at hi
      rw [List.getElem?_set_ne hij]
      exact I.g i d hi
theorem set_wipe {σ : L2.St} {j : Nat} {x : Option V} : ∀ {vs : List Nat}, j ∈ vs → wipe (σ.set j x) vs = wipe σ vs
  | [], h => by cases h
  | v :: vs, h => by
    unfold wipe
    by_cases e : v = j
    · subst e
      by_cases m : v ∈ vs
      · rw [set_wipe m]
      · -- the slot is wiped now
        have key : ∀ (us : List Nat), v ∉ us → wipe (σ.set v x) us = (wipe σ us).set v x := fun us => by
          induction us with
          | nil => intro _; rfl
          | cons u us ih =>
            intro hu
            have h1 : u ≠ v := fun q => hu (by rw [q]; exact List.mem_cons_self)
            have h2 : v ∉ us := fun q => hu (List.mem_cons_of_mem _ q)
            show (wipe (σ.set v x) us).set u none = ((wipe σ us).set u none).set v x
            rw [ih h2, List.set_comm _ _ h1]
        rw [key vs m, List.set_set]
    · have m : j ∈ vs := by
        rcases List.mem_cons.mp h with q | q
        · exact absurd q.symm e
        · exact q
      rw [set_wipe m]
theorem wipe_wipe {σ : L2.St} {vs : List Nat} : wipe (wipe σ vs) vs = wipe σ vs := by
  have key : ∀ us : List Nat, (∀ u ∈ us, u ∈ vs) → wipe (wipe σ us) vs = wipe σ vs := fun us => by
    induction us with
    | nil => intro _; rfl
    | cons u us ih =>
      intro h
      show wipe ((wipe σ us).set u none) vs = wipe σ vs
      rw [set_wipe (h u List.mem_cons_self)]
      exact ih fun w hw => h w (List.mem_cons_of_mem _ hw)
  exact key vs fun _ h => h

/-! ### what evaluates to what -/
def EG (C : Cn) (t : TE) (Γ : Gm) (d : PyData) : Prop := ∀ σ H, Gs C Γ σ H → ∀ Q : VK, (∀ v H2, Same H H2 → DA C.B H2 v d → Q v H2) → t σ H Q
def EA (C : Cn) (t : TA) (Γ : Gm) (ds : List PyData) : Prop := ∀ σ H, Gs C Γ σ H → ∀ Q : List V → Hp → Prop, (∀ vs H2, Same H H2 → DAs C.B H2 vs ds → Q vs H2) → t σ H Q
def ET (C : Cn) (t : TT) (Γ : Gm) (b : Bool) : Prop := ∀ σ H, Gs C Γ σ H → ∀ Q : Bool → Hp → Prop, (∀ H2, Same H H2 → Q b H2) → t σ H Q
def EO (C : Cn) (t : TO) (Γ : Gm) (o : Option Int) : Prop := ∀ σ H, Gs C Γ σ H → ∀ Q : Option Int → Hp → Prop, (∀ H2, Same H H2 → Q o H2) → t σ H Q
/-- a target takes data: the slots js alone change -/
def GT (C : Cn) (js : List Nat) (g : TG) (Γ : Gm) (d : PyData) (Γ' : Gm) : Prop := ∀ σ H v, Gs C Γ σ H → DA C.B H v d → ∀ Q : L2.St → Hp → Prop, (∀ σ', Gs C Γ' σ' H → (∀ vs : List Nat, (∀ j ∈ js, j ∈ vs) → wipe σ' vs = wipe σ vs) → Q σ' H) → g v σ H Q
def GTs (C : Cn) (js : List Nat) (g : TGs) (Γ : Gm) (ds : List PyData) (Γ' : Gm) : Prop := ∀ σ H vs, Gs C Γ σ H → DAs C.B H vs ds → ∀ Q : L2.St → Hp → Prop, (∀ σ', Gs C Γ' σ' H → (∀ ws : List Nat, (∀ j ∈ js, j ∈ ws) → wipe σ' ws = wipe σ ws) → Q σ' H) → g vs σ H Q
/-- a statement: it hands back data, or goes on -/
def BG (C : Cn) (t : TS) (Γ : Gm) (o : Option PyData) (Γ' : Gm) : Prop := ∀ σ H, Gs C Γ σ H → ∀ D : Ends, (∀ d, o = some d → ∀ v H2, Same H H2 → DA C.B H2 v d → D.rt v H2) → (o = none → ∀ σ' H2, Same H H2 → Gs C Γ' σ' H2 → D.nx σ' H2) → t D σ H

section
variable {C : Cn} {Γ Γ' Γ1 : Gm} {ta tb tc te tl : TE} {tt tu : TT} {tx ty : TA} {d e : PyData} {ds es : List PyData} {i j : Int} {K : PySem.W.Frag}
theorem eg_var {n : Nat} (h : Γ[n]? = some (some d)) : EG C (tVar n) Γ d := fun σ H G Q q =>
  let ⟨v, h1, h2⟩ := G.g n d h
  ⟨v, h1, q v H (Same.refl H) h2⟩
theorem eg_int : EG C (tC (.int i)) Γ (.int i) := fun _ H _ _ q => q _ H (Same.refl H) (.int i)
theorem eg_bl {b : Bool} : EG C (tC (.bl b)) Γ (.bool b) := fun _ H _ _ q => q _ H (Same.refl H) (.bl b)
theorem eg_non : EG C (tC .non) Γ .none := fun _ H _ _ q => q _ H (Same.refl H) .non
theorem eg_is (h : EG C te Γ d) (x : d = e) : EG C te Γ e := by
  rw [← x]
  exact h
theorem et_is {a b : Bool} (h : ET C tt Γ a) (x : a = b) : ET C tt Γ b := by
  rw [← x]
  exact h
/-- a two-place rule, by its two operands' data -/
theorem eg_op {r : R2} (ha : EG C ta Γ d) (hb : EG C tb Γ e) {z : PyData}
    (h : ∀ H, C.M H → (∀ p ∈ C.B, H p ≠ none) → ∀ x y, DA C.B H x d → DA C.B H y e → ∀ Q : VK, (∀ v H2, Same H H2 → DA C.B H2 v z → Q v H2) → r x y H Q) : EG C (tOp r ta tb) Γ z := fun σ H G Q q =>
  ha σ H G _ fun x H1 s1 d1 => hb σ H1 (G.mono s1) _ fun y H2 s2 d2 => h H2 (G.mono (s1.trans s2)).m (G.mono (s1.trans s2)).b x y (d1.same s2) d2 Q fun v H3 s3 d3 => q v H3 ((s1.trans s2).trans s3) d3
theorem eg_I0 {g : Int → Int → Int} (ha : EG C ta Γ (.int i)) (hb : EG C tb Γ (.int j)) : EG C (tOp (rI0 fun i j => .int (g i j)) ta tb) Γ (.int (g i j)) :=
  eg_op ha hb fun H _ _ x y dx dy Q q => ⟨i, j, dx.intInv, dy.intInv, q _ H (Same.refl H) (.int _)⟩
theorem eg_Ib {g : Int → Int → Bool} (ha : EG C ta Γ (.int i)) (hb : EG C tb Γ (.int j)) : EG C (tOp (rI0 fun i j => .bl (g i j)) ta tb) Γ (.bool (g i j)) :=
  eg_op ha hb fun H _ _ x y dx dy Q q => ⟨i, j, dx.intInv, dy.intInv, q _ H (Same.refl H) (.bl _)⟩
theorem eg_I {g : Int → Int → Int} {c : Int → Int → Prop} (ha : EG C ta Γ (.int i)) (hb : EG C tb Γ (.int j)) (hc : c i j) : EG C (tOp (rI c fun i j => .int (g i j)) ta tb) Γ (.int (g i j)) :=
  eg_op ha hb fun H _ _ x y dx dy Q q => ⟨i, j, dx.intInv, dy.intInv, hc, q _ H (Same.refl H) (.int _)⟩
theorem eg_add (ha : EG C ta Γ (.int i)) (hb : EG C tb Γ (.int j)) : EG C (tOp (rI0 fun i j => .int (i + j)) ta tb) Γ (.int (i + j)) := eg_I0 (g := fun i j => i + j) ha hb
theorem eg_sub (ha : EG C ta Γ (.int i)) (hb : EG C tb Γ (.int j)) : EG C (tOp (rI0 fun i j => .int (i - j)) ta tb) Γ (.int (i - j)) := eg_I0 (g := fun i j => i - j) ha hb
theorem eg_mul (ha : EG C ta Γ (.int i)) (hb : EG C tb Γ (.int j)) (h : CMul i j) : EG C (tOp (rI CMul fun i j => .int (i * j)) ta tb) Γ (.int (i * j)) := eg_I (g := fun i j => i * j) ha hb h
theorem eg_fdiv (ha : EG C ta Γ (.int i)) (hb : EG C tb Γ (.int j)) (h : CDivN i j) : EG C (tOp (rI CDivN fun i j => .int (i.fdiv j)) ta tb) Γ (.int (i.fdiv j)) := eg_I (g := fun i j => i.fdiv j) ha hb h
theorem eg_mod (ha : EG C ta Γ (.int i)) (hb : EG C tb Γ (.int j)) (h : j ≠ 0) : EG C (tOp (rI (fun _ j => j ≠ 0) fun i j => .int (i.fmod j)) ta tb) Γ (.int (i.fmod j)) := eg_I (g := fun i j => i.fmod j) (c := fun _ j => j ≠ 0) ha hb h
theorem eg_pow (ha : EG C ta Γ (.int i)) (hb : EG C tb Γ (.int j)) (h : CPow i j) : EG C (tOp (rI CPow fun i j => .int (i ^ j.toNat)) ta tb) Γ (.int (i ^ j.toNat)) := eg_I (g := fun i j => i ^ j.toNat) ha hb h
theorem eg_neg (ha : EG C ta Γ (.int i)) : EG C (tUn (rU fun i => .int (-i)) ta) Γ (.int (-i)) := fun σ H G Q q =>
  ha σ H G _ fun x H1 s1 d1 => ⟨i, d1.intInv, q _ H1 s1 (.int _)⟩
theorem eg_lt (ha : EG C ta Γ (.int i)) (hb : EG C tb Γ (.int j)) : EG C (tOp (rI0 fun i j => .bl (decide (i < j))) ta tb) Γ (.bool (decide (i < j))) := eg_Ib (g := fun i j => decide (i < j)) ha hb
theorem eg_le (ha : EG C ta Γ (.int i)) (hb : EG C tb Γ (.int j)) : EG C (tOp (rI0 fun i j => .bl (decide (i ≤ j))) ta tb) Γ (.bool (decide (i ≤ j))) := eg_Ib (g := fun i j => decide (i ≤ j)) ha hb
theorem eg_gt (ha : EG C ta Γ (.int i)) (hb : EG C tb Γ (.int j)) : EG C (tOp (rI0 fun i j => .bl (decide (j < i))) ta tb) Γ (.bool (decide (j < i))) := eg_Ib (g := fun i j => decide (j < i)) ha hb
theorem eg_ge (ha : EG C ta Γ (.int i)) (hb : EG C tb Γ (.int j)) : EG C (tOp (rI0 fun i j => .bl (decide (j ≤ i))) ta tb) Γ (.bool (decide (j ≤ i))) := eg_Ib (g := fun i j => decide (j ≤ i)) ha hb
theorem eg_eqI (ha : EG C ta Γ (.int i)) (hb : EG C tb Γ (.int j)) : EG C (tOp rEq ta tb) Γ (.bool (decide (i = j))) :=
  eg_op ha hb fun H _ _ x y dx dy Q q => by
    rw [dx.intInv, dy.intInv]
    refine ⟨rfl, q _ H (Same.refl H) ?_⟩
    rw [show decide (V.int i = V.int j) = decide (i = j) by by_cases h : i = j <;> simp [h]]
    exact .bl _
theorem eg_neI (ha : EG C ta Γ (.int i)) (hb : EG C tb Γ (.int j)) : EG C (tOp rNe ta tb) Γ (.bool (!decide (i = j))) :=
  eg_op ha hb fun H _ _ x y dx dy Q q => by
    rw [dx.intInv, dy.intInv]
    refine ⟨rfl, q _ H (Same.refl H) ?_⟩
    rw [show decide (V.int i = V.int j) = decide (i = j) by by_cases h : i = j <;> simp [h]]
    exact .bl _
theorem eg_eqB {a b : Bool} (ha : EG C ta Γ (.bool a)) (hb : EG C tb Γ (.bool b)) : EG C (tOp rEq ta tb) Γ (.bool (decide (a = b))) :=
  eg_op ha hb fun H _ _ x y dx dy Q q => by
    rw [dx.blInv, dy.blInv]
    refine ⟨rfl, q _ H (Same.refl H) ?_⟩
    rw [show decide (V.bl a = V.bl b) = decide (a = b) by by_cases h : a = b <;> simp [h]]
    exact .bl _
theorem eg_neB {a b : Bool} (ha : EG C ta Γ (.bool a)) (hb : EG C tb Γ (.bool b)) : EG C (tOp rNe ta tb) Γ (.bool (!decide (a = b))) :=
  eg_op ha hb fun H _ _ x y dx dy Q q => by
    rw [dx.blInv, dy.blInv]
    refine ⟨rfl, q _ H (Same.refl H) ?_⟩
    rw [show decide (V.bl a = V.bl b) = decide (a = b) by by_cases h : a = b <;> simp [h]]
    exact .bl _
def isNone : PyData → Bool
  | .none => true
  | _ => false
theorem eg_isN (ha : EG C ta Γ d) : EG C (tOp (fun x y H Q => y = V.non ∧ Q (.bl (decide (x = V.non))) H) ta (tC .non)) Γ (.bool (isNone d)) :=
  eg_op ha eg_non fun H _ _ x y dx dy Q q => ⟨dy.nonInv, by
    refine q _ H (Same.refl H) ?_
    have e : decide (x = V.non) = isNone d := by
      cases dx <;> simp [isNone]
    rw [e]
    exact .bl _⟩
/-- == and != of data -/
theorem eg_eqD (ha : EG C ta Γ d) (hb : EG C tb Γ e) (h1 : SeqAt.shaped d = true) (h2 : SeqAt.shaped e = true) : EG C (tOp (rEqD K) ta tb) Γ (.bool (PyData.eqv d e)) :=
  eg_op ha hb fun H _ _ x y dx dy Q q => ⟨d, e, DA.dp K d x (SeqAt.canLay_of_shaped h1) dx, DA.dp K e y (SeqAt.canLay_of_shaped h2) dy, h1, h2, q _ H (Same.refl H) (.bl _)⟩
theorem eg_neD (ha : EG C ta Γ d) (hb : EG C tb Γ e) (h1 : SeqAt.shaped d = true) (h2 : SeqAt.shaped e = true) : EG C (tOp (rNeD K) ta tb) Γ (.bool (!PyData.eqv d e)) :=
  eg_op ha hb fun H _ _ x y dx dy Q q => ⟨d, e, DA.dp K d x (SeqAt.canLay_of_shaped h1) dx, DA.dp K e y (SeqAt.canLay_of_shaped h2) dy, h1, h2, q _ H (Same.refl H) (.bl _)⟩
/-- items -/
theorem atI_d {vs : List V} {ds : List PyData} {B : List Addr} {H : Hp} (h : DAs B H vs ds) {i : Int} {d : PyData} (e : atI ds i = some d) : ∃ v, atI vs i = some v ∧ DA B H v d := by
  unfold atI at e ⊢
  rw [h.length]
  cases hx : ixN ds.length i with
  | none => rw [hx] at e; cases e
  | some j =>
    rw [hx] at e
    obtain ⟨v, h1, h2⟩ := h.get (i := j) (d := d) (by simpa using e)
    exact ⟨v, by simpa using h1, h2⟩
theorem eg_ixT (ha : EG C ta Γ (.tuple ds)) (hb : EG C tb Γ (.int i)) (h : atI ds i = some d) : EG C (tOp (rIxT K) ta tb) Γ d :=
  eg_op ha hb fun H _ _ x y dx dy Q q => by
    obtain ⟨a, xs, rfl, _, h1, h2⟩ := dx.tupInv
    obtain ⟨v, h3, h4⟩ := atI_d h2 h
    exact ⟨a, xs, i, v, rfl, dy.intInv, SqT.of h1, h3, q v H (Same.refl H) h4⟩
theorem eg_ixL (ha : EG C ta Γ (.list ds)) (hb : EG C tb Γ (.int i)) (h : atI ds i = some d) : EG C (tOp (rIxL K) ta tb) Γ d :=
  eg_op ha hb fun H _ _ x y dx dy Q q => by
    obtain ⟨a, xs, rfl, _, h1, h2⟩ := dx.lstInv
    obtain ⟨v, h3, h4⟩ := atI_d h2 h
    exact ⟨a, xs, i, v, rfl, dy.intInv, SqL.of h1, h3, q v H (Same.refl H) h4⟩
/-- t + u, xs + ys, [..] * k -/
theorem eg_catA (ha : EG C ta Γ (.tuple ds)) (hb : EG C tb Γ (.tuple es)) (hz : ds.length + es.length ≤ 1000) : EG C (tOp (rCatA K) ta tb) Γ (.tuple (ds ++ es)) :=
  eg_op ha hb fun H _ hB x y dx dy Q q => by
    obtain ⟨a, xs, rfl, na, h1, h2⟩ := dx.tupInv
    obtain ⟨b, ys, rfl, nb, h3, h4⟩ := dy.tupInv
    have l1 := h2.length
    have l2 := h4.length
    refine ⟨a, b, xs, ys, rfl, rfl, SqT.of h1, SqT.of h3, Nat.le_trans (by omega : xs.length + ys.length ≤ 1000) (by decide), fun e => ?_, fun e1 e2 => ?_, fun _ _ p hp => ?_⟩
    · subst e
      cases h2
      exact q _ H (Same.refl H) (.tup nb h3 h4)
    · subst e2
      cases h4
      rw [List.append_nil] at q
      exact q _ H (Same.refl H) (.tup na h1 h2)
    · exact q _ _ (same_upd hp) (DA.newTup hB hp (h2.append h4))
theorem eg_cat (ha : EG C ta Γ (.list ds)) (hb : EG C tb Γ (.list es)) (hz : ds.length + es.length ≤ 1000) : EG C (tOp rCat ta tb) Γ (.list (ds ++ es)) :=
  eg_op ha hb fun H _ hB x y dx dy Q q => by
    obtain ⟨a, xs, rfl, na, h1, h2⟩ := dx.lstInv
    obtain ⟨b, ys, rfl, nb, h3, h4⟩ := dy.lstInv
    have l1 := h2.length
    have l2 := h4.length
    exact ⟨a, b, xs, ys, rfl, rfl, h1, h3, Nat.le_trans (by omega : xs.length + ys.length ≤ 1000) (by decide), fun p hp => q _ _ (same_upd hp) (DA.newLst hB hp (h2.append h4))⟩
theorem DAs.rep {B : List Addr} {H : Hp} {vs : List V} {ds : List PyData} (h : DAs B H vs ds) : ∀ k : Nat, DAs B H (List.replicate k vs).flatten (List.replicate k ds).flatten
  | 0 => .nil
  | k + 1 => by
    rw [List.replicate_succ, List.replicate_succ, List.flatten_cons, List.flatten_cons]
    exact h.append (DAs.rep h k)
theorem eg_rep (ha : EG C ta Γ (.list ds)) (hb : EG C tb Γ (.int i)) (hi : 0 ≤ i ∧ i ≤ 100) (hz : ds.length ≤ 100) : EG C (tOp rRep ta tb) Γ (.list (List.replicate i.toNat ds).flatten) :=
  eg_op ha hb fun H _ hB x y dx dy Q q => by
    obtain ⟨a, xs, rfl, na, h1, h2⟩ := dx.lstInv
    have l1 := h2.length
    have z : xs.length * i.toNat ≤ 100 * 100 := Nat.mul_le_mul (by omega) (by omega)
    exact ⟨a, i, xs, rfl, dy.intInv, h1, by omega, by omega, Nat.le_trans z (by decide), fun p hp => q _ _ (same_upd hp) (DA.newLst hB hp (h2.rep _))⟩
theorem eg_repT (ha : EG C ta Γ (.tuple ds)) (hb : EG C tb Γ (.int i)) (hi : 2 ≤ i ∧ i ≤ 1000) (hz : ds.length ≤ 1000) (hn : ds ≠ []) : EG C (tOp (rRepT K) ta tb) Γ (.tuple (List.replicate i.toNat ds).flatten) :=
  eg_op ha hb fun H _ hB x y dx dy Q q => by
    obtain ⟨a, xs, rfl, na, h1, h2⟩ := dx.tupInv
    have l1 := h2.length
    refine ⟨a, i, xs, rfl, dy.intInv, SqT.of h1, fun e => ?_, hi.1, hi.2, by omega, fun p hp => q _ _ (same_upd hp) (DA.newTup hB hp (h2.rep _))⟩
    subst e
    cases h2
    exact hn rfl
/-- arguments, displays -/
theorem ea_nil : EA C tNil Γ [] := fun _ H _ _ q => q [] H (Same.refl H) .nil
theorem ea_cons (h : EG C te Γ d) (hr : EA C tx Γ ds) : EA C (tCons te tx) Γ (d :: ds) := fun σ H G _ q =>
  h σ H G _ fun v H1 s1 d1 => hr σ H1 (G.mono s1) _ fun vs H2 s2 d2 => q _ H2 (s1.trans s2) (.cons (d1.same s2) d2)
theorem ea_1 (h : EG C te Γ d) : EA C (tCons te tNil) Γ [d] := ea_cons h ea_nil
theorem ea_2 (h : EG C ta Γ d) (h2 : EG C tb Γ e) : EA C (tCons ta (tCons tb tNil)) Γ [d, e] := ea_cons h (ea_1 h2)
theorem eg_tup (h : EA C tx Γ ds) (hz : ds.length ≤ 1000) : EG C (tTup tx) Γ (.tuple ds) := fun σ H G _ q =>
  h σ H G _ fun vs H1 s1 d1 => ⟨by rw [d1.length]; exact Nat.le_trans hz (by decide), fun p hp => q _ _ (s1.trans (same_upd hp)) (DA.newTup (Bs.mono s1 G.b) hp d1)⟩
theorem eg_lst (h : EA C tx Γ ds) (hz : ds.length ≤ 1000) : EG C (tLst tx) Γ (.list ds) := fun σ H G _ q =>
  h σ H G _ fun vs H1 s1 d1 => ⟨by rw [d1.length]; exact Nat.le_trans hz (by decide), fun p hp => q _ _ (s1.trans (same_upd hp)) (DA.newLst (Bs.mono s1 G.b) hp d1)⟩
/-- built-ins by values -/
theorem eg_cb {r : List V → Hp → VK → Prop} (h : EA C tx Γ ds) {z : PyData}
    (hr : ∀ H, (∀ p ∈ C.B, H p ≠ none) → ∀ vs, DAs C.B H vs ds → ∀ Q : VK, (∀ v H2, Same H H2 → DA C.B H2 v z → Q v H2) → r vs H Q) : EG C (tCB r tx) Γ z := fun σ H G Q q =>
  h σ H G _ fun vs H1 s1 d1 => hr H1 (Bs.mono s1 G.b) vs d1 Q fun v H2 s2 d2 => q v H2 (s1.trans s2) d2
theorem DAs.one {B : List Addr} {H : Hp} {vs : List V} {d : PyData} (h : DAs B H vs [d]) : ∃ v, vs = [v] ∧ DA B H v d := by
  cases h with
  | cons h1 h2 =>
    cases h2
    exact ⟨_, rfl, h1⟩
theorem DAs.two {B : List Addr} {H : Hp} {vs : List V} {d e : PyData} (h : DAs B H vs [d, e]) : ∃ v w, vs = [v, w] ∧ DA B H v d ∧ DA B H w e := by
  cases h with
  | cons h1 h2 =>
    obtain ⟨w, rfl, h3⟩ := h2.one
    exact ⟨_, w, rfl, h1, h3⟩
theorem eg_lenT (h : EG C te Γ (.tuple ds)) : EG C (tCB (fun xs H Q => ∃ p ys, xs = [.ref p] ∧ (SqL K H p ys ∨ SqT K H p ys) ∧ Q (.int ys.length) H) (tCons te tNil)) Γ (.int ds.length) :=
  eg_cb (ea_1 h) fun H _ vs hv Q q => by
    obtain ⟨v, rfl, h1⟩ := hv.one
    obtain ⟨a, xs, rfl, _, h2, h3⟩ := h1.tupInv
    exact ⟨a, xs, rfl, .inr (SqT.of h2), q _ H (Same.refl H) (by rw [h3.length]; exact .int _)⟩
theorem eg_lenL (h : EG C te Γ (.list ds)) : EG C (tCB (fun xs H Q => ∃ p ys, xs = [.ref p] ∧ (SqL K H p ys ∨ SqT K H p ys) ∧ Q (.int ys.length) H) (tCons te tNil)) Γ (.int ds.length) :=
  eg_cb (ea_1 h) fun H _ vs hv Q q => by
    obtain ⟨v, rfl, h1⟩ := hv.one
    obtain ⟨a, xs, rfl, _, h2, h3⟩ := h1.lstInv
    exact ⟨a, xs, rfl, .inl (SqL.of h2), q _ H (Same.refl H) (by rw [h3.length]; exact .int _)⟩
theorem eg_listT (h : EG C te Γ (.tuple ds)) : EG C (tCB (fun xs H Q => ∃ p ys, xs = [.ref p] ∧ (SqL K H p ys ∨ SqT K H p ys) ∧ ∀ l, H l = none → Q (.ref l) (upd H l (.lst ys))) (tCons te tNil)) Γ (.list ds) :=
  eg_cb (ea_1 h) fun H hB vs hv Q q => by
    obtain ⟨v, rfl, h1⟩ := hv.one
    obtain ⟨a, xs, rfl, _, h2, h3⟩ := h1.tupInv
    exact ⟨a, xs, rfl, .inr (SqT.of h2), fun l hl => q _ _ (same_upd hl) (DA.newLst hB hl h3)⟩
theorem eg_tupleL (h : EG C te Γ (.list ds)) : EG C (tCB (fun xs H Q => ∃ p ys, xs = [.ref p] ∧ ((SqL K H p ys ∧ ∀ l, H l = none → Q (.ref l) (upd H l (.tup ys))) ∨ (SqT K H p ys ∧ Q (.ref p) H))) (tCons te tNil)) Γ (.tuple ds) :=
  eg_cb (ea_1 h) fun H hB vs hv Q q => by
    obtain ⟨v, rfl, h1⟩ := hv.one
    obtain ⟨a, xs, rfl, _, h2, h3⟩ := h1.lstInv
    exact ⟨a, xs, rfl, .inl ⟨SqL.of h2, fun l hl => q _ _ (same_upd hl) (DA.newTup hB hl h3)⟩⟩
theorem eg_abs (h : EG C te Γ (.int i)) : EG C (tCB (fun xs H Q => ∃ i, xs = [V.int i] ∧ Q (.int (if i < 0 then -i else i)) H) (tCons te tNil)) Γ (.int (if i < 0 then -i else i)) :=
  eg_cb (ea_1 h) fun H _ vs hv Q q => by
    obtain ⟨v, rfl, h1⟩ := hv.one
    rw [h1.intInv]
    exact ⟨i, rfl, q _ H (Same.refl H) (.int _)⟩
theorem eg_max2 (h : EG C ta Γ (.int i)) (h2 : EG C tb Γ (.int j)) : EG C (tCB (fun xs H Q => ∃ i j, xs = [V.int i, V.int j] ∧ Q (.int (if j > i then j else i)) H) (tCons ta (tCons tb tNil))) Γ (.int (if j > i then j else i)) :=
  eg_cb (ea_2 h h2) fun H _ vs hv Q q => by
    obtain ⟨v, w, rfl, h1, h2⟩ := hv.two
    rw [h1.intInv, h2.intInv]
    exact ⟨i, j, rfl, q _ H (Same.refl H) (.int _)⟩
theorem eg_min2 (h : EG C ta Γ (.int i)) (h2 : EG C tb Γ (.int j)) : EG C (tCB (fun xs H Q => ∃ i j, xs = [V.int i, V.int j] ∧ Q (.int (if j < i then j else i)) H) (tCons ta (tCons tb tNil))) Γ (.int (if j < i then j else i)) :=
  eg_cb (ea_2 h h2) fun H _ vs hv Q q => by
    obtain ⟨v, w, rfl, h1, h2⟩ := hv.two
    rw [h1.intInv, h2.intInv]
    exact ⟨i, j, rfl, q _ H (Same.refl H) (.int _)⟩
theorem eg_int1 (h : EG C ta Γ (.int i)) : EG C (tCB (fun xs H Q => (∃ i, xs = [V.int i] ∧ Q (.int i) H) ∨ ∃ k, xs = [V.bl k] ∧ Q (.int (if k then 1 else 0)) H) (tCons ta tNil)) Γ (.int i) :=
  eg_cb (ea_1 h) fun H _ vs hv Q q => by
    obtain ⟨v, rfl, h1⟩ := hv.one
    rw [h1.intInv]
    exact .inl ⟨i, rfl, q _ H (Same.refl H) (.int _)⟩
theorem eg_sum {ns : List Int} (h : EG C te Γ (.list (ns.map PyData.int))) : EG C (tCB (rSum K) (tCons te tNil)) Γ (.int ns.sum) :=
  eg_cb (ea_1 h) fun H _ vs hv Q q => by
    obtain ⟨v, rfl, h1⟩ := hv.one
    obtain ⟨a, xs, rfl, _, h2, h3⟩ := h1.lstInv
    have e := h3.ints
    subst e
    exact ⟨a, ns, rfl, SqL.of h2, q _ H (Same.refl H) (.int _)⟩
theorem eg_min {ns : List Int} {m : Int} (h : EG C te Γ (.list (ns.map PyData.int))) (hm : m ∈ ns) (hl : ∀ y, y ∈ ns → m ≤ y) : EG C (tCB (rMin K) (tCons te tNil)) Γ (.int m) :=
  eg_cb (ea_1 h) fun H _ vs hv Q q => by
    obtain ⟨v, rfl, h1⟩ := hv.one
    obtain ⟨a, xs, rfl, _, h2, h3⟩ := h1.lstInv
    have e := h3.ints
    subst e
    refine ⟨a, ns, rfl, SqL.of h2, List.length_pos_of_mem hm, fun m' hm' hl' => ?_⟩
    have e : m' = m := Int.le_antisymm (hl' m hm) (hl m' hm')
    subst e
    exact q _ H (Same.refl H) (.int _)
end
end K58
/-! Tests, slices, targets, statements, loops, comprehensions, calls over the data layer. -/
namespace K58
open PySem PySem.Spec PyProof.Rows L2
section
variable {C : Cn} {Γ Γ' Γ1 Γ2 : Gm} {ta tb tc te tl : TE} {tt tu : TT} {tx ty : TA} {d e : PyData} {ds es : List PyData} {i j : Int} {K : PySem.W.Frag} {a b c : Bool} {t u : TS} {o : Option PyData}
/-! ### tests -/
theorem et_test (h : EG C te Γ (.bool b)) : ET C (tTest te) Γ b := fun σ H G _ q => h σ H G _ fun v H1 s1 d1 => ⟨b, d1.blInv, q H1 s1⟩
theorem et_B (h : EG C te Γ (.bool b)) : ET C (tB te) Γ b := fun σ H G _ q => h σ H G _ fun v H1 s1 d1 => ⟨b, d1.blInv, q H1 s1⟩
theorem et_not (h : ET C tt Γ b) : ET C (tNot tt) Γ (!b) := fun σ H G _ q => h σ H G _ fun H1 s1 => q H1 s1
theorem et_and (h : ET C tt Γ a) (h2 : a = true → ET C tu Γ b) : ET C (tAnd tt tu) Γ (a && b) := fun σ H G Q q => h σ H G _ fun H1 s1 => by
  cases a with
  | true =>
    show tu σ H1 Q
    exact h2 rfl σ H1 (G.mono s1) Q fun H2 s2 => q H2 (s1.trans s2)
  | false =>
    show Q false H1
    exact q H1 s1
theorem et_or (h : ET C tt Γ a) (h2 : a = false → ET C tu Γ b) : ET C (tOr tt tu) Γ (a || b) := fun σ H G Q q => h σ H G _ fun H1 s1 => by
  cases a with
  | false =>
    show tu σ H1 Q
    exact h2 rfl σ H1 (G.mono s1) Q fun H2 s2 => q H2 (s1.trans s2)
  | true =>
    show Q true H1
    exact q H1 s1
theorem et_yes : ET C tYes Γ true := fun _ H _ _ q => q H (Same.refl H)
theorem eg_andV (h : EG C ta Γ (.bool a)) (h2 : a = true → EG C tb Γ (.bool b)) : EG C (tAndV ta tb) Γ (.bool (a && b)) := fun σ H G Q q => h σ H G _ fun v H1 s1 d1 => ⟨a, d1.blInv, by
  cases a with
  | true =>
    show tb σ H1 Q
    exact h2 rfl σ H1 (G.mono s1) Q fun v H2 s2 d2 => q v H2 (s1.trans s2) d2
  | false =>
    show Q (.bl false) H1
    exact q _ H1 s1 (.bl _)⟩
theorem eg_orV (h : EG C ta Γ (.bool a)) (h2 : a = false → EG C tb Γ (.bool b)) : EG C (tOrV ta tb) Γ (.bool (a || b)) := fun σ H G Q q => h σ H G _ fun v H1 s1 d1 => ⟨a, d1.blInv, by
  cases a with
  | false =>
    show tb σ H1 Q
    exact h2 rfl σ H1 (G.mono s1) Q fun v H2 s2 d2 => q v H2 (s1.trans s2) d2
  | true =>
    show Q (.bl true) H1
    exact q _ H1 s1 (.bl _)⟩
theorem eg_notV (h : EG C ta Γ (.bool a)) : EG C (tNotV ta) Γ (.bool (!a)) := fun σ H G Q q => h σ H G _ fun v H1 s1 d1 => ⟨a, d1.blInv, q _ H1 s1 (.bl _)⟩
theorem eg_if (h : ET C tt Γ b) (h1 : b = true → EG C ta Γ d) (h2 : b = false → EG C tb Γ d) : EG C (tIf tt ta tb) Γ d := fun σ H G Q q => h σ H G _ fun H1 s1 => by
  cases b with
  | true =>
    show ta σ H1 Q
    exact h1 rfl σ H1 (G.mono s1) Q fun v H2 s2 d2 => q v H2 (s1.trans s2) d2
  | false =>
    show tb σ H1 Q
    exact h2 rfl σ H1 (G.mono s1) Q fun v H2 s2 d2 => q v H2 (s1.trans s2) d2
/-- a <= b <= c -/
theorem eg_chain {g g' : Int → Int → Bool} {k : Int} (ha : EG C ta Γ (.int i)) (hb : EG C tb Γ (.int j)) (hc : EG C tc Γ (.int k)) :
    EG C (tChain (rI0 fun i j => .bl (g i j)) (rI0 fun i j => .bl (g' i j)) ta tb tc) Γ (.bool (g i j && g' j k)) := fun σ H G Q q =>
  ha σ H G _ fun x H1 s1 d1 => hb σ H1 (G.mono s1) _ fun y H2 s2 d2 => ⟨i, j, d1.intInv, d2.intInv, g i j, rfl, by
    cases hg : g i j with
    | false =>
      rw [hg] at q
      show Q (.bl false) H2
      exact q _ H2 (s1.trans s2) (.bl _)
    | true =>
      rw [hg] at q
      show tc σ H2 _
      exact hc σ H2 (G.mono (s1.trans s2)) _ fun z H3 s3 d3 => ⟨j, k, d2.intInv, d3.intInv, q _ H3 ((s1.trans s2).trans s3) (.bl _)⟩⟩
theorem eg_leLe {k : Int} (ha : EG C ta Γ (.int i)) (hb : EG C tb Γ (.int j)) (hc : EG C tc Γ (.int k)) :
    EG C (tChain (rI0 fun i j => .bl (decide (i ≤ j))) (rI0 fun i j => .bl (decide (i ≤ j))) ta tb tc) Γ (.bool (decide (i ≤ j) && decide (j ≤ k))) := eg_chain (g := fun i j => decide (i ≤ j)) (g' := fun i j => decide (i ≤ j)) ha hb hc
/-! ### slices -/
def cutD (ds : List PyData) (lo hi : Option Int) : List PyData := (ds.drop (HT.sIx ds.length 0 lo)).take (HT.sIx ds.length ds.length hi - HT.sIx ds.length 0 lo)
theorem eo_none : EO C tNoPart Γ none := fun _ H _ _ q => q H (Same.refl H)
theorem eo_some (h : EG C te Γ (.int i)) : EO C (tPart te) Γ (some i) := fun σ H G _ q => h σ H G _ fun v H1 s1 d1 => ⟨i, d1.intInv, q H1 s1⟩
theorem eg_slT {to1 to2 : TO} {lo hi : Option Int} (h : EG C te Γ (.tuple ds)) (h1 : EO C to1 Γ lo) (h2 : EO C to2 Γ hi) : EG C (tSl (rSlA K) te to1 to2) Γ (.tuple (cutD ds lo hi)) := fun σ H G Q q =>
  h σ H G _ fun v H1 s1 d1 => h1 σ H1 (G.mono s1) _ fun H2 s2 => h2 σ H2 (G.mono (s1.trans s2)) _ fun H3 s3 => by
    have S := (s1.trans s2).trans s3
    obtain ⟨a, xs, rfl, na, e1, e2⟩ := (d1.same (s2.trans s3)).tupInv
    have hl := e2.length
    refine ⟨a, xs, rfl, SqT.of e1, fun w => ?_, fun _ p hp => ?_⟩
    · have hc : cutD ds lo hi = ds := by
        unfold cutD
        rw [← hl, w.1, w.2, List.drop_zero, Nat.sub_zero, hl, List.take_length]
      rw [hc] at q
      exact q _ H3 S (.tup na e1 e2)
    · refine q _ _ (S.trans (same_upd hp)) (DA.newTup (Bs.mono S G.b) hp ?_)
      unfold cutV cutD
      rw [hl]
      exact (e2.drop _).take _
/-! ### targets -/
theorem gt_name {n : Nat} : GT C [n] (gName n) Γ d (Γ.set n (some d)) := fun σ H v G dv Q q => q _ (G.set dv n) fun vs h => set_wipe (h n List.mem_cons_self)
theorem gts_nil : GTs C [] gNil Γ [] Γ := fun σ H vs G dv Q q => by
  cases dv
  exact ⟨rfl, q σ G fun _ _ => rfl⟩
theorem gts_cons {g : TG} {gs : TGs} {js ks : List Nat} (h : GT C js g Γ d Γ1) (h2 : GTs C ks gs Γ1 ds Γ2) : GTs C (js ++ ks) (gCons g gs) Γ (d :: ds) Γ2 := fun σ H vs G dv Q q => by
  cases dv with
  | cons d1 d2 =>
    refine ⟨_, _, rfl, h σ H _ G d1 _ fun σ1 G1 w1 => h2 σ1 H _ G1 d2 _ fun σ2 G2 w2 => q σ2 G2 fun ws hw => ?_⟩
    rw [w2 ws fun j hj => hw j (List.mem_append_right _ hj), w1 ws fun j hj => hw j (List.mem_append_left _ hj)]
theorem gt_tup {gs : TGs} {js : List Nat} {n : Nat} (h : GTs C js gs Γ ds Γ1) (hn : ds.length = n) : GT C js (gTup K n gs) Γ (.tuple ds) Γ1 := fun σ H v G dv Q q => by
  obtain ⟨a, xs, rfl, na, e1, e2⟩ := dv.tupInv
  exact ⟨a, xs, rfl, SqT.of e1, e2.length.trans hn, h σ H xs G e2 Q q⟩
theorem gt_2 {n m : Nat} : GT C [n, m] (gTup K 2 (gCons (gName n) (gCons (gName m) gNil))) Γ (.tuple [d, e]) ((Γ.set n (some d)).set m (some e)) :=
  gt_tup (gts_cons gt_name (gts_cons gt_name gts_nil)) rfl
/-! ### statements -/
theorem bg_nil : BG C tNext Γ none Γ := fun σ H G D _ q => q rfl σ H (Same.refl H) G
theorem bg_seq (h : BG C t Γ none Γ1) (h2 : BG C u Γ1 o Γ2) : BG C (tSeq t u) Γ o Γ2 := fun σ H G D r q =>
  h σ H G { D with nx := u D } (fun _ e => nomatch e) fun _ σ1 H1 s1 G1 => h2 σ1 H1 G1 D (fun d e v H2 s2 d2 => r d e v H2 (s1.trans s2) d2) fun e σ2 H2 s2 G2 => q e σ2 H2 (s1.trans s2) G2
theorem bg_seqR (h : BG C t Γ (some d) Γ1) : BG C (tSeq t u) Γ (some d) Γ2 := fun σ H G D r _ =>
  h σ H G { D with nx := u D } (fun d e v H2 s2 d2 => r d e v H2 s2 d2) fun e => nomatch e
theorem bg_less (h : BG C t Γ1 o Γ2) (l1 : Gle Γ1 Γ) (l2 : Gle Γ' Γ2) : BG C t Γ o Γ' := fun σ H G D r q => h σ H (G.less l1) D r fun e σ2 H2 s2 G2 => q e σ2 H2 s2 (G2.less l2)
theorem bg_pre (h : BG C t Γ1 o Γ2) (l1 : Gle Γ1 Γ) : BG C t Γ o Γ2 := bg_less h l1 (Gle.refl _)
theorem bg_post (h : BG C t Γ o Γ2) (l2 : Gle Γ' Γ2) : BG C t Γ o Γ' := bg_less h (Gle.refl _) l2
theorem bg_set {n : Nat} (h : EG C te Γ d) : BG C (tAsg te (gName n)) Γ none (Γ.set n (some d)) := fun σ H G D _ q => h σ H G _ fun v H1 s1 d1 => q rfl _ H1 s1 ((G.mono s1).set d1 n)
theorem bg_asg {g : TG} {js : List Nat} (h : EG C te Γ d) (hg : GT C js g Γ d Γ1) : BG C (tAsg te g) Γ none Γ1 := fun σ H G D _ q => h σ H G _ fun v H1 s1 d1 => hg σ H1 v (G.mono s1) d1 _ fun σ2 G2 _ => q rfl σ2 H1 s1 G2
theorem bg_ret (h : EG C te Γ d) : BG C (tRet te) Γ (some d) Γ' := fun σ H G D r _ => h σ H G _ fun v H1 s1 d1 => r d rfl v H1 s1 d1
theorem bg_drop (h : EG C te Γ d) : BG C (tDrop te) Γ none Γ := fun σ H G D _ q => h σ H G _ fun v H1 s1 d1 => q rfl σ H1 s1 (G.mono s1)
theorem bg_if (h : ET C tt Γ b) (h1 : b = true → BG C t Γ o Γ') (h2 : b = false → BG C u Γ o Γ') : BG C (tIfS tt t u) Γ o Γ' := fun σ H G D r q => h σ H G _ fun H1 s1 => by
  cases b with
  | true =>
    show t D σ H1
    exact h1 rfl σ H1 (G.mono s1) D (fun d e v H2 s2 d2 => r d e v H2 (s1.trans s2) d2) fun e σ2 H2 s2 G2 => q e σ2 H2 (s1.trans s2) G2
  | false =>
    show u D σ H1
    exact h2 rfl σ H1 (G.mono s1) D (fun d e v H2 s2 d2 => r d e v H2 (s1.trans s2) d2) fun e σ2 H2 s2 G2 => q e σ2 H2 (s1.trans s2) G2
theorem bg_ifT (h : ET C tt Γ true) (h1 : BG C t Γ o Γ') : BG C (tIfS tt t u) Γ o Γ' := bg_if h (fun _ => h1) fun e => nomatch e
theorem bg_ifF (h : ET C tt Γ false) (h1 : BG C u Γ o Γ') : BG C (tIfS tt t u) Γ o Γ' := bg_if h (fun e => nomatch e) fun _ => h1
theorem bg_par {n m : Nat} (h : EA C tx Γ [d, e]) : BG C (tPar n m tx) Γ none ((Γ.set n (some d)).set m (some e)) := fun σ H G D _ q => h σ H G _ fun vs H1 s1 d1 => by
  obtain ⟨v, w, rfl, d2, d3⟩ := d1.two
  exact ⟨v, w, rfl, q rfl _ H1 s1 (((G.mono s1).set d2 n).set d3 m)⟩
theorem bg_while {α : Type} (Γs : α → Gm) (μ : α → Nat) (inv : α → Prop) (c : α → Bool) (a0 : α) (h0 : inv a0) (hc : ∀ a, inv a → ET C tt (Γs a) (c a))
    (hb : ∀ a, inv a → c a = true → ∃ a', inv a' ∧ μ a' < μ a ∧ BG C t (Γs a) none (Γs a')) (he : ∀ a, inv a → c a = false → Gle Γ' (Γs a)) : BG C (tWhile tt t) (Γs a0) none Γ' := fun σ H G D _ q => by
  refine ⟨fun m σ' H' => ∃ a, inv a ∧ m = μ a ∧ Same H H' ∧ Gs C (Γs a) σ' H', ⟨_, a0, h0, rfl, Same.refl H, G⟩, ?_⟩
  rintro m σ1 H1 ⟨a, ia, rfl, s1, G1⟩
  refine hc a ia σ1 H1 G1 _ fun H2 s2 => ?_
  cases hca : c a with
  | true =>
    show ∃ N : L2.St → Hp → Prop, _
    obtain ⟨a', ia', hm, hbody⟩ := hb a ia hca
    refine ⟨fun σ' H' => Same H H' ∧ Gs C (Γs a') σ' H', fun σ' H' ⟨s, g⟩ => ⟨μ a', hm, a', ia', rfl, s, g⟩, ?_⟩
    exact hbody σ1 H2 (G1.mono s2) _ (fun _ e => nomatch e) fun _ σ3 H3 s3 G3 => ⟨(s1.trans s2).trans s3, G3⟩
  | false =>
    show D.nx σ1 H2
    exact q rfl σ1 H2 (s1.trans s2) ((G1.mono s2).less (he a ia hca))
/-! ### what is walked -/
/-- nothing outside B changes -/
def SmB (B : List Addr) (H H' : Hp) : Prop := ∀ a o, a ∉ B → H a = some o → H' a = some o
theorem smB_of {B : List Addr} {H H' : Hp} (s : Same H H') : SmB B H H' := fun a o _ h => s a o h
structure Src (C : Cn) (H1 : Hp) (J : It) (n : Nat) (dat : Nat → PyData) : Prop where
  ex : ∃ (G : Hp → Prop) (Y : Nat → Hp → V → Hp → Prop), Walk J n G Y ∧ (∀ H', SmB C.B H1 H' → G H') ∧
    ∀ B' : List Addr, (∀ v d, DA C.B H1 v d → DA B' H1 v d) → (∀ a, a ∈ C.B → a ∈ B') → ∀ i H x H', i < n → SmB B' H1 H → (∀ p ∈ B', H p ≠ none) → Y i H x H' → Same H H' ∧ DA B' H' x (dat i)
def EI (C : Cn) (wi : TI) (Γ : Gm) (n : Nat) (dat : Nat → PyData) : Prop := ∀ σ H, Gs C Γ σ H → ∀ R : It → Hp → Prop, (∀ J H1, Same H H1 → Src C H1 J n dat → R J H1) → wi σ H R
theorem ei_tup (h : EG C tl Γ (.tuple ds)) : EI C (iTup K tl) Γ ds.length (fun i => ds.getD i .none) := fun σ H G R q => h σ H G _ fun v H1 s1 d1 => by
  obtain ⟨a, xs, rfl, na, e1, e2⟩ := d1.tupInv
  have hl := e2.length
  refine ⟨a, rfl, ⟨xs, SqT.of e1⟩, q _ H1 s1 ⟨_, _, hl ▸ walk_tup (K := K) (a := a) (xs := xs), fun H' s => SqT.of (s a _ na e1), fun B' hB hs i H x H' hi s hp y => ?_⟩⟩
  obtain ⟨rfl, hx⟩ := y
  obtain ⟨d, h1, h2⟩ := e2.getV hx
  refine ⟨Same.refl _, ?_⟩
  rw [List.getD_eq_getElem?_getD, h1]
  exact DA.mono s _ _ (hB _ _ h2)
theorem ei_list (h : EG C tl Γ (.list ds)) : EI C (iList K tl) Γ ds.length (fun i => ds.getD i .none) := fun σ H G R q => h σ H G _ fun v H1 s1 d1 => by
  obtain ⟨a, xs, rfl, na, e1, e2⟩ := d1.lstInv
  have hl := e2.length
  refine ⟨a, rfl, ⟨xs, SqL.of e1⟩, q _ H1 s1 ⟨_, _, hl ▸ walk_list (K := K) (a := a) (xs := xs), fun H' s => SqL.of (s a _ na e1), fun B' hB hs i H x H' hi s hp y => ?_⟩⟩
  obtain ⟨rfl, hx⟩ := y
  obtain ⟨d, h1, h2⟩ := e2.getV hx
  refine ⟨Same.refl _, ?_⟩
  rw [List.getD_eq_getElem?_getD, h1]
  exact DA.mono s _ _ (hB _ _ h2)
theorem ei_rng1 {n : Nat} (h : EA C tx Γ [.int (n : Int)]) (hn : n ≤ 100000) : EI C (iRng1 tx) Γ n (fun i => .int (i : Nat)) := fun σ H G R q => h σ H G _ fun vs H1 s1 d1 => by
  obtain ⟨v, rfl, d2⟩ := d1.one
  rw [d2.intInv]
  refine ⟨(n : Int), rfl, by omega, by omega, q _ H1 s1 ⟨_, _, (show Walk (Itr 0 ((n : Nat) : Int).toNat) n (fun _ => True) (YFn fun i => .int (0 + i)) from walk_range (lo := 0) (n := n)), fun _ _ => True.intro, fun B' hB hs i H x H' hi s hp y => ?_⟩⟩
  obtain ⟨rfl, rfl⟩ := y
  refine ⟨Same.refl _, ?_⟩
  show DA B' H' (V.int (0 + (i : Int))) _
  rw [Int.zero_add]
  exact .int _
theorem ei_rng2 {i j : Int} (h : EA C tx Γ [.int i, .int j]) (hi : -100000 ≤ i ∧ i ≤ 100000) (hj : -100000 ≤ j ∧ j ≤ 100000) : EI C (iRng2 tx) Γ (j - i).toNat (fun k => .int (i + (k : Nat))) := fun σ H G R q => h σ H G _ fun vs H1 s1 d1 => by
  obtain ⟨v, w, rfl, d2, d3⟩ := d1.two
  rw [d2.intInv, d3.intInv]
  refine ⟨i, j, rfl, ⟨by omega, by omega, by omega, by omega⟩, q _ H1 s1 ⟨_, _, walk_range, fun _ _ => True.intro, fun B' hB hs k H x H' hi s hp y => ?_⟩⟩
  obtain ⟨rfl, rfl⟩ := y
  exact ⟨Same.refl _, .int _⟩
/-- a for: the slots' data by the turn; outs: what a turn hands back -/
theorem bg_for {wi : TI} {g : TG} {n : Nat} {dat : Nat → PyData} (Γs : Nat → Gm) (outs : Nat → Option PyData) (hi : EI C wi Γ n dat) (h0 : Gle (Γs 0) Γ)
    (turn : ∀ i, i < n → (∀ j, j < i → outs j = none) → ∃ js Γ1, GT C js g (Γs i) (dat i) Γ1 ∧ BG C t Γ1 (outs i) (Γs (i + 1)))
    (h1 : ∀ i d, i < n → outs i = some d → (∀ j, j < i → outs j = none) → o = some d) (h2 : (∀ i, i < n → outs i = none) → o = none ∧ Gle Γ' (Γs n)) : BG C (tFor wi g t) Γ o Γ' := fun σ H G D r q => by
  refine hi σ H G _ fun J H1 s1 S => ?_
  obtain ⟨Gw, Y, W, gw, yw⟩ := S.ex
  refine for_it W (fun i σ' H' => Same H1 H' ∧ Gs C (Γs i) σ' H' ∧ ∀ j, j < i → outs j = none) ⟨Same.refl H1, (G.mono s1).less h0, fun j hj => absurd hj (Nat.not_lt_zero _)⟩ (fun i σ' H' _ p => gw H' (smB_of p.1)) (fun i x σ' H' H'' hi p y => ?_) (fun σ' H' p => ?_)
  · obtain ⟨s2, G2, no⟩ := p
    obtain ⟨s3, dx⟩ := yw C.B (fun _ _ h => h) (fun _ h => h) i H' x H'' hi (smB_of s2) G2.b y
    obtain ⟨js, Γ1, hg, hb⟩ := turn i hi no
    refine hg σ' H'' x (G2.mono s3) dx _ fun σ2 G3 _ => ?_
    have S3 := (s1.trans s2).trans s3
    refine hb σ2 H'' G3 _ (fun d e v H2 s4 d4 => r d (h1 i d hi e no) v H2 (S3.trans s4) d4) fun e σ4 H4 s4 G4 => ⟨(s2.trans s3).trans s4, G4, fun j hj => ?_⟩
    rcases Nat.lt_or_ge j i with hlt | hge
    · exact no j hlt
    · have ej : j = i := by omega
      rw [ej]
      exact e
  · obtain ⟨s2, G2, no⟩ := p
    obtain ⟨ho, hl⟩ := h2 no
    exact q ho σ' H' (s1.trans s2) (G2.less hl)
/-- a for that goes on -/
theorem bg_forN {wi : TI} {g : TG} {n : Nat} {dat : Nat → PyData} (Γs : Nat → Gm) (hi : EI C wi Γ n dat) (h0 : Gle (Γs 0) Γ)
    (turn : ∀ i, i < n → ∃ js Γ1, GT C js g (Γs i) (dat i) Γ1 ∧ BG C t Γ1 none (Γs (i + 1))) (h2 : Gle Γ' (Γs n)) : BG C (tFor wi g t) Γ none Γ' :=
  bg_for Γs (fun _ => none) hi h0 (fun i hi _ => turn i hi) (fun _ _ _ e _ => nomatch e) fun _ => ⟨rfl, h2⟩
/-! ### comprehensions -/
def given (n : Nat) (f : Nat → Bool) (r : Nat → PyData) : List PyData := ((List.range n).filter f).map r
theorem given_succ (n : Nat) (f : Nat → Bool) (r : Nat → PyData) : given (n + 1) f r = given n f r ++ (if f n = true then [r n] else []) := by
  unfold given
  rw [List.range_succ, List.filter_append, List.map_append, List.filter_cons]
  cases f n <;> rfl
theorem given_len (n : Nat) (f : Nat → Bool) (r : Nat → PyData) : (given n f r).length ≤ n := by
  unfold given
  rw [List.length_map]
  have h := List.length_filter_le f (List.range n)
  rw [List.length_range] at h
  exact h
theorem Gs.addSame {σ : L2.St} {H H' : Hp} {p : Addr} (G : Gs C Γ σ H) (hp : H p = none) (s : Same H H') (hp' : H' p ≠ none) : Gs (C.add p) Γ σ H' :=
  ⟨C.mono _ _ s G.m, fun q hq => (List.mem_cons.mp hq).elim (fun e => by rw [e]; exact hp') (fun e => Bs.mono s G.b q e), G.l, fun i d h => let ⟨v, h1, h2⟩ := G.g i d h; ⟨v, h1, (DA.add hp _ _ h2).same s⟩⟩
theorem same_mut {H H' : Hp} {p : Addr} {o : HO} (e : Same H H') (h : H p = none) : Same H (upd H' p o) := fun a u ha => by
  rw [upd_ne (ne_of_none ha h)]
  exact e a u ha
theorem sz1 {n : Nat} (h : n ≤ 100000) : n < sizeLine := Nat.lt_of_le_of_lt h (by decide)
theorem eg_lc {wi : TI} {g : TG} {vs : List Nat} {n : Nat} {dat : Nat → PyData} (f : Nat → Bool) (r : Nat → PyData) (hi : EI C wi Γ n dat) (hn : n ≤ 100000)
    (turn : ∀ p i, i < n → ∃ js Γ1, (∀ j ∈ js, j ∈ vs) ∧ GT (C.add p) js g (wipeG Γ vs) (dat i) Γ1 ∧ ET (C.add p) tt Γ1 (f i) ∧ (f i = true → EG (C.add p) te Γ1 (r i))) :
    EG C (tLc wi g tt te vs) Γ (.list (given n f r)) := fun σ H G Q q => by
  refine hi σ H G _ fun J H1 s1 S => ?_
  intro D hD
  obtain ⟨Gw, Y, W, gw, yw⟩ := S.ex
  have G1 := G.mono s1
  have Gp : ∀ H', Same H1 H' → H' D ≠ none → Gs (C.add D) (wipeG Γ vs) (wipe σ vs) H' := fun H' s h => (G1.wipe vs).addSame hD s h
  refine lc_it W (fun i H' => Same H1 H' ∧ ∃ acc, H' D = some (.lst acc) ∧ DAs (D :: C.B) H' acc (given i f r)) ⟨same_upd hD, [], upd_same, .nil⟩ (fun i H' _ p => gw H' (smB_of p.1)) (fun i x H' H'' hin p y => ?_) (fun H' p => ?_)
  · obtain ⟨s2, acc, ha, hda⟩ := p
    have G2 := Gp H' s2 (by rw [ha]; simp)
    obtain ⟨s3, dx⟩ := yw (D :: C.B) (fun v d h => DA.add hD d v h) (fun a h => List.mem_cons_of_mem _ h) i H' x H'' hin (smB_of s2) G2.b y
    obtain ⟨js, Γ1, hjs, hg, ht, he⟩ := turn D i hin
    refine hg _ H'' x (G2.mono s3) dx _ fun σ2 G3 w3 => ⟨(w3 vs hjs).trans wipe_wipe, ?_⟩
    refine ht σ2 H'' G3 _ fun H3 s4 => ?_
    have S4 := (s2.trans s3).trans s4
    cases hf : f i with
    | true =>
      show te σ2 H3 _
      refine he hf σ2 H3 (G3.mono s4) _ fun y H4 s5 dy => ⟨acc, s5 D _ (s4 D _ (s3 D _ ha)), ?_, same_mut (S4.trans s5) hD, acc ++ [y], upd_same, ?_⟩
      · rw [hda.length]
        exact sz1 (Nat.le_trans (given_len i f r) (by omega))
      · rw [given_succ, if_pos hf]
        exact ((hda.same ((s3.trans s4).trans s5)).append (.cons dy .nil)).upd List.mem_cons_self
    | false =>
      show Same H1 H3 ∧ _
      refine ⟨S4, acc, s4 D _ (s3 D _ ha), ?_⟩
      rw [given_succ, if_neg (by rw [hf]; exact Bool.false_ne_true), List.append_nil]
      exact hda.same (s3.trans s4)
  · obtain ⟨s2, acc, ha, hda⟩ := p
    exact q _ H' (s1.trans s2) (.lst (notB G1.b hD) ha (DAs.weak (fun a h => List.mem_cons_of_mem _ h) _ _ hda))
/-- two clauses, no test in the first -/
def given2 (n : Nat) (h : Nat → List PyData) : List PyData := ((List.range n).map h).flatten
theorem given2_succ (n : Nat) (h : Nat → List PyData) : given2 (n + 1) h = given2 n h ++ h n := by
  unfold given2
  rw [List.range_succ, List.map_append, List.flatten_append]
  simp
theorem eg_lc2 {wi wi1 : TI} {g g1 : TG} {vs vs1 : List Nat} {n : Nat} {dat : Nat → PyData} {m : Nat → Nat} {dat1 : Nat → Nat → PyData} (f : Nat → Nat → Bool) (r : Nat → Nat → PyData) (hi : EI C wi Γ n dat) (hm : ∀ i, i < n → (given2 i fun i => given (m i) (f i) (r i)).length + m i ≤ 100000)
    (turn : ∀ p i, i < n → ∃ js Γ1, (∀ j ∈ js, j ∈ vs) ∧ GT (C.add p) js g (wipeG Γ vs) (dat i) Γ1 ∧ EI (C.add p) wi1 Γ1 (m i) (dat1 i) ∧
      ∀ j, j < m i → ∃ js1 Γ2, (∀ j ∈ js1, j ∈ vs1) ∧ GT (C.add p) js1 g1 (wipeG Γ1 vs1) (dat1 i j) Γ2 ∧ ET (C.add p) tu Γ2 (f i j) ∧ (f i j = true → EG (C.add p) te Γ2 (r i j))) :
    EG C (tLc2 wi g tYes wi1 g1 tu te vs vs1) Γ (.list (given2 n fun i => given (m i) (f i) (r i))) := fun σ H G Q q => by
  refine hi σ H G _ fun J H1 s1 S => ?_
  intro D hD
  obtain ⟨Gw, Y, W, gw, yw⟩ := S.ex
  have G1 := G.mono s1
  have Gp : ∀ H', Same H1 H' → H' D ≠ none → Gs (C.add D) (wipeG Γ vs) (wipe σ vs) H' := fun H' s h => (G1.wipe vs).addSame hD s h
  refine ⟨fun i k H' => k = n - i ∧ i ≤ n ∧ Same H1 H' ∧ ∃ acc, H' D = some (.lst acc) ∧ DAs (D :: C.B) H' acc (given2 i fun i => given (m i) (f i) (r i)), ⟨n, by simp, Nat.zero_le _, same_upd hD, [], upd_same, .nil⟩, ?_⟩
  rintro i k H' ⟨rfl, hin, s2, acc, ha, hda⟩
  by_cases hlt : i < n
  · have G2 := Gp H' s2 (by rw [ha]; simp)
    refine .inr ⟨W.goes i H' hlt (gw H' (smB_of s2)), fun H3 => Same H1 H3 ∧ ∃ acc, H3 D = some (.lst acc) ∧ DAs (D :: C.B) H3 acc (given2 (i + 1) fun i => given (m i) (f i) (r i)), fun H3 p => ⟨n - (i + 1), by omega, rfl, hlt, p⟩, fun x H'' y => ?_⟩
    obtain ⟨s3, dx⟩ := yw (D :: C.B) (fun v d h => DA.add hD d v h) (fun a h => List.mem_cons_of_mem _ h) i H' x H'' hlt (smB_of s2) G2.b (W.yields i H' x H'' hlt (gw H' (smB_of s2)) y)
    obtain ⟨js, Γ1, hjs, hg, hi1, hin1⟩ := turn D i hlt
    refine hg _ H'' x (G2.mono s3) dx _ fun σ2 G3 w3 => ⟨(w3 vs hjs).trans wipe_wipe, ?_⟩
    show wi1 σ2 H'' _
    refine hi1 σ2 H'' G3 _ fun J1 H3 s4 S1 => ?_
    obtain ⟨Gw1, Y1, W1, gw1, yw1⟩ := S1.ex
    have S3 := (s2.trans s3).trans s4
    have G4 := G3.mono s4
    have hda3 := hda.same (s3.trans s4)
    have ha3 := s4 D _ (s3 D _ ha)
    -- the inner loop: all but D stays
    refine ⟨fun j k H4 => k = m i - j ∧ j ≤ m i ∧ Same H1 H4 ∧ SmB (D :: C.B) H3 H4 ∧ ∃ acc, H4 D = some (.lst acc) ∧ DAs (D :: C.B) H4 acc ((given2 i fun i => given (m i) (f i) (r i)) ++ given j (f i) (r i)), ⟨m i, by simp, Nat.zero_le _, S3, smB_of (Same.refl H3), acc, ha3, ?_⟩, ?_⟩
    · show DAs (D :: C.B) H3 acc ((given2 i fun i => given (m i) (f i) (r i)) ++ [])
      rw [List.append_nil]
      exact hda3
    · rintro j k H4 ⟨rfl, hjn, s5, sb5, acc1, ha1, hda1⟩
      have bs4 : ∀ p ∈ (C.add D).B, H4 p ≠ none := fun p hp => (List.mem_cons.mp hp).elim (fun e => by rw [e, ha1]; simp) (fun e => Bs.mono s5 G1.b p e)
      have G5 : Gs (C.add D) Γ1 σ2 H4 := ⟨C.mono _ _ s5 G1.m, bs4, G4.l, fun a b hab => let ⟨v, h1, h2⟩ := G4.g a b hab; ⟨v, h1, DA.mono sb5 _ _ h2⟩⟩
      by_cases hlt1 : j < m i
      · refine .inr ⟨W1.goes j H4 hlt1 (gw1 H4 sb5), fun H5 => Same H1 H5 ∧ SmB (D :: C.B) H3 H5 ∧ ∃ acc, H5 D = some (.lst acc) ∧ DAs (D :: C.B) H5 acc ((given2 i fun i => given (m i) (f i) (r i)) ++ given (j + 1) (f i) (r i)), fun H5 p => ⟨m i - (j + 1), by omega, rfl, hlt1, p⟩, fun x1 H5 y1 => ?_⟩
        obtain ⟨s6, dx1⟩ := yw1 (C.add D).B (fun v d h => h) (fun a h => h) j H4 x1 H5 hlt1 sb5 bs4 (W1.yields j H4 x1 H5 hlt1 (gw1 H4 sb5) y1)
        obtain ⟨js1, Γ2, hjs1, hg1, ht1, he1⟩ := hin1 j hlt1
        refine hg1 _ H5 x1 ((G5.mono s6).wipe vs1) dx1 _ fun σ3 G6 w6 => ⟨(w6 vs1 hjs1).trans wipe_wipe, ?_⟩
        refine ht1 σ3 H5 G6 _ fun H6 s7 => ?_
        have S7 := (s5.trans s6).trans s7
        have sb7 : SmB (D :: C.B) H3 H6 := fun a u na z => s7 a u (s6 a u (sb5 a u na z))
        cases hf : f i j with
        | true =>
          show te σ3 H6 _
          refine he1 hf σ3 H6 (G6.mono s7) _ fun y2 H7 s8 dy => ⟨acc1, s8 D _ (s7 D _ (s6 D _ ha1)), ?_, same_mut (S7.trans s8) hD, fun a u na z => ?_, acc1 ++ [y2], upd_same, ?_⟩
          · rw [hda1.length, List.length_append]
            have q1 := given_len j (f i) (r i)
            have q2 := hm i hlt
            exact sz1 (by omega)
          · rw [upd_ne (fun e => na (by rw [e]; exact List.mem_cons_self))]
            exact s8 a u (sb7 a u na z)
          · rw [given_succ, if_pos hf, ← List.append_assoc]
            exact ((hda1.same ((s6.trans s7).trans s8)).append (.cons dy .nil)).upd List.mem_cons_self
        | false =>
          show Same H1 H6 ∧ _
          refine ⟨S7, sb7, acc1, s7 D _ (s6 D _ ha1), ?_⟩
          rw [given_succ, if_neg (by rw [hf]; exact Bool.false_ne_true), List.append_nil]
          exact hda1.same (s6.trans s7)
      · have ej : j = m i := by omega
        subst ej
        refine .inl ⟨W1.stops H4 (gw1 H4 sb5), s5, acc1, ha1, ?_⟩
        rw [given2_succ]
        exact hda1
  · have e : i = n := by omega
    subst e
    exact .inl ⟨W.stops H' (gw H' (smB_of s2)), q _ H' (s1.trans s2) (.lst (notB G1.b hD) ha (DAs.weak (fun a h => List.mem_cons_of_mem _ h) _ _ hda))⟩
end
/-! ### promises -/
/-- data in, data out; the heap only grows -/
def SpR (R : List PyData → PyData → Prop) : Sp := fun vs H Q _ => ∃ B ds d, (∀ p ∈ B, H p ≠ none) ∧ DAs B H vs ds ∧ R ds d ∧ ∀ v H', Same H H' → DA B H' v d → Q v H'
theorem eg_call {C : Cn} {Γ : Gm} {tx : TA} {ds : List PyData} {d : PyData} {R : List PyData → PyData → Prop} {E : XK} (h : EA C tx Γ ds) (hR : R ds d) : EG C (tCall (SpR R) [] E tx) Γ d := fun σ H G Q q =>
  h σ H G _ fun vs H1 s1 d1 => ⟨C.B, ds, d, Bs.mono s1 G.b, by rw [List.append_nil]; exact d1, hR, fun v H2 s2 d2 => q v H2 (s1.trans s2) d2⟩
def Cn.pure (B : List Addr) : Cn := ⟨B, fun _ => True, fun _ _ _ _ => True.intro⟩
theorem start_gs {B : List Addr} {H : Hp} {N : List Str} {vs : List V} {ds : List PyData} {Γ : Gm} (hB : ∀ p ∈ B, H p ≠ none) (h : DAs B H vs ds) (hΓ : Γ = ds.map some ++ List.replicate (N.length - ds.length) none) : Gs (Cn.pure B) Γ (L2.start N vs) H := by
  subst hΓ
  have hl := h.length
  refine ⟨True.intro, hB, ?_, fun i d hi => ?_⟩
  · unfold L2.start
    rw [List.length_append, List.length_append, List.length_map, List.length_map, List.length_replicate, List.length_replicate, hl]
  · unfold L2.start
    by_cases hlt : i < ds.length
    · rw [List.getElem?_append_left (by rw [List.length_map]; exact hlt), List.getElem?_map] at hi
      have hi' : ds[i]? = some d := by
        cases e : ds[i]? with
        | none => rw [e] at hi; cases hi
        | some z =>
          rw [e] at hi
          have hi2 : some (some z) = some (some d) := hi
          cases hi2
          rfl
      obtain ⟨v, h1, h2⟩ := h.get hi'
      refine ⟨v, ?_, h2⟩
      rw [List.getElem?_append_left (by rw [List.length_map, hl]; exact hlt), List.getElem?_map, h1]
      rfl
    · rw [List.getElem?_append_right (by rw [List.length_map]; omega)] at hi
      rw [List.getElem?_replicate] at hi
      split at hi <;> cases hi
/-- a def's body that hands back data -/
theorem run_body {B : List Addr} {H : Hp} {N : List Str} {vs : List V} {ds : List PyData} {d : PyData} {Γ Γ' : Gm} {t : TS} {Q : VK} (hB : ∀ p ∈ B, H p ≠ none) (h : DAs B H vs ds) (hΓ : Γ = ds.map some ++ List.replicate (N.length - ds.length) none)
    (q : ∀ v H', Same H H' → DA B H' v d → Q v H') (b : BG (Cn.pure B) t Γ (some d) Γ') : t { nx := fun _ H' => Q .non H', rt := Q } (L2.start N vs) H :=
  b _ H (start_gs hB h hΓ) _ (fun d' e v H2 s2 d2 => q v H2 s2 (by cases e; exact d2)) fun e => nomatch e
/-- one that falls off its end -/
theorem run_bodyN {B : List Addr} {H : Hp} {N : List Str} {vs : List V} {ds : List PyData} {Γ Γ' : Gm} {t : TS} {Q : VK} (hB : ∀ p ∈ B, H p ≠ none) (h : DAs B H vs ds) (hΓ : Γ = ds.map some ++ List.replicate (N.length - ds.length) none)
    (q : ∀ v H', Same H H' → DA B H' v .none → Q v H') (b : BG (Cn.pure B) t Γ none Γ') : t { nx := fun _ H' => Q .non H', rt := Q } (L2.start N vs) H :=
  b _ H (start_gs hB h hΓ) _ (fun d' e => nomatch e) fun _ σ' H2 s2 _ => q _ H2 s2 .non
/-! ### isinstance -/
def tyD : PyData → Option String
  | .none => some "NoneType"
  | .bool _ => some "bool"
  | .int _ => some "int"
  | .list _ => some "list"
  | .tuple _ => some "tuple"
  | _ => none
theorem DA.ty {B : List Addr} {H : Hp} {v : V} {d : PyData} {T : String} (K : PySem.W.Frag) (h : DA B H v d) (e : tyD d = some T) : TyX K H v (.type T) := by
  cases h with
  | non => cases e; exact .base .non
  | bl b => cases e; exact .base (.bl b)
  | int i => cases e; exact .base (.int i)
  | lst h1 h2 h3 => cases e; exact .base (.lst h2)
  | tup h1 h2 h3 => cases e; exact .base (.tup h2)
  | ptr p => cases e
theorem eg_isi {C : Cn} {Γ : Gm} {te : TE} {d : PyData} {K : PySem.W.Frag} {T c : String} {b : Bool} (h : EG C te Γ d) (hT : tyD d = some T) (hb : kitB T c = some b) : EG C (tCB (rIsi K) (tCons te (tCons (tC (.ty c)) tNil))) Γ (.bool b) := fun σ H G Q q =>
  h σ H G _ fun v H1 s1 d1 => ⟨v, .ty c, .type T, .type c, b, rfl, .ty c, d1.ty K hT, kit_ty hb, q _ H1 s1 (.bl _)⟩
theorem eg_isiT {C : Cn} {Γ : Gm} {te : TE} {d : PyData} {K : PySem.W.Frag} {T c1 c2 : String} {b1 b2 : Bool} (h : EG C te Γ d) (hT : tyD d = some T) (h1 : kitB T c1 = some b1) (h2 : kitB T c2 = some b2) :
    EG C (tCB (rIsiT K) (tCons te (tCons (tTup (tCons (tC (.ty c1)) (tCons (tC (.ty c2)) tNil))) tNil))) Γ (.bool (b1 || b2)) := fun σ H G Q q =>
  h σ H G _ fun v H1 s1 d1 => ⟨by show 2 ≤ sizeLine; decide, fun p hp => ⟨v, p, [.ty c1, .ty c2], .type T, [.type c1, .type c2], b1 || b2, rfl, upd_same, .cons (.ty c1) (.cons (.ty c2) .nil), (d1.same (same_upd hp)).ty K hT,
    kitAny_cons (kit_ty h1) (fun e => kitAny_cons (kit_ty h2) (fun e2 => by rw [e, e2]; exact kitAny_nil) (fun e2 => by rw [e2, Bool.or_true])) (fun e => by rw [e, Bool.true_or]), q _ _ (s1.trans (same_upd hp)) (.bl _)⟩⟩
end K58
/-! Rules that the layer lacks: enumerate of a tuple, min of a list of data, sorted of a tuple of ints, d.keys() as a value and its sorted. -/
namespace K58
open PySem PySem.Spec PyProof.Rows L2
open AutoSeq1 (wpAny_loadPart')

/-! ### enumerate(tuple) -/
theorem meets_enumerate_newT (l : Addr) (items : Array Value) (n : Nat) (dct : Option Addr) (sl : Array (Option Value)) :
    Meets (Builtin.«enumerate.__new__» ⟨[.type "enumerate", .ref l], []⟩) (fun _ R s => s.heap.get? l = some { cls := .type "tuple", dict := dct, data := .seq items n, slots := sl } ∧
      R (.ok (.ret (.ref (s.heap.push { cls := .type "tuple_iterator", data := .fields #[.ref l, .int 0 0] }).objs.size)))
        { s with heap := (s.heap.push { cls := .type "tuple_iterator", data := .fields #[.ref l, .int 0 0] }).push { cls := .type "enumerate", data := .fields #[.none, .bool false, .ref s.heap.objs.size, rawInt 0, .none, .none] } }) :=
  .of_wp fun prog w A R s h => by
    obtain ⟨hp, g, d, tk, os⟩ := s; obtain ⟨hl, h⟩ := h
    have hsub := sub_enumerate
    have hL : Heap.IsTuple (Shared.heap ⟨hp, g, d, tk, os⟩) l items := ⟨_, hl, rfl, n, rfl⟩
    wp_walk using wpAny_loadPart' hl
    refine wpAny_stack_any fun st => wpAny_pure ?_
    split
    · rename_i c _ _ _ _ _
      cases (c == Value.type "enumerate")
      · wp_walk using wpAny_loadPart' hl, wpAny_pyIter_tuple hL
        exact ⟨_, rfl, h⟩
      · wp_walk using wpAny_loadPart' hl, wpAny_pyIter_tuple hL
        exact ⟨_, rfl, h⟩
    · wp_walk using wpAny_loadPart' hl, wpAny_pyIter_tuple hL
      exact ⟨_, rfl, h⟩
theorem call_enumerate_tuple {prog : Program} {w : World} {A : Around} {E : Value → Shared → Prop} {s : Shared} {l : Addr} {items : Array Value} {Q : Value → Shared → Prop} (hL : s.heap.IsTuple l items)
    (h : ∀ h', IsEnum h' (s.heap.objs.size + 1) s.heap.objs.size 0 .none → h'.IsTupleIter s.heap.objs.size l 0 → h'.objs.size = s.heap.objs.size + 2 →
      (∀ b o, s.heap.get? b = some o → h'.get? b = some o) → Q (.ref (s.heap.objs.size + 1)) { s with heap := h' }) :
    wpAny (model prog w) A (call (.type "enumerate") [.ref l]) Q E s := by
  obtain ⟨⟨c, dct, dt, sl⟩, hl, hc, n, hd⟩ := hL
  replace hc : c = .type "tuple" := hc
  replace hd : dt = .seq items n := hd
  subst hc hd
  refine callType_new F.called_enumerate (by decide) (F.typeCall_enumerate_1 _) (F.newCall_enumerate_1 _) (fun obj => F.args_object_init_2 obj _) F.entry_enumerate_new
    (meets_enumerate_newT l items n dct sl) ⟨hl, ?_⟩
  have hz : (s.heap.push { cls := .type "tuple_iterator", data := .fields #[.ref l, .int 0 0] }).objs.size = s.heap.objs.size + 1 := Heap.size_push ..
  show _ ∧ _
  rw [hz]
  have he : IsEnum ((s.heap.push { cls := .type "tuple_iterator", data := .fields #[.ref l, .int 0 0] }).push
      { cls := .type "enumerate", data := .fields #[.none, .bool false, .ref s.heap.objs.size, rawInt 0, .none, .none] }) (s.heap.objs.size + 1) s.heap.objs.size 0 .none := by
    have := Heap.get?_push_size (s.heap.push { cls := .type "tuple_iterator", data := .fields #[.ref l, .int 0 0] })
      (o := { cls := .type "enumerate", data := .fields #[.none, .bool false, .ref s.heap.objs.size, rawInt 0, .none, .none] }) rfl
    rw [hz] at this; exact this
  refine ⟨⟨_, he, rfl⟩, h _ he ⟨_, Heap.get?_push_of_some _ (Heap.get?_push_size _ rfl), rfl, rfl⟩ (by rw [Heap.size_push, hz]) fun b o x => Heap.get?_push_of_some _ (Heap.get?_push_of_some _ x)⟩
/-- the tuple at a, each item in a new pair -/
def Iet (K : PySem.W.Frag) (a : Addr) : It :=
  ⟨fun i H => ∃ (xs : List V) (x : V), SqT K H a xs ∧ xs[i]? = some x, fun i H v H' => ∃ T x, v = .ref T ∧ H T = none ∧ H' = upd H T (.tup [.int (i : Nat), x]) ∧ ∀ xs, SqT K H a xs → xs[i]? = some x, fun i H => ∃ xs : List V, SqT K H a xs ∧ xs.length ≤ i⟩
theorem turn_enumT {P : Program} {w : World} {K : PySem.W.Frag} {elts : List Expr} {kk : Nat} {tpos : Pos} (a e it : Addr) :
    Turn P w K (.Tuple elts kk tpos) (Iet K a) [e, it] e (fun i h => (∃ old, IsEnum h e it ((i : Nat) : Int) old) ∧ h.IsTupleIter it a i ∧ e ≠ it ∧ a ≠ it ∧ e ≠ a) where
  mem := by simp
  obj := fun i h st b hb => by
    obtain ⟨⟨old, he⟩, ⟨o, ho, hc, hd⟩, _⟩ := st
    have e' : b = e ∨ b = it := by simpa using hb
    rcases e' with z | z
    · rw [z]; exact ⟨_, he, fun v q => nomatch q⟩
    · rw [z]; exact ⟨o, ho, fun v q => by rw [hd] at q; cases q⟩
  keep := fun i h h' st k => let ⟨⟨old, he⟩, hi, hne⟩ := st; ⟨⟨old, k e (by simp) _ he⟩, hi.at fun o q => k it (by simp) o q, hne⟩
  item := by
    intro X hP hw hK hc i pins s σ H E I hf st hg
    subst hP hw hK
    obtain ⟨⟨old, he⟩, hit, hne, hai, hea⟩ := st
    obtain ⟨xs, x, hq, hx⟩ := hg
    obtain ⟨its, rv, p, hz⟩ := I.tuple hq
    obtain ⟨u, hu, ru⟩ := rv.get hx
    have hil' : i < its.toArray.size := by
      have := (List.getElem?_eq_some_iff.mp hu).1
      simpa using this
    have hel : e < s.heap.objs.size := Heap.lt_size he
    have hil : it < s.heap.objs.size := by obtain ⟨_, q, _⟩ := hit; exact Heap.lt_size q
    refine wpAny_pyNext_enum_itemD (PySem.Draws.tuple (prog := X.prog) (w := X.w) (A := X.A.in1) (I.ok.hd hc) it a hai its.toArray) he ⟨hit, p⟩ hil' hne (by simp [hne, hea]) fun u' h' tk hP ho hit' hT hsz hk => ?_
    have hu' : u' = u := by
      have q1 : its[i]? = some u' := by simpa using hP
      rw [hu] at q1
      cases q1
      rfl
    subst hu'
    refine ⟨_, rfl, wpAny_letOwnedTupleGo_enum (s := { s with heap := h', toks := tk + 1 }) ho fun h'' he' sb => ?_⟩
    have hT2 : h''.get? s.heap.objs.size = some { cls := .type "tuple", data := .seq #[.int i tk, u'] } := (sb.2 _ (Nat.ne_of_gt hel)).trans hT
    have new : ObjOk X.prog X.w (upd H s.heap.objs.size (.tup [.int (i : Nat), x])) h'' s.heap.objs.size (.tup [.int (i : Nat), x]) :=
      ⟨by show 2 ≤ sizeLine; decide, [.int i tk, u'], .cons ⟨_, rfl⟩ (.cons ru .nil), ⟨_, hT2, rfl, _, rfl⟩⟩
    have I1 : Inv X pins σ (upd H s.heap.objs.size (.tup [.int (i : Nat), x])) { s with heap := h'', toks := tk + 1 } :=
      I.turnedNew (ch := [e, it]) (fun b ob hb q => (sb.2 b (fun z => hb (by simp [z]))).trans (hk b ob (fun z => hb (by simp [z])) (fun z => hb (by simp [z])) q)) hf (Nat.le_refl _) new
    refine ⟨.ref s.heap.objs.size, _, I1, rfl, ⟨_, x, rfl, I.hok.fresh (Nat.le_refl _), rfl, fun ys hy => by rw [I.tuple_inj hy hq]; exact hx⟩, ⟨⟨u', ?_⟩, hit'.1.at fun o q => (sb.2 it (Ne.symm hne)).trans q, hne, hai, hea⟩, fun b hb => ?_⟩
    · have e1 : ((i + 1 : Nat) : Int) = (i : Int) + 1 := by omega
      rw [e1]; exact he'
    · have hb' : b < s.heap.objs.size := by
        have e' : b = e ∨ b = it := by simpa using hb
        rcases e' with z | z
        · rw [z]; exact hel
        · rw [z]; exact hil
      rw [upd_ne (Nat.ne_of_lt hb')]
      exact (hf b hb).1
  done := by
    intro X hP hw hK hc i pins s σ H E I hf st hg
    subst hP hw hK
    obtain ⟨⟨old, he⟩, hit, hne, hai, hea⟩ := st
    obtain ⟨xs, hq, hx⟩ := hg
    obtain ⟨its, rv, p, hz⟩ := I.tuple hq
    obtain ⟨f0, f1, f2, f3, f4, f5⟩ := hf it (by simp)
    have hl := rv.length
    have D := PySem.Draws.tuple (prog := X.prog) (w := X.w) (A := X.A.in1) (I.ok.hd hc) it a hai its.toArray
    unfold pyNext
    refine wpAny_bind (wpAny_attempt (wpAny_callSpecial?_slot (name := Str.ofString "__next__") ⟨_, he, rfl⟩ F.slot_enumerate_next
      (wpAny_call_entry F.slot_enumerate_next ⟨_, he, rfl⟩ F.entry_enumerate_next ?_ (F.args_enumerate_next_1 _))))
    show wpAny _ _ (field (.ref e) 2 >>= _) _ _ _
    refine wpAny_bind (wpAny_field he rfl (x := .ref it) rfl ?_)
    refine wpAny_bind (wpAny_nextOf_tuple_end (I.ok.hd hc) hit (show s.heap.IsTuple a its.toArray from p) (by simp; omega) fun h' x he' hx' => ?_)
    obtain ⟨o, ho, hcl⟩ := hx'
    refine wpAny_bind (wpAny_isInstance (T := "StopIteration") (b := true) ⟨o, ho, hcl⟩ isSubtype_stop ?_)
    exact wpAny_pure ⟨rfl, I.turned (t' := s.toks) (fun b o hb q => he' b o hb q) f0 f1 f3 f4 f5⟩
  self := fun A i s Q E st h => let ⟨⟨_, he⟩, _⟩ := st; wpAny_pyIter_enum he h
def iEnumT (K : PySem.W.Frag) (ta : TA) : TI := fun σ H R => ta σ H fun vs H1 => ∃ a xs, vs = [.ref a] ∧ SqT K H1 a xs ∧ R (Iet K a) H1
theorem pi_enumT {X : Cx} {e : Expr} {ta : TA} {p pos tpos : Pos} {elts : List Expr} {kk : Nat} (hg : Gl X "enumerate") (hm : X.mg "enumerate" = none) (ha : PA X [e] ta) (hs : starEach [e] X.env = [(false, eval e X.env)] := by rfl) :
    PI X (.Tuple elts kk tpos) (.Call (.Name "enumerate" p) [e] [] pos) (iEnumT X.K ta) := by
  refine ⟨fun pins s σ H R I h => ?_⟩
  refine Call_ (ld_blt I hg hm boot_enumerate (PyProof.Rows.callWith_type1 (thn (ha.run pos pins s σ H _ I h) fun us s1 ⟨vs, H1, I1, r1, q1⟩ => ?_) hs rfl))
  obtain ⟨a, xs, ex, hq, q⟩ := q1
  subst ex
  cases r1 with
  | cons r rr =>
    cases rr
    cases r
    obtain ⟨its, rv, p', hz⟩ := I1.tuple hq
    have hal : a < s1.heap.objs.size := p'.lt
    refine call_enumerate_tuple p' fun h' he hit hsz hk => wpAny_pyIter_enum he ?_
    have I2 : Inv X pins σ H1 { s1 with heap := h' } := I1.kept (t' := s1.toks) hk
    refine ⟨s1.heap.objs.size + 1, [s1.heap.objs.size + 1, s1.heap.objs.size], _, _, H1, rfl, I2, turn_enumT a (s1.heap.objs.size + 1) s1.heap.objs.size, ⟨⟨.none, he⟩, hit, Nat.succ_ne_self _, Nat.ne_of_lt hal, Nat.ne_of_gt (Nat.lt_succ_of_lt hal)⟩, fun b hb => ?_, q⟩
    have e' : b = s1.heap.objs.size + 1 ∨ b = s1.heap.objs.size := by simpa using hb
    have hle : s1.heap.objs.size ≤ b := by
      rcases e' with z | z
      · rw [z]; exact Nat.le_add_right _ _
      · rw [z]; exact Nat.le_refl _
    exact I1.fpOk hle (I1.hok.fresh hle)
theorem walk_enumT {K : PySem.W.Frag} {a : Addr} {xs : List V} : Walk (Iet K a) xs.length (fun H => SqT K H a xs) (YPair (fun i => some (.int (i : Nat))) (fun i => xs[i]?)) := by
  refine ⟨fun i _ hi q => ⟨xs, xs[i], q, by simp [hi]⟩, fun _ q => ⟨xs, q, Nat.le_refl _⟩, fun i H v H' _ q y => ?_⟩
  obtain ⟨T, x, h1, h2, h3, h4⟩ := y
  exact ⟨T, .int (i : Nat), x, h1, h2, h3, rfl, h4 xs q⟩
theorem ei_enumT {C : Cn} {Γ : Gm} {tl : TE} {ds : List PyData} {K : PySem.W.Frag} (h : EG C tl Γ (.tuple ds)) : EI C (iEnumT K (tCons tl tNil)) Γ ds.length (fun i => .tuple [.int (i : Nat), ds.getD i .none]) := fun σ H G R q => h σ H G _ fun v H1 s1 d1 => by
  obtain ⟨a, xs, rfl, na, e1, e2⟩ := d1.tupInv
  have hl := e2.length
  refine ⟨a, xs, rfl, SqT.of e1, q _ H1 s1 ⟨_, _, hl ▸ walk_enumT (K := K) (a := a) (xs := xs), fun H' s => SqT.of (s a _ na e1), fun B' hB hs i H x H' hi s hp y => ?_⟩⟩
  obtain ⟨T, x1, x2, rfl, hT, rfl, e3, e4⟩ := y
  cases e3
  obtain ⟨d, h1, h2⟩ := e2.getV e4
  refine ⟨same_upd hT, ?_⟩
  rw [List.getD_eq_getElem?_getD, h1]
  exact DA.newTup hp hT (.cons (.int _) (.cons (DA.mono s _ _ (hB _ _ h2)) .nil))

/-! ### min of a list of data -/
def rMinD (K : PySem.W.Frag) : List V → Hp → VK → Prop := fun vs H Q => ∃ (a : Addr) (xs : List V) (d : PyData) (ds : List PyData), vs = [V.ref a] ∧ SqL K H a xs ∧ DpAll K H xs (d :: ds) ∧ PySem.W.AlikeAll (d :: ds) ∧ PyData.depthAll (d :: ds) ≤ 50 ∧
  ∀ (k : Nat) (v : V), xs[k]? = some v → (d :: ds).getD k .none = PySem.W.minD d ds → k < (d :: ds).length → Q v H
theorem cr_minD {X : Cx} (hc : X.calm = true) (hu : X.A.units + 64 < cLine) : CallR X (.builtin "min") (rMinD X.K) := by
  intro pins s σ H vs us Q I r h
  obtain ⟨a, xs, d, ds, rfl, hs, hd, ha, hdep, q⟩ := h
  obtain ⟨its, rv, hl, _⟩ := I.list hs
  rw [Vals.ref1 r]
  obtain ⟨as, hr⟩ := Dp.readsAll I (d :: ds) xs its hd rv
  have hr' : ReadsAll s.heap its.toArray.toList (d :: ds) as := by simpa using hr
  have hh : X.A.handled = none := I.ok.hd hc
  have hn : its.toArray.size = ds.length + 1 := PySem.W.readsAll_len hr'
  refine call_min_walkH (PySem.W.iter_listW (A := X.A.in1) hh hl.isList fun s₂ e W st hfp hw hk => ?_)
  refine ⟨_, _, _, _, _, _, _, s.heap, _, rfl, W, st, hfp, by omega, hw, hk, PySem.W.cmpIn_lt (A := X.A.in1) hr' ha (by show X.A.units + 1 + _ < _; omega), fun v s' hP m => ?_⟩
  obtain ⟨h', tk, rfl, hk'⟩ := PySem.W.moved_old e rfl m
  have e1 : its.toArray.size - 1 = ds.length := by omega
  have e2 := PySem.W.argBest_fold PySem.W.dataLt PyData.none d ds ds.length (Nat.le_refl _)
  rw [List.take_length] at e2
  rw [e1] at hP
  have hP' : its[argBest (fun i j => PySem.W.dataLt ((d :: ds).getD i .none) ((d :: ds).getD j .none)) ds.length]? = some v := by simpa using hP
  have hlt := (List.getElem?_eq_some_iff.mp hP').1
  have hlen := rv.length
  have hx : xs[argBest (fun i j => PySem.W.dataLt ((d :: ds).getD i .none) ((d :: ds).getD j .none)) ds.length]? = some (xs[argBest (fun i j => PySem.W.dataLt ((d :: ds).getD i .none) ((d :: ds).getD j .none)) ds.length]'(by omega)) := List.getElem?_eq_getElem _
  obtain ⟨u, hu1, hu2⟩ := rv.get hx
  rw [hP'] at hu1
  cases hu1
  refine ⟨_, H, I.kept (t' := tk) hk', hu2, q _ _ hx e2.2 ?_⟩
  rw [List.length_cons]
  have := e2.1
  omega
theorem eg_minD {C : Cn} {Γ : Gm} {te : TE} {d : PyData} {ds : List PyData} {K : PySem.W.Frag} (h : EG C te Γ (.list (d :: ds))) (hl : PyData.canLayAll0 (d :: ds) = true) (ha : PySem.W.AlikeAll (d :: ds)) (hd : PyData.depthAll (d :: ds) ≤ 50) :
    EG C (tCB (rMinD K) (tCons te tNil)) Γ (PySem.W.minD d ds) :=
  eg_cb (ea_1 h) fun H _ vs hv Q q => by
    obtain ⟨v, rfl, h1⟩ := hv.one
    obtain ⟨a, xs, rfl, _, h2, h3⟩ := h1.lstInv
    refine ⟨a, xs, d, ds, rfl, SqL.of h2, DAs.dp K _ _ hl h3, ha, hd, fun k v hk hm hlt => ?_⟩
    obtain ⟨d', e1, e2⟩ := h3.getV hk
    rw [List.getD_eq_getElem?_getD, e1] at hm
    have hm' : d' = PySem.W.minD d ds := hm
    rw [hm'] at e2
    exact q v H (Same.refl H) e2

/-! ### sorted of a tuple of ints -/
def rSortedTi (K : PySem.W.Frag) : List V → Hp → VK → Prop := fun vs H Q => ∃ (a : Addr) (ns : List Int), vs = [V.ref a] ∧ SqT K H a (ns.map V.int) ∧ ns.length < 64 ∧
  ∀ (ys : List Int) (p : Addr), ys.Perm ns → ys.Pairwise (· ≤ ·) → H p = none → Q (.ref p) (upd H p (.lst (ys.map V.int)))
theorem cr_sortedTi {X : Cx} : CallR X (.builtin "sorted") (rSortedTi X.K) := by
  intro pins s σ H vs us Q I r h
  obtain ⟨a, ns, rfl, hs, h64, q⟩ := h
  obtain ⟨its, rv, ht, _⟩ := I.tuple hs
  rw [Vals.ref1 r]
  have hi : IntsAre its ns := rv.ints
  have hal : its.length = ns.length := hi.length
  obtain ⟨o, ho, hcl, n, hdat⟩ := id ht
  refine Calls.call_function_entry PyProof.Rows.kind_sorted PyProof.Rows.plain_sorted PyProof.Rows.entry_sorted (PyProof.Rows.args_sorted1 _) ?_
  unfold Builtin.«sorted»
  refine wpAny_bind (m := checkCount "sorted" 1 1 _) (wpAny_pure ?_)
  refine wpAny_bind (wpAny_collect_seq (hsz := by rw [List.size_toArray, hal, sizeLine_eq]; omega) a (.inr rfl) ho hcl hdat fun h' hk => ?_)
  have I1 : Inv X pins σ H { s with heap := h' } := I.kept (t' := s.toks) hk
  refine wpAny_bind (wpAny_newList ?_ (by show its.toArray.toList.length ≤ sizeLine; rw [Array.length_toList, List.size_toArray, hal, sizeLine_eq]; omega))
  have e0 : its.toArray.toList = its := by simp
  rw [e0]
  have hoL : (h'.push (seqObj "list" its.toArray 0)).get? h'.objs.size = some (seqObj "list" its.toArray 0) := Heap.get?_push_size _ rfl
  show wpAny _ _ _ _ _ { s with heap := h'.push (seqObj "list" its.toArray 0) }
  refine wpAny_bind (wpAny_holding (wpAny_call_entry PyProof.Rows.slot_list_sort ⟨_, hoL, rfl⟩ PyProof.Rows.entry_list_sort
    (PyProof.Rows.list_sort_tree (s := { s with heap := h'.push (seqObj "list" its.toArray 0) }) hoL hi (by rw [hal]; exact h64) fun out ys g1 g2 g3 => ⟨_, rfl, ?_⟩) (PyProof.Rows.args_list_sort _)))
  obtain ⟨e', he'⟩ := PyProof.Rows.sortedHeap_at (vs := its) (out := out) hoL
  have hlen : (ys.map V.int).length ≤ sizeLine := by
    rw [List.length_map, g2.length_eq]
    exact Nat.le_trans (Nat.le_of_lt h64) (by decide)
  refine wpAny_pure ⟨_, rfl, .ref h'.objs.size, upd H h'.objs.size (.lst (ys.map V.int)), I1.laid (t' := s.toks) (fun b u e => ?_) (Nat.le_refl _)
    (show ObjOk X.prog X.w _ _ _ (.lst (ys.map V.int)) from ⟨hlen, out.toList, e', vals_of_ints g1, by rw [Array.toArray_toList]; exact he'⟩), rfl, q ys _ g2 g3 (I1.hok.fresh (Nat.le_refl _))⟩
  have hb : b < h'.objs.size := Heap.lt_size e
  rw [PyProof.Rows.sortedHeap_old (Nat.ne_of_lt hb) (by rw [size_push']; exact Nat.lt_succ_of_lt hb)]
  exact Heap.get?_push_of_some _ e
/-- two rising lists with the same items are one -/
theorem rising_one : ∀ {a b : List Int}, a.Perm b → a.Pairwise (· ≤ ·) → b.Pairwise (· ≤ ·) → a = b
  | [], b, p, _, _ => (List.nil_perm.mp p).symm
  | x :: a, [], p, _, _ => (List.perm_nil.mp p)
  | x :: a, y :: b, p, pa, pb => by
    obtain ⟨h1, h2⟩ := List.pairwise_cons.mp pa
    obtain ⟨h3, h4⟩ := List.pairwise_cons.mp pb
    have e : x = y := by
      have m1 : y ∈ x :: a := p.mem_iff.mpr List.mem_cons_self
      have m2 : x ∈ y :: b := p.mem_iff.mp List.mem_cons_self
      rcases List.mem_cons.mp m1 with q | q
      · exact q.symm
      · rcases List.mem_cons.mp m2 with q2 | q2
        · exact q2
        · exact Int.le_antisymm (h1 y q) (h3 x q2)
    subst e
    rw [rising_one ((List.perm_cons x).mp p) h2 h4]
theorem eg_sortedTi {C : Cn} {Γ : Gm} {te : TE} {ns : List Int} {K : PySem.W.Frag} (h : EG C te Γ (.tuple (ns.map PyData.int))) (hn : ns.length < 64) (hs : ns.Pairwise (· ≤ ·)) : EG C (tCB (rSortedTi K) (tCons te tNil)) Γ (.list (ns.map PyData.int)) :=
  eg_cb (ea_1 h) fun H hB vs hv Q q => by
    obtain ⟨v, rfl, h1⟩ := hv.one
    obtain ⟨a, xs, rfl, _, h2, h3⟩ := h1.tupInv
    have e := h3.ints
    subst e
    refine ⟨a, ns, rfl, SqT.of h2, hn, fun ys p hp hr hn => ?_⟩
    rw [rising_one hp hr hs]
    exact q _ _ (same_upd hn) (DA.newLst hB hn (DAs.ofInts ns))

/-! ### d.keys() as a value, sorted(d.keys()) -/
def keysO (p d : Addr) : HO := .ext fun h => PySem.W.KdlKeysView h p d
theorem keysO_ok {P : Program} {w : World} {H : Hp} {h : Heap} {p d : Addr} (e : h.get? p = some { cls := .type "dict_keys", data := .fields #[.ref d] }) : ObjOk P w H h p (keysO p d) :=
  ⟨⟨_, e, rfl, rfl⟩, ⟨_, e⟩, fun h1 h2 x k => let ⟨o, ho, r⟩ := x; ⟨o, k o ho, r⟩⟩
def rKeys : V → List V → Hp → VK → Prop := fun x xs H Q => ∃ (a : Addr) (kvs : List (Key × V)), x = .ref a ∧ xs = [] ∧ H a = some (.dK kvs) ∧ ∀ p, H p = none → Q (.ref p) (upd H p (keysO p a))
theorem mt_keys {X : Cx} : MtR X "dict.keys" rKeys := by
  intro pins s σ H x xs v us Q I rx rxs h
  obtain ⟨a, kvs, rfl, rfl, ha, q⟩ := h
  cases rx
  cases rxs
  obtain ⟨z, lo, vs, rel, dd⟩ := dk_of I.hok ha
  have hf : H s.heap.objs.size = none := I.hok.fresh (Nat.le_refl _)
  exact call_meetsIn F.slot_dict_keys dd.typeIs F.entry_dict_keys (F.args_dict_keys_1 _) (PySem.W.kdl_meets_keys (mixKind X.prog X.w) a lo) ⟨⟨vs, dd⟩,
    ⟨.ref s.heap.objs.size, upd H s.heap.objs.size (keysO s.heap.objs.size a), I.laid (t' := s.toks) (fun b u e => Heap.get?_push_of_some _ e) (Nat.le_refl _) (keysO_ok (Heap.get?_push_size _ rfl)), rfl, q _ hf⟩⟩
def rSortedKV : List V → Hp → VK → Prop := fun vs H Q => ∃ (p a : Addr) (kvs : List (Key × V)) (ks : List Int), vs = [.ref p] ∧ H p = some (keysO p a) ∧ H a = some (.dK kvs) ∧ kvs.map (·.1) = ks.map Sum.inl ∧ ks.length < 64 ∧
  ∀ (ys : List Int) (l : Addr), ys.Perm ks → ys.Pairwise (· ≤ ·) → H l = none → Q (.ref l) (upd H l (.lst (ys.map V.int)))
theorem cr_sortedKV {X : Cx} (hcalm : X.calm = true) : CallR X (.builtin "sorted") rSortedKV := by
  intro pins s σ H xs us Q I r q
  obtain ⟨p, a, kvs, ks, ex, hp, hd, hks, h64, q⟩ := q
  subst ex
  obtain ⟨u, eu, rx⟩ := vals1 r
  subst eu
  cases rx
  have view : PySem.W.KdlKeysView s.heap p a := (show ObjOk X.prog X.w H s.heap p (keysO p a) from I.hok p _ hp).1
  obtain ⟨z, lo, vs, rel, dd⟩ := dk_of I.hok hd
  obtain ⟨ep, hat⟩ := dd.dictAt
  have hkeys : vs.map (·.1) = ks.map Sum.inl := rel.keys.symm.trans hks
  have hl : vs.length = ks.length := by
    have e := congrArg List.length hkeys
    rw [List.length_map, List.length_map] at e
    exact e
  have h16 : vs.length ≤ sizeLine := by rw [hl, sizeLine_eq]; omega
  refine Calls.call_function_entry PyProof.Rows.kind_sorted PyProof.Rows.plain_sorted PyProof.Rows.entry_sorted (PyProof.Rows.args_sorted1 _) ?_
  unfold Builtin.«sorted»
  refine wpAny_bind (m := checkCount "sorted" 1 1 _) (wpAny_pure ?_)
  refine wpAny_bind (PySem.W.kdu_collect (A := X.A.in1) (PySem.W.kdl_keys (knd := mixKind X.prog X.w) (kvs := vs) (ep := ep)) (I.ok.hd hcalm) ⟨view, hat⟩ h16 fun h' tk acc hk hacc => ?_)
  have hal : acc.toList.length = ks.length := by rw [Array.length_toList, hacc.1, hl]
  have hS : IntsAre acc.toList ks := ints_each hal fun j v e => by
    obtain ⟨k, x, e1, e2⟩ := hacc.2 j v (by rw [← Array.getElem?_toList]; exact e)
    have e3 : (vs.map (·.1))[j]? = some k := by rw [List.getElem?_map, e1]; rfl
    rw [hkeys, List.getElem?_map] at e3
    cases e4 : ks[j]? with
    | none => rw [e4] at e3; cases e3
    | some y =>
      rw [e4] at e3
      have e5 : Sum.inl y = k := Option.some.inj e3
      subst e5
      rcases keyIs_shape (show keyIs (Sum.inl y) v = true from e2) with ⟨i, t, ek, ev⟩ | ⟨z, t, ek, ev⟩
      · cases ek
        exact ⟨y, t, rfl, ev⟩
      · cases ek
  have I1 : Inv X pins σ H { s with heap := h', toks := tk } := I.kept hk
  refine wpAny_bind (wpAny_newList ?_ (by rw [hal, sizeLine_eq]; omega))
  have hoL : (h'.push (seqObj "list" acc.toList.toArray 0)).get? h'.objs.size = some (seqObj "list" acc.toList.toArray 0) := Heap.get?_push_size _ rfl
  show wpAny _ _ _ _ _ { s with heap := h'.push (seqObj "list" acc.toList.toArray 0), toks := tk }
  refine wpAny_bind (wpAny_holding (wpAny_call_entry PyProof.Rows.slot_list_sort ⟨_, hoL, rfl⟩ PyProof.Rows.entry_list_sort
    (PyProof.Rows.list_sort_tree (s := { s with heap := h'.push (seqObj "list" acc.toList.toArray 0), toks := tk }) hoL hS (by rw [hal]; exact h64) fun out ys g1 g2 g3 => ⟨_, rfl, ?_⟩) (PyProof.Rows.args_list_sort _)))
  obtain ⟨e', he'⟩ := PyProof.Rows.sortedHeap_at (vs := acc.toList) (out := out) hoL
  have hlen : (ys.map V.int).length ≤ sizeLine := by
    rw [List.length_map, g2.length_eq]
    exact Nat.le_trans (Nat.le_of_lt h64) (by decide)
  refine wpAny_pure ⟨_, rfl, .ref h'.objs.size, upd H h'.objs.size (.lst (ys.map V.int)), I1.laid (t' := tk) (fun b u e => ?_) (Nat.le_refl _)
    (show ObjOk X.prog X.w _ _ _ (.lst (ys.map V.int)) from ⟨hlen, out.toList, e', vals_of_ints g1, by rw [Array.toArray_toList]; exact he'⟩), rfl, q ys _ g2 g3 (I1.hok.fresh (Nat.le_refl _))⟩
  have hb : b < h'.objs.size := Heap.lt_size e
  rw [PyProof.Rows.sortedHeap_old (Nat.ne_of_lt hb) (by rw [size_push']; exact Nat.lt_succ_of_lt hb)]
  exact Heap.get?_push_of_some _ e
end K58
namespace K58
open PySem PySem.Spec PyProof.Rows L2
/-! ### the text by places -/
def topS (i : Nat) : Stmt := PySem.Challenge.pw_nearhouses_k58_whole_two_sellers.main.body.getD i (.Pass ⟨0, 0, 0, 0⟩)
/-! ### a def that may be called -/
structure Cal (P : Program) (w : World) (K : PySem.W.Frag) (mg : Str → Option Value) (base : Heap) (k : Nat) (x : Str) (ps : List Str) (sp : Sp) : Prop where
  ex : ∃ f fd, FnOk P w K mg base CX0 k f fd ps sp ∧ mg x = some (.ref f) ∧ PySem.W.keepIn K (.ref f) = true ∧ Binds K fd ps []
theorem pe_cal {X : Cx} {k : Nat} {x : Str} {ps : List Str} {sp : Sp} {p pos : Pos} {e : Expr} {es : List Expr} {t : TA} (c : Cal X.prog X.w X.K X.mg X.base k x ps sp) (hr : Room k X.A) (hg : Gl X x)
    (ha : PA X (e :: es) t) (hdb : (x == ("__debug__" : Str)) = false := by decide) (he : starEach (e :: es) X.env = (false, eval e X.env) :: starEach es X.env := by rfl) (hpl : (backTo pos (starEach es X.env)).any (·.1) = false := by rfl) :
    PE X (.Call (.Name x p) (e :: es) [] pos) (tCall sp [] E0 t) := by
  obtain ⟨f, fd, F, m, kp, b⟩ := c.ex
  exact pe_call F hr hg m kp b .nil pass0 ha hdb he hpl
/-- where a def stands behind the top -/
structure Df (K : PySem.W.Frag) (mg : Str → Option Value) (x : Str) (st : Stmt) : Prop where
  ex : ∃ f fd, Fun K x x st f fd ∧ mg x = some (.ref f)
theorem mk_cal {P : Program} {w : World} {K : PySem.W.Frag} {mg : Str → Option Value} {base : Heap} {k : Nat} {x : Str} {ps : List Str} {sp : Sp} {st : Stmt} (D : Df K mg x st)
    (hb : ∀ (kV doc pm : Value) (an : Option Addr) (cdv ct : Value) (us : List Value), us.length = ps.length → bindArgs (PySem.W.fnOf x x (defArgs st) (defBody st) (defScope st) .none kV doc pm an cdv ct) ⟨us, []⟩ = pure (ps.zip us))
    (ok : ∀ f fd, Fun K x x st f fd → FnOk P w K mg base CX0 k f fd ps sp) : Cal P w K mg base k x ps sp := by
  obtain ⟨f, fd, F, m⟩ := D.ex
  exact ⟨f, fd, ok f fd F, m, F.kp, F.binds hb⟩
/-- a def whose promise is a relation of data -/
theorem ok_rel {P : Program} {w : World} {K : PySem.W.Frag} {mg : Str → Option Value} {base : Heap} {k : Nat} {x : Str} {N ps : List Str} {R : List PyData → PyData → Prop} {st : Stmt} {f : Addr} {fd : FuncData} (F : Fun K x x st f fd) (S : FnScope N ps (defScope st))
    (len : ∀ ds d, R ds d → ds.length = ps.length)
    (hbody : ∀ (cdv : Value) (A : Around) (outer : List Env) (s : Shared) (H : Hp) (E : XK), Room k (A.deeper (envOfC x (defScope st) s.heap.objs.size f cdv)) → ∀ ds d, R ds d →
      ∃ t, PSs (cxOf CX0 P w K mg base N x (defScope st) f cdv A outer s H E).nox (defBody st) t ∧ ∀ B, ∃ Γ Γ', Γ = ds.map some ++ List.replicate (N.length - ds.length) none ∧ (BG (Cn.pure B) t Γ (some d) Γ' ∨ (d = .none ∧ BG (Cn.pure B) t Γ none Γ'))) : FnOk P w K mg base CX0 (k + 1) f fd ps (SpR R) := by
  refine F.ok S (fun vs H Q E h => ?_) (fun cdv A outer s H vs Q E hr h => ?_)
  · obtain ⟨B, ds, d, hB, hds, hR, q⟩ := h
    rw [hds.length, len ds d hR]
  · obtain ⟨B, ds, d, hB, hds, hR, q⟩ := h
    obtain ⟨t, ht, hb⟩ := hbody cdv A outer s H E hr ds d hR
    obtain ⟨Γ, Γ', hΓ, b⟩ := hb B
    refine ⟨t, ht, ?_⟩
    rcases b with b | ⟨rfl, b⟩
    · exact run_body hB hds hΓ q b
    · exact run_bodyN hB hds hΓ q b
/-! ### what the module's names hold -/
structure Txt (mg : Str → Option Value) : Prop where
  isi : mg "isinstance" = none
  int : mg "int" = none
  bool : mg "bool" = none
  abs : mg "abs" = none
  tuple : mg "tuple" = none
  len : mg "len" = none
  enumerate : mg "enumerate" = none
  sum : mg "sum" = none
  min : mg "min" = none
  max : mg "max" = none
  range : mg "range" = none
  sorted : mg "sorted" = none
  list : mg "list" = none
  str : mg "str" = none
  points : ∃ t, mg "MOST_POINTS" = some (.int 10 t)
  position : ∃ t, mg "MOST_POSITION" = some (.int 1000 t)
  weight : ∃ t, mg "MOST_WEIGHT" = some (.int 100 t)
  sellers : ∃ t, mg "MOST_SELLERS" = some (.int 4 t)
theorem pe_cst {X : Cx} {x : Str} {i : Int} {pos : Pos} (hg : Gl X x) (hm : ∃ t, X.mg x = some (.int i t)) (hd : (x == ("__debug__" : Str)) = false := by decide) : PE X (.Name x pos) (tC (.int i)) := by
  obtain ⟨t, e⟩ := hm
  exact pe_glob hg e ⟨t, rfl⟩ hd
/-- a built-in class as a value -/
theorem pe_ty {X : Cx} {x : Str} {n : String} {pos : Pos} (hg : Gl X x) (hm : X.mg x = none) (hv : bootBuiltins x = some (.type n)) (hn : x ≠ "__name__" := by decide) (hd : (x == ("__debug__" : Str)) = false := by decide) : PE X (.Name x pos) (tC (.ty n)) := pe_bltn hg hm hv rfl hn hd
/-! ### the rules by a written K: within a comprehension's block the context is not to be named -/
section
variable {X : Cx} {K : PySem.W.Frag}
theorem ix_tupK (h : X.K = K) : IxR X (rIxT K) := h ▸ ix_tup
theorem ix_listK (h : X.K = K) : IxR X (rIxL K) := h ▸ ix_list
theorem op_eqDK (h : X.K = K) (hu : X.A.units + 64 < cLine) : OpR X (compareOp .Eq) (rEqD K) := h ▸ op_eqD hu
theorem op_catAK (h : X.K = K) : OpR X (binaryOp .Add) (rCatA K) := h ▸ op_catA
theorem cr_minK (h : X.K = K) (hc : X.calm = true) : CallR X (.builtin "min") (rMin K) := h ▸ cr_min hc
theorem call_lenK (h : X.K = K) : CallR X (.builtin "len") (fun xs H Q => ∃ p ys, xs = [.ref p] ∧ (SqL K H p ys ∨ SqT K H p ys) ∧ Q (.int ys.length) H) := h ▸ call_len_seq
theorem pi_tupK (h : X.K = K) {tg l : Expr} {tl : TE} (hl : PE X l tl) : PI X tg l (iTup K tl) := h ▸ pi_tup hl
theorem pg_tupK (h : X.K = K) {es : List Expr} {k : Nat} {t : TGs} {n : Nat} {pos : Pos} (hc : X.calm = true) (hs : PGs X es t) (hn : (assignEach es X.env).length = n := by rfl) (hst : (assignEach es X.env).findIdx? (·.1) = none := by rfl) : PG X (.Tuple es k pos) (gTup K n t) := h ▸ pg_tup hc hs hn hst
end
/-! ### data of this program -/
abbrev ratD (q : Int × Int) : PyData := .tuple [.int q.1, .int q.2]
abbrev lineD (L : Line) : PyData := .tuple (L.map ratD)
end K58
namespace K58
open PySem PySem.Spec PyProof.Rows L2
/-! ### numbers -/
def red (n d : Int) : Int × Int := (n / (Int.gcd n d : Int), d / (Int.gcd n d : Int))
theorem gcd_step {a b : Int} (ha : 0 ≤ a) (hb : 0 ≤ b) : Int.gcd b (a.fmod b) = Int.gcd a b := by
  obtain ⟨m, rfl⟩ := Int.eq_ofNat_of_zero_le ha
  obtain ⟨n, rfl⟩ := Int.eq_ofNat_of_zero_le hb
  rw [Int.fmod_eq_emod_of_nonneg _ (Int.natCast_nonneg n), ← Int.natCast_emod]
  show Nat.gcd n (m % n) = Nat.gcd m n
  rw [Nat.gcd_comm, ← Nat.gcd_rec, Nat.gcd_comm]
theorem gcd_abs (a b : Int) : Int.gcd (if a < 0 then -a else a) (if b < 0 then -b else b) = Int.gcd a b := by
  split <;> split <;> simp [Int.gcd_neg, Int.neg_gcd]
theorem gcd_pos {n d : Int} (h : 0 < d) : 0 < (Int.gcd n d : Int) := by
  have := Int.gcd_pos_of_ne_zero_right n (b := d) (by omega)
  omega
theorem gcd_le {n d : Int} (h : 0 < d) : (Int.gcd n d : Int) ≤ d := Int.le_of_dvd h (Int.gcd_dvd_right ..)
section
variable {P : Program} {w : World} {K : PySem.W.Frag} {mg : Str → Option Value} {base : Heap}
/-! ### is_in -/
def RIsIn (ds : List PyData) (d : PyData) : Prop := ∃ v l m : Int, ds = [.int v, .int l, .int m] ∧ d = .bool (decide (l ≤ v) && decide (v ≤ m))
theorem sc_is_in : FnScope ["value", "least", "most"] ["value", "least", "most"] (defScope (topS 7)) := ⟨rfl, rfl, rfl, by decide +kernel, rfl, by decide +kernel, by decide +kernel⟩
theorem is_in_ok (T : Txt mg) (D : Df K mg "is_in" (topS 7)) : Cal P w K mg base 1 "is_in" ["value", "least", "most"] (SpR RIsIn) := by
  refine mk_cal D (fun _ _ _ _ _ _ us hl => match us, hl with | [_, _, _], _ => rfl) fun f fd F => ok_rel F sc_is_in (fun ds d ⟨_, _, _, e, _⟩ => by rw [e]; rfl) fun cdv A outer s H E hr ds d hR => ?_
  obtain ⟨v, l, m, rfl, rfl⟩ := hR
  refine ⟨_, pss_one (ps_ret (pe_and (pe_callB call_isi (by rfl) T.isi PyProof.Rows.boot_isinstance (pa_cons (pv 0) (pa_cons (pe_ty (by rfl) T.int PyProof.Rows.boot_int) pa_nil)))
    (pe_and (pe_not (pe_callB call_isi (by rfl) T.isi PyProof.Rows.boot_isinstance (pa_cons (pv 0) (pa_cons (pe_ty (by rfl) T.bool PyProof.Rows.boot_bool) pa_nil))))
      (pe_one (pe_chain op_le op_le (pv 1) (pv 0) (pv 2)))))), fun B => ⟨[some (.int v), some (.int l), some (.int m)], [], rfl, .inl ?_⟩⟩
  refine bg_ret (eg_is (eg_andV (eg_isi (b := true) (eg_var rfl) rfl (by decide +kernel)) fun _ => eg_andV (eg_notV (eg_isi (b := false) (eg_var rfl) rfl (by decide +kernel))) fun _ => eg_leLe (eg_var rfl) (eg_var rfl) (eg_var rfl)) ?_)
  simp
/-! ### gcd -/
def RGcd (ds : List PyData) (d : PyData) : Prop := ∃ a b : Int, ds = [.int a, .int b] ∧ d = .int (Int.gcd a b)
theorem sc_gcd : FnScope ["one", "other"] ["one", "other"] (defScope (topS 8)) := ⟨rfl, rfl, rfl, by decide +kernel, rfl, by decide +kernel, by decide +kernel⟩
theorem gcd_ok (T : Txt mg) (D : Df K mg "gcd" (topS 8)) : Cal P w K mg base 1 "gcd" ["one", "other"] (SpR RGcd) := by
  refine mk_cal D (fun _ _ _ _ _ _ us hl => match us, hl with | [_, _], _ => rfl) fun f fd F => ok_rel F sc_gcd (fun ds d ⟨_, _, e, _⟩ => by rw [e]; rfl) fun cdv A outer s H E hr ds d hR => ?_
  obtain ⟨a, b, rfl, rfl⟩ := hR
  refine ⟨_, pss_cons (ps_par (i := 0) (j := 1) (by rfl) sc_gcd.nd rfl rfl (by decide) rfl rfl (pa_cons (pe_callB call_abs (by rfl) T.abs PyProof.Rows.boot_abs (pa_cons (pv 0) pa_nil)) (pa_cons (pe_callB call_abs (by rfl) T.abs PyProof.Rows.boot_abs (pa_cons (pv 1) pa_nil)) pa_nil)) (by rfl))
    (pss_cons (ps_while PassesOwn.never (pt_cmpR op_ne (pv 1) pe_int (nomark _))
      (pss_one (ps_par (i := 0) (j := 1) (by rfl) sc_gcd.nd rfl rfl (by decide) rfl rfl (pa_cons (pv 1) (pa_cons (pe_op op_modN (pv 0) (pv 1)) pa_nil)) (by rfl))))
    (pss_one (ps_ret (pv 0)))), fun B => ⟨[some (.int a), some (.int b)], [], rfl, .inl ?_⟩⟩
  refine bg_seq (bg_par (ea_2 (eg_abs (eg_var rfl)) (eg_abs (eg_var rfl)))) ?_
  refine bg_seq (Γ1 := [some (.int (Int.gcd a b)), none]) (bg_while (fun p : Int × Int => [some (.int p.1), some (.int p.2)]) (fun p => p.2.toNat) (fun p => 0 ≤ p.1 ∧ 0 ≤ p.2 ∧ Int.gcd p.1 p.2 = Int.gcd a b) (fun p => !decide (p.2 = 0))
    (if a < 0 then -a else a, if b < 0 then -b else b) ⟨by show 0 ≤ (if a < 0 then -a else a); split <;> omega, by show 0 ≤ (if b < 0 then -b else b); split <;> omega, gcd_abs a b⟩ (fun p hp => et_test (eg_neI (eg_var rfl) eg_int)) (fun p hp hc => ?_) (fun p hp hc => ?_)) (bg_ret (eg_var rfl))
  · obtain ⟨h1, h2, h3⟩ := hp
    have hne : p.2 ≠ 0 := by simpa using hc
    have e : p.1.fmod p.2 = p.1 % p.2 := Int.fmod_eq_emod_of_nonneg _ h2
    have l1 := Int.emod_nonneg p.1 hne
    have l2 := Int.emod_lt_of_pos p.1 (show 0 < p.2 by omega)
    refine ⟨(p.2, p.1.fmod p.2), ⟨h2, by show 0 ≤ p.1.fmod p.2; omega, (gcd_step h1 h2).trans h3⟩, by show (p.1.fmod p.2).toNat < p.2.toNat; omega, bg_par (ea_2 (eg_var rfl) (eg_mod (eg_var rfl) (eg_var rfl) hne))⟩
  · obtain ⟨h1, h2, h3⟩ := hp
    have h0 : p.2 = 0 := by simpa using hc
    rw [h0, Int.gcd_zero_right] at h3
    refine ⟨?_, True.intro⟩
    have e : (Int.gcd a b : Int) = p.1 := by omega
    rw [e]
/-! ### reduced -/
def RRed (ds : List PyData) (d : PyData) : Prop := ∃ n m : Int, ds = [.int n, .int m] ∧ 0 < m ∧ m < 1000000 ∧ d = ratD (red n m)
theorem sc_reduced : FnScope ["numerator", "denominator", "common"] ["numerator", "denominator"] (defScope (topS 9)) := ⟨rfl, rfl, rfl, by decide +kernel, rfl, by decide +kernel, by decide +kernel⟩
theorem reduced_ok (D : Df K mg "reduced" (topS 9)) (G : Cal P w K mg base 1 "gcd" ["one", "other"] (SpR RGcd)) : Cal P w K mg base 2 "reduced" ["numerator", "denominator"] (SpR RRed) := by
  refine mk_cal D (fun _ _ _ _ _ _ us hl => match us, hl with | [_, _], _ => rfl) fun f fd F => ok_rel F sc_reduced (fun ds d ⟨_, _, e, _⟩ => by rw [e]; rfl) fun cdv A outer s H E hr ds d hR => ?_
  obtain ⟨n, m, rfl, h0, h1, rfl⟩ := hR
  refine ⟨_, pss_cons (ps_set (i := 2) sc_reduced.nd rfl (.inl rfl) (pe_cal G hr (by rfl) (pa_cons (pv 0) (pa_cons (pv 1) pa_nil))))
    (pss_cons (ps_if (pt_cmpR op_lt (pv 1) pe_int (nomark _)) (pss_one (ps_set (i := 2) sc_reduced.nd rfl (.inl rfl) (pe_un un_neg (pv 2)))) pss_nil)
    (pss_one (ps_ret (pe_tup (pa_cons (pe_op op_fdivN (pv 0) (pv 2)) (pa_cons (pe_op op_fdivN (pv 1) (pv 2)) pa_nil)))))), fun B => ⟨[some (.int n), some (.int m), none], [], rfl, .inl ?_⟩⟩
  have g0 := gcd_pos (n := n) h0
  have g1 := gcd_le (n := n) h0
  have hc : ∀ i : Int, CDivN i (Int.gcd n m : Int) := fun i => ⟨by omega, by omega⟩
  refine bg_seq (bg_set (eg_call (ea_2 (eg_var rfl) (eg_var rfl)) ⟨n, m, rfl, rfl⟩)) (bg_seq (bg_ifF (et_is (et_test (eg_lt (eg_var rfl) eg_int)) (decide_eq_false (by omega))) bg_nil) (bg_ret (eg_is (eg_tup (ea_2 (eg_fdiv (eg_var rfl) (eg_var rfl) (hc n)) (eg_fdiv (eg_var rfl) (eg_var rfl) (hc m))) (by show 2 ≤ 1000; decide)) ?_)))
  rw [Int.fdiv_eq_ediv_of_nonneg _ (by omega), Int.fdiv_eq_ediv_of_nonneg _ (by omega)]
  rfl
/-! ### plus, is_below -/
def RPlus (ds : List PyData) (d : PyData) : Prop := ∃ x y : Int × Int, ds = [ratD x, ratD y] ∧ (0 < x.2 ∧ x.2 ≤ 100) ∧ (0 < y.2 ∧ y.2 ≤ 100) ∧ d = ratD (red (x.1 * y.2 + y.1 * x.2) (x.2 * y.2))
theorem sc_plus : FnScope ["one", "other"] ["one", "other"] (defScope (topS 10)) := ⟨rfl, rfl, rfl, by decide +kernel, rfl, by decide +kernel, by decide +kernel⟩
theorem plus_ok (D : Df K mg "plus" (topS 10)) (G : Cal P w K mg base 2 "reduced" ["numerator", "denominator"] (SpR RRed)) : Cal P w K mg base 3 "plus" ["one", "other"] (SpR RPlus) := by
  refine mk_cal D (fun _ _ _ _ _ _ us hl => match us, hl with | [_, _], _ => rfl) fun f fd F => ok_rel F sc_plus (fun ds d ⟨_, _, e, _⟩ => by rw [e]; rfl) fun cdv A outer s H E hr ds d hR => ?_
  obtain ⟨⟨a, b⟩, ⟨c, e⟩, rfl, h1, h2, rfl⟩ := hR
  refine ⟨_, pss_one (ps_ret (pe_cal G hr (by rfl) (pa_cons (pe_op op_add (pe_op op_mul (pe_ix ix_tup (pv 0) pe_int (fun _ _ => rfl)) (pe_ix ix_tup (pv 1) pe_int (fun _ _ => rfl))) (pe_op op_mul (pe_ix ix_tup (pv 1) pe_int (fun _ _ => rfl)) (pe_ix ix_tup (pv 0) pe_int (fun _ _ => rfl))))
    (pa_cons (pe_op op_mul (pe_ix ix_tup (pv 0) pe_int (fun _ _ => rfl)) (pe_ix ix_tup (pv 1) pe_int (fun _ _ => rfl))) pa_nil)))), fun B => ⟨[some (ratD (a, b)), some (ratD (c, e))], [], rfl, .inl ?_⟩⟩
  simp only at h1 h2
  have hm : b * e ≤ 100 * 100 := Int.mul_le_mul h1.2 h2.2 (by omega) (by omega)
  have hp : 0 < b * e := Int.mul_pos h1.1 h2.1
  exact bg_ret (eg_call (ea_2 (eg_add (eg_mul (eg_ixT (eg_var rfl) eg_int rfl) (eg_ixT (eg_var rfl) eg_int rfl) (.inr ⟨by omega, by omega⟩)) (eg_mul (eg_ixT (eg_var rfl) eg_int rfl) (eg_ixT (eg_var rfl) eg_int rfl) (.inr ⟨by omega, by omega⟩)))
    (eg_mul (eg_ixT (eg_var rfl) eg_int rfl) (eg_ixT (eg_var rfl) eg_int rfl) (.inr ⟨by omega, by omega⟩))) ⟨_, _, rfl, hp, (show b * e < 1000000 by omega), rfl⟩)
def RBelow (ds : List PyData) (d : PyData) : Prop := ∃ x y : Int × Int, ds = [ratD x, ratD y] ∧ (0 < x.2 ∧ x.2 ≤ 100) ∧ (0 < y.2 ∧ y.2 ≤ 100) ∧ d = .bool (decide (x.1 * y.2 < y.1 * x.2))
theorem sc_is_below : FnScope ["one", "other"] ["one", "other"] (defScope (topS 11)) := ⟨rfl, rfl, rfl, by decide +kernel, rfl, by decide +kernel, by decide +kernel⟩
theorem is_below_ok (D : Df K mg "is_below" (topS 11)) : Cal P w K mg base 1 "is_below" ["one", "other"] (SpR RBelow) := by
  refine mk_cal D (fun _ _ _ _ _ _ us hl => match us, hl with | [_, _], _ => rfl) fun f fd F => ok_rel F sc_is_below (fun ds d ⟨_, _, e, _⟩ => by rw [e]; rfl) fun cdv A outer s H E hr ds d hR => ?_
  obtain ⟨⟨a, b⟩, ⟨c, e⟩, rfl, h1, h2, rfl⟩ := hR
  refine ⟨_, pss_one (ps_ret (pe_cmpR op_lt (pe_op op_mul (pe_ix ix_tup (pv 0) pe_int (fun _ _ => rfl)) (pe_ix ix_tup (pv 1) pe_int (fun _ _ => rfl))) (pe_op op_mul (pe_ix ix_tup (pv 1) pe_int (fun _ _ => rfl)) (pe_ix ix_tup (pv 0) pe_int (fun _ _ => rfl))) (nomark _))), fun B => ⟨[some (ratD (a, b)), some (ratD (c, e))], [], rfl, .inl ?_⟩⟩
  simp only at h1 h2
  exact bg_ret (eg_lt (eg_mul (eg_ixT (eg_var rfl) eg_int rfl) (eg_ixT (eg_var rfl) eg_int rfl) (.inr ⟨by omega, by omega⟩)) (eg_mul (eg_ixT (eg_var rfl) eg_int rfl) (eg_ixT (eg_var rfl) eg_int rfl) (.inr ⟨by omega, by omega⟩)))
/-! ### is_spot, need_line, need_number -/
def RSpot (ds : List PyData) (d : PyData) : Prop := ∃ (q : Int × Int) (l m : Int), ds = [ratD q, .int l, .int m] ∧ d = .bool ((decide (l ≤ q.1) && decide (q.1 ≤ m)) && (decide (0 ≤ q.2) && decide (q.2 ≤ 100)))
theorem sc_is_spot : FnScope ["value", "least", "most"] ["value", "least", "most"] (defScope (topS 16)) := ⟨rfl, rfl, rfl, by decide +kernel, rfl, by decide +kernel, by decide +kernel⟩
theorem is_spot_ok (T : Txt mg) (D : Df K mg "is_spot" (topS 16)) (G : Cal P w K mg base 1 "is_in" ["value", "least", "most"] (SpR RIsIn)) : Cal P w K mg base 2 "is_spot" ["value", "least", "most"] (SpR RSpot) := by
  refine mk_cal D (fun _ _ _ _ _ _ us hl => match us, hl with | [_, _, _], _ => rfl) fun f fd F => ok_rel F sc_is_spot (fun ds d ⟨_, _, _, e, _⟩ => by rw [e]; rfl) fun cdv A outer s H E hr ds d hR => ?_
  obtain ⟨⟨a, b⟩, l, m, rfl, rfl⟩ := hR
  refine ⟨_, pss_cons (ps_if (PW.pt (pw_or (pt_not (pt_val (pe_callB call_isi (by rfl) T.isi PyProof.Rows.boot_isinstance (pa_cons (pv 0) (pa_cons (pe_ty (by rfl) T.tuple PyProof.Rows.boot_tuple) pa_nil)))))
      (pw_or1 (pt_cmpR op_ne (pe_callB call_len_seq (by rfl) T.len boot_len (pa_cons (pv 0) pa_nil)) pe_int (nomark _))))) (pss_one (ps_ret pe_bl)) pss_nil)
    (pss_one (ps_ret (pe_and (pe_cal G hr (by rfl) (pa_cons (pe_ix ix_tup (pv 0) pe_int (fun _ _ => rfl)) (pa_cons (pv 1) (pa_cons (pv 2) pa_nil))))
      (pe_one (pe_cal G hr (by rfl) (pa_cons (pe_ix ix_tup (pv 0) pe_int (fun _ _ => rfl)) (pa_cons pe_int (pa_cons (pe_cst (by rfl) T.weight) pa_nil)))))))), fun B => ⟨[some (ratD (a, b)), some (.int l), some (.int m)], [], rfl, .inl ?_⟩⟩
  refine bg_seq (bg_ifF (et_is (et_or (et_not (et_B (eg_isi (b := true) (eg_var rfl) rfl (by decide +kernel)))) fun _ => et_test (eg_neI (eg_lenT (eg_var rfl)) eg_int)) rfl) bg_nil) ?_
  exact bg_ret (eg_andV (eg_call (ea_cons (eg_ixT (eg_var rfl) eg_int rfl) (ea_2 (eg_var rfl) (eg_var rfl))) ⟨a, l, m, rfl, rfl⟩) fun _ => eg_call (ea_cons (eg_ixT (eg_var rfl) eg_int rfl) (ea_2 eg_int eg_int)) ⟨b, 0, 100, rfl, rfl⟩)
def RLine (ds : List PyData) (d : PyData) : Prop := ∃ L : Line, ds = [lineD L] ∧ Valid L ∧ d = .none
theorem sc_need_line : FnScope ["line", "least", "index", "one"] ["line"] (defScope (topS 17)) := ⟨rfl, rfl, rfl, by decide +kernel, rfl, by decide +kernel, by decide +kernel⟩
/-- the least position that the i-th point may have -/
def leastAt (L : Line) : Nat → Int
  | 0 => 0
  | i + 1 => pos L i + 1
theorem least_le {L : Line} (V : Valid L) {i : Nat} (hi : i < L.length) : leastAt L i ≤ pos L i := by
  cases i with
  | zero =>
    rw [pos_eq hi]
    exact (V.bnd _ (List.getElem_mem hi)).1
  | succ i =>
    have := pos_lt V (Nat.lt_add_one i) hi
    show pos L i + 1 ≤ pos L (i + 1)
    omega
theorem lineD_at {L : Line} {i : Nat} (hi : i < L.length) : (L.map ratD).getD i .none = ratD L[i] := by
  rw [List.getD_eq_getElem?_getD, List.getElem?_map, List.getElem?_eq_getElem hi]
  rfl
theorem lineD_len (L : Line) : (L.map ratD).length = L.length := List.length_map _
theorem need_line_ok (T : Txt mg) (D : Df K mg "need_line" (topS 17)) (G : Cal P w K mg base 2 "is_spot" ["value", "least", "most"] (SpR RSpot)) : Cal P w K mg base 3 "need_line" ["line"] (SpR RLine) := by
  refine mk_cal D (fun _ _ _ _ _ _ us hl => match us, hl with | [_], _ => rfl) fun f fd F => ok_rel F sc_need_line (fun ds d ⟨_, e, _⟩ => by rw [e]; rfl) fun cdv A outer s H E hr ds d hR => ?_
  obtain ⟨L, rfl, V, rfl⟩ := hR
  refine ⟨_, pss_cons (ps_if (PW.pt (pw_or (pt_not (pt_val (pe_callB call_isi (by rfl) T.isi PyProof.Rows.boot_isinstance (pa_cons (pv 0) (pa_cons (pe_ty (by rfl) T.tuple PyProof.Rows.boot_tuple) pa_nil)))))
      (pw_or1 (pt_not (pt_chain op_le op_le pe_int (pe_callB call_len_seq (by rfl) T.len boot_len (pa_cons (pv 0) pa_nil)) (pe_cst (by rfl) T.points)))))) pss_never pss_nil)
    (pss_cons (ps_set (i := 1) sc_need_line.nd rfl (.inl rfl) pe_int)
    (pss_one (ps_for PassesOwn.never rfl (pi_enumT (by rfl) T.enumerate (pa_cons (pv 0) pa_nil)) (pg_tup rfl (pgs_cons (pg_name (i := 2) sc_need_line.nd rfl (.inl rfl)) (pgs_cons (pg_name (i := 3) sc_need_line.nd rfl (.inl rfl)) pgs_nil)))
      (pss_cons (ps_if (pt_not (pt_val (pe_cal G hr (by rfl) (pa_cons (pv 3) (pa_cons (pv 1) (pa_cons (pe_cst (by rfl) T.position) pa_nil)))))) pss_never pss_nil)
        (pss_one (ps_set (i := 1) sc_need_line.nd rfl (.inl rfl) (pe_op op_add (pe_ix ix_tup (pv 3) pe_int (fun _ _ => rfl)) pe_int))))))), fun B => ⟨[some (lineD L), none, none, none], [some (lineD L), none, none, none], rfl, .inr ⟨rfl, ?_⟩⟩⟩
  have hlen := V.one
  have hmost := V.most
  refine bg_seq (bg_ifF (et_is (et_or (et_not (et_B (eg_isi (b := true) (eg_var rfl) rfl (by decide +kernel)))) fun _ => et_not (et_test (eg_leLe eg_int (eg_lenT (eg_var rfl)) eg_int))) ?_) bg_nil) (bg_seq (bg_set eg_int) ?_)
  · rw [lineD_len, decide_eq_true (by omega), decide_eq_true (by omega)]
    rfl
  refine bg_forN (fun i => [some (lineD L), some (.int (leastAt L i)), none, none]) (ei_enumT (eg_var rfl)) ⟨rfl, rfl, True.intro⟩ (fun i hi => ?_) ⟨rfl, True.intro⟩
  rw [lineD_len] at hi
  have hb := V.bnd _ (List.getElem_mem hi)
  have hl := least_le V hi
  rw [pos_eq hi] at hl
  refine ⟨_, _, gt_2, ?_⟩
  rw [lineD_at hi]
  refine bg_post (bg_seq (bg_ifF (et_is (et_not (et_B (eg_call (ea_cons (eg_var rfl) (ea_2 (eg_var rfl) eg_int)) ⟨L[i], leastAt L i, 1000, rfl, rfl⟩))) ?_) bg_nil) (bg_set (eg_add (eg_ixT (eg_var rfl) eg_int rfl) eg_int))) ⟨rfl, ?_, True.intro⟩
  · rw [decide_eq_true hl, decide_eq_true hb.2.1, decide_eq_true hb.2.2.1, decide_eq_true hb.2.2.2]
    rfl
  · show some (PyData.int (L[i].1 + 1)) = some (PyData.int (pos L i + 1))
    rw [pos_eq hi]
def RNum (ds : List PyData) (d : PyData) : Prop := ∃ (L : Line) (c : Int), ds = [lineD L, .int c] ∧ 1 ≤ c ∧ c ≤ L.length ∧ d = .none
theorem sc_need_number : FnScope ["points", "count"] ["points", "count"] (defScope (topS 18)) := ⟨rfl, rfl, rfl, by decide +kernel, rfl, by decide +kernel, by decide +kernel⟩
theorem need_number_ok (T : Txt mg) (D : Df K mg "need_number" (topS 18)) (G : Cal P w K mg base 1 "is_in" ["value", "least", "most"] (SpR RIsIn)) : Cal P w K mg base 2 "need_number" ["points", "count"] (SpR RNum) := by
  refine mk_cal D (fun _ _ _ _ _ _ us hl => match us, hl with | [_, _], _ => rfl) fun f fd F => ok_rel F sc_need_number (fun ds d ⟨_, _, e, _⟩ => by rw [e]; rfl) fun cdv A outer s H E hr ds d hR => ?_
  obtain ⟨L, c, rfl, h1, h2, rfl⟩ := hR
  refine ⟨_, pss_one (ps_if (pt_not (pt_val (pe_cal G hr (by rfl) (pa_cons (pv 1) (pa_cons pe_int (pa_cons (pe_callB call_len_seq (by rfl) T.len boot_len (pa_cons (pv 0) pa_nil)) pa_nil)))))) pss_never pss_nil), fun B => ⟨[some (lineD L), some (.int c)], [some (lineD L), some (.int c)], rfl, .inr ⟨rfl, ?_⟩⟩⟩
  refine bg_ifF (et_is (et_not (et_B (eg_call (ea_cons (eg_var rfl) (ea_2 eg_int (eg_lenT (eg_var rfl)))) ⟨c, 1, _, rfl, rfl⟩))) ?_) bg_nil
  rw [lineD_len, decide_eq_true h1, decide_eq_true h2]
  rfl
end
end K58
namespace K58
open PySem PySem.Spec PyProof.Rows L2
/-! ### halves -/
def half (n : Int) : Int × Int := red n 2
theorem red_of {n d g : Int} (h : (Int.gcd n d : Int) = g) : red n d = (n / g, d / g) := by
  unfold red
  rw [h]
theorem half_even (k : Int) : half (2 * k) = (k, 1) := by
  unfold half
  have h : (Int.gcd (2 * k) 2 : Int) = 2 := by
    rw [show (2 : Int) = 2 * 1 from rfl, Int.mul_assoc, Int.gcd_mul_left]
    simp
  rw [red_of h]
  rw [Int.mul_ediv_cancel_left _ (by decide)]
  rfl
theorem half_odd (k : Int) : half (2 * k + 1) = (2 * k + 1, 2) := by
  unfold half
  have h : (Int.gcd (2 * k + 1) 2 : Int) = 1 := by
    have h2 : Int.gcd (2 * k + 1) 2 ∣ 2 := Int.natCast_dvd_natCast.mp (by simpa using Int.gcd_dvd_right (a := 2 * k + 1) (b := 2))
    have h1 : (Int.gcd (2 * k + 1) 2 : Int) ∣ 2 * k + 1 := Int.gcd_dvd_left ..
    have le : Int.gcd (2 * k + 1) 2 ≤ 2 := Nat.le_of_dvd (by decide) h2
    have ps : 0 < Int.gcd (2 * k + 1) 2 := Nat.pos_of_dvd_of_pos h2 (by decide)
    rcases (by omega : Int.gcd (2 * k + 1) 2 = 1 ∨ Int.gcd (2 * k + 1) 2 = 2) with e | e
    · rw [e]; rfl
    · rw [e] at h1
      have : (2 : Int) ∣ 2 * k + 1 := h1
      omega
  rw [red_of h, Int.ediv_one, Int.ediv_one]
theorem par (a : Int) : (∃ k, a = 2 * k) ∨ ∃ k, a = 2 * k + 1 := by
  rcases (by omega : a % 2 = 0 ∨ a % 2 = 1) with h | h
  · exact .inl ⟨a / 2, by omega⟩
  · exact .inr ⟨a / 2, by omega⟩
theorem half_den (n : Int) : 0 < (half n).2 ∧ (half n).2 ≤ 100 := by
  rcases par n with ⟨k, rfl⟩ | ⟨k, rfl⟩
  · rw [half_even]
    exact ⟨by show (0 : Int) < 1; decide, by show (1 : Int) ≤ 100; decide⟩
  · rw [half_odd]
    exact ⟨by show (0 : Int) < 2; decide, by show (2 : Int) ≤ 100; decide⟩
theorem red_one (n : Int) : red n 1 = (n, 1) := by
  have h : (Int.gcd n 1 : Int) = 1 := by simp
  rw [red_of h, Int.ediv_one, Int.ediv_one]
theorem red_four (n : Int) : red (4 * n) 4 = (n, 1) := by
  have h : (Int.gcd (4 * n) 4 : Int) = 4 := by
    rw [show (4 : Int) = 4 * 1 from rfl, Int.mul_assoc, Int.gcd_mul_left]
    simp
  rw [red_of h, Int.mul_ediv_cancel_left _ (by decide)]
  rfl
/-- the sum of two halves -/
theorem half_plus (a b : Int) : red ((half a).1 * (half b).2 + (half b).1 * (half a).2) ((half a).2 * (half b).2) = half (a + b) := by
  rcases par a with ⟨k, rfl⟩ | ⟨k, rfl⟩ <;> rcases par b with ⟨l, rfl⟩ | ⟨l, rfl⟩
  · rw [half_even, half_even, show 2 * k + 2 * l = 2 * (k + l) by omega, half_even]
    show red (k * 1 + l * 1) (1 * 1) = _
    rw [show k * 1 + l * 1 = k + l by omega, show (1 : Int) * 1 = 1 from rfl, red_one]
  · rw [half_even, half_odd]
    show red (k * 2 + (2 * l + 1) * 1) (1 * 2) = red _ 2
    rw [show k * 2 + (2 * l + 1) * 1 = 2 * k + (2 * l + 1) by omega, show (1 : Int) * 2 = 2 from rfl]
  · rw [half_even, half_odd]
    show red ((2 * k + 1) * 1 + l * 2) (2 * 1) = red _ 2
    rw [show (2 * k + 1) * 1 + l * 2 = 2 * k + 1 + 2 * l by omega, show (2 : Int) * 1 = 2 from rfl]
  · rw [half_odd, half_odd, show 2 * k + 1 + (2 * l + 1) = 2 * (k + l + 1) by omega, half_even]
    show red ((2 * k + 1) * 2 + (2 * l + 1) * 2) (2 * 2) = _
    rw [show (2 * k + 1) * 2 + (2 * l + 1) * 2 = 4 * (k + l + 1) by omega, show (2 : Int) * 2 = 4 from rfl, red_four]
theorem half_lt (a b : Int) : decide ((half a).1 * (half b).2 < (half b).1 * (half a).2) = decide (a < b) := by
  rcases par a with ⟨k, rfl⟩ | ⟨k, rfl⟩ <;> rcases par b with ⟨l, rfl⟩ | ⟨l, rfl⟩ <;>
    simp only [half_even, half_odd] <;> (apply Bool.eq_iff_iff.mpr; simp only [decide_eq_true_eq]; constructor <;> intro h <;> omega)
theorem half_zero : half 0 = (0, 1) := half_even 0
/-! ### lists of data -/
theorem getD_map {α : Type} (f : α → PyData) (z : α) {S : List α} {i : Nat} (hi : i < S.length) : (S.map f).getD i .none = f (S.getD i z) := by
  rw [List.getD_eq_getElem?_getD, List.getD_eq_getElem?_getD, List.getElem?_map, List.getElem?_eq_getElem hi]
  rfl
theorem getD_mem {α : Type} (z : α) {S : List α} {i : Nat} (hi : i < S.length) : S.getD i z ∈ S := by
  rw [List.getD_eq_getElem?_getD, List.getElem?_eq_getElem hi]
  exact List.getElem_mem hi
theorem ei_congr {C : Cn} {wi : TI} {Γ : Gm} {n m : Nat} {dat dat' : Nat → PyData} (h : EI C wi Γ n dat) (e : n = m) (hd : ∀ i, i < n → dat i = dat' i) : EI C wi Γ m dat' := fun σ H G R q => by
  subst e
  refine h σ H G R fun J H1 s S => q J H1 s ?_
  obtain ⟨Gw, Y, W, gw, yw⟩ := S.ex
  refine ⟨Gw, Y, W, gw, fun B' h1 h2 i H x H' hi s2 hp y => ?_⟩
  rw [← hd i hi]
  exact yw B' h1 h2 i H x H' hi s2 hp y
theorem ei_mapT {α : Type} {C : Cn} {tl : TE} {Γ : Gm} {K : PySem.W.Frag} (f : α → PyData) (z : α) {S : List α} (h : EG C tl Γ (.tuple (S.map f))) : EI C (iTup K tl) Γ S.length (fun i => f (S.getD i z)) :=
  ei_congr (ei_tup h) (List.length_map _) fun i hi => getD_map f z (by rw [List.length_map] at hi; exact hi)
theorem ei_mapL {α : Type} {C : Cn} {tl : TE} {Γ : Gm} {K : PySem.W.Frag} (f : α → PyData) (z : α) {S : List α} (h : EG C tl Γ (.list (S.map f))) : EI C (iList K tl) Γ S.length (fun i => f (S.getD i z)) :=
  ei_congr (ei_list h) (List.length_map _) fun i hi => getD_map f z (by rw [List.length_map] at hi; exact hi)
theorem given_all (n : Nat) (r : Nat → PyData) : given n (fun _ => true) r = (List.range n).map r := by
  unfold given
  rw [List.filter_eq_self.mpr (fun _ _ => rfl)]
theorem range_getD {α : Type} (z : α) (S : List α) : (List.range S.length).map (fun i => S.getD i z) = S := by
  refine List.ext_getElem (by simp) fun i h1 h2 => ?_
  simp [List.getElem?_eq_getElem h2]
theorem map_getD {α β : Type} (z : α) (S : List α) (f : α → β) : (List.range S.length).map (fun i => f (S.getD i z)) = S.map f := by
  have h := congrArg (List.map f) (range_getD z S)
  rw [List.map_map] at h
  exact h
theorem given_map {α : Type} (z : α) (S : List α) (f : α → PyData) : given S.length (fun _ => true) (fun i => f (S.getD i z)) = S.map f := by
  rw [given_all, map_getD]
theorem at_map {α : Type} (f : α → PyData) (z : α) {S : List α} {i : Nat} (hi : i < S.length) : atI (S.map f) (i : Int) = some (f (S.getD i z)) := by
  refine atI_nat ?_
  rw [List.getElem?_map, List.getD_eq_getElem?_getD, List.getElem?_eq_getElem hi]
  rfl
theorem cut_map {α : Type} (f : α → PyData) {S : List α} {lo hi : Nat} (h1 : lo ≤ hi) (h2 : hi ≤ S.length) : cutD (S.map f) (some (lo : Int)) (some (hi : Int)) = ((S.drop lo).take (hi - lo)).map f := by
  unfold cutD
  rw [HT.sIx_nat, HT.sIx_nat, List.length_map, Nat.min_eq_left (Nat.le_trans h1 h2), Nat.min_eq_left h2, List.map_take, List.map_drop]
/-! ### the AST by places -/
def lcSc : Expr → Scope
  | .ListComp _ _ sc _ => sc
  | _ => { kind := .function, names := [], isGenerator := false, isCoroutine := false }
def arg0 : Expr → Expr
  | .Call _ (a :: _) _ _ => a
  | e => e
def retE : Stmt → Expr
  | .Return (some e) _ => e
  | _ => .Name "" ⟨0, 0, 0, 0⟩
section
variable {P : Program} {w : World} {K : PySem.W.Frag} {mg : Str → Option Value} {base : Heap}
/-! ### part_sum -/
/-- the cost of a row of points at a house -/
def rowCost (L : Line) (lo hi h : Nat) : Int := cost ((L.drop lo).take (hi - lo)) (pos L h)
theorem rowCost_all (L : Line) (h : Nat) : rowCost L 0 L.length h = cost L (pos L h) := by
  unfold rowCost
  rw [List.drop_zero, Nat.sub_zero, List.take_length]
def RPart (ds : List PyData) (d : PyData) : Prop := ∃ (L : Line) (lo hi h : Nat), ds = [lineD L, .int (lo : Int), .int (hi : Int), .int (h : Int)] ∧ Valid L ∧ lo ≤ hi ∧ hi ≤ L.length ∧ h < L.length ∧ d = .int (rowCost L lo hi h)
theorem sc_part_sum : FnScope ["line", "low", "high", "house", "position", "weight"] ["line", "low", "high", "house"] (defScope (topS 19)) := ⟨rfl, rfl, rfl, by decide +kernel, rfl, by decide +kernel, by decide +kernel⟩
theorem part_sum_ok (T : Txt mg) (D : Df K mg "part_sum" (topS 19)) : Cal P w K mg base 1 "part_sum" ["line", "low", "high", "house"] (SpR RPart) := by
  refine mk_cal D (fun _ _ _ _ _ _ us hl => match us, hl with | [_, _, _, _], _ => rfl) fun f fd F => ok_rel F sc_part_sum (fun ds d ⟨_, _, _, _, e, _⟩ => by rw [e]; rfl) fun cdv A outer s H E hr ds d hR => ?_
  obtain ⟨L, lo, hi, h, rfl, V, h1, h2, h3, rfl⟩ := hR
  refine ⟨_, pss_one (ps_ret (pe_callB (cr_sum rfl) (by rfl) T.sum PyProof.Rows.boot_sum (pa_cons
    (pe_lc (own := [("position", 4), ("weight", 5)]) rfl sc_part_sum.nd (pi_tup (pe_slice sl_tupA (pv 0) (po_some (pv 1)) (po_some (pv 2)))) (blkOk_by (N := ["line", "low", "high", "house", "position", "weight"]) (sc := defScope (topS 19)) (by decide +kernel))
      (fun _ _ _ _ _ => pg_tupK (K := K) (n := 2) rfl rfl (pgs_cons (pg_name (i := 4) sc_part_sum.nd rfl (.inl rfl)) (pgs_cons (pg_name (i := 5) sc_part_sum.nd rfl (.inl rfl)) pgs_nil))) (fun _ _ _ _ _ => pts_nil)
      (fun _ _ _ _ _ => pe_op op_mul (pv 5) (pe_callB call_abs (by rfl) T.abs PyProof.Rows.boot_abs (pa_cons (pe_op op_sub (pv 4) (pe_ix (ix_tupK (K := K) rfl) (pe_ix (ix_tupK (K := K) rfl) (pv 0) (pv 3) (fun _ _ => rfl)) pe_int (fun _ _ => rfl))) pa_nil)))) pa_nil))),
    fun B => ⟨[some (lineD L), some (.int (lo : Int)), some (.int (hi : Int)), some (.int (h : Int)), none, none], [], rfl, .inl ?_⟩⟩
  have hS : ∀ q, q ∈ (L.drop lo).take (hi - lo) → q ∈ L := fun q hq => List.mem_of_mem_drop (List.mem_of_mem_take hq)
  have hlen : ((L.drop lo).take (hi - lo)).length ≤ 8 := Nat.le_trans (by rw [List.length_take, List.length_drop]; omega) V.most
  refine bg_ret (eg_is (eg_sum (ns := ((L.drop lo).take (hi - lo)).map fun q => q.2 * dist q.1 (pos L h)) (eg_is (eg_lc (fun _ => true) (fun i => .int ((((L.drop lo).take (hi - lo)).getD i (0, 0)).2 * dist (((L.drop lo).take (hi - lo)).getD i (0, 0)).1 (pos L h)))
    (ei_mapT ratD (0, 0) (eg_is (eg_slT (eg_var rfl) (eo_some (eg_var rfl)) (eo_some (eg_var rfl))) (by rw [cut_map ratD h1 h2]))) (by omega) fun p i hi' => ?_) ?_)) ?_)
  · refine ⟨_, _, ?_, gt_2, et_yes, fun _ => ?_⟩
    · decide
    · have hb := V.bnd _ (hS _ (getD_mem (0, 0) hi'))
      exact eg_mul (eg_var rfl) (eg_abs (eg_sub (eg_var rfl) (eg_ixT (eg_ixT (eg_var rfl) (eg_var rfl) (at_map ratD (0, 0) h3)) eg_int rfl))) (.inl ⟨by omega, by omega⟩)
  · rw [given_map (0, 0) ((L.drop lo).take (hi - lo)) (fun q => PyData.int (q.2 * dist q.1 (pos L h))), List.map_map]
    rfl
  · rfl
/-! ### law_line_sum -/
def RLineSum (ds : List PyData) (d : PyData) : Prop := ∃ (L : Line) (k : Nat), ds = [lineD L, .tuple [.int (k : Int)]] ∧ Valid L ∧ k < L.length ∧ d = .int (cost L (pos L k))
theorem sc_line_sum : FnScope ["_law_line_here", "_law_houses", "_law_at", "_law_weight", "_law_x"] ["_law_line_here", "_law_houses"] (defScope (topS 34)) := ⟨rfl, rfl, rfl, by decide +kernel, rfl, by decide +kernel, by decide +kernel⟩
abbrev lsSc : Scope := lcSc (arg0 (retE ((defBody (topS 34)).getD 0 (.Pass ⟨0, 0, 0, 0⟩))))
theorem line_sum_ok (T : Txt mg) (D : Df K mg "_law_line_sum" (topS 34)) : Cal P w K mg base 1 "_law_line_sum" ["_law_line_here", "_law_houses"] (SpR RLineSum) := by
  refine mk_cal D (fun _ _ _ _ _ _ us hl => match us, hl with | [_, _], _ => rfl) fun f fd F => ok_rel F sc_line_sum (fun ds d ⟨_, _, e, _⟩ => by rw [e]; rfl) fun cdv A outer s H E hr ds d hR => ?_
  obtain ⟨L, k, rfl, V, h3, rfl⟩ := hR
  refine ⟨_, pss_one (ps_ret (pe_callB (cr_sum rfl) (by rfl) T.sum PyProof.Rows.boot_sum (pa_cons
    (pe_lc (own := [("_law_at", 2), ("_law_weight", 3)]) rfl sc_line_sum.nd (pi_tup (pv 0)) (blkOk_by (N := ["_law_line_here", "_law_houses", "_law_at", "_law_weight", "_law_x"]) (sc := defScope (topS 34)) (by decide +kernel))
      (fun _ _ _ _ _ => pg_tupK (K := K) (n := 2) rfl rfl (pgs_cons (pg_name (i := 2) sc_line_sum.nd rfl (.inr rfl)) (pgs_cons (pg_name (i := 3) sc_line_sum.nd rfl (.inl rfl)) pgs_nil))) (fun _ _ _ _ _ => pts_nil)
      (fun _ _ _ _ _ => pe_op op_mul (pv 3) (pe_callB (cr_minK (K := K) rfl rfl) (by rfl) T.min PyProof.Rows.boot_min (pa_cons
        (pe_lc (own := [("_law_x", 4)]) rfl sc_line_sum.nd (pi_tupK (K := K) rfl (pv 1)) (blkOk_by (N := ["_law_line_here", "_law_houses", "_law_at", "_law_weight", "_law_x"]) (sc := relS lsSc (defScope (topS 34))) (by decide +kernel))
          (fun _ _ _ _ _ => pg_name (i := 4) sc_line_sum.nd rfl (.inl rfl)) (fun _ _ _ _ _ => pts_nil)
          (fun _ _ _ _ _ => pe_callB call_abs (by rfl) T.abs PyProof.Rows.boot_abs (pa_cons (pe_op op_sub (pv 2) (pe_ix (ix_tupK (K := K) rfl) (pe_ix (ix_tupK (K := K) rfl) (pv 0) (pv 4) (fun _ _ => rfl)) pe_int (fun _ _ => rfl))) pa_nil))) pa_nil)))) pa_nil))),
    fun B => ⟨[some (lineD L), some (.tuple [.int (k : Int)]), none, none, none], [], rfl, .inl ?_⟩⟩
  have hlen := V.most
  refine bg_ret (eg_is (eg_sum (ns := L.map fun q => q.2 * dist q.1 (pos L k)) (eg_is (eg_lc (fun _ => true) (fun i => .int ((L.getD i (0, 0)).2 * dist (L.getD i (0, 0)).1 (pos L k)))
    (ei_mapT ratD (0, 0) (eg_var rfl)) (by omega) fun p i hi' => ?_) ?_)) ?_)
  · refine ⟨_, _, ?_, gt_2, et_yes, fun _ => ?_⟩
    · decide
    · have hb := V.bnd _ (getD_mem (0, 0) hi')
      refine eg_mul (eg_var rfl) (eg_min (ns := [dist (L.getD i (0, 0)).1 (pos L k)]) (eg_is (eg_lc (fun _ => true) (fun _ => .int (dist (L.getD i (0, 0)).1 (pos L k))) (ei_tup (eg_var rfl)) (by show 1 ≤ 100000; decide) fun p j hj => ?_) rfl) (List.mem_singleton.mpr rfl) (fun y hy => Int.le_of_eq (List.mem_singleton.mp hy).symm)) (.inl ⟨by omega, by omega⟩)
      have e : j = 0 := by
        have : j < 1 := hj
        omega
      subst e
      refine ⟨_, _, ?_, gt_name, et_yes, fun _ => ?_⟩
      · decide
      · exact eg_abs (eg_sub (eg_var rfl) (eg_ixT (eg_ixT (eg_var rfl) (eg_var rfl) (at_map ratD (0, 0) h3)) eg_int rfl))
  · rw [given_map (0, 0) L (fun q => PyData.int (q.2 * dist q.1 (pos L k))), List.map_map]
    rfl
  · rfl
/-! ### part_cost -/
def lexlt (p q : Int × Int) : Bool := decide (p.1 < q.1 ∨ (p.1 = q.1 ∧ p.2 < q.2))
theorem dataLt_pair (p q : Int × Int) : PySem.W.dataLt (ratD p) (ratD q) = lexlt p q := by
  exact PySem.W.dataLt_ii _ _ _ _
end
end K58
namespace K58
open PySem PySem.Spec PyProof.Rows L2
/-! ### the least pair -/
def lexmin (p : Int × Int) (r : List (Int × Int)) : Int × Int := r.foldl (fun a y => if lexlt y a then y else a) p
theorem minD_pairs : ∀ (r : List (Int × Int)) (p : Int × Int), PySem.W.minD (ratD p) (r.map ratD) = ratD (lexmin p r)
  | [], _ => rfl
  | y :: r, p => by
    show PySem.W.minD (if PySem.W.dataLt (ratD y) (ratD p) then ratD y else ratD p) (r.map ratD) = ratD (lexmin (if lexlt y p then y else p) r)
    rw [dataLt_pair]
    split
    · exact minD_pairs r y
    · exact minD_pairs r p
theorem lexmin_mem : ∀ (r : List (Int × Int)) (p : Int × Int), lexmin p r ∈ p :: r
  | [], _ => List.mem_cons_self
  | y :: r, p => by
    have h := lexmin_mem r (if lexlt y p then y else p)
    show lexmin (if lexlt y p then y else p) r ∈ p :: y :: r
    rcases List.mem_cons.mp h with e | e
    · rw [e]
      split
      · exact List.mem_cons_of_mem _ List.mem_cons_self
      · exact List.mem_cons_self
    · exact List.mem_cons_of_mem _ (List.mem_cons_of_mem _ e)
theorem lexmin_le : ∀ (r : List (Int × Int)) (p : Int × Int), lexlt p (lexmin p r) = false ∧ ∀ x, x ∈ r → lexlt x (lexmin p r) = false
  | [], p => ⟨by unfold lexmin lexlt; simp, fun x h => by cases h⟩
  | y :: r, p => by
    obtain ⟨h1, h2⟩ := lexmin_le r (if lexlt y p then y else p)
    have e : lexmin p (y :: r) = lexmin (if lexlt y p then y else p) r := rfl
    rw [e]
    generalize lexmin (if lexlt y p then y else p) r = z at h1 h2
    have key : lexlt p z = false ∧ lexlt y z = false := by
      unfold lexlt at h1 ⊢
      simp only [decide_eq_false_iff_not, decide_eq_true_eq] at h1 ⊢
      split at h1
      · rename_i h
        constructor <;> omega
      · rename_i h
        constructor <;> omega
    exact ⟨key.1, fun x hx => (List.mem_cons.mp hx).elim (fun q => by rw [q]; exact key.2) (h2 x)⟩
theorem rat_alike (p q : Int × Int) : PySem.W.alike (ratD p) (ratD q) = true := by simp [PySem.W.alike, PySem.W.alikeAll]
theorem rats_alike (r : List (Int × Int)) : PySem.W.AlikeAll (r.map ratD) := by
  refine ⟨fun x hx y hy => ?_, fun x hx => ?_⟩
  · obtain ⟨p, _, rfl⟩ := List.mem_map.mp hx
    obtain ⟨q, _, rfl⟩ := List.mem_map.mp hy
    exact rat_alike p q
  · obtain ⟨p, _, rfl⟩ := List.mem_map.mp hx
    exact fun h => nomatch h
theorem rats_lay : ∀ r : List (Int × Int), PyData.canLayAll0 (r.map ratD) = true
  | [] => by simp [PyData.canLayAll0]
  | p :: r => by
    have h := rats_lay r
    simp [PyData.canLayAll0, PyData.canLay0, h]
theorem rats_depth : ∀ r : List (Int × Int), PyData.depthAll (r.map ratD) ≤ 1
  | [] => by simp [PyData.depthAll]
  | p :: r => by
    have h := rats_depth r
    have e : PyData.depthAll ((p :: r).map ratD) = max (PyData.depth (ratD p)) (PyData.depthAll (r.map ratD)) := by simp [PyData.depthAll]
    have e2 : PyData.depth (ratD p) = 1 := by simp [PyData.depth, PyData.depthAll]
    rw [e, e2]
    omega
/-- the costs of a row at each of its houses -/
def rowPairs (L : Line) (lo hi : Nat) : List (Int × Int) := (List.range (hi - lo)).map fun k => (rowCost L lo hi (lo + k), ((lo + k : Nat) : Int))
def pcost (L : Line) (lo hi : Nat) : Int × Int := match rowPairs L lo hi with
  | [] => (0, 0)
  | p :: r => lexmin p r
theorem rowPairs_cons {L : Line} {lo hi : Nat} (h : lo < hi) : ∃ p r, rowPairs L lo hi = p :: r := by
  cases e : rowPairs L lo hi with
  | nil =>
    have q := congrArg List.length e
    unfold rowPairs at q
    rw [List.length_map, List.length_range] at q
    simp at q
    omega
  | cons p r => exact ⟨p, r, rfl⟩
section
variable {P : Program} {w : World} {K : PySem.W.Frag} {mg : Str → Option Value} {base : Heap}
/-! ### part_cost -/
def RPC (ds : List PyData) (d : PyData) : Prop := ∃ (L : Line) (lo hi : Nat), ds = [lineD L, .int (lo : Int), .int (hi : Int)] ∧ Valid L ∧ lo < hi ∧ hi ≤ L.length ∧ d = ratD (pcost L lo hi)
theorem sc_part_cost : FnScope ["line", "low", "high", "house"] ["line", "low", "high"] (defScope (topS 20)) := ⟨rfl, rfl, rfl, by decide +kernel, rfl, by decide +kernel, by decide +kernel⟩
theorem part_cost_ok (T : Txt mg) (D : Df K mg "part_cost" (topS 20)) (G : Cal P w K mg base 1 "part_sum" ["line", "low", "high", "house"] (SpR RPart)) : Cal P w K mg base 2 "part_cost" ["line", "low", "high"] (SpR RPC) := by
  refine mk_cal D (fun _ _ _ _ _ _ us hl => match us, hl with | [_, _, _], _ => rfl) fun f fd F => ok_rel F sc_part_cost (fun ds d ⟨_, _, _, e, _⟩ => by rw [e]; rfl) fun cdv A outer s H E hr ds d hR => ?_
  obtain ⟨L, lo, hi, rfl, V, h1, h2, rfl⟩ := hR
  have hmost := V.most
  refine ⟨_, pss_one (ps_ret (pe_callB (cr_minD rfl hr.units) (by rfl) T.min PyProof.Rows.boot_min (pa_cons
    (pe_lc (own := [("house", 3)]) rfl sc_part_cost.nd (pi_range2 (by rfl) T.range (pa_cons (pv 1) (pa_cons (pv 2) pa_nil))) (blkOk_by (N := ["line", "low", "high", "house"]) (sc := defScope (topS 20)) (by decide +kernel))
      (fun _ _ _ _ _ => pg_name (i := 3) sc_part_cost.nd rfl (.inl rfl)) (fun _ _ _ _ _ => pts_nil)
      (fun _ _ _ _ _ => pe_tup (pa_cons (pe_cal G hr (by rfl) (pa_cons (pv 0) (pa_cons (pv 1) (pa_cons (pv 2) (pa_cons (pv 3) pa_nil))))) (pa_cons (pv 3) pa_nil)))) pa_nil))),
    fun B => ⟨[some (lineD L), some (.int (lo : Int)), some (.int (hi : Int)), none], [], rfl, .inl ?_⟩⟩
  have key : EG (Cn.pure B) _ [some (lineD L), some (.int (lo : Int)), some (.int (hi : Int)), none] (.list ((rowPairs L lo hi).map ratD)) :=
    eg_is (eg_lc (g := gName 3) (vs := [3]) (tt := tYes) (wi := iRng2 (tCons (tVar 1) (tCons (tVar 2) tNil))) (te := tTup (tCons (tCall (SpR RPart) [] E0 (tCons (tVar 0) (tCons (tVar 1) (tCons (tVar 2) (tCons (tVar 3) tNil))))) (tCons (tVar 3) tNil)))
      (fun _ => true) (fun k => ratD (rowCost L lo hi (lo + k), ((lo + k : Nat) : Int)))
      (ei_congr (ei_rng2 (ea_2 (eg_var rfl) (eg_var rfl)) ⟨by omega, by omega⟩ ⟨by omega, by omega⟩) (show ((hi : Int) - (lo : Int)).toNat = hi - lo by omega) (dat' := fun k => .int ((lo + k : Nat) : Int)) fun i _ => by rw [Int.natCast_add]) (by omega)
      fun p i hi' => ⟨[3], _, by decide, gt_name, et_yes, fun _ => eg_tup (ea_2 (eg_call (ea_cons (eg_var rfl) (ea_cons (eg_var rfl) (ea_2 (eg_var rfl) (eg_var rfl)))) ⟨L, lo, hi, lo + i, rfl, V, by omega, h2, by omega, rfl⟩) (eg_var rfl)) (by show 2 ≤ 1000; decide)⟩) (by
        rw [given_all]
        unfold rowPairs
        rw [List.map_map]
        rfl)
  obtain ⟨p, r, e⟩ := rowPairs_cons (L := L) h1
  have e2 : pcost L lo hi = lexmin p r := by
    unfold pcost
    rw [e]
  rw [e2, ← minD_pairs]
  rw [e] at key
  have h3 := rats_depth (p :: r)
  exact bg_ret (eg_minD key (rats_lay (p :: r)) (rats_alike (p :: r)) (Nat.le_trans h3 (by decide)))
/-! ### law_grid -/
def grid (as bs : List Int) : List (Int × Int) := as.flatMap fun a => bs.map fun b => (a, b)
theorem grid_take {as bs : List Int} {i : Nat} (hi : i < as.length) : grid (as.take (i + 1)) bs = grid (as.take i) bs ++ bs.map fun b => (as.getD i 0, b) := by
  unfold grid
  rw [List.take_add_one, List.getElem?_eq_getElem hi, List.flatMap_append]
  simp [List.getD_eq_getElem?_getD, List.getElem?_eq_getElem hi]
theorem grid_len (as bs : List Int) : (grid as bs).length = as.length * bs.length := by
  unfold grid
  induction as with
  | nil => simp
  | cons a as ih =>
    rw [List.flatMap_cons, List.length_append, ih, List.length_map, List.length_cons, Nat.succ_mul]
    omega
def RGrid (ds : List PyData) (d : PyData) : Prop := ∃ as bs : List Int, ds = [.list (as.map .int), .list (bs.map .int)] ∧ as.length ≤ 10 ∧ bs.length ≤ 10 ∧ d = .list ((grid as bs).map ratD)
theorem sc_grid : FnScope ["_law_one", "_law_other", "_law_found", "_law_x", "_law_y"] ["_law_one", "_law_other"] (defScope (topS 35)) := ⟨rfl, rfl, rfl, by decide +kernel, rfl, by decide +kernel, by decide +kernel⟩
theorem grid_ok (D : Df K mg "_law_grid" (topS 35)) : Cal P w K mg base 1 "_law_grid" ["_law_one", "_law_other"] (SpR RGrid) := by
  refine mk_cal D (fun _ _ _ _ _ _ us hl => match us, hl with | [_, _], _ => rfl) fun f fd F => ok_rel F sc_grid (fun ds d ⟨_, _, e, _⟩ => by rw [e]; rfl) fun cdv A outer s H E hr ds d hR => ?_
  obtain ⟨as, bs, rfl, h1, h2, rfl⟩ := hR
  refine ⟨_, pss_cons (ps_set (i := 2) sc_grid.nd rfl (.inl rfl) (pe_lst pa_nil))
    (pss_cons (ps_for PassesOwn.never rfl (pi_list (pv 0)) (pg_name (i := 3) sc_grid.nd rfl (.inr rfl))
      (pss_one (ps_set (i := 2) sc_grid.nd rfl (.inl rfl) (pe_op op_cat (pv 2)
        (pe_lc (own := [("_law_y", 4)]) rfl sc_grid.nd (pi_list (pv 1)) (blkOk_by (N := ["_law_one", "_law_other", "_law_found", "_law_x", "_law_y"]) (sc := defScope (topS 35)) (by decide +kernel))
          (fun _ _ _ _ _ => pg_name (i := 4) sc_grid.nd rfl (.inl rfl)) (fun _ _ _ _ _ => pts_nil)
          (fun _ _ _ _ _ => pe_tup (pa_cons (pv 3) (pa_cons (pv 4) pa_nil))))))))
    (pss_one (ps_ret (pv 2)))), fun B => ⟨[some (.list (as.map .int)), some (.list (bs.map .int)), none, none, none], [], rfl, .inl ?_⟩⟩
  refine bg_seq (bg_set (eg_lst ea_nil (by show 0 ≤ 1000; decide))) (bg_seq (Γ1 := [none, none, some (.list ((grid as bs).map ratD)), none, none]) (bg_forN (fun i => [some (.list (as.map .int)), some (.list (bs.map .int)), some (.list ((grid (as.take i) bs).map ratD)), none, none])
    (ei_mapL PyData.int 0 (eg_var rfl)) ⟨rfl, rfl, rfl, True.intro⟩ (fun i hi => ?_) ⟨by rw [List.take_length], True.intro⟩) (bg_ret (eg_var rfl)))
  refine ⟨_, _, gt_name, bg_post (bg_set (eg_cat (es := (bs.map fun b => (as.getD i 0, b)).map ratD) (eg_var rfl) (eg_is (eg_lc (fun _ => true) (fun j => ratD (as.getD i 0, bs.getD j 0)) (ei_mapL PyData.int 0 (eg_var rfl)) (by omega) fun p j hj => ⟨_, _, ?_, gt_name, et_yes, fun _ => eg_tup (ea_2 (eg_var rfl) (eg_var rfl)) (by show 2 ≤ 1000; decide)⟩) ?_) ?_)) ?_⟩
  · decide
  · rw [given_map 0 bs (fun b => ratD (as.getD i 0, b)), List.map_map]
    rfl
  · rw [List.length_map, List.length_map, List.length_map, grid_len, List.length_take]
    have q : min i as.length * bs.length ≤ 10 * 10 := Nat.mul_le_mul (by omega) h2
    omega
  · refine ⟨rfl, rfl, ?_, True.intro⟩
    show some (PyData.list _) = some (PyData.list _)
    rw [grid_take hi, List.map_append]
/-! ### the law's ratios -/
theorem sc_lgcd : FnScope ["_law_one", "_law_other"] ["_law_one", "_law_other"] (defScope (topS 37)) := ⟨rfl, rfl, rfl, by decide +kernel, rfl, by decide +kernel, by decide +kernel⟩
theorem lgcd_ok (T : Txt mg) (D : Df K mg "_law_gcd" (topS 37)) : Cal P w K mg base 1 "_law_gcd" ["_law_one", "_law_other"] (SpR RGcd) := by
  refine mk_cal D (fun _ _ _ _ _ _ us hl => match us, hl with | [_, _], _ => rfl) fun f fd F => ok_rel F sc_lgcd (fun ds d ⟨_, _, e, _⟩ => by rw [e]; rfl) fun cdv A outer s H E hr ds d hR => ?_
  obtain ⟨a, b, rfl, rfl⟩ := hR
  refine ⟨_, pss_cons (ps_par (i := 0) (j := 1) (by rfl) sc_lgcd.nd rfl rfl (by decide) rfl rfl (pa_cons (pe_callB call_abs (by rfl) T.abs PyProof.Rows.boot_abs (pa_cons (pv 0) pa_nil)) (pa_cons (pe_callB call_abs (by rfl) T.abs PyProof.Rows.boot_abs (pa_cons (pv 1) pa_nil)) pa_nil)) (by rfl))
    (pss_cons (ps_while PassesOwn.never (pt_cmpR op_ne (pv 1) pe_int (nomark _))
      (pss_one (ps_par (i := 0) (j := 1) (by rfl) sc_lgcd.nd rfl rfl (by decide) rfl rfl (pa_cons (pv 1) (pa_cons (pe_op op_modN (pe_callTy call_int1 (by rfl) T.int PyProof.Rows.boot_int (pa_cons (pv 0) pa_nil)) (pv 1)) pa_nil)) (by rfl))))
    (pss_one (ps_ret (pv 0)))), fun B => ⟨[some (.int a), some (.int b)], [], rfl, .inl ?_⟩⟩
  refine bg_seq (bg_par (ea_2 (eg_abs (eg_var rfl)) (eg_abs (eg_var rfl)))) ?_
  refine bg_seq (Γ1 := [some (.int (Int.gcd a b)), none]) (bg_while (fun p : Int × Int => [some (.int p.1), some (.int p.2)]) (fun p => p.2.toNat) (fun p => 0 ≤ p.1 ∧ 0 ≤ p.2 ∧ Int.gcd p.1 p.2 = Int.gcd a b) (fun p => !decide (p.2 = 0))
    (if a < 0 then -a else a, if b < 0 then -b else b) ⟨by show 0 ≤ (if a < 0 then -a else a); split <;> omega, by show 0 ≤ (if b < 0 then -b else b); split <;> omega, gcd_abs a b⟩ (fun p hp => et_test (eg_neI (eg_var rfl) eg_int)) (fun p hp hc => ?_) (fun p hp hc => ?_)) (bg_ret (eg_var rfl))
  · obtain ⟨h1, h2, h3⟩ := hp
    have hne : p.2 ≠ 0 := by simpa using hc
    have e : p.1.fmod p.2 = p.1 % p.2 := Int.fmod_eq_emod_of_nonneg _ h2
    have l1 := Int.emod_nonneg p.1 hne
    have l2 := Int.emod_lt_of_pos p.1 (show 0 < p.2 by omega)
    refine ⟨(p.2, p.1.fmod p.2), ⟨h2, by show 0 ≤ p.1.fmod p.2; omega, (gcd_step h1 h2).trans h3⟩, by show (p.1.fmod p.2).toNat < p.2.toNat; omega, bg_par (ea_2 (eg_var rfl) (eg_mod (eg_int1 (eg_var rfl)) (eg_var rfl) hne))⟩
  · obtain ⟨h1, h2, h3⟩ := hp
    have h0 : p.2 = 0 := by simpa using hc
    rw [h0, Int.gcd_zero_right] at h3
    refine ⟨?_, True.intro⟩
    have e : (Int.gcd a b : Int) = p.1 := by omega
    rw [e]
theorem sc_lratio : FnScope ["_law_numerator", "_law_denominator", "_law_common"] ["_law_numerator", "_law_denominator"] (defScope (topS 38)) := ⟨rfl, rfl, rfl, by decide +kernel, rfl, by decide +kernel, by decide +kernel⟩
theorem lratio_ok (D : Df K mg "_law_ratio" (topS 38)) (G : Cal P w K mg base 1 "_law_gcd" ["_law_one", "_law_other"] (SpR RGcd)) : Cal P w K mg base 2 "_law_ratio" ["_law_numerator", "_law_denominator"] (SpR RRed) := by
  refine mk_cal D (fun _ _ _ _ _ _ us hl => match us, hl with | [_, _], _ => rfl) fun f fd F => ok_rel F sc_lratio (fun ds d ⟨_, _, e, _⟩ => by rw [e]; rfl) fun cdv A outer s H E hr ds d hR => ?_
  obtain ⟨n, m, rfl, h0, h1, rfl⟩ := hR
  refine ⟨_, pss_cons (ps_set (i := 2) sc_lratio.nd rfl (.inl rfl) (pe_cal G hr (by rfl) (pa_cons (pv 0) (pa_cons (pv 1) pa_nil))))
    (pss_cons (ps_set (i := 2) sc_lratio.nd rfl (.inl rfl) (pe_ifExp (pt_cmpR op_lt (pv 1) pe_int (nomark _)) (pe_op op_sub pe_int (pv 2)) (pv 2)))
    (pss_one (ps_ret (pe_tup (pa_cons (pe_op op_fdivN (pv 0) (pv 2)) (pa_cons (pe_op op_fdivN (pv 1) (pv 2)) pa_nil)))))), fun B => ⟨[some (.int n), some (.int m), none], [], rfl, .inl ?_⟩⟩
  have g0 := gcd_pos (n := n) h0
  have g1 := gcd_le (n := n) h0
  have hc : ∀ i : Int, CDivN i (Int.gcd n m : Int) := fun i => ⟨by omega, by omega⟩
  refine bg_seq (bg_set (eg_call (ea_2 (eg_var rfl) (eg_var rfl)) ⟨n, m, rfl, rfl⟩)) (bg_seq (bg_set (eg_if (et_is (et_test (eg_lt (eg_var rfl) eg_int)) (decide_eq_false (by omega))) (fun e => nomatch e) fun _ => eg_var rfl)) (bg_ret (eg_is (eg_tup (ea_2 (eg_fdiv (eg_var rfl) (eg_var rfl) (hc n)) (eg_fdiv (eg_var rfl) (eg_var rfl) (hc m))) (by show 2 ≤ 1000; decide)) ?_)))
  rw [Int.fdiv_eq_ediv_of_nonneg _ (by omega), Int.fdiv_eq_ediv_of_nonneg _ (by omega)]
  rfl
theorem sc_lplus : FnScope ["_law_one", "_law_other"] ["_law_one", "_law_other"] (defScope (topS 39)) := ⟨rfl, rfl, rfl, by decide +kernel, rfl, by decide +kernel, by decide +kernel⟩
theorem lplus_ok (D : Df K mg "_law_plus" (topS 39)) (G : Cal P w K mg base 2 "_law_ratio" ["_law_numerator", "_law_denominator"] (SpR RRed)) : Cal P w K mg base 3 "_law_plus" ["_law_one", "_law_other"] (SpR RPlus) := by
  refine mk_cal D (fun _ _ _ _ _ _ us hl => match us, hl with | [_, _], _ => rfl) fun f fd F => ok_rel F sc_lplus (fun ds d ⟨_, _, e, _⟩ => by rw [e]; rfl) fun cdv A outer s H E hr ds d hR => ?_
  obtain ⟨⟨a, b⟩, ⟨c, e⟩, rfl, h1, h2, rfl⟩ := hR
  refine ⟨_, pss_one (ps_ret (pe_cal G hr (by rfl) (pa_cons (pe_op op_add (pe_op op_mul (pe_ix ix_tup (pv 0) pe_int (fun _ _ => rfl)) (pe_ix ix_tup (pv 1) pe_int (fun _ _ => rfl))) (pe_op op_mul (pe_ix ix_tup (pv 1) pe_int (fun _ _ => rfl)) (pe_ix ix_tup (pv 0) pe_int (fun _ _ => rfl))))
    (pa_cons (pe_op op_mul (pe_ix ix_tup (pv 0) pe_int (fun _ _ => rfl)) (pe_ix ix_tup (pv 1) pe_int (fun _ _ => rfl))) pa_nil)))), fun B => ⟨[some (ratD (a, b)), some (ratD (c, e))], [], rfl, .inl ?_⟩⟩
  simp only at h1 h2
  have hm : b * e ≤ 100 * 100 := Int.mul_le_mul h1.2 h2.2 (by omega) (by omega)
  have hp : 0 < b * e := Int.mul_pos h1.1 h2.1
  exact bg_ret (eg_call (ea_2 (eg_add (eg_mul (eg_ixT (eg_var rfl) eg_int rfl) (eg_ixT (eg_var rfl) eg_int rfl) (.inr ⟨by omega, by omega⟩)) (eg_mul (eg_ixT (eg_var rfl) eg_int rfl) (eg_ixT (eg_var rfl) eg_int rfl) (.inr ⟨by omega, by omega⟩)))
    (eg_mul (eg_ixT (eg_var rfl) eg_int rfl) (eg_ixT (eg_var rfl) eg_int rfl) (.inr ⟨by omega, by omega⟩))) ⟨_, _, rfl, hp, (show b * e < 1000000 by omega), rfl⟩)
def halfD (n : Int) : PyData := ratD (half n)
def RSum (ds : List PyData) (d : PyData) : Prop := ∃ Ns : List Int, ds = [.list (Ns.map halfD)] ∧ d = halfD Ns.sum
theorem sc_lsum : FnScope ["_law_values", "_law_found", "_law_one"] ["_law_values"] (defScope (topS 40)) := ⟨rfl, rfl, rfl, by decide +kernel, rfl, by decide +kernel, by decide +kernel⟩
theorem lsum_ok (D : Df K mg "_law_sum" (topS 40)) (G : Cal P w K mg base 3 "_law_plus" ["_law_one", "_law_other"] (SpR RPlus)) : Cal P w K mg base 4 "_law_sum" ["_law_values"] (SpR RSum) := by
  refine mk_cal D (fun _ _ _ _ _ _ us hl => match us, hl with | [_], _ => rfl) fun f fd F => ok_rel F sc_lsum (fun ds d ⟨_, e, _⟩ => by rw [e]; rfl) fun cdv A outer s H E hr ds d hR => ?_
  obtain ⟨Ns, rfl, rfl⟩ := hR
  refine ⟨_, pss_cons (ps_set (i := 1) sc_lsum.nd rfl (.inl rfl) (pe_tup (pa_cons pe_int (pa_cons pe_int pa_nil))))
    (pss_cons (ps_for PassesOwn.never rfl (pi_list (pv 0)) (pg_name (i := 2) sc_lsum.nd rfl (.inl rfl)) (pss_one (ps_set (i := 1) sc_lsum.nd rfl (.inl rfl) (pe_cal G hr (by rfl) (pa_cons (pv 1) (pa_cons (pv 2) pa_nil))))))
    (pss_one (ps_ret (pv 1)))), fun B => ⟨[some (.list (Ns.map halfD)), none, none], [], rfl, .inl ?_⟩⟩
  refine bg_seq (bg_set (eg_tup (ea_2 eg_int eg_int) (by show 2 ≤ 1000; decide))) (bg_seq (Γ1 := [none, some (halfD Ns.sum), none]) (bg_forN (fun i => [none, some (halfD (Ns.take i).sum), none]) (ei_mapL halfD 0 (eg_var rfl)) ⟨?_, True.intro⟩ (fun i hi => ?_) ⟨by rw [List.take_length], True.intro⟩) (bg_ret (eg_var rfl)))
  · show some (ratD (0, 1)) = some (halfD 0)
    unfold halfD
    rw [half_zero]
  · refine ⟨_, _, gt_name, bg_post (bg_set (eg_call (ea_2 (eg_var rfl) (eg_var rfl)) ⟨half (Ns.take i).sum, half (Ns.getD i 0), rfl, half_den _, half_den _, rfl⟩)) ⟨?_, True.intro⟩⟩
    rw [half_plus, List.take_add_one, List.getElem?_eq_getElem hi, List.sum_append, List.getD_eq_getElem?_getD, List.getElem?_eq_getElem hi]
    unfold halfD
    simp
end
end K58
namespace K58
open PySem PySem.Spec PyProof.Rows L2
/-! ### all_spots -/
/-- the pairs of places, none less than the one ahead -/
def spotsOf (n : Nat) : List (Nat × Nat) := (List.range n).flatMap fun i => ((List.range n).filter fun k => decide (i ≤ k)).map fun k => (i, k)
abbrev prD (q : Nat × Nat) : PyData := .tuple [.int (q.1 : Int), .int (q.2 : Int)]
theorem spots_given (n : Nat) : (given2 n fun i => given n (fun k => decide (i ≤ k)) fun k => prD (i, k)) = (spotsOf n).map prD := by
  unfold given2 given spotsOf
  rw [List.map_flatMap, List.flatMap_def]
  congr 1
  refine List.map_congr_left fun i _ => ?_
  rw [List.map_map]
  rfl
theorem given2_len {n m : Nat} {f : Nat → Nat → Bool} {r : Nat → Nat → PyData} : (given2 n fun i => given m (f i) (r i)).length ≤ n * m := by
  induction n with
  | zero => simp [given2]
  | succ n ih =>
    rw [given2_succ, List.length_append, Nat.succ_mul]
    have := given_len m (f n) (r n)
    omega
section
variable {P : Program} {w : World} {K : PySem.W.Frag} {mg : Str → Option Value} {base : Heap}
def RSpots (ds : List PyData) (d : PyData) : Prop := ∃ n : Nat, ds = [.int (n : Int), .int 2] ∧ n ≤ 10 ∧ d = .list ((spotsOf n).map prD)
theorem sc_spots : FnScope ["size", "sellers", "found", "turn", "spots", "k"] ["size", "sellers"] (defScope (topS 27)) := ⟨rfl, rfl, rfl, by decide +kernel, rfl, by decide +kernel, by decide +kernel⟩
/-- what found holds ahead of each turn -/
def stage (n : Nat) : Nat → PyData
  | 0 => .list [.tuple []]
  | 1 => .list ((List.range n).map fun k : Nat => PyData.tuple [.int (k : Int)])
  | _ => .list ((spotsOf n).map prD)
theorem spots_ok (T : Txt mg) (D : Df K mg "all_spots" (topS 27)) : Cal P w K mg base 1 "all_spots" ["size", "sellers"] (SpR RSpots) := by
  refine mk_cal D (fun _ _ _ _ _ _ us hl => match us, hl with | [_, _], _ => rfl) fun f fd F => ok_rel F sc_spots (fun ds d ⟨_, e, _⟩ => by rw [e]; rfl) fun cdv A outer s H E hr ds d hR => ?_
  obtain ⟨n, rfl, h1, rfl⟩ := hR
  refine ⟨_, pss_cons (ps_set (i := 2) sc_spots.nd rfl (.inl rfl) (pe_lst (pa_cons (pe_tup pa_nil) pa_nil)))
    (pss_cons (ps_for PassesOwn.never rfl (pi_range1 (by rfl) T.range (pa_cons (pv 1) pa_nil)) (pg_name (i := 3) sc_spots.nd rfl (.inl rfl))
      (pss_one (ps_setLc2 (i := 2) (own := [("spots", 4), ("k", 5)]) (vs1 := [5]) rfl sc_spots.nd rfl rfl (sw_true rfl rfl rfl (by decide +kernel)) (pi_list (pv 2)) (blkOk_by (N := ["size", "sellers", "found", "turn", "spots", "k"]) (sc := defScope (topS 27)) (by decide +kernel)) (by decide)
        (fun _ _ _ _ _ => pg_name (i := 4) sc_spots.nd rfl (.inl rfl)) (fun _ _ _ _ _ => pts_nil)
        (fun _ _ _ _ _ => pi_range1 (by rfl) T.range (pa_cons (pv 0) pa_nil)) (fun _ _ _ _ _ => pg_name (i := 5) sc_spots.nd rfl (.inl rfl))
        (fun _ _ _ _ _ => pts_one (PW.pt (pw_or (pt_cmpR (op_eqDK (K := K) rfl hr.units) (pv 4) (pe_tup pa_nil) (nomark _)) (pw_or1 (pt_cmpR op_ge (pv 5) (pe_ix (ix_tupK (K := K) rfl) (pv 4) (pe_un un_neg pe_int) (fun _ _ => rfl)) (nomark _))))))
        (fun _ _ _ _ _ => pe_op (op_catAK (K := K) rfl) (pv 4) (pe_tup (pa_cons (pv 5) pa_nil))))))
    (pss_one (ps_ret (pv 2)))), fun B => ⟨[some (.int (n : Int)), some (.int 2), none, none, none, none], [], rfl, .inl ?_⟩⟩
  refine bg_seq (bg_set (eg_lst (ea_1 (eg_tup ea_nil (by show 0 ≤ 1000; decide))) (by show 1 ≤ 1000; decide))) (bg_seq (Γ1 := [none, none, some (stage n 2), none, none, none]) (bg_forN (n := 2) (fun i => [some (.int (n : Int)), none, some (stage n i), none, none, none]) (ei_rng1 (n := 2) (ea_1 (eg_var rfl)) (by decide)) ⟨rfl, rfl, True.intro⟩ (fun i hi => ?_) ⟨rfl, True.intro⟩) (bg_ret (eg_var rfl)))
  refine ⟨_, _, gt_name, ?_⟩
  rcases (by omega : i = 0 ∨ i = 1) with rfl | rfl
  · refine bg_post (bg_set (d := stage n 1) (eg_is (eg_lc2 (n := 1) (m := fun _ => n) (dat1 := fun _ k => .int (k : Int)) (fun _ _ => true) (fun _ k => .tuple [.int (k : Int)]) (ei_list (ds := [.tuple []]) (eg_var rfl)) (fun i hi => ?_) (fun p i hi => ?_)) ?_)) ⟨rfl, rfl, True.intro⟩
    · have q := given2_len (n := i) (m := n) (f := fun _ _ => true) (r := fun _ k => .tuple [.int (k : Int)])
      have q2 : i * n ≤ 1 * 10 := Nat.mul_le_mul (by omega) h1
      omega
    · obtain rfl : i = 0 := by omega
      refine ⟨_, _, ?_, gt_name, ei_rng1 (ea_1 (eg_var rfl)) (by omega), fun j hj => ⟨_, _, ?_, gt_name, ?_, fun _ => ?_⟩⟩
      · decide
      · decide
      · exact et_is (et_or (a := true) (b := true) (et_is (et_test (eg_eqD (d := .tuple []) (e := .tuple []) (eg_var rfl) (eg_tup ea_nil (by show 0 ≤ 1000; decide)) (by decide +kernel) (by decide +kernel))) (by decide +kernel)) fun e => nomatch e) rfl
      · exact eg_catA (ds := []) (es := [.int (j : Int)]) (eg_var rfl) (eg_tup (ea_1 (eg_var rfl)) (by show 1 ≤ 1000; decide)) (by show 1 ≤ 1000; decide)
    · show PyData.list (given2 1 fun i => given n (fun _ => true) fun k => .tuple [.int (k : Int)]) = PyData.list _
      rw [given2_succ, given_all]
      rfl
  · refine bg_post (bg_set (d := stage n 2) (eg_is (eg_lc2 (n := n) (m := fun _ => n) (dat1 := fun _ k => .int (k : Int)) (fun i k => decide (i ≤ k)) (fun i k => prD (i, k)) (ei_congr (ei_list (ds := (List.range n).map fun k : Nat => PyData.tuple [.int (k : Int)]) (eg_var rfl)) (by rw [List.length_map, List.length_range]) (dat' := fun i => .tuple [.int (i : Int)]) (fun i hi => ?_)) (fun i hi => ?_) (fun p i hi => ?_)) ?_)) ⟨rfl, rfl, True.intro⟩
    · rw [List.length_map, List.length_range] at hi
      rw [getD_map (fun k : Nat => PyData.tuple [.int (k : Int)]) 0 (by rw [List.length_range]; exact hi), List.getD_eq_getElem?_getD, List.getElem?_range hi]
      rfl
    · have q := given2_len (n := i) (m := n) (f := fun i k => decide (i ≤ k)) (r := fun i k => prD (i, k))
      have q2 : i * n ≤ 10 * 10 := Nat.mul_le_mul (by omega) h1
      omega
    · refine ⟨_, _, ?_, gt_name, ei_rng1 (ea_1 (eg_var rfl)) (by omega), fun j hj => ⟨_, _, ?_, gt_name, ?_, fun _ => ?_⟩⟩
      · decide
      · decide
      · refine et_is (et_or (a := false) (b := decide (i ≤ j)) (et_is (et_test (eg_eqD (d := .tuple [.int (i : Int)]) (e := .tuple []) (eg_var rfl) (eg_tup ea_nil (by show 0 ≤ 1000; decide)) rfl (by decide +kernel))) rfl) fun _ => et_is (et_test (eg_ge (eg_var rfl) (eg_ixT (ds := [.int (i : Int)]) (eg_var rfl) (eg_neg eg_int) rfl))) ?_) ?_
        · by_cases h : i ≤ j
          · rw [decide_eq_true h, decide_eq_true (by omega)]
          · rw [decide_eq_false h, decide_eq_false (by omega)]
        · rw [Bool.false_or]
      · exact eg_catA (ds := [.int (i : Int)]) (es := [.int (j : Int)]) (eg_var rfl) (eg_tup (ea_1 (eg_var rfl)) (by show 1 ≤ 1000; decide)) (by show 2 ≤ 1000; decide)
    · show PyData.list _ = PyData.list _
      rw [spots_given]
end
end K58
namespace K58
open PySem PySem.Spec PyProof.Rows L2
/-! ### one object that changes -/
def SmP (p : Addr) (H H' : Hp) : Prop := ∀ a o, a ≠ p → H a = some o → H' a = some o
theorem SmP.refl (p : Addr) (H : Hp) : SmP p H H := fun _ _ _ h => h
theorem SmP.trans {p : Addr} {H H1 H2 : Hp} (a : SmP p H H1) (b : SmP p H1 H2) : SmP p H H2 := fun x o n h => b x o n (a x o n h)
theorem smp_of {p : Addr} {H H' : Hp} (s : Same H H') : SmP p H H' := fun a o _ h => s a o h
theorem SmP.smB {p : Addr} {B : List Addr} {H H' : Hp} (s : SmP p H H') (hp : p ∈ B) : SmB B H H' := fun a o na h => s a o (fun e => na (by rw [e]; exact hp)) h
theorem SmP.upd (p : Addr) (H : Hp) (o : HO) : SmP p H (L2.upd H p o) := fun a u n h => by rw [upd_ne n]; exact h
/-- a statement that goes on, the object at p may change -/
def BM (p : Addr) (C C' : Cn) (t : TS) (Γ Γ' : Gm) : Prop := ∀ σ H, Gs C Γ σ H → ∀ D : Ends, (∀ σ' H2, SmP p H H2 → Gs C' Γ' σ' H2 → D.nx σ' H2) → t D σ H
section
variable {p : Addr} {C C' C'' : Cn} {Γ Γ' Γ1 Γ2 : Gm} {t u : TS}
theorem bm_of (h : BG C t Γ none Γ') : BM p C C t Γ Γ' := fun σ H G D q => h σ H G D (fun _ e => nomatch e) fun _ σ' H2 s G2 => q σ' H2 (smp_of s) G2
theorem bm_seq (h : BM p C C' t Γ Γ1) (h2 : BM p C' C'' u Γ1 Γ2) : BM p C C'' (tSeq t u) Γ Γ2 := fun σ H G D q => h σ H G { D with nx := u D } fun σ1 H1 s1 G1 => h2 σ1 H1 G1 D fun σ2 H2 s2 G2 => q σ2 H2 (s1.trans s2) G2
theorem bm_less (h : BM p C C' t Γ1 Γ2) (l1 : Gle Γ1 Γ) (l2 : Gle Γ' Γ2) : BM p C C' t Γ Γ' := fun σ H G D q => h σ H (G.less l1) D fun σ2 H2 s2 G2 => q σ2 H2 s2 (G2.less l2)
theorem bm_post (h : BM p C C' t Γ Γ2) (l2 : Gle Γ' Γ2) : BM p C C' t Γ Γ' := bm_less h (Gle.refl _) l2
theorem bm_for {B : List Addr} {wi : TI} {g : TG} {n : Nat} {dat : Nat → PyData} (hp : p ∈ B) (Ms : Nat → Hp → Prop) (hM : ∀ i H H', Same H H' → Ms i H → Ms i H') (Γs : Nat → Gm) (hi : EI ⟨B, Ms 0, hM 0⟩ wi Γ n dat) (h0 : Gle (Γs 0) Γ)
    (turn : ∀ i, i < n → ∃ js Γ1, GT ⟨B, Ms i, hM i⟩ js g (Γs i) (dat i) Γ1 ∧ BM p ⟨B, Ms i, hM i⟩ ⟨B, Ms (i + 1), hM (i + 1)⟩ t Γ1 (Γs (i + 1))) : BM p ⟨B, Ms 0, hM 0⟩ ⟨B, Ms n, hM n⟩ (tFor wi g t) Γ (Γs n) := fun σ H G D q => by
  refine hi σ H G _ fun J H1 s1 S => ?_
  obtain ⟨Gw, Y, W, gw, yw⟩ := S.ex
  refine for_it W (fun i σ' H' => SmP p H1 H' ∧ Gs ⟨B, Ms i, hM i⟩ (Γs i) σ' H') ⟨SmP.refl p H1, (G.mono s1).less h0⟩ (fun i σ' H' _ x => gw H' (x.1.smB hp)) (fun i x σ' H' H'' hin y z => ?_) (fun σ' H' x => q σ' H' ((smp_of s1).trans x.1) x.2)
  obtain ⟨s2, G2⟩ := y
  obtain ⟨s3, dx⟩ := yw B (fun _ _ h => h) (fun _ h => h) i H' x H'' hin (s2.smB hp) G2.b z
  obtain ⟨js, Γ1, hg, hb⟩ := turn i hin
  exact hg σ' H'' x (G2.mono s3) dx _ fun σ2 G3 _ => hb σ2 H'' G3 _ fun σ4 H4 s4 G4 => ⟨(s2.trans (smp_of s3)).trans s4, G4⟩
end
/-! ### new objects that will change; joining -/
section
variable {C : Cn} {Γ : Gm} {σ : L2.St} {H : Hp} {D : Ends} {u : TS} {ta tb te : TE} {tx : TA} {ds : List PyData} {n : Nat}
theorem Gs.withM {M : Hp → Prop} {h : ∀ H H', Same H H' → M H → M H'} (G : Gs C Γ σ H) (m : M H) : Gs ⟨C.B, M, h⟩ Γ σ H := ⟨m, G.b, G.l, G.g⟩
theorem Gs.newp {p : Addr} {o : HO} (G : Gs C Γ σ H) (hp : H p = none) (n : Nat) : Gs (C.add p) (Γ.set n (some (atD p))) (σ.set n (some (.ref p))) (L2.upd H p o) := (G.add hp).set (.ptr p) n
theorem q_rep {i : Int} (G : Gs C Γ σ H) (ha : EG C ta Γ (.list ds)) (hb : EG C tb Γ (.int i)) (hi : 0 ≤ i ∧ i ≤ 100) (hz : ds.length ≤ 100)
    (k : ∀ p H' vs, H p = none → Same H H' → Gs (C.add p) (Γ.set n (some (atD p))) (σ.set n (some (.ref p))) H' → H' p = some (.lst vs) → DAs (p :: C.B) H' vs (List.replicate i.toNat ds).flatten → u D (σ.set n (some (.ref p))) H') : tSeq (tAsg (tOp rRep ta tb) (gName n)) u D σ H := by
  refine ha σ H G _ fun x H1 s1 d1 => ?_
  refine hb σ H1 (G.mono s1) _ fun y H2 s2 d2 => ?_
  obtain ⟨l, xs, rfl, nl, e1, e2⟩ := (d1.same s2).lstInv
  have hl := e2.length
  have z : xs.length * i.toNat ≤ 100 * 100 := Nat.mul_le_mul (by omega) (by omega)
  refine ⟨l, i, xs, rfl, d2.intInv, e1, by omega, by omega, Nat.le_trans z (by decide), fun p hp => ?_⟩
  have S := s1.trans s2
  exact k p _ _ (S.free hp) (S.trans (same_upd hp)) ((G.mono S).newp hp n) upd_same ((DAs.rep (DAs.add hp _ _ e2) i.toNat).same (same_upd hp))
theorem q_lst (G : Gs C Γ σ H) (ha : EA C tx Γ ds) (hz : ds.length ≤ 1000)
    (k : ∀ p H' vs, H p = none → Same H H' → Gs (C.add p) (Γ.set n (some (atD p))) (σ.set n (some (.ref p))) H' → H' p = some (.lst vs) → DAs (p :: C.B) H' vs ds → u D (σ.set n (some (.ref p))) H') : tSeq (tAsg (tLst tx) (gName n)) u D σ H := by
  refine ha σ H G _ fun vs H1 s1 d1 => ?_
  refine ⟨by rw [d1.length]; exact Nat.le_trans hz (by decide), fun p hp => ?_⟩
  exact k p _ _ (s1.free hp) (s1.trans (same_upd hp)) ((G.mono s1).newp hp n) upd_same ((DAs.add hp _ _ d1).same (same_upd hp))
theorem q_bm {p : Addr} {C' : Cn} {Γ' : Gm} {t : TS} (b : BM p C C' t Γ Γ') (G : Gs C Γ σ H) (k : ∀ σ' H', SmP p H H' → Gs C' Γ' σ' H' → u D σ' H') : tSeq t u D σ H := b σ H G { D with nx := u D } k
theorem q_bg {Γ' : Gm} {t : TS} (b : BG C t Γ none Γ') (G : Gs C Γ σ H) (k : ∀ σ' H', Same H H' → Gs C Γ' σ' H' → u D σ' H') : tSeq t u D σ H := b σ H G { D with nx := u D } (fun _ e => nomatch e) fun _ => k
theorem q_ret {d : PyData} (h : EG C te Γ d) (G : Gs C Γ σ H) (k : ∀ v H', Same H H' → DA C.B H' v d → D.rt v H') : tRet te D σ H := h σ H G _ k
end
/-! ### the list found -/
/-- found at p holds these two halves -/
def Fnd (B : List Addr) (p : Addr) (X Y : Int) (H : Hp) : Prop := ∃ vs, H p = some (.lst vs) ∧ DAs B H vs [halfD X, halfD Y]
theorem Fnd.mono {B : List Addr} {p : Addr} {X Y : Int} (H H' : Hp) (s : Same H H') (h : Fnd B p X Y H) : Fnd B p X Y H' := let ⟨vs, h1, h2⟩ := h; ⟨vs, s _ _ h1, h2.same s⟩
abbrev Cf (B : List Addr) (p : Addr) (X Y : Int) : Cn := ⟨p :: B, Fnd (p :: B) p X Y, fun H H' s h => Fnd.mono H H' s h⟩
/-- one more for the k-th -/
def addK (k : Nat) (q : Int × Int) (m : Int) : Int × Int := if k = 0 then (q.1 + m, q.2) else (q.1, q.2 + m)
abbrev getK (k : Nat) (X Y : Int) : Int := if k = 0 then X else Y
theorem found_at {B : List Addr} {p : Addr} {X Y : Int} {Γ : Gm} {K : PySem.W.Frag} {ta tb : TE} {k : Nat} (hk : k < 2) (ha : EG (Cf B p X Y) ta Γ (atD p)) (hb : EG (Cf B p X Y) tb Γ (.int (k : Int))) : EG (Cf B p X Y) (tOp (rIxL K) ta tb) Γ (halfD (getK k X Y)) :=
  eg_op ha hb fun H hM _ x y dx dy Q q => by
    obtain ⟨vs, h1, h2⟩ := hM
    rw [dx.ptrInv, dy.intInv]
    obtain ⟨v, e1, e2⟩ := h2.get (i := k) (d := halfD (getK k X Y)) (by rcases (by omega : k = 0 ∨ k = 1) with rfl | rfl <;> rfl)
    exact ⟨p, vs, (k : Int), v, rfl, rfl, SqL.of h1, atI_nat e1, q v H (Same.refl H) e2⟩
theorem found_set {B : List Addr} {p : Addr} {X Y M : Int} {Γ : Gm} {ta tb te : TE} {k : Nat} (hk : k < 2) (ha : EG (Cf B p X Y) ta Γ (atD p)) (hb : EG (Cf B p X Y) tb Γ (.int (k : Int))) (he : EG (Cf B p X Y) te Γ (halfD (getK k X Y + M))) :
    BM p (Cf B p X Y) (Cf B p (addK k (X, Y) M).1 (addK k (X, Y) M).2) (tAsg te (gSub ta tb rSetL)) Γ Γ := fun σ H G D q => by
  refine he σ H G _ fun v H1 s1 d1 => ?_
  refine ha σ H1 (G.mono s1) _ fun x H2 s2 d2 => ?_
  refine hb σ H2 (G.mono (s1.trans s2)) _ fun y H3 s3 d3 => ?_
  have S := (s1.trans s2).trans s3
  have G3 := G.mono S
  obtain ⟨vs, h1, h2⟩ := G3.m
  have hl : vs.length = 2 := h2.length
  refine ⟨p, vs, (k : Int), k, d2.ptrInv, d3.intInv, h1, ?_, ?_⟩
  · unfold ixN
    rw [if_pos (by omega), if_pos (by omega)]
    simp
  · have hd : DAs (p :: B) H3 (vs.set k v) [halfD (addK k (X, Y) M).1, halfD (addK k (X, Y) M).2] := by
      have z := DAs.set (d1.same (s2.trans s3)) k h2
      rcases (by omega : k = 0 ∨ k = 1) with rfl | rfl
      · exact z
      · exact z
    refine q σ _ ((smp_of S).trans (SmP.upd p H3 _)) ⟨⟨_, upd_same, hd.upd List.mem_cons_self⟩, fun a ha z => ?_, G3.l, fun i d hi => let ⟨w, e1, e2⟩ := G3.g i d hi; ⟨w, e1, e2.upd List.mem_cons_self⟩⟩
    by_cases e : a = p
    · rw [e, upd_same] at z
      cases z
    · rw [upd_ne e] at z
      exact G3.b a ha z
/-! ### shares_in -/
theorem gains_take (L : Line) (x y : Int) {i : Nat} (hi : i < L.length) : gains (L.take (i + 1)) x y = gains (L.take i) x y + gain x y (L.getD i (0, 0)) := by
  unfold gains sm
  rw [List.take_add_one, List.getElem?_eq_getElem hi, List.map_append, List.sum_append, List.getD_eq_getElem?_getD, List.getElem?_eq_getElem hi]
  simp
theorem gains_zero (L : Line) (x y : Int) : gains (L.take 0) x y = 0 := by
  rw [List.take_zero]
  rfl
section
variable {P : Program} {w : World} {K : PySem.W.Frag} {mg : Str → Option Value} {base : Heap}
def RShares (ds : List PyData) (d : PyData) : Prop := ∃ (L : Line) (a b : Nat), ds = [lineD L, prD (a, b)] ∧ Valid L ∧ a < L.length ∧ b < L.length ∧ d = .list [halfD (gains L (pos L a) (pos L b)), halfD (gains L (pos L b) (pos L a))]
theorem sc_shares : FnScope ["line", "spots", "found", "position", "weight", "far", "k", "near", "spot"] ["line", "spots"] (defScope (topS 25)) := ⟨rfl, rfl, rfl, by decide +kernel, rfl, by decide +kernel, by decide +kernel⟩
/-- the inner store, as it reads -/
abbrev tStore (K : PySem.W.Frag) : TS := tAsg (tCall (SpR RPlus) [] E0 (tCons (tOp (rIxL K) (tVar 2) (tVar 6)) (tCons (tCall (SpR RRed) [] E0 (tCons (tVar 4) (tCons (tCB (fun xs H Q => ∃ p ys, xs = [.ref p] ∧ (SqL K H p ys ∨ SqT K H p ys) ∧ Q (.int ys.length) H) (tCons (tVar 7) tNil)) tNil))) tNil))) (gSub (tVar 2) (tVar 6) rSetL)
theorem store_ok {B : List Addr} {p : Addr} {X Y : Int} {K : PySem.W.Frag} {Γ : Gm} {k : Nat} {wt M : Int} {ks : List PyData} (hk : k < 2) (h2 : Γ[2]? = some (some (atD p))) (h6 : Γ[6]? = some (some (.int (k : Int)))) (h4 : Γ[4]? = some (some (.int wt))) (h7 : Γ[7]? = some (some (.list ks)))
    (hl : ks.length = 1 ∨ ks.length = 2) (hM : M = if ks.length = 1 then 2 * wt else wt) : BM p (Cf B p X Y) (Cf B p (addK k (X, Y) M).1 (addK k (X, Y) M).2) (tStore K) Γ Γ := by
  have e : red wt ks.length = half M := by
    rcases hl with q | q
    · rw [hM, if_pos q, q, half_even]
      exact red_one wt
    · rw [hM, if_neg (by omega), q]
      rfl
  refine found_set hk (eg_var h2) (eg_var h6) (eg_is (eg_call (ea_2 (found_at hk (eg_var h2) (eg_var h6)) (eg_call (ea_2 (eg_var h4) (eg_lenL (eg_var h7))) ⟨wt, (ks.length : Int), rfl, by omega, by omega, rfl⟩)) ⟨half (getK k X Y), half M, ?_, half_den _, half_den _, rfl⟩) ?_)
  · rw [e]
    rfl
  · rw [half_plus]
    rfl
theorem bm_M {p : Addr} {C : Cn} {B : List Addr} {M M' : Hp → Prop} {h : ∀ H H', Same H H' → M H → M H'} {h' : ∀ H H', Same H H' → M' H → M' H'} {t : TS} {Γ Γ' : Gm} (b : BM p C ⟨B, M, h⟩ t Γ Γ') (e : ∀ H, M H → M' H) : BM p C ⟨B, M', h'⟩ t Γ Γ' :=
  fun σ H G D q => b σ H G D fun σ' H2 s2 G2 => q σ' H2 s2 ⟨e _ G2.m, G2.b, G2.l, G2.g⟩
theorem bm_Mpre {p : Addr} {C : Cn} {B : List Addr} {M M' : Hp → Prop} {h : ∀ H H', Same H H' → M H → M H'} {h' : ∀ H H', Same H H' → M' H → M' H'} {t : TS} {Γ Γ' : Gm} (b : BM p ⟨B, M, h⟩ C t Γ Γ') (e : ∀ H, M' H → M H) : BM p ⟨B, M', h'⟩ C t Γ Γ' :=
  fun σ H G D q => b σ H ⟨e _ G.m, G.b, G.l, G.g⟩ D q
/-- which are nearest, and what they get -/
theorem near_split (da db wt X Y : Int) : ∃ ks : List Nat, (given 2 (fun k => decide ((if k = 0 then da else db) = if da ≤ db then da else db)) fun k => PyData.int (k : Int)) = ks.map (fun k : Nat => PyData.int (k : Int)) ∧ (∀ k ∈ ks, k < 2) ∧ (ks.length = 1 ∨ ks.length = 2) ∧
    ks.foldl (fun q k => addK k q (if ks.length = 1 then 2 * wt else wt)) (X, Y) = (X + (if da < db then 2 * wt else if da = db then wt else 0), Y + (if db < da then 2 * wt else if db = da then wt else 0)) := by
  rcases Int.lt_trichotomy da db with h | h | h
  · refine ⟨[0], ?_, by decide, .inl rfl, ?_⟩
    · rw [if_pos (Int.le_of_lt h)]
      have e1 : decide ((if (0 : Nat) = 0 then da else db) = da) = true := decide_eq_true rfl
      have e2 : decide ((if (1 : Nat) = 0 then da else db) = da) = false := decide_eq_false (by show ¬ db = da; omega)
      rw [given_succ, given_succ, e1, e2]
      rfl
    · rw [if_pos h, if_neg (show ¬ db < da by omega), if_neg (show ¬ db = da by omega)]
      show (X + 2 * wt, Y) = (X + 2 * wt, Y + 0)
      rw [Int.add_zero]
  · subst h
    refine ⟨[0, 1], ?_, by decide, .inr rfl, ?_⟩
    · rw [if_pos (Int.le_refl _)]
      have e1 : decide ((if (0 : Nat) = 0 then da else da) = da) = true := decide_eq_true rfl
      have e2 : decide ((if (1 : Nat) = 0 then da else da) = da) = true := decide_eq_true rfl
      rw [given_succ, given_succ, e1, e2]
      rfl
    · rw [if_neg (Int.lt_irrefl da), if_pos rfl]
      rfl
  · refine ⟨[1], ?_, by decide, .inl rfl, ?_⟩
    · rw [if_neg (by omega)]
      have e1 : decide ((if (0 : Nat) = 0 then da else db) = db) = false := decide_eq_false (by show ¬ da = db; omega)
      have e2 : decide ((if (1 : Nat) = 0 then da else db) = db) = true := decide_eq_true rfl
      rw [given_succ, given_succ, e1, e2]
      rfl
    · rw [if_neg (show ¬ da < db by omega), if_neg (show ¬ da = db by omega), if_pos h]
      show (X, Y + 2 * wt) = (X + 0, Y + 2 * wt)
      rw [Int.add_zero]
/-- the inner loop: each nearest one gets M more -/
theorem near_loop {B : List Addr} {p : Addr} {X Y : Int} {K : PySem.W.Frag} {ks : List Nat} {wt M : Int} {l s x3 x5 : PyData} (hks : ∀ k ∈ ks, k < 2) (hl : ks.length = 1 ∨ ks.length = 2) (hM : M = if ks.length = 1 then 2 * wt else wt) :
    BM p (Cf B p X Y) (Cf B p (ks.foldl (fun q k => addK k q M) (X, Y)).1 (ks.foldl (fun q k => addK k q M) (X, Y)).2) (tFor (iList K (tVar 7)) (gName 6) (tStore K))
      [some l, some s, some (atD p), some x3, some (.int wt), some x5, none, some (.list (ks.map fun k : Nat => PyData.int (k : Int))), none] [some l, some s, some (atD p), some x3, some (.int wt), some x5, none, some (.list (ks.map fun k : Nat => PyData.int (k : Int))), none] := by
  have b := bm_for (p := p) (B := p :: B) (Γ := [some l, some s, some (atD p), some x3, some (.int wt), some x5, none, some (.list (ks.map fun k : Nat => PyData.int (k : Int))), none]) (n := ks.length) (g := gName 6) (wi := iList K (tVar 7)) (t := tStore K) List.mem_cons_self (fun j => Fnd (p :: B) p ((ks.take j).foldl (fun q k => addK k q M) (X, Y)).1 ((ks.take j).foldl (fun q k => addK k q M) (X, Y)).2) (fun j H H' s h => Fnd.mono H H' s h)
    (fun _ => [some l, some s, some (atD p), some x3, some (.int wt), some x5, none, some (.list (ks.map fun k : Nat => PyData.int (k : Int))), none]) (ei_mapL (fun k : Nat => PyData.int (k : Int)) 0 (eg_var rfl)) ⟨rfl, rfl, rfl, rfl, rfl, rfl, rfl, True.intro⟩ (fun j hj => ?_)
  · rw [List.take_length] at b
    exact b
  · refine ⟨_, _, gt_name, bm_post (bm_M (store_ok (k := ks.getD j 0) (wt := wt) (M := M) (ks := ks.map fun k : Nat => PyData.int (k : Int)) (hks _ (getD_mem 0 hj)) rfl rfl rfl rfl (by rw [List.length_map]; exact hl) (by rw [List.length_map]; exact hM)) fun H h => ?_) ⟨rfl, rfl, rfl, rfl, rfl, rfl, rfl, True.intro⟩⟩
    rw [List.take_add_one, List.getElem?_eq_getElem hj, List.foldl_append]
    rw [List.getD_eq_getElem?_getD, List.getElem?_eq_getElem hj] at h
    exact h
theorem shares_ok (T : Txt mg) (D : Df K mg "shares_in" (topS 25)) (Gp : Cal P w K mg base 3 "plus" ["one", "other"] (SpR RPlus)) (Gr : Cal P w K mg base 2 "reduced" ["numerator", "denominator"] (SpR RRed)) : Cal P w K mg base 4 "shares_in" ["line", "spots"] (SpR RShares) := by
  refine mk_cal D (fun _ _ _ _ _ _ us hl => match us, hl with | [_, _], _ => rfl) fun f fd F => F.ok sc_shares (fun vs H Q E h => ?_) (fun cdv A outer s H vs Q E hr h => ?_)
  · obtain ⟨B, ds, d, hB, hds, ⟨_, _, _, e, _⟩, q⟩ := h
    rw [hds.length, e]
    rfl
  obtain ⟨B, ds, d, hB, hds, hR, q⟩ := h
  obtain ⟨L, a, b, rfl, V, ha, hb, rfl⟩ := hR
  refine ⟨_, pss_cons (ps_set (i := 2) sc_shares.nd rfl (.inl rfl) (pe_op op_rep (pe_lst (pa_cons (pe_tup (pa_cons pe_int (pa_cons pe_int pa_nil))) pa_nil)) (pe_callB call_len_seq (by rfl) T.len boot_len (pa_cons (pv 1) pa_nil))))
    (pss_cons (ps_for PassesOwn.never rfl (pi_tup (pv 0)) (pg_tup rfl (pgs_cons (pg_name (i := 3) sc_shares.nd rfl (.inr rfl)) (pgs_cons (pg_name (i := 4) sc_shares.nd rfl (.inl rfl)) pgs_nil)))
      (pss_cons (ps_set (i := 5) sc_shares.nd rfl (.inr rfl)
        (pe_lc (own := [("spot", 8)]) rfl sc_shares.nd (pi_tup (pv 1)) (blkOk_by (N := ["line", "spots", "found", "position", "weight", "far", "k", "near", "spot"]) (sc := defScope (topS 25)) (by decide +kernel))
          (fun _ _ _ _ _ => pg_name (i := 8) sc_shares.nd rfl (.inl rfl)) (fun _ _ _ _ _ => pts_nil)
          (fun _ _ _ _ _ => pe_callB call_abs (by rfl) T.abs PyProof.Rows.boot_abs (pa_cons (pe_op op_sub (pv 3) (pe_ix (ix_tupK (K := K) rfl) (pe_ix (ix_tupK (K := K) rfl) (pv 0) (pv 8) (fun _ _ => rfl)) pe_int (fun _ _ => rfl))) pa_nil))))
      (pss_cons (ps_setLc (i := 7) (own := [("k", 6)]) rfl sc_shares.nd rfl rfl (sw_true rfl rfl rfl (by decide +kernel)) (pi_range1 (by rfl) T.range (pa_cons (pe_callB call_len_seq (by rfl) T.len boot_len (pa_cons (pv 1) pa_nil)) pa_nil)) (blkOk_by (N := ["line", "spots", "found", "position", "weight", "far", "k", "near", "spot"]) (sc := defScope (topS 25)) (by decide +kernel))
          (fun _ _ _ _ _ => pg_name (i := 6) sc_shares.nd rfl (.inl rfl))
          (fun _ _ _ _ _ => pts_one (pt_cmpR op_eq (pe_ix (ix_listK (K := K) rfl) (pv 5) (pv 6) (fun _ _ => rfl)) (pe_callB (cr_minK (K := K) rfl rfl) (by rfl) T.min PyProof.Rows.boot_min (pa_cons (pv 5) pa_nil)) (nomark _)))
          (fun _ _ _ _ _ => pv 6))
      (pss_one (ps_for PassesOwn.never rfl (pi_list (pv 7)) (pg_name (i := 6) sc_shares.nd rfl (.inl rfl))
        (pss_one (ps_asg (pe_cal Gp hr (by rfl) (pa_cons (pe_ix ix_list (pv 2) (pv 6) (fun _ _ => rfl)) (pa_cons (pe_cal Gr (hr.mono (by decide)) (by rfl) (pa_cons (pv 4) (pa_cons (pe_callB call_len_seq (by rfl) T.len boot_len (pa_cons (pv 7) pa_nil)) pa_nil))) pa_nil)))
          (pg_sub (pv 2) (pv 6) set_list))))))))
    (pss_one (ps_ret (pv 2)))), ?_⟩
  -- found = [(0, 1)] * len(spots)
  have G0 := start_gs (N := ["line", "spots", "found", "position", "weight", "far", "k", "near", "spot"]) (Γ := [some (lineD L), some (prD (a, b)), none, none, none, none, none, none, none]) hB hds rfl
  refine q_rep (i := 2) (ds := [halfD 0]) (n := 2) G0 (eg_is (eg_lst (ea_1 (eg_tup (ea_2 eg_int eg_int) (by show 2 ≤ 1000; decide))) (by show 1 ≤ 1000; decide)) (by unfold halfD; rw [half_zero])) (eg_lenT (ds := [.int (a : Int), .int (b : Int)]) (eg_var rfl)) (by decide) (by show 1 ≤ 100; decide) fun p H1 xs hp s1 G1 e1 e2 => ?_
  have hmost := V.most
  have m0 : Fnd (p :: B) p (gains (L.take 0) (pos L a) (pos L b)) (gains (L.take 0) (pos L b) (pos L a)) H1 := by
    rw [gains_zero, gains_zero]
    exact ⟨xs, e1, e2⟩
  -- the loop
  refine q_bm (bm_for (p := p) (B := p :: B) (n := L.length) List.mem_cons_self (fun i => Fnd (p :: B) p (gains (L.take i) (pos L a) (pos L b)) (gains (L.take i) (pos L b) (pos L a))) (fun j H H' s h => Fnd.mono H H' s h)
    (fun _ => [some (lineD L), some (prD (a, b)), some (atD p), none, none, none, none, none, none]) (ei_mapT ratD (0, 0) (eg_var rfl)) (Gle.refl _) (fun i hi => ?_)) (G1.withM m0) fun σ' H' s' G' => ?_
  · refine ⟨_, _, gt_2, ?_⟩
    have st := gains_take L (pos L a) (pos L b) hi
    have st' := gains_take L (pos L b) (pos L a) hi
    generalize gains (L.take i) (pos L a) (pos L b) = X at st
    generalize gains (L.take i) (pos L b) (pos L a) = Y at st'
    generalize gains (L.take (i + 1)) (pos L a) (pos L b) = X' at st
    generalize gains (L.take (i + 1)) (pos L b) (pos L a) = Y' at st'
    generalize L.getD i (0, 0) = pt at st st'
    obtain ⟨x, wt⟩ := pt
    -- far
    refine bm_seq (bm_of (bg_set (d := .list [.int (dist x (pos L a)), .int (dist x (pos L b))]) (eg_is (eg_lc (n := 2) (fun _ => true) (fun k => .int (dist x (pos L (if k = 0 then a else b)))) (ei_tup (ds := [.int (a : Int), .int (b : Int)]) (eg_var rfl)) (by decide) fun p' k hk => ?_) rfl))) ?_
    · refine ⟨_, _, ?_, gt_name, et_yes, fun _ => ?_⟩
      · decide
      · rcases (by omega : k = 0 ∨ k = 1) with rfl | rfl
        · exact eg_abs (eg_sub (eg_var rfl) (eg_ixT (eg_ixT (eg_var rfl) (eg_var rfl) (at_map ratD (0, 0) ha)) eg_int rfl))
        · exact eg_abs (eg_sub (eg_var rfl) (eg_ixT (eg_ixT (eg_var rfl) (eg_var rfl) (at_map ratD (0, 0) hb)) eg_int rfl))
    -- near
    · obtain ⟨ks, k1, k2, k3, k4⟩ := near_split (dist x (pos L a)) (dist x (pos L b)) wt X Y
      have hmem : (if dist x (pos L a) ≤ dist x (pos L b) then dist x (pos L a) else dist x (pos L b)) ∈ [dist x (pos L a), dist x (pos L b)] := by
        split
        · exact List.mem_cons_self
        · exact List.mem_cons_of_mem _ List.mem_cons_self
      have hle : ∀ y, y ∈ [dist x (pos L a), dist x (pos L b)] → (if dist x (pos L a) ≤ dist x (pos L b) then dist x (pos L a) else dist x (pos L b)) ≤ y := fun y hy => by
        have hy' : y = dist x (pos L a) ∨ y = dist x (pos L b) := by simpa using hy
        split <;> rcases hy' with rfl | rfl <;> omega
      refine bm_seq (bm_of (bg_set (d := .list (ks.map fun k : Nat => PyData.int (k : Int))) (eg_is (eg_lc (n := 2) (fun k => decide ((if k = 0 then dist x (pos L a) else dist x (pos L b)) = if dist x (pos L a) ≤ dist x (pos L b) then dist x (pos L a) else dist x (pos L b))) (fun k => PyData.int (k : Int)) (ei_rng1 (n := 2) (ea_1 (eg_lenT (ds := [.int (a : Int), .int (b : Int)]) (eg_var rfl))) (by decide)) (by decide) fun p' k hk => ?_) (by rw [k1])))) ?_
      · refine ⟨_, _, ?_, gt_name, ?_, fun _ => eg_var rfl⟩
        · decide
        · rcases (by omega : k = 0 ∨ k = 1) with rfl | rfl
          · exact et_test (eg_eqI (eg_ixL (ds := [.int (dist x (pos L a)), .int (dist x (pos L b))]) (eg_var rfl) (eg_var rfl) rfl) (eg_min (ns := [dist x (pos L a), dist x (pos L b)]) (eg_var rfl) hmem hle))
          · exact et_test (eg_eqI (eg_ixL (ds := [.int (dist x (pos L a)), .int (dist x (pos L b))]) (eg_var rfl) (eg_var rfl) rfl) (eg_min (ns := [dist x (pos L a), dist x (pos L b)]) (eg_var rfl) hmem hle))
      · refine bm_less (bm_M (near_loop (wt := wt) (M := if ks.length = 1 then 2 * wt else wt) k2 k3 rfl) fun H h => ?_) (Γ1 := [some (lineD L), some (prD (a, b)), some (atD p), some (.int x), some (.int wt), some (.list [.int (dist x (pos L a)), .int (dist x (pos L b))]), none, some (.list (ks.map fun k : Nat => PyData.int (k : Int))), none]) ⟨rfl, rfl, rfl, rfl, rfl, rfl, rfl, True.intro⟩ ⟨rfl, rfl, rfl, True.intro⟩
        rw [k4] at h
        rw [st, st']
        exact h
  · refine q_ret (eg_var rfl) G' fun v H2 s2 d2 => ?_
    rw [d2.ptrInv]
    obtain ⟨ws, h1, h2⟩ := G'.m
    rw [List.take_length] at h2
    refine q _ H2 (fun x o hx => s2 x o (s' x o (fun e => by rw [e, hp] at hx; cases hx) (s1 x o hx))) ?_
    exact .lst (notB hB hp) (s2 _ _ h1) (DAs.weak (fun x hx => List.mem_cons_of_mem _ hx) _ _ (h2.same s2))
end
end K58
namespace K58
open PySem PySem.Spec PyProof.Rows L2
theorem given_none (n : Nat) (r : Nat → PyData) : given n (fun _ => false) r = [] := by
  unfold given
  simp
theorem filter_getD {α : Type} (z : α) (S : List α) (f : α → Bool) (g : α → PyData) : given S.length (fun i => f (S.getD i z)) (fun i => g (S.getD i z)) = (S.filter f).map g := by
  unfold given
  have h := congrArg (List.filter f) (range_getD z S)
  rw [List.filter_map] at h
  rw [← h, List.map_map]
  rfl
theorem list_refl {xs : List PyData} (h : PyData.canLayAll0 xs = true) : PyData.eqv (.list xs) (.list xs) = true := SeqAt.eqv_refl _ (by simpa [PyData.canLay0] using h)
section
variable {P : Program} {w : World} {K : PySem.W.Frag} {mg : Str → Option Value} {base : Heap}
/-! ### seller_shares -/
def RSell (ds : List PyData) (d : PyData) : Prop := ∃ (L : Line) (a b : Nat), ds = [lineD L, prD (a, b)] ∧ Valid L ∧ a ≤ b ∧ b < L.length ∧ d = .tuple [halfD (gains L (pos L a) (pos L b)), halfD (gains L (pos L b) (pos L a))]
theorem sc_sell : FnScope ["line", "spots", "x"] ["line", "spots"] (defScope (topS 26)) := ⟨rfl, rfl, rfl, by decide +kernel, rfl, by decide +kernel, by decide +kernel⟩
theorem sell_ok (T : Txt mg) (D : Df K mg "seller_shares" (topS 26)) (Gl : Cal P w K mg base 3 "need_line" ["line"] (SpR RLine)) (Gi : Cal P w K mg base 1 "is_in" ["value", "least", "most"] (SpR RIsIn)) (Gs : Cal P w K mg base 4 "shares_in" ["line", "spots"] (SpR RShares)) :
    Cal P w K mg base 5 "seller_shares" ["line", "spots"] (SpR RSell) := by
  refine mk_cal D (fun _ _ _ _ _ _ us hl => match us, hl with | [_, _], _ => rfl) fun f fd F => ok_rel F sc_sell (fun ds d ⟨_, _, _, e, _⟩ => by rw [e]; rfl) fun cdv A outer s H E hr ds d hR => ?_
  obtain ⟨L, a, b, rfl, V, h1, h2, rfl⟩ := hR
  have hr1 : Room 1 _ := hr.mono (by decide)
  have hr3 : Room 3 _ := hr.mono (by decide)
  refine ⟨_, pss_cons (ps_expr (pe_cal Gl hr3 (by rfl) (pa_cons (pv 0) pa_nil)))
    (pss_cons (ps_if (PW.pt (pw_or (pt_not (pt_val (pe_callB call_isi (by rfl) T.isi PyProof.Rows.boot_isinstance (pa_cons (pv 1) (pa_cons (pe_ty (by rfl) T.tuple PyProof.Rows.boot_tuple) pa_nil)))))
      (pw_or1 (pt_not (pt_chain op_le op_le pe_int (pe_callB call_len_seq (by rfl) T.len boot_len (pa_cons (pv 1) pa_nil)) (pe_cst (by rfl) T.sellers)))))) pss_never pss_nil)
    (pss_cons (ps_if (PW.pt (pw_or (pt_cmpR (op_neD hr.units)
        (pe_lc (own := [("x", 2)]) rfl sc_sell.nd (pi_tup (pv 1)) (blkOk_by (N := ["line", "spots", "x"]) (sc := defScope (topS 26)) (by decide +kernel)) (fun _ _ _ _ _ => pg_name (i := 2) sc_sell.nd rfl (.inl rfl))
          (fun _ _ _ _ _ => pts_one (pt_not (pt_val (pe_cal Gi hr1 (by rfl) (pa_cons (pv 2) (pa_cons pe_int (pa_cons (pe_op op_sub (pe_callB (call_lenK (K := K) rfl) (by rfl) T.len boot_len (pa_cons (pv 0) pa_nil)) pe_int) pa_nil)))))))
          (fun _ _ _ _ _ => pv 2)) (pe_lst pa_nil) (nomark _))
      (pw_or1 (pt_cmpR (op_neD hr.units) (pe_callTy call_list_of (by rfl) T.list PyProof.Rows.boot_list (pa_cons (pv 1) pa_nil)) (pe_callB cr_sortedTi (by rfl) T.sorted PyProof.Rows.boot_sorted (pa_cons (pv 1) pa_nil)) (nomark _))))) pss_never pss_nil)
    (pss_one (ps_ret (pe_callTy call_tuple_of (by rfl) T.tuple PyProof.Rows.boot_tuple (pa_cons (pe_cal Gs hr (by rfl) (pa_cons (pv 0) (pa_cons (pv 1) pa_nil))) pa_nil)))))), fun B => ⟨[some (lineD L), some (prD (a, b)), none], [], rfl, .inl ?_⟩⟩
  have hmost := V.most
  refine bg_seq (bg_drop (eg_call (ea_1 (eg_var rfl)) ⟨L, rfl, V, rfl⟩)) (bg_seq (bg_ifF (et_is (et_or (et_not (et_B (eg_isi (b := true) (eg_var rfl) rfl (by decide +kernel)))) fun _ => et_not (et_test (eg_leLe eg_int (eg_lenT (ds := [.int (a : Int), .int (b : Int)]) (eg_var rfl)) eg_int))) rfl) bg_nil) (bg_seq (bg_ifF ?_ bg_nil) ?_))
  · refine et_is (et_or (a := false) (b := false) ?_ fun _ => ?_) rfl
    · refine et_is (et_test (eg_neD (d := .list []) (e := .list []) (eg_is (eg_lc (fun _ => false) (fun _ => .none) (ei_tup (ds := [.int (a : Int), .int (b : Int)]) (eg_var rfl)) (by show 2 ≤ 100000; decide) fun p k hk => ?_) (by rw [given_none])) (eg_lst ea_nil (by show 0 ≤ 1000; decide)) (by decide +kernel) (by decide +kernel))) (by decide +kernel)
      have hk' : k < 2 := hk
      refine ⟨_, _, ?_, gt_name, ?_, fun e => nomatch e⟩
      · decide
      · rcases (by omega : k = 0 ∨ k = 1) with rfl | rfl
        · refine et_is (et_not (et_B (eg_call (ea_cons (eg_var rfl) (ea_2 eg_int (eg_sub (eg_lenT (eg_var rfl)) eg_int))) ⟨(a : Int), 0, _, rfl, rfl⟩))) ?_
          rw [lineD_len, decide_eq_true (by omega), decide_eq_true (by omega)]
          rfl
        · refine et_is (et_not (et_B (eg_call (ea_cons (eg_var rfl) (ea_2 eg_int (eg_sub (eg_lenT (eg_var rfl)) eg_int))) ⟨(b : Int), 0, _, rfl, rfl⟩))) ?_
          rw [lineD_len, decide_eq_true (by omega), decide_eq_true (by omega)]
          rfl
    · refine et_is (et_test (eg_neD (d := .list [.int (a : Int), .int (b : Int)]) (e := .list [.int (a : Int), .int (b : Int)]) (eg_listT (eg_var rfl)) (eg_sortedTi (ns := [(a : Int), (b : Int)]) (eg_var rfl) (by show 2 < 64; decide) ?_) rfl rfl)) ?_
      · refine List.pairwise_cons.mpr ⟨fun y hy => ?_, List.pairwise_singleton _ _⟩
        rw [List.mem_singleton.mp hy]
        omega
      · rw [list_refl (by simp [PyData.canLayAll0, PyData.canLay0])]
        rfl
  · exact bg_ret (eg_tupleL (eg_call (ea_2 (eg_var rfl) (eg_var rfl)) ⟨L, a, b, rfl, V, by omega, h2, rfl⟩))
/-! ### is_rest -/
/-- what the k-th gets at the point c | where it stands -/
def newK (L : Line) (a b k c : Nat) : Int := if k = 0 then gains L (pos L c) (pos L b) else gains L (pos L c) (pos L a)
def curK (L : Line) (a b k : Nat) : Int := if k = 0 then gains L (pos L a) (pos L b) else gains L (pos L b) (pos L a)
def okK (L : Line) (a b k : Nat) : Prop := ∀ c, c < L.length → newK L a b k c ≤ curK L a b k
instance (L : Line) (a b k : Nat) : Decidable (okK L a b k) := by unfold okK; infer_instance
def restB (L : Line) (a b : Nat) : Bool := decide (okK L a b 0) && decide (okK L a b 1)
theorem restB_iff (L : Line) (a b : Nat) : restB L a b = true ↔ rest L a b := by
  unfold restB
  rw [Bool.and_eq_true, decide_eq_true_eq, decide_eq_true_eq]
  exact Iff.rfl
def RRest (ds : List PyData) (d : PyData) : Prop := ∃ (L : Line) (a b : Nat), ds = [lineD L, prD (a, b)] ∧ Valid L ∧ a < L.length ∧ b < L.length ∧ d = .bool (restB L a b)
theorem sc_rest : FnScope ["line", "spots", "told", "k", "fresh", "moved"] ["line", "spots"] (defScope (topS 28)) := ⟨rfl, rfl, rfl, by decide +kernel, rfl, by decide +kernel, by decide +kernel⟩
def movedK (a b k c : Nat) : Nat × Nat := if k = 0 then (c, b) else (a, c)
abbrev tLenT (K : PySem.W.Frag) (n : Nat) : TE := tCB (fun xs H Q => ∃ p ys, xs = [.ref p] ∧ (SqL K H p ys ∨ SqT K H p ys) ∧ Q (.int ys.length) H) (tCons (tVar n) tNil)
abbrev tMoved (K : PySem.W.Frag) : TE := tOp (rCatA K) (tOp (rCatA K) (tSl (rSlA K) (tVar 1) tNoPart (tPart (tVar 3))) (tTup (tCons (tVar 4) tNil))) (tSl (rSlA K) (tVar 1) (tPart (tOp (rI0 fun i j => .int (i + j)) (tVar 3) (tC (.int 1)))) tNoPart)
abbrev tBelow (K : PySem.W.Frag) : TE := tCall (SpR RBelow) [] E0 (tCons (tOp (rIxL K) (tVar 2) (tVar 3)) (tCons (tOp (rIxL K) (tCall (SpR RShares) [] E0 (tCons (tVar 0) (tCons (tVar 5) tNil))) (tVar 3)) tNil))
abbrev tTurn (K : PySem.W.Frag) : TS := tSeq (tAsg (tMoved K) (gName 5)) (tIfS (tB (tBelow K)) (tRet (tC (.bl false))) tNext)
abbrev tInner (K : PySem.W.Frag) : TS := tFor (iRng1 (tCons (tLenT K 0) tNil)) (gName 4) (tTurn K)
abbrev tOuter (K : PySem.W.Frag) : TS := tFor (iRng1 (tCons (tLenT K 1) tNil)) (gName 3) (tInner K)
theorem rest_ok (T : Txt mg) (D : Df K mg "is_rest" (topS 28)) (Gs : Cal P w K mg base 4 "shares_in" ["line", "spots"] (SpR RShares)) (Gb : Cal P w K mg base 1 "is_below" ["one", "other"] (SpR RBelow)) : Cal P w K mg base 5 "is_rest" ["line", "spots"] (SpR RRest) := by
  refine mk_cal D (fun _ _ _ _ _ _ us hl => match us, hl with | [_, _], _ => rfl) fun f fd F => ok_rel F sc_rest (fun ds d ⟨_, _, _, e, _⟩ => by rw [e]; rfl) fun cdv A outer s H E hr ds d hR => ?_
  obtain ⟨L, a, b, rfl, V, h1, h2, rfl⟩ := hR
  have hr1 : Room 1 _ := hr.mono (by decide)
  refine ⟨_, pss_cons (ps_set (i := 2) sc_rest.nd rfl (.inl rfl) (pe_cal Gs hr (by rfl) (pa_cons (pv 0) (pa_cons (pv 1) pa_nil))))
    (pss_cons (ps_for PassesOwn.never rfl (pi_range1 (by rfl) T.range (pa_cons (pe_callB call_len_seq (by rfl) T.len boot_len (pa_cons (pv 1) pa_nil)) pa_nil)) (pg_name (i := 3) sc_rest.nd rfl (.inl rfl))
      (pss_one (ps_for PassesOwn.never rfl (pi_range1 (by rfl) T.range (pa_cons (pe_callB call_len_seq (by rfl) T.len boot_len (pa_cons (pv 0) pa_nil)) pa_nil)) (pg_name (i := 4) sc_rest.nd rfl (.inl rfl))
        (pss_cons (ps_set (i := 5) sc_rest.nd rfl (.inl rfl) (pe_op op_catA (pe_op op_catA (pe_slice sl_tupA (pv 1) po_none (po_some (pv 3))) (pe_tup (pa_cons (pv 4) pa_nil))) (pe_slice sl_tupA (pv 1) (po_some (pe_op op_add (pv 3) pe_int)) po_none)))
        (pss_one (ps_if (pt_val (pe_cal Gb hr1 (by rfl) (pa_cons (pe_ix ix_list (pv 2) (pv 3) (fun _ _ => rfl)) (pa_cons (pe_ix ix_list (pe_cal Gs hr (by rfl) (pa_cons (pv 0) (pa_cons (pv 5) pa_nil))) (pv 3) (fun _ _ => rfl)) pa_nil)))) (pss_one (ps_ret pe_bl)) pss_nil))))))
    (pss_one (ps_ret pe_bl))), fun B => ⟨[some (lineD L), some (prD (a, b)), none, none, none, none], [none, none, none, none, none, none], rfl, .inl ?_⟩⟩
  have hmost := V.most
  refine bg_seq (bg_set (eg_call (ea_2 (eg_var rfl) (eg_var rfl)) ⟨L, a, b, rfl, V, h1, h2, rfl⟩)) ?_
  have loop : ∀ o : Option PyData, (o = if restB L a b = true then none else some (.bool false)) → BG (Cn.pure B) (tOuter K) [some (lineD L), some (prD (a, b)), some (.list [halfD (curK L a b 0), halfD (curK L a b 1)]), none, none, none] o [none, none, none, none, none, none] := fun o ho => by
    refine bg_for (n := 2) (fun _ => [some (lineD L), some (prD (a, b)), some (.list [halfD (curK L a b 0), halfD (curK L a b 1)]), none, none, none]) (fun k => if okK L a b k then none else some (.bool false)) (ei_rng1 (n := 2) (ea_1 (eg_lenT (K := K) (ds := [.int (a : Int), .int (b : Int)]) (eg_var (n := 1) rfl))) (by decide)) (Gle.refl _) (fun k hk _ => ?_) (fun k d hk he hn => ?_) (fun hn => ?_)
    · refine ⟨_, _, gt_name, ?_⟩
      -- the points
      refine bg_for (n := L.length) (fun _ => [some (lineD L), some (prD (a, b)), some (.list [halfD (curK L a b 0), halfD (curK L a b 1)]), some (.int (k : Int)), none, none]) (fun c => if newK L a b k c ≤ curK L a b k then none else some (.bool false)) (ei_rng1 (n := L.length) (ea_1 (eg_is (eg_lenT (eg_var rfl)) (by rw [lineD_len]))) (by omega)) ⟨rfl, rfl, rfl, rfl, True.intro⟩ (fun c hc _ => ?_) (fun c d hc he hn => ?_) (fun hn => ?_)
      · refine ⟨_, _, gt_name, ?_⟩
        have key : ∀ z : Bool, z = decide (curK L a b k < newK L a b k c) → BG (Cn.pure B) (tTurn K)
            [some (lineD L), some (prD (a, b)), some (.list [halfD (curK L a b 0), halfD (curK L a b 1)]), some (.int (k : Int)), some (.int (c : Int)), none] (if z = true then some (.bool false) else none) [some (lineD L), some (prD (a, b)), some (.list [halfD (curK L a b 0), halfD (curK L a b 1)]), some (.int (k : Int)), none, none] := fun z hz => by
          have hb : ET (Cn.pure B) (tB (tBelow K)) [some (lineD L), some (prD (a, b)), some (.list [halfD (curK L a b 0), halfD (curK L a b 1)]), some (.int (k : Int)), some (.int (c : Int)), some (prD (movedK a b k c))] z := by
            rw [hz, ← half_lt]
            rcases (by omega : k = 0 ∨ k = 1) with rfl | rfl
            · exact et_B (eg_call (ea_2 (eg_ixL (ds := [halfD (curK L a b 0), halfD (curK L a b 1)]) (eg_var rfl) (eg_var rfl) rfl) (eg_ixL (eg_call (ea_2 (eg_var rfl) (eg_var rfl)) ⟨L, c, b, rfl, V, hc, h2, rfl⟩) (eg_var rfl) rfl)) ⟨half (curK L a b 0), half (gains L (pos L c) (pos L b)), rfl, half_den _, half_den _, rfl⟩)
            · exact et_B (eg_call (ea_2 (eg_ixL (ds := [halfD (curK L a b 0), halfD (curK L a b 1)]) (eg_var rfl) (eg_var rfl) rfl) (eg_ixL (eg_call (ea_2 (eg_var rfl) (eg_var rfl)) ⟨L, a, c, rfl, V, h1, hc, rfl⟩) (eg_var rfl) rfl)) ⟨half (curK L a b 1), half (gains L (pos L c) (pos L a)), rfl, half_den _, half_den _, rfl⟩)
          have hm : EG (Cn.pure B) (tMoved K) [some (lineD L), some (prD (a, b)), some (.list [halfD (curK L a b 0), halfD (curK L a b 1)]), some (.int (k : Int)), some (.int (c : Int)), none] (prD (movedK a b k c)) := by
            rcases (by omega : k = 0 ∨ k = 1) with rfl | rfl
            · exact eg_catA (ds := [.int (c : Int)]) (es := [.int (b : Int)]) (eg_catA (ds := []) (es := [.int (c : Int)]) (eg_is (eg_slT (ds := [.int (a : Int), .int (b : Int)]) (eg_var rfl) eo_none (eo_some (eg_var rfl))) rfl) (eg_tup (ea_1 (eg_var rfl)) (by show 1 ≤ 1000; decide)) (by show 1 ≤ 1000; decide)) (eg_is (eg_slT (ds := [.int (a : Int), .int (b : Int)]) (eg_var rfl) (eo_some (eg_add (eg_var rfl) eg_int)) eo_none) rfl) (by show 2 ≤ 1000; decide)
            · exact eg_catA (ds := [.int (a : Int), .int (c : Int)]) (es := []) (eg_catA (ds := [.int (a : Int)]) (es := [.int (c : Int)]) (eg_is (eg_slT (ds := [.int (a : Int), .int (b : Int)]) (eg_var rfl) eo_none (eo_some (eg_var rfl))) rfl) (eg_tup (ea_1 (eg_var rfl)) (by show 1 ≤ 1000; decide)) (by show 2 ≤ 1000; decide)) (eg_is (eg_slT (ds := [.int (a : Int), .int (b : Int)]) (eg_var rfl) (eo_some (eg_add (eg_var rfl) eg_int)) eo_none) rfl) (by show 2 ≤ 1000; decide)
          refine bg_seq (bg_set hm) ?_
          cases z with
          | true => exact bg_ifT hb (bg_ret eg_bl)
          | false => exact bg_ifF hb (bg_less bg_nil (Γ1 := [some (lineD L), some (prD (a, b)), some (.list [halfD (curK L a b 0), halfD (curK L a b 1)]), some (.int (k : Int)), none, none]) ⟨rfl, rfl, rfl, rfl, True.intro⟩ ⟨rfl, rfl, rfl, rfl, True.intro⟩)
        have k2 := key _ rfl
        by_cases hle : newK L a b k c ≤ curK L a b k
        · rw [if_pos hle]
          rw [decide_eq_false (by omega), if_neg Bool.false_ne_true] at k2
          exact k2
        · rw [if_neg hle]
          rw [decide_eq_true (by omega), if_pos rfl] at k2
          exact k2
      · split at he
        · cases he
        · rename_i hle
          cases he
          rw [if_neg fun q => hle (q c hc)]
      · have hok : okK L a b k := fun c hc => by
          have q := hn c hc
          split at q
          · assumption
          · cases q
        rw [if_pos hok]
        exact ⟨rfl, ⟨rfl, rfl, rfl, True.intro⟩⟩
    · split at he
      · cases he
      · rename_i hnok
        cases he
        rw [ho, if_neg]
        unfold restB
        rcases (by omega : k = 0 ∨ k = 1) with rfl | rfl
        · rw [decide_eq_false hnok]
          exact fun q => nomatch q
        · rw [decide_eq_false hnok, Bool.and_false]
          exact fun q => nomatch q
    · have k0 : okK L a b 0 := by
        have q := hn 0 (by decide)
        split at q
        · assumption
        · cases q
      have k1 : okK L a b 1 := by
        have q := hn 1 (by decide)
        split at q
        · assumption
        · cases q
      have e : restB L a b = true := by
        unfold restB
        rw [decide_eq_true k0, decide_eq_true k1]
        rfl
      rw [ho, if_pos e]
      exact ⟨rfl, True.intro⟩
  cases e : restB L a b with
  | true => exact bg_seq (loop none (by rw [e]; rfl)) (bg_ret eg_bl)
  | false => exact bg_seqR (loop (some (.bool false)) (by rw [e]; rfl))
/-! ### rests -/
def RRests (ds : List PyData) (d : PyData) : Prop := ∃ L : Line, ds = [lineD L, .int 2] ∧ Valid L ∧ d = .tuple (((spotsOf L.length).filter fun q => restB L q.1 q.2).map prD)
theorem spots_mem {n : Nat} {q : Nat × Nat} : q ∈ spotsOf n ↔ q.1 ≤ q.2 ∧ q.2 < n := by
  unfold spotsOf
  simp only [List.mem_flatMap, List.mem_map, List.mem_filter, List.mem_range, decide_eq_true_eq]
  constructor
  · rintro ⟨i, hi, k, ⟨hk, hik⟩, rfl⟩
    exact ⟨hik, hk⟩
  · rintro ⟨h1, h2⟩
    exact ⟨q.1, by omega, q.2, ⟨h2, h1⟩, rfl⟩
theorem spots_len (n : Nat) : (spotsOf n).length ≤ n * n := by
  have e : ((spotsOf n).map prD).length = (spotsOf n).length := List.length_map _
  rw [← e, ← spots_given]
  exact given2_len
theorem sc_rests : FnScope ["line", "sellers", "spots"] ["line", "sellers"] (defScope (topS 29)) := ⟨rfl, rfl, rfl, by decide +kernel, rfl, by decide +kernel, by decide +kernel⟩
theorem rests_ok (T : Txt mg) (D : Df K mg "rests" (topS 29)) (Gl : Cal P w K mg base 3 "need_line" ["line"] (SpR RLine)) (Gi : Cal P w K mg base 1 "is_in" ["value", "least", "most"] (SpR RIsIn)) (Ga : Cal P w K mg base 1 "all_spots" ["size", "sellers"] (SpR RSpots)) (Gr : Cal P w K mg base 5 "is_rest" ["line", "spots"] (SpR RRest)) :
    Cal P w K mg base 6 "rests" ["line", "sellers"] (SpR RRests) := by
  refine mk_cal D (fun _ _ _ _ _ _ us hl => match us, hl with | [_, _], _ => rfl) fun f fd F => ok_rel F sc_rests (fun ds d ⟨_, e, _⟩ => by rw [e]; rfl) fun cdv A outer s H E hr ds d hR => ?_
  obtain ⟨L, rfl, V, rfl⟩ := hR
  have hr1 : Room 1 _ := hr.mono (by decide)
  have hr3 : Room 3 _ := hr.mono (by decide)
  refine ⟨_, pss_cons (ps_expr (pe_cal Gl hr3 (by rfl) (pa_cons (pv 0) pa_nil)))
    (pss_cons (ps_if (pt_not (pt_val (pe_cal Gi hr1 (by rfl) (pa_cons (pv 1) (pa_cons pe_int (pa_cons (pe_cst (by rfl) T.sellers) pa_nil)))))) pss_never pss_nil)
    (pss_one (ps_ret (pe_callTy call_tuple_of (by rfl) T.tuple PyProof.Rows.boot_tuple (pa_cons
      (pe_lc (own := [("spots", 2)]) rfl sc_rests.nd (pi_list (pe_cal Ga hr1 (by rfl) (pa_cons (pe_callB call_len_seq (by rfl) T.len boot_len (pa_cons (pv 0) pa_nil)) (pa_cons (pv 1) pa_nil)))) (blkOk_by (N := ["line", "sellers", "spots"]) (sc := defScope (topS 29)) (by decide +kernel)) (fun _ _ _ _ _ => pg_name (i := 2) sc_rests.nd rfl (.inl rfl))
        (fun _ _ _ _ _ => pts_one (pt_val (pe_cal Gr hr (by rfl) (pa_cons (pv 0) (pa_cons (pv 2) pa_nil))))) (fun _ _ _ _ _ => pv 2)) pa_nil))))), fun B => ⟨[some (lineD L), some (.int 2), none], [], rfl, .inl ?_⟩⟩
  have hmost := V.most
  have hone := V.one
  refine bg_seq (bg_drop (eg_call (ea_1 (eg_var rfl)) ⟨L, rfl, V, rfl⟩)) (bg_seq (bg_ifF (et_is (et_not (et_B (eg_call (ea_cons (eg_var rfl) (ea_2 eg_int eg_int)) ⟨2, 2, 4, rfl, rfl⟩))) (by decide)) bg_nil) (bg_ret (eg_tupleL (eg_is (eg_lc (fun i => restB L ((spotsOf L.length).getD i (0, 0)).1 ((spotsOf L.length).getD i (0, 0)).2) (fun i => prD ((spotsOf L.length).getD i (0, 0)))
    (ei_mapL prD (0, 0) (eg_call (ea_2 (eg_lenT (eg_var rfl)) (eg_var rfl)) ⟨L.length, by rw [lineD_len], by omega, rfl⟩)) ?_ fun p i hi => ?_) ?_))))
  · have := spots_len L.length
    have : L.length * L.length ≤ 8 * 8 := Nat.mul_le_mul hmost hmost
    omega
  · have hm := spots_mem.mp (getD_mem (0, 0) hi)
    refine ⟨_, _, ?_, gt_name, et_B (eg_call (ea_2 (eg_var rfl) (eg_var rfl)) ⟨L, _, _, rfl, V, Nat.lt_of_le_of_lt hm.1 hm.2, hm.2, rfl⟩), fun _ => eg_var rfl⟩
    decide
  · rw [filter_getD (0, 0) (spotsOf L.length) (fun q => restB L q.1 q.2) prD]
/-! ### law_alike: a datum and itself -/
/-- ints and tuples of such, so deep -/
def shape : Nat → PyData → Prop
  | 0, x => ∃ i : Int, x = .int i
  | n + 1, x => (∃ i : Int, x = .int i) ∨ ∃ xs : List PyData, x = .tuple xs ∧ xs.length ≤ 1000 ∧ ∀ y ∈ xs, shape n y
def RAlike (n : Nat) (ds : List PyData) (d : PyData) : Prop := ∃ x, ds = [x, x] ∧ shape n x ∧ d = .bool true
theorem sc_alike : FnScope ["_law_found", "_law_due", "_law_k"] ["_law_found", "_law_due"] (defScope (topS 36)) := ⟨rfl, rfl, rfl, by decide +kernel, rfl, by decide +kernel, by decide +kernel⟩
/-- of an int -/
theorem alike_int {k : Nat} (T : Txt mg) {f : Addr} (cdv : Value) (A : Around) (outer : List Env) (s : Shared) (H : Hp) (E : XK) (hr : Room k (A.deeper (envOfC "_law_alike" (defScope (topS 36)) s.heap.objs.size f cdv))) (i : Int) :
    ∃ t, PSs (cxOf CX0 P w K mg base ["_law_found", "_law_due", "_law_k"] "_law_alike" (defScope (topS 36)) f cdv A outer s H E).nox (defBody (topS 36)) t ∧ ∀ B, ∃ Γ Γ', Γ = ([.int i, .int i] : List PyData).map some ++ List.replicate (3 - 2) none ∧ (BG (Cn.pure B) t Γ (some (.bool true)) Γ' ∨ (PyData.bool true = .none ∧ BG (Cn.pure B) t Γ none Γ')) := by
  refine ⟨_, pss_cons (ps_if (pt_val (pe_callB call_isiT (by rfl) T.isi PyProof.Rows.boot_isinstance (pa_cons (pv 1) (pa_cons (pe_tup (pa_cons (pe_ty (by rfl) T.tuple PyProof.Rows.boot_tuple) (pa_cons (pe_ty (by rfl) T.list PyProof.Rows.boot_list) pa_nil))) pa_nil)))) pss_never pss_nil)
    (pss_cons (ps_if (PW.pt (pw_or (pt_cmpR op_isN (pv 1) pe_non (nomark _)) (pw_or1 (pt_val (pe_callB call_isi (by rfl) T.isi PyProof.Rows.boot_isinstance (pa_cons (pv 1) (pa_cons (pe_ty (by rfl) T.str PyProof.Rows.boot_str) pa_nil))))))) pss_never pss_nil)
    (pss_one (ps_ret (pe_and (pe_callB call_isi (by rfl) T.isi PyProof.Rows.boot_isinstance (pa_cons (pv 0) (pa_cons (pe_ty (by rfl) T.int PyProof.Rows.boot_int) pa_nil)))
      (pe_and (pe_cmpR op_eq (pe_callB call_isi (by rfl) T.isi PyProof.Rows.boot_isinstance (pa_cons (pv 0) (pa_cons (pe_ty (by rfl) T.bool PyProof.Rows.boot_bool) pa_nil))) (pe_callB call_isi (by rfl) T.isi PyProof.Rows.boot_isinstance (pa_cons (pv 1) (pa_cons (pe_ty (by rfl) T.bool PyProof.Rows.boot_bool) pa_nil))) (nomark _))
        (pe_one (pe_cmpR op_eq (pv 0) (pv 1) (nomark _)))))))), fun B => ⟨[some (.int i), some (.int i), none], [], rfl, .inl ?_⟩⟩
  refine bg_seq (bg_ifF (et_B (eg_isiT (b1 := false) (b2 := false) (eg_var rfl) rfl (by decide +kernel) (by decide +kernel))) bg_nil) (bg_seq (bg_ifF (et_or (a := false) (b := false) (et_test (eg_isN (d := .int i) (eg_var rfl))) fun _ => et_B (eg_isi (b := false) (eg_var rfl) rfl (by decide +kernel))) bg_nil) (bg_ret (eg_is (eg_andV (eg_isi (b := true) (eg_var rfl) rfl (by decide +kernel)) fun _ => eg_andV (eg_eqB (eg_isi (b := false) (eg_var rfl) rfl (by decide +kernel)) (eg_isi (b := false) (eg_var rfl) rfl (by decide +kernel))) fun _ => eg_eqI (eg_var rfl) (eg_var rfl)) ?_)))
  rw [decide_eq_true (rfl : i = i)]
  rfl
theorem alike_ok (T : Txt mg) (D : Df K mg "_law_alike" (topS 36)) : ∀ n : Nat, Cal P w K mg base (n + 1) "_law_alike" ["_law_found", "_law_due"] (SpR (RAlike n))
  | 0 => by
    refine mk_cal D (fun _ _ _ _ _ _ us hl => match us, hl with | [_, _], _ => rfl) fun f fd F => ok_rel F sc_alike (fun ds d ⟨_, e, _⟩ => by rw [e]; rfl) fun cdv A outer s H E hr ds d hR => ?_
    obtain ⟨x, rfl, ⟨i, rfl⟩, rfl⟩ := hR
    exact alike_int T cdv A outer s H E hr i
  | n + 1 => by
    have G := alike_ok T D n
    refine mk_cal D (fun _ _ _ _ _ _ us hl => match us, hl with | [_, _], _ => rfl) fun f fd F => ok_rel F sc_alike (fun ds d ⟨_, e, _⟩ => by rw [e]; rfl) fun cdv A outer s H E hr ds d hR => ?_
    obtain ⟨x, rfl, hx, rfl⟩ := hR
    rcases hx with ⟨i, rfl⟩ | ⟨xs, rfl, hz, hs⟩
    · exact alike_int T cdv A outer s H E hr i
    · refine ⟨_, pss_cons (ps_if (pt_val (pe_callB call_isiT (by rfl) T.isi PyProof.Rows.boot_isinstance (pa_cons (pv 1) (pa_cons (pe_tup (pa_cons (pe_ty (by rfl) T.tuple PyProof.Rows.boot_tuple) (pa_cons (pe_ty (by rfl) T.list PyProof.Rows.boot_list) pa_nil))) pa_nil))))
          (pss_cons (ps_if (PW.pt (pw_or (pt_not (pt_val (pe_callB call_isiT (by rfl) T.isi PyProof.Rows.boot_isinstance (pa_cons (pv 0) (pa_cons (pe_tup (pa_cons (pe_ty (by rfl) T.tuple PyProof.Rows.boot_tuple) (pa_cons (pe_ty (by rfl) T.list PyProof.Rows.boot_list) pa_nil))) pa_nil)))))
              (pw_or1 (pt_cmpR op_ne (pe_callB call_isi (by rfl) T.isi PyProof.Rows.boot_isinstance (pa_cons (pv 0) (pa_cons (pe_ty (by rfl) T.list PyProof.Rows.boot_list) pa_nil))) (pe_callB call_isi (by rfl) T.isi PyProof.Rows.boot_isinstance (pa_cons (pv 1) (pa_cons (pe_ty (by rfl) T.list PyProof.Rows.boot_list) pa_nil))) (nomark _))))) pss_never pss_nil)
          (pss_cons (ps_if (pt_cmpR op_ne (pe_callB call_len_seq (by rfl) T.len boot_len (pa_cons (pv 0) pa_nil)) (pe_callB call_len_seq (by rfl) T.len boot_len (pa_cons (pv 1) pa_nil)) (nomark _)) pss_never pss_nil)
          (pss_one (ps_ret (pe_cmpR (op_eqD hr.units)
            (pe_lc (own := [("_law_k", 2)]) rfl sc_alike.nd (pi_range1 (by rfl) T.range (pa_cons (pe_callB call_len_seq (by rfl) T.len boot_len (pa_cons (pv 1) pa_nil)) pa_nil)) (blkOk_by (N := ["_law_found", "_law_due", "_law_k"]) (sc := defScope (topS 36)) (by decide +kernel)) (fun _ _ _ _ _ => pg_name (i := 2) sc_alike.nd rfl (.inl rfl))
              (fun _ _ _ _ _ => pts_one (pt_not (pt_val (pe_cal G hr (by rfl) (pa_cons (pe_ix (ix_tupK (K := K) rfl) (pv 0) (pv 2) (fun _ _ => rfl)) (pa_cons (pe_ix (ix_tupK (K := K) rfl) (pv 1) (pv 2) (fun _ _ => rfl)) pa_nil)))))) (fun _ _ _ _ _ => pv 2)) (pe_lst pa_nil) (nomark _)))))) pss_nil)
        pss_never, fun B => ⟨[some (.tuple xs), some (.tuple xs), none], [], rfl, .inl ?_⟩⟩
      refine bg_seqR (Γ1 := []) (bg_ifT (et_B (eg_isiT (b1 := true) (b2 := false) (eg_var rfl) rfl (by decide +kernel) (by decide +kernel))) (bg_seq (bg_ifF (et_or (a := false) (b := false) (et_is (et_not (et_B (eg_isiT (b1 := true) (b2 := false) (eg_var rfl) rfl (by decide +kernel) (by decide +kernel)))) rfl) fun _ => et_is (et_test (eg_neB (eg_isi (b := false) (eg_var rfl) rfl (by decide +kernel)) (eg_isi (b := false) (eg_var rfl) rfl (by decide +kernel)))) (by decide)) bg_nil) (bg_seq (bg_ifF (et_is (et_test (eg_neI (eg_lenT (eg_var rfl)) (eg_lenT (eg_var rfl)))) ?_) bg_nil)
        (bg_ret (eg_is (eg_eqD (d := .list []) (e := .list []) (eg_is (eg_lc (fun _ => false) (fun _ => .none) (ei_rng1 (n := xs.length) (ea_1 (eg_lenT (eg_var rfl))) (by omega)) (by omega) fun p k hk => ?_) (by rw [given_none])) (eg_lst ea_nil (by show 0 ≤ 1000; decide)) (by decide +kernel) (by decide +kernel)) ?_)))))
      · rw [decide_eq_true rfl]
        rfl
      · refine ⟨_, _, ?_, gt_name, et_is (et_not (et_B (eg_call (ea_2 (eg_ixT (eg_var rfl) (eg_var rfl) (atI_nat (List.getElem?_eq_getElem hk))) (eg_ixT (eg_var rfl) (eg_var rfl) (atI_nat (List.getElem?_eq_getElem hk)))) ⟨_, rfl, hs _ (List.getElem_mem hk), rfl⟩))) rfl, fun e => nomatch e⟩
        decide
      · exact congrArg PyData.bool (by rw [list_refl rfl])
end
end K58
namespace K58
open PySem PySem.Spec PyProof.Rows L2
/-! ### several objects that change -/
theorem SmB.refl (A : List Addr) (H : Hp) : SmB A H H := fun _ _ _ h => h
theorem SmB.trans {A : List Addr} {H H1 H2 : Hp} (a : SmB A H H1) (b : SmB A H1 H2) : SmB A H H2 := fun x o n h => b x o n (a x o n h)
theorem SmB.mono {A B : List Addr} {H H' : Hp} (s : SmB A H H') (h : ∀ a ∈ A, a ∈ B) : SmB B H H' := fun a o na x => s a o (fun z => na (h a z)) x
theorem SmB.upd {A : List Addr} {p : Addr} (hp : p ∈ A) (H : Hp) (o : HO) : SmB A H (L2.upd H p o) := fun a u n h => by rw [upd_ne (fun e => n (by rw [e]; exact hp))]; exact h
def BQ (A : List Addr) (C C' : Cn) (t : TS) (Γ Γ' : Gm) : Prop := ∀ σ H, Gs C Γ σ H → ∀ D : Ends, (∀ σ' H2, SmB A H H2 → Gs C' Γ' σ' H2 → D.nx σ' H2) → t D σ H
section
variable {A : List Addr} {C C' C'' : Cn} {Γ Γ' Γ1 Γ2 : Gm} {t u : TS}
theorem bq_of (h : BG C t Γ none Γ') : BQ A C C t Γ Γ' := fun σ H G D q => h σ H G D (fun _ e => nomatch e) fun _ σ' H2 s G2 => q σ' H2 (smB_of s) G2
theorem bq_seq (h : BQ A C C' t Γ Γ1) (h2 : BQ A C' C'' u Γ1 Γ2) : BQ A C C'' (tSeq t u) Γ Γ2 := fun σ H G D q => h σ H G { D with nx := u D } fun σ1 H1 s1 G1 => h2 σ1 H1 G1 D fun σ2 H2 s2 G2 => q σ2 H2 (s1.trans s2) G2
theorem bq_post (h : BQ A C C' t Γ Γ2) (l2 : Gle Γ' Γ2) : BQ A C C' t Γ Γ' := fun σ H G D q => h σ H G D fun σ2 H2 s2 G2 => q σ2 H2 s2 (G2.less l2)
theorem bq_pre (h : BQ A C C' t Γ1 Γ2) (l1 : Gle Γ1 Γ) : BQ A C C' t Γ Γ2 := fun σ H G D q => h σ H (G.less l1) D q
theorem bq_if {tt : TT} {b : Bool} (h : ET C tt Γ b) (h1 : b = true → BQ A C C' t Γ Γ') (h2 : b = false → BQ A C C' u Γ Γ') : BQ A C C' (tIfS tt t u) Γ Γ' := fun σ H G D q => h σ H G _ fun H1 s1 => by
  cases b with
  | true =>
    show t D σ H1
    exact h1 rfl σ H1 (G.mono s1) D fun σ2 H2 s2 G2 => q σ2 H2 ((smB_of s1).trans s2) G2
  | false =>
    show u D σ H1
    exact h2 rfl σ H1 (G.mono s1) D fun σ2 H2 s2 G2 => q σ2 H2 ((smB_of s1).trans s2) G2
theorem bq_ex {α : Type} {B : List Addr} {M : α → Hp → Prop} {h0 : ∀ x H H', Same H H' → M x H → M x H'} {h : ∀ H H', Same H H' → (∃ x, M x H) → ∃ x, M x H'} (b : ∀ x, BQ A ⟨B, M x, h0 x⟩ C' t Γ Γ') : BQ A ⟨B, fun H => ∃ x, M x H, h⟩ C' t Γ Γ' :=
  fun σ H G D q => let ⟨x, hx⟩ := G.m; b x σ H ⟨hx, G.b, G.l, G.g⟩ D q
theorem bq_M {B : List Addr} {M M' : Hp → Prop} {h h'} (b : BQ A C ⟨B, M, h⟩ t Γ Γ') (e : ∀ H, M H → M' H) : BQ A C ⟨B, M', h'⟩ t Γ Γ' := fun σ H G D q => b σ H G D fun σ' H2 s2 G2 => q σ' H2 s2 ⟨e _ G2.m, G2.b, G2.l, G2.g⟩
theorem bq_Mpre {B : List Addr} {M M' : Hp → Prop} {h h'} (b : BQ A ⟨B, M, h⟩ C t Γ Γ') (e : ∀ H, M' H → M H) : BQ A ⟨B, M', h'⟩ C t Γ Γ' := fun σ H G D q => b σ H ⟨e _ G.m, G.b, G.l, G.g⟩ D q
theorem bq_for {B : List Addr} {wi : TI} {g : TG} {n : Nat} {dat : Nat → PyData} (hA : ∀ a ∈ A, a ∈ B) (Ms : Nat → Hp → Prop) (hM : ∀ i H H', Same H H' → Ms i H → Ms i H') (Γs : Nat → Gm) (hi : EI ⟨B, Ms 0, hM 0⟩ wi Γ n dat) (h0 : Gle (Γs 0) Γ)
    (turn : ∀ i, i < n → ∃ js Γ1, GT ⟨B, Ms i, hM i⟩ js g (Γs i) (dat i) Γ1 ∧ BQ A ⟨B, Ms i, hM i⟩ ⟨B, Ms (i + 1), hM (i + 1)⟩ t Γ1 (Γs (i + 1))) : BQ A ⟨B, Ms 0, hM 0⟩ ⟨B, Ms n, hM n⟩ (tFor wi g t) Γ (Γs n) := fun σ H G D q => by
  refine hi σ H G _ fun J H1 s1 S => ?_
  obtain ⟨Gw, Y, W, gw, yw⟩ := S.ex
  refine for_it W (fun i σ' H' => SmB A H1 H' ∧ Gs ⟨B, Ms i, hM i⟩ (Γs i) σ' H') ⟨SmB.refl A H1, (G.mono s1).less h0⟩ (fun i σ' H' _ x => gw H' (x.1.mono hA)) (fun i x σ' H' H'' hin y z => ?_) (fun σ' H' x => q σ' H' ((smB_of s1).trans x.1) x.2)
  obtain ⟨s2, G2⟩ := y
  obtain ⟨s3, dx⟩ := yw B (fun _ _ h => h) (fun _ h => h) i H' x H'' hin (s2.mono hA) G2.b z
  obtain ⟨js, Γ1, hg, hb⟩ := turn i hin
  exact hg σ' H'' x (G2.mono s3) dx _ fun σ2 G3 _ => hb σ2 H'' G3 _ fun σ4 H4 s4 G4 => ⟨(s2.trans (smB_of s3)).trans s4, G4⟩
/-- a write at p -/
theorem Gs.write {B : List Addr} {M M' : Hp → Prop} {h h'} {σ : L2.St} {H : Hp} {p : Addr} {o : HO} (G : Gs ⟨B, M, h⟩ Γ σ H) (hp : p ∈ B) (m : M' (L2.upd H p o)) : Gs ⟨B, M', h'⟩ Γ σ (L2.upd H p o) :=
  ⟨m, fun a ha z => by
    by_cases e : a = p
    · rw [e, upd_same] at z
      cases z
    · rw [upd_ne e] at z
      exact G.b a ha z, G.l, fun i d hi => let ⟨w, e1, e2⟩ := G.g i d hi; ⟨w, e1, e2.upd hp⟩⟩
/-- p is no longer one of B -/
theorem Gs.drop {B : List Addr} {M M' : Hp → Prop} {h h'} {σ : L2.St} {H : Hp} {p : Addr} (G : Gs ⟨p :: B, M, h⟩ Γ σ H) (m : M' H) : Gs ⟨B, M', h'⟩ Γ σ H :=
  ⟨m, fun a ha z => G.b a (List.mem_cons_of_mem _ ha) z, G.l, fun i d hi => let ⟨w, e1, e2⟩ := G.g i d hi; ⟨w, e1, DA.weak (fun _ => List.mem_cons_of_mem _) _ _ e2⟩⟩
theorem SmB.drop {p : Addr} {o : HO} {H H' : Hp} (hp : H p = none) (s : SmB (p :: A) (L2.upd H p o) H') : SmB A H H' := fun a u na x => s a u (fun z => (List.mem_cons.mp z).elim (fun e => by rw [e, hp] at x; cases x) na) (by rw [upd_ne (ne_of_none x hp)]; exact x)
theorem bq_newL {n : Nat} {B : List Addr} {M M'' : Hp → Prop} {hM hM''} (M1 M2 : Addr → Hp → Prop) (h1 : ∀ p H H', Same H H' → M1 p H → M1 p H') (h2 : ∀ p H H', Same H H' → M2 p H → M2 p H') (e1 : ∀ p H, M H → H p = none → M1 p (L2.upd H p (.lst []))) (e2 : ∀ p H, M2 p H → M'' H)
    (b : ∀ p, BQ (p :: A) ⟨p :: B, M1 p, h1 p⟩ ⟨p :: B, M2 p, h2 p⟩ u (Γ.set n (some (atD p))) Γ') : BQ A ⟨B, M, hM⟩ ⟨B, M'', hM''⟩ (tSeq (tAsg (tLst tNil) (gName n)) u) Γ Γ' := fun σ H G D q => by
  refine ⟨by show 0 ≤ sizeLine; exact Nat.zero_le _, fun p hp => ?_⟩
  have G1 := (G.newp (o := .lst []) hp n).withM (h := h1 p) (e1 p H G.m hp)
  exact b p _ _ G1 D fun σ' H2 s2 G2 => q σ' H2 (SmB.drop hp s2) (G2.drop (e2 p _ G2.m))
theorem bq_newK {n : Nat} {B : List Addr} {M M'' : Hp → Prop} {hM hM''} (M1 M2 : Addr → Hp → Prop) (h1 : ∀ p H H', Same H H' → M1 p H → M1 p H') (h2 : ∀ p H H', Same H H' → M2 p H → M2 p H') (e1 : ∀ p H, M H → H p = none → M1 p (L2.upd H p (.dK []))) (e2 : ∀ p H, M2 p H → M'' H)
    (b : ∀ p, BQ (p :: A) ⟨p :: B, M1 p, h1 p⟩ ⟨p :: B, M2 p, h2 p⟩ u (Γ.set n (some (atD p))) Γ') : BQ A ⟨B, M, hM⟩ ⟨B, M'', hM''⟩ (tSeq (tAsg tDNewK (gName n)) u) Γ Γ' := fun σ H G D q => fun p hp => by
  have G1 := (G.newp (o := .dK []) hp n).withM (h := h1 p) (e1 p H G.m hp)
  exact b p _ _ G1 D fun σ' H2 s2 G2 => q σ' H2 (SmB.drop hp s2) (G2.drop (e2 p _ G2.m))
end
/-! ### rows of sums -/
abbrev intsD (ns : List Int) : PyData := .tuple (ns.map .int)
abbrev rowD (x : Int × List Int) : PyData := .tuple [.int x.1, intsD x.2]
def minR (d : Int × List Int) (ds : List (Int × List Int)) : Int × List Int := ds.foldl (fun a y => if PySem.W.dataLt (rowD y) (rowD a) then y else a) d
theorem minD_rows : ∀ (r : List (Int × List Int)) (p : Int × List Int), PySem.W.minD (rowD p) (r.map rowD) = rowD (minR p r)
  | [], _ => rfl
  | y :: r, p => by
    show PySem.W.minD (if PySem.W.dataLt (rowD y) (rowD p) then rowD y else rowD p) (r.map rowD) = rowD (minR (if PySem.W.dataLt (rowD y) (rowD p) then y else p) r)
    split
    · exact minD_rows r y
    · exact minD_rows r p
theorem minR_mem : ∀ (r : List (Int × List Int)) (p : Int × List Int), minR p r ∈ p :: r
  | [], _ => List.mem_cons_self
  | y :: r, p => by
    have h := minR_mem r (if PySem.W.dataLt (rowD y) (rowD p) then y else p)
    show minR (if PySem.W.dataLt (rowD y) (rowD p) then y else p) r ∈ p :: y :: r
    rcases List.mem_cons.mp h with e | e
    · rw [e]
      split
      · exact List.mem_cons_of_mem _ List.mem_cons_self
      · exact List.mem_cons_self
    · exact List.mem_cons_of_mem _ (List.mem_cons_of_mem _ e)
theorem ints_alike : ∀ a b : List Int, PySem.W.alikeAll (a.map .int) (b.map .int) = true
  | [], b => by simp [PySem.W.alikeAll]
  | x :: a, [] => by simp [PySem.W.alikeAll]
  | x :: a, y :: b => by
    have h := ints_alike a b
    simp [PySem.W.alikeAll, PySem.W.alike, h]
theorem row_alike (p q : Int × List Int) : PySem.W.alike (rowD p) (rowD q) = true := by
  have h := ints_alike p.2 q.2
  simp [PySem.W.alike, PySem.W.alikeAll, h]
theorem rows_alike (r : List (Int × List Int)) : PySem.W.AlikeAll (r.map rowD) := by
  refine ⟨fun x hx y hy => ?_, fun x hx => ?_⟩
  · obtain ⟨p, _, rfl⟩ := List.mem_map.mp hx
    obtain ⟨q, _, rfl⟩ := List.mem_map.mp hy
    exact row_alike p q
  · obtain ⟨p, _, rfl⟩ := List.mem_map.mp hx
    exact fun h => nomatch h
theorem ints_lay : ∀ r : List Int, PyData.canLayAll0 (r.map .int) = true
  | [] => by simp [PyData.canLayAll0]
  | p :: r => by
    have h := ints_lay r
    simp [PyData.canLayAll0, PyData.canLay0, h]
theorem rows_lay : ∀ r : List (Int × List Int), PyData.canLayAll0 (r.map rowD) = true
  | [] => by simp [PyData.canLayAll0]
  | p :: r => by
    have h := rows_lay r
    have h2 := ints_lay p.2
    simp [PyData.canLayAll0, PyData.canLay0, h, h2]
theorem ints_depth : ∀ r : List Int, PyData.depthAll (r.map .int) = 0
  | [] => by simp [PyData.depthAll]
  | p :: r => by
    have h := ints_depth r
    simp [PyData.depthAll, PyData.depth, h]
theorem rows_depth : ∀ r : List (Int × List Int), PyData.depthAll (r.map rowD) ≤ 2
  | [] => by simp [PyData.depthAll]
  | p :: r => by
    have h := rows_depth r
    have e : PyData.depthAll ((p :: r).map rowD) = max (PyData.depth (rowD p)) (PyData.depthAll (r.map rowD)) := by simp [PyData.depthAll]
    have e2 : PyData.depth (rowD p) ≤ 2 := by
      have h3 := ints_depth p.2
      simp [PyData.depth, PyData.depthAll, h3]
    rw [e]
    omega
/-- how many keys the m-th row has -/
def cnt (n m : Nat) : Nat := if m = 0 then 1 else n + 1 - m
def cand (L : Line) (m : Nat) (f : Nat → Int × List Int) (hi k : Nat) : Int × List Int := ((f (m + k)).1 + (pcost L (m + k) hi).1, (f (m + k)).2 ++ [(pcost L (m + k) hi).2])
def cands (L : Line) (m : Nat) (f : Nat → Int × List Int) (hi : Nat) : List (Int × List Int) := ((List.range (cnt L.length m)).filter fun k => decide (m + k < hi)).map (cand L m f hi)
def leastOf : List (Int × List Int) → Int × List Int
  | [] => (0, [])
  | d :: ds => minR d ds
def rowF (L : Line) : Nat → Nat → Int × List Int
  | 0 => fun _ => (0, [])
  | m + 1 => fun hi => leastOf (cands L m (rowF L m) hi)
theorem cands_given (L : Line) (m : Nat) (f : Nat → Int × List Int) (hi : Nat) : (cands L m f hi).map rowD = given (cnt L.length m) (fun k => decide (m + k < hi)) (fun k => rowD (cand L m f hi k)) := by
  unfold cands given
  rw [List.map_map]
  rfl
theorem cands_cons {L : Line} {m hi : Nat} (f : Nat → Int × List Int) (h1 : m < hi) (h2 : hi ≤ L.length) : ∃ d ds, cands L m f hi = d :: ds := by
  cases e : cands L m f hi with
  | cons d ds => exact ⟨d, ds, rfl⟩
  | nil =>
    have hm : cand L m f hi 0 ∈ cands L m f hi := by
      unfold cands
      refine List.mem_map.mpr ⟨0, List.mem_filter.mpr ⟨List.mem_range.mpr ?_, decide_eq_true (by omega)⟩, rfl⟩
      unfold cnt
      split <;> omega
    rw [e] at hm
    cases hm
theorem rowF_len (L : Line) : ∀ (m k : Nat), (rowF L m k).2.length ≤ m
  | 0, _ => Nat.le_refl _
  | m + 1, k => by
    show (leastOf (cands L m (rowF L m) k)).2.length ≤ m + 1
    cases e : cands L m (rowF L m) k with
    | nil => exact Nat.zero_le _
    | cons d ds =>
      have hmem : minR d ds ∈ cands L m (rowF L m) k := by
        rw [e]
        exact minR_mem ds d
      unfold cands at hmem
      obtain ⟨i, _, hi⟩ := List.mem_map.mp hmem
      show (minR d ds).2.length ≤ m + 1
      rw [← hi]
      show (_ ++ _ : List Int).length ≤ m + 1
      rw [List.length_append]
      have := rowF_len L m (m + i)
      show _ + 1 ≤ m + 1
      omega
theorem rowF_one {L : Line} {n : Nat} (h : 0 < n) : rowF L 1 n = ((pcost L 0 n).1, [(pcost L 0 n).2]) := by
  show leastOf (cands L 0 (rowF L 0) n) = _
  have e : cands L 0 (rowF L 0) n = [cand L 0 (rowF L 0) n 0] := by
    unfold cands
    have e1 : cnt L.length 0 = 1 := rfl
    rw [e1]
    have e2 : (List.range 1).filter (fun k => decide (0 + k < n)) = [0] := by
      show List.filter _ [0] = _
      rw [List.filter_cons, if_pos (by simpa using h)]
      rfl
    rw [e2]
    rfl
  rw [e]
  show ((0 : Int) + (pcost L (0 + 0) n).1, [] ++ [(pcost L (0 + 0) n).2]) = _
  rw [Int.zero_add]
  rfl
/-! ### what stands -/
def CostM (L : Line) (B : List Addr) (c : Addr) (done : Nat → Nat → Prop) (N : Nat) (H : Hp) : Prop := ∃ kvs : List (List Key × V), H c = some (.dT kvs) ∧ kvs.length ≤ N ∧ ∀ lo hi : Nat, done lo hi → ∃ v, valV kvs [.inl (lo : Int), .inl (hi : Int)] = some v ∧ DA B H v (ratD (pcost L lo hi))
theorem CostM.tr {L : Line} {B B' : List Addr} {c : Addr} {done : Nat → Nat → Prop} {N : Nat} {H H' : Hp} (h : CostM L B c done N H) (ho : ∀ o, H c = some o → H' c = some o) (hd : ∀ v d, DA B H v d → DA B' H' v d) : CostM L B' c done N H' :=
  let ⟨kvs, h1, h2, h3⟩ := h
  ⟨kvs, ho _ h1, h2, fun lo hi x => let ⟨v, e1, e2⟩ := h3 lo hi x; ⟨v, e1, hd _ _ e2⟩⟩
theorem CostM.mono {L : Line} {B : List Addr} {c : Addr} {done : Nat → Nat → Prop} {N : Nat} (H H' : Hp) (s : Same H H') (h : CostM L B c done N H) : CostM L B c done N H' := h.tr (fun o x => s c o x) fun v d x => x.same s
def RowP (L : Line) (B : List Addr) (m j : Nat) (w : Addr) (H : Hp) : Prop := ∃ kvs : List (Key × V), H w = some (.dK kvs) ∧ kvs.map (·.1) = (List.range j).map (fun i => Sum.inl ((m + i : Nat) : Int)) ∧ ∀ i, i < j → ∃ v, valV kvs (.inl ((m + i : Nat) : Int)) = some v ∧ DA B H v (rowD (rowF L m (m + i)))
theorem RowP.tr {L : Line} {B B' : List Addr} {m j : Nat} {w : Addr} {H H' : Hp} (h : RowP L B m j w H) (ho : ∀ o, H w = some o → H' w = some o) (hd : ∀ v d, DA B H v d → DA B' H' v d) : RowP L B' m j w H' :=
  let ⟨kvs, h1, h2, h3⟩ := h
  ⟨kvs, ho _ h1, h2, fun i x => let ⟨v, e1, e2⟩ := h3 i x; ⟨v, e1, hd _ _ e2⟩⟩
abbrev allD (L : Line) (lo hi : Nat) : Prop := lo < hi ∧ hi ≤ L.length
structure RowsM (L : Line) (B : List Addr) (c r : Addr) (qs : List Addr) (H : Hp) : Prop where
  co : CostM L B c (allD L) 100 H
  li : H r = some (.lst (qs.map V.ref))
  ro : ∀ j q, qs[j]? = some q → RowP L B j (cnt L.length j) q H
theorem RowsM.tr {L : Line} {B B' : List Addr} {c r : Addr} {qs : List Addr} {H H' : Hp} (h : RowsM L B c r qs H) (hc : ∀ o, H c = some o → H' c = some o) (hr : ∀ o, H r = some o → H' r = some o) (hq : ∀ q ∈ qs, ∀ o, H q = some o → H' q = some o) (hd : ∀ v d, DA B H v d → DA B' H' v d) : RowsM L B' c r qs H' :=
  ⟨h.co.tr hc hd, hr _ h.li, fun j q x => (h.ro j q x).tr (hq q (List.mem_of_getElem? x)) hd⟩
theorem RowsM.mono {L : Line} {B : List Addr} {c r : Addr} {qs : List Addr} (H H' : Hp) (s : Same H H') (h : RowsM L B c r qs H) : RowsM L B c r qs H' := h.tr (s c) (s r) (fun q _ => s q) fun v d x => x.same s
theorem RowsM.new {L : Line} {B : List Addr} {c r p : Addr} {qs : List Addr} {H : Hp} {o : HO} (h : RowsM L B c r qs H) (hp : H p = none) : RowsM L (p :: B) c r qs (L2.upd H p o) :=
  h.tr (same_upd hp c) (same_upd hp r) (fun q _ => same_upd hp q) fun v d x => (DA.add hp _ _ x).same (same_upd hp)
theorem RowsM.dict {L : Line} {B : List Addr} {c r q : Addr} {qs : List Addr} {H : Hp} (h : RowsM L B c r qs H) (hq : q ∈ qs) : ∃ kvs, H q = some (.dK kvs) := by
  obtain ⟨j, hj, e⟩ := List.getElem_of_mem hq
  obtain ⟨kvs, h1, _⟩ := h.ro j q (by rw [List.getElem?_eq_getElem hj, e])
  exact ⟨kvs, h1⟩
/-- the row that is being filled -/
structure RowM (L : Line) (B : List Addr) (c r : Addr) (qs : List Addr) (w : Addr) (m j : Nat) (H : Hp) : Prop where
  rs : RowsM L B c r qs H
  ro : RowP L B m j w H
  ne : w ∉ qs
theorem RowM.mono {L : Line} {B : List Addr} {c r w : Addr} {qs : List Addr} {m j : Nat} (H H' : Hp) (s : Same H H') (h : RowM L B c r qs w m j H) : RowM L B c r qs w m j H' := ⟨h.rs.mono _ _ s, h.ro.tr (s w) fun v d x => x.same s, h.ne⟩
/-- the candidates -/
structure SomeM (L : Line) (B : List Addr) (c r : Addr) (qs : List Addr) (w : Addr) (m j : Nat) (z : Addr) (ds : List PyData) (H : Hp) : Prop where
  rm : RowM L B c r qs w m j H
  ne : z ≠ r
  li : ∃ ws, H z = some (.lst ws) ∧ DAs B H ws ds
theorem SomeM.mono {L : Line} {B : List Addr} {c r w z : Addr} {qs : List Addr} {m j : Nat} {ds : List PyData} (H H' : Hp) (s : Same H H') (h : SomeM L B c r qs w m j z ds H) : SomeM L B c r qs w m j z ds H' :=
  ⟨h.rm.mono _ _ s, h.ne, let ⟨ws, h1, h2⟩ := h.li; ⟨ws, s _ _ h1, h2.same s⟩⟩
/-! ### the parts -/
section
variable {K : PySem.W.Frag} {L : Line} {B A : List Addr} {c r w z : Addr} {qs : List Addr} {m j : Nat} {Γ : Gm}
abbrev tPlus (n : Nat) : TE := tOp (rI0 fun i j => .int (i + j)) (tVar n) (tC (.int 1))
abbrev tKey : TE := tTup (tCons (tVar 3) (tCons (tVar 4) tNil))
abbrev tCosts : TS := sDPut (tVar 2) tKey (tCall (SpR RPC) [] E0 (tCons (tVar 0) (tCons (tVar 3) (tCons (tVar 4) tNil))))
abbrev tLoop1 : TS := tFor (iRng1 (tCons (tVar 1) tNil)) (gName 3) (tFor (iRng2 (tCons (tPlus 3) (tCons (tPlus 1) tNil))) (gName 4) tCosts)
theorem keys_ints {B : List Addr} {H : Hp} {v : V} {ns : List Int} (h : DA B H v (intsD ns)) : ∃ a, v = .ref a ∧ H a = some (.tup ((ns.map Sum.inl : List Key).map kV)) := by
  obtain ⟨a, xs, rfl, _, h1, h2⟩ := h.tupInv
  rw [h2.ints] at h1
  refine ⟨a, rfl, ?_⟩
  rw [h1, List.map_map]
  rfl
theorem costs_put {done done' : Nat → Nat → Prop} {N lo hi : Nat} (V : Valid L) (hc : c ∈ B) (hcA : c ∈ A) (hN : N < 1000) (h0 : Γ[0]? = some (some (lineD L))) (h2 : Γ[2]? = some (some (atD c))) (h3 : Γ[3]? = some (some (.int (lo : Int)))) (h4 : Γ[4]? = some (some (.int (hi : Int)))) (hlt : lo < hi) (hle : hi ≤ L.length)
    (hd : ∀ x y, done' x y → done x y ∨ (x = lo ∧ y = hi)) : BQ A ⟨B, CostM L B c done N, fun H H' s h => CostM.mono H H' s h⟩ ⟨B, CostM L B c done' (N + 1), fun H H' s h => CostM.mono H H' s h⟩ tCosts Γ Γ := fun σ H G D q => by
  refine eg_call (ea_cons (eg_var h0) (ea_2 (eg_var h3) (eg_var h4))) ⟨L, lo, hi, rfl, V, hlt, hle, rfl⟩ σ H G _ fun v H1 s1 d1 => ?_
  refine eg_var h2 σ H1 (G.mono s1) _ fun x H2 s2 d2 => ?_
  refine eg_tup (ds := [.int (lo : Int), .int (hi : Int)]) (ea_2 (eg_var h3) (eg_var h4)) (by show 2 ≤ 1000; decide) σ H2 (G.mono (s1.trans s2)) _ fun y H3 s3 d3 => ?_
  have S := (s1.trans s2).trans s3
  have G3 := G.mono S
  obtain ⟨kvs, e1, e2, e3⟩ := G3.m
  obtain ⟨a, rfl, ea⟩ := keys_ints (ns := [(lo : Int), (hi : Int)]) d3
  have hz : kvs.length < sizeLine := Nat.lt_of_lt_of_le (Nat.lt_of_le_of_lt e2 hN) (by decide)
  refine ⟨c, _, d2.ptrInv, DPut.t (k := [.inl (lo : Int), .inl (hi : Int)]) e1 ea hz, ?_⟩
  refine q σ _ ((smB_of S).trans (SmB.upd hcA H3 _)) (G3.write hc ⟨_, upd_same, ?_, fun x y hxy => ?_⟩)
  · have := length_putK kvs [Sum.inl (lo : Int), Sum.inl (hi : Int)] v
    omega
  · rw [valV_put]
    by_cases e : ([Sum.inl (x : Int), Sum.inl (y : Int)] : List Key) = [Sum.inl (lo : Int), Sum.inl (hi : Int)]
    · rw [if_pos e]
      injection e with z1 z2
      injection z2 with z2 _
      injection z1 with z1
      injection z2 with z2
      have x1 : x = lo := Int.ofNat.inj z1
      have y1 : y = hi := Int.ofNat.inj z2
      subst x1 y1
      exact ⟨v, rfl, (d1.same (s2.trans s3)).upd hc⟩
    · rw [if_neg e]
      rcases hd x y hxy with h | ⟨rfl, rfl⟩
      · obtain ⟨u, u1, u2⟩ := e3 x y h
        exact ⟨u, u1, u2.upd hc⟩
      · exact absurd rfl e
theorem costs_all (V : Valid L) (hc : c ∈ B) (hcA : c ∈ A) (hA : ∀ a ∈ A, a ∈ B) : BQ A ⟨B, CostM L B c (fun _ _ => False) 0, fun H H' s h => CostM.mono H H' s h⟩ ⟨B, CostM L B c (allD L) 100, fun H H' s h => CostM.mono H H' s h⟩ tLoop1
    [some (lineD L), some (.int (L.length : Int)), some (atD c), none, none, none, none, none, none, none, none, none] [some (lineD L), some (.int (L.length : Int)), some (atD c), none, none, none, none, none, none, none, none, none] := by
  have hmost := V.most
  refine bq_M (h := fun H H' s h => CostM.mono H H' s h) (bq_Mpre (h := fun H H' s h => CostM.mono H H' s h) (bq_for hA (fun i => CostM L B c (fun lo hi => lo < i ∧ allD L lo hi) (10 * i)) (fun i H H' s h => CostM.mono H H' s h) (fun _ => [some (lineD L), some (.int (L.length : Int)), some (atD c), none, none, none, none, none, none, none, none, none]) (ei_rng1 (n := L.length) (ea_1 (eg_var rfl)) (by omega)) (Gle.refl _) fun i hi => ?_) fun H h => ?_) fun H h => ?_
  · refine ⟨_, _, gt_name, ?_⟩
    refine bq_post (bq_M (h := fun H H' s h => CostM.mono H H' s h) (bq_Mpre (h := fun H H' s h => CostM.mono H H' s h) (bq_for hA (fun j => CostM L B c (fun lo hi => (lo < i ∧ allD L lo hi) ∨ (lo = i ∧ i < hi ∧ hi ≤ i + j)) (10 * i + j)) (fun j H H' s h => CostM.mono H H' s h) (fun _ => [some (lineD L), some (.int (L.length : Int)), some (atD c), some (.int (i : Int)), none, none, none, none, none, none, none, none])
      (ei_congr (ei_rng2 (ea_2 (eg_add (eg_var rfl) eg_int) (eg_add (eg_var rfl) eg_int)) ⟨by omega, by omega⟩ ⟨by omega, by omega⟩) (m := L.length - i) (by omega) (dat' := fun k => .int ((i + 1 + k : Nat) : Int)) fun k _ => by
        refine congrArg PyData.int ?_
        omega) ⟨rfl, rfl, rfl, rfl, True.intro⟩ fun j hj => ?_) fun H h => ?_) fun H h => ?_) ⟨rfl, rfl, rfl, True.intro⟩
    · refine ⟨_, _, gt_name, bq_post (costs_put (lo := i) (hi := i + 1 + j) V hc hcA (by omega) rfl rfl rfl rfl (by omega) (by omega) fun x y h => ?_) ⟨rfl, rfl, rfl, rfl, True.intro⟩⟩
      rcases h with h | ⟨h1, h2, h3⟩
      · exact .inl (.inl h)
      · by_cases e : y = i + 1 + j
        · exact .inr ⟨h1, e⟩
        · exact .inl (.inr ⟨h1, h2, by omega⟩)
    · obtain ⟨kvs, h1, h2, h3⟩ := h
      exact ⟨kvs, h1, h2, fun x y hx => h3 x y (by rcases hx with hx | ⟨a1, a2, a3⟩; exact hx; omega)⟩
    · obtain ⟨kvs, h1, h2, h3⟩ := h
      refine ⟨kvs, h1, by omega, fun x y hx => h3 x y ?_⟩
      obtain ⟨a1, a2, a3⟩ := hx
      by_cases e : x = i
      · exact .inr ⟨e, by omega, by omega⟩
      · exact .inl ⟨by omega, a2, a3⟩
  · obtain ⟨kvs, h1, h2, h3⟩ := h
    exact ⟨kvs, h1, h2, fun x y hx => absurd hx.1 (Nat.not_lt_zero _)⟩
  · obtain ⟨kvs, h1, h2, h3⟩ := h
    exact ⟨kvs, h1, by omega, fun x y hx => h3 x y ⟨by have := hx.1; have := hx.2; omega, hx⟩⟩
end
end K58
namespace K58
open PySem PySem.Spec PyProof.Rows L2
section
variable {K : PySem.W.Frag} {L : Line} {B A : List Addr} {c r w z q : Addr} {qs : List Addr} {m j : Nat} {Γ : Gm} {C : Cn} {H : Hp}
abbrev tLast (K : PySem.W.Frag) : TE := tOp (rIxL K) (tVar 5) (tUn (rU fun i => .int (-i)) (tC (.int 1)))
abbrev tKeys (K : PySem.W.Frag) : TE := tCB rSortedKV (tCons (tBM0 K "dict" rKeys (tLast K)) tNil)
abbrev tPick (K : PySem.W.Frag) : TS := tAsg (tTup (tCons (tDGet (tLast K) (tVar 3)) (tCons (tDGet (tVar 2) tKey) tNil))) (gTup K 2 (gCons (gName 9) (gCons (gTup K 2 (gCons (gName 10) (gCons (gName 11) gNil))) gNil)))
abbrev tCandE (K : PySem.W.Frag) : TE := tTup (tCons (tOp (rI0 fun i j => .int (i + j)) (tOp (rIxT K) (tVar 9) (tC (.int 0))) (tVar 10)) (tCons (tOp (rCatA K) (tOp (rIxT K) (tVar 9) (tC (.int 1))) (tTup (tCons (tVar 11) tNil))) tNil))
abbrev tApp (K : PySem.W.Frag) (n : Nat) (te : TE) : TS := tDrop (tBM K "list" rAppend (tVar n) (tCons te tNil))
abbrev tLoop4 (K : PySem.W.Frag) : TS := tFor (iList K (tKeys K)) (gName 3) (tIfS (tTest (tOp (rI0 fun i j => .bl (decide (i < j))) (tVar 3) (tVar 4))) (tSeq (tPick K) (tApp K 8 (tCandE K))) tNext)
abbrev tPut (K : PySem.W.Frag) : TS := sDPut (tVar 7) (tVar 4) (tCB (rMinD K) (tCons (tVar 8) tNil))
abbrev tHigh (K : PySem.W.Frag) : TS := tSeq (tAsg (tLst tNil) (gName 8)) (tSeq (tLoop4 K) (tPut K))
abbrev tLoop3 (K : PySem.W.Frag) : TS := tFor (iRng2 (tCons (tVar 6) (tCons (tPlus 1) tNil))) (gName 4) (tHigh K)
abbrev tCount (K : PySem.W.Frag) : TS := tSeq (tAsg tDNewK (gName 7)) (tSeq (tLoop3 K) (tApp K 5 (tVar 7)))
abbrev tLoop2 (K : PySem.W.Frag) : TS := tFor (iRng2 (tCons (tC (.int 1)) (tCons (tPlus 1) tNil))) (gName 6) (tCount K)
theorem rows_last (h : RowsM L B c r (qs ++ [q]) H) : H r = some (.lst (qs.map V.ref ++ [.ref q])) := by
  have e := h.li
  rw [List.map_append] at e
  exact e
/-- rows[-1] -/
theorem eg_last (hM : ∀ H, C.M H → RowsM L C.B c r (qs ++ [q]) H) (h5 : Γ[5]? = some (some (atD r))) : EG C (tLast K) Γ (atD q) :=
  eg_op (eg_var h5) (eg_neg eg_int) fun H hm _ x y dx dy Q k => by
    rw [dx.ptrInv, dy.intInv]
    exact ⟨r, _, _, .ref q, rfl, rfl, SqL.of (rows_last (hM H hm)), atI_last _ _, k _ H (Same.refl H) (.ptr q)⟩
theorem row_of (h : RowsM L B c r (qs ++ [q]) H) : RowP L B qs.length (cnt L.length qs.length) q H := h.ro qs.length q (by rw [List.getElem?_append_right (Nat.le_refl _), Nat.sub_self]; rfl)
def keysL (L : Line) (m : Nat) : List Int := (List.range (cnt L.length m)).map fun i => ((m + i : Nat) : Int)
theorem keysL_up (L : Line) (m : Nat) : (keysL L m).Pairwise (· ≤ ·) := by
  unfold keysL
  rw [List.pairwise_map]
  refine List.Pairwise.imp (fun h => ?_) List.pairwise_lt_range
  omega
theorem cnt_le {n m : Nat} (h : n ≤ 8) : cnt n m ≤ 9 := by
  unfold cnt
  split <;> omega
/-- sorted(rows[-1].keys()) -/
theorem eg_keys (hL : L.length ≤ 8) (hM : ∀ H, C.M H → RowsM L C.B c r (qs ++ [q]) H) (h5 : Γ[5]? = some (some (atD r))) : EG C (tKeys K) Γ (.list ((keysL L qs.length).map .int)) := fun σ H G Q k => by
  refine eg_last hM h5 σ H G _ fun x H1 s1 d1 => ?_
  have G1 := G.mono s1
  obtain ⟨kvs, e1, e2, e3⟩ := row_of (hM H1 G1.m)
  rw [d1.ptrInv]
  refine ⟨.inr (.inr (.inl ⟨rfl, .inl ⟨kvs, e1⟩⟩)), q, kvs, rfl, rfl, e1, fun p hp => ?_⟩
  have s2 : Same H1 (upd H1 p (keysO p q)) := same_upd hp
  refine ⟨p, q, kvs, keysL L qs.length, rfl, upd_same, s2 _ _ e1, ?_, ?_, fun ys l hp hr hl => ?_⟩
  · rw [e2]
    unfold keysL
    rw [List.map_map]
    rfl
  · unfold keysL
    rw [List.length_map, List.length_range]
    have := cnt_le (m := qs.length) hL
    omega
  · rw [rising_one hp hr (keysL_up L qs.length)]
    exact k _ _ ((s1.trans s2).trans (same_upd hl)) (DA.newLst (Bs.mono (s1.trans s2) G.b) hl (DAs.ofInts _))
/-- rows[-1][low] -/
theorem eg_before {lo i : Nat} (hM : ∀ H, C.M H → RowsM L C.B c r (qs ++ [q]) H) (h5 : Γ[5]? = some (some (atD r))) (h3 : Γ[3]? = some (some (.int (lo : Int)))) (hlo : lo = qs.length + i) (hi : i < cnt L.length qs.length) : EG C (tDGet (tLast K) (tVar 3)) Γ (rowD (rowF L qs.length lo)) := fun σ H G Q k => by
  refine eg_last hM h5 σ H G _ fun x H1 s1 d1 => ?_
  refine eg_var h3 σ H1 (G.mono s1) _ fun y H2 s2 d2 => ?_
  have G2 := G.mono (s1.trans s2)
  obtain ⟨kvs, e1, e2, e3⟩ := row_of (hM H2 G2.m)
  obtain ⟨v, v1, v2⟩ := e3 i hi
  rw [d2.intInv]
  subst hlo
  refine ⟨q, v, d1.ptrInv, ?_, k v H2 (s1.trans s2) v2⟩
  have g := DGet.k (k := .inl ((qs.length + i : Nat) : Int)) e1
  rw [v1] at g
  exact g
/-- costs[low, high] -/
theorem eg_cost {lo hi : Nat} (hM : ∀ H, C.M H → RowsM L C.B c r (qs ++ [q]) H) (h2 : Γ[2]? = some (some (atD c))) (h3 : Γ[3]? = some (some (.int (lo : Int)))) (h4 : Γ[4]? = some (some (.int (hi : Int)))) (hlt : lo < hi) (hle : hi ≤ L.length) : EG C (tDGet (tVar 2) tKey) Γ (ratD (pcost L lo hi)) := fun σ H G Q k => by
  refine eg_var h2 σ H G _ fun x H1 s1 d1 => ?_
  refine eg_tup (ds := [.int (lo : Int), .int (hi : Int)]) (ea_2 (eg_var h3) (eg_var h4)) (by show 2 ≤ 1000; decide) σ H1 (G.mono s1) _ fun y H2 s2 d2 => ?_
  have G2 := G.mono (s1.trans s2)
  obtain ⟨kvs, e1, e2, e3⟩ := (hM H2 G2.m).co
  obtain ⟨v, v1, v2⟩ := e3 lo hi ⟨hlt, hle⟩
  obtain ⟨a, rfl, ea⟩ := keys_ints (ns := [(lo : Int), (hi : Int)]) d2
  refine ⟨c, v, d1.ptrInv, ?_, k v H2 (s1.trans s2) v2⟩
  have g := DGet.t (k := [.inl (lo : Int), .inl (hi : Int)]) e1 ea
  rw [v1] at g
  exact g
/-- some.append(..) -/
theorem app_some {ds : List PyData} {d : PyData} {te : TE} (hz : z ∈ B) (hzA : z ∈ A) (h8 : Γ[8]? = some (some (atD z))) (he : EG ⟨B, SomeM L B c r qs w m j z ds, fun H H' s h => SomeM.mono H H' s h⟩ te Γ d) (hn : ds.length ≤ 1000) :
    BQ A ⟨B, SomeM L B c r qs w m j z ds, fun H H' s h => SomeM.mono H H' s h⟩ ⟨B, SomeM L B c r qs w m j z (ds ++ [d]), fun H H' s h => SomeM.mono H H' s h⟩ (tApp K 8 te) Γ Γ := fun σ H G D k => by
  show tVar 8 σ H fun x H1 => tyV K "list" x H1 ∧ tCons te tNil σ H1 fun xs H2 => rAppend x xs H2 fun _ H3 => D.nx σ H3
  refine eg_var h8 σ H G _ fun x H1 s1 d1 => ?_
  have G1 := G.mono s1
  rw [d1.ptrInv]
  refine ⟨.inl ⟨rfl, let ⟨ws, h1, _⟩ := G1.m.li; ⟨ws, SqL.of h1⟩⟩, ?_⟩
  refine he σ H1 G1 _ fun v H2 s2 d2 => ?_
  have G2 := G1.mono s2
  obtain ⟨ws, h1, h2⟩ := G2.m.li
  have hl := h2.length
  refine ⟨z, ws, v, rfl, rfl, h1, Nat.lt_of_le_of_lt (by omega : ws.length ≤ 1000) (by decide), ?_⟩
  have hd : ∀ v d, DA B H2 v d → DA B (upd H2 z (.lst (ws ++ [v]))) v d := fun v d x => x.upd hz
  have hne : ∀ a o, H2 a = some o → (∀ ys, o ≠ .lst ys) → upd H2 z (.lst (ws ++ [v])) a = some o := fun a o ha no => by
    rw [upd_ne fun e => by rw [e, h1] at ha; cases ha; exact no _ rfl]
    exact ha
  refine k σ _ (((smB_of (s1.trans s2))).trans (SmB.upd hzA H2 _)) (G2.write hz ⟨⟨G2.m.rm.rs.tr (fun o ho => ?_) (fun o ho => ?_) (fun q hq o ho => ?_) fun v d x => x.upd hz, G2.m.rm.ro.tr (fun o ho => ?_) fun v d x => x.upd hz, G2.m.rm.ne⟩, G2.m.ne, _, upd_same, ?_⟩)
  · obtain ⟨kvs, e, _⟩ := G2.m.rm.rs.co
    rw [e] at ho
    cases ho
    exact hne _ _ e fun ys q => nomatch q
  · rw [upd_ne fun e => G2.m.ne e.symm]
    exact ho
  · obtain ⟨kvs, e⟩ := G2.m.rm.rs.dict hq
    rw [e] at ho
    cases ho
    exact hne _ _ e fun ys q => nomatch q
  · obtain ⟨kvs, e, _⟩ := G2.m.rm.ro
    rw [e] at ho
    cases ho
    exact hne _ _ e fun ys q => nomatch q
  · exact (h2.append (.cons d2 .nil)).upd hz
/-- the candidates of one sum -/
theorem some_all {hi : Nat} (V : Valid L) (hz : z ∈ B) (hzA : z ∈ A) (hA : ∀ a ∈ A, a ∈ B) (hqs : m = qs.length + 1) (h1 : m ≤ hi) (h2 : hi ≤ L.length) :
    BQ A ⟨B, SomeM L B c r (qs ++ [q]) w m j z [], fun H H' s h => SomeM.mono H H' s h⟩ ⟨B, SomeM L B c r (qs ++ [q]) w m j z ((cands L qs.length (rowF L qs.length) hi).map rowD), fun H H' s h => SomeM.mono H H' s h⟩ (tLoop4 K)
      [some (lineD L), some (.int (L.length : Int)), some (atD c), none, some (.int (hi : Int)), some (atD r), some (.int (m : Int)), some (atD w), some (atD z), none, none, none] [some (lineD L), some (.int (L.length : Int)), some (atD c), none, some (.int (hi : Int)), some (atD r), some (.int (m : Int)), some (atD w), some (atD z), none, none, none] := by
  have hmost := V.most
  have hcnt := cnt_le (m := qs.length) hmost
  rw [cands_given]
  have hlen : (keysL L qs.length).length = cnt L.length qs.length := by
    unfold keysL
    rw [List.length_map, List.length_range]
  refine bq_for hA (n := cnt L.length qs.length) (fun i => SomeM L B c r (qs ++ [q]) w m j z (given i (fun k => decide (qs.length + k < hi)) (fun k => rowD (cand L qs.length (rowF L qs.length) hi k)))) (fun i H H' s h => SomeM.mono H H' s h) (fun _ => [some (lineD L), some (.int (L.length : Int)), some (atD c), none, some (.int (hi : Int)), some (atD r), some (.int (m : Int)), some (atD w), some (atD z), none, none, none])
    (ei_congr (ei_mapL PyData.int 0 (eg_keys hmost (fun H h => h.rm.rs) rfl)) hlen (dat' := fun i => .int ((qs.length + i : Nat) : Int)) fun i hi => by
      refine congrArg PyData.int ?_
      rw [List.getD_eq_getElem?_getD, List.getElem?_eq_getElem hi]
      unfold keysL
      simp) (Gle.refl _) fun i hi' => ?_
  refine ⟨_, _, gt_name, bq_if (b := decide (qs.length + i < hi)) (et_is (et_test (eg_lt (eg_var rfl) (eg_var rfl))) (by apply Bool.eq_iff_iff.mpr; simp only [decide_eq_true_eq]; omega)) (fun hb => ?_) fun hb => ?_⟩
  · have hlt : qs.length + i < hi := of_decide_eq_true hb
    refine bq_post (bq_seq (bq_of (bg_asg (eg_tup (ea_2 (eg_before (lo := qs.length + i) (i := i) (fun H h => h.rm.rs) rfl rfl rfl hi') (eg_cost (lo := qs.length + i) (hi := hi) (fun H h => h.rm.rs) rfl rfl rfl hlt h2)) (by show 2 ≤ 1000; decide)) (gt_tup (gts_cons gt_name (gts_cons gt_2 gts_nil)) rfl))) (bq_M (h := fun H H' s h => SomeM.mono H H' s h) (app_some hz hzA rfl (d := rowD (cand L qs.length (rowF L qs.length) hi i)) ?_ ?_) fun H h => ?_)) ⟨rfl, rfl, rfl, rfl, rfl, rfl, rfl, rfl, True.intro⟩
    · have hl := rowF_len L qs.length (qs.length + i)
      refine eg_is (eg_tup (ea_2 (eg_add (eg_ixT (ds := [.int (rowF L qs.length (qs.length + i)).1, intsD (rowF L qs.length (qs.length + i)).2]) (eg_var rfl) eg_int rfl) (eg_var rfl)) (eg_catA (es := [.int (pcost L (qs.length + i) hi).2]) (eg_ixT (ds := [.int (rowF L qs.length (qs.length + i)).1, intsD (rowF L qs.length (qs.length + i)).2]) (eg_var rfl) eg_int rfl) (eg_tup (ea_1 (eg_var rfl)) (by show 1 ≤ 1000; decide)) ?_)) (by show 2 ≤ 1000; decide)) ?_
      · rw [List.length_map]
        show _ + 1 ≤ 1000
        omega
      · unfold cand
        show _ = PyData.tuple [_, PyData.tuple (List.map PyData.int ((rowF L qs.length (qs.length + i)).2 ++ [(pcost L (qs.length + i) hi).2]))]
        rw [List.map_append]
        rfl
    · have := given_len i (fun k => decide (qs.length + k < hi)) (fun k => rowD (cand L qs.length (rowF L qs.length) hi k))
      omega
    · rw [given_succ, if_pos hb]
      exact h
  · refine bq_post (bq_M (h := fun H H' s h => SomeM.mono H H' s h) (bq_of bg_nil) fun H h => ?_) ⟨rfl, rfl, rfl, rfl, rfl, rfl, rfl, rfl, True.intro⟩
    rw [given_succ, if_neg (by rw [hb]; exact Bool.false_ne_true), List.append_nil]
    exact h
theorem valV_none {κ : Type} [DecidableEq κ] {kvs : List (κ × V)} {k : κ} (h : k ∉ kvs.map (·.1)) : valV kvs k = none := by
  cases e : valV kvs k with
  | none => rfl
  | some v =>
    have h2 : (valV kvs k).isSome = true := by rw [e]; rfl
    rw [← valV_any] at h2
    obtain ⟨kv, hm, hk⟩ := List.any_eq_true.mp h2
    exact absurd (List.mem_map.mpr ⟨kv, hm, of_decide_eq_true hk⟩) h
/-- row[high] = min(some) -/
theorem put_min (V : Valid L) (hw : w ∈ B) (hwA : w ∈ A) (hqs : m = qs.length + 1) (hj : m + j ≤ L.length) {Γ : Gm} (h4 : Γ[4]? = some (some (.int ((m + j : Nat) : Int)))) (h7 : Γ[7]? = some (some (atD w))) (h8 : Γ[8]? = some (some (atD z))) :
    BQ A ⟨B, SomeM L B c r (qs ++ [q]) w m j z ((cands L qs.length (rowF L qs.length) (m + j)).map rowD), fun H H' s h => SomeM.mono H H' s h⟩ ⟨B, RowM L B c r (qs ++ [q]) w m (j + 1), fun H H' s h => RowM.mono H H' s h⟩ (tPut K) Γ Γ := fun σ H G D k => by
  obtain ⟨d, ds, e⟩ := cands_cons (L := L) (m := qs.length) (hi := m + j) (rowF L qs.length) (by omega) hj
  have hrow : rowF L m (m + j) = minR d ds := by
    rw [hqs]
    show leastOf (cands L qs.length (rowF L qs.length) (qs.length + 1 + j)) = _
    rw [← hqs, e]
    rfl
  refine eg_var h8 σ H G _ fun x H1 s1 d1 => ?_
  have G1 := G.mono s1
  obtain ⟨ws, e1, e2⟩ := G1.m.li
  rw [e] at e2
  have dep := rows_depth (d :: ds)
  refine ⟨z, ws, rowD d, ds.map rowD, by rw [d1.ptrInv], SqL.of e1, DAs.dp K _ _ (rows_lay (d :: ds)) e2, rows_alike (d :: ds), Nat.le_trans dep (by decide), fun kk v hk hm hlt => ?_⟩
  obtain ⟨d', x1, x2⟩ := e2.getV hk
  have x1' : (rowD d :: ds.map rowD)[kk]? = some d' := x1
  rw [List.getD_eq_getElem?_getD, x1', minD_rows] at hm
  have hm' : d' = rowD (minR d ds) := hm
  rw [hm', ← hrow] at x2
  refine eg_var h7 σ H1 G1 _ fun y H2 s2 d2 => ?_
  refine eg_var h4 σ H2 (G1.mono s2) _ fun y2 H3 s3 d3 => ?_
  have G3 := G1.mono (s2.trans s3)
  have S := (s1.trans s2).trans s3
  have hm := V.most
  obtain ⟨kvs, k1, k2, k3⟩ := G3.m.rm.ro
  have hkl : kvs.length = j := by
    have := congrArg List.length k2
    rw [List.length_map, List.length_map, List.length_range] at this
    exact this
  have hz : kvs.length < sizeLine := Nat.lt_of_le_of_lt (by omega : kvs.length ≤ 8) (by decide)
  have hnew : valV kvs (Sum.inl ((m + j : Nat) : Int) : Key) = none := valV_none fun hmem => by
    rw [k2] at hmem
    obtain ⟨i, hi, ei⟩ := List.mem_map.mp hmem
    have hi' := List.mem_range.mp hi
    injection ei with ei
    omega
  rw [d3.intInv]
  refine ⟨w, _, d2.ptrInv, DPut.k (k := .inl ((m + j : Nat) : Int)) k1 hz, ?_⟩
  have x3 := x2.same (s2.trans s3)
  refine k σ _ ((smB_of S).trans (SmB.upd hwA H3 _)) (G3.write hw ⟨G3.m.rm.rs.tr (fun o ho => ?_) (fun o ho => ?_) (fun q' hq o ho => ?_) fun v d x => x.upd hw, ⟨_, upd_same, ?_, fun i hi => ?_⟩, G3.m.rm.ne⟩)
  · obtain ⟨kvs', e', _⟩ := G3.m.rm.rs.co
    rw [upd_ne fun e'' => by rw [e'', k1] at e'; cases e']
    exact ho
  · have e' := G3.m.rm.rs.li
    rw [upd_ne fun e'' => by rw [e'', k1] at e'; cases e']
    exact ho
  · rw [upd_ne fun e'' => G3.m.rm.ne (by rw [← e'']; exact hq)]
    exact ho
  · rw [putK_new _ hnew, List.map_append, k2, List.range_succ, List.map_append]
    rfl
  · rw [valV_put]
    by_cases ei : i = j
    · subst ei
      rw [if_pos rfl]
      exact ⟨v, rfl, x3.upd hw⟩
    · rw [if_neg (fun z => by injection z with z; omega)]
      obtain ⟨u, u1, u2⟩ := k3 i (by omega)
      exact ⟨u, u1, u2.upd hw⟩
/-- one sum -/
theorem high_ok (V : Valid L) (hw : w ∈ B) (hwA : w ∈ A) (hA : ∀ a ∈ A, a ∈ B) (hr : r ∈ B) (hqs : m = qs.length + 1) (hj : m + j ≤ L.length) :
    BQ A ⟨B, RowM L B c r (qs ++ [q]) w m j, fun H H' s h => RowM.mono H H' s h⟩ ⟨B, RowM L B c r (qs ++ [q]) w m (j + 1), fun H H' s h => RowM.mono H H' s h⟩ (tHigh K)
      [some (lineD L), some (.int (L.length : Int)), some (atD c), none, some (.int ((m + j : Nat) : Int)), some (atD r), some (.int (m : Int)), some (atD w), none, none, none, none] [some (lineD L), some (.int (L.length : Int)), some (atD c), none, none, some (atD r), some (.int (m : Int)), some (atD w), none, none, none, none] := by
  refine bq_newL (fun z => SomeM L (z :: B) c r (qs ++ [q]) w m j z []) (fun z => RowM L (z :: B) c r (qs ++ [q]) w m (j + 1)) (fun z H H' s h => SomeM.mono H H' s h) (fun z H H' s h => RowM.mono H H' s h) (fun z H h hz => ?_) (fun z H h => ?_) fun z => ?_
  · refine ⟨⟨h.rs.new hz, h.ro.tr (same_upd hz w) fun v d x => (DA.add hz _ _ x).same (same_upd hz), h.ne⟩, fun e => ?_, [], upd_same, .nil⟩
    have := h.rs.li
    rw [← e, hz] at this
    cases this
  · exact ⟨h.rs.tr (fun _ x => x) (fun _ x => x) (fun _ _ _ x => x) fun v d x => DA.weak (fun _ => List.mem_cons_of_mem _) _ _ x, h.ro.tr (fun _ x => x) fun v d x => DA.weak (fun _ => List.mem_cons_of_mem _) _ _ x, h.ne⟩
  · refine bq_seq (some_all (hi := m + j) V List.mem_cons_self List.mem_cons_self (fun a ha => (List.mem_cons.mp ha).elim (fun e => by rw [e]; exact List.mem_cons_self) fun x => List.mem_cons_of_mem _ (hA a x)) hqs (by omega) hj) (bq_post (put_min V (List.mem_cons_of_mem _ hw) (List.mem_cons_of_mem _ hwA) hqs hj rfl rfl rfl) ⟨rfl, rfl, rfl, rfl, rfl, rfl, True.intro⟩)
end
end K58
namespace K58
open PySem PySem.Spec PyProof.Rows L2
section
variable {K : PySem.W.Frag} {L : Line} {B A : List Addr} {c r w z q : Addr} {qs : List Addr} {m j : Nat} {Γ : Gm} {C : Cn}
/-- rows.append(row) -/
theorem app_row (hr : r ∈ B) (hrA : r ∈ A) (hqs : qs.length = m) (hm : 1 ≤ m) (hn : m ≤ 8) (h5 : Γ[5]? = some (some (atD r))) (h7 : Γ[7]? = some (some (atD w))) :
    BQ A ⟨B, RowM L B c r qs w m (L.length + 1 - m), fun H H' s h => RowM.mono H H' s h⟩ ⟨B, RowsM L B c r (qs ++ [w]), fun H H' s h => RowsM.mono H H' s h⟩ (tApp K 5 (tVar 7)) Γ Γ := fun σ H G D k => by
  show tVar 5 σ H fun x H1 => tyV K "list" x H1 ∧ tCons (tVar 7) tNil σ H1 fun xs H2 => rAppend x xs H2 fun _ H3 => D.nx σ H3
  refine eg_var h5 σ H G _ fun x H1 s1 d1 => ?_
  have G1 := G.mono s1
  rw [d1.ptrInv]
  refine ⟨.inl ⟨rfl, _, SqL.of G1.m.rs.li⟩, ?_⟩
  refine eg_var h7 σ H1 G1 _ fun y H2 s2 d2 => ?_
  have G2 := G1.mono s2
  have hli := G2.m.rs.li
  refine ⟨r, _, y, rfl, rfl, hli, Nat.lt_of_le_of_lt (by rw [List.length_map]; omega : _ ≤ 1000) (by decide), ?_⟩
  rw [d2.ptrInv]
  have hne : ∀ a kvs, H2 a = some (.dK kvs) → upd H2 r (.lst (qs.map V.ref ++ [.ref w])) a = some (.dK kvs) := fun a kvs ha => by
    rw [upd_ne fun e => by rw [e, hli] at ha; cases ha]
    exact ha
  have hd : ∀ v d, DA B H2 v d → DA B (upd H2 r (.lst (qs.map V.ref ++ [.ref w]))) v d := fun v d x => x.upd hr
  refine k σ _ ((smB_of (s1.trans s2)).trans (SmB.upd hrA H2 _)) (G2.write hr ⟨G2.m.rs.co.tr (fun o ho => ?_) hd, ?_, fun i p hp => ?_⟩)
  · obtain ⟨kvs, e, _⟩ := G2.m.rs.co
    rw [upd_ne fun e' => by rw [e', hli] at e; cases e]
    exact ho
  · rw [upd_same, List.map_append]
    rfl
  · by_cases hi : i < qs.length
    · rw [List.getElem?_append_left hi] at hp
      obtain ⟨kvs, e, _⟩ := G2.m.rs.ro i p hp
      exact (G2.m.rs.ro i p hp).tr (fun o ho => by rw [e] at ho; cases ho; exact hne _ _ e) hd
    · have hl : i < (qs ++ [w]).length := (List.getElem?_eq_some_iff.mp hp).1
      rw [List.length_append] at hl
      have hl' : i < qs.length + 1 := hl
      have ei : i = m := by omega
      subst ei
      rw [List.getElem?_append_right (by omega), show i - qs.length = 0 by omega] at hp
      cases hp
      have ec : cnt L.length i = L.length + 1 - i := by
        unfold cnt
        rw [if_neg (by omega)]
      rw [ec]
      obtain ⟨kvs, e, _⟩ := G2.m.ro
      exact G2.m.ro.tr (fun o ho => by rw [e] at ho; cases ho; exact hne _ _ e) hd
/-- one row more -/
theorem count_ok (V : Valid L) (hA : ∀ a ∈ A, a ∈ B) (hr : r ∈ B) (hrA : r ∈ A) (hqs : m = qs.length + 1) (hm : m ≤ L.length) {h h'} :
    BQ A ⟨B, RowsM L B c r (qs ++ [q]), h⟩ ⟨B, fun H => ∃ ps : List Addr, ps.length = m + 1 ∧ RowsM L B c r ps H, h'⟩ (tCount K)
      [some (lineD L), some (.int (L.length : Int)), some (atD c), none, none, some (atD r), some (.int (m : Int)), none, none, none, none, none] [some (lineD L), some (.int (L.length : Int)), some (atD c), none, none, some (atD r), none, none, none, none, none, none] := by
  have hmost := V.most
  refine bq_newK (fun w => RowM L (w :: B) c r (qs ++ [q]) w m 0) (fun w => RowsM L (w :: B) c r ((qs ++ [q]) ++ [w])) (fun w H H' s h => RowM.mono H H' s h) (fun w H H' s h => RowsM.mono H H' s h) (fun w H h hw => ?_) (fun w H h => ?_) fun w => ?_
  · refine ⟨h.new hw, ⟨[], upd_same, rfl, fun i hi => absurd hi (Nat.not_lt_zero _)⟩, fun hm => ?_⟩
    obtain ⟨kvs, e⟩ := h.dict hm
    rw [hw] at e
    cases e
  · refine ⟨(qs ++ [q]) ++ [w], ?_, h.tr (fun _ x => x) (fun _ x => x) (fun _ _ _ x => x) fun v d x => DA.weak (fun _ => List.mem_cons_of_mem _) _ _ x⟩
    rw [List.length_append, List.length_append]
    show qs.length + 1 + 1 = m + 1
    omega
  · have hA' : ∀ a ∈ w :: A, a ∈ w :: B := fun a ha => (List.mem_cons.mp ha).elim (fun e => by rw [e]; exact List.mem_cons_self) fun x => List.mem_cons_of_mem _ (hA a x)
    refine bq_seq (Γ1 := [some (lineD L), some (.int (L.length : Int)), some (atD c), none, none, some (atD r), some (.int (m : Int)), some (atD w), none, none, none, none])
      (bq_for hA' (n := L.length + 1 - m) (fun j => RowM L (w :: B) c r (qs ++ [q]) w m j) (fun j H H' s h => RowM.mono H H' s h) (fun _ => [some (lineD L), some (.int (L.length : Int)), some (atD c), none, none, some (atD r), some (.int (m : Int)), some (atD w), none, none, none, none])
        (ei_congr (ei_rng2 (ea_2 (eg_var rfl) (eg_add (eg_var rfl) eg_int)) ⟨by omega, by omega⟩ ⟨by omega, by omega⟩) (by omega) (dat' := fun k => .int ((m + k : Nat) : Int)) fun k _ => by rw [Int.natCast_add]) ⟨rfl, rfl, rfl, rfl, rfl, rfl, True.intro⟩ fun j hj => ?_) ?_
    · exact ⟨_, _, gt_name, high_ok V List.mem_cons_self List.mem_cons_self hA' (List.mem_cons_of_mem _ hr) hqs (by omega)⟩
    · refine bq_post (app_row (List.mem_cons_of_mem _ hr) (List.mem_cons_of_mem _ hrA) ?_ (by omega) (by omega) rfl rfl) ⟨rfl, rfl, rfl, rfl, True.intro⟩
      rw [List.length_append]
      exact hqs.symm
/-- all rows -/
theorem rows_all (V : Valid L) (hA : ∀ a ∈ A, a ∈ B) (hr : r ∈ B) (hrA : r ∈ A) {h h'} :
    BQ A ⟨B, fun H => ∃ ps : List Addr, ps.length = 0 + 1 ∧ RowsM L B c r ps H, h⟩ ⟨B, fun H => ∃ ps : List Addr, ps.length = L.length + 1 ∧ RowsM L B c r ps H, h'⟩ (tLoop2 K)
      [some (lineD L), some (.int (L.length : Int)), some (atD c), none, none, some (atD r), none, none, none, none, none, none] [some (lineD L), some (.int (L.length : Int)), some (atD c), none, none, some (atD r), none, none, none, none, none, none] := by
  have hmost := V.most
  refine bq_for hA (n := L.length) (fun i H => ∃ ps : List Addr, ps.length = i + 1 ∧ RowsM L B c r ps H) (fun i H H' s ⟨ps, e, x⟩ => ⟨ps, e, x.mono _ _ s⟩) (fun _ => [some (lineD L), some (.int (L.length : Int)), some (atD c), none, none, some (atD r), none, none, none, none, none, none])
    (ei_congr (ei_rng2 (ea_2 eg_int (eg_add (eg_var rfl) eg_int)) ⟨by omega, by omega⟩ ⟨by omega, by omega⟩) (by omega) (dat' := fun k => .int ((k + 1 : Nat) : Int)) fun k _ => by
      refine congrArg PyData.int ?_
      omega) (Gle.refl _) fun i hi => ?_
  refine ⟨_, _, gt_name, bq_ex (h0 := fun ps H H' s x => ⟨x.1, x.2.mono _ _ s⟩) fun ps => ?_⟩
  intro σ H G D k
  obtain ⟨e, x⟩ := G.m
  obtain ⟨ps', q, rfl⟩ : ∃ ps' q, ps = ps' ++ [q] := by
    have hne : ps ≠ [] := fun z => by rw [z] at e; cases e
    exact ⟨ps.dropLast, ps.getLast hne, (List.dropLast_concat_getLast hne).symm⟩
  rw [List.length_append] at e
  have e' : ps'.length + 1 = i + 1 := e
  exact count_ok (q := q) (qs := ps') (m := i + 1) V hA hr hrA (by omega) (by omega) (h := fun H H' s h => RowsM.mono H H' s h) σ H ⟨x, G.b, G.l, G.g⟩ D k
end
/-- what best_rows hands back -/
def BestO (L : Line) (B : List Addr) (r : Addr) (H : Hp) : Prop := ∃ (qs : List Addr) (q : Addr) (kvs : List (Key × V)) (v : V), H r = some (.lst (qs.map V.ref)) ∧ qs[1]? = some q ∧ H q = some (.dK kvs) ∧ valV kvs (.inl (L.length : Int)) = some v ∧ DA B H v (rowD ((pcost L 0 L.length).1, [(pcost L 0 L.length).2]))
theorem best_of {L : Line} {B : List Addr} {c r : Addr} {qs : List Addr} {H : Hp} (V : Valid L) (hl : qs.length = L.length + 1) (h : RowsM L B c r qs H) : BestO L B r H := by
  have hone := V.one
  have h1 : 1 < qs.length := by omega
  obtain ⟨kvs, e1, _, e3⟩ := h.ro 1 qs[1] (List.getElem?_eq_getElem h1)
  obtain ⟨v, v1, v2⟩ := e3 (L.length - 1) (by unfold cnt; rw [if_neg (by omega)]; omega)
  have en : 1 + (L.length - 1) = L.length := by omega
  rw [en] at v1 v2
  rw [rowF_one (by omega)] at v2
  exact ⟨qs, qs[1], kvs, v, h.li, List.getElem?_eq_getElem h1, e1, v1, v2⟩
def SpBest : Sp := fun vs H Q _ => ∃ (B : List Addr) (L : Line), (∀ p ∈ B, H p ≠ none) ∧ DAs B H vs [lineD L] ∧ Valid L ∧ ∀ r H', Same H H' → BestO L B r H' → Q (.ref r) H'
theorem mt_app {X : Cx} : MtR X "list.append" rAppend := fun pins s σ H x xs v us Q I r rs h => mt_append pins s σ H x xs v us Q I r rs h
section
variable {P : Program} {w : World} {K : PySem.W.Frag} {mg : Str → Option Value} {base : Heap}
abbrev tFirst : TE := tDisp [(tC (.int 0), tTup (tCons (tC (.int 0)) (tCons (tTup tNil) tNil)))]
abbrev tBest (K : PySem.W.Frag) : TS := tSeq (tAsg (tLenT K 0) (gName 1)) (tSeq (tAsg tDNewT (gName 2)) (tSeq tLoop1 (tSeq (tAsg (tLst (tCons tFirst tNil)) (gName 5)) (tSeq (tLoop2 K) (tRet (tVar 5))))))
/-- rows = [{0: (0, ())}] -/
theorem first_row {L : Line} {B A : List Addr} {c : Addr} {σ : L2.St} {H : Hp} {Γ : Gm} {D : Ends} {u : TS} (G : Gs ⟨B, CostM L B c (allD L) 100, fun H H' s h => CostM.mono H H' s h⟩ Γ σ H)
    (k : ∀ r H', H r = none → Same H H' → Gs ⟨r :: B, fun H => ∃ ps : List Addr, ps.length = 0 + 1 ∧ RowsM L (r :: B) c r ps H, fun H H' s ⟨ps, e, x⟩ => ⟨ps, e, x.mono _ _ s⟩⟩ (Γ.set 5 (some (atD r))) (σ.set 5 (some (.ref r))) H' → u D (σ.set 5 (some (.ref r))) H') :
    tSeq (tAsg (tLst (tCons tFirst tNil)) (gName 5)) u D σ H := by
  intro p hp
  refine ⟨by show 0 ≤ sizeLine; decide, fun a ha => ⟨by show 2 ≤ sizeLine; decide, fun b hb => ?_⟩⟩
  have s1 : Same H (upd H p (.dK [])) := same_upd hp
  have s2 : Same (upd H p (.dK [])) (upd (upd H p (.dK [])) a (.tup [])) := same_upd ha
  have s3 : Same (upd (upd H p (.dK [])) a (.tup [])) (upd (upd (upd H p (.dK [])) a (.tup [])) b (.tup [.int 0, .ref a])) := same_upd hb
  have ep := s3 _ _ (s2 _ _ (upd_same (H := H) (a := p) (o := .dK [])))
  have ea := s3 _ _ (upd_same (H := upd H p (.dK [])) (a := a) (o := .tup []))
  have hb' := upd_same (H := upd (upd H p (.dK [])) a (.tup [])) (a := b) (o := .tup [.int 0, .ref a])
  generalize upd (upd (upd H p (.dK [])) a (.tup [])) b (.tup [.int 0, .ref a]) = H3 at ep ea hb' s3 ⊢
  have S : Same H H3 := (s1.trans s2).trans s3
  have hap : a ≠ p := fun e => by rw [e, upd_same] at ha; cases ha
  have hbp : b ≠ p := fun e => by rw [e, s2 _ _ upd_same] at hb; cases hb
  have haH : H a = none := s1.free ha
  have hbH : H b = none := (s1.trans s2).free hb
  refine ⟨ep, [(.inl 0, .ref b)], rfl, (by show 1 ≤ 15; decide), ?_⟩
  have s4 : Same H (upd H3 p (.dK (mergeK [] [(.inl 0, .ref b)]))) := same_mut S hp
  refine ⟨by show 1 ≤ sizeLine; decide, fun r hr => ?_⟩
  have hpr : p ≠ r := fun e => by rw [← e, upd_same] at hr; cases hr
  have har : a ≠ r := fun e => by rw [← e, upd_ne hap, ea] at hr; cases hr
  have hbr : b ≠ r := fun e => by rw [← e, upd_ne hbp, hb'] at hr; cases hr
  have hrH : H r = none := s4.free hr
  have s5 : Same H (upd (upd H3 p (.dK (mergeK [] [(.inl 0, .ref b)]))) r (.lst [.ref p])) := s4.trans (same_upd hr)
  have G4 : Gs _ Γ σ (upd H3 p (.dK (mergeK [] [(.inl 0, .ref b)]))) := G.mono s4
  refine k r _ hrH s5 ((G4.newp hr 5).withM ⟨[p], rfl, ⟨?_, upd_same, fun i q hq => ?_⟩⟩)
  · exact G4.m.tr (same_upd hr c) fun v d x => (DA.add hr _ _ x).same (same_upd hr)
  · have hi : i = 0 := by
      have := (List.getElem?_eq_some_iff.mp hq).1
      have : i < 1 := this
      omega
    subst hi
    have : p = q := by simpa using hq
    subst this
    refine ⟨[(.inl 0, .ref b)], by rw [upd_ne hpr, upd_same]; rfl, rfl, fun i hi => ?_⟩
    have hi' : i < 1 := hi
    have e0 : i = 0 := by omega
    subst e0
    have nB : ∀ x, H x = none → x ≠ r → x ∉ r :: B := fun x hx hxr hm => (List.mem_cons.mp hm).elim hxr fun z => G.b x z hx
    refine ⟨.ref b, valV_pos rfl, .tup (nB b hbH hbr) (by rw [upd_ne hbr, upd_ne hbp]; exact hb') (.cons (.int _) (.cons (.tup (nB a haH har) (by rw [upd_ne har, upd_ne hap]; exact ea) .nil) .nil))⟩
theorem sc_rows : FnScope ["line", "size", "costs", "low", "high", "rows", "count", "row", "some", "before", "cost", "house"] ["line"] (defScope (topS 21)) := ⟨rfl, rfl, rfl, by decide +kernel, rfl, by decide +kernel, by decide +kernel⟩
theorem best_run {K : PySem.W.Frag} {L : Line} {B : List Addr} {H : Hp} {vs : List V} {Q : VK} (hB : ∀ p ∈ B, H p ≠ none) (hds : DAs B H vs [lineD L]) (V : Valid L) (q : ∀ r H', Same H H' → BestO L B r H' → Q (.ref r) H') :
    tBest K { nx := fun _ H' => Q .non H', rt := Q } (L2.start ["line", "size", "costs", "low", "high", "rows", "count", "row", "some", "before", "cost", "house"] vs) H := by
  have G0 := start_gs (N := ["line", "size", "costs", "low", "high", "rows", "count", "row", "some", "before", "cost", "house"]) (Γ := [some (lineD L), none, none, none, none, none, none, none, none, none, none, none]) hB hds rfl
  refine q_bg (bg_set (d := .int (L.length : Int)) (eg_is (eg_lenT (eg_var rfl)) (by rw [lineD_len]))) G0 fun σ1 H1 s1 G1 => ?_
  intro c hc
  have G2 := (G1.newp (o := .dT []) hc 2).withM (M := CostM L (c :: B) c (fun _ _ => False) 0) (h := fun H H' s h => CostM.mono H H' s h) ⟨[], upd_same, Nat.le_refl _, fun _ _ h => h.elim⟩
  have hAB : ∀ a ∈ [c], a ∈ c :: B := fun a ha => by rw [List.mem_singleton.mp ha]; exact List.mem_cons_self
  refine costs_all (A := [c]) V List.mem_cons_self List.mem_cons_self hAB _ _ G2 _ fun σ3 H3 s3 G3 => ?_
  have S3 : Same H H3 := fun a o ha => s3 a o (fun z => by rw [List.mem_singleton.mp z, s1.free hc] at ha; cases ha) (same_upd hc a o (s1 a o ha))
  refine first_row (A := [c]) G3 fun r H4 hr s4 G4 => ?_
  have hAB2 : ∀ a ∈ [r, c], a ∈ r :: c :: B := fun a ha => by
    rcases List.mem_cons.mp ha with e | e
    · rw [e]
      exact List.mem_cons_self
    · rw [List.mem_singleton.mp e]
      exact List.mem_cons_of_mem _ List.mem_cons_self
  refine rows_all (A := [r, c]) (h' := fun H H' s ⟨ps, e, x⟩ => ⟨ps, e, x.mono _ _ s⟩) V hAB2 List.mem_cons_self List.mem_cons_self _ _ G4 _ fun σ5 H5 s5 G5 => ?_
  have S5 : Same H H5 := fun a o ha => s5 a o (fun z => by
    rcases List.mem_cons.mp z with e | e
    · rw [e, S3.free hr] at ha
      cases ha
    · rw [List.mem_singleton.mp e, s1.free hc] at ha
      cases ha) (s4 a o (S3 a o ha))
  refine q_ret (eg_var (d := atD r) rfl) G5 fun v H6 s6 d6 => ?_
  rw [d6.ptrInv]
  obtain ⟨ps, e, x⟩ := (G5.mono s6).m
  refine q r H6 (S5.trans s6) (best_of V e (x.tr (fun _ z => z) (fun _ z => z) (fun _ _ _ z => z) fun v d z => DA.weak (fun a ha => List.mem_cons_of_mem _ (List.mem_cons_of_mem _ ha)) _ _ z))
theorem best_ok (T : Txt mg) (D : Df K mg "best_rows" (topS 21)) (Gc : Cal P w K mg base 2 "part_cost" ["line", "low", "high"] (SpR RPC)) : Cal P w K mg base 3 "best_rows" ["line"] SpBest := by
  refine mk_cal D (fun _ _ _ _ _ _ us hl => match us, hl with | [_], _ => rfl) fun f fd F => F.ok sc_rows (fun vs H Q E h => ?_) (fun cdv A outer s H vs Q E hr h => ?_)
  · obtain ⟨B, L, hB, hds, _⟩ := h
    rw [hds.length]
    rfl
  obtain ⟨B, L, hB, hds, V, q⟩ := h
  refine ⟨tBest K, pss_cons (ps_set (i := 1) sc_rows.nd rfl (.inl rfl) (pe_callB call_len_seq (by rfl) T.len boot_len (pa_cons (pv 0) pa_nil)))
    (pss_cons (ps_set (i := 2) sc_rows.nd rfl (.inl rfl) pe_dnewT)
    (pss_cons (ps_for PassesOwn.never rfl (pi_range1 (by rfl) T.range (pa_cons (pv 1) pa_nil)) (pg_name (i := 3) sc_rows.nd rfl (.inl rfl))
      (pss_one (ps_for PassesOwn.never rfl (pi_range2 (by rfl) T.range (pa_cons (pe_op op_add (pv 3) pe_int) (pa_cons (pe_op op_add (pv 1) pe_int) pa_nil))) (pg_name (i := 4) sc_rows.nd rfl (.inl rfl))
        (pss_one (ps_dput (Nat.lt_of_le_of_lt (Nat.add_le_add_left (by decide) _) hr.units) (pv 2) (pe_tup (pa_cons (pv 3) (pa_cons (pv 4) pa_nil))) (pe_cal Gc hr (by rfl) (pa_cons (pv 0) (pa_cons (pv 3) (pa_cons (pv 4) pa_nil)))) (by rfl))))))
    (pss_cons (ps_set (i := 5) sc_rows.nd rfl (.inl rfl) (pe_lst (pa_cons (pe_disp (pps_cons pe_int (pe_tup (pa_cons pe_int (pa_cons (pe_tup pa_nil) pa_nil))) pps_nil) rfl rfl (by decide) (by decide)) pa_nil)))
    (pss_cons (ps_for PassesOwn.never rfl (pi_range2 (by rfl) T.range (pa_cons pe_int (pa_cons (pe_op op_add (pv 1) pe_int) pa_nil))) (pg_name (i := 6) sc_rows.nd rfl (.inl rfl))
      (pss_cons (ps_set (i := 7) sc_rows.nd rfl (.inl rfl) pe_dnewK)
      (pss_cons (ps_for PassesOwn.never rfl (pi_range2 (by rfl) T.range (pa_cons (pv 6) (pa_cons (pe_op op_add (pv 1) pe_int) pa_nil))) (pg_name (i := 4) sc_rows.nd rfl (.inl rfl))
        (pss_cons (ps_set (i := 8) sc_rows.nd rfl (.inl rfl) (pe_lst pa_nil))
        (pss_cons (ps_for PassesOwn.never rfl (pi_list (pe_callB (cr_sortedKV rfl) (by rfl) T.sorted PyProof.Rows.boot_sorted (pa_cons (pe_bm0 PySem.F.plainAttrs_dict PySem.F.slot_dict_keys PySem.F.type_dict_keys mt_keys (pe_ix ix_list (pv 5) (pe_un un_neg pe_int) (fun _ _ => rfl))) pa_nil))) (pg_name (i := 3) sc_rows.nd rfl (.inl rfl))
          (pss_one (ps_if (pt_cmpR op_lt (pv 3) (pv 4) (nomark _))
            (pss_cons (ps_asg (pe_tup (pa_cons (pe_dget (Nat.lt_of_le_of_lt (Nat.add_le_add_left (by decide) _) hr.units) (pe_ix ix_list (pv 5) (pe_un un_neg pe_int) (fun _ _ => rfl)) (pv 3) (fun _ _ => rfl)) (pa_cons (pe_dget (Nat.lt_of_le_of_lt (Nat.add_le_add_left (by decide) _) hr.units) (pv 2) (pe_tup (pa_cons (pv 3) (pa_cons (pv 4) pa_nil))) (fun _ _ => rfl)) pa_nil)))
                (pg_tup rfl (pgs_cons (pg_name (i := 9) sc_rows.nd rfl (.inl rfl)) (pgs_cons (pg_tup rfl (pgs_cons (pg_name (i := 10) sc_rows.nd rfl (.inl rfl)) (pgs_cons (pg_name (i := 11) sc_rows.nd rfl (.inl rfl)) pgs_nil))) pgs_nil))))
            (pss_one (ps_expr (pe_bm PySem.F.plainAttrs_list PySem.F.slot_list_append PySem.F.type_list_append mt_app (pv 8) (pa_cons (pe_tup (pa_cons (pe_op op_add (pe_ix ix_tup (pv 9) pe_int (fun _ _ => rfl)) (pv 10)) (pa_cons (pe_op op_catA (pe_ix ix_tup (pv 9) pe_int (fun _ _ => rfl)) (pe_tup (pa_cons (pv 11) pa_nil))) pa_nil))) pa_nil)))))
            pss_nil)))
        (pss_one (ps_dput (Nat.lt_of_le_of_lt (Nat.add_le_add_left (by decide) _) hr.units) (pv 7) (pv 4) (pe_callB (cr_minD rfl hr.units) (by rfl) T.min PyProof.Rows.boot_min (pa_cons (pv 8) pa_nil)) (by rfl))))))
      (pss_one (ps_expr (pe_bm PySem.F.plainAttrs_list PySem.F.slot_list_append PySem.F.type_list_append mt_app (pv 5) (pa_cons (pv 7) pa_nil)))))))
    (pss_one (ps_ret (pv 5))))))), ?_⟩
  exact best_run hB hds V q
/-! ### line_houses -/
def RHouses (ds : List PyData) (d : PyData) : Prop := ∃ L : Line, ds = [lineD L, .int 1] ∧ Valid L ∧ d = rowD ((pcost L 0 L.length).1, [(pcost L 0 L.length).2])
theorem sc_houses : FnScope ["line", "count"] ["line", "count"] (defScope (topS 22)) := ⟨rfl, rfl, rfl, by decide +kernel, rfl, by decide +kernel, by decide +kernel⟩
theorem houses_ok (T : Txt mg) (D : Df K mg "line_houses" (topS 22)) (Gl : Cal P w K mg base 3 "need_line" ["line"] (SpR RLine)) (Gn : Cal P w K mg base 2 "need_number" ["points", "count"] (SpR RNum)) (Gb : Cal P w K mg base 3 "best_rows" ["line"] SpBest) :
    Cal P w K mg base 4 "line_houses" ["line", "count"] (SpR RHouses) := by
  refine mk_cal D (fun _ _ _ _ _ _ us hl => match us, hl with | [_, _], _ => rfl) fun f fd F => ok_rel F sc_houses (fun ds d ⟨_, e, _⟩ => by rw [e]; rfl) fun cdv A outer s H E hr ds d hR => ?_
  obtain ⟨L, rfl, V, rfl⟩ := hR
  have hr2 : Room 2 _ := hr.mono (by decide)
  refine ⟨_, pss_cons (ps_expr (pe_cal Gl hr (by rfl) (pa_cons (pv 0) pa_nil)))
    (pss_cons (ps_expr (pe_cal Gn hr2 (by rfl) (pa_cons (pv 0) (pa_cons (pv 1) pa_nil))))
    (pss_one (ps_ret (pe_dget (Nat.lt_of_le_of_lt (Nat.add_le_add_left (by decide) _) hr.units) (pe_ix ix_list (pe_cal Gb hr (by rfl) (pa_cons (pv 0) pa_nil)) (pv 1) (fun _ _ => rfl)) (pe_callB call_len_seq (by rfl) T.len boot_len (pa_cons (pv 0) pa_nil)) (fun _ _ => rfl))))),
    fun B => ⟨[some (lineD L), some (.int 1)], [], rfl, .inl ?_⟩⟩
  have hone := V.one
  refine bg_seq (bg_drop (eg_call (ea_1 (eg_var rfl)) ⟨L, rfl, V, rfl⟩)) (bg_seq (bg_drop (eg_call (ea_2 (eg_var rfl) (eg_var rfl)) ⟨L, 1, rfl, by omega, by omega, rfl⟩)) (bg_ret ?_))
  intro σ H G Q k
  unfold tDGet tOp tCall
  refine ea_1 (eg_var (n := 0) (d := lineD L) rfl) σ H G _ fun vs H1 s1 d1 => ?_
  refine ⟨B, L, Bs.mono s1 G.b, by rw [List.append_nil]; exact d1, V, fun r H2 s2 o2 => ?_⟩
  have G2 := G.mono (s1.trans s2)
  refine eg_var (n := 1) (d := .int 1) rfl σ H2 G2 _ fun y H3 s3 d3 => ?_
  obtain ⟨qs, q, kvs, v, e1, e2, e3, e4, e5⟩ := o2
  refine ⟨r, _, 1, .ref q, rfl, d3.intInv, SqL.of (s3 _ _ e1), atI_nat (j := 1) (by rw [List.getElem?_map, e2]; rfl), ?_⟩
  refine eg_is (eg_lenT (eg_var (n := 0) (d := lineD L) rfl)) (by rw [lineD_len]) σ H3 (G2.mono s3) _ fun x H4 s4 d4 => ?_
  rw [d4.intInv]
  have g := DGet.k (k := .inl (L.length : Int)) (s4 _ _ (s3 _ _ e3))
  rw [e4] at g
  exact ⟨q, v, rfl, g, k v H4 ((((s1.trans s2).trans s3)).trans s4) (e5.same (s3.trans s4))⟩
end
end K58
namespace K58
open PySem PySem.Spec PyProof.Rows L2
/-! ### a statement that hands back -/
def BV (A : List Addr) (C : Cn) (t : TS) (Γ : Gm) (R : V → Hp → Prop) : Prop := ∀ σ H, Gs C Γ σ H → ∀ D : Ends, (∀ v H', SmB A H H' → R v H' → D.rt v H') → t D σ H
section
variable {A : List Addr} {C C' : Cn} {Γ Γ' Γ1 : Gm} {t u u' : TS} {R : V → Hp → Prop} {te : TE} {tt : TT} {d : PyData}
theorem bv_seq (h : BQ A C C' t Γ Γ1) (h2 : BV A C' u Γ1 R) : BV A C (tSeq t u) Γ R := fun σ H G D q => h σ H G { D with nx := u D } fun σ1 H1 s1 G1 => h2 σ1 H1 G1 D fun v H2 s2 r2 => q v H2 (s1.trans s2) r2
theorem bv_seqR (h : BV A C t Γ R) : BV A C (tSeq t u) Γ R := fun σ H G D q => h σ H G { D with nx := u D } fun v H2 s2 r2 => q v H2 s2 r2
theorem bv_ifT (h : ET C tt Γ true) (h1 : BV A C t Γ R) : BV A C (tIfS tt t u) Γ R := fun σ H G D q => h σ H G _ fun H1 s1 => h1 σ H1 (G.mono s1) D fun v H2 s2 r2 => q v H2 ((smB_of s1).trans s2) r2
theorem bv_ret (h : EG C te Γ d) (hR : ∀ v H, C.M H → DA C.B H v d → R v H) : BV A C (tRet te) Γ R := fun σ H G D q => h σ H G _ fun v H1 s1 d1 => q v H1 (smB_of s1) (hR v H1 (G.mono s1).m d1)
end
/-! ### the row that is drawn from -/
def ScrM (K : PySem.W.Frag) (a r : Addr) (ns : List Int) (H : Hp) : Prop := (a ≠ r ∧ SqL K H a (ns.map V.int)) ∨ ∀ H', SqL K H' a (ns.map V.int)
theorem ScrM.sq {K : PySem.W.Frag} {a r : Addr} {ns : List Int} {H : Hp} (h : ScrM K a r ns H) : SqL K H a (ns.map V.int) := h.elim (fun x => x.2) fun x => x H
theorem sq_keep {K : PySem.W.Frag} {a : Addr} {xs : List V} {H H' : Hp} (h : SqL K H a xs) (e : ∀ o, H a = some o → H' a = some o) : SqL K H' a xs := by
  rcases h with (h | ⟨o, h⟩) | h
  · exact .inl (.inl (e _ h))
  · exact .inl (.inr ⟨o, e _ h⟩)
  · exact .inr h
theorem ScrM.smp {K : PySem.W.Frag} {a r : Addr} {ns : List Int} {H H' : Hp} (h : ScrM K a r ns H) (s : SmP r H H') : ScrM K a r ns H' := h.elim (fun x => .inl ⟨x.1, sq_keep x.2 fun o => s a o x.1⟩) .inr
theorem ScrM.start {K : PySem.W.Frag} {a r : Addr} {ns : List Int} {H H' : Hp} (h : SqL K H a (ns.map V.int)) (hr : H r = none) (s : Same H H') : ScrM K a r ns H' := by
  rcases h with (h | ⟨o, h⟩) | h
  · exact .inl ⟨ne_of_none h hr, .inl (.inl (s _ _ h))⟩
  · exact .inl ⟨ne_of_none h hr, .inl (.inr ⟨o, s _ _ h⟩)⟩
  · exact .inr fun H' => .inr h
def RowS (K : PySem.W.Frag) (a : Addr) (ns : List Int) (r : Addr) (i s c : Int) (H : Hp) : Prop := H r = some (.lst [.ref a, .int i, .int s, .int c]) ∧ ScrM K a r ns H
theorem RowS.mono {K : PySem.W.Frag} {a r : Addr} {ns : List Int} {i s c : Int} (H H' : Hp) (e : Same H H') (h : RowS K a ns r i s c H) : RowS K a ns r i s c H' := ⟨e _ _ h.1, h.2.smp (smp_of e)⟩
def RowI (K : PySem.W.Frag) (a : Addr) (ns : List Int) (r : Addr) (H : Hp) : Prop := ∃ i s c : Int, 0 ≤ i ∧ 0 ≤ s ∧ s < 2147483647 ∧ RowS K a ns r i s c H
theorem RowI.mono {K : PySem.W.Frag} {a r : Addr} {ns : List Int} (H H' : Hp) (e : Same H H') (h : RowI K a ns r H) : RowI K a ns r H' := let ⟨i, s, c, h1, h2, h3, h4⟩ := h; ⟨i, s, c, h1, h2, h3, h4.mono _ _ e⟩
section
variable {K : PySem.W.Frag} {a r : Addr} {ns : List Int} {i s c : Int} {C : Cn} {B A : List Addr} {Γ : Gm} {te : TE}
abbrev tRow (K : PySem.W.Frag) (k : Int) : TE := tOp (rIxL K) (tVar 0) (tC (.int k))
abbrev tLenE (K : PySem.W.Frag) (te : TE) : TE := tCB (fun xs H Q => ∃ p ys, xs = [.ref p] ∧ (SqL K H p ys ∨ SqT K H p ys) ∧ Q (.int ys.length) H) (tCons te tNil)
abbrev tInt (te : TE) : TE := tCB (fun xs H Q => (∃ i, xs = [V.int i] ∧ Q (.int i) H) ∨ ∃ k, xs = [V.bl k] ∧ Q (.int (if k then 1 else 0)) H) (tCons te tNil)
abbrev tSet (k : Int) (te : TE) : TS := tAsg te (gSub (tVar 0) (tC (.int k)) rSetL)
theorem eg_rowI (hM : ∀ H, C.M H → RowS K a ns r i s c H) (h0 : Γ[0]? = some (some (atD r))) (k : Nat) {x : Int} (hk : ([.ref a, .int i, .int s, .int c] : List V)[k]? = some (.int x)) : EG C (tRow K (k : Int)) Γ (.int x) :=
  eg_op (eg_var h0) eg_int fun H hm _ v y dx dy Q q => by
    rw [dx.ptrInv, dy.intInv]
    exact ⟨r, _, _, .int x, rfl, rfl, SqL.of (hM H hm).1, atI_nat hk, q _ H (Same.refl H) (.int x)⟩
theorem eg_row0 (hM : ∀ H, C.M H → RowS K a ns r i s c H) (h0 : Γ[0]? = some (some (atD r))) : EG C (tRow K 0) Γ (atD a) :=
  eg_op (eg_var h0) eg_int fun H hm _ v y dx dy Q q => by
    rw [dx.ptrInv, dy.intInv]
    exact ⟨r, _, _, .ref a, rfl, rfl, SqL.of (hM H hm).1, atI_nat (j := 0) rfl, q _ H (Same.refl H) (.ptr a)⟩
theorem eg_lenS (hM : ∀ H, C.M H → RowS K a ns r i s c H) (h0 : Γ[0]? = some (some (atD r))) : EG C (tLenE K (tRow K 0)) Γ (.int (ns.length : Int)) := fun σ H G Q q =>
  ea_1 (eg_row0 hM h0) σ H G _ fun vs H1 s1 d1 => by
    obtain ⟨v, rfl, d2⟩ := d1.one
    rw [d2.ptrInv]
    refine ⟨a, _, rfl, .inl (hM H1 (G.mono s1).m).2.sq, q _ H1 s1 ?_⟩
    rw [List.length_map]
    exact .int _
theorem eg_cell (hM : ∀ H, C.M H → RowS K a ns r i s c H) (h0 : Γ[0]? = some (some (atD r))) {j : Nat} (hj : j < ns.length) (he : EG C te Γ (.int (j : Int))) : EG C (tOp (rIxL K) (tRow K 0) te) Γ (.int ns[j]) :=
  eg_op (eg_row0 hM h0) he fun H hm _ v y dx dy Q q => by
    rw [dx.ptrInv, dy.intInv]
    exact ⟨a, _, _, .int ns[j], rfl, rfl, (hM H hm).2.sq, atI_nat (by rw [List.getElem?_map, List.getElem?_eq_getElem hj]; rfl), q _ H (Same.refl H) (.int _)⟩
theorem row_set {i' s' c' x : Int} (hr : r ∈ B) (hrA : r ∈ A) (h0 : Γ[0]? = some (some (atD r))) (k : Nat) (hk : k < 4) (he : EG ⟨B, RowS K a ns r i s c, fun H H' s h => RowS.mono H H' s h⟩ te Γ (.int x)) (hs : ([.ref a, .int i, .int s, .int c] : List V).set k (.int x) = [.ref a, .int i', .int s', .int c']) :
    BQ A ⟨B, RowS K a ns r i s c, fun H H' s h => RowS.mono H H' s h⟩ ⟨B, RowS K a ns r i' s' c', fun H H' s h => RowS.mono H H' s h⟩ (tSet (k : Int) te) Γ Γ := fun σ H G D q => by
  refine he σ H G _ fun v H1 s1 d1 => ?_
  refine eg_var h0 σ H1 (G.mono s1) _ fun y H2 s2 d2 => ?_
  have G2 := G.mono (s1.trans s2)
  refine ⟨r, _, (k : Int), k, d2.ptrInv, rfl, G2.m.1, ?_, ?_⟩
  · show ixN 4 (k : Int) = some k
    unfold ixN
    rw [if_pos (by omega), if_pos (by omega)]
    simp
  · rw [d1.intInv, hs]
    exact q σ _ ((smB_of (s1.trans s2)).trans (SmB.upd hrA H2 _)) (G2.write hr ⟨upd_same, G2.m.2.smp (SmP.upd r H2 _)⟩)
end
/-- drawing: an int below, the row alone changes -/
def Drawn (K : PySem.W.Frag) (a : Addr) (ns : List Int) (r : Addr) (p : Int → Prop) (H : Hp) (Q : VK) : Prop := ∀ (x : Int) (H' : Hp), p x → SmP r H H' → RowI K a ns r H' → Q (.int x) H'
def SpTaken (K : PySem.W.Frag) : Sp := fun vs H Q _ => ∃ (a : Addr) (ns : List Int) (r : Addr) (m : Int), vs = [.ref r, .int m] ∧ 0 < m ∧ m ≤ 1000 ∧ RowI K a ns r H ∧ Drawn K a ns r (fun x => 0 ≤ x ∧ x < m) H Q
section
variable {P : Program} {w : World} {K : PySem.W.Frag} {mg : Str → Option Value} {base : Heap}
theorem sc_taken : FnScope ["_law_row", "_law_many", "_law_found", "_law_cell"] ["_law_row", "_law_many"] (defScope (topS 31)) := ⟨rfl, rfl, rfl, by decide +kernel, rfl, by decide +kernel, by decide +kernel⟩
abbrev tTaken (K : PySem.W.Frag) : TS :=
  tSeq (tIfS (tTest (tOp (rI0 fun i j => .bl (decide (j < i))) (tRow K 3) (tC (.int 0))))
    (tSeq (tAsg (tOp (rI (fun _ j => j ≠ 0) fun i j => .int (i.fmod j)) (tInt (tRow K 3)) (tVar 1)) (gName 2))
      (tSeq (tSet 3 (tOp (rI CDivN fun i j => .int (i.fdiv j)) (tRow K 3) (tVar 1))) (tRet (tVar 2)))) tNext)
  (tSeq (tSet 1 (tOp (rI0 fun i j => .int (i + j)) (tRow K 1) (tC (.int 1))))
  (tSeq (tIfS (tTest (tOp (rI0 fun i j => .bl (decide (j < i))) (tRow K 1) (tLenE K (tRow K 0))))
    (tSeq (tSet 2 (tOp (rI (fun _ j => j ≠ 0) fun i j => .int (i.fmod j)) (tInt (tOp (rI0 fun i j => .int (i + j)) (tOp (rI CMul fun i j => .int (i * j)) (tRow K 2) (tC (.int 48271))) (tC (.int 11)))) (tC (.int 2147483647))))
      (tRet (tOp (rI (fun _ j => j ≠ 0) fun i j => .int (i.fmod j)) (tInt (tOp (rI CDivN fun i j => .int (i.fdiv j)) (tRow K 2) (tC (.int 7)))) (tVar 1)))) tNext)
  (tSeq (tAsg (tOp (rIxL K) (tRow K 0) (tOp (rI0 fun i j => .int (i - j)) (tRow K 1) (tC (.int 1)))) (gName 3))
  (tSeq (tSet 2 (tOp (rI (fun _ j => j ≠ 0) fun i j => .int (i.fmod j)) (tInt (tOp (rI0 fun i j => .int (i + j)) (tOp (rI0 fun i j => .int (i + j)) (tOp (rI CMul fun i j => .int (i * j)) (tRow K 2) (tC (.int 48271))) (tVar 3)) (tC (.int 11)))) (tC (.int 2147483647))))
  (tSeq (tIfS (tTest (tOp (rI0 fun i j => .bl (decide (j ≤ i))) (tVar 3) (tOp (rI CPow fun i j => .int (i ^ j.toNat)) (tC (.int 10)) (tC (.int 18))))) (tSet 3 (tOp (rI CDivN fun i j => .int (i.fdiv j)) (tVar 3) (tVar 1))) tNext)
  (tRet (tOp (rI (fun _ j => j ≠ 0) fun i j => .int (i.fmod j)) (tInt (tVar 3)) (tVar 1))))))))
theorem fmod_in (x : Int) {m : Int} (h : 0 < m) : 0 ≤ x.fmod m ∧ x.fmod m < m := by
  rw [Int.fmod_eq_emod_of_nonneg _ (by omega)]
  exact ⟨Int.emod_nonneg _ (by omega), Int.emod_lt_of_pos _ h⟩
theorem taken_run {a r : Addr} {ns : List Int} {m i s c : Int} (hm : 0 < m) (hm2 : m ≤ 1000) (hi : 0 ≤ i) (hs : 0 ≤ s) (hs2 : s < 2147483647) :
    BV [r] ⟨[r], RowS K a ns r i s c, fun H H' s h => RowS.mono H H' s h⟩ (tTaken K) [some (atD r), some (.int m), none, none] (fun v H => ∃ x : Int, v = .int x ∧ (0 ≤ x ∧ x < m) ∧ RowI K a ns r H) := by
  have hdv : ∀ x : Int, CDivN x m := fun x => ⟨by omega, by omega⟩
  have hne : m ≠ 0 := by omega
  have hr : r ∈ [r] := List.mem_singleton.mpr rfl
  by_cases hc : 0 < c
  · refine bv_seqR (bv_ifT (et_is (et_test (eg_gt (eg_rowI (fun _ h => h) rfl 3 rfl) eg_int)) (decide_eq_true hc)) ?_)
    refine bv_seq (bq_of (bg_set (eg_mod (eg_int1 (eg_rowI (fun _ h => h) rfl 3 rfl)) (eg_var rfl) hne))) (bv_seq (row_set (i' := i) (s' := s) (c' := c.fdiv m) hr hr rfl 3 (by decide) (eg_fdiv (eg_rowI (fun _ h => h) rfl 3 rfl) (eg_var rfl) (hdv c)) rfl) (bv_ret (eg_var rfl) fun v H hM hd => ?_))
    exact ⟨_, hd.intInv, fmod_in c hm, i, s, _, hi, hs, hs2, hM⟩
  · refine bv_seq (bq_of (bg_ifF (et_is (et_test (eg_gt (eg_rowI (fun _ h => h) rfl 3 rfl) eg_int)) (decide_eq_false hc)) bg_nil)) ?_
    refine bv_seq (row_set (i' := i + 1) (s' := s) (c' := c) hr hr rfl 1 (by decide) (eg_add (eg_rowI (fun _ h => h) rfl 1 rfl) eg_int) rfl) ?_
    by_cases hl : (ns.length : Int) < i + 1
    · refine bv_seqR (bv_ifT (et_is (et_test (eg_gt (eg_rowI (fun _ h => h) rfl 1 rfl) (eg_lenS (fun _ h => h) rfl))) (decide_eq_true hl)) ?_)
      refine bv_seq (row_set (i' := i + 1) (s' := (s * 48271 + 11).fmod 2147483647) (c' := c) hr hr rfl 2 (by decide) (eg_mod (eg_int1 (eg_add (eg_mul (eg_rowI (fun _ h => h) rfl 2 rfl) eg_int (.inr ⟨by decide, by decide⟩)) eg_int)) eg_int (by decide)) rfl) ?_
      refine bv_ret (eg_mod (eg_int1 (eg_fdiv (eg_rowI (fun _ h => h) rfl 2 rfl) eg_int ⟨by decide, by decide⟩)) (eg_var rfl) hne) fun v H hM hd => ?_
      have q := fmod_in (s * 48271 + 11) (m := 2147483647) (by decide)
      exact ⟨_, hd.intInv, fmod_in _ hm, i + 1, _, c, by omega, q.1, q.2, hM⟩
    · refine bv_seq (bq_of (bg_ifF (et_is (et_test (eg_gt (eg_rowI (fun _ h => h) rfl 1 rfl) (eg_lenS (fun _ h => h) rfl))) (decide_eq_false hl)) bg_nil)) ?_
      have hj : i.toNat < ns.length := by omega
      refine bv_seq (bq_of (bg_set (eg_cell (fun _ h => h) rfl hj (eg_is (eg_sub (eg_rowI (fun _ h => h) rfl 1 rfl) eg_int) (by
        refine congrArg PyData.int ?_
        omega))))) ?_
      generalize ns[i.toNat] = cell
      refine bv_seq (row_set (i' := i + 1) (s' := (s * 48271 + cell + 11).fmod 2147483647) (c' := c) hr hr rfl 2 (by decide) (eg_mod (eg_int1 (eg_add (eg_add (eg_mul (eg_rowI (fun _ h => h) rfl 2 rfl) eg_int (.inr ⟨by decide, by decide⟩)) (eg_var rfl)) eg_int)) eg_int (by decide)) rfl) ?_
      have q := fmod_in (s * 48271 + cell + 11) (m := 2147483647) (by decide)
      generalize (s * 48271 + cell + 11).fmod 2147483647 = s1 at q ⊢
      refine bv_seq (C' := ⟨[r], RowI K a ns r, fun H H' s h => RowI.mono H H' s h⟩) (Γ1 := [some (atD r), some (.int m), none, some (.int cell)]) (bq_if (et_test (eg_ge (eg_var rfl) (eg_pow eg_int eg_int ⟨by decide, by decide, by decide⟩))) (fun _ => ?_) fun _ => ?_) ?_
      · exact bq_M (h := fun H H' s h => RowS.mono H H' s h) (row_set (i' := i + 1) (s' := s1) (c' := cell.fdiv m) hr hr rfl 3 (by decide) (eg_fdiv (eg_var rfl) (eg_var rfl) (hdv cell)) rfl) fun H h => ⟨i + 1, s1, _, by omega, q.1, q.2, h⟩
      · exact bq_M (h := fun H H' s h => RowS.mono H H' s h) (bq_of bg_nil) fun H h => ⟨i + 1, s1, _, by omega, q.1, q.2, h⟩
      · exact bv_ret (eg_mod (eg_int1 (eg_var rfl)) (eg_var rfl) hne) fun v H hM hd => ⟨_, hd.intInv, fmod_in _ hm, hM⟩
theorem smp_one {r : Addr} {H H' : Hp} (s : SmB [r] H H') : SmP r H H' := fun a o na h => s a o (fun z => na (List.mem_singleton.mp z)) h
theorem taken_ok (T : Txt mg) (D : Df K mg "_law_taken" (topS 31)) : Cal P w K mg base 1 "_law_taken" ["_law_row", "_law_many"] (SpTaken K) := by
  refine mk_cal D (fun _ _ _ _ _ _ us hl => match us, hl with | [_, _], _ => rfl) fun f fd F => F.ok sc_taken (fun vs H Q E h => ?_) (fun cdv A outer s H vs Q E hr h => ?_)
  · obtain ⟨_, _, _, _, rfl, _⟩ := h
    rfl
  obtain ⟨a, ns, r, m, rfl, h0, h1, ⟨i, s', c, hi, hs, hs2, hrow⟩, q⟩ := h
  refine ⟨tTaken K, pss_cons (ps_if (pt_cmpR op_gt (pe_ix ix_list (pv 0) pe_int (fun _ _ => rfl)) pe_int (nomark _))
      (pss_cons (ps_set (i := 2) sc_taken.nd rfl (.inl rfl) (pe_op op_modN (pe_callTy call_int1 (by rfl) T.int PyProof.Rows.boot_int (pa_cons (pe_ix ix_list (pv 0) pe_int (fun _ _ => rfl)) pa_nil)) (pv 1)))
      (pss_cons (ps_asg (pe_op op_fdivN (pe_ix ix_list (pv 0) pe_int (fun _ _ => rfl)) (pv 1)) (pg_sub (pv 0) pe_int set_list))
      (pss_one (ps_ret (pv 2))))) pss_nil)
    (pss_cons (ps_asg (pe_op op_add (pe_ix ix_list (pv 0) pe_int (fun _ _ => rfl)) pe_int) (pg_sub (pv 0) pe_int set_list))
    (pss_cons (ps_if (pt_cmpR op_gt (pe_ix ix_list (pv 0) pe_int (fun _ _ => rfl)) (pe_callB call_len_seq (by rfl) T.len boot_len (pa_cons (pe_ix ix_list (pv 0) pe_int (fun _ _ => rfl)) pa_nil)) (nomark _))
      (pss_cons (ps_asg (pe_op op_modN (pe_callTy call_int1 (by rfl) T.int PyProof.Rows.boot_int (pa_cons (pe_op op_add (pe_op op_mul (pe_ix ix_list (pv 0) pe_int (fun _ _ => rfl)) pe_int) pe_int) pa_nil)) pe_int) (pg_sub (pv 0) pe_int set_list))
      (pss_one (ps_ret (pe_op op_modN (pe_callTy call_int1 (by rfl) T.int PyProof.Rows.boot_int (pa_cons (pe_op op_fdivN (pe_ix ix_list (pv 0) pe_int (fun _ _ => rfl)) pe_int) pa_nil)) (pv 1))))) pss_nil)
    (pss_cons (ps_set (i := 3) sc_taken.nd rfl (.inl rfl) (pe_ix ix_list (pe_ix ix_list (pv 0) pe_int (fun _ _ => rfl)) (pe_op op_sub (pe_ix ix_list (pv 0) pe_int (fun _ _ => rfl)) pe_int) (fun _ _ => rfl)))
    (pss_cons (ps_asg (pe_op op_modN (pe_callTy call_int1 (by rfl) T.int PyProof.Rows.boot_int (pa_cons (pe_op op_add (pe_op op_add (pe_op op_mul (pe_ix ix_list (pv 0) pe_int (fun _ _ => rfl)) pe_int) (pv 3)) pe_int) pa_nil)) pe_int) (pg_sub (pv 0) pe_int set_list))
    (pss_cons (ps_if (pt_cmpR op_ge (pv 3) (pe_op op_pow pe_int pe_int) (nomark _)) (pss_one (ps_asg (pe_op op_fdivN (pv 3) (pv 1)) (pg_sub (pv 0) pe_int set_list))) pss_nil)
    (pss_one (ps_ret (pe_op op_modN (pe_callTy call_int1 (by rfl) T.int PyProof.Rows.boot_int (pa_cons (pv 3) pa_nil)) (pv 1))))))))), ?_⟩
  have hB : ∀ p ∈ [r], H p ≠ none := fun p hp z => by
    rw [List.mem_singleton.mp hp, hrow.1] at z
    cases z
  have G0 := (start_gs (N := ["_law_row", "_law_many", "_law_found", "_law_cell"]) (Γ := [some (atD r), some (.int m), none, none]) hB (.cons (.ptr r) (.cons (.int m) .nil)) rfl).withM (M := RowS K a ns r i s' c) (h := fun H H' s h => RowS.mono H H' s h) hrow
  refine taken_run h0 h1 hi hs hs2 _ _ G0 _ fun v H' s2 ⟨x, e, hx, hR⟩ => ?_
  rw [e]
  exact q x H' hx (smp_one s2) hR
end
end K58
namespace K58
open PySem PySem.Spec PyProof.Rows L2
theorem SmP.b {r : Addr} {B : List Addr} {H H' : Hp} (s : SmP r H H') (hB : ∀ p ∈ B, H p ≠ none) (h : H' r ≠ none) : ∀ p ∈ B, H' p ≠ none := fun p hp z => by
  by_cases e : p = r
  · rw [e] at z
    exact h z
  · cases q : H p with
    | none => exact hB p hp q
    | some o =>
      rw [s p o e q] at z
      cases z
theorem RowI.ne {K : PySem.W.Frag} {a r : Addr} {ns : List Int} {H : Hp} (h : RowI K a ns r H) : H r ≠ none := fun z => by
  obtain ⟨_, _, _, _, _, _, h1, _⟩ := h
  rw [z] at h1
  cases h1
/-- an expression that draws -/
def EN (r : Addr) (C : Cn) (te : TE) (Γ : Gm) (p : Int → Prop) : Prop := ∀ σ H, Gs C Γ σ H → ∀ Q : VK, (∀ x H', p x → SmP r H H' → Gs C Γ σ H' → Q (.int x) H') → te σ H Q
def SpPick (K : PySem.W.Frag) : Sp := fun vs H Q _ => ∃ (a : Addr) (ns : List Int) (r : Addr) (v : V) (xs : List Int), vs = [.ref r, v] ∧ DA [r] H v (.list (xs.map .int)) ∧ 0 < xs.length ∧ xs.length ≤ 1000 ∧ RowI K a ns r H ∧ Drawn K a ns r (fun x => x ∈ xs) H Q
section
variable {K : PySem.W.Frag} {a r : Addr} {ns : List Int} {B : List Addr} {M : Hp → Prop} {hM0 : ∀ H H', Same H H' → M H → M H'} {Γ : Gm} {ta : TA} {te tb : TE} {m i : Int} {p : Int → Prop}
theorem Gs.drawn {σ : L2.St} {H H' : Hp} (G : Gs ⟨B, M, hM0⟩ Γ σ H) (hr : r ∈ B) (s : SmP r H H') (R : RowI K a ns r H') (m : M H') : Gs ⟨B, M, hM0⟩ Γ σ H' :=
  ⟨m, s.b G.b R.ne, G.l, fun i d h => let ⟨v, h1, h2⟩ := G.g i d h; ⟨v, h1, DA.mono (fun b o na x => s b o (fun e => na (by rw [e]; exact hr)) x) _ _ h2⟩⟩
theorem en_taken (hr : r ∈ B) (hM : ∀ H, M H → RowI K a ns r H) (hst : ∀ H H', M H → SmP r H H' → RowI K a ns r H' → M H') (ha : EA ⟨B, M, hM0⟩ ta Γ [atD r, .int m]) (h0 : 0 < m) (h1 : m ≤ 1000) : EN r ⟨B, M, hM0⟩ (tCall (SpTaken K) [] E0 ta) Γ (fun x => 0 ≤ x ∧ x < m) := fun σ H G Q q =>
  ha σ H G _ fun vs H1 s1 d1 => by
    obtain ⟨v, w, rfl, d2, d3⟩ := d1.two
    have G1 := G.mono s1
    refine ⟨a, ns, r, m, by rw [d2.ptrInv, d3.intInv]; rfl, h0, h1, hM H1 G1.m, fun x H2 hx s2 R => q x H2 hx ((smp_of s1).trans s2) (G1.drawn hr s2 R (hst _ _ G1.m s2 R))⟩
theorem en_takenN (hr : r ∈ B) (hM : ∀ H, M H → RowI K a ns r H) (hst : ∀ H H', M H → SmP r H H' → RowI K a ns r H' → M H') (h0 : Γ[0]? = some (some (atD r))) (hb : EN r ⟨B, M, hM0⟩ tb Γ p) (hp : ∀ x, p x → 0 < x ∧ x ≤ 1000) : EN r ⟨B, M, hM0⟩ (tCall (SpTaken K) [] E0 (tCons (tVar 0) (tCons tb tNil))) Γ (fun x => ∃ m, p m ∧ 0 ≤ x ∧ x < m) := fun σ H G Q q => by
  unfold tCall tCons
  refine eg_var h0 σ H G _ fun v H1 s1 d1 => ?_
  refine hb σ H1 (G.mono s1) _ fun m H2 hm s2 G2 => ?_
  refine ⟨a, ns, r, m, by rw [d1.ptrInv]; rfl, (hp m hm).1, (hp m hm).2, hM H2 G2.m, fun x H3 hx s3 R => q x H3 ⟨m, hm, hx⟩ (((smp_of s1).trans s2).trans s3) (G2.drawn hr s3 R (hst _ _ G2.m s3 R))⟩
theorem en_pick {xs : List Int} (hr : r ∈ B) (hM : ∀ H, M H → RowI K a ns r H) (hst : ∀ H H', M H → SmP r H H' → RowI K a ns r H' → M H') (ha : EA ⟨B, M, hM0⟩ ta Γ [atD r, .list (xs.map .int)]) (h0 : 0 < xs.length) (h1 : xs.length ≤ 1000) : EN r ⟨B, M, hM0⟩ (tCall (SpPick K) [] E0 ta) Γ (fun x => x ∈ xs) := fun σ H G Q q =>
  ha σ H G _ fun vs H1 s1 d1 => by
    obtain ⟨v, w, rfl, d2, d3⟩ := d1.two
    have G1 := G.mono s1
    refine ⟨a, ns, r, w, xs, by rw [d2.ptrInv]; rfl, DA.weak (fun b hb => by rw [List.mem_singleton.mp hb]; exact hr) _ _ d3, h0, h1, hM H1 G1.m, fun x H2 hx s2 R => q x H2 hx ((smp_of s1).trans s2) (G1.drawn hr s2 R (hst _ _ G1.m s2 R))⟩
theorem en_add (ha : EG ⟨B, M, hM0⟩ te Γ (.int i)) (hb : EN r ⟨B, M, hM0⟩ tb Γ p) : EN r ⟨B, M, hM0⟩ (tOp (rI0 fun i j => .int (i + j)) te tb) Γ (fun x => ∃ y, p y ∧ x = i + y) := fun σ H G Q q =>
  ha σ H G _ fun v H1 s1 d1 => hb σ H1 (G.mono s1) _ fun y H2 hy s2 G2 => ⟨i, y, d1.intInv, rfl, q _ H2 ⟨y, hy, rfl⟩ ((smp_of s1).trans s2) G2⟩
end
section
variable {P : Program} {w : World} {K : PySem.W.Frag} {mg : Str → Option Value} {base : Heap}
/-! ### _law_pick -/
theorem sc_pick : FnScope ["_law_row", "_law_things"] ["_law_row", "_law_things"] (defScope (topS 32)) := ⟨rfl, rfl, rfl, by decide +kernel, rfl, by decide +kernel, by decide +kernel⟩
theorem pick_run {a r : Addr} {ns xs : List Int} {σ : L2.St} {H : Hp} {Q : VK} (h0 : 0 < xs.length) (h1 : xs.length ≤ 1000) (G : Gs ⟨[r], RowI K a ns r, fun H H' s h => RowI.mono H H' s h⟩ [some (atD r), some (.list (xs.map .int))] σ H) (q : Drawn K a ns r (fun x => x ∈ xs) H Q) :
    tOp (rIxL K) (tVar 1) (tCall (SpTaken K) [] E0 (tCons (tVar 0) (tCons (tLenE K (tVar 1)) tNil))) σ H Q := by
  unfold tOp
  refine eg_var (n := 1) (d := .list (xs.map .int)) rfl σ H G _ fun v H1 s1 d1 => ?_
  have G1 := G.mono s1
  refine en_taken (r := r) (a := a) (ns := ns) (m := (xs.length : Int)) List.mem_cons_self (fun _ h => h) (fun _ _ _ _ h => h) (ea_2 (eg_var rfl) (eg_is (eg_lenL (ds := xs.map .int) (eg_var rfl)) (by rw [List.length_map]))) (by omega) (by omega) σ H1 G1 _ fun x H2 hx s2 G2 => ?_
  obtain ⟨l, vs, rfl, nl, e1, e2⟩ := d1.lstInv
  have hl : l ≠ r := fun e => nl (by rw [e]; exact List.mem_cons_self)
  rw [e2.ints] at e1
  have hj : x.toNat < xs.length := by omega
  refine ⟨l, xs.map V.int, x, .int xs[x.toNat], rfl, rfl, SqL.of (s2 _ _ hl e1), ?_, q _ H2 (List.getElem_mem hj) ((smp_of s1).trans s2) G2.m⟩
  have z := atI_nat (j := x.toNat) (xs := xs.map V.int) (v := .int xs[x.toNat]) (by rw [List.getElem?_map]; simp [hj])
  rw [show ((x.toNat : Nat) : Int) = x by omega] at z
  exact z
theorem pick_ok (T : Txt mg) (D : Df K mg "_law_pick" (topS 32)) (Gt : Cal P w K mg base 1 "_law_taken" ["_law_row", "_law_many"] (SpTaken K)) : Cal P w K mg base 2 "_law_pick" ["_law_row", "_law_things"] (SpPick K) := by
  refine mk_cal D (fun _ _ _ _ _ _ us hl => match us, hl with | [_, _], _ => rfl) fun f fd F => F.ok sc_pick (fun vs H Q E h => ?_) (fun cdv A outer s H vs Q E hr h => ?_)
  · obtain ⟨_, _, _, _, _, rfl, _⟩ := h
    rfl
  obtain ⟨a, ns, r, v, xs, rfl, hv, h0, h1, hrow, q⟩ := h
  refine ⟨_, pss_one (ps_ret (pe_ix ix_list (pv 1) (pe_cal Gt hr (by rfl) (pa_cons (pv 0) (pa_cons (pe_callB call_len_seq (by rfl) T.len boot_len (pa_cons (pv 1) pa_nil)) pa_nil))) (fun _ _ => rfl))), ?_⟩
  have hB : ∀ p ∈ [r], H p ≠ none := fun p hp => by
    rw [List.mem_singleton.mp hp]
    exact hrow.ne
  have G0 := (start_gs (N := ["_law_row", "_law_things"]) (Γ := [some (atD r), some (.list (xs.map .int))]) hB (.cons (.ptr r) (.cons hv .nil)) rfl).withM (M := RowI K a ns r) (h := fun H H' s h => RowI.mono H H' s h) hrow
  exact pick_run h0 h1 G0 q
/-! ### _law_line -/
def SpLine (K : PySem.W.Frag) : Sp := fun vs H Q _ => ∃ (a : Addr) (ns : List Int) (r : Addr) (m : Int), vs = [.ref r, .int m] ∧ 0 < m ∧ m ≤ 8 ∧ RowI K a ns r H ∧
  ∀ (L : Line) (v : V) (H' : Hp), Valid L → SmP r H H' → RowI K a ns r H' → DA [r] H' v (lineD L) → Q v H'
theorem sc_line : FnScope ["_law_row", "_law_most", "_law_found", "_law_at", "_law_k"] ["_law_row", "_law_most"] (defScope (topS 33)) := ⟨rfl, rfl, rfl, by decide +kernel, rfl, by decide +kernel, by decide +kernel⟩
abbrev tTk (K : PySem.W.Frag) (te : TE) : TE := tCall (SpTaken K) [] E0 (tCons (tVar 0) (tCons te tNil))
abbrev tPk (K : PySem.W.Frag) (x y z : Int) : TE := tCall (SpPick K) [] E0 (tCons (tVar 0) (tCons (tLst (tCons (tC (.int x)) (tCons (tC (.int y)) (tCons (tC (.int z)) tNil)))) tNil))
abbrev tPt (K : PySem.W.Frag) : TS := tSeq (tApp K 2 (tTup (tCons (tVar 3) (tCons (tTk K (tPk K 2 6 101)) tNil)))) (tAsg (tOp (rI0 fun i j => .int (i + j)) (tOp (rI0 fun i j => .int (i + j)) (tVar 3) (tC (.int 1))) (tTk K (tPk K 1 5 60))) (gName 3))
abbrev tTuple (K : PySem.W.Frag) (te : TE) : TE := tCB (fun xs H Q => ∃ p ys, xs = [.ref p] ∧ ((SqL K H p ys ∧ ∀ l, H l = none → Q (.ref l) (upd H l (.tup ys))) ∨ (SqT K H p ys ∧ Q (.ref p) H))) (tCons te tNil)
abbrev tLine (K : PySem.W.Frag) : TS := tSeq (tPar 2 3 (tCons (tLst tNil) (tCons (tTk K (tC (.int 5))) tNil))) (tSeq (tFor (iRng1 (tCons (tOp (rI0 fun i j => .int (i + j)) (tC (.int 1)) (tTk K (tVar 1))) tNil)) (gName 4) (tPt K)) (tRet (tTuple K (tVar 2))))
/-- what stands after k points -/
structure LnI (k : Nat) (L : Line) (x : Int) : Prop where
  len : L.length = k
  lo : 0 ≤ x
  hi : x ≤ 4 + 60 * k
  bnd : ∀ q, q ∈ L → 0 ≤ q.1 ∧ q.1 < x ∧ 0 ≤ q.2 ∧ q.2 ≤ 100
  asc : L.Pairwise fun p q => p.1 < q.1
theorem LnI.next {k : Nat} {L : Line} {x y z : Int} (h : LnI k L x) (hy : 0 ≤ y ∧ y ≤ 100) (hz : 0 ≤ z ∧ z < 60) : LnI (k + 1) (L ++ [(x, y)]) (x + 1 + z) := by
  obtain ⟨h1, h2, h3, h4, h5⟩ := h
  refine ⟨by rw [List.length_append, h1]; rfl, by omega, by omega, fun q hq => ?_, ?_⟩
  · rcases List.mem_append.mp hq with e | e
    · have := h4 q e
      omega
    · rw [List.mem_singleton.mp e]
      show 0 ≤ x ∧ x < x + 1 + z ∧ 0 ≤ y ∧ y ≤ 100
      omega
  · rw [List.pairwise_append]
    refine ⟨h5, List.pairwise_singleton _ _, fun p hp q hq => ?_⟩
    rw [List.mem_singleton.mp hq]
    exact (h4 p hp).2.1
theorem LnI.valid {k : Nat} {L : Line} {x : Int} (h : LnI k L x) (h1 : 1 ≤ k) (h8 : k ≤ 8) : Valid L := by
  obtain ⟨e1, e2, e3, e4, e5⟩ := h
  refine ⟨by omega, by omega, fun q hq => ?_, e5⟩
  have := e4 q hq
  omega
/-- the list of points found -/
def LnM (K : PySem.W.Frag) (a : Addr) (ns : List Int) (r f : Addr) (B : List Addr) (L : Line) (H : Hp) : Prop := f ≠ r ∧ (∃ ws, H f = some (.lst ws) ∧ DAs B H ws (L.map ratD)) ∧ ScrM K a f ns H ∧ RowI K a ns r H
theorem LnM.mono {K : PySem.W.Frag} {a r f : Addr} {ns : List Int} {B : List Addr} {L : Line} (H H' : Hp) (s : Same H H') (h : LnM K a ns r f B L H) : LnM K a ns r f B L H' := let ⟨h1, ⟨ws, h2, h3⟩, h5, h4⟩ := h; ⟨h1, ⟨ws, s _ _ h2, h3.same s⟩, h5.smp (smp_of s), h4.mono _ _ s⟩
theorem LnM.step {K : PySem.W.Frag} {a r f : Addr} {ns : List Int} {B : List Addr} {L : Line} (hr : r ∈ B) (H H' : Hp) (h : LnM K a ns r f B L H) (s : SmP r H H') (R : RowI K a ns r H') : LnM K a ns r f B L H' :=
  let ⟨h1, ⟨ws, h2, h3⟩, h5, _⟩ := h
  ⟨h1, ⟨ws, s _ _ h1 h2, DAs.mono (fun b o na x => s b o (fun e => na (by rw [e]; exact hr)) x) _ _ h3⟩, h5.elim (fun z => let ⟨_, _, _, _, _, _, _, y⟩ := R; .inl ⟨z.1, y.sq⟩) .inr, R⟩
/-- one point -/
theorem point_run {a r f : Addr} {ns : List Int} {B : List Addr} {L : Line} {x m : Int} {k : Nat} {kd : Option PyData} {σ : L2.St} {H : Hp} {D : Ends} (hr : r ∈ B) (hf : f ∈ B) (hk : k < 8) (I : LnI k L x)
    (G : Gs ⟨B, LnM K a ns r f B L, fun H H' s h => LnM.mono H H' s h⟩ [some (atD r), some (.int m), some (atD f), some (.int x), kd] σ H)
    (q : ∀ L' x' σ' H', LnI (k + 1) L' x' → SmB [f, r] H H' → Gs ⟨B, LnM K a ns r f B L', fun H H' s h => LnM.mono H H' s h⟩ [some (atD r), some (.int m), some (atD f), some (.int x'), none] σ' H' → D.nx σ' H') : tPt K D σ H := by
  have hM : ∀ H, LnM K a ns r f B L H → RowI K a ns r H := fun _ h => h.2.2.2
  have hst : ∀ H H', LnM K a ns r f B L H → SmP r H H' → RowI K a ns r H' → LnM K a ns r f B L H' := fun H H' => LnM.step hr H H'
  have smr : ∀ {H H' : Hp}, SmP r H H' → SmB [f, r] H H' := fun s b o na h => s b o (fun e => na (by rw [e]; exact List.mem_cons_of_mem _ List.mem_cons_self)) h
  show tVar 2 σ H fun v H1 => tyV K "list" v H1 ∧ tVar 3 σ H1 fun y1 H2 => tTk K (tPk K 2 6 101) σ H2 fun y2 H3 => [y1, y2].length ≤ sizeLine ∧ ∀ p, H3 p = none → rAppend v [.ref p] (upd H3 p (.tup [y1, y2])) fun _ H4 =>
    tAsg (tOp (rI0 fun i j => .int (i + j)) (tOp (rI0 fun i j => .int (i + j)) (tVar 3) (tC (.int 1))) (tTk K (tPk K 1 5 60))) (gName 3) D σ H4
  refine eg_var (n := 2) rfl σ H G _ fun v H1 s1 d1 => ?_
  have G1 := G.mono s1
  rw [d1.ptrInv]
  refine ⟨.inl ⟨rfl, let ⟨_, ⟨ws, h, _⟩, _⟩ := G1.m; ⟨ws, SqL.of h⟩⟩, ?_⟩
  refine eg_var (n := 3) rfl σ H1 G1 _ fun y1 H2 s2 d2 => ?_
  have G2 := G1.mono s2
  rw [d2.intInv]
  refine en_takenN hr hM hst rfl (en_pick (xs := [2, 6, 101]) hr hM hst (ea_2 (eg_var rfl) (eg_lst (ea_cons eg_int (ea_2 eg_int eg_int)) (by show 3 ≤ 1000; decide))) (by decide) (by decide)) (fun y hy => by
    rcases List.mem_cons.mp hy with e | hy
    · omega
    · rcases List.mem_cons.mp hy with e | hy
      · omega
      · have := List.mem_singleton.mp hy
        omega) σ H2 G2 _ fun y H3 hy s3 G3 => ?_
  have hy2 : 0 ≤ y ∧ y ≤ 100 := by
    obtain ⟨mm, hm, h1, h2⟩ := hy
    have : mm ≤ 101 := by
      rcases List.mem_cons.mp hm with e | hm
      · omega
      · rcases List.mem_cons.mp hm with e | hm
        · omega
        · have := List.mem_singleton.mp hm
          omega
    omega
  refine ⟨by show 2 ≤ sizeLine; decide, fun p hp => ?_⟩
  have G4 := G3.mono (same_upd (o := .tup [.int x, .int y]) hp)
  obtain ⟨hfr, ⟨ws, e1, e2⟩, sc, R⟩ := G4.m
  have hl : ws.length = k := by rw [e2.length, List.length_map, I.len]
  refine ⟨f, ws, .ref p, rfl, rfl, e1, Nat.lt_of_le_of_lt (by omega : ws.length ≤ 8) (by decide), ?_⟩
  have dp : DA B (upd H3 p (.tup [.int x, .int y])) (.ref p) (ratD (x, y)) := DA.newTup G3.b hp (.cons (.int _) (.cons (.int _) .nil))
  have sm : SmP r (upd H3 p (.tup [.int x, .int y])) (upd H3 p (.tup [.int x, .int y])) := SmP.refl _ _
  have G5 : Gs ⟨B, LnM K a ns r f B (L ++ [(x, y)]), fun H H' s h => LnM.mono H H' s h⟩ [some (atD r), some (.int m), some (atD f), some (.int x), kd] σ (upd (upd H3 p (.tup [.int x, .int y])) f (.lst (ws ++ [.ref p]))) := by
    refine G4.write hf ⟨hfr, ⟨_, upd_same, ?_⟩, sc.smp (SmP.upd f _ _), ?_⟩
    · rw [List.map_append]
      exact (e2.append (.cons dp .nil)).upd hf
    · obtain ⟨i, s, c, h1, h2, h3, h4, h5⟩ := R
      refine ⟨i, s, c, h1, h2, h3, by rw [upd_ne (Ne.symm hfr)]; exact h4, ?_⟩
      rcases h5 with ⟨hne, h5⟩ | h5
      · rcases sc with ⟨eaf, _⟩ | sc
        · exact .inl ⟨hne, sq_keep h5 fun o ho => by rw [upd_ne eaf]; exact ho⟩
        · exact .inr sc
      · exact .inr h5
  have S5 : SmB [f, r] H (upd (upd H3 p (.tup [.int x, .int y])) f (.lst (ws ++ [.ref p]))) := ((smB_of (s1.trans s2)).trans (smr s3)).trans ((smB_of (same_upd hp)).trans (SmB.upd List.mem_cons_self _ _))
  have hM' : ∀ H, LnM K a ns r f B (L ++ [(x, y)]) H → RowI K a ns r H := fun _ h => h.2.2.2
  have hst' : ∀ H H', LnM K a ns r f B (L ++ [(x, y)]) H → SmP r H H' → RowI K a ns r H' → LnM K a ns r f B (L ++ [(x, y)]) H' := fun H H' => LnM.step hr H H'
  unfold tAsg
  refine en_add (eg_add (eg_var rfl) eg_int) (en_takenN hr hM' hst' rfl (en_pick (xs := [1, 5, 60]) hr hM' hst' (ea_2 (eg_var rfl) (eg_lst (ea_cons eg_int (ea_2 eg_int eg_int)) (by show 3 ≤ 1000; decide))) (by decide) (by decide)) (fun y hy => by
    rcases List.mem_cons.mp hy with e | hy
    · omega
    · rcases List.mem_cons.mp hy with e | hy
      · omega
      · have := List.mem_singleton.mp hy
        omega)) σ _ G5 _ fun z H6 hz s6 G6 => ?_
  obtain ⟨z1, ⟨mm, hm, hz1, hz2⟩, rfl⟩ := hz
  have hz3 : z1 < 60 := by
    have : mm ≤ 60 := by
      rcases List.mem_cons.mp hm with e | hm
      · omega
      · rcases List.mem_cons.mp hm with e | hm
        · omega
        · have := List.mem_singleton.mp hm
          omega
    omega
  exact q _ _ _ H6 (I.next hy2 ⟨hz1, hz3⟩) (S5.trans (smr s6)) ((G6.set (.int _) 3).less ⟨rfl, rfl, rfl, rfl, True.intro⟩)
end
end K58
namespace K58
open PySem PySem.Spec PyProof.Rows L2
section
variable {P : Program} {w : World} {K : PySem.W.Frag} {mg : Str → Option Value} {base : Heap}
theorem line_run {a r : Addr} {ns : List Int} {m : Int} {σ : L2.St} {H : Hp} {D : Ends} (h0 : 0 < m) (h1 : m ≤ 8) (G : Gs ⟨[r], RowI K a ns r, fun H H' s h => RowI.mono H H' s h⟩ [some (atD r), some (.int m), none, none, none] σ H)
    (q : ∀ (L : Line) (v : V) (H' : Hp), Valid L → SmP r H H' → RowI K a ns r H' → DA [r] H' v (lineD L) → D.rt v H') : tLine K D σ H := by
  show tLst tNil σ H fun v H1 => tTk K (tC (.int 5)) σ H1 fun w H2 => ∃ x y, [v, w] = [x, y] ∧ tSeq (tFor (iRng1 (tCons (tOp (rI0 fun i j => .int (i + j)) (tC (.int 1)) (tTk K (tVar 1))) tNil)) (gName 4) (tPt K)) (tRet (tTuple K (tVar 2))) D ((σ.set 2 (some x)).set 3 (some y)) H2
  refine ⟨by show 0 ≤ sizeLine; exact Nat.zero_le _, fun f hf => ?_⟩
  have hfr : f ≠ r := fun e => G.m.ne (by rw [← e]; exact hf)
  have s1 : Same H (upd H f (.lst [])) := same_upd hf
  have hsq : SqL K H a (ns.map V.int) := let ⟨_, _, _, _, _, _, _, y⟩ := G.m; y.sq
  have hr : r ∈ [f, r] := List.mem_cons_of_mem _ List.mem_cons_self
  have m1 : LnM K a ns r f [f, r] [] (upd H f (.lst [])) := ⟨hfr, ⟨[], upd_same, .nil⟩, ScrM.start hsq hf s1, G.m.mono _ _ s1⟩
  have G1 := (G.add (o := .lst []) hf).withM (h := fun H H' s h => LnM.mono H H' s h) m1
  refine en_taken (r := r) (a := a) (ns := ns) (m := 5) (B := [f, r]) (M := LnM K a ns r f [f, r] []) hr (fun _ h => h.2.2.2) (fun H H' => LnM.step hr H H') (ea_2 (eg_var rfl) eg_int) (by decide) (by decide) σ _ G1 _ fun x H2 hx s2 G2 => ?_
  refine ⟨_, _, rfl, ?_⟩
  have G3 := (G2.set (.ptr f) 2).set (.int x) 3
  generalize (σ.set 2 (some (V.ref f))).set 3 (some (V.int x)) = σ3 at G3 ⊢
  have smr : ∀ {H H' : Hp}, SmP r H H' → SmB [f, r] H H' := fun s b o na h => s b o (fun e => na (by rw [e]; exact hr)) h
  have I0 : LnI 0 [] x := ⟨rfl, hx.1, by have := hx.2; omega, (fun q hq => nomatch hq), .nil⟩
  have S2 : SmB [f, r] H H2 := (smB_of s1).trans (smr s2)
  show tOp (rI0 fun i j => .int (i + j)) (tC (.int 1)) (tTk K (tVar 1)) σ3 H2 _
  refine en_add (r := r) (i := 1) (B := [f, r]) (M := LnM K a ns r f [f, r] []) eg_int (en_taken (a := a) (ns := ns) (m := m) hr (fun _ h => h.2.2.2) (fun H H' => LnM.step hr H H') (ea_2 (eg_var rfl) (eg_var rfl)) h0 (by omega)) σ3 H2 G3 _ fun z H4 hz s4 G4 => ?_
  obtain ⟨y, ⟨hy1, hy2⟩, rfl⟩ := hz
  refine ⟨1 + y, rfl, by omega, by omega, ?_⟩
  have hn : 1 ≤ (1 + y).toNat ∧ (1 + y).toNat ≤ 8 := by omega
  generalize (1 + y).toNat = n at hn ⊢
  refine for_it (show Walk (Itr 0 n) n (fun _ => True) (YFn fun i => .int (0 + i)) from walk_range (lo := 0) (n := n)) (fun i σ' H' => SmB [f, r] H H' ∧ ∃ L x, LnI i L x ∧ Gs ⟨[f, r], LnM K a ns r f [f, r] L, fun H H' s h => LnM.mono H H' s h⟩ [some (atD r), some (.int m), some (atD f), some (.int x), none] σ' H') ⟨S2.trans (smr s4), [], x, I0, G4⟩ (fun _ _ _ _ _ => True.intro) (fun i v σ' H' H'' hi p yy => ?_) (fun σ' H' p => ?_)
  · obtain ⟨s5, L, x', I, G5⟩ := p
    obtain ⟨rfl, rfl⟩ := yy
    refine point_run (k := i) hr List.mem_cons_self (by omega) I (G5.set (.int (0 + (i : Int))) 4) fun L' x'' σ'' H6 I' s6 G6 => ⟨s5.trans s6, L', x'', I', G6⟩
  · obtain ⟨s5, L, x', I, G5⟩ := p
    show tVar 2 σ' H' _
    refine eg_var (n := 2) (d := atD f) rfl σ' H' G5 _ fun v H6 s6 d6 => ?_
    have G6 := G5.mono s6
    rw [d6.ptrInv]
    obtain ⟨_, ⟨ws, e1, e2⟩, sc, R⟩ := G6.m
    refine ⟨f, ws, rfl, .inl ⟨SqL.of e1, fun l hl => ?_⟩⟩
    have s7 : Same H6 (upd H6 l (.tup ws)) := same_upd hl
    refine q L _ _ (I.valid hn.1 hn.2) (fun b o nb ho => ?_) (R.mono _ _ s7) (DA.newTup (fun p hp => ?_) hl (DAs.weak (fun b hb => by rw [List.mem_singleton.mp hb]; exact hr) _ _ e2))
    · refine s7 _ _ (s6 _ _ (s5 b o (fun z => ?_) ho))
      rcases List.mem_cons.mp z with e | e
      · rw [e, hf] at ho
        cases ho
      · exact nb (List.mem_singleton.mp e)
    · rw [List.mem_singleton.mp hp]
      exact R.ne
theorem line_ok (T : Txt mg) (D : Df K mg "_law_line" (topS 33)) (Gt : Cal P w K mg base 1 "_law_taken" ["_law_row", "_law_many"] (SpTaken K)) (Gp : Cal P w K mg base 2 "_law_pick" ["_law_row", "_law_things"] (SpPick K)) : Cal P w K mg base 3 "_law_line" ["_law_row", "_law_most"] (SpLine K) := by
  refine mk_cal D (fun _ _ _ _ _ _ us hl => match us, hl with | [_, _], _ => rfl) fun f fd F => F.ok sc_line (fun vs H Q E h => ?_) (fun cdv A outer s H vs Q E hr h => ?_)
  · obtain ⟨_, _, _, _, rfl, _⟩ := h
    rfl
  obtain ⟨a, ns, r, m, rfl, h0, h1, hrow, q⟩ := h
  have hr1 : Room 1 _ := hr.mono (by decide)
  refine ⟨tLine K, pss_cons (ps_par (i := 2) (j := 3) (by rfl) sc_line.nd rfl rfl (by decide) rfl rfl (pa_cons (pe_lst pa_nil) (pa_cons (pe_cal Gt hr1 (by rfl) (pa_cons (pv 0) (pa_cons pe_int pa_nil))) pa_nil)) (by rfl))
    (pss_cons (ps_for PassesOwn.never rfl (pi_range1 (by rfl) T.range (pa_cons (pe_op op_add pe_int (pe_cal Gt hr1 (by rfl) (pa_cons (pv 0) (pa_cons (pv 1) pa_nil)))) pa_nil)) (pg_name (i := 4) sc_line.nd rfl (.inl rfl))
      (pss_cons (ps_expr (pe_bm PySem.F.plainAttrs_list PySem.F.slot_list_append PySem.F.type_list_append mt_app (pv 2) (pa_cons (pe_tup (pa_cons (pv 3) (pa_cons (pe_cal Gt hr1 (by rfl) (pa_cons (pv 0) (pa_cons (pe_cal Gp hr (by rfl) (pa_cons (pv 0) (pa_cons (pe_lst (pa_cons pe_int (pa_cons pe_int (pa_cons pe_int pa_nil)))) pa_nil))) pa_nil))) pa_nil))) pa_nil)))
      (pss_one (ps_set (i := 3) sc_line.nd rfl (.inl rfl) (pe_op op_add (pe_op op_add (pv 3) pe_int) (pe_cal Gt hr1 (by rfl) (pa_cons (pv 0) (pa_cons (pe_cal Gp hr (by rfl) (pa_cons (pv 0) (pa_cons (pe_lst (pa_cons pe_int (pa_cons pe_int (pa_cons pe_int pa_nil)))) pa_nil))) pa_nil))))))))
    (pss_one (ps_ret (pe_callTy call_tuple_of (by rfl) T.tuple PyProof.Rows.boot_tuple (pa_cons (pv 2) pa_nil))))), ?_⟩
  have hB : ∀ p ∈ [r], H p ≠ none := fun p hp => by
    rw [List.mem_singleton.mp hp]
    exact hrow.ne
  have G0 := (start_gs (N := ["_law_row", "_law_most", "_law_found", "_law_at", "_law_k"]) (Γ := [some (atD r), some (.int m), none, none, none]) hB (.cons (.ptr r) (.cons (.int m) .nil)) rfl).withM (M := RowI K a ns r) (h := fun H H' s h => RowI.mono H H' s h) hrow
  exact line_run h0 h1 G0 q
end
end K58
/-! The plain law: what the program reckons is what the law asks. -/
namespace K58
open PySem PySem.Spec PyProof.Rows L2
def costs (L : Line) : List Int := (List.range L.length).map fun k => cost L (pos L k)
instance (L : Line) (k : Nat) : Decidable (best L k) := by unfold best; infer_instance
def bestK (L : Line) : List Nat := (List.range L.length).filter fun k => decide (best L k)
def bests (L : Line) : List Int := (bestK L).map fun k : Nat => (k : Int)
/-- there is a least cost -/
theorem least_cost {L : Line} (V : Valid L) : ∃ m, m ∈ costs L ∧ (∀ y, y ∈ costs L → m ≤ y) ∧ ∀ k, k < L.length → (cost L (pos L k) = m ↔ best L k) := by
  have hone := V.one
  have key : ∀ n, 1 ≤ n → ∃ k, k < n ∧ ∀ j, j < n → cost L (pos L k) ≤ cost L (pos L j) := fun n hn => by
    induction n with
    | zero => omega
    | succ n ih =>
      by_cases h0 : n = 0
      · subst h0
        exact ⟨0, by omega, fun j hj => by rw [show j = 0 by omega]; exact Int.le_refl _⟩
      · obtain ⟨k, hk, h⟩ := ih (by omega)
        by_cases hc : cost L (pos L n) < cost L (pos L k)
        · refine ⟨n, by omega, fun j hj => ?_⟩
          by_cases e : j = n
          · rw [e]
            exact Int.le_refl _
          · have := h j (by omega)
            omega
        · refine ⟨k, by omega, fun j hj => ?_⟩
          by_cases e : j = n
          · rw [e]
            omega
          · exact h j (by omega)
  obtain ⟨k, hk, h⟩ := key L.length hone
  refine ⟨cost L (pos L k), ?_, fun y hy => ?_, fun j hj => ⟨fun e i hi => ?_, fun b => ?_⟩⟩
  · exact List.mem_map.mpr ⟨k, List.mem_range.mpr hk, rfl⟩
  · obtain ⟨j, hj, rfl⟩ := List.mem_map.mp hy
    exact h j (List.mem_range.mp hj)
  · rw [e]
    exact h i hi
  · exact Int.le_antisymm (b k hk) (h j hj)
theorem bests_given {L : Line} {m : Int} (h : ∀ k, k < L.length → (cost L (pos L k) = m ↔ best L k)) : given L.length (fun k => decide (cost L (pos L k) = m)) (fun k => .int (k : Int)) = (bests L).map PyData.int := by
  unfold given bests bestK
  rw [List.map_map]
  have e : (List.range L.length).filter (fun k => decide (cost L (pos L k) = m)) = (List.range L.length).filter (fun k => decide (best L k)) := List.filter_congr fun k hk => by
    rw [decide_eq_decide]
    exact h k (List.mem_range.mp hk)
  rw [e]
  rfl
theorem bestK_mem {L : Line} {k : Nat} : k ∈ bestK L ↔ k < L.length ∧ best L k := by
  unfold bestK
  rw [List.mem_filter, List.mem_range, decide_eq_true_eq]
theorem bestK_up (L : Line) : (bestK L).Pairwise (· < ·) := List.Pairwise.filter _ List.pairwise_lt_range
theorem bests_len (L : Line) : (bests L).length ≤ L.length := by
  unfold bests bestK
  rw [List.length_map]
  have h := List.length_filter_le (fun k => decide (best L k)) (List.range L.length)
  rw [List.length_range] at h
  exact h
/-- the first of the best points is where the least sum of one house stands -/
theorem best_first {L : Line} (V : Valid L) : ∃ k t, bestK L = k :: t ∧ (pcost L 0 L.length).2 = (k : Int) := by
  have hone := V.one
  obtain ⟨p, r, e⟩ := rowPairs_cons (L := L) (lo := 0) (hi := L.length) (by omega)
  have e2 : pcost L 0 L.length = lexmin p r := by
    unfold pcost
    rw [e]
  have hmem := lexmin_mem r p
  have hle := lexmin_le r p
  rw [← e, ← e2] at hmem
  rw [← e2] at hle
  have hall : ∀ j, j < L.length → lexlt (cost L (pos L j), (j : Int)) (pcost L 0 L.length) = false := fun j hj => by
    have hj2 : (cost L (pos L j), (j : Int)) ∈ rowPairs L 0 L.length := by
      unfold rowPairs
      refine List.mem_map.mpr ⟨j, List.mem_range.mpr (by omega), ?_⟩
      rw [rowCost_all, Nat.zero_add]
    rw [e] at hj2
    rcases List.mem_cons.mp hj2 with q | q
    · rw [q]
      exact hle.1
    · exact hle.2 _ q
  unfold rowPairs at hmem
  obtain ⟨k, hk, ek⟩ := List.mem_map.mp hmem
  have hk' : k < L.length := by
    have := List.mem_range.mp hk
    omega
  rw [rowCost_all, Nat.zero_add] at ek
  rw [← ek] at hall ⊢
  have hb : best L k := fun j hj => by
    have q := hall j hj
    unfold lexlt at q
    have q2 := of_decide_eq_false q
    simp only at q2
    omega
  have hlow : ∀ j, j < k → ¬ best L j := fun j hj b => by
    have q := hall j (by omega)
    unfold lexlt at q
    have q2 := of_decide_eq_false q
    simp only at q2
    have b1 := b k hk'
    have b2 := hb j (by omega)
    omega
  have hkm : k ∈ bestK L := bestK_mem.mpr ⟨hk', hb⟩
  cases eb : bestK L with
  | nil =>
    rw [eb] at hkm
    cases hkm
  | cons x t =>
    have hx : x ∈ bestK L := by
      rw [eb]
      exact List.mem_cons_self
    have hxb := (bestK_mem.mp hx).2
    have hup := bestK_up L
    rw [eb] at hup hkm
    have hxk : x = k := by
      rcases List.mem_cons.mp hkm with q | q
      · exact q.symm
      · have h1 := (List.pairwise_cons.mp hup).1 k q
        exact absurd hxb (hlow x h1)
    exact ⟨x, t, rfl, by rw [hxk]⟩
/-! ### the due pairs -/
theorem flat_filter {α β : Type} (p : α → Bool) (F : α → List β) : ∀ l : List α, (l.filter p).flatMap F = l.flatMap fun a => if p a = true then F a else []
  | [] => rfl
  | x :: l => by
    rw [List.filter_cons, List.flatMap_cons]
    cases h : p x with
    | true =>
      rw [if_pos rfl, if_pos rfl, List.flatMap_cons, flat_filter p F l]
    | false =>
      rw [if_neg Bool.false_ne_true, if_neg Bool.false_ne_true, List.nil_append, flat_filter p F l]
theorem flat_congr {α β : Type} {F G : α → List β} : ∀ {l : List α}, (∀ a, a ∈ l → F a = G a) → l.flatMap F = l.flatMap G
  | [], _ => rfl
  | x :: l, h => by rw [List.flatMap_cons, List.flatMap_cons, h x List.mem_cons_self, flat_congr fun a ha => h a (List.mem_cons_of_mem _ ha)]
def toI (q : Nat × Nat) : Int × Int := ((q.1 : Int), (q.2 : Int))
/-- the pairs of the law -/
def due (L : Line) : List (Int × Int) := (grid (bests L) (bests L)).filter fun p => decide (p.1 ≤ p.2)
theorem due_eq {L : Line} (V : Valid L) : due L = ((spotsOf L.length).filter fun q => restB L q.1 q.2).map toI := by
  have e1 : (spotsOf L.length).filter (fun q => restB L q.1 q.2) = (spotsOf L.length).filter fun q => decide (best L q.1) && decide (best L q.2) := List.filter_congr fun q hq => by
    have hm := spots_mem.mp hq
    have h1 : q.1 < L.length := Nat.lt_of_le_of_lt hm.1 hm.2
    rw [Bool.eq_iff_iff, restB_iff, Bool.and_eq_true, decide_eq_true_eq, decide_eq_true_eq]
    exact rest_iff V h1 hm.2
  rw [e1]
  unfold due grid spotsOf bests
  rw [List.flatMap_map, List.filter_flatMap, List.filter_flatMap, List.map_flatMap]
  unfold bestK
  rw [flat_filter]
  refine flat_congr fun a ha => ?_
  rw [List.map_map, List.filter_map, List.filter_map, List.map_map]
  cases hb : decide (best L a) with
  | true =>
    rw [if_pos rfl]
    have e3 : ((List.range L.length).filter fun k => decide (best L k)).filter ((fun p : Int × Int => decide (p.1 ≤ p.2)) ∘ ((fun b : Int => ((a : Int), b)) ∘ fun k : Nat => (k : Int))) = ((List.range L.length).filter fun k => decide (a ≤ k)).filter ((fun q : Nat × Nat => decide (best L q.1) && decide (best L q.2)) ∘ fun k => (a, k)) := by
      rw [List.filter_filter, List.filter_filter]
      refine List.filter_congr fun k hk => ?_
      show (decide ((a : Int) ≤ (k : Int)) && decide (best L k)) = ((decide (best L a) && decide (best L k)) && decide (a ≤ k))
      rw [hb, Bool.true_and, Bool.and_comm]
      congr 1
      rw [decide_eq_decide]
      omega
    rw [e3]
    rfl
  | false =>
    rw [if_neg Bool.false_ne_true]
    have e3 : ((List.range L.length).filter fun k => decide (a ≤ k)).filter ((fun q : Nat × Nat => decide (best L q.1) && decide (best L q.2)) ∘ fun k => (a, k)) = [] := by
      rw [List.filter_eq_nil_iff]
      intro k hk
      show ¬ (decide (best L a) && decide (best L k)) = true
      rw [hb, Bool.false_and]
      exact Bool.false_ne_true
    rw [e3]
    rfl
theorem due_data {L : Line} (V : Valid L) : (due L).map ratD = ((spotsOf L.length).filter fun q => restB L q.1 q.2).map prD := by
  rw [due_eq V, List.map_map]
  rfl
/-- one of the due pairs -/
theorem due_mem {L : Line} {p : Int × Int} (h : p ∈ due L) : ∃ a b : Nat, p = toI (a, b) ∧ a ≤ b ∧ b < L.length ∧ best L a ∧ best L b := by
  unfold due at h
  obtain ⟨h1, h2⟩ := List.mem_filter.mp h
  have h3 := of_decide_eq_true h2
  unfold grid at h1
  obtain ⟨x, hx, h4⟩ := List.mem_flatMap.mp h1
  obtain ⟨y, hy, rfl⟩ := List.mem_map.mp h4
  unfold bests at hx hy
  obtain ⟨a, ha, rfl⟩ := List.mem_map.mp hx
  obtain ⟨b, hb, rfl⟩ := List.mem_map.mp hy
  have qa := bestK_mem.mp ha
  have qb := bestK_mem.mp hb
  have h5 : (a : Int) ≤ (b : Int) := h3
  exact ⟨a, b, rfl, by omega, qb.1, qa.2, qb.2⟩
theorem due_len (L : Line) (h : L.length ≤ 8) : (due L).length ≤ 64 := by
  unfold due
  have h1 := List.length_filter_le (fun p : Int × Int => decide (p.1 ≤ p.2)) (grid (bests L) (bests L))
  rw [grid_len] at h1
  have h2 := bests_len L
  have h3 : (bests L).length * (bests L).length ≤ 8 * 8 := Nat.mul_le_mul (by omega) (by omega)
  omega
theorem due_shape (L : Line) (h : L.length ≤ 8) : shape 2 (.tuple ((due L).map ratD)) := by
  refine .inr ⟨_, rfl, ?_, fun y hy => ?_⟩
  · rw [List.length_map]
    have := due_len L h
    omega
  · obtain ⟨q, _, rfl⟩ := List.mem_map.mp hy
    refine .inr ⟨_, rfl, by show 2 ≤ 1000; decide, fun z hz => ?_⟩
    rcases List.mem_cons.mp hz with e | e
    · exact ⟨_, e⟩
    · exact ⟨_, List.mem_singleton.mp e⟩
end K58
namespace K58
open PySem PySem.Spec PyProof.Rows L2
section
variable {P : Program} {w : World} {K : PySem.W.Frag} {mg : Str → Option Value} {base : Heap}
def spLaw (K : PySem.W.Frag) : Sp := fun vs H Q _ => ∃ (a : Addr) (ns : List Int), vs = [.ref a] ∧ SqL K H a (ns.map V.int) ∧ ns.length ≤ 63 ∧ ∀ H', Q (.bl true) H'
theorem sc_law : FnScope ["_law_script", "_law_row", "_law_line_here", "_law_size", "_law_whole", "_law_sums", "_law_best", "_law_due", "_law_spots", "_law_a", "_law_b", "_law_told", "_law_at", "_law_weight", "_law_k", "_law_pair"] ["_law_script"] (defScope (topS 41)) := ⟨rfl, rfl, rfl, by decide +kernel, rfl, by decide +kernel, by decide +kernel⟩
structure Calls (P : Program) (w : World) (K : PySem.W.Frag) (mg : Str → Option Value) (base : Heap) : Prop where
  line : Cal P w K mg base 3 "_law_line" ["_law_row", "_law_most"] (SpLine K)
  taken : Cal P w K mg base 1 "_law_taken" ["_law_row", "_law_many"] (SpTaken K)
  lsum : Cal P w K mg base 1 "_law_line_sum" ["_law_line_here", "_law_houses"] (SpR RLineSum)
  grid : Cal P w K mg base 1 "_law_grid" ["_law_one", "_law_other"] (SpR RGrid)
  alike : Cal P w K mg base 3 "_law_alike" ["_law_found", "_law_due"] (SpR (RAlike 2))
  ratio : Cal P w K mg base 2 "_law_ratio" ["_law_numerator", "_law_denominator"] (SpR RRed)
  sum : Cal P w K mg base 4 "_law_sum" ["_law_values"] (SpR RSum)
  rests : Cal P w K mg base 6 "rests" ["line", "sellers"] (SpR RRests)
  houses : Cal P w K mg base 4 "line_houses" ["line", "count"] (SpR RHouses)
  sell : Cal P w K mg base 5 "seller_shares" ["line", "spots"] (SpR RSell)
abbrev tSum2 (K : PySem.W.Frag) : TE := tCB (rSum K) (tCons (tLc (iTup K (tVar 2)) (gTup K 2 (gCons (gName 12) (gCons (gName 13) gNil))) tYes (tVar 13) [12, 13]) tNil)
abbrev tSums : TE := tLc (iRng1 (tCons (tVar 3) tNil)) (gName 14) tYes (tCall (SpR RLineSum) [] E0 (tCons (tVar 2) (tCons (tTup (tCons (tVar 14) tNil)) tNil))) [14]
abbrev tBests (K : PySem.W.Frag) : TE := tLc (iRng1 (tCons (tVar 3) tNil)) (gName 14) (tTest (tOp rEq (tOp (rIxL K) (tVar 5) (tVar 14)) (tCB (rMin K) (tCons (tVar 5) tNil)))) (tVar 14) [14]
abbrev tDue (K : PySem.W.Frag) : TE := tTuple K (tLc (iList K (tCall (SpR RGrid) [] E0 (tCons (tVar 6) (tCons (tVar 6) tNil)))) (gName 15) (tTest (tOp (rI0 fun i j => .bl (decide (i ≤ j))) (tOp (rIxT K) (tVar 15) (tC (.int 0))) (tOp (rIxT K) (tVar 15) (tC (.int 1))))) (tVar 15) [15])
abbrev tChk1 (K : PySem.W.Frag) : TT := tOr (tNot (tB (tCall (SpR (RAlike 2)) [] E0 (tCons (tCall (SpR RRests) [] E0 (tCons (tVar 2) (tCons (tC (.int 2)) tNil))) (tCons (tVar 7) tNil)))))
  (tTest (tOp rNe (tOp (rIxL K) (tVar 6) (tC (.int 0))) (tOp (rIxT K) (tOp (rIxT K) (tCall (SpR RHouses) [] E0 (tCons (tVar 2) (tCons (tC (.int 1)) tNil))) (tC (.int 1))) (tC (.int 0)))))
abbrev tChk2 (K : PySem.W.Frag) : TT := tTest (tOp (rNeD K) (tCall (SpR RSell) [] E0 (tCons (tVar 2) (tCons (tVar 8) tNil))) (tOp (rRepT K) (tTup (tCons (tCall (SpR RRed) [] E0 (tCons (tVar 4) (tCons (tC (.int 2)) tNil))) tNil)) (tC (.int 2))))
abbrev tTwo : TE := tTup (tCons (tCB (fun xs H Q => ∃ i j, xs = [.int i, .int j] ∧ Q (.int (if j < i then j else i)) H) (tCons (tVar 9) (tCons (tVar 10) tNil))) (tCons (tCB (fun xs H Q => ∃ i j, xs = [.int i, .int j] ∧ Q (.int (if j > i then j else i)) H) (tCons (tVar 9) (tCons (tVar 10) tNil))) tNil))
abbrev tListT (K : PySem.W.Frag) (te : TE) : TE := tCB (fun xs H Q => ∃ p ys, xs = [.ref p] ∧ (SqL K H p ys ∨ SqT K H p ys) ∧ ∀ l, H l = none → Q (.ref l) (upd H l (.lst ys))) (tCons te tNil)
abbrev tEnd (K : PySem.W.Frag) : TS := tSeq (tAsg (tCall (SpR RSell) [] E0 (tCons (tVar 2) (tCons tTwo tNil))) (gName 11))
  (tRet (tOp (rEqD K) (tCall (SpR RSum) [] E0 (tCons (tListT K (tVar 11)) tNil)) (tTup (tCons (tVar 4) (tCons (tC (.int 1)) tNil)))))
abbrev tTk1 (K : PySem.W.Frag) : TE := tCall (SpTaken K) [] E0 (tCons (tVar 1) (tCons (tVar 3) tNil))
abbrev tTail (K : PySem.W.Frag) : TS := tSeq (tPar 3 4 (tCons (tLenE K (tVar 2)) (tCons (tSum2 K) tNil))) (tSeq (tAsg tSums (gName 5)) (tSeq (tAsg (tBests K) (gName 6)) (tSeq (tAsg (tDue K) (gName 7)) (tSeq (tIfS (tChk1 K) tNever tNext)
  (tSeq (tFor (iTup K (tVar 7)) (gName 8) (tIfS (tChk2 K) tNever tNext)) (tSeq (tPar 9 10 (tCons (tTk1 K) (tCons (tTk1 K) tNil))) (tEnd K)))))))
abbrev tLaw (K : PySem.W.Frag) : TS := tSeq (tAsg (tLst (tCons (tVar 0) (tCons (tC (.int 0)) (tCons (tC (.int 6358)) (tCons (tC (.int 0)) tNil))))) (gName 1)) (tSeq (tAsg (tCall (SpLine K) [] E0 (tCons (tVar 1) (tCons (tC (.int 8)) tNil))) (gName 2)) (tTail K))
section
variable {C : Cn} {L : Line}
theorem eg_whole (V : Valid L) {Γ : Gm} (h : (wipeG Γ [12, 13])[2]? = some (some (lineD L))) (h2 : Γ[2]? = some (some (lineD L))) (hl : 13 < Γ.length) : EG C (tSum2 K) Γ (.int (whole L)) := by
  have hmost := V.most
  refine eg_sum (ns := L.map wt) (eg_is (eg_lc (n := L.length) (fun _ => true) (fun i => .int (L.getD i (0, 0)).2) (ei_mapT ratD (0, 0) (eg_var h2)) (by omega) fun p i hi => ⟨_, _, by decide, gt_2, et_yes, fun _ => eg_var ?_⟩) ?_)
  · exact List.getElem?_set_self (by simp [wipeG]; exact hl)
  · rw [given_map (0, 0) L (fun q => PyData.int q.2), List.map_map]
    rfl
theorem costs_at {k : Nat} (hk : k < L.length) : atI ((costs L).map PyData.int) (k : Int) = some (PyData.int (cost L (pos L k))) := by
  refine atI_nat ?_
  unfold costs
  rw [List.getElem?_map, List.getElem?_map, List.getElem?_range hk]
  rfl
theorem eg_costs (V : Valid L) {Γ : Gm} (h2 : (wipeG Γ [14])[2]? = some (some (lineD L))) (h3 : Γ[3]? = some (some (.int (L.length : Int)))) (hl : 14 < Γ.length) : EG C tSums Γ (.list ((costs L).map .int)) := by
  have hmost := V.most
  refine eg_is (eg_lc (n := L.length) (fun _ => true) (fun i => .int (cost L (pos L i))) (ei_rng1 (n := L.length) (ea_1 (eg_var h3)) (by omega)) (by omega) fun p k hk => ⟨_, _, by decide, gt_name, et_yes, fun _ => eg_call (ea_2 (eg_var ?_) (eg_tup (ea_1 (eg_var ?_)) (by show 1 ≤ 1000; decide))) ⟨L, k, rfl, V, hk, rfl⟩⟩) ?_
  · rw [List.getElem?_set_ne (by decide)]
    exact h2
  · exact List.getElem?_set_self (by simp [wipeG]; exact hl)
  · rw [given_all]
    unfold costs
    rw [List.map_map]
    rfl
theorem eg_bests (V : Valid L) {Γ : Gm} (h5 : (wipeG Γ [14])[5]? = some (some (.list ((costs L).map .int)))) (h3 : Γ[3]? = some (some (.int (L.length : Int)))) (hl : 14 < Γ.length) : EG C (tBests K) Γ (.list ((bests L).map .int)) := by
  have hmost := V.most
  obtain ⟨m, hm, hle, hb⟩ := least_cost V
  refine eg_is (eg_lc (n := L.length) (fun k => decide (cost L (pos L k) = m)) (fun k => .int (k : Int)) (ei_rng1 (n := L.length) (ea_1 (eg_var h3)) (by omega)) (by omega) fun p k hk => ⟨_, _, by decide, gt_name, et_test (eg_eqI (eg_ixL (eg_var ?_) (eg_var ?_) (costs_at hk)) (eg_min (eg_var ?_) hm hle)), fun _ => eg_var ?_⟩) ?_
  · rw [List.getElem?_set_ne (by decide)]
    exact h5
  · exact List.getElem?_set_self (by simp [wipeG]; exact hl)
  · rw [List.getElem?_set_ne (by decide)]
    exact h5
  · exact List.getElem?_set_self (by simp [wipeG]; exact hl)
  · rw [bests_given hb]
theorem eg_due (V : Valid L) {Γ : Gm} (h6 : Γ[6]? = some (some (.list ((bests L).map .int)))) (hl : 15 < Γ.length) : EG C (tDue K) Γ (.tuple ((due L).map ratD)) := by
  have hmost := V.most
  have hbl := bests_len L
  refine eg_tupleL (eg_is (eg_lc (n := (grid (bests L) (bests L)).length) (fun i => decide (((grid (bests L) (bests L)).getD i (0, 0)).1 ≤ ((grid (bests L) (bests L)).getD i (0, 0)).2)) (fun i => ratD ((grid (bests L) (bests L)).getD i (0, 0))) (ei_mapL ratD (0, 0) (eg_call (ea_2 (eg_var h6) (eg_var h6)) ⟨bests L, bests L, rfl, by omega, by omega, rfl⟩)) ?_
    fun p i hi => ⟨_, _, by decide, gt_name, et_test (eg_le (eg_ixT (ds := [.int ((grid (bests L) (bests L)).getD i (0, 0)).1, .int ((grid (bests L) (bests L)).getD i (0, 0)).2]) (eg_var ?_) eg_int rfl) (eg_ixT (ds := [.int ((grid (bests L) (bests L)).getD i (0, 0)).1, .int ((grid (bests L) (bests L)).getD i (0, 0)).2]) (eg_var ?_) eg_int rfl)), fun _ => eg_var ?_⟩) ?_)
  · rw [grid_len]
    have : (bests L).length * (bests L).length ≤ 8 * 8 := Nat.mul_le_mul (by omega) (by omega)
    omega
  · exact List.getElem?_set_self (by simp [wipeG]; exact hl)
  · exact List.getElem?_set_self (by simp [wipeG]; exact hl)
  · exact List.getElem?_set_self (by simp [wipeG]; exact hl)
  · rw [filter_getD (0, 0) (grid (bests L) (bests L)) (fun p => decide (p.1 ≤ p.2)) ratD]
    rfl
theorem rat2_refl (p q : Int × Int) : PyData.eqv (.tuple [ratD p, ratD q]) (.tuple [ratD p, ratD q]) = true := SeqAt.eqv_refl _ (by simp [PyData.canLay0, PyData.canLayAll0])
theorem rat_refl (p : Int × Int) : PyData.eqv (ratD p) (ratD p) = true := SeqAt.eqv_refl _ (by simp [PyData.canLay0, PyData.canLayAll0])
theorem et_chk1 (V : Valid L) {Γ : Gm} (h2 : Γ[2]? = some (some (lineD L))) (h6 : Γ[6]? = some (some (.list ((bests L).map .int)))) (h7 : Γ[7]? = some (some (.tuple ((due L).map ratD)))) : ET C (tChk1 K) Γ false := by
  obtain ⟨k, t, e1, e2⟩ := best_first V
  have hb : atI ((bests L).map PyData.int) (0 : Int) = some (.int (k : Int)) := by
    unfold bests
    rw [e1]
    exact atI_nat (j := 0) rfl
  refine et_is (et_or (et_not (et_B (eg_call (ea_2 (eg_is (eg_call (ea_2 (eg_var h2) eg_int) ⟨L, rfl, V, rfl⟩) ?_) (eg_var h7)) ⟨_, rfl, due_shape L V.most, rfl⟩))) fun _ => et_test (eg_neI (eg_ixL (eg_var h6) eg_int hb) (eg_ixT (eg_ixT (eg_call (ea_2 (eg_var h2) eg_int) ⟨L, rfl, V, rfl⟩) eg_int rfl) eg_int rfl))) ?_
  · rw [due_data V]
  · show (!true || !decide ((k : Int) = (pcost L 0 L.length).2)) = false
    rw [e2, decide_eq_true rfl]
    rfl
theorem et_chk2 (V : Valid L) {Γ : Gm} {p : Int × Int} (hp : p ∈ due L) (h2 : Γ[2]? = some (some (lineD L))) (h4 : Γ[4]? = some (some (.int (whole L)))) (h8 : Γ[8]? = some (some (ratD p))) : ET C (tChk2 K) Γ false := by
  obtain ⟨a, b, rfl, hab, hb, ba, bb⟩ := due_mem hp
  obtain ⟨g1, g2⟩ := best_gains V (by omega : a < L.length) hb ba bb
  refine et_is (et_test (eg_neD (d := .tuple [ratD (half (whole L)), ratD (half (whole L))]) (e := .tuple [ratD (half (whole L)), ratD (half (whole L))]) (eg_is (eg_call (ea_2 (eg_var h2) (eg_var h8)) ⟨L, a, b, rfl, V, hab, hb, rfl⟩) ?_) (eg_is (eg_repT (eg_tup (ea_1 (eg_call (ea_2 (eg_var h4) eg_int) ⟨_, 2, rfl, by decide, by decide, rfl⟩)) (by show 1 ≤ 1000; decide)) eg_int ⟨by decide, by decide⟩ (by show 1 ≤ 1000; decide) (by simp)) rfl) rfl rfl)) ?_
  · rw [g1, g2]
    rfl
  · rw [rat2_refl]
    rfl
end
theorem end_run {L : Line} {a r : Addr} {ns : List Int} {x y : Int} {d0 d5 d6 d7 d8 d11 d12 d13 d14 d15 : Option PyData} {σ : L2.St} {H : Hp} {D : Ends} (V : Valid L) (hx : 0 ≤ x ∧ x < L.length) (hy : 0 ≤ y ∧ y < L.length) {hm}
    (G : Gs ⟨[r], RowI K a ns r, hm⟩ [d0, some (atD r), some (lineD L), some (.int (L.length : Int)), some (.int (whole L)), d5, d6, d7, d8, some (.int x), some (.int y), d11, d12, d13, d14, d15] σ H) (q : ∀ H', D.rt (.bl true) H') : tEnd K D σ H := by
  obtain ⟨i, rfl⟩ := Int.eq_ofNat_of_zero_le hx.1
  obtain ⟨j, rfl⟩ := Int.eq_ofNat_of_zero_le hy.1
  have hi : i < L.length := by omega
  have hj : j < L.length := by omega
  -- the two points in order
  have key : ∃ u v : Nat, u ≤ v ∧ v < L.length ∧ (if (j : Int) < (i : Int) then (j : Int) else (i : Int)) = (u : Int) ∧ (if (j : Int) > (i : Int) then (j : Int) else (i : Int)) = (v : Int) := by
    by_cases h : j < i
    · exact ⟨j, i, by omega, hi, by rw [if_pos (by omega)], by rw [if_neg (by omega)]⟩
    · exact ⟨i, if j > i then j else i, by split <;> omega, by split <;> omega, by rw [if_neg (by omega)], by split <;> split <;> omega⟩
  obtain ⟨u, v, huv, hv, e1, e2⟩ := key
  refine q_bg (bg_set (eg_call (ea_2 (eg_var rfl) (eg_is (d := .tuple [.int _, .int _]) (eg_tup (ea_2 (eg_min2 (eg_var rfl) (eg_var rfl)) (eg_max2 (eg_var rfl) (eg_var rfl))) (by show 2 ≤ 1000; decide)) (by rw [e1, e2]))) ⟨L, u, v, rfl, V, huv, hv, rfl⟩)) G fun σ' H' s' G' => ?_
  refine q_ret (d := .bool true) (eg_is (eg_eqD (d := ratD (whole L, 1)) (e := ratD (whole L, 1)) (eg_is (eg_call (ea_1 (eg_listT (eg_var rfl))) ⟨[gains L (pos L u) (pos L v), gains L (pos L v) (pos L u)], rfl, rfl⟩) ?_) (eg_tup (ea_2 (eg_var rfl) eg_int) (by show 2 ≤ 1000; decide)) rfl rfl) (congrArg PyData.bool (rat_refl _))) G' fun v' H2 s2 d2 => ?_
  · have e : [gains L (pos L u) (pos L v), gains L (pos L v) (pos L u)].sum = 2 * whole L := by
      rw [← gains_two L (pos L u) (pos L v)]
      simp
    rw [e]
    unfold halfD
    rw [half_even]
  · rw [d2.blInv]
    exact q H2
theorem tail_run {L : Line} {a r : Addr} {ns : List Int} {d0 : Option PyData} {σ : L2.St} {H : Hp} {D : Ends} (V : Valid L)
    (G : Gs ⟨[r], RowI K a ns r, fun H H' s h => RowI.mono H H' s h⟩ [d0, some (atD r), some (lineD L), none, none, none, none, none, none, none, none, none, none, none, none, none] σ H) (q : ∀ H', D.rt (.bl true) H') : tTail K D σ H := by
  refine q_bg (bg_par (ea_2 (eg_is (eg_lenT (ds := L.map ratD) (eg_var rfl)) (by rw [lineD_len])) (eg_whole V rfl rfl (by show 13 < 16; decide)))) G fun σ1 H1 s1 G1 => ?_
  refine q_bg (bg_set (eg_costs V rfl rfl (by show 14 < 16; decide))) G1 fun σ2 H2 s2 G2 => ?_
  refine q_bg (bg_set (eg_bests V rfl rfl (by show 14 < 16; decide))) G2 fun σ3 H3 s3 G3 => ?_
  refine q_bg (bg_set (eg_due V rfl (by show 15 < 16; decide))) G3 fun σ4 H4 s4 G4 => ?_
  refine q_bg (bg_ifF (et_chk1 V rfl rfl rfl) bg_nil) G4 fun σ5 H5 s5 G5 => ?_
  refine q_bg (bg_forN (n := (due L).length) (fun _ => [d0, some (atD r), some (lineD L), some (.int (L.length : Int)), some (.int (whole L)), some (.list ((costs L).map .int)), some (.list ((bests L).map .int)), some (.tuple ((due L).map ratD)), none, none, none, none, none, none, none, none]) (ei_mapT ratD (0, 0) (eg_var rfl)) ?_ (fun i hi => ⟨_, _, gt_name, bg_ifF (et_chk2 V (getD_mem (0, 0) hi) rfl rfl rfl) (bg_less bg_nil (Γ1 := _) (Gle.refl _) ?_)⟩) (Gle.refl _)) G5 fun σ6 H6 s6 G6 => ?_
  · cases d0 with
    | none => exact ⟨rfl, rfl, rfl, rfl, rfl, rfl, rfl, True.intro⟩
    | some d => exact ⟨rfl, rfl, rfl, rfl, rfl, rfl, rfl, rfl, True.intro⟩
  · cases d0 with
    | none => exact ⟨rfl, rfl, rfl, rfl, rfl, rfl, rfl, True.intro⟩
    | some d => exact ⟨rfl, rfl, rfl, rfl, rfl, rfl, rfl, rfl, True.intro⟩
  · have hone := V.one
    have hmost := V.most
    show tTk1 K σ6 H6 fun v H7 => tTk1 K σ6 H7 fun w H8 => ∃ x y, [v, w] = [x, y] ∧ tEnd K D ((σ6.set 9 (some x)).set 10 (some y)) H8
    refine en_taken (a := a) (ns := ns) (m := (L.length : Int)) (r := r) List.mem_cons_self (fun _ h => h) (fun _ _ _ _ h => h) (ea_2 (eg_var rfl) (eg_var rfl)) (by omega) (by omega) σ6 H6 G6 _ fun x H7 hx s7 G7 => ?_
    refine en_taken (a := a) (ns := ns) (m := (L.length : Int)) (r := r) List.mem_cons_self (fun _ h => h) (fun _ _ _ _ h => h) (ea_2 (eg_var rfl) (eg_var rfl)) (by omega) (by omega) σ6 H7 G7 _ fun y H8 hy s8 G8 => ?_
    exact ⟨_, _, rfl, end_run V hx hy ((G8.set (.int x) 9).set (.int y) 10) q⟩
theorem law_run {a : Addr} {ns : List Int} {H : Hp} {D : Ends} (hsq : SqL K H a (ns.map V.int)) (q : ∀ H', D.rt (.bl true) H') : tLaw K D (L2.start ["_law_script", "_law_row", "_law_line_here", "_law_size", "_law_whole", "_law_sums", "_law_best", "_law_due", "_law_spots", "_law_a", "_law_b", "_law_told", "_law_at", "_law_weight", "_law_k", "_law_pair"] [.ref a]) H := by
  have G0 := start_gs (B := []) (ds := [atD a]) (N := ["_law_script", "_law_row", "_law_line_here", "_law_size", "_law_whole", "_law_sums", "_law_best", "_law_due", "_law_spots", "_law_a", "_law_b", "_law_told", "_law_at", "_law_weight", "_law_k", "_law_pair"]) (Γ := [some (atD a), none, none, none, none, none, none, none, none, none, none, none, none, none, none, none]) (H := H) (fun p hp => nomatch hp) (.cons (.ptr a) .nil) rfl
  refine q_lst (ds := [atD a, .int 0, .int 6358, .int 0]) G0 (ea_cons (eg_var rfl) (ea_cons eg_int (ea_2 eg_int eg_int))) (by show 4 ≤ 1000; decide) fun r H1 vs hr s1 G1 e1 e2 => ?_
  have hrow : RowI K a ns r H1 := by
    cases e2 with
    | cons d1 e2 =>
      cases e2 with
      | cons d2 e2 =>
        cases e2 with
        | cons d3 e2 =>
          cases e2 with
          | cons d4 e2 =>
            cases e2
            rw [d1.ptrInv, d2.intInv, d3.intInv, d4.intInv] at e1
            exact ⟨0, 6358, 0, by decide, by decide, by decide, e1, ScrM.start hsq hr s1⟩
  have G2 := G1.withM (h := fun H H' s h => RowI.mono H H' s h) hrow
  unfold tSeq tAsg tCall
  refine ea_2 (eg_var (n := 1) (d := atD r) rfl) (eg_int (i := 8)) _ H1 G2 _ fun ws H2 s2 d2 => ?_
  obtain ⟨v, w, rfl, d3, d4⟩ := d2.two
  have G3 := G2.mono s2
  refine ⟨a, ns, r, 8, by rw [d3.ptrInv, d4.intInv]; rfl, by decide, by decide, G3.m, fun L v' H3 V s3 R d => ?_⟩
  exact tail_run V ((G3.drawn (B := [r]) List.mem_cons_self s3 R R).set d 2) q
theorem law_ok {f : Addr} {fd : FuncData} (T : Txt mg) (F : Fun K "law" "law" (topS 41) f fd) (G : Calls P w K mg base) : FnOk P w K mg base CX0 7 f fd ["_law_script"] (spLaw K) := by
  refine F.ok sc_law (fun vs H Q E h => ?_) (fun cdv A outer s H vs Q E hr h => ?_)
  · obtain ⟨_, _, rfl, _⟩ := h
    rfl
  obtain ⟨a, ns, rfl, hsq, hns, q⟩ := h
  have r1 : Room 1 _ := hr.mono (by decide)
  have r2 : Room 2 _ := hr.mono (by decide)
  have r3 : Room 3 _ := hr.mono (by decide)
  have r4 : Room 4 _ := hr.mono (by decide)
  have r5 : Room 5 _ := hr.mono (by decide)
  refine ⟨tLaw K, pss_cons (ps_set (i := 1) sc_law.nd rfl (.inl rfl) (pe_lst (pa_cons (pv 0) (pa_cons pe_int (pa_cons pe_int (pa_cons pe_int pa_nil))))))
    (pss_cons (ps_set (i := 2) sc_law.nd rfl (.inr rfl) (pe_cal G.line r3 (by rfl) (pa_cons (pv 1) (pa_cons pe_int pa_nil))))
    (pss_cons (ps_par (i := 3) (j := 4) (by rfl) sc_law.nd rfl rfl (by decide) rfl rfl (pa_cons (pe_callB call_len_seq (by rfl) T.len boot_len (pa_cons (pv 2) pa_nil)) (pa_cons (pe_callB (cr_sum rfl) (by rfl) T.sum PyProof.Rows.boot_sum (pa_cons
        (pe_lc (own := [("_law_at", 12), ("_law_weight", 13)]) rfl sc_law.nd (pi_tup (pv 2)) (blkOk_by (N := ["_law_script", "_law_row", "_law_line_here", "_law_size", "_law_whole", "_law_sums", "_law_best", "_law_due", "_law_spots", "_law_a", "_law_b", "_law_told", "_law_at", "_law_weight", "_law_k", "_law_pair"]) (sc := defScope (topS 41)) (by decide +kernel))
          (fun _ _ _ _ _ => pg_tupK (K := K) (n := 2) rfl rfl (pgs_cons (pg_name (i := 12) sc_law.nd rfl (.inl rfl)) (pgs_cons (pg_name (i := 13) sc_law.nd rfl (.inl rfl)) pgs_nil))) (fun _ _ _ _ _ => pts_nil)
          (fun _ _ _ _ _ => pv 13)) pa_nil)) pa_nil)) (by rfl))
    (pss_cons (ps_set (i := 5) sc_law.nd rfl (.inr rfl)
        (pe_lc (own := [("_law_k", 14)]) rfl sc_law.nd (pi_range1 (by rfl) T.range (pa_cons (pv 3) pa_nil)) (blkOk_by (N := ["_law_script", "_law_row", "_law_line_here", "_law_size", "_law_whole", "_law_sums", "_law_best", "_law_due", "_law_spots", "_law_a", "_law_b", "_law_told", "_law_at", "_law_weight", "_law_k", "_law_pair"]) (sc := defScope (topS 41)) (by decide +kernel))
          (fun _ _ _ _ _ => pg_name (i := 14) sc_law.nd rfl (.inl rfl)) (fun _ _ _ _ _ => pts_nil)
          (fun _ _ _ _ _ => pe_cal G.lsum r1 (by rfl) (pa_cons (pv 2) (pa_cons (pe_tup (pa_cons (pv 14) pa_nil)) pa_nil)))))
    (pss_cons (ps_setLc (i := 6) (own := [("_law_k", 14)]) rfl sc_law.nd rfl rfl (sw_true rfl rfl rfl (by decide +kernel)) (pi_range1 (by rfl) T.range (pa_cons (pv 3) pa_nil)) (blkOk_by (N := ["_law_script", "_law_row", "_law_line_here", "_law_size", "_law_whole", "_law_sums", "_law_best", "_law_due", "_law_spots", "_law_a", "_law_b", "_law_told", "_law_at", "_law_weight", "_law_k", "_law_pair"]) (sc := defScope (topS 41)) (by decide +kernel))
          (fun _ _ _ _ _ => pg_name (i := 14) sc_law.nd rfl (.inl rfl))
          (fun _ _ _ _ _ => pts_one (pt_cmpR op_eq (pe_ix (ix_listK (K := K) rfl) (pv 5) (pv 14) (fun _ _ => rfl)) (pe_callB (cr_minK (K := K) rfl rfl) (by rfl) T.min PyProof.Rows.boot_min (pa_cons (pv 5) pa_nil)) (nomark _)))
          (fun _ _ _ _ _ => pv 14))
    (pss_cons (ps_set (i := 7) sc_law.nd rfl (.inl rfl) (pe_callTy call_tuple_of (by rfl) T.tuple PyProof.Rows.boot_tuple (pa_cons
        (pe_lc (own := [("_law_pair", 15)]) rfl sc_law.nd (pi_list (pe_cal G.grid r1 (by rfl) (pa_cons (pv 6) (pa_cons (pv 6) pa_nil)))) (blkOk_by (N := ["_law_script", "_law_row", "_law_line_here", "_law_size", "_law_whole", "_law_sums", "_law_best", "_law_due", "_law_spots", "_law_a", "_law_b", "_law_told", "_law_at", "_law_weight", "_law_k", "_law_pair"]) (sc := defScope (topS 41)) (by decide +kernel))
          (fun _ _ _ _ _ => pg_name (i := 15) sc_law.nd rfl (.inl rfl))
          (fun _ _ _ _ _ => pts_one (pt_cmpR op_le (pe_ix (ix_tupK (K := K) rfl) (pv 15) pe_int (fun _ _ => rfl)) (pe_ix (ix_tupK (K := K) rfl) (pv 15) pe_int (fun _ _ => rfl)) (nomark _)))
          (fun _ _ _ _ _ => pv 15)) pa_nil)))
    (pss_cons (ps_if (PW.pt (pw_or (pt_not (pt_val (pe_cal G.alike r3 (by rfl) (pa_cons (pe_cal G.rests hr (by rfl) (pa_cons (pv 2) (pa_cons pe_int pa_nil))) (pa_cons (pv 7) pa_nil)))))
        (pw_or1 (pt_cmpR op_ne (pe_ix ix_list (pv 6) pe_int (fun _ _ => rfl)) (pe_ix ix_tup (pe_ix ix_tup (pe_cal G.houses r4 (by rfl) (pa_cons (pv 2) (pa_cons pe_int pa_nil))) pe_int (fun _ _ => rfl)) pe_int (fun _ _ => rfl)) (nomark _))))) pss_never pss_nil)
    (pss_cons (ps_for PassesOwn.never rfl (pi_tup (pv 7)) (pg_name (i := 8) sc_law.nd rfl (.inl rfl))
      (pss_one (ps_if (pt_cmpR (op_neD hr.units) (pe_cal G.sell r5 (by rfl) (pa_cons (pv 2) (pa_cons (pv 8) pa_nil))) (pe_op op_repT (pe_tup (pa_cons (pe_cal G.ratio r2 (by rfl) (pa_cons (pv 4) (pa_cons pe_int pa_nil))) pa_nil)) pe_int) (nomark _)) pss_never pss_nil)))
    (pss_cons (ps_par (i := 9) (j := 10) (by rfl) sc_law.nd rfl rfl (by decide) rfl rfl (pa_cons (pe_cal G.taken r1 (by rfl) (pa_cons (pv 1) (pa_cons (pv 3) pa_nil))) (pa_cons (pe_cal G.taken r1 (by rfl) (pa_cons (pv 1) (pa_cons (pv 3) pa_nil))) pa_nil)) (by rfl))
    (pss_cons (ps_set (i := 11) sc_law.nd rfl (.inl rfl) (pe_cal G.sell r5 (by rfl) (pa_cons (pv 2) (pa_cons (pe_tup (pa_cons (pe_callB (call_min2 rfl) (by rfl) T.min PyProof.Rows.boot_min (pa_cons (pv 9) (pa_cons (pv 10) pa_nil))) (pa_cons (pe_callB (call_max2 rfl) (by rfl) T.max PyProof.Rows.boot_max (pa_cons (pv 9) (pa_cons (pv 10) pa_nil))) pa_nil))) pa_nil))))
    (pss_one (ps_ret (pe_cmpR (op_eqD hr.units) (pe_cal G.sum r4 (by rfl) (pa_cons (pe_callTy call_list_of (by rfl) T.list PyProof.Rows.boot_list (pa_cons (pv 11) pa_nil)) pa_nil)) (pe_tup (pa_cons (pv 4) (pa_cons pe_int pa_nil))) (nomark _))))))))))))), ?_⟩
  exact law_run hsq q
end
end K58
namespace K58
open PySem PySem.Spec PyProof.Rows L2
/-! ### what the top has written -/
/-- a def stands behind the top -/
structure At (K : PySem.W.Frag) (x : Str) (st : Stmt) (f : Addr) : Prop where
  ex : ∃ (od an : Option Addr) (sl : Array (Option Value)) (oc kV dc pm cd ct : Value), PySem.W.nsIn K mainGlobals x = some (some (.ref f)) ∧ K.lookup f = some ⟨oc, od, .func (PySem.W.fnOf x x (defArgs st) (defBody st) (defScope st) .none kV dc pm an cd ct), sl⟩ ∧ PySem.W.codeIn K cd x = true ∧ PySem.W.keepIn K (.ref f) = true
theorem df_of {K : PySem.W.Frag} {h : Heap} {mg : Str → Option Value} {x : Str} {st : Stmt} {f : Addr} (X : K.In h) (G : h.Ns mainGlobals mg) (a : At K x st f) : Df K mg x st := by
  obtain ⟨od, an, sl, oc, kV, dc, pm, cd, ct, h1, h2, h3, h4⟩ := a.ex
  exact ⟨f, _, fun_mk (st := st) h2 h3 h4, PySem.W.mg_of X G h1⟩
theorem at_mk {K : PySem.W.Frag} {x : Str} {st : Stmt} {f : Addr} {od an : Option Addr} {sl : Array (Option Value)} {oc kV dc pm cd ct : Value} (h1 : PySem.W.nsIn K mainGlobals x = some (some (.ref f))) (h2 : K.lookup f = some ⟨oc, od, .func (PySem.W.fnOf x x (defArgs st) (defBody st) (defScope st) .none kV dc pm an cd ct), sl⟩) (h3 : PySem.W.codeIn K cd x = true) (h4 : PySem.W.keepIn K (.ref f) = true) : At K x st f :=
  ⟨od, an, sl, oc, kV, dc, pm, cd, ct, h1, h2, h3, h4⟩
theorem all_mk {l : PySem.W.OpenLaw} {w : World} {K : PySem.W.Frag} {h : Heap} {mg : Str → Option Value} {fa f7 f8 f9 f10 f11 f16 f17 f18 f19 f20 f21 f22 f25 f26 f27 f28 f29 f31 f32 f33 f34 f35 f36 f37 f38 f39 f40 f41 : Addr} {t0 t1 t2 t3 : Nat} (X : K.In h) (G : h.Ns mainGlobals mg) (hfa : mg "law" = some (.ref fa))
    {od7 an7 od8 an8 od9 an9 od10 an10 od11 an11 od16 an16 od17 an17 od18 an18 od19 an19 od20 an20 od21 an21 od22 an22 od25 an25 od26 an26 od27 an27 od28 an28 od29 an29 od31 an31 od32 an32 od33 an33 od34 an34 od35 an35 od36 an36 od37 an37 od38 an38 od39 an39 od40 an40 od41 an41 : Option Addr} {sl7 sl8 sl9 sl10 sl11 sl16 sl17 sl18 sl19 sl20 sl21 sl22 sl25 sl26 sl27 sl28 sl29 sl31 sl32 sl33 sl34 sl35 sl36 sl37 sl38 sl39 sl40 sl41 : Array (Option Value)} {oc7 kV7 dc7 pm7 cd7 ct7 oc8 kV8 dc8 pm8 cd8 ct8 oc9 kV9 dc9 pm9 cd9 ct9 oc10 kV10 dc10 pm10 cd10 ct10 oc11 kV11 dc11 pm11 cd11 ct11 oc16 kV16 dc16 pm16 cd16 ct16 oc17 kV17 dc17 pm17 cd17 ct17 oc18 kV18 dc18 pm18 cd18 ct18 oc19 kV19 dc19 pm19 cd19 ct19 oc20 kV20 dc20 pm20 cd20 ct20 oc21 kV21 dc21 pm21 cd21 ct21 oc22 kV22 dc22 pm22 cd22 ct22 oc25 kV25 dc25 pm25 cd25 ct25 oc26 kV26 dc26 pm26 cd26 ct26 oc27 kV27 dc27 pm27 cd27 ct27 oc28 kV28 dc28 pm28 cd28 ct28 oc29 kV29 dc29 pm29 cd29 ct29 oc31 kV31 dc31 pm31 cd31 ct31 oc32 kV32 dc32 pm32 cd32 ct32 oc33 kV33 dc33 pm33 cd33 ct33 oc34 kV34 dc34 pm34 cd34 ct34 oc35 kV35 dc35 pm35 cd35 ct35 oc36 kV36 dc36 pm36 cd36 ct36 oc37 kV37 dc37 pm37 cd37 ct37 oc38 kV38 dc38 pm38 cd38 ct38 oc39 kV39 dc39 pm39 cd39 ct39 oc40 kV40 dc40 pm40 cd40 ct40 oc41 kV41 dc41 pm41 cd41 ct41 : Value}
    (a7 : PySem.W.nsIn K mainGlobals "is_in" = some (some (.ref f7))) (l7 : K.lookup f7 = some ⟨oc7, od7, .func (PySem.W.fnOf "is_in" "is_in" (defArgs (topS 7)) (defBody (topS 7)) (defScope (topS 7)) .none kV7 dc7 pm7 an7 cd7 ct7), sl7⟩) (c7 : PySem.W.codeIn K cd7 "is_in" = true) (k7 : PySem.W.keepIn K (.ref f7) = true)
    (a8 : PySem.W.nsIn K mainGlobals "gcd" = some (some (.ref f8))) (l8 : K.lookup f8 = some ⟨oc8, od8, .func (PySem.W.fnOf "gcd" "gcd" (defArgs (topS 8)) (defBody (topS 8)) (defScope (topS 8)) .none kV8 dc8 pm8 an8 cd8 ct8), sl8⟩) (c8 : PySem.W.codeIn K cd8 "gcd" = true) (k8 : PySem.W.keepIn K (.ref f8) = true)
    (a9 : PySem.W.nsIn K mainGlobals "reduced" = some (some (.ref f9))) (l9 : K.lookup f9 = some ⟨oc9, od9, .func (PySem.W.fnOf "reduced" "reduced" (defArgs (topS 9)) (defBody (topS 9)) (defScope (topS 9)) .none kV9 dc9 pm9 an9 cd9 ct9), sl9⟩) (c9 : PySem.W.codeIn K cd9 "reduced" = true) (k9 : PySem.W.keepIn K (.ref f9) = true)
    (a10 : PySem.W.nsIn K mainGlobals "plus" = some (some (.ref f10))) (l10 : K.lookup f10 = some ⟨oc10, od10, .func (PySem.W.fnOf "plus" "plus" (defArgs (topS 10)) (defBody (topS 10)) (defScope (topS 10)) .none kV10 dc10 pm10 an10 cd10 ct10), sl10⟩) (c10 : PySem.W.codeIn K cd10 "plus" = true) (k10 : PySem.W.keepIn K (.ref f10) = true)
    (a11 : PySem.W.nsIn K mainGlobals "is_below" = some (some (.ref f11))) (l11 : K.lookup f11 = some ⟨oc11, od11, .func (PySem.W.fnOf "is_below" "is_below" (defArgs (topS 11)) (defBody (topS 11)) (defScope (topS 11)) .none kV11 dc11 pm11 an11 cd11 ct11), sl11⟩) (c11 : PySem.W.codeIn K cd11 "is_below" = true) (k11 : PySem.W.keepIn K (.ref f11) = true)
    (a16 : PySem.W.nsIn K mainGlobals "is_spot" = some (some (.ref f16))) (l16 : K.lookup f16 = some ⟨oc16, od16, .func (PySem.W.fnOf "is_spot" "is_spot" (defArgs (topS 16)) (defBody (topS 16)) (defScope (topS 16)) .none kV16 dc16 pm16 an16 cd16 ct16), sl16⟩) (c16 : PySem.W.codeIn K cd16 "is_spot" = true) (k16 : PySem.W.keepIn K (.ref f16) = true)
    (a17 : PySem.W.nsIn K mainGlobals "need_line" = some (some (.ref f17))) (l17 : K.lookup f17 = some ⟨oc17, od17, .func (PySem.W.fnOf "need_line" "need_line" (defArgs (topS 17)) (defBody (topS 17)) (defScope (topS 17)) .none kV17 dc17 pm17 an17 cd17 ct17), sl17⟩) (c17 : PySem.W.codeIn K cd17 "need_line" = true) (k17 : PySem.W.keepIn K (.ref f17) = true)
    (a18 : PySem.W.nsIn K mainGlobals "need_number" = some (some (.ref f18))) (l18 : K.lookup f18 = some ⟨oc18, od18, .func (PySem.W.fnOf "need_number" "need_number" (defArgs (topS 18)) (defBody (topS 18)) (defScope (topS 18)) .none kV18 dc18 pm18 an18 cd18 ct18), sl18⟩) (c18 : PySem.W.codeIn K cd18 "need_number" = true) (k18 : PySem.W.keepIn K (.ref f18) = true)
    (a19 : PySem.W.nsIn K mainGlobals "part_sum" = some (some (.ref f19))) (l19 : K.lookup f19 = some ⟨oc19, od19, .func (PySem.W.fnOf "part_sum" "part_sum" (defArgs (topS 19)) (defBody (topS 19)) (defScope (topS 19)) .none kV19 dc19 pm19 an19 cd19 ct19), sl19⟩) (c19 : PySem.W.codeIn K cd19 "part_sum" = true) (k19 : PySem.W.keepIn K (.ref f19) = true)
    (a20 : PySem.W.nsIn K mainGlobals "part_cost" = some (some (.ref f20))) (l20 : K.lookup f20 = some ⟨oc20, od20, .func (PySem.W.fnOf "part_cost" "part_cost" (defArgs (topS 20)) (defBody (topS 20)) (defScope (topS 20)) .none kV20 dc20 pm20 an20 cd20 ct20), sl20⟩) (c20 : PySem.W.codeIn K cd20 "part_cost" = true) (k20 : PySem.W.keepIn K (.ref f20) = true)
    (a21 : PySem.W.nsIn K mainGlobals "best_rows" = some (some (.ref f21))) (l21 : K.lookup f21 = some ⟨oc21, od21, .func (PySem.W.fnOf "best_rows" "best_rows" (defArgs (topS 21)) (defBody (topS 21)) (defScope (topS 21)) .none kV21 dc21 pm21 an21 cd21 ct21), sl21⟩) (c21 : PySem.W.codeIn K cd21 "best_rows" = true) (k21 : PySem.W.keepIn K (.ref f21) = true)
    (a22 : PySem.W.nsIn K mainGlobals "line_houses" = some (some (.ref f22))) (l22 : K.lookup f22 = some ⟨oc22, od22, .func (PySem.W.fnOf "line_houses" "line_houses" (defArgs (topS 22)) (defBody (topS 22)) (defScope (topS 22)) .none kV22 dc22 pm22 an22 cd22 ct22), sl22⟩) (c22 : PySem.W.codeIn K cd22 "line_houses" = true) (k22 : PySem.W.keepIn K (.ref f22) = true)
    (a25 : PySem.W.nsIn K mainGlobals "shares_in" = some (some (.ref f25))) (l25 : K.lookup f25 = some ⟨oc25, od25, .func (PySem.W.fnOf "shares_in" "shares_in" (defArgs (topS 25)) (defBody (topS 25)) (defScope (topS 25)) .none kV25 dc25 pm25 an25 cd25 ct25), sl25⟩) (c25 : PySem.W.codeIn K cd25 "shares_in" = true) (k25 : PySem.W.keepIn K (.ref f25) = true)
    (a26 : PySem.W.nsIn K mainGlobals "seller_shares" = some (some (.ref f26))) (l26 : K.lookup f26 = some ⟨oc26, od26, .func (PySem.W.fnOf "seller_shares" "seller_shares" (defArgs (topS 26)) (defBody (topS 26)) (defScope (topS 26)) .none kV26 dc26 pm26 an26 cd26 ct26), sl26⟩) (c26 : PySem.W.codeIn K cd26 "seller_shares" = true) (k26 : PySem.W.keepIn K (.ref f26) = true)
    (a27 : PySem.W.nsIn K mainGlobals "all_spots" = some (some (.ref f27))) (l27 : K.lookup f27 = some ⟨oc27, od27, .func (PySem.W.fnOf "all_spots" "all_spots" (defArgs (topS 27)) (defBody (topS 27)) (defScope (topS 27)) .none kV27 dc27 pm27 an27 cd27 ct27), sl27⟩) (c27 : PySem.W.codeIn K cd27 "all_spots" = true) (k27 : PySem.W.keepIn K (.ref f27) = true)
    (a28 : PySem.W.nsIn K mainGlobals "is_rest" = some (some (.ref f28))) (l28 : K.lookup f28 = some ⟨oc28, od28, .func (PySem.W.fnOf "is_rest" "is_rest" (defArgs (topS 28)) (defBody (topS 28)) (defScope (topS 28)) .none kV28 dc28 pm28 an28 cd28 ct28), sl28⟩) (c28 : PySem.W.codeIn K cd28 "is_rest" = true) (k28 : PySem.W.keepIn K (.ref f28) = true)
    (a29 : PySem.W.nsIn K mainGlobals "rests" = some (some (.ref f29))) (l29 : K.lookup f29 = some ⟨oc29, od29, .func (PySem.W.fnOf "rests" "rests" (defArgs (topS 29)) (defBody (topS 29)) (defScope (topS 29)) .none kV29 dc29 pm29 an29 cd29 ct29), sl29⟩) (c29 : PySem.W.codeIn K cd29 "rests" = true) (k29 : PySem.W.keepIn K (.ref f29) = true)
    (a31 : PySem.W.nsIn K mainGlobals "_law_taken" = some (some (.ref f31))) (l31 : K.lookup f31 = some ⟨oc31, od31, .func (PySem.W.fnOf "_law_taken" "_law_taken" (defArgs (topS 31)) (defBody (topS 31)) (defScope (topS 31)) .none kV31 dc31 pm31 an31 cd31 ct31), sl31⟩) (c31 : PySem.W.codeIn K cd31 "_law_taken" = true) (k31 : PySem.W.keepIn K (.ref f31) = true)
    (a32 : PySem.W.nsIn K mainGlobals "_law_pick" = some (some (.ref f32))) (l32 : K.lookup f32 = some ⟨oc32, od32, .func (PySem.W.fnOf "_law_pick" "_law_pick" (defArgs (topS 32)) (defBody (topS 32)) (defScope (topS 32)) .none kV32 dc32 pm32 an32 cd32 ct32), sl32⟩) (c32 : PySem.W.codeIn K cd32 "_law_pick" = true) (k32 : PySem.W.keepIn K (.ref f32) = true)
    (a33 : PySem.W.nsIn K mainGlobals "_law_line" = some (some (.ref f33))) (l33 : K.lookup f33 = some ⟨oc33, od33, .func (PySem.W.fnOf "_law_line" "_law_line" (defArgs (topS 33)) (defBody (topS 33)) (defScope (topS 33)) .none kV33 dc33 pm33 an33 cd33 ct33), sl33⟩) (c33 : PySem.W.codeIn K cd33 "_law_line" = true) (k33 : PySem.W.keepIn K (.ref f33) = true)
    (a34 : PySem.W.nsIn K mainGlobals "_law_line_sum" = some (some (.ref f34))) (l34 : K.lookup f34 = some ⟨oc34, od34, .func (PySem.W.fnOf "_law_line_sum" "_law_line_sum" (defArgs (topS 34)) (defBody (topS 34)) (defScope (topS 34)) .none kV34 dc34 pm34 an34 cd34 ct34), sl34⟩) (c34 : PySem.W.codeIn K cd34 "_law_line_sum" = true) (k34 : PySem.W.keepIn K (.ref f34) = true)
    (a35 : PySem.W.nsIn K mainGlobals "_law_grid" = some (some (.ref f35))) (l35 : K.lookup f35 = some ⟨oc35, od35, .func (PySem.W.fnOf "_law_grid" "_law_grid" (defArgs (topS 35)) (defBody (topS 35)) (defScope (topS 35)) .none kV35 dc35 pm35 an35 cd35 ct35), sl35⟩) (c35 : PySem.W.codeIn K cd35 "_law_grid" = true) (k35 : PySem.W.keepIn K (.ref f35) = true)
    (a36 : PySem.W.nsIn K mainGlobals "_law_alike" = some (some (.ref f36))) (l36 : K.lookup f36 = some ⟨oc36, od36, .func (PySem.W.fnOf "_law_alike" "_law_alike" (defArgs (topS 36)) (defBody (topS 36)) (defScope (topS 36)) .none kV36 dc36 pm36 an36 cd36 ct36), sl36⟩) (c36 : PySem.W.codeIn K cd36 "_law_alike" = true) (k36 : PySem.W.keepIn K (.ref f36) = true)
    (a37 : PySem.W.nsIn K mainGlobals "_law_gcd" = some (some (.ref f37))) (l37 : K.lookup f37 = some ⟨oc37, od37, .func (PySem.W.fnOf "_law_gcd" "_law_gcd" (defArgs (topS 37)) (defBody (topS 37)) (defScope (topS 37)) .none kV37 dc37 pm37 an37 cd37 ct37), sl37⟩) (c37 : PySem.W.codeIn K cd37 "_law_gcd" = true) (k37 : PySem.W.keepIn K (.ref f37) = true)
    (a38 : PySem.W.nsIn K mainGlobals "_law_ratio" = some (some (.ref f38))) (l38 : K.lookup f38 = some ⟨oc38, od38, .func (PySem.W.fnOf "_law_ratio" "_law_ratio" (defArgs (topS 38)) (defBody (topS 38)) (defScope (topS 38)) .none kV38 dc38 pm38 an38 cd38 ct38), sl38⟩) (c38 : PySem.W.codeIn K cd38 "_law_ratio" = true) (k38 : PySem.W.keepIn K (.ref f38) = true)
    (a39 : PySem.W.nsIn K mainGlobals "_law_plus" = some (some (.ref f39))) (l39 : K.lookup f39 = some ⟨oc39, od39, .func (PySem.W.fnOf "_law_plus" "_law_plus" (defArgs (topS 39)) (defBody (topS 39)) (defScope (topS 39)) .none kV39 dc39 pm39 an39 cd39 ct39), sl39⟩) (c39 : PySem.W.codeIn K cd39 "_law_plus" = true) (k39 : PySem.W.keepIn K (.ref f39) = true)
    (a40 : PySem.W.nsIn K mainGlobals "_law_sum" = some (some (.ref f40))) (l40 : K.lookup f40 = some ⟨oc40, od40, .func (PySem.W.fnOf "_law_sum" "_law_sum" (defArgs (topS 40)) (defBody (topS 40)) (defScope (topS 40)) .none kV40 dc40 pm40 an40 cd40 ct40), sl40⟩) (c40 : PySem.W.codeIn K cd40 "_law_sum" = true) (k40 : PySem.W.keepIn K (.ref f40) = true)
    (a41 : PySem.W.nsIn K mainGlobals "law" = some (some (.ref f41))) (l41 : K.lookup f41 = some ⟨oc41, od41, .func (PySem.W.fnOf "law" "law" (defArgs (topS 41)) (defBody (topS 41)) (defScope (topS 41)) .none kV41 dc41 pm41 an41 cd41 ct41), sl41⟩) (c41 : PySem.W.codeIn K cd41 "law" = true) (k41 : PySem.W.keepIn K (.ref f41) = true)
    (z0 : PySem.W.nsIn K mainGlobals "isinstance" = some none) (z1 : PySem.W.nsIn K mainGlobals "int" = some none) (z2 : PySem.W.nsIn K mainGlobals "bool" = some none) (z3 : PySem.W.nsIn K mainGlobals "abs" = some none) (z4 : PySem.W.nsIn K mainGlobals "tuple" = some none) (z5 : PySem.W.nsIn K mainGlobals "len" = some none) (z6 : PySem.W.nsIn K mainGlobals "enumerate" = some none) (z7 : PySem.W.nsIn K mainGlobals "sum" = some none) (z8 : PySem.W.nsIn K mainGlobals "min" = some none) (z9 : PySem.W.nsIn K mainGlobals "max" = some none) (z10 : PySem.W.nsIn K mainGlobals "range" = some none) (z11 : PySem.W.nsIn K mainGlobals "sorted" = some none) (z12 : PySem.W.nsIn K mainGlobals "list" = some none) (z13 : PySem.W.nsIn K mainGlobals "str" = some none)
    (q0 : PySem.W.nsIn K mainGlobals "MOST_POINTS" = some (some (.int 10 t0))) (q1 : PySem.W.nsIn K mainGlobals "MOST_POSITION" = some (some (.int 1000 t1))) (q2 : PySem.W.nsIn K mainGlobals "MOST_WEIGHT" = some (some (.int 100 t2))) (q3 : PySem.W.nsIn K mainGlobals "MOST_SELLERS" = some (some (.int 4 t3))) :
    ∃ fd : FuncData, (∀ (s : Shared) (v : Value), BindsTo s fd ⟨[v], []⟩ [("_law_script", v)]) ∧ ∀ base : Heap, K.In base → base.Ns mainGlobals mg → FnOk l.prog w K mg base CX0 7 fa fd ["_law_script"] (spLaw K) := by
  have e := hfa.symm.trans (PySem.W.mg_of X G a41)
  cases e
  have T : Txt mg := ⟨PySem.W.mg_none_of X G z0, PySem.W.mg_none_of X G z1, PySem.W.mg_none_of X G z2, PySem.W.mg_none_of X G z3, PySem.W.mg_none_of X G z4, PySem.W.mg_none_of X G z5, PySem.W.mg_none_of X G z6, PySem.W.mg_none_of X G z7, PySem.W.mg_none_of X G z8, PySem.W.mg_none_of X G z9, PySem.W.mg_none_of X G z10, PySem.W.mg_none_of X G z11, PySem.W.mg_none_of X G z12, PySem.W.mg_none_of X G z13, ⟨t0, PySem.W.mg_of X G q0⟩, ⟨t1, PySem.W.mg_of X G q1⟩, ⟨t2, PySem.W.mg_of X G q2⟩, ⟨t3, PySem.W.mg_of X G q3⟩⟩
  have D7 : Df K mg "is_in" (topS 7) := df_of X G (at_mk a7 l7 c7 k7)
  have D8 : Df K mg "gcd" (topS 8) := df_of X G (at_mk a8 l8 c8 k8)
  have D9 : Df K mg "reduced" (topS 9) := df_of X G (at_mk a9 l9 c9 k9)
  have D10 : Df K mg "plus" (topS 10) := df_of X G (at_mk a10 l10 c10 k10)
  have D11 : Df K mg "is_below" (topS 11) := df_of X G (at_mk a11 l11 c11 k11)
  have D16 : Df K mg "is_spot" (topS 16) := df_of X G (at_mk a16 l16 c16 k16)
  have D17 : Df K mg "need_line" (topS 17) := df_of X G (at_mk a17 l17 c17 k17)
  have D18 : Df K mg "need_number" (topS 18) := df_of X G (at_mk a18 l18 c18 k18)
  have D19 : Df K mg "part_sum" (topS 19) := df_of X G (at_mk a19 l19 c19 k19)
  have D20 : Df K mg "part_cost" (topS 20) := df_of X G (at_mk a20 l20 c20 k20)
  have D21 : Df K mg "best_rows" (topS 21) := df_of X G (at_mk a21 l21 c21 k21)
  have D22 : Df K mg "line_houses" (topS 22) := df_of X G (at_mk a22 l22 c22 k22)
  have D25 : Df K mg "shares_in" (topS 25) := df_of X G (at_mk a25 l25 c25 k25)
  have D26 : Df K mg "seller_shares" (topS 26) := df_of X G (at_mk a26 l26 c26 k26)
  have D27 : Df K mg "all_spots" (topS 27) := df_of X G (at_mk a27 l27 c27 k27)
  have D28 : Df K mg "is_rest" (topS 28) := df_of X G (at_mk a28 l28 c28 k28)
  have D29 : Df K mg "rests" (topS 29) := df_of X G (at_mk a29 l29 c29 k29)
  have D31 : Df K mg "_law_taken" (topS 31) := df_of X G (at_mk a31 l31 c31 k31)
  have D32 : Df K mg "_law_pick" (topS 32) := df_of X G (at_mk a32 l32 c32 k32)
  have D33 : Df K mg "_law_line" (topS 33) := df_of X G (at_mk a33 l33 c33 k33)
  have D34 : Df K mg "_law_line_sum" (topS 34) := df_of X G (at_mk a34 l34 c34 k34)
  have D35 : Df K mg "_law_grid" (topS 35) := df_of X G (at_mk a35 l35 c35 k35)
  have D36 : Df K mg "_law_alike" (topS 36) := df_of X G (at_mk a36 l36 c36 k36)
  have D37 : Df K mg "_law_gcd" (topS 37) := df_of X G (at_mk a37 l37 c37 k37)
  have D38 : Df K mg "_law_ratio" (topS 38) := df_of X G (at_mk a38 l38 c38 k38)
  have D39 : Df K mg "_law_plus" (topS 39) := df_of X G (at_mk a39 l39 c39 k39)
  have D40 : Df K mg "_law_sum" (topS 40) := df_of X G (at_mk a40 l40 c40 k40)
  have F := fun_mk (st := topS 41) l41 c41 k41
  refine ⟨PySem.W.fnOf "law" "law" (defArgs (topS 41)) (defBody (topS 41)) (defScope (topS 41)) .none kV41 dc41 pm41 an41 cd41 ct41, fun s v => .of_eq rfl, fun base _ _ => ?_⟩
  have c7 := is_in_ok (P := l.prog) (w := w) (base := base) T D7
  have c8 := gcd_ok (P := l.prog) (w := w) (base := base) T D8
  have c9 := reduced_ok D9 c8
  have c10 := plus_ok D10 c9
  have c11 := is_below_ok (P := l.prog) (w := w) (base := base) D11
  have c16 := is_spot_ok T D16 c7
  have c17 := need_line_ok T D17 c16
  have c18 := need_number_ok T D18 c7
  have c19 := part_sum_ok (P := l.prog) (w := w) (base := base) T D19
  have c20 := part_cost_ok T D20 c19
  have c21 := best_ok T D21 c20
  have c22 := houses_ok T D22 c17 c18 c21
  have c25 := shares_ok T D25 c10 c9
  have c26 := sell_ok T D26 c17 c7 c25
  have c27 := spots_ok (P := l.prog) (w := w) (base := base) T D27
  have c28 := rest_ok T D28 c25 c11
  have c29 := rests_ok T D29 c17 c7 c27 c28
  have c31 := taken_ok (P := l.prog) (w := w) (base := base) T D31
  have c32 := pick_ok T D32 c31
  have c33 := line_ok T D33 c31 c32
  have c34 := line_sum_ok (P := l.prog) (w := w) (base := base) T D34
  have c35 := grid_ok (P := l.prog) (w := w) (base := base) D35
  have c36 := alike_ok (P := l.prog) (w := w) (base := base) T D36 2
  have c37 := lgcd_ok (P := l.prog) (w := w) (base := base) T D37
  have c38 := lratio_ok D38 c37
  have c39 := lplus_ok D39 c38
  have c40 := lsum_ok D40 c39
  exact law_ok T F ⟨c33, c31, c34, c35, c36, c38, c40, c29, c22, c26⟩
theorem walk {l : PySem.W.OpenLaw} {q : Program} {loose : List Str} {XP : (Str → Option Value) → Heap → Prop} {YP : World → Heap → Prop} {d : DefRec} {K : Params → PySem.W.Frag} (hn : l.most = some 63) (hdf : d.params.defaults = [])
    (hY : ∀ (w : World) (h : Heap), YP w h → (K w.params).In h)
    (F : ∀ (w : World) (mg : Str → Option Value) (fa : Addr) (h : Heap), (K w.params).In h → h.Ns mainGlobals mg → mg d.name = some (.ref fa) →
      ∃ fd : FuncData, (∀ (s : Shared) (u : Value), BindsTo s fd ⟨[u], []⟩ [("_law_script", u)]) ∧ ∀ base : Heap, (K w.params).In base → base.Ns mainGlobals mg → FnOk l.prog w (K w.params) mg base CX0 7 fa fd ["_law_script"] (spLaw (K w.params))) :
    PySem.W.WalkO q loose XP YP l.row.toRowW d [] (fun f vs => PySem.call f vs) :=
  L2.walk_of (n := 63) (k := 7) (x := "_law_script") (CX := fun _ => CX0) (sp := fun w => spLaw (K w.params)) hn (by decide) hdf ⟨rfl, by decide, by decide⟩ hY F (fun _ _ a ns hl _ hS => ⟨a, ns, rfl, hS, hl, fun _ => rfl⟩) fun _ _ _ _ _ z => z
end K58
open PySem PySem.W PyProof.Rows
set_option maxRecDepth 100000 in
set_option maxHeartbeats 0 in
theorem PySem.Challenge.cw_nearhouses_k58_whole_two_sellers_holds : PySem.Challenge.rw_nearhouses_k58_whole_two_sellers.Holds := by
  w_on; o_law; k_head; (case hw => w_witness2)
  k_fill
  refine K58.walk (l := PySem.Challenge.rw_nearhouses_k58_whole_two_sellers) rfl rfl (fun w h Y => PySem.W.kIn_of Y) ?F
  case F =>
    intro w mg fa h KX G hmg
    refine' K58.all_mk KX G hmg ?a7 ?l7 ?c7 ?k7 ?a8 ?l8 ?c8 ?k8 ?a9 ?l9 ?c9 ?k9 ?a10 ?l10 ?c10 ?k10 ?a11 ?l11 ?c11 ?k11 ?a16 ?l16 ?c16 ?k16 ?a17 ?l17 ?c17 ?k17 ?a18 ?l18 ?c18 ?k18 ?a19 ?l19 ?c19 ?k19 ?a20 ?l20 ?c20 ?k20 ?a21 ?l21 ?c21 ?k21 ?a22 ?l22 ?c22 ?k22 ?a25 ?l25 ?c25 ?k25 ?a26 ?l26 ?c26 ?k26 ?a27 ?l27 ?c27 ?k27 ?a28 ?l28 ?c28 ?k28 ?a29 ?l29 ?c29 ?k29 ?a31 ?l31 ?c31 ?k31 ?a32 ?l32 ?c32 ?k32 ?a33 ?l33 ?c33 ?k33 ?a34 ?l34 ?c34 ?k34 ?a35 ?l35 ?c35 ?k35 ?a36 ?l36 ?c36 ?k36 ?a37 ?l37 ?c37 ?k37 ?a38 ?l38 ?c38 ?k38 ?a39 ?l39 ?c39 ?k39 ?a40 ?l40 ?c40 ?k40 ?a41 ?l41 ?c41 ?k41 ?z0 ?z1 ?z2 ?z3 ?z4 ?z5 ?z6 ?z7 ?z8 ?z9 ?z10 ?z11 ?z12 ?z13 ?q0 ?q1 ?q2 ?q3
    (case a7 => k_is)
    (case l7 => k_is)
    (case c7 => k_is)
    (case k7 => k_is)
    (case a8 => k_is)
    (case l8 => k_is)
    (case c8 => k_is)
    (case k8 => k_is)
    (case a9 => k_is)
    (case l9 => k_is)
    (case c9 => k_is)
    (case k9 => k_is)
    (case a10 => k_is)
    (case l10 => k_is)
    (case c10 => k_is)
    (case k10 => k_is)
    (case a11 => k_is)
    (case l11 => k_is)
    (case c11 => k_is)
    (case k11 => k_is)
    (case a16 => k_is)
    (case l16 => k_is)
    (case c16 => k_is)
    (case k16 => k_is)
    (case a17 => k_is)
    (case l17 => k_is)
    (case c17 => k_is)
    (case k17 => k_is)
    (case a18 => k_is)
    (case l18 => k_is)
    (case c18 => k_is)
    (case k18 => k_is)
    (case a19 => k_is)
    (case l19 => k_is)
    (case c19 => k_is)
    (case k19 => k_is)
    (case a20 => k_is)
    (case l20 => k_is)
    (case c20 => k_is)
    (case k20 => k_is)
    (case a21 => k_is)
    (case l21 => k_is)
    (case c21 => k_is)
    (case k21 => k_is)
    (case a22 => k_is)
    (case l22 => k_is)
    (case c22 => k_is)
    (case k22 => k_is)
    (case a25 => k_is)
    (case l25 => k_is)
    (case c25 => k_is)
    (case k25 => k_is)
    (case a26 => k_is)
    (case l26 => k_is)
    (case c26 => k_is)
    (case k26 => k_is)
    (case a27 => k_is)
    (case l27 => k_is)
    (case c27 => k_is)
    (case k27 => k_is)
    (case a28 => k_is)
    (case l28 => k_is)
    (case c28 => k_is)
    (case k28 => k_is)
    (case a29 => k_is)
    (case l29 => k_is)
    (case c29 => k_is)
    (case k29 => k_is)
    (case a31 => k_is)
    (case l31 => k_is)
    (case c31 => k_is)
    (case k31 => k_is)
    (case a32 => k_is)
    (case l32 => k_is)
    (case c32 => k_is)
    (case k32 => k_is)
    (case a33 => k_is)
    (case l33 => k_is)
    (case c33 => k_is)
    (case k33 => k_is)
    (case a34 => k_is)
    (case l34 => k_is)
    (case c34 => k_is)
    (case k34 => k_is)
    (case a35 => k_is)
    (case l35 => k_is)
    (case c35 => k_is)
    (case k35 => k_is)
    (case a36 => k_is)
    (case l36 => k_is)
    (case c36 => k_is)
    (case k36 => k_is)
    (case a37 => k_is)
    (case l37 => k_is)
    (case c37 => k_is)
    (case k37 => k_is)
    (case a38 => k_is)
    (case l38 => k_is)
    (case c38 => k_is)
    (case k38 => k_is)
    (case a39 => k_is)
    (case l39 => k_is)
    (case c39 => k_is)
    (case k39 => k_is)
    (case a40 => k_is)
    (case l40 => k_is)
    (case c40 => k_is)
    (case k40 => k_is)
    (case a41 => k_is)
    (case l41 => k_is)
    (case c41 => k_is)
    (case k41 => k_is)
    (case z0 => k_is)
    (case z1 => k_is)
    (case z2 => k_is)
    (case z3 => k_is)
    (case z4 => k_is)
    (case z5 => k_is)
    (case z6 => k_is)
    (case z7 => k_is)
    (case z8 => k_is)
    (case z9 => k_is)
    (case z10 => k_is)
    (case z11 => k_is)
    (case z12 => k_is)
    (case z13 => k_is)
    (case q0 => k_is)
    (case q1 => k_is)
    (case q2 => k_is)
    (case q3 => k_is)
