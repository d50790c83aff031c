import PyProof.Rows.All
import Wide.All
import OpenK.AllK
import Wide.FinOn
import Open.SpecLaws
import KE.OsGo
import HandS.ForSpec
import HandS.Comp
import HandS.Wide
import HandS.Style
import HandS.NoneIn
import PySem.Challenge.RW_tanyard_s01_answers
set_option Elab.async false
set_option linter.all false
set_option maxRecDepth 100000
set_option maxHeartbeats 2000000
set_option exponentiation.threshold 10000
section
namespace Tan
open Kp395

/-! ### whole numbers among the fractions -/
def IsZ (q : Rat) : Prop := ∃ z : Int, q = (z : Rat)
theorem IsZ.int (z : Int) : IsZ (z : Rat) := ⟨z, rfl⟩
theorem IsZ.nat (n : Nat) : IsZ (n : Rat) := ⟨(n : Int), (Rat.intCast_natCast n).symm⟩
theorem IsZ.add {a b : Rat} : IsZ a → IsZ b → IsZ (a + b) := fun ⟨x, hx⟩ ⟨y, hy⟩ => ⟨x + y, by rw [hx, hy, Rat.intCast_add]⟩
theorem IsZ.sub {a b : Rat} : IsZ a → IsZ b → IsZ (a - b) := fun ⟨x, hx⟩ ⟨y, hy⟩ => ⟨x - y, by rw [hx, hy, Rat.intCast_sub]⟩
theorem IsZ.mul {a b : Rat} : IsZ a → IsZ b → IsZ (a * b) := fun ⟨x, hx⟩ ⟨y, hy⟩ => ⟨x * y, by rw [hx, hy, Rat.intCast_mul]⟩
theorem den_pos (q : Rat) : 0 < q.den := Nat.pos_of_ne_zero q.den_nz
theorem den_cast_ne (q : Rat) : (q.den : Rat) ≠ 0 := Rat.ne_of_gt (Rat.natCast_pos.mpr (den_pos q))
theorem eq_div (q : Rat) : q = (q.num : Rat) / (q.den : Rat) := by
  have h := Rat.num_divInt_den q
  rw [Rat.divInt_eq_div, Rat.intCast_natCast] at h
  exact h.symm
theorem mul_den (q : Rat) : q * (q.den : Rat) = (q.num : Rat) := by
  have h := eq_div q
  have h2 := Rat.div_mul_cancel (a := (q.num : Rat)) (den_cast_ne q)
  rw [← h] at h2
  exact h2
theorem isz_of_den {q : Rat} {D : Nat} (h : q.den ∣ D) : IsZ (q * (D : Rat)) := by
  obtain ⟨k, rfl⟩ := h
  rw [Rat.natCast_mul, ← Rat.mul_assoc, mul_den]
  exact (IsZ.int _).mul (IsZ.nat _)
theorem den_dvd {q : Rat} {D : Nat} (hD : 0 < D) (h : IsZ (q * (D : Rat))) : q.den ∣ D := by
  obtain ⟨z, hz⟩ := h
  have d : (D : Rat) ≠ 0 := Rat.ne_of_gt (Rat.natCast_pos.mpr hD)
  have e : q = Rat.divInt z (D : Int) := by
    rw [Rat.divInt_eq_div, Rat.intCast_natCast, ← hz, Rat.mul_div_cancel d]
  rw [e, Rat.den_divInt, if_neg (by omega)]
  exact Nat.div_dvd_of_dvd (by rw [Int.gcd_comm]; exact Int.ofNat_dvd_left.mp (Int.gcd_dvd_right _ _))

/-! ### what share makes -/
/-- the numbers of a / b -/
theorem num_div {a b : Int} (hb : 0 < b) : ((a : Rat) / (b : Rat)).num = a / (a.natAbs.gcd b.natAbs : Int) := by
  rw [← Rat.divInt_eq_div, Rat.num_divInt, Int.sign_eq_one_of_pos hb, Int.one_mul, Int.gcd_comm]
  rfl
theorem den_div {a b : Int} (hb : 0 < b) : ((((a : Rat) / (b : Rat)).den : Nat) : Int) = b / (a.natAbs.gcd b.natAbs : Int) := by
  rw [← Rat.divInt_eq_div, Rat.den_divInt, if_neg (by omega), Int.gcd_comm]
  have e : (b.natAbs : Int) = b := by omega
  rw [Int.natCast_ediv, e]
  rfl
theorem add_div (x y : Rat) : x + y = ((x.num * y.den + y.num * x.den : Int) : Rat) / ((x.den * y.den : Int) : Rat) := by
  have hx := den_cast_ne x
  have hy := den_cast_ne y
  have ex := eq_div x
  have ey := eq_div y
  rw [Rat.intCast_add, Rat.intCast_mul, Rat.intCast_mul, Rat.intCast_mul, Rat.intCast_natCast, Rat.intCast_natCast]
  generalize (x.num : Rat) = a at *
  generalize (y.num : Rat) = b at *
  generalize (x.den : Rat) = c at *
  generalize (y.den : Rat) = d at *
  subst ex ey
  grind
theorem sub_div (x y : Rat) : x - y = ((x.num * y.den - y.num * x.den : Int) : Rat) / ((x.den * y.den : Int) : Rat) := by
  have hx := den_cast_ne x
  have hy := den_cast_ne y
  have ex := eq_div x
  have ey := eq_div y
  rw [Rat.intCast_sub, Rat.intCast_mul, Rat.intCast_mul, Rat.intCast_mul, Rat.intCast_natCast, Rat.intCast_natCast]
  generalize (x.num : Rat) = a at *
  generalize (y.num : Rat) = b at *
  generalize (x.den : Rat) = c at *
  generalize (y.den : Rat) = d at *
  subst ex ey
  grind
theorem mul_div (k : Int) (x : Rat) : (k : Rat) * x = ((k * x.num : Int) : Rat) / ((x.den : Int) : Rat) := by
  have hx := den_cast_ne x
  have ex := eq_div x
  rw [Rat.intCast_mul, Rat.intCast_natCast]
  generalize (x.num : Rat) = a at *
  generalize (x.den : Rat) = c at *
  subst ex
  grind
/-- mixed: (p a + l b) / (p + l) -/
theorem mix_div {p l : Int} (h : 0 < p + l) (x y : Rat) : ((p : Rat) * x + (l : Rat) * y) / ((p : Rat) + (l : Rat)) = ((p * x.num * y.den + l * y.num * x.den : Int) : Rat) / (((p + l) * x.den * y.den : Int) : Rat) := by
  have hx := den_cast_ne x
  have hy := den_cast_ne y
  have ex := eq_div x
  have ey := eq_div y
  have hs : (p : Rat) + (l : Rat) ≠ 0 := by
    rw [← Rat.intCast_add]
    exact Rat.ne_of_gt (Rat.intCast_pos.mpr h)
  rw [Rat.intCast_add, Rat.intCast_mul, Rat.intCast_mul, Rat.intCast_mul, Rat.intCast_mul, Rat.intCast_mul, Rat.intCast_mul, Rat.intCast_add, Rat.intCast_natCast, Rat.intCast_natCast]
  generalize (x.num : Rat) = a at *
  generalize (y.num : Rat) = b at *
  generalize (x.den : Rat) = c at *
  generalize (y.den : Rat) = d at *
  generalize (p : Rat) = u at *
  generalize (l : Rat) = v at *
  subst ex ey
  grind
theorem le_frac (x y : Rat) : (x ≤ y) = (x.num * y.den ≤ y.num * x.den) := propext (Rat.le_iff x y)
/-- Euclid's turn -/
theorem gcd_turn (a b : Nat) : (b % a).gcd a = a.gcd b := (Nat.gcd_rec a b).symm

/-! ### sizes -/
def Nice (k : Nat) (q : Rat) : Prop := q.num.natAbs < 2 ^ k ∧ q.den < 2 ^ k
theorem Nice.mono {k m : Nat} {q : Rat} (h : Nice k q) (hm : k ≤ m) : Nice m q :=
  ⟨Nat.lt_of_lt_of_le h.1 (Nat.pow_le_pow_right (by decide) hm), Nat.lt_of_lt_of_le h.2 (Nat.pow_le_pow_right (by decide) hm)⟩
/-- a bound of the value and of the bottom give one of the top -/
theorem num_le {q : Rat} {B D : Nat} (h0 : -(B : Rat) ≤ q) (h1 : q ≤ (B : Rat)) (hd : q.den ≤ D) : q.num.natAbs ≤ B * D := by
  have m := mul_den q
  have p : (0 : Rat) ≤ (q.den : Rat) := Rat.le_of_lt (Rat.natCast_pos.mpr (den_pos q))
  have a := Rat.mul_le_mul_of_nonneg_right h0 p
  have b := Rat.mul_le_mul_of_nonneg_right h1 p
  rw [m] at a b
  have b' : q.num ≤ ((B * q.den : Nat) : Int) := by
    rw [← Rat.natCast_mul, ← Rat.intCast_natCast, Rat.intCast_le_intCast] at b
    exact b
  have a' : -((B * q.den : Nat) : Int) ≤ q.num := by
    rw [Rat.neg_mul, ← Rat.natCast_mul, ← Rat.intCast_natCast, ← Rat.intCast_neg, Rat.intCast_le_intCast] at a
    exact a
  have c : B * q.den ≤ B * D := Nat.mul_le_mul_left _ hd
  omega
theorem nice_of {q : Rat} {B D : Nat} {j k : Nat} (h0 : -(B : Rat) ≤ q) (h1 : q ≤ (B : Rat)) (hd : q.den ≤ D) (hB : B < 2 ^ j) (hD : D < 2 ^ k) : Nice (j + k) q := by
  have h := num_le h0 h1 hd
  refine ⟨Nat.lt_of_le_of_lt h ?_, Nat.lt_of_le_of_lt hd (Nat.lt_of_lt_of_le hD (Nat.pow_le_pow_right (by decide) (by omega)))⟩
  rw [Nat.pow_add]
  exact Nat.mul_lt_mul'' hB hD
/-- what comes of share is no greater than what was handed in -/
theorem nice_share {a b : Int} {k : Nat} (hb : 0 < b) (ha : a.natAbs < 2 ^ k) (hb2 : b.natAbs < 2 ^ k) : Nice k ((a : Rat) / (b : Rat)) := by
  refine ⟨?_, ?_⟩
  · rw [num_div hb]
    refine Nat.lt_of_le_of_lt ?_ ha
    rw [Int.natAbs_ediv_of_dvd (Int.ofNat_dvd_left.mpr (Nat.gcd_dvd_left _ _))]
    exact Nat.div_le_self _ _
  · have e := den_div (a := a) hb
    have e2 : b / (a.natAbs.gcd b.natAbs : Int) ≤ b := Int.ediv_le_self _ (by omega)
    omega
theorem pow_double {k : Nat} {a b : Nat} (ha : a < 2 ^ k) (hb : b < 2 ^ k) : a + b < 2 ^ (k + 1) := by
  rw [Nat.pow_succ]
  omega
theorem nice_add {k m : Nat} {x y : Rat} (hx : Nice k x) (hy : Nice m y) : Nice (k + m + 1) (x + y) := by
  rw [add_div]
  have px := den_pos x
  have py := den_pos y
  refine nice_share (by rw [← Int.natCast_mul]; exact Int.natCast_pos.mpr (Nat.mul_pos px py)) ?_ ?_
  · refine Nat.lt_of_le_of_lt (Int.natAbs_add_le _ _) (pow_double ?_ ?_)
    · rw [Int.natAbs_mul, Nat.pow_add]
      exact Nat.mul_lt_mul'' hx.1 hy.2
    · rw [Int.natAbs_mul, Nat.add_comm k m, Nat.pow_add]
      exact Nat.mul_lt_mul'' hy.1 hx.2
  · refine Nat.lt_of_lt_of_le ?_ (Nat.pow_le_pow_right (by decide) (Nat.le_succ (k + m)))
    rw [Int.natAbs_mul, Nat.pow_add]
    exact Nat.mul_lt_mul'' hx.2 hy.2
theorem nice_neg {k : Nat} {x : Rat} (h : Nice k x) : Nice k (-x) := ⟨by rw [Rat.neg_num, Int.natAbs_neg]; exact h.1, h.2⟩
theorem nice_sub {k m : Nat} {x y : Rat} (hx : Nice k x) (hy : Nice m y) : Nice (k + m + 1) (x - y) := by
  rw [Rat.sub_eq_add_neg]
  exact nice_add hx (nice_neg hy)
theorem nice_mul {k m : Nat} {c : Int} {x : Rat} (hc : c.natAbs < 2 ^ m) (hx : Nice k x) : Nice (m + k) ((c : Rat) * x) := by
  rw [mul_div]
  have px := den_pos x
  refine nice_share (Int.natCast_pos.mpr px) ?_ ?_
  · rw [Int.natAbs_mul, Nat.pow_add]
    exact Nat.mul_lt_mul'' hc hx.1
  · exact Nat.lt_of_lt_of_le hx.2 (Nat.pow_le_pow_right (by decide) (by omega))
theorem nice_mix {k m : Nat} {p l : Int} {x y : Rat} (h : 0 < p + l) (hp : p.natAbs < 1024) (hl : l.natAbs < 1024) (hx : Nice k x) (hy : Nice m y) : Nice (10 + k + m + 1) (((p : Rat) * x + (l : Rat) * y) / ((p : Rat) + (l : Rat))) := by
  rw [mix_div h]
  have px := den_pos x
  have py := den_pos y
  have t1 : (1024 : Nat) = 2 ^ 10 := rfl
  refine nice_share (Int.mul_pos (Int.mul_pos h (Int.natCast_pos.mpr px)) (Int.natCast_pos.mpr py)) ?_ ?_
  · refine Nat.lt_of_le_of_lt (Int.natAbs_add_le _ _) (pow_double ?_ ?_)
    · rw [Int.natAbs_mul, Int.natAbs_mul, Nat.pow_add, Nat.pow_add]
      exact Nat.mul_lt_mul'' (Nat.mul_lt_mul'' hp hx.1) hy.2
    · rw [Int.natAbs_mul, Int.natAbs_mul, Nat.add_assoc, Nat.add_comm k m, ← Nat.add_assoc, Nat.pow_add, Nat.pow_add]
      exact Nat.mul_lt_mul'' (Nat.mul_lt_mul'' hl hy.1) hx.2
  · rw [show 10 + k + m + 1 = 11 + k + m by omega, Int.natAbs_mul, Int.natAbs_mul, Nat.pow_add, Nat.pow_add]
    exact Nat.mul_lt_mul'' (Nat.mul_lt_mul'' (by have := Int.natAbs_add_le p l; omega) hx.2) hy.2
end Tan
end
section
namespace Tan
open Kp395

/-- D k = sum over j <= k of l^j p^(k-j) -/
def dd (p l : Rat) : Nat → Rat
  | 0 => 1
  | k + 1 => p * dd p l k + l ^ (k + 1)
theorem dd_succ (p l : Rat) (k : Nat) : dd p l (k + 1) = p * dd p l k + l ^ (k + 1) := rfl
theorem dd_succ' (p l : Rat) : ∀ k : Nat, dd p l (k + 1) = l * dd p l k + p ^ (k + 1)
  | 0 => by simp only [dd]; grind
  | k + 1 => by
    have h := dd_succ' p l k
    have h1 := dd_succ p l k
    have h2 := dd_succ p l (k + 1)
    grind
theorem dd_rec (p l : Rat) (k : Nat) : (p + l) * dd p l (k + 1) = dd p l (k + 2) + l * p * dd p l k := by
  have h1 := dd_succ p l (k + 1)
  have h2 := dd_succ' p l k
  have h3 := dd_succ p l k
  grind
theorem dd_pos {p l : Rat} (hp : 0 < p) (hl : 0 < l) : ∀ k, 0 < dd p l k
  | 0 => by simp only [dd]; decide
  | k + 1 => by
    have h := dd_pos hp hl k
    have h1 := Rat.mul_pos hp h
    have h2 : 0 < l ^ (k + 1) := Rat.pow_pos hl
    rw [dd_succ]
    grind
theorem dd_ne {p l : Rat} (hp : 0 < p) (hl : 0 < l) (k : Nat) : dd p l k ≠ 0 := Rat.ne_of_gt (dd_pos hp hl k)

/-- the solution at place i of n -/
def xx (p l f r : Rat) (n i : Nat) : Rat := r + (f - r) * (p ^ (n - i) * dd p l i) / dd p l n

/-! ### matrices -/
def mat (n : Nat) (A : Nat → Nat → Rat) (c : Nat → Rat) : List (List Rat) := (List.range n).map fun i => (List.range n).map (A i) ++ [c i]
theorem mat_len (n : Nat) (A : Nat → Nat → Rat) (c : Nat → Rat) : (mat n A c).length = n := by simp [mat]
theorem mat_getD {n : Nat} {A : Nat → Nat → Rat} {c : Nat → Rat} {i : Nat} (h : i < n) : (mat n A c).getD i [] = (List.range n).map (A i) ++ [c i] := by
  simp [mat, List.getD, h]
theorem row_getD {n : Nat} {a : Nat → Rat} {c : Rat} {j : Nat} (h : j < n) : ((List.range n).map a ++ [c]).getD j 0 = a j := by
  rw [List.getD_eq_getElem?_getD, List.getElem?_append_left (by simpa using h)]
  simp [h]
theorem row_last {n : Nat} {a : Nat → Rat} {c : Rat} : ((List.range n).map a ++ [c]).getD n 0 = c := by
  simp [List.getD]
def stepA (A : Nat → Nat → Rat) (k i j : Nat) : Rat := if i = k then A k j / A k k else A i j - A i k * (A k j / A k k)
def stepC (A : Nat → Nat → Rat) (c : Nat → Rat) (k i : Nat) : Rat := if i = k then c k / A k k else c i - A i k * (c k / A k k)
theorem zip_row (n : Nat) (g : Rat → Rat → Rat) (a b : Nat → Rat) (x y : Rat) : List.zipWith g ((List.range n).map a ++ [x]) ((List.range n).map b ++ [y]) = (List.range n).map (fun j => g (a j) (b j)) ++ [g x y] := by
  rw [List.zipWith_append (by simp)]
  simp [List.zipWith_map_left, List.zipWith_map_right, List.zipWith_self]
theorem elim_mat {n k : Nat} {A : Nat → Nat → Rat} {c : Nat → Rat} (hk : k < n) (hp : A k k ≠ 0) : eliminate n (mat n A c) k = mat n (stepA A k) (stepC A c k) := by
  unfold eliminate
  have hf : ((List.range n).find? fun i => decide (k ≤ i) && ((mat n A c).getD i []).getD k 0 != 0) = some k := by
    rw [List.find?_range_eq_some]
    refine ⟨?_, List.mem_range.mpr hk, ?_⟩
    · rw [mat_getD hk, row_getD hk]
      simp [hp]
    · intro j hj
      simp [Nat.not_le.mpr hj]
  rw [hf]
  simp only
  rw [mat_getD hk, row_getD hk]
  apply List.ext_getElem
  · simp [mat]
  · intro i h1 h2
    have hi : i < n := by simpa [mat] using h2
    rw [List.getElem_map, List.getElem_zipIdx]
    simp only [Nat.zero_add]
    by_cases e : i = k
    · subst e
      simp only [if_pos, List.getElem_set_self]
      simp only [mat, List.getElem_map, List.getElem_range, List.map_append, List.map_map, List.map_cons, List.map_nil, stepC, if_pos]
      congr 1
      apply List.map_congr_left
      intro j _
      unfold stepA
      rw [if_pos rfl]
      rfl
    · rw [if_neg e, List.getElem_set_ne (fun z => e z.symm), List.getElem_set_ne (fun z => e z.symm)]
      have hr : (mat n A c)[i]'(by simpa [mat] using hi) = (List.range n).map (A i) ++ [c i] := by simp [mat]
      rw [hr, row_getD hk]
      simp only [List.map_append, List.map_map, List.map_cons, List.map_nil]
      rw [zip_row]
      simp only [mat, List.getElem_map, List.getElem_range, stepC, if_neg e]
      congr 1
      apply List.map_congr_left
      intro j _
      unfold stepA
      rw [if_neg e]
      rfl
theorem mat_congr {n : Nat} {A B : Nat → Nat → Rat} {c d : Nat → Rat} (h : ∀ i j, i < n → j < n → A i j = B i j) (h' : ∀ i, i < n → c i = d i) : mat n A c = mat n B d := by
  unfold mat
  apply List.map_congr_left
  intro i hi
  have hi := List.mem_range.mp hi
  rw [h' i hi]
  congr 1
  apply List.map_congr_left
  intro j hj
  exact h i j hi (List.mem_range.mp hj)

/-- the matrix behind k columns -/
def aa (p l : Rat) (k i j : Nat) : Rat :=
  if i < k then (if j = i then 1 else if j = k then -(p ^ (k - i) * dd p l i / dd p l k) else 0)
  else if i = k then (if j = k then dd p l (k + 1) / dd p l k else if j = k + 1 then -p else 0)
  else (if j = i then p + l else if j = i + 1 then -p else if j + 1 = i then -l else 0)
def cc (p l : Rat) (x : Nat → Rat) (n k i : Nat) : Rat :=
  if i < k then x i - (if k < n then p ^ (k - i) * dd p l i / dd p l k * x k else 0)
  else if i = k then dd p l (k + 1) / dd p l k * x k - (if k + 1 < n then p * x (k + 1) else 0)
  else (p + l) * x i - l * x (i - 1) - (if i + 1 < n then p * x (i + 1) else 0)
theorem stepA_aa {p l : Rat} (hp : 0 < p) (hl : 0 < l) (k i j : Nat) : stepA (aa p l k) k i j = aa p l (k + 1) i j := by
  have d0 := dd_ne hp hl k
  have d1 := dd_ne hp hl (k + 1)
  have piv : aa p l k k k = dd p l (k + 1) / dd p l k := by unfold aa; simp
  unfold stepA
  rw [piv]
  have hq : aa p l k k j / (dd p l (k + 1) / dd p l k) = if j = k then 1 else if j = k + 1 then -(p * dd p l k / dd p l (k + 1)) else 0 := by
    unfold aa
    rw [if_neg (Nat.lt_irrefl k), if_pos rfl]
    split
    · grind
    · split
      · grind
      · grind
  rw [hq]
  by_cases e : i = k
  · subst e
    rw [if_pos rfl]
    unfold aa
    rw [if_pos (Nat.lt_succ_self i)]
    have : i + 1 - i = 1 := by omega
    rw [this, Rat.pow_one]
  · rw [if_neg e]
    by_cases hi : i < k
    · have ew : p ^ (k + 1 - i) = p ^ (k - i) * p := by rw [show k + 1 - i = (k - i) + 1 by omega, Rat.pow_succ]
      unfold aa
      rw [if_pos hi, if_pos hi, if_pos (Nat.lt_succ_of_lt hi), ew]
      rw [if_neg (show ¬ k = i by omega), if_pos rfl]
      by_cases h1 : j = i
      · subst h1
        rw [if_pos rfl, if_pos rfl, if_neg (show ¬ j = k by omega), if_neg (show ¬ j = k + 1 by omega)]
        grind
      · rw [if_neg h1, if_neg h1]
        by_cases h2 : j = k
        · subst h2
          rw [if_pos rfl, if_pos rfl, if_neg (show ¬ j = j + 1 by omega)]
          grind
        · rw [if_neg h2, if_neg h2]
          by_cases h3 : j = k + 1
          · subst h3
            rw [if_pos rfl, if_pos rfl]
            grind
          · rw [if_neg h3, if_neg h3]
            grind
    · by_cases hk : i = k + 1
      · subst hk
        unfold aa
        rw [if_neg (show ¬ k + 1 < k by omega), if_neg (show ¬ k + 1 < k by omega), if_neg (show ¬ k + 1 = k by omega), if_neg (show ¬ k + 1 = k by omega), if_neg (Nat.lt_irrefl (k + 1)), if_pos rfl]
        rw [if_neg (show ¬ k = k + 1 by omega), if_neg (show ¬ k = k + 1 + 1 by omega), if_pos rfl]
        by_cases h1 : j = k + 1
        · subst h1
          rw [if_pos rfl, if_pos rfl, if_neg (show ¬ k + 1 = k by omega), if_pos rfl]
          have := dd_rec p l k
          grind
        · rw [if_neg h1, if_neg h1]
          by_cases h2 : j = k + 1 + 1
          · subst h2
            rw [if_pos rfl, if_pos rfl, if_neg (show ¬ k + 1 + 1 = k by omega), if_neg (show ¬ k + 1 + 1 = k + 1 by omega)]
            grind
          · rw [if_neg h2, if_neg h2]
            by_cases h3 : j = k
            · subst h3
              rw [if_pos rfl, if_pos rfl]
              grind
            · rw [if_neg h3, if_neg h1, if_neg (show ¬ j + 1 = k + 1 by omega)]
              grind
      · unfold aa
        rw [if_neg hi, if_neg e, if_neg (show ¬ i < k by omega), if_neg e, if_neg (show ¬ i < k + 1 by omega), if_neg hk]
        rw [if_neg (show ¬ k = i by omega), if_neg (show ¬ k = i + 1 by omega), if_neg (show ¬ k + 1 = i by omega)]
        grind
theorem stepC_cc {p l : Rat} (hp : 0 < p) (hl : 0 < l) (x : Nat → Rat) (n k i : Nat) (hk : k < n) (hin : i < n) : stepC (aa p l k) (cc p l x n k) k i = cc p l x n (k + 1) i := by
  have d0 := dd_ne hp hl k
  have d1 := dd_ne hp hl (k + 1)
  have piv : aa p l k k k = dd p l (k + 1) / dd p l k := by unfold aa; simp
  unfold stepC
  rw [piv]
  have hq : cc p l x n k k / (dd p l (k + 1) / dd p l k) = x k - if k + 1 < n then p * dd p l k / dd p l (k + 1) * x (k + 1) else 0 := by
    unfold cc
    rw [if_neg (Nat.lt_irrefl k), if_pos rfl]
    split <;> grind
  rw [hq]
  by_cases e : i = k
  · subst e
    rw [if_pos rfl]
    unfold cc
    rw [if_pos (Nat.lt_succ_self i)]
    have : i + 1 - i = 1 := by omega
    rw [this, Rat.pow_one]
  · rw [if_neg e]
    by_cases hi : i < k
    · have ew : p ^ (k + 1 - i) = p ^ (k - i) * p := by rw [show k + 1 - i = (k - i) + 1 by omega, Rat.pow_succ]
      unfold cc aa
      rw [if_pos hi, if_pos hi, if_pos (Nat.lt_succ_of_lt hi), ew, if_pos hk]
      rw [if_neg (show ¬ k = i by omega), if_pos rfl]
      split <;> grind
    · by_cases hk1 : i = k + 1
      · subst hk1
        unfold cc aa
        rw [if_neg (show ¬ k + 1 < k by omega), if_neg (show ¬ k + 1 < k by omega), if_neg (show ¬ k + 1 = k by omega), if_neg (show ¬ k + 1 = k by omega), if_neg (Nat.lt_irrefl (k + 1)), if_pos rfl]
        rw [if_neg (show ¬ k = k + 1 by omega), if_neg (show ¬ k = k + 1 + 1 by omega), if_pos rfl, if_pos hin, Nat.add_sub_cancel]
        have := dd_rec p l k
        split <;> grind
      · unfold cc aa
        rw [if_neg hi, if_neg e, if_neg (show ¬ i < k by omega), if_neg e, if_neg (show ¬ i < k + 1 by omega), if_neg hk1]
        rw [if_neg (show ¬ k = i by omega), if_neg (show ¬ k = i + 1 by omega), if_neg (show ¬ k + 1 = i by omega)]
        grind
theorem fold_mat {p l : Rat} (hp : 0 < p) (hl : 0 < l) (x : Nat → Rat) (n : Nat) : ∀ k, k ≤ n → (List.range k).foldl (eliminate n) (mat n (aa p l 0) (cc p l x n 0)) = mat n (aa p l k) (cc p l x n k)
  | 0, _ => rfl
  | k + 1, h => by
    rw [List.range_succ, List.foldl_append, fold_mat hp hl x n k (by omega)]
    show eliminate n (mat n (aa p l k) (cc p l x n k)) k = _
    have piv : aa p l k k k ≠ 0 := by
      have d0 := dd_ne hp hl k
      have d1 := dd_ne hp hl (k + 1)
      have : aa p l k k k = dd p l (k + 1) / dd p l k := by unfold aa; simp
      rw [this]
      grind
    rw [elim_mat (by omega) piv]
    exact mat_congr (fun i j _ _ => stepA_aa hp hl k i j) fun i hi => stepC_cc hp hl x n k i (by omega) hi
theorem solve_mat {p l : Rat} (hp : 0 < p) (hl : 0 < l) (x : Nat → Rat) (n : Nat) : solve n (mat n (aa p l 0) (cc p l x n 0)) = (List.range n).map x := by
  unfold solve
  rw [fold_mat hp hl x n n (Nat.le_refl n)]
  unfold mat
  rw [List.map_map]
  apply List.map_congr_left
  intro i hi
  have hi := List.mem_range.mp hi
  show ((List.range n).map (aa p l n i) ++ [cc p l x n n i]).getD n 0 = x i
  rw [row_last]
  unfold cc
  rw [if_pos hi, if_neg (Nat.lt_irrefl n)]
  grind

/-- the system's own equations -/
theorem xx_zero {p l f r : Rat} (hp : 0 < p) (hl : 0 < l) (n : Nat) (h : 0 < n) : (p + l) * xx p l f r n 0 = p * xx p l f r n 1 + l * r := by
  have d := dd_ne hp hl n
  unfold xx
  have e1 : dd p l 1 = p * 1 + l ^ 1 := rfl
  have e0 : dd p l 0 = 1 := rfl
  have ew : p ^ (n - 0) = p ^ (n - 1) * p := by rw [show n - 0 = (n - 1) + 1 by omega, Rat.pow_succ]
  rw [e1, e0, ew]
  grind
theorem xx_succ {p l f r : Rat} (hp : 0 < p) (hl : 0 < l) (n i : Nat) (h : i + 2 ≤ n) : (p + l) * xx p l f r n (i + 1) = p * xx p l f r n (i + 2) + l * xx p l f r n i := by
  have d := dd_ne hp hl n
  have hr := dd_rec p l i
  unfold xx
  have e1 : p ^ (n - (i + 1)) = p ^ (n - (i + 2)) * p := by rw [show n - (i + 1) = (n - (i + 2)) + 1 by omega, Rat.pow_succ]
  have e0 : p ^ (n - i) = p ^ (n - (i + 2)) * p * p := by rw [show n - i = (n - (i + 2)) + 1 + 1 by omega, Rat.pow_succ, Rat.pow_succ]
  rw [e1, e0]
  grind
theorem xx_end {p l f r : Rat} (hp : 0 < p) (hl : 0 < l) (n : Nat) : xx p l f r n n = f := by
  have d := dd_ne hp hl n
  unfold xx
  rw [Nat.sub_self, Rat.pow_zero]
  grind

theorem cast_add (a b : Nat) : toRat (a + b) = toRat a + toRat b := by unfold toRat; exact Rat.natCast_add a b
theorem cast_pos {a : Nat} (h : 0 < a) : 0 < toRat a := Rat.natCast_pos.mpr h
theorem steady_is {v : Line} (hp : 0 < v.liquor) (hl : 0 < v.lot) (n : Nat) : steadyState v n = (List.range n).map (xx (toRat v.liquor) (toRat v.lot) v.fresh v.raw n) := by
  have p0 := cast_pos hp
  have l0 := cast_pos hl
  rw [← solve_mat p0 l0]
  unfold steadyState
  congr 1
  unfold mat
  apply List.map_congr_left
  intro i hi
  have hi := List.mem_range.mp hi
  congr 1
  · apply List.map_congr_left
    intro j hj
    unfold aa
    rw [if_neg (Nat.not_lt_zero i), cast_add]
    by_cases e : i = 0
    · subst e
      rw [if_pos rfl]
      have e1 : dd (toRat v.liquor) (toRat v.lot) (0 + 1) / dd (toRat v.liquor) (toRat v.lot) 0 = toRat v.liquor + toRat v.lot := by
        simp only [dd]
        grind
      rw [e1]
      split
      · rfl
      · split
        · rfl
        · rw [if_neg (by omega)]
    · rw [if_neg e]
  · congr 1
    unfold cc
    rw [if_neg (Nat.not_lt_zero i)]
    generalize toRat v.liquor = p at *
    generalize toRat v.lot = l at *
    by_cases e : i = 0
    · subst e
      rw [if_pos rfl, if_pos rfl]
      have h0 := xx_zero (f := v.fresh) (r := v.raw) p0 l0 n (by omega)
      have e1 : dd p l (0 + 1) / dd p l 0 = p + l := by
        simp only [dd]
        grind
      rw [e1]
      by_cases h1 : 0 + 1 = n
      · have h2 := xx_end (f := v.fresh) (r := v.raw) p0 l0 n
        subst h1
        rw [if_pos rfl, if_neg (by omega)]
        grind
      · rw [if_neg h1, if_pos (by omega)]
        grind
    · rw [if_neg e, if_neg e]
      obtain ⟨m, rfl⟩ : ∃ m, i = m + 1 := ⟨i - 1, by omega⟩
      have h0 := xx_succ (f := v.fresh) (r := v.raw) p0 l0 n m (by omega)
      rw [Nat.add_sub_cancel]
      by_cases h1 : m + 1 + 1 = n
      · have h2 := xx_end (f := v.fresh) (r := v.raw) p0 l0 n
        subst h1
        rw [if_pos rfl, if_neg (by omega)]
        grind
      · rw [if_neg h1, if_pos (by omega)]
        grind
end Tan
end
section
namespace Tan
open Kp395

/-! ### the common bottom -/
def LL : Nat := 69720375229712477164533808935312303556800
theorem dvd_LL {d : Nat} (h0 : 0 < d) (h : d ≤ 100) : d ∣ LL := by
  have a : ∀ d, d < 101 → 0 < d → LL % d = 0 := by decide +kernel
  exact Nat.dvd_of_mod_eq_zero (a d (by omega) h0)
def DD (s e : Nat) : Nat := LL * s ^ e
theorem LL_pos : 0 < LL := by decide
theorem DD_pos {s : Nat} (hs : 0 < s) (e : Nat) : 0 < DD s e := Nat.mul_pos LL_pos (Nat.pow_pos hs)
theorem DD_lt {s e : Nat} (hs : s ≤ 100) (he : e ≤ 49) : DD s e < 2 ^ 479 := by
  have a : s ^ e ≤ (2 ^ 7) ^ e := Nat.pow_le_pow_left (by omega) e
  rw [← Nat.pow_mul] at a
  have b : 2 ^ (7 * e) ≤ 2 ^ 343 := Nat.pow_le_pow_right (by decide) (by omega)
  have c : LL < 2 ^ 136 := by decide
  unfold DD
  rw [show 479 = 136 + 343 from rfl, Nat.pow_add]
  have d : LL * s ^ e ≤ LL * 2 ^ 343 := Nat.mul_le_mul_left _ (Nat.le_trans a b)
  exact Nat.lt_of_le_of_lt d (Nat.mul_lt_mul_of_pos_right c (by decide +kernel))
def Div (s e : Nat) (q : Rat) : Prop := IsZ (q * (DD s e : Rat))
theorem DD_succ (s e : Nat) : DD s (e + 1) = DD s e * s := by
  unfold DD
  rw [Nat.pow_succ, Nat.mul_assoc]
theorem Div.succ {s e : Nat} {q : Rat} (h : Div s e q) : Div s (e + 1) q := by
  unfold Div at *
  rw [DD_succ, Rat.natCast_mul, ← Rat.mul_assoc]
  exact h.mul (IsZ.nat s)
theorem Div.mono {s e f : Nat} {q : Rat} (h : Div s e q) (hf : e ≤ f) : Div s f q := by
  obtain ⟨k, rfl⟩ := Nat.le.dest hf
  clear hf
  induction k with
  | zero => exact h
  | succ k ih => exact ih.succ
theorem Div.add {s e : Nat} {a b : Rat} (ha : Div s e a) (hb : Div s e b) : Div s e (a + b) := by
  unfold Div at *
  rw [Rat.add_mul]
  exact IsZ.add ha hb
theorem Div.sub {s e : Nat} {a b : Rat} (ha : Div s e a) (hb : Div s e b) : Div s e (a - b) := by
  unfold Div at *
  rw [Rat.sub_eq_add_neg, Rat.add_mul, Rat.neg_mul, ← Rat.sub_eq_add_neg]
  exact IsZ.sub ha hb
theorem Div.mul {s e : Nat} {a : Rat} (k : Nat) (ha : Div s e a) : Div s e (toRat k * a) := by
  unfold Div at *
  rw [Rat.mul_assoc]
  exact (IsZ.nat k).mul ha
theorem div_zero' (s e : Nat) : Div s e 0 := ⟨0, by rw [Rat.zero_mul]; rfl⟩
theorem div_small {s e : Nat} {q : Rat} (h : q.den ≤ 100) : Div s e q := isz_of_den (Nat.dvd_trans (dvd_LL (den_pos q) h) (Nat.dvd_mul_right _ _))
theorem Div.den {s e : Nat} {q : Rat} (hs : 0 < s) (h : Div s e q) : q.den ≤ DD s e := Nat.le_of_dvd (DD_pos hs e) (den_dvd (DD_pos hs e) h)

/-! ### strengths -/
def Frac (q : Rat) : Prop := 0 ≤ q ∧ q ≤ 100 ∧ q.den ≤ 100
structure Pv (s e : Nat) (q : Rat) : Prop where
  lo : 0 ≤ q
  hi : q ≤ 100
  dv : Div s e q
theorem Frac.pv {q : Rat} (h : Frac q) (s e : Nat) : Pv s e q := ⟨h.1, h.2.1, div_small h.2.2⟩
theorem Pv.mono {s e f : Nat} {q : Rat} (h : Pv s e q) (hf : e ≤ f) : Pv s f q := ⟨h.lo, h.hi, h.dv.mono hf⟩
theorem Pv.nice {s e : Nat} {q : Rat} (h : Pv s e q) (h0 : 0 < s) (hs : s ≤ 100) (he : e ≤ 49) : Nice 600 q := by
  have n0 : -((100 : Nat) : Rat) ≤ q := by
    have a := h.lo
    show -(100 : Rat) ≤ q
    grind
  have n1 : q ≤ ((100 : Nat) : Rat) := h.hi
  exact (nice_of n0 n1 (h.dv.den h0) (show 100 < 2 ^ 7 by decide) (DD_lt hs he)).mono (by decide)
theorem Frac.nice {q : Rat} (h : Frac q) : Nice 14 q := by
  have n0 : -((100 : Nat) : Rat) ≤ q := by
    have a := h.1
    show -(100 : Rat) ≤ q
    grind
  exact nice_of n0 h.2.1 h.2.2 (show 100 < 2 ^ 7 by decide) (show 100 < 2 ^ 7 by decide)
theorem frac_of {x y : Nat} (hx : x ≤ 100) (h1 : 1 ≤ y) (h2 : y ≤ 100) : Frac (toRat x / toRat y) := by
  have hy : (0 : Rat) < toRat y := Rat.natCast_pos.mpr h1
  have hy1 : (1 : Rat) ≤ toRat y := Rat.natCast_le_natCast.mpr h1
  have hx1 : toRat x ≤ 100 := Rat.natCast_le_natCast.mpr hx
  have hx0 : (0 : Rat) ≤ toRat x := Rat.natCast_nonneg
  have m := Rat.div_mul_cancel (a := toRat x) (Rat.ne_of_gt hy)
  refine ⟨?_, ?_, ?_⟩
  · refine Rat.le_of_mul_le_mul_right (c := toRat y) ?_ hy
    rw [m, Rat.zero_mul]
    exact hx0
  · refine Rat.le_of_mul_le_mul_right (c := toRat y) ?_ hy
    rw [m]
    grind
  · have e := den_div (a := (x : Int)) (b := (y : Int)) (by omega)
    rw [Rat.intCast_natCast, Rat.intCast_natCast] at e
    have e2 : (y : Int) / ((x : Int).natAbs.gcd (y : Int).natAbs : Int) ≤ (y : Int) := Int.ediv_le_self _ (by omega)
    show ((x : Rat) / (y : Rat)).den ≤ 100
    omega
theorem mix_pv {v : Line} {e : Nat} {a b : Rat} (hs : 0 < v.liquor + v.lot) (ha : Pv (v.liquor + v.lot) e a) (hb : Pv (v.liquor + v.lot) e b) : Pv (v.liquor + v.lot) (e + 1) (mix v a b) := by
  have hp : (0 : Rat) ≤ toRat v.liquor := Rat.natCast_nonneg
  have hl : (0 : Rat) ≤ toRat v.lot := Rat.natCast_nonneg
  have hc : (0 : Rat) < toRat (v.liquor + v.lot) := Rat.natCast_pos.mpr hs
  have hadd : toRat (v.liquor + v.lot) = toRat v.liquor + toRat v.lot := Rat.natCast_add _ _
  have m := Rat.div_mul_cancel (a := toRat v.liquor * a + toRat v.lot * b) (Rat.ne_of_gt hc)
  have a0 := Rat.mul_nonneg hp ha.lo
  have b0 := Rat.mul_nonneg hl hb.lo
  have a1 := Rat.mul_le_mul_of_nonneg_left ha.hi hp
  have b1 := Rat.mul_le_mul_of_nonneg_left hb.hi hl
  refine ⟨?_, ?_, ?_⟩
  · refine Rat.le_of_mul_le_mul_right (c := toRat (v.liquor + v.lot)) ?_ hc
    unfold mix
    rw [m, Rat.zero_mul]
    grind
  · refine Rat.le_of_mul_le_mul_right (c := toRat (v.liquor + v.lot)) ?_ hc
    unfold mix
    rw [m, hadd]
    grind
  · have d := (ha.dv.mul v.liquor).add (hb.dv.mul v.lot)
    unfold Div at *
    rw [DD_succ, Rat.natCast_mul, Rat.mul_comm ((DD (v.liquor + v.lot) e : Nat) : Rat), ← Rat.mul_assoc]
    unfold mix
    show IsZ ((toRat v.liquor * a + toRat v.lot * b) / toRat (v.liquor + v.lot) * toRat (v.liquor + v.lot) * _)
    rw [m]
    exact d
theorem next_pv {v : Line} {e : Nat} {l : List Rat} (hs : 0 < v.liquor + v.lot) (hf : Frac v.fresh) (hr : Frac v.raw) (h : ∀ q ∈ l, Pv (v.liquor + v.lot) e q) : ∀ q ∈ nextStrengths v l, Pv (v.liquor + v.lot) (e + 1) q := by
  intro q hq
  obtain ⟨i, hi, rfl⟩ := List.mem_map.mp hq
  have hi := List.mem_range.mp hi
  have g : ∀ j, j < l.length → Pv (v.liquor + v.lot) e (l.getD j 0) := fun j hj => by
    rw [List.getD_eq_getElem?_getD, List.getElem?_eq_getElem hj]
    exact h _ (List.getElem_mem hj)
  refine mix_pv hs ?_ ?_
  · split
    · exact g _ (by assumption)
    · exact hf.pv _ _
  · split
    · exact hr.pv _ _
    · exact g _ (by omega)
theorem next_len (v : Line) (l : List Rat) : (nextStrengths v l).length = l.length := by simp [nextStrengths]

/-! ### days, one behind another -/
theorem days_succ : ∀ (k : Nat) (v : Line), runDays v (k + 1) = runDay (runDays v k)
  | 0, _ => rfl
  | k + 1, v => days_succ k (runDay v)
theorem days_add (v : Line) (j : Nat) : ∀ k, runDays v (j + k) = runDays (runDays v j) k
  | 0 => rfl
  | k + 1 => by rw [← Nat.add_assoc, days_succ, days_succ, days_add v j k]
theorem days_liquor (v : Line) : ∀ k, (runDays v k).liquor = v.liquor
  | 0 => rfl
  | k + 1 => by rw [days_succ]; exact days_liquor v k
theorem days_lot (v : Line) : ∀ k, (runDays v k).lot = v.lot
  | 0 => rfl
  | k + 1 => by rw [days_succ]; exact days_lot v k
theorem days_fresh (v : Line) : ∀ k, (runDays v k).fresh = v.fresh
  | 0 => rfl
  | k + 1 => by rw [days_succ]; exact days_fresh v k
theorem days_raw (v : Line) : ∀ k, (runDays v k).raw = v.raw
  | 0 => rfl
  | k + 1 => by rw [days_succ]; exact days_raw v k
theorem days_days (v : Line) : ∀ k, (runDays v k).days = v.days + k
  | 0 => rfl
  | k + 1 => by
    rw [days_succ]
    show (runDays v k).days + 1 = _
    rw [days_days v k, Nat.add_assoc]
theorem days_len (v : Line) : ∀ k, (runDays v k).strengths.length = v.strengths.length
  | 0 => rfl
  | k + 1 => by
    rw [days_succ]
    show (nextStrengths (runDays v k) (runDays v k).strengths).length = _
    rw [next_len, days_len v k]
theorem next_congr {v w : Line} (h1 : v.liquor = w.liquor) (h2 : v.lot = w.lot) (h3 : v.fresh = w.fresh) (h4 : v.raw = w.raw) (l : List Rat) : nextStrengths v l = nextStrengths w l := by
  unfold nextStrengths mix
  rw [h1, h2, h3, h4]
theorem days_str (v : Line) (k : Nat) : (runDays v (k + 1)).strengths = nextStrengths v (runDays v k).strengths := by
  rw [days_succ]
  exact next_congr (days_liquor v k) (days_lot v k) (days_fresh v k) (days_raw v k) _

/-! ### what holds of a line between two calls -/
def TB (m : Nat) (q : Rat) : Prop := -((10000 * m : Nat) : Rat) ≤ q ∧ q ≤ ((10000 * m : Nat) : Rat)
structure Tot (s e m : Nat) (q : Rat) : Prop where
  tb : TB m q
  dv : Div s e q
theorem TB.add {m : Nat} {q c : Rat} (h : TB m q) (h0 : -(10000 : Rat) ≤ c) (h1 : c ≤ 10000) : TB (m + 1) (q + c) := by
  have e : ((10000 * (m + 1) : Nat) : Rat) = ((10000 * m : Nat) : Rat) + 10000 := by
    rw [Nat.mul_add, Rat.natCast_add]
    rfl
  obtain ⟨a, b⟩ := h
  unfold TB
  rw [e]
  constructor <;> grind
theorem TB.mono {m k : Nat} {q : Rat} (h : TB m q) (hk : m ≤ k) : TB k q := by
  have e : ((10000 * m : Nat) : Rat) ≤ ((10000 * k : Nat) : Rat) := Rat.natCast_le_natCast.mpr (Nat.mul_le_mul_left _ hk)
  obtain ⟨a, b⟩ := h
  constructor <;> grind
theorem Tot.nice {s e m : Nat} {q : Rat} (h : Tot s e m q) (h0 : 0 < s) (hs : s ≤ 100) (he : e ≤ 49) (hm : m ≤ 400) : Nice 600 q :=
  (nice_of h.tb.1 h.tb.2 (h.dv.den h0) (show 10000 * m < 2 ^ 22 by omega) (DD_lt hs he)).mono (by decide)
theorem Tot.zero (s e m : Nat) : Tot s e m 0 := by
  have e' : (0 : Rat) ≤ ((10000 * m : Nat) : Rat) := Rat.natCast_nonneg
  exact ⟨⟨by grind, e'⟩, div_zero' s e⟩
structure Good (n : Nat) (v : Line) : Prop where
  p0 : 1 ≤ v.liquor
  p1 : v.liquor ≤ 50
  l0 : 1 ≤ v.lot
  l1 : v.lot ≤ 50
  fr : Frac v.fresh
  rw : Frac v.raw
  n0 : 1 ≤ v.strengths.length
  n1 : v.strengths.length ≤ 6
  st : ∀ q ∈ v.strengths, Pv (v.liquor + v.lot) v.days q
  su : Tot (v.liquor + v.lot) v.days (n + v.days) v.supplied
  ta : Tot (v.liquor + v.lot) v.days (n + v.days) v.tanned
  di : Tot (v.liquor + v.lot) v.days (n + v.days) v.discharged
  dy : v.days ≤ 24
theorem Tot.mono {s e m k : Nat} {q : Rat} (h : Tot s e m q) (hk : m ≤ k) : Tot s e k q := ⟨h.tb.mono hk, h.dv⟩
theorem Good.mono {n m : Nat} {v : Line} (h : Good n v) (hm : n ≤ m) : Good m v :=
  { h with su := h.su.mono (by omega), ta := h.ta.mono (by omega), di := h.di.mono (by omega) }
theorem frac_zero : Frac 0 := ⟨by decide, by decide, by decide⟩
theorem frac_one : Frac 1 := ⟨by decide, by decide, by decide⟩
theorem good_new {k p l : Nat} (hk : 1 ≤ k) (hk2 : k ≤ 6) (hp : 1 ≤ p) (hp2 : p ≤ 50) (hl : 1 ≤ l) (hl2 : l ≤ 50) (n : Nat) : Good n ⟨p, l, 1, 0, List.replicate k 0, 0, 0, 0, 0⟩ where
  p0 := hp
  p1 := hp2
  l0 := hl
  l1 := hl2
  fr := frac_one
  rw := frac_zero
  n0 := by simpa using hk
  n1 := by simpa using hk2
  st := fun q hq => by
    rw [List.eq_of_mem_replicate hq]
    exact frac_zero.pv _ _
  su := Tot.zero _ _ _
  ta := Tot.zero _ _ _
  di := Tot.zero _ _ _
  dy := Nat.zero_le 24
/-- an amount times a strength -/
theorem amount_le {k : Nat} {q : Rat} (hk : k ≤ 50) (h0 : 0 ≤ q) (h1 : q ≤ 100) : 0 ≤ toRat k * q ∧ toRat k * q ≤ 5000 := by
  have a : (0 : Rat) ≤ toRat k := Rat.natCast_nonneg
  have b : toRat k ≤ 50 := Rat.natCast_le_natCast.mpr hk
  have c := Rat.mul_nonneg a h0
  have d := Rat.mul_le_mul_of_nonneg_left h1 a
  exact ⟨c, by grind⟩
theorem last_mem {l : List Rat} (h : 1 ≤ l.length) : l.getLastD 0 ∈ l := by
  cases l with
  | nil => simp at h
  | cons a r =>
    rw [List.getLastD_cons]
    exact List.getLastD_mem_cons
theorem head_mem {l : List Rat} (h : 1 ≤ l.length) : l.headD 0 ∈ l := by
  cases l with
  | nil => simp at h
  | cons a r => exact List.mem_cons_self
theorem Good.last {n : Nat} {v : Line} (h : Good n v) : Pv (v.liquor + v.lot) v.days (lastStrength v) := h.st _ (last_mem h.n0)
theorem Good.first {n : Nat} {v : Line} (h : Good n v) : Pv (v.liquor + v.lot) v.days (firstStrength v) := h.st _ (head_mem h.n0)
theorem Tot.add {s e m : Nat} {q c : Rat} (h : Tot s e m q) (h0 : -(10000 : Rat) ≤ c) (h1 : c ≤ 10000) (hd : Div s e c) : Tot s e (m + 1) (q + c) := ⟨h.tb.add h0 h1, h.dv.add hd⟩
theorem Tot.succ {s e m : Nat} {q : Rat} (h : Tot s e m q) : Tot s (e + 1) m q := ⟨h.tb, h.dv.succ⟩
theorem good_day {n : Nat} {v : Line} (h : Good n v) (hd : v.days < 24) : Good n (runDay v) := by
  have a1 := amount_le h.p1 h.fr.1 h.fr.2.1
  have a2 := amount_le h.l1 h.rw.1 h.rw.2.1
  have a3 := amount_le h.l1 h.last.lo h.last.hi
  have a4 := amount_le h.p1 h.first.lo h.first.hi
  have hs : 0 < v.liquor + v.lot := by have := h.p0; omega
  exact {
    p0 := h.p0, p1 := h.p1, l0 := h.l0, l1 := h.l1, fr := h.fr, rw := h.rw
    n0 := by show 1 ≤ (nextStrengths v v.strengths).length; rw [next_len]; exact h.n0
    n1 := by show (nextStrengths v v.strengths).length ≤ 6; rw [next_len]; exact h.n1
    st := next_pv hs h.fr h.rw h.st
    su := by
      show Tot (v.liquor + v.lot) (v.days + 1) (n + v.days + 1) (v.supplied + toRat v.liquor * v.fresh + toRat v.lot * v.raw)
      rw [Rat.add_assoc]
      exact h.su.succ.add (by grind) (by grind) (((div_small h.fr.2.2).mul _).add ((div_small h.rw.2.2).mul _))
    ta := h.ta.succ.add (by grind) (by grind) (h.last.dv.succ.mul _)
    di := h.di.succ.add (by grind) (by grind) (h.first.dv.succ.mul _)
    dy := hd }
theorem good_days {n : Nat} {v : Line} (h : Good n v) : ∀ k, v.days + k ≤ 24 → Good n (runDays v k)
  | 0, _ => h
  | k + 1, hk => by
    rw [days_succ]
    exact good_day (good_days h k (by omega)) (by rw [days_days]; omega)
/-- further days, however many have been run -/
theorem Good.further {n : Nat} {v : Line} (h : Good n v) : ∀ k, ∀ q ∈ (runDays v k).strengths, Pv (v.liquor + v.lot) (v.days + k) q
  | 0 => h.st
  | k + 1 => by
    rw [days_str]
    exact next_pv (by have := h.p0; omega) h.fr h.rw (h.further k)
theorem Good.s0 {n : Nat} {v : Line} (h : Good n v) : 0 < v.liquor + v.lot := by have := h.p0; omega
theorem Good.s1 {n : Nat} {v : Line} (h : Good n v) : v.liquor + v.lot ≤ 100 := by have := h.p1; have := h.l1; omega
theorem Good.niceS {n : Nat} {v : Line} (h : Good n v) (k : Nat) (hk : k ≤ 25) : ∀ q ∈ (runDays v k).strengths, Nice 600 q := fun q hq =>
  (h.further k q hq).nice h.s0 h.s1 (by have := h.dy; omega)
theorem good_fresh {n : Nat} {v : Line} (h : Good n v) {q : Rat} (hq : Frac q) : Good n { v with fresh := q } := { h with fr := hq }
theorem good_raw {n : Nat} {v : Line} (h : Good n v) {q : Rat} (hq : Frac q) : Good n { v with raw := q } := { h with rw := hq }
theorem getD_mem {l : List Rat} {i : Nat} (h : i < l.length) : l.getD i 0 ∈ l := by
  rw [List.getD_eq_getElem?_getD, List.getElem?_eq_getElem h]
  exact List.getElem_mem h
theorem good_set {n : Nat} {v : Line} (h : Good n v) {i : Nat} (hi : i < v.strengths.length) {q : Rat} (hq : Frac q) :
    Good (n + 1) { v with strengths := v.strengths.set i q, supplied := v.supplied + toRat (v.liquor + v.lot) * (q - strengthAt v i) } := by
  have g := h.st _ (getD_mem hi)
  have e : toRat (v.liquor + v.lot) = toRat v.liquor + toRat v.lot := Rat.natCast_add _ _
  have a1 := amount_le h.p1 hq.1 hq.2.1
  have a2 := amount_le h.l1 hq.1 hq.2.1
  have a3 := amount_le h.p1 g.lo g.hi
  have a4 := amount_le h.l1 g.lo g.hi
  have hsum : toRat (v.liquor + v.lot) * (q - strengthAt v i) = toRat v.liquor * q + toRat v.lot * q - (toRat v.liquor * v.strengths.getD i 0 + toRat v.lot * v.strengths.getD i 0) := by
    rw [e]
    show (toRat v.liquor + toRat v.lot) * (q - v.strengths.getD i 0) = _
    grind
  exact { h with
    n0 := by rw [List.length_set]; exact h.n0
    n1 := by rw [List.length_set]; exact h.n1
    st := fun x hx => by
      rcases List.mem_or_eq_of_mem_set hx with hx | hx
      · exact h.st x hx
      · rw [hx]
        exact hq.pv _ _
    su := by
      show Tot (v.liquor + v.lot) v.days (n + 1 + v.days) (v.supplied + _)
      rw [show n + 1 + v.days = n + v.days + 1 by omega]
      refine h.su.add ?_ ?_ ?_
      · rw [hsum]; grind
      · rw [hsum]; grind
      · exact ((div_small hq.2.2).sub g.dv).mul _
    ta := h.ta.mono (by show n + v.days ≤ n + 1 + v.days; omega)
    di := h.di.mono (by show n + v.days ≤ n + 1 + v.days; omega) }
theorem good_add {n : Nat} {v : Line} (h : Good n v) (hl : v.strengths.length < 6) : Good n { v with strengths := v.strengths ++ [0] } :=
  { h with
    n0 := by simp
    n1 := by rw [List.length_append]; exact hl
    st := fun x hx => by
      rcases List.mem_append.mp hx with hx | hx
      · exact h.st x hx
      · rw [List.mem_singleton.mp hx]
        exact frac_zero.pv _ _ }
theorem good_remove {n : Nat} {v : Line} (h : Good n v) {i : Nat} (hi : i < v.strengths.length) (h1 : v.strengths.length ≠ 1) :
    Good (n + 1) { v with strengths := v.strengths.eraseIdx i, tanned := v.tanned + toRat v.lot * strengthAt v i, discharged := v.discharged + toRat v.liquor * strengthAt v i } := by
  have g := h.st _ (getD_mem hi)
  have a3 := amount_le h.p1 g.lo g.hi
  have a4 := amount_le h.l1 g.lo g.hi
  have n0 := h.n0
  have n1 := h.n1
  exact { h with
    n0 := by rw [List.length_eraseIdx_of_lt hi]; omega
    n1 := by rw [List.length_eraseIdx_of_lt hi]; omega
    st := fun x hx => h.st x (List.mem_of_mem_eraseIdx hx)
    su := h.su.mono (by show n + v.days ≤ n + 1 + v.days; omega)
    ta := by
      show Tot (v.liquor + v.lot) v.days (n + 1 + v.days) (v.tanned + toRat v.lot * v.strengths.getD i 0)
      rw [show n + 1 + v.days = n + v.days + 1 by omega]
      exact h.ta.add (by grind) (by grind) (g.dv.mul _)
    di := by
      show Tot (v.liquor + v.lot) v.days (n + 1 + v.days) (v.discharged + toRat v.liquor * v.strengths.getD i 0)
      rw [show n + 1 + v.days = n + v.days + 1 by omega]
      exact h.di.add (by grind) (by grind) (g.dv.mul _) }

/-! ### every operation keeps it -/
def GoodS (n : Nat) : State → Prop
  | none => True
  | some v => Good n v
theorem valid_frac {x y : Nat} (h : validFraction x y = true) : x ≤ 100 ∧ 1 ≤ y ∧ y ≤ 100 := by
  unfold validFraction at h
  simp only [Bool.and_eq_true, decide_eq_true_eq] at h
  exact ⟨h.1.1, h.1.2, h.2⟩
theorem good_step {n : Nat} {st : State} (h : GoodS n st) (c : Call) : GoodS (n + 1) (step st c).1 := by
  have hm : GoodS (n + 1) st := by
    cases st with
    | none => trivial
    | some v => exact Good.mono h (Nat.le_succ n)
  cases c with
  | create k p l =>
    show GoodS (n + 1) (if validPits k && validAmount p && validAmount l then _ else _ : State × Ans).1
    split
    · rename_i hv
      unfold validPits validAmount at hv
      rw [Bool.and_eq_true, Bool.and_eq_true, Bool.and_eq_true, Bool.and_eq_true, Bool.and_eq_true] at hv
      exact good_new (of_decide_eq_true hv.1.1.1) (of_decide_eq_true hv.1.1.2) (of_decide_eq_true hv.1.2.1) (of_decide_eq_true hv.1.2.2) (of_decide_eq_true hv.2.1) (of_decide_eq_true hv.2.2) _
    · exact hm
  | setFresh x y =>
    cases st with
    | none => trivial
    | some v =>
      show GoodS (n + 1) (if validFraction x y then _ else _ : State × Ans).1
      split
      · rename_i hv
        have hv := valid_frac hv
        exact good_fresh hm (frac_of hv.1 hv.2.1 hv.2.2)
      · exact hm
  | setRaw x y =>
    cases st with
    | none => trivial
    | some v =>
      show GoodS (n + 1) (if validFraction x y then _ else _ : State × Ans).1
      split
      · rename_i hv
        have hv := valid_frac hv
        exact good_raw hm (frac_of hv.1 hv.2.1 hv.2.2)
      · exact hm
  | setStrength i x y =>
    cases st with
    | none => trivial
    | some v =>
      show GoodS (n + 1) (if isPit v i = false then _ else if validFraction x y then _ else _ : State × Ans).1
      split
      · exact hm
      · rename_i hi
        split
        · rename_i hv
          have hv := valid_frac hv
          have hi' : i < v.strengths.length := by
            unfold isPit pitCount at hi
            simpa using hi
          exact good_set h hi' (frac_of hv.1 hv.2.1 hv.2.2)
        · exact hm
  | runDay =>
    cases st with
    | none => trivial
    | some v =>
      show GoodS (n + 1) (if maxDays ≤ v.days then _ else _ : State × Ans).1
      split
      · exact hm
      · rename_i hd
        exact good_day hm (by unfold maxDays at hd; omega)
  | runDays k =>
    cases st with
    | none => trivial
    | some v =>
      show GoodS (n + 1) (if validDays k = false then _ else if maxDays < v.days + k then _ else _ : State × Ans).1
      split
      · exact hm
      · split
        · exact hm
        · rename_i hd
          exact good_days hm k (by unfold maxDays at hd; omega)
  | addPit =>
    cases st with
    | none => trivial
    | some v =>
      show GoodS (n + 1) (if maxPits ≤ pitCount v then _ else _ : State × Ans).1
      split
      · exact hm
      · rename_i hd
        exact good_add hm (by unfold maxPits pitCount at hd; omega)
  | removePit i =>
    cases st with
    | none => trivial
    | some v =>
      show GoodS (n + 1) (if isPit v i = false then _ else if pitCount v = 1 then _ else _ : State × Ans).1
      split
      · exact hm
      · rename_i hi
        split
        · exact hm
        · rename_i h1
          have hi' : i < v.strengths.length := by
            unfold isPit pitCount at hi
            simpa using hi
          exact good_remove h hi' h1
  | getStrengths => cases st with | none => trivial | some v => exact hm
  | steadyState => cases st with | none => trivial | some v => exact hm
  | steadyLot k => cases st with | none => trivial | some v => exact hm
  | steadyDischarge k => cases st with | none => trivial | some v => exact hm
  | portionsLot k => cases st with | none => trivial | some v => exact hm
  | deviation => cases st with | none => trivial | some v => exact hm
  | balance => cases st with | none => trivial | some v => exact hm
  | pitsNeeded x y => cases st with | none => trivial | some v => exact hm
  | daysNeeded x y => cases st with | none => trivial | some v => exact hm
  | previewDays k => cases st with | none => trivial | some v => exact hm
  | countercurrentGain k => cases st with | none => trivial | some v => exact hm
  | status => cases st with | none => trivial | some v => exact hm
end Tan
end
section
namespace Tan
open PySem PySem.Spec PyProof.Rows L2
/-! ### the text by places (printed by gen_txt.py) -/
def topS (i : Nat) : Stmt := PySem.Challenge.pw_tanyard_s01_answers.main.body.getD i (.Pass ⟨0, 0, 0, 0⟩)
abbrev s_is_pit_count : Stmt := topS 11
abbrev s_is_amount : Stmt := topS 12
abbrev s_is_day_count : Stmt := topS 13
abbrev s_is_strength : Stmt := topS 14
abbrev s_common : Stmt := topS 18
abbrev s_share : Stmt := topS 19
abbrev s_plus : Stmt := topS 20
abbrev s_minus : Stmt := topS 21
abbrev s_times : Stmt := topS 22
abbrev s_total : Stmt := topS 23
abbrev s_size : Stmt := topS 24
abbrev s_is_at_least : Stmt := topS 25
abbrev s_greatest : Stmt := topS 26
abbrev s_numbers_of : Stmt := topS 27
abbrev s_told_strengths : Stmt := topS 29
abbrev s_set_fresh : Stmt := topS 30
abbrev s_set_raw : Stmt := topS 31
abbrev s_set_strength : Stmt := topS 32
abbrev s_run_day : Stmt := topS 33
abbrev s_run_days : Stmt := topS 34
abbrev s_add_pit : Stmt := topS 35
abbrev s_remove_pit : Stmt := topS 36
abbrev s_mixed : Stmt := topS 38
abbrev s_liquors_of : Stmt := topS 39
abbrev s_lots_of : Stmt := topS 40
abbrev s_after_day : Stmt := topS 41
abbrev s_after_days : Stmt := topS 42
abbrev s_powers : Stmt := topS 46
abbrev s_steps : Stmt := topS 47
abbrev s_steady : Stmt := topS 48
abbrev s_steady_last : Stmt := topS 49
abbrev s_portioned : Stmt := topS 50
abbrev s_steady_of : Stmt := topS 52
abbrev s_steady_lot_of : Stmt := topS 53
abbrev s_portions_lot_of : Stmt := topS 54
abbrev s_get_strengths : Stmt := topS 55
abbrev s_steady_state : Stmt := topS 56
abbrev s_steady_lot : Stmt := topS 57
abbrev s_steady_discharge : Stmt := topS 58
abbrev s_portions_lot : Stmt := topS 59
abbrev s_deviation : Stmt := topS 60
abbrev s_balance : Stmt := topS 61
abbrev s_pits_needed : Stmt := topS 62
abbrev s_days_needed : Stmt := topS 63
abbrev s_preview_days : Stmt := topS 64
abbrev s_countercurrent_gain : Stmt := topS 65
abbrev s_status : Stmt := topS 66
abbrev s_size_of : Stmt := topS 70
abbrev s_created : Stmt := topS 71
abbrev s_changed : Stmt := topS 72
abbrev s_asked_state : Stmt := topS 73
abbrev s_asked_with : Stmt := topS 74
abbrev s_told : Stmt := topS 75
abbrev s_done : Stmt := topS 76
abbrev s_answers : Stmt := topS 78
abbrev m___init__ : Stmt := inClass (topS 44) 0
abbrev m_put_fresh : Stmt := inClass (topS 44) 1
abbrev m_put_raw : Stmt := inClass (topS 44) 2
abbrev m_put_strength : Stmt := inClass (topS 44) 3
abbrev m_take_out : Stmt := inClass (topS 44) 4
abbrev m_pass_day : Stmt := inClass (topS 44) 5
abbrev m_add_last : Stmt := inClass (topS 44) 6
abbrev m_take_pit : Stmt := inClass (topS 44) 7
theorem cs_is_pit_count : FnScope ["number"] ["number"] (defScope s_is_pit_count) := ⟨rfl, rfl, rfl, by decide +kernel, rfl, by decide +kernel, by decide +kernel⟩
theorem cs_is_amount : FnScope ["number"] ["number"] (defScope s_is_amount) := ⟨rfl, rfl, rfl, by decide +kernel, rfl, by decide +kernel, by decide +kernel⟩
theorem cs_is_day_count : FnScope ["number"] ["number"] (defScope s_is_day_count) := ⟨rfl, rfl, rfl, by decide +kernel, rfl, by decide +kernel, by decide +kernel⟩
theorem cs_is_strength : FnScope ["num", "den"] ["num", "den"] (defScope s_is_strength) := ⟨rfl, rfl, rfl, by decide +kernel, rfl, by decide +kernel, by decide +kernel⟩
theorem cs_common : FnScope ["one", "other"] ["one", "other"] (defScope s_common) := ⟨rfl, rfl, rfl, by decide +kernel, rfl, by decide +kernel, by decide +kernel⟩
theorem cs_share : FnScope ["top", "bottom", "divisor"] ["top", "bottom"] (defScope s_share) := ⟨rfl, rfl, rfl, by decide +kernel, rfl, by decide +kernel, by decide +kernel⟩
theorem cs_plus : FnScope ["one", "other"] ["one", "other"] (defScope s_plus) := ⟨rfl, rfl, rfl, by decide +kernel, rfl, by decide +kernel, by decide +kernel⟩
theorem cs_minus : FnScope ["one", "other"] ["one", "other"] (defScope s_minus) := ⟨rfl, rfl, rfl, by decide +kernel, rfl, by decide +kernel, by decide +kernel⟩
theorem cs_times : FnScope ["number", "one"] ["number", "one"] (defScope s_times) := ⟨rfl, rfl, rfl, by decide +kernel, rfl, by decide +kernel, by decide +kernel⟩
theorem cs_total : FnScope ["some", "found", "one"] ["some"] (defScope s_total) := ⟨rfl, rfl, rfl, by decide +kernel, rfl, by decide +kernel, by decide +kernel⟩
theorem cs_size : FnScope ["one"] ["one"] (defScope s_size) := ⟨rfl, rfl, rfl, by decide +kernel, rfl, by decide +kernel, by decide +kernel⟩
theorem cs_is_at_least : FnScope ["one", "other"] ["one", "other"] (defScope s_is_at_least) := ⟨rfl, rfl, rfl, by decide +kernel, rfl, by decide +kernel, by decide +kernel⟩
theorem cs_greatest : FnScope ["some", "found", "one"] ["some"] (defScope s_greatest) := ⟨rfl, rfl, rfl, by decide +kernel, rfl, by decide +kernel, by decide +kernel⟩
theorem cs_numbers_of : FnScope ["some", "found", "top", "bottom"] ["some"] (defScope s_numbers_of) := ⟨rfl, rfl, rfl, by decide +kernel, rfl, by decide +kernel, by decide +kernel⟩
theorem cs_told_strengths : FnScope ["strengths"] ["strengths"] (defScope s_told_strengths) := ⟨rfl, rfl, rfl, by decide +kernel, rfl, by decide +kernel, by decide +kernel⟩
theorem cs_set_fresh : FnScope ["line", "num", "den", "old"] ["line", "num", "den"] (defScope s_set_fresh) := ⟨rfl, rfl, rfl, by decide +kernel, rfl, by decide +kernel, by decide +kernel⟩
theorem cs_set_raw : FnScope ["line", "num", "den", "old"] ["line", "num", "den"] (defScope s_set_raw) := ⟨rfl, rfl, rfl, by decide +kernel, rfl, by decide +kernel, by decide +kernel⟩
theorem cs_set_strength : FnScope ["line", "pit", "num", "den", "old"] ["line", "pit", "num", "den"] (defScope s_set_strength) := ⟨rfl, rfl, rfl, by decide +kernel, rfl, by decide +kernel, by decide +kernel⟩
theorem cs_run_day : FnScope ["line", "leaving", "drained"] ["line"] (defScope s_run_day) := ⟨rfl, rfl, rfl, by decide +kernel, rfl, by decide +kernel, by decide +kernel⟩
theorem cs_run_days : FnScope ["line", "count", "day"] ["line", "count"] (defScope s_run_days) := ⟨rfl, rfl, rfl, by decide +kernel, rfl, by decide +kernel, by decide +kernel⟩
theorem cs_add_pit : FnScope ["line"] ["line"] (defScope s_add_pit) := ⟨rfl, rfl, rfl, by decide +kernel, rfl, by decide +kernel, by decide +kernel⟩
theorem cs_remove_pit : FnScope ["line", "pit"] ["line", "pit"] (defScope s_remove_pit) := ⟨rfl, rfl, rfl, by decide +kernel, rfl, by decide +kernel, by decide +kernel⟩
theorem cs_mixed : FnScope ["liquor", "strong", "lot", "weak", "top"] ["liquor", "strong", "lot", "weak"] (defScope s_mixed) := ⟨rfl, rfl, rfl, by decide +kernel, rfl, by decide +kernel, by decide +kernel⟩
theorem cs_liquors_of : FnScope ["strengths", "fresh"] ["strengths", "fresh"] (defScope s_liquors_of) := ⟨rfl, rfl, rfl, by decide +kernel, rfl, by decide +kernel, by decide +kernel⟩
theorem cs_lots_of : FnScope ["strengths", "raw"] ["strengths", "raw"] (defScope s_lots_of) := ⟨rfl, rfl, rfl, by decide +kernel, rfl, by decide +kernel, by decide +kernel⟩
theorem cs_after_day : FnScope ["strengths", "liquor", "lot", "fresh", "raw", "liquors", "lots", "found", "pit"] ["strengths", "liquor", "lot", "fresh", "raw"] (defScope s_after_day) := ⟨rfl, rfl, rfl, by decide +kernel, rfl, by decide +kernel, by decide +kernel⟩
theorem cs_after_days : FnScope ["count", "strengths", "liquor", "lot", "fresh", "raw", "found", "day"] ["count", "strengths", "liquor", "lot", "fresh", "raw"] (defScope s_after_days) := ⟨rfl, rfl, rfl, by decide +kernel, rfl, by decide +kernel, by decide +kernel⟩
theorem cs_powers : FnScope ["number", "many", "found", "turn"] ["number", "many"] (defScope s_powers) := ⟨rfl, rfl, rfl, by decide +kernel, rfl, by decide +kernel, by decide +kernel⟩
theorem cs_steps : FnScope ["pits", "liquor", "lot", "lots", "liquors", "at"] ["pits", "liquor", "lot"] (defScope s_steps) := ⟨rfl, rfl, rfl, by decide +kernel, rfl, by decide +kernel, by decide +kernel⟩
theorem cs_steady : FnScope ["pits", "liquor", "lot", "fresh", "raw", "parts", "gap", "whole", "done", "found", "pit"] ["pits", "liquor", "lot", "fresh", "raw"] (defScope s_steady) := ⟨rfl, rfl, rfl, by decide +kernel, rfl, by decide +kernel, by decide +kernel⟩
theorem cs_steady_last : FnScope ["pits", "liquor", "lot", "fresh", "raw"] ["pits", "liquor", "lot", "fresh", "raw"] (defScope s_steady_last) := ⟨rfl, rfl, rfl, by decide +kernel, rfl, by decide +kernel, by decide +kernel⟩
theorem cs_portioned : FnScope ["portions", "liquor", "lot", "fresh", "raw", "found", "turn"] ["portions", "liquor", "lot", "fresh", "raw"] (defScope s_portioned) := ⟨rfl, rfl, rfl, by decide +kernel, rfl, by decide +kernel, by decide +kernel⟩
theorem cs_steady_of : FnScope ["line", "pits"] ["line", "pits"] (defScope s_steady_of) := ⟨rfl, rfl, rfl, by decide +kernel, rfl, by decide +kernel, by decide +kernel⟩
theorem cs_steady_lot_of : FnScope ["line", "pits"] ["line", "pits"] (defScope s_steady_lot_of) := ⟨rfl, rfl, rfl, by decide +kernel, rfl, by decide +kernel, by decide +kernel⟩
theorem cs_portions_lot_of : FnScope ["line", "portions"] ["line", "portions"] (defScope s_portions_lot_of) := ⟨rfl, rfl, rfl, by decide +kernel, rfl, by decide +kernel, by decide +kernel⟩
theorem cs_get_strengths : FnScope ["line"] ["line"] (defScope s_get_strengths) := ⟨rfl, rfl, rfl, by decide +kernel, rfl, by decide +kernel, by decide +kernel⟩
theorem cs_steady_state : FnScope ["line"] ["line"] (defScope s_steady_state) := ⟨rfl, rfl, rfl, by decide +kernel, rfl, by decide +kernel, by decide +kernel⟩
theorem cs_steady_lot : FnScope ["line", "pits"] ["line", "pits"] (defScope s_steady_lot) := ⟨rfl, rfl, rfl, by decide +kernel, rfl, by decide +kernel, by decide +kernel⟩
theorem cs_steady_discharge : FnScope ["line", "pits"] ["line", "pits"] (defScope s_steady_discharge) := ⟨rfl, rfl, rfl, by decide +kernel, rfl, by decide +kernel, by decide +kernel⟩
theorem cs_portions_lot : FnScope ["line", "portions"] ["line", "portions"] (defScope s_portions_lot) := ⟨rfl, rfl, rfl, by decide +kernel, rfl, by decide +kernel, by decide +kernel⟩
theorem cs_deviation : FnScope ["line", "goals", "gaps", "pit"] ["line"] (defScope s_deviation) := ⟨rfl, rfl, rfl, by decide +kernel, rfl, by decide +kernel, by decide +kernel⟩
theorem cs_balance : FnScope ["line", "content"] ["line"] (defScope s_balance) := ⟨rfl, rfl, rfl, by decide +kernel, rfl, by decide +kernel, by decide +kernel⟩
theorem cs_pits_needed : FnScope ["line", "num", "den", "wanted", "pits"] ["line", "num", "den"] (defScope s_pits_needed) := ⟨rfl, rfl, rfl, by decide +kernel, rfl, by decide +kernel, by decide +kernel⟩
theorem cs_days_needed : FnScope ["line", "num", "den", "wanted", "strengths", "days"] ["line", "num", "den"] (defScope s_days_needed) := ⟨rfl, rfl, rfl, by decide +kernel, rfl, by decide +kernel, by decide +kernel⟩
theorem cs_preview_days : FnScope ["line", "count"] ["line", "count"] (defScope s_preview_days) := ⟨rfl, rfl, rfl, by decide +kernel, rfl, by decide +kernel, by decide +kernel⟩
theorem cs_countercurrent_gain : FnScope ["line", "pits"] ["line", "pits"] (defScope s_countercurrent_gain) := ⟨rfl, rfl, rfl, by decide +kernel, rfl, by decide +kernel, by decide +kernel⟩
theorem cs_status : FnScope ["line"] ["line"] (defScope s_status) := ⟨rfl, rfl, rfl, by decide +kernel, rfl, by decide +kernel, by decide +kernel⟩
theorem cs_size_of : FnScope ["number"] ["number"] (defScope s_size_of) := ⟨rfl, rfl, rfl, by decide +kernel, rfl, by decide +kernel, by decide +kernel⟩
theorem cs_created : FnScope ["line", "given", "pit_count", "liquor", "lot"] ["line", "given"] (defScope s_created) := ⟨rfl, rfl, rfl, by decide +kernel, rfl, by decide +kernel, by decide +kernel⟩
theorem cs_changed : FnScope ["line", "number", "given"] ["line", "number", "given"] (defScope s_changed) := ⟨rfl, rfl, rfl, by decide +kernel, rfl, by decide +kernel, by decide +kernel⟩
theorem cs_asked_state : FnScope ["line", "number"] ["line", "number"] (defScope s_asked_state) := ⟨rfl, rfl, rfl, by decide +kernel, rfl, by decide +kernel, by decide +kernel⟩
theorem cs_asked_with : FnScope ["line", "number", "given"] ["line", "number", "given"] (defScope s_asked_with) := ⟨rfl, rfl, rfl, by decide +kernel, rfl, by decide +kernel, by decide +kernel⟩
theorem cs_told : FnScope ["line", "number", "given", "answer"] ["line", "number", "given"] (defScope s_told) := ⟨rfl, rfl, rfl, by decide +kernel, rfl, by decide +kernel, by decide +kernel⟩
theorem cs_done : FnScope ["line", "number", "given"] ["line", "number", "given"] (defScope s_done) := ⟨rfl, rfl, rfl, by decide +kernel, rfl, by decide +kernel, by decide +kernel⟩
theorem cs_answers : FnScope ["calls", "found", "line", "at", "behind", "answer"] ["calls"] (defScope s_answers) := ⟨rfl, rfl, rfl, by decide +kernel, rfl, by decide +kernel, by decide +kernel⟩
theorem cm___init__ : FnScope ["self", "pit_count", "liquor", "lot"] ["self", "pit_count", "liquor", "lot"] (defScope m___init__) := ⟨rfl, rfl, rfl, by decide +kernel, rfl, by decide +kernel, by decide +kernel⟩
theorem cm_put_fresh : FnScope ["self", "strength"] ["self", "strength"] (defScope m_put_fresh) := ⟨rfl, rfl, rfl, by decide +kernel, rfl, by decide +kernel, by decide +kernel⟩
theorem cm_put_raw : FnScope ["self", "strength"] ["self", "strength"] (defScope m_put_raw) := ⟨rfl, rfl, rfl, by decide +kernel, rfl, by decide +kernel, by decide +kernel⟩
theorem cm_put_strength : FnScope ["self", "pit", "strength", "change"] ["self", "pit", "strength"] (defScope m_put_strength) := ⟨rfl, rfl, rfl, by decide +kernel, rfl, by decide +kernel, by decide +kernel⟩
theorem cm_take_out : FnScope ["self", "lot_strength", "liquor_strength"] ["self", "lot_strength", "liquor_strength"] (defScope m_take_out) := ⟨rfl, rfl, rfl, by decide +kernel, rfl, by decide +kernel, by decide +kernel⟩
theorem cm_pass_day : FnScope ["self", "arriving"] ["self"] (defScope m_pass_day) := ⟨rfl, rfl, rfl, by decide +kernel, rfl, by decide +kernel, by decide +kernel⟩
theorem cm_add_last : FnScope ["self"] ["self"] (defScope m_add_last) := ⟨rfl, rfl, rfl, by decide +kernel, rfl, by decide +kernel, by decide +kernel⟩
theorem cm_take_pit : FnScope ["self", "pit"] ["self", "pit"] (defScope m_take_pit) := ⟨rfl, rfl, rfl, by decide +kernel, rfl, by decide +kernel, by decide +kernel⟩
/-- a def of the text as it stands behind the top -/
def DefIn (K : PySem.W.Frag) (mg : Str → Option Value) (x : Str) (st : Stmt) (ps : List Str) : Prop := ∃ f fd, Fun K x x st f fd ∧ mg x = some (.ref f) ∧ Binds K fd ps []
def MethIn (K : PySem.W.Frag) (C : Addr) (m q : Str) (st : Stmt) (ps : List Str) : Prop := ∃ f fd, Fun K m q st f fd ∧ Meth K C m f ∧ Binds K fd ps []
def IntIn (mg : Str → Option Value) (x : Str) (i : Int) : Prop := ∃ t, mg x = some (.int i t)
/-- a tuple of the top's own -/
def TupIn (K : PySem.W.Frag) (a : Addr) (xs : List V) : Prop := ∃ (o : Obj) (its : Array Value) (n : Nat), K.lookup a = some o ∧ o.cls = .type "tuple" ∧ o.data = .seq its n ∧ its.size ≤ sizeLine ∧ Vals xs its.toList
def TupNm (K : PySem.W.Frag) (mg : Str → Option Value) (x : Str) (xs : List V) : Prop := ∃ a, mg x = some (.ref a) ∧ TupIn K a xs
structure Txt (K : PySem.W.Frag) (mg : Str → Option Value) (C : Addr) : Prop where
  cl : Cls K C
  gC : mg "Line" = some (.ref C)
  n_liquor : NoAttr K C "liquor"
  n_lot : NoAttr K C "lot"
  n_fresh : NoAttr K C "fresh"
  n_raw : NoAttr K C "raw"
  n_strengths : NoAttr K C "strengths"
  n_supplied : NoAttr K C "supplied"
  n_tanned : NoAttr K C "tanned"
  n_discharged : NoAttr K C "discharged"
  n_days : NoAttr K C "days"
  b_range : mg "range" = none
  b_len : mg "len" = none
  b_abs : mg "abs" = none
  b_sum : mg "sum" = none
  k_NO_LINE : IntIn mg "NO_LINE" (-11)
  k_NO_PIT : IntIn mg "NO_PIT" (-2)
  k_OUTSIDE : IntIn mg "OUTSIDE" (-22)
  k_TOO_MUCH : IntIn mg "TOO_MUCH" (-28)
  k_NOT_THERE : IntIn mg "NOT_THERE" (-33)
  k_MOST_PITS : IntIn mg "MOST_PITS" (6)
  k_MOST_AMOUNT : IntIn mg "MOST_AMOUNT" (50)
  k_MOST_TOP : IntIn mg "MOST_TOP" (100)
  k_MOST_BOTTOM : IntIn mg "MOST_BOTTOM" (100)
  k_MOST_DAYS : IntIn mg "MOST_DAYS" (24)
  k_NOUGHT : TupNm K mg "NOUGHT" [.int 0, .int 1]
  k_WHOLE : TupNm K mg "WHOLE" [.int 1, .int 1]
  k_CREATE : IntIn mg "CREATE" (0)
  k_SIZES : TupNm K mg "SIZES" [.int 3, .int 2, .int 2, .int 3, .int 0, .int 1, .int 0, .int 0, .int 1, .int 1, .int 1, .int 0, .int 0, .int 2, .int 2, .int 1, .int 0, .int 1, .int 1, .int 0]
  d_is_pit_count : DefIn K mg "is_pit_count" s_is_pit_count ["number"]
  d_is_amount : DefIn K mg "is_amount" s_is_amount ["number"]
  d_is_day_count : DefIn K mg "is_day_count" s_is_day_count ["number"]
  d_is_strength : DefIn K mg "is_strength" s_is_strength ["num", "den"]
  d_common : DefIn K mg "common" s_common ["one", "other"]
  d_share : DefIn K mg "share" s_share ["top", "bottom"]
  d_plus : DefIn K mg "plus" s_plus ["one", "other"]
  d_minus : DefIn K mg "minus" s_minus ["one", "other"]
  d_times : DefIn K mg "times" s_times ["number", "one"]
  d_total : DefIn K mg "total" s_total ["some"]
  d_size : DefIn K mg "size" s_size ["one"]
  d_is_at_least : DefIn K mg "is_at_least" s_is_at_least ["one", "other"]
  d_greatest : DefIn K mg "greatest" s_greatest ["some"]
  d_numbers_of : DefIn K mg "numbers_of" s_numbers_of ["some"]
  d_told_strengths : DefIn K mg "told_strengths" s_told_strengths ["strengths"]
  d_set_fresh : DefIn K mg "set_fresh" s_set_fresh ["line", "num", "den"]
  d_set_raw : DefIn K mg "set_raw" s_set_raw ["line", "num", "den"]
  d_set_strength : DefIn K mg "set_strength" s_set_strength ["line", "pit", "num", "den"]
  d_run_day : DefIn K mg "run_day" s_run_day ["line"]
  d_run_days : DefIn K mg "run_days" s_run_days ["line", "count"]
  d_add_pit : DefIn K mg "add_pit" s_add_pit ["line"]
  d_remove_pit : DefIn K mg "remove_pit" s_remove_pit ["line", "pit"]
  d_mixed : DefIn K mg "mixed" s_mixed ["liquor", "strong", "lot", "weak"]
  d_liquors_of : DefIn K mg "liquors_of" s_liquors_of ["strengths", "fresh"]
  d_lots_of : DefIn K mg "lots_of" s_lots_of ["strengths", "raw"]
  d_after_day : DefIn K mg "after_day" s_after_day ["strengths", "liquor", "lot", "fresh", "raw"]
  d_after_days : DefIn K mg "after_days" s_after_days ["count", "strengths", "liquor", "lot", "fresh", "raw"]
  d_powers : DefIn K mg "powers" s_powers ["number", "many"]
  d_steps : DefIn K mg "steps" s_steps ["pits", "liquor", "lot"]
  d_steady : DefIn K mg "steady" s_steady ["pits", "liquor", "lot", "fresh", "raw"]
  d_steady_last : DefIn K mg "steady_last" s_steady_last ["pits", "liquor", "lot", "fresh", "raw"]
  d_portioned : DefIn K mg "portioned" s_portioned ["portions", "liquor", "lot", "fresh", "raw"]
  d_steady_of : DefIn K mg "steady_of" s_steady_of ["line", "pits"]
  d_steady_lot_of : DefIn K mg "steady_lot_of" s_steady_lot_of ["line", "pits"]
  d_portions_lot_of : DefIn K mg "portions_lot_of" s_portions_lot_of ["line", "portions"]
  d_get_strengths : DefIn K mg "get_strengths" s_get_strengths ["line"]
  d_steady_state : DefIn K mg "steady_state" s_steady_state ["line"]
  d_steady_lot : DefIn K mg "steady_lot" s_steady_lot ["line", "pits"]
  d_steady_discharge : DefIn K mg "steady_discharge" s_steady_discharge ["line", "pits"]
  d_portions_lot : DefIn K mg "portions_lot" s_portions_lot ["line", "portions"]
  d_deviation : DefIn K mg "deviation" s_deviation ["line"]
  d_balance : DefIn K mg "balance" s_balance ["line"]
  d_pits_needed : DefIn K mg "pits_needed" s_pits_needed ["line", "num", "den"]
  d_days_needed : DefIn K mg "days_needed" s_days_needed ["line", "num", "den"]
  d_preview_days : DefIn K mg "preview_days" s_preview_days ["line", "count"]
  d_countercurrent_gain : DefIn K mg "countercurrent_gain" s_countercurrent_gain ["line", "pits"]
  d_status : DefIn K mg "status" s_status ["line"]
  d_size_of : DefIn K mg "size_of" s_size_of ["number"]
  d_created : DefIn K mg "created" s_created ["line", "given"]
  d_changed : DefIn K mg "changed" s_changed ["line", "number", "given"]
  d_asked_state : DefIn K mg "asked_state" s_asked_state ["line", "number"]
  d_asked_with : DefIn K mg "asked_with" s_asked_with ["line", "number", "given"]
  d_told : DefIn K mg "told" s_told ["line", "number", "given"]
  d_done : DefIn K mg "done" s_done ["line", "number", "given"]
  d_answers : DefIn K mg "answers" s_answers ["calls"]
  d_init : ∃ f fd, Mk K C f ∧ Fun K "__init__" "Line.__init__" m___init__ f fd ∧ Binds K fd ["self", "pit_count", "liquor", "lot"] []
  d_put_fresh : MethIn K C "put_fresh" "Line.put_fresh" m_put_fresh ["self", "strength"]
  d_put_raw : MethIn K C "put_raw" "Line.put_raw" m_put_raw ["self", "strength"]
  d_put_strength : MethIn K C "put_strength" "Line.put_strength" m_put_strength ["self", "pit", "strength"]
  d_take_out : MethIn K C "take_out" "Line.take_out" m_take_out ["self", "lot_strength", "liquor_strength"]
  d_pass_day : MethIn K C "pass_day" "Line.pass_day" m_pass_day ["self"]
  d_add_last : MethIn K C "add_last" "Line.add_last" m_add_last ["self"]
  d_take_pit : MethIn K C "take_pit" "Line.take_pit" m_take_pit ["self", "pit"]
end Tan
end
section
namespace Tan
open PySem PySem.Spec PyProof.Rows L2
/-! ### what lies in the heap -/
/-- a fraction -/
def Fr (K : PySem.W.Frag) (H : Hp) (p : Addr) (q : Rat) : Prop := SqT K H p [.int q.num, .int (q.den : Int)]
/-- a list of fractions -/
def Frs (K : PySem.W.Frag) (H : Hp) (l : Addr) (qs : List Rat) : Prop := ∃ ps : List Addr, H l = some (.lst (ps.map V.ref)) ∧ Paired (Fr K H) ps qs
/-- all but the object at a is as it was -/
def But (a : Addr) (H H' : Hp) : Prop := ∀ b o, H b = some o → b ≠ a → H' b = some o
theorem But.refl (a : Addr) (H : Hp) : But a H H := fun _ _ h _ => h
theorem But.trans {a : Addr} {H H1 H2 : Hp} (x : But a H H1) (y : But a H1 H2) : But a H H2 := fun b o h n => y b o (x b o h n) n
theorem But.of {a : Addr} {H H' : Hp} (x : Same H H') : But a H H' := fun b o h _ => x b o h
theorem But.upd {a : Addr} {H : Hp} {o : HO} : But a H (upd H a o) := fun b u h n => by rw [upd_ne n]; exact h
theorem same_new {H : Hp} {p : Addr} {o : HO} (h : H p = none) : Same H (upd H p o) := fun b u e => by rw [upd_ne (ne_of_none e h)]; exact e
theorem same_newer {H H1 : Hp} {p : Addr} {o : HO} (x : Same H H1) (h : H1 p = none) : Same H (upd H1 p o) := x.trans (same_new h)
/-- a store at what was new -/
theorem same_upd {H H1 : Hp} {p : Addr} {o : HO} (x : Same H H1) (h : H p = none) : Same H (upd H1 p o) := fun b u e => by rw [upd_ne (ne_of_none e h)]; exact x b u e
theorem SqT.same {K : PySem.W.Frag} {H H' : Hp} {a : Addr} {xs : List V} (e : Same H H') (h : SqT K H a xs) : SqT K H' a xs := by
  rcases h with (h | ⟨o, h⟩) | h
  · exact .inl (.inl (e _ _ h))
  · exact .inl (.inr ⟨o, e _ _ h⟩)
  · exact .inr h
theorem SqT.but {K : PySem.W.Frag} {H H' : Hp} {a b C dx : Addr} {fs : List (Str × V)} {xs : List V} (e : But a H H') (ha : H a = some (.ins C dx fs)) (h : SqT K H b xs) : SqT K H' b xs := by
  rcases h with (h | ⟨o, h⟩) | h
  · exact .inl (.inl (e _ _ h (ne_of h ha (by intro z; cases z))))
  · exact .inl (.inr ⟨o, e _ _ h (ne_of h ha (by intro z; cases z))⟩)
  · exact .inr h
theorem SqL.but {K : PySem.W.Frag} {H H' : Hp} {a b C dx : Addr} {fs : List (Str × V)} {xs : List V} (e : But a H H') (ha : H a = some (.ins C dx fs)) (h : SqL K H b xs) : SqL K H' b xs := by
  rcases h with (h | ⟨o, h⟩) | h
  · exact .inl (.inl (e _ _ h (ne_of h ha (by intro z; cases z))))
  · exact .inl (.inr ⟨o, e _ _ h (ne_of h ha (by intro z; cases z))⟩)
  · exact .inr h
theorem lst_but {H H' : Hp} {a l C dx : Addr} {fs : List (Str × V)} {xs : List V} (e : But a H H') (ha : H a = some (.ins C dx fs)) (h : H l = some (.lst xs)) : H' l = some (.lst xs) := e _ _ h (ne_of h ha (by intro z; cases z))
theorem Fr.same {K : PySem.W.Frag} {H H' : Hp} {p : Addr} {q : Rat} (e : Same H H') (h : Fr K H p q) : Fr K H' p q := SqT.same e h
theorem Fr.but {K : PySem.W.Frag} {H H' : Hp} {a p C dx : Addr} {fs : List (Str × V)} {q : Rat} (e : But a H H') (ha : H a = some (.ins C dx fs)) (h : Fr K H p q) : Fr K H' p q := SqT.but e ha h
theorem Frs.same {K : PySem.W.Frag} {H H' : Hp} {l : Addr} {qs : List Rat} (e : Same H H') (h : Frs K H l qs) : Frs K H' l qs := by
  obtain ⟨ps, h1, h2⟩ := h
  exact ⟨ps, e _ _ h1, Paired.mapP h2 fun _ _ x => x.same e⟩
theorem Frs.but {K : PySem.W.Frag} {H H' : Hp} {a l C dx : Addr} {fs : List (Str × V)} {qs : List Rat} (e : But a H H') (ha : H a = some (.ins C dx fs)) (h : Frs K H l qs) : Frs K H' l qs := by
  obtain ⟨ps, h1, h2⟩ := h
  exact ⟨ps, lst_but e ha h1, Paired.mapP h2 fun _ _ x => x.but e ha⟩
theorem Fr.of {K : PySem.W.Frag} {H : Hp} {p : Addr} {q : Rat} (h : H p = some (.tup [.int q.num, .int (q.den : Int)])) : Fr K H p q := SqT.of h
theorem Fr.at0 {q : Rat} : atI [V.int q.num, V.int (q.den : Int)] 0 = some (V.int q.num) := rfl
theorem Fr.at1 {q : Rat} : atI [V.int q.num, V.int (q.den : Int)] 1 = some (V.int (q.den : Int)) := rfl
theorem paired_get {α β : Type} {F : α → β → Prop} : ∀ {xs : List α} {ys : List β} {i : Nat} {y : β}, Paired F xs ys → ys[i]? = some y → ∃ x, xs[i]? = some x ∧ F x y
  | _, _, _, _, .nil, e => by simp at e
  | _, _, 0, _, .cons r _, e => by simp at e; subst e; exact ⟨_, rfl, r⟩
  | _, _, i + 1, y, .cons _ t, e => by
    obtain ⟨u, h1, h2⟩ := paired_get (i := i) (y := y) t (by simpa using e)
    exact ⟨u, by simpa using h1, h2⟩
theorem paired_len {α β : Type} {F : α → β → Prop} : ∀ {xs : List α} {ys : List β}, Paired F xs ys → xs.length = ys.length
  | _, _, .nil => rfl
  | _, _, .cons _ t => congrArg (· + 1) (paired_len t)
theorem paired_app {α β : Type} {F : α → β → Prop} : ∀ {xs xs' : List α} {ys ys' : List β}, Paired F xs ys → Paired F xs' ys' → Paired F (xs ++ xs') (ys ++ ys')
  | _, _, _, _, .nil, s => s
  | _, _, _, _, .cons r t, s => .cons r (paired_app t s)
theorem paired_take {α β : Type} {F : α → β → Prop} : ∀ {xs : List α} {ys : List β} (n : Nat), Paired F xs ys → Paired F (xs.take n) (ys.take n)
  | _, _, 0, _ => .nil
  | _, _, _ + 1, .nil => .nil
  | _, _, n + 1, .cons r t => .cons r (paired_take n t)
theorem paired_drop {α β : Type} {F : α → β → Prop} : ∀ {xs : List α} {ys : List β} (n : Nat), Paired F xs ys → Paired F (xs.drop n) (ys.drop n)
  | _, _, 0, r => r
  | _, _, _ + 1, .nil => .nil
  | _, _, n + 1, .cons _ t => paired_drop n t
theorem paired_rep {α β : Type} {F : α → β → Prop} {x : α} {y : β} (h : F x y) : ∀ n, Paired F (List.replicate n x) (List.replicate n y)
  | 0 => .nil
  | n + 1 => .cons h (paired_rep h n)
/-- the i-th of a list of fractions -/
theorem Frs.get {K : PySem.W.Frag} {H : Hp} {l : Addr} {qs : List Rat} {i : Nat} (h : Frs K H l qs) (hi : i < qs.length) : ∃ xs p, H l = some (.lst xs) ∧ xs.length = qs.length ∧ xs[i]? = some (.ref p) ∧ Fr K H p (qs.getD i 0) := by
  obtain ⟨ps, h1, h2⟩ := h
  obtain ⟨p, hp, hf⟩ := paired_get (i := i) (y := qs[i]) h2 (List.getElem?_eq_getElem hi)
  refine ⟨_, p, h1, by rw [List.length_map, paired_len h2], by rw [List.getElem?_map, hp]; rfl, ?_⟩
  rw [List.getD_eq_getElem?_getD, List.getElem?_eq_getElem hi]
  exact hf
theorem Frs.len {K : PySem.W.Frag} {H : Hp} {l : Addr} {qs : List Rat} (h : Frs K H l qs) : ∃ xs, H l = some (.lst xs) ∧ xs.length = qs.length := by
  obtain ⟨ps, h1, h2⟩ := h
  exact ⟨_, h1, by rw [List.length_map, paired_len h2]⟩
/-! ### promises -/
def Ok (P : Program) (w : World) (K : PySem.W.Frag) (mg : Str → Option Value) (base : Heap) (k : Nat) (x : Str) (ps : List Str) (sp : Sp) : Prop :=
  ∃ f fd, FnOk P w K mg base CX0 k f fd ps sp ∧ mg x = some (.ref f) ∧ PySem.W.keepIn K (.ref f) = true ∧ Binds K fd ps []
def OkM (P : Program) (w : World) (K : PySem.W.Frag) (mg : Str → Option Value) (base : Heap) (C : Addr) (k : Nat) (m : Str) (ps : List Str) (sp : Sp) : Prop :=
  ∃ f fd, FnOk P w K mg base CX0 k f fd ps sp ∧ Meth K C m f ∧ Binds K fd ps []
/-- hands back a fraction, changes nothing -/
abbrev RetF (K : PySem.W.Frag) (H : Hp) (Q : VK) (q : Rat) : Prop := ∀ H' p, Same H H' → Fr K H' p q → Q (.ref p) H'
abbrev RetFs (K : PySem.W.Frag) (H : Hp) (Q : VK) (qs : List Rat) : Prop := ∀ H' l, Same H H' → Frs K H' l qs → Q (.ref l) H'
abbrev RetL (H : Hp) (Q : VK) (ns : List Int) : Prop := ∀ H' l, Same H H' → H' l = some (.lst (ns.map V.int)) → Q (.ref l) H'
/-- .. a new list -/
abbrev RetLn (H : Hp) (Q : VK) (ns : List Int) : Prop := ∀ H' l, Same H H' → H l = none → H' l = some (.lst (ns.map V.int)) → Q (.ref l) H'
section
variable {X : Cx} {k : Nat} {ps : List Str} {sp : Sp} {x : Str} {p pos : Pos} {e : Expr} {es : List Expr} {t : TA}
theorem pe_ok {j : Nat} (O : Ok X.prog X.w X.K X.mg X.base k x ps sp) (hr : Room j X.A) (ha : PA X (e :: es) t) (hj : k ≤ j := by decide) (hg : Gl X x := by rfl)
    (hdb : (x == ("__debug__" : Str)) = false := by decide) (he : starEach (e :: es) X.env = (false, eval e X.env) :: starEach es X.env := by rfl) (hpl : (backTo pos (starEach es X.env)).any (·.1) = false := by rfl) :
    PE X (.Call (.Name x p) (e :: es) [] pos) (tCall sp [] E0 t) := by
  obtain ⟨f, fd, G, g, kp, b⟩ := O
  exact pe_call G (hr.mono hj) hg g kp b .nil pass0 ha hdb he hpl
/-- a constant of the top -/
theorem pe_k {x : Str} {i : Int} {pos : Pos} (h : IntIn X.mg x i) (hg : Gl X x := by rfl) (hd : (x == ("__debug__" : Str)) = false := by decide) : PE X (.Name x pos) (tC (.int i)) := by
  obtain ⟨t, h⟩ := h
  exact pe_glob hg h ⟨_, rfl⟩ hd
/-- a tuple of the top -/
def tTN (K : PySem.W.Frag) (xs : List V) : TE := fun _ H Q => ∀ a, TupIn K a xs → Q (.ref a) H
theorem pe_t {x : Str} {xs : List V} {pos : Pos} (h : TupNm X.K X.mg x xs) (hg : Gl X x := by rfl) (hd : (x == ("__debug__" : Str)) = false := by decide) : PE X (.Name x pos) (tTN X.K xs) := by
  obtain ⟨a, h, ht⟩ := h
  refine ⟨fun pins s σ H Q I q => ?_⟩
  exact (pe_glob (v := .ref a) hg h rfl hd).run pins s σ H Q I (q a ht)
end
theorem TupIn.sq {K : PySem.W.Frag} {a : Addr} {xs : List V} (h : TupIn K a xs) (H : Hp) : SqT K H a xs := .inr h
theorem Ok.imp {P : Program} {w : World} {K : PySem.W.Frag} {mg : Str → Option Value} {base : Heap} {k : Nat} {x : Str} {ps : List Str} {sp sp' : Sp} (O : Ok P w K mg base k x ps sp) (h : ∀ vs H Q E, sp' vs H Q E → sp vs H Q E) : Ok P w K mg base k x ps sp' := by
  obtain ⟨f, fd, G, r⟩ := O
  exact ⟨f, fd, G.imp h, r⟩
end Tan
end
section
namespace Tan
open PySem PySem.Spec PyProof.Rows L2
/-! ### limits -/
def spPits : Sp := fun vs H Q _ => ∃ n : Int, vs = [.int n] ∧ Q (.bl (decide (1 ≤ n) && decide (n ≤ 6))) H
def spAmount : Sp := fun vs H Q _ => ∃ n : Int, vs = [.int n] ∧ Q (.bl (decide (1 ≤ n) && decide (n ≤ 50))) H
def spDays : Sp := fun vs H Q _ => ∃ n : Int, vs = [.int n] ∧ Q (.bl (decide (1 ≤ n) && decide (n ≤ 24))) H
def spStrength : Sp := fun vs H Q _ => ∃ x y : Int, vs = [.int x, .int y] ∧ Q (.bl (decide (x ≤ 100) && (decide (1 ≤ y) && decide (y ≤ 100)))) H
section
variable {P : Program} {w : World} {K : PySem.W.Frag} {mg : Str → Option Value} {base : Heap} {C : Addr}
theorem chain_and {a b : Prop} [Decidable a] [Decidable b] {Q : VK} {H : Hp} (h : Q (.bl (decide a && decide b)) H) : if decide a = true then (Q (.bl (decide b)) H) else Q (.bl false) H := by
  by_cases c : a
  · rw [decide_eq_true c] at h ⊢
    exact iteT h
  · rw [decide_eq_false c] at h ⊢
    exact iteF h
theorem ok_is_pit_count (T : Txt K mg C) : Ok P w K mg base 1 "is_pit_count" ["number"] spPits := by
  obtain ⟨f, fd, F, g, b⟩ := T.d_is_pit_count
  refine ⟨f, fd, F.ok cs_is_pit_count (fun vs H Q E h => ?_) (fun cdv A outer s H vs Q E hr h => ⟨_, pss_one (ps_ret (pe_chain op_le op_le pe_int (pv 0) (pe_k T.k_MOST_PITS))), ?_⟩), g, F.kp, b⟩
  · obtain ⟨n, rfl, _⟩ := h
    rfl
  · obtain ⟨n, rfl, q⟩ := h
    refine ⟨_, rfl, _, _, rfl, rfl, _, rfl, ?_⟩
    by_cases c : 1 ≤ n
    · rw [decide_eq_true c] at q ⊢
      exact iteT ⟨_, _, rfl, rfl, q⟩
    · rw [decide_eq_false c] at q ⊢
      exact iteF q
theorem ok_is_amount (T : Txt K mg C) : Ok P w K mg base 1 "is_amount" ["number"] spAmount := by
  obtain ⟨f, fd, F, g, b⟩ := T.d_is_amount
  refine ⟨f, fd, F.ok cs_is_amount (fun vs H Q E h => ?_) (fun cdv A outer s H vs Q E hr h => ⟨_, pss_one (ps_ret (pe_chain op_le op_le pe_int (pv 0) (pe_k T.k_MOST_AMOUNT))), ?_⟩), g, F.kp, b⟩
  · obtain ⟨n, rfl, _⟩ := h
    rfl
  · obtain ⟨n, rfl, q⟩ := h
    refine ⟨_, rfl, _, _, rfl, rfl, _, rfl, ?_⟩
    by_cases c : 1 ≤ n
    · rw [decide_eq_true c] at q ⊢
      exact iteT ⟨_, _, rfl, rfl, q⟩
    · rw [decide_eq_false c] at q ⊢
      exact iteF q
theorem ok_is_day_count (T : Txt K mg C) : Ok P w K mg base 1 "is_day_count" ["number"] spDays := by
  obtain ⟨f, fd, F, g, b⟩ := T.d_is_day_count
  refine ⟨f, fd, F.ok cs_is_day_count (fun vs H Q E h => ?_) (fun cdv A outer s H vs Q E hr h => ⟨_, pss_one (ps_ret (pe_chain op_le op_le pe_int (pv 0) (pe_k T.k_MOST_DAYS))), ?_⟩), g, F.kp, b⟩
  · obtain ⟨n, rfl, _⟩ := h
    rfl
  · obtain ⟨n, rfl, q⟩ := h
    refine ⟨_, rfl, _, _, rfl, rfl, _, rfl, ?_⟩
    by_cases c : 1 ≤ n
    · rw [decide_eq_true c] at q ⊢
      exact iteT ⟨_, _, rfl, rfl, q⟩
    · rw [decide_eq_false c] at q ⊢
      exact iteF q
theorem ok_is_strength (T : Txt K mg C) : Ok P w K mg base 1 "is_strength" ["num", "den"] spStrength := by
  obtain ⟨f, fd, F, g, b⟩ := T.d_is_strength
  refine ⟨f, fd, F.ok cs_is_strength (fun vs H Q E h => ?_) (fun cdv A outer s H vs Q E hr h => ⟨_, pss_one (ps_ret (pe_and (pe_cmpR op_le (pv 0) (pe_k T.k_MOST_TOP) (nomark _)) (pe_one (pe_chain op_le op_le pe_int (pv 1) (pe_k T.k_MOST_BOTTOM))))), ?_⟩), g, F.kp, b⟩
  · obtain ⟨n, _, rfl, _⟩ := h
    rfl
  · obtain ⟨x, y, rfl, q⟩ := h
    refine ⟨_, rfl, _, _, rfl, rfl, _, rfl, ?_⟩
    by_cases c0 : x ≤ 100
    · rw [decide_eq_true c0] at q ⊢
      refine iteT ?_
      refine ⟨_, rfl, _, _, rfl, rfl, _, rfl, ?_⟩
      by_cases c : 1 ≤ y
      · rw [decide_eq_true c] at q ⊢
        exact iteT ⟨_, _, rfl, rfl, q⟩
      · rw [decide_eq_false c] at q ⊢
        exact iteF q
    · rw [decide_eq_false c0] at q ⊢
      exact iteF q
/-! ### fractions -/
def spCommon : Sp := fun vs H Q _ => ∃ a b : Nat, vs = [.int (a : Int), .int (b : Int)] ∧ Q (.int ((a.gcd b : Nat) : Int)) H
theorem ok_common (T : Txt K mg C) : Ok P w K mg base 1 "common" ["one", "other"] spCommon := by
  obtain ⟨f, fd, F, g, b⟩ := T.d_common
  refine ⟨f, fd, F.ok cs_common (fun vs H Q E h => ?_) (fun cdv A outer s H vs Q E hr h => ⟨_, pss_cons (ps_while PassesOwn.never (pt_cmpR op_gt (pv 0) pe_int (nomark _))
      (pss_one (ps_par (i := 0) (j := 1) rfl cs_common.nd rfl rfl (by decide) rfl rfl (pa_cons (pe_op op_modN (pv 1) (pv 0)) (pa_cons (pv 0) pa_nil)) (by rfl)))) (pss_one (ps_ret (pv 1))), ?_⟩), g, F.kp, b⟩
  · obtain ⟨n, _, rfl, _⟩ := h
    rfl
  · obtain ⟨x, y, rfl, q⟩ := h
    refine ⟨fun m σ H' => ∃ a b : Nat, m = a ∧ σ = [some (.int (a : Int)), some (.int (b : Int))] ∧ a.gcd b = x.gcd y ∧ H' = H, ⟨x, x, y, rfl, rfl, rfl, rfl⟩, ?_⟩
    rintro m σ H' ⟨a, b, hm, rfl, e, rfl⟩
    refine ⟨_, rfl, _, _, rfl, rfl, _, rfl, ?_⟩
    by_cases c : a = 0
    · subst c
      refine iteF ?_
      refine ⟨_, rfl, ?_⟩
      rw [Nat.gcd_zero_left] at e
      rw [e]
      exact q
    · rw [decide_eq_true (show (0 : Int) < (a : Int) by omega)]
      refine iteT ?_
      refine ⟨fun σ' H2 => ∃ a' b' : Nat, a' < a ∧ σ' = [some (.int (a' : Int)), some (.int (b' : Int))] ∧ a'.gcd b' = x.gcd y ∧ H2 = H', ?_, ?_⟩
      · rintro σ' H2 ⟨a', b', h1, h2, h3, h4⟩
        exact ⟨a', (by omega), a', b', rfl, h2, h3, h4⟩
      · refine ⟨_, rfl, _, rfl, _, _, rfl, rfl, (by omega), _, rfl, _, _, rfl, ?_⟩
        refine ⟨b % a, a, Nat.mod_lt _ (by omega), ?_, ?_, rfl⟩
        · show [some (V.int ((b : Int).fmod (a : Int))), some (V.int (a : Int))] = [some (V.int ((b % a : Nat) : Int)), some (V.int (a : Int))]
          rw [Int.fmod_eq_emod_of_nonneg _ (by omega), Int.natCast_emod]
        · rw [gcd_turn, e]
def spShare (K : PySem.W.Frag) : Sp := fun vs H Q _ => ∃ a b : Int, vs = [.int a, .int b] ∧ 0 < b ∧ b.natAbs < 2 ^ 9000 ∧ RetF K H Q ((a : Rat) / (b : Rat))
theorem ok_share (T : Txt K mg C) : Ok P w K mg base 2 "share" ["top", "bottom"] (spShare K) := by
  obtain ⟨f, fd, F, g, b⟩ := T.d_share
  refine ⟨f, fd, F.ok cs_share (fun vs H Q E h => ?_) (fun cdv A outer s H vs Q E hr h => ⟨_, pss_cons (ps_set (i := 2) cs_share.nd rfl (.inl rfl) (pe_ok (ok_common T) hr (pa_cons (pe_callB call_abs (by rfl) T.b_abs (by decide +kernel) (pa_cons (pv 0) pa_nil)) (pa_cons (pv 1) pa_nil))))
      (pss_one (ps_ret (pe_tup (pa_cons (pe_op op_fdivW (pv 0) (pv 2)) (pa_cons (pe_op op_fdivW (pv 1) (pv 2)) pa_nil))))), ?_⟩), g, F.kp, b⟩
  · obtain ⟨n, _, rfl, _⟩ := h
    rfl
  · obtain ⟨a, b, rfl, hb, hz, q⟩ := h
    have e1 : (if a < 0 then -a else a) = (a.natAbs : Int) := by split <;> omega
    have e2 : b = (b.natAbs : Int) := by omega
    have g0 : 0 < a.natAbs.gcd b.natAbs := Nat.gcd_pos_of_pos_right _ (by omega)
    have g1 : a.natAbs.gcd b.natAbs ≤ b.natAbs := Nat.le_of_dvd (by omega) (Nat.gcd_dvd_right _ _)
    have gd : CDivW a ((a.natAbs.gcd b.natAbs : Nat) : Int) := wide_div (by omega) (b := 9000) (by rw [Int.natAbs_natCast]; exact Nat.lt_of_le_of_lt g1 hz) (by decide) (by decide)
    refine ⟨_, rfl, _, rfl, _, rfl, a.natAbs, b.natAbs, ?_, ?_⟩
    · rw [e1, ← e2]
      rfl
    refine ⟨_, rfl, _, rfl, _, _, rfl, rfl, gd, _, rfl, _, rfl, _, _, rfl, rfl, gd, (by show 2 ≤ sizeLine; decide), fun p hp => ?_⟩
    refine q _ p (same_new hp) (Fr.of ?_)
    rw [num_div hb, den_div hb]
    exact upd_same
end
end Tan
end
section
namespace Tan
open PySem PySem.Spec PyProof.Rows L2
/-! ### sums of fractions -/
theorem lt9 {n k : Nat} (h : n < 2 ^ k) (hk : k ≤ 9000) : n < 2 ^ 9000 := Nat.lt_of_lt_of_le h (Nat.pow_le_pow_right (by decide) hk)
theorem mul2 {i j : Int} {a b : Nat} (ha : i.natAbs < 2 ^ a) (hb : j.natAbs < 2 ^ b) : (i * j).natAbs < 2 ^ (a + b) := wide_lt ha hb
theorem den_i (q : Rat) : (0 : Int) < (q.den : Int) := Int.natCast_pos.mpr (den_pos q)
/-- the reading of one[i] for a fraction -/
def spPlus (K : PySem.W.Frag) : Sp := fun vs H Q _ => ∃ (a b : Addr) (x y : Rat), vs = [.ref a, .ref b] ∧ Fr K H a x ∧ Fr K H b y ∧ Nice 2000 x ∧ Nice 2000 y ∧ RetF K H Q (x + y)
def spMinus (K : PySem.W.Frag) : Sp := fun vs H Q _ => ∃ (a b : Addr) (x y : Rat), vs = [.ref a, .ref b] ∧ Fr K H a x ∧ Fr K H b y ∧ Nice 2000 x ∧ Nice 2000 y ∧ RetF K H Q (x - y)
def spTimes (K : PySem.W.Frag) : Sp := fun vs H Q _ => ∃ (c : Int) (b : Addr) (y : Rat), vs = [.int c, .ref b] ∧ Fr K H b y ∧ c.natAbs < 2 ^ 64 ∧ Nice 2000 y ∧ RetF K H Q ((c : Rat) * y)
def spSize (K : PySem.W.Frag) : Sp := fun vs H Q _ => ∃ (b : Addr) (y : Rat), vs = [.ref b] ∧ Fr K H b y ∧ RetF K H Q (Kp395.absolute y)
def spAtLeast (K : PySem.W.Frag) : Sp := fun vs H Q _ => ∃ (a b : Addr) (x y : Rat), vs = [.ref a, .ref b] ∧ Fr K H a x ∧ Fr K H b y ∧ Nice 2000 x ∧ Nice 2000 y ∧ Q (.bl (decide (y ≤ x))) H
/-- the sum of the first ones -/
def sumTo (qs : List Rat) (i : Nat) : Rat := (qs.take i).foldl (· + ·) 0
def spTotal (K : PySem.W.Frag) : Sp := fun vs H Q _ => ∃ (l : Addr) (qs : List Rat), vs = [.ref l] ∧ Frs K H l qs ∧ (∀ q ∈ qs, Nice 2000 q) ∧ (∀ i, i ≤ qs.length → Nice 2000 (sumTo qs i)) ∧ RetF K H Q (sumTo qs qs.length)
def bestTo (qs : List Rat) (i : Nat) : Rat := (qs.take i).foldl Kp395.larger 0
def spGreatest (K : PySem.W.Frag) : Sp := fun vs H Q _ => ∃ (l : Addr) (qs : List Rat), vs = [.ref l] ∧ Frs K H l qs ∧ (∀ q ∈ qs, Nice 2000 q) ∧ RetF K H Q (bestTo qs qs.length)
def nums (qs : List Rat) : List Int := qs.flatMap Kp395.fraction
def spNumbers (K : PySem.W.Frag) : Sp := fun vs H Q _ => ∃ (l : Addr) (qs : List Rat), vs = [.ref l] ∧ Frs K H l qs ∧ qs.length ≤ 1000 ∧ RetL H Q (nums qs)
def spTold (K : PySem.W.Frag) : Sp := fun vs H Q _ => ∃ (l : Addr) (qs : List Rat), vs = [.ref l] ∧ Frs K H l qs ∧ qs.length ≤ 1000 ∧ RetLn H Q ((qs.length : Int) :: nums qs)
theorem take_succ_of {α : Type} {l : List α} {i : Nat} {x : α} (h : l[i]? = some x) : l.take (i + 1) = l.take i ++ [x] := by
  rw [List.take_succ, h]
  rfl
theorem sumTo_succ {qs : List Rat} {i : Nat} {x : Rat} (h : qs[i]? = some x) : sumTo qs (i + 1) = sumTo qs i + x := by
  unfold sumTo
  rw [take_succ_of h, List.foldl_append]
  rfl
theorem bestTo_succ {qs : List Rat} {i : Nat} {x : Rat} (h : qs[i]? = some x) : bestTo qs (i + 1) = Kp395.larger (bestTo qs i) x := by
  unfold bestTo
  rw [take_succ_of h, List.foldl_append]
  rfl
theorem nums_take {qs : List Rat} {i : Nat} {x : Rat} (h : qs[i]? = some x) : nums (qs.take (i + 1)) = nums (qs.take i) ++ [x.num, (x.den : Int)] := by
  unfold nums
  rw [take_succ_of h, List.flatMap_append]
  rfl
theorem nums_len (qs : List Rat) : (nums qs).length = 2 * qs.length := by
  induction qs with
  | nil => rfl
  | cons a r ih =>
    show ([a.num, (a.den : Int)] ++ nums r).length = _
    rw [List.length_append, ih, List.length_cons, List.length_cons, List.length_cons]
    show 2 + 2 * r.length = _
    omega
theorem larger_le {x y : Rat} (h : x ≤ y) : Kp395.larger x y = y := by
  unfold Kp395.larger
  by_cases c : x < y
  · rw [if_pos c]
  · rw [if_neg c]
    exact Rat.le_antisymm h (Rat.not_lt.mp c)
theorem larger_gt {x y : Rat} (h : ¬ x ≤ y) : Kp395.larger x y = x := by
  unfold Kp395.larger
  exact if_neg fun c => h (Rat.le_of_lt c)
theorem nice_zero (k : Nat) (hk : 0 < k) : Nice k 0 := by
  have h : 1 < 2 ^ k := Nat.one_lt_two_pow (by omega)
  exact ⟨Nat.lt_trans Nat.zero_lt_one h, h⟩
theorem best_nice {qs : List Rat} {k : Nat} (hk : 0 < k) (h : ∀ q ∈ qs, Nice k q) : ∀ i, Nice k (bestTo qs i)
  | 0 => nice_zero k hk
  | i + 1 => by
    cases e : qs[i]? with
    | none =>
      have z : qs.length ≤ i := List.getElem?_eq_none_iff.mp e
      have e2 : bestTo qs (i + 1) = bestTo qs i := by
        unfold bestTo
        rw [List.take_of_length_le (by omega), List.take_of_length_le z]
      rw [e2]
      exact best_nice hk h i
    | some x =>
      rw [bestTo_succ e]
      unfold Kp395.larger
      split
      · exact h x (List.mem_of_getElem? e)
      · exact best_nice hk h i
theorem abs_num (y : Rat) : (Kp395.absolute y).num = if y.num < 0 then -y.num else y.num := by
  unfold Kp395.absolute
  have e : y < 0 ↔ y.num < 0 := by
    have h := @Rat.num_nonneg y
    rw [← Rat.not_le, ← h]
    omega
  by_cases c : y < 0
  · rw [if_pos c, if_pos (e.mp c), Rat.neg_num]
  · rw [if_neg c, if_neg fun z => c (e.mpr z)]
theorem abs_den (y : Rat) : (Kp395.absolute y).den = y.den := by
  unfold Kp395.absolute
  split
  · exact Rat.neg_den y
  · rfl
section
variable {P : Program} {w : World} {K : PySem.W.Frag} {mg : Str → Option Value} {base : Heap} {C : Addr}
theorem ok_plus (T : Txt K mg C) : Ok P w K mg base 3 "plus" ["one", "other"] (spPlus K) := by
  obtain ⟨f, fd, F, g, b⟩ := T.d_plus
  refine ⟨f, fd, F.ok cs_plus (fun vs H Q E h => ?_) (fun cdv A outer s H vs Q E hr h => ⟨_, pss_one (ps_ret (pe_ok (ok_share T) hr
      (pa_cons (pe_op op_add (pe_op op_mulW (pe_ix ix_tup (pv 0) pe_int (fun _ _ => rfl)) (pe_ix ix_tup (pv 1) pe_int (fun _ _ => rfl))) (pe_op op_mulW (pe_ix ix_tup (pv 1) pe_int (fun _ _ => rfl)) (pe_ix ix_tup (pv 0) pe_int (fun _ _ => rfl))))
      (pa_cons (pe_op op_mulW (pe_ix ix_tup (pv 0) pe_int (fun _ _ => rfl)) (pe_ix ix_tup (pv 1) pe_int (fun _ _ => rfl))) pa_nil)))), ?_⟩), g, F.kp, b⟩
  · obtain ⟨a, b, x, y, rfl, _⟩ := h
    rfl
  · obtain ⟨a, b, x, y, rfl, hx, hy, nx, ny, q⟩ := h
    have m1 : CMulW x.num (y.den : Int) := wide_mul nx.1 (by exact ny.2) (by decide) (by decide) (by decide)
    have m2 : CMulW y.num (x.den : Int) := wide_mul ny.1 (by exact nx.2) (by decide) (by decide) (by decide)
    have m3 : CMulW (x.den : Int) (y.den : Int) := wide_mul (by exact nx.2) (by exact ny.2) (by decide) (by decide) (by decide)
    refine ⟨_, rfl, a, _, _, _, rfl, rfl, hx, rfl, _, rfl, b, _, _, _, rfl, rfl, hy, rfl, _, _, rfl, rfl, m1, ?_⟩
    refine ⟨_, rfl, b, _, _, _, rfl, rfl, hy, rfl, _, rfl, a, _, _, _, rfl, rfl, hx, rfl, _, _, rfl, rfl, m2, _, _, rfl, rfl, ?_⟩
    refine ⟨_, rfl, a, _, _, _, rfl, rfl, hx, rfl, _, rfl, b, _, _, _, rfl, rfl, hy, rfl, _, _, rfl, rfl, m3, ?_⟩
    rw [add_div] at q
    exact ⟨_, _, rfl, Int.mul_pos (den_i x) (den_i y), lt9 (mul2 (a := 2000) (b := 2000) (by exact nx.2) (by exact ny.2)) (by decide), q⟩
theorem ok_minus (T : Txt K mg C) : Ok P w K mg base 3 "minus" ["one", "other"] (spMinus K) := by
  obtain ⟨f, fd, F, g, b⟩ := T.d_minus
  refine ⟨f, fd, F.ok cs_minus (fun vs H Q E h => ?_) (fun cdv A outer s H vs Q E hr h => ⟨_, pss_one (ps_ret (pe_ok (ok_share T) hr
      (pa_cons (pe_op op_sub (pe_op op_mulW (pe_ix ix_tup (pv 0) pe_int (fun _ _ => rfl)) (pe_ix ix_tup (pv 1) pe_int (fun _ _ => rfl))) (pe_op op_mulW (pe_ix ix_tup (pv 1) pe_int (fun _ _ => rfl)) (pe_ix ix_tup (pv 0) pe_int (fun _ _ => rfl))))
      (pa_cons (pe_op op_mulW (pe_ix ix_tup (pv 0) pe_int (fun _ _ => rfl)) (pe_ix ix_tup (pv 1) pe_int (fun _ _ => rfl))) pa_nil)))), ?_⟩), g, F.kp, b⟩
  · obtain ⟨a, b, x, y, rfl, _⟩ := h
    rfl
  · obtain ⟨a, b, x, y, rfl, hx, hy, nx, ny, q⟩ := h
    have m1 : CMulW x.num (y.den : Int) := wide_mul nx.1 (by exact ny.2) (by decide) (by decide) (by decide)
    have m2 : CMulW y.num (x.den : Int) := wide_mul ny.1 (by exact nx.2) (by decide) (by decide) (by decide)
    have m3 : CMulW (x.den : Int) (y.den : Int) := wide_mul (by exact nx.2) (by exact ny.2) (by decide) (by decide) (by decide)
    refine ⟨_, rfl, a, _, _, _, rfl, rfl, hx, rfl, _, rfl, b, _, _, _, rfl, rfl, hy, rfl, _, _, rfl, rfl, m1, ?_⟩
    refine ⟨_, rfl, b, _, _, _, rfl, rfl, hy, rfl, _, rfl, a, _, _, _, rfl, rfl, hx, rfl, _, _, rfl, rfl, m2, _, _, rfl, rfl, ?_⟩
    refine ⟨_, rfl, a, _, _, _, rfl, rfl, hx, rfl, _, rfl, b, _, _, _, rfl, rfl, hy, rfl, _, _, rfl, rfl, m3, ?_⟩
    rw [sub_div] at q
    exact ⟨_, _, rfl, Int.mul_pos (den_i x) (den_i y), lt9 (mul2 (a := 2000) (b := 2000) (by exact nx.2) (by exact ny.2)) (by decide), q⟩
theorem ok_times (T : Txt K mg C) : Ok P w K mg base 3 "times" ["number", "one"] (spTimes K) := by
  obtain ⟨f, fd, F, g, b⟩ := T.d_times
  refine ⟨f, fd, F.ok cs_times (fun vs H Q E h => ?_) (fun cdv A outer s H vs Q E hr h => ⟨_, pss_one (ps_ret (pe_ok (ok_share T) hr
      (pa_cons (pe_op op_mulW (pv 0) (pe_ix ix_tup (pv 1) pe_int (fun _ _ => rfl))) (pa_cons (pe_ix ix_tup (pv 1) pe_int (fun _ _ => rfl)) pa_nil)))), ?_⟩), g, F.kp, b⟩
  · obtain ⟨a, b, x, rfl, _⟩ := h
    rfl
  · obtain ⟨c, b, y, rfl, hy, hc, ny, q⟩ := h
    have m1 : CMulW c y.num := wide_mul hc ny.1 (by decide) (by decide) (by decide)
    refine ⟨_, rfl, _, rfl, b, _, _, _, rfl, rfl, hy, rfl, _, _, rfl, rfl, m1, _, rfl, b, _, _, _, rfl, rfl, hy, rfl, ?_⟩
    rw [mul_div] at q
    exact ⟨_, _, rfl, den_i y, lt9 ny.2 (by decide), q⟩
theorem ok_size (T : Txt K mg C) : Ok P w K mg base 1 "size" ["one"] (spSize K) := by
  obtain ⟨f, fd, F, g, b⟩ := T.d_size
  refine ⟨f, fd, F.ok cs_size (fun vs H Q E h => ?_) (fun cdv A outer s H vs Q E hr h => ⟨_, pss_one (ps_ret (pe_tup (pa_cons (pe_callB call_abs (by rfl) T.b_abs (by decide +kernel) (pa_cons (pe_ix ix_tup (pv 0) pe_int (fun _ _ => rfl)) pa_nil)) (pa_cons (pe_ix ix_tup (pv 0) pe_int (fun _ _ => rfl)) pa_nil)))), ?_⟩), g, F.kp, b⟩
  · obtain ⟨b, x, rfl, _⟩ := h
    rfl
  · obtain ⟨b, y, rfl, hy, q⟩ := h
    refine ⟨_, rfl, b, _, _, _, rfl, rfl, hy, rfl, _, rfl, _, rfl, b, _, _, _, rfl, rfl, hy, rfl, (by show 2 ≤ sizeLine; decide), fun p hp => ?_⟩
    refine q _ p (same_new hp) (Fr.of ?_)
    rw [abs_num, abs_den]
    exact upd_same
theorem ok_is_at_least (T : Txt K mg C) : Ok P w K mg base 1 "is_at_least" ["one", "other"] (spAtLeast K) := by
  obtain ⟨f, fd, F, g, b⟩ := T.d_is_at_least
  refine ⟨f, fd, F.ok cs_is_at_least (fun vs H Q E h => ?_) (fun cdv A outer s H vs Q E hr h => ⟨_, pss_one (ps_ret
      (pe_cmpR op_ge (pe_op op_mulW (pe_ix ix_tup (pv 0) pe_int (fun _ _ => rfl)) (pe_ix ix_tup (pv 1) pe_int (fun _ _ => rfl))) (pe_op op_mulW (pe_ix ix_tup (pv 1) pe_int (fun _ _ => rfl)) (pe_ix ix_tup (pv 0) pe_int (fun _ _ => rfl))) (nomark _))), ?_⟩), g, F.kp, b⟩
  · obtain ⟨a, b, x, y, rfl, _⟩ := h
    rfl
  · obtain ⟨a, b, x, y, rfl, hx, hy, nx, ny, q⟩ := h
    have m1 : CMulW x.num (y.den : Int) := wide_mul nx.1 (by exact ny.2) (by decide) (by decide) (by decide)
    have m2 : CMulW y.num (x.den : Int) := wide_mul ny.1 (by exact nx.2) (by decide) (by decide) (by decide)
    refine ⟨_, rfl, a, _, _, _, rfl, rfl, hx, rfl, _, rfl, b, _, _, _, rfl, rfl, hy, rfl, _, _, rfl, rfl, m1, ?_⟩
    refine ⟨_, rfl, b, _, _, _, rfl, rfl, hy, rfl, _, rfl, a, _, _, _, rfl, rfl, hx, rfl, _, _, rfl, rfl, m2, _, _, rfl, rfl, ?_⟩
    have e : decide (y ≤ x) = decide (y.num * (x.den : Int) ≤ x.num * (y.den : Int)) := decide_eq_decide.mpr (Rat.le_iff y x)
    rw [e] at q
    exact q
theorem zero_fr {K : PySem.W.Frag} {a : Addr} (h : TupIn K a [.int 0, .int 1]) (H : Hp) : Fr K H a 0 := h.sq H
theorem one_fr {K : PySem.W.Frag} {a : Addr} (h : TupIn K a [.int 1, .int 1]) (H : Hp) : Fr K H a 1 := h.sq H
theorem ok_total (T : Txt K mg C) : Ok P w K mg base 4 "total" ["some"] (spTotal K) := by
  obtain ⟨f, fd, F, g, b⟩ := T.d_total
  refine ⟨f, fd, F.ok cs_total (fun vs H Q E h => ?_) (fun cdv A outer s H vs Q E hr h => ⟨_, pss_cons (ps_set (i := 1) cs_total.nd rfl (.inl rfl) (pe_t T.k_NOUGHT))
      (pss_cons (ps_for PassesOwn.never rfl (pi_list (pv 0)) (pg_name (i := 2) cs_total.nd rfl (.inl rfl)) (pss_one (ps_set (i := 1) cs_total.nd rfl (.inl rfl) (pe_ok (ok_plus T) hr (pa_cons (pv 1) (pa_cons (pv 2) pa_nil))))))
      (pss_one (ps_ret (pv 1)))), ?_⟩), g, F.kp, b⟩
  · obtain ⟨l, qs, rfl, _⟩ := h
    rfl
  · obtain ⟨l, qs, rfl, ⟨ps, hl, hp⟩, hn, hs, q⟩ := h
    have ln := paired_len hp
    intro z hz
    refine ⟨_, rfl, l, rfl, ⟨_, SqL.of hl⟩, for_list (K := K) (a := l) (xs := ps.map V.ref) (fun i σ H' => ∃ (v : Option V) (p : Addr), σ = [some (.ref l), some (.ref p), v] ∧ Same H H' ∧ Fr K H' p (sumTo qs i))
      ⟨none, z, rfl, Same.refl H, zero_fr hz H⟩ (fun i σ H' _ ⟨_, _, _, s1, _⟩ => s1.seq (SqL.of hl)) ?_ ?_⟩
    · rintro i y σ H' hi ⟨v, p, rfl, s1, fp⟩
      have hi' : i < qs.length := by
        have := (List.getElem?_eq_some_iff.mp hi).1
        rw [List.length_map] at this
        omega
      obtain ⟨r, hr1, hr2⟩ := paired_get hp (List.getElem?_eq_getElem hi')
      rw [List.getElem?_map, hr1] at hi
      cases hi
      refine ⟨_, rfl, _, rfl, p, r, _, _, rfl, fp, hr2.same s1, hs i (by omega), hn _ (List.getElem_mem hi'), fun H2 p2 s2 f2 => ?_⟩
      rw [← sumTo_succ (List.getElem?_eq_getElem hi')] at f2
      exact ⟨_, p2, rfl, s1.trans s2, f2⟩
    · rintro σ H' ⟨v, p, rfl, s1, fp⟩
      rw [List.length_map, ln] at fp
      exact ⟨_, rfl, q _ p s1 fp⟩
theorem ok_greatest (T : Txt K mg C) : Ok P w K mg base 2 "greatest" ["some"] (spGreatest K) := by
  obtain ⟨f, fd, F, g, b⟩ := T.d_greatest
  refine ⟨f, fd, F.ok cs_greatest (fun vs H Q E h => ?_) (fun cdv A outer s H vs Q E hr h => ⟨_, pss_cons (ps_set (i := 1) cs_greatest.nd rfl (.inl rfl) (pe_t T.k_NOUGHT))
      (pss_cons (ps_for PassesOwn.never rfl (pi_list (pv 0)) (pg_name (i := 2) cs_greatest.nd rfl (.inl rfl)) (pss_one (ps_if (pt_val (pe_ok (ok_is_at_least T) hr (pa_cons (pv 2) (pa_cons (pv 1) pa_nil)))) (pss_one (ps_set (i := 1) cs_greatest.nd rfl (.inl rfl) (pv 2))) pss_nil)))
      (pss_one (ps_ret (pv 1)))), ?_⟩), g, F.kp, b⟩
  · obtain ⟨l, qs, rfl, _⟩ := h
    rfl
  · obtain ⟨l, qs, rfl, ⟨ps, hl, hp⟩, hn, q⟩ := h
    have ln := paired_len hp
    intro z hz
    refine ⟨_, rfl, l, rfl, ⟨_, SqL.of hl⟩, for_list (K := K) (a := l) (xs := ps.map V.ref) (fun i σ H' => ∃ (v : Option V) (p : Addr), σ = [some (.ref l), some (.ref p), v] ∧ H' = H ∧ Fr K H' p (bestTo qs i))
      ⟨none, z, rfl, rfl, zero_fr hz H⟩ (fun i σ H' _ ⟨_, _, _, s1, _⟩ => by rw [s1]; exact SqL.of hl) ?_ ?_⟩
    · rintro i y σ H' hi ⟨v, p, rfl, rfl, fp⟩
      have hi' : i < qs.length := by
        have := (List.getElem?_eq_some_iff.mp hi).1
        rw [List.length_map] at this
        omega
      obtain ⟨r, hr1, hr2⟩ := paired_get hp (List.getElem?_eq_getElem hi')
      rw [List.getElem?_map, hr1] at hi
      cases hi
      refine ⟨_, rfl, _, rfl, r, p, _, _, rfl, hr2, fp, hn _ (List.getElem_mem hi'), best_nice (by decide) hn i, _, rfl, ?_⟩
      by_cases c : bestTo qs i ≤ qs[i]
      · rw [decide_eq_true c]
        refine iteT ⟨_, rfl, _, r, rfl, rfl, ?_⟩
        rw [bestTo_succ (List.getElem?_eq_getElem hi'), larger_le c]
        exact hr2
      · rw [decide_eq_false c]
        refine iteF ⟨_, p, rfl, rfl, ?_⟩
        rw [bestTo_succ (List.getElem?_eq_getElem hi'), larger_gt c]
        exact fp
    · rintro σ H' ⟨v, p, rfl, rfl, fp⟩
      rw [List.length_map, ln] at fp
      exact ⟨_, rfl, q _ p (Same.refl _) fp⟩
theorem ok_numbers_of (T : Txt K mg C) : Ok P w K mg base 1 "numbers_of" ["some"] (spNumbers K) := by
  obtain ⟨f, fd, F, g, b⟩ := T.d_numbers_of
  refine ⟨f, fd, F.ok cs_numbers_of (fun vs H Q E h => ?_) (fun cdv A outer s H vs Q E hr h => ⟨_, pss_cons (ps_set (i := 1) cs_numbers_of.nd rfl (.inl rfl) (pe_lst pa_nil))
      (pss_cons (ps_for PassesOwn.never rfl (pi_list (pv 0)) (pg_tup rfl (pgs_cons (pg_name (i := 2) cs_numbers_of.nd rfl (.inl rfl)) (pgs_cons (pg_name (i := 3) cs_numbers_of.nd rfl (.inl rfl)) pgs_nil)))
        (pss_cons (ps_expr (pe_bm PySem.F.plainAttrs_list PySem.F.slot_list_append PySem.F.type_list_append mt_append (pv 1) (pa_cons (pv 2) pa_nil)))
        (pss_one (ps_expr (pe_bm PySem.F.plainAttrs_list PySem.F.slot_list_append PySem.F.type_list_append mt_append (pv 1) (pa_cons (pv 3) pa_nil))))))
      (pss_one (ps_ret (pv 1)))), ?_⟩), g, F.kp, b⟩
  · obtain ⟨l, qs, rfl, _⟩ := h
    rfl
  · obtain ⟨l, qs, rfl, ⟨ps, hl, hp⟩, hn, q⟩ := h
    have ln := paired_len hp
    refine ⟨(by decide), fun d hd => ?_⟩
    have sd : Same H (upd H d (.lst [])) := same_new hd
    refine ⟨_, rfl, l, rfl, ⟨_, SqL.of (sd _ _ hl)⟩, for_list (K := K) (a := l) (xs := ps.map V.ref) (fun i σ H' => ∃ (v u : Option V), σ = [some (.ref l), some (.ref d), v, u] ∧ Same H H' ∧ H' d = some (.lst ((nums (qs.take i)).map V.int)))
      ⟨none, none, rfl, sd, upd_same⟩ (fun i σ H' _ ⟨_, _, _, s1, _⟩ => s1.seq (SqL.of hl)) ?_ ?_⟩
    · rintro i y σ H' hi ⟨v, u, rfl, s1, fd⟩
      have hi' : i < qs.length := by
        have := (List.getElem?_eq_some_iff.mp hi).1
        rw [List.length_map] at this
        omega
      obtain ⟨r, hr1, hr2⟩ := paired_get hp (List.getElem?_eq_getElem hi')
      rw [List.getElem?_map, hr1] at hi
      cases hi
      have z0 : ((nums (qs.take i)).map V.int).length ≤ 2000 := by
        rw [List.length_map, nums_len, List.length_take]
        omega
      have hz : (2002 : Nat) < sizeLine := by decide
      refine ⟨r, _, rfl, hr2.same s1, rfl, _, _, rfl, _, _, rfl, rfl, ?_⟩
      refine ⟨_, rfl, .inl ⟨rfl, _, SqL.of fd⟩, _, rfl, d, _, _, rfl, rfl, fd, by omega, ?_⟩
      refine ⟨_, rfl, .inl ⟨rfl, _, SqL.of upd_same⟩, _, rfl, d, _, _, rfl, rfl, upd_same, by rw [List.length_append]; show _ + 1 < _; omega, ?_⟩
      refine ⟨_, _, rfl, same_upd (same_upd s1 hd) hd, ?_⟩
      rw [upd_same, nums_take (List.getElem?_eq_getElem hi'), List.map_append, List.append_assoc]
      rfl
    · rintro σ H' ⟨v, u, rfl, s1, fd⟩
      rw [List.length_map, ln, List.take_length] at fd
      exact ⟨_, rfl, q _ d s1 fd⟩
theorem ok_told_strengths (T : Txt K mg C) : Ok P w K mg base 2 "told_strengths" ["strengths"] (spTold K) := by
  obtain ⟨f, fd, F, g, b⟩ := T.d_told_strengths
  refine ⟨f, fd, F.ok cs_told_strengths (fun vs H Q E h => ?_) (fun cdv A outer s H vs Q E hr h => ⟨_, pss_one (ps_ret (pe_op op_cat (pe_lst (pa_cons (pe_callB call_len_seq (by rfl) T.b_len PySem.boot_len (pa_cons (pv 0) pa_nil)) pa_nil)) (pe_ok (ok_numbers_of T) hr (pa_cons (pv 0) pa_nil)))), ?_⟩), g, F.kp, b⟩
  · obtain ⟨l, qs, rfl, _⟩ := h
    rfl
  · obtain ⟨l, qs, rfl, hq, hn, q⟩ := h
    obtain ⟨xs, hl, ln⟩ := hq.len
    refine ⟨_, rfl, l, _, rfl, .inl (SqL.of hl), (by show 1 ≤ sizeLine; decide), fun d hd => ?_⟩
    have sd : Same H (upd H d (.lst [.int (xs.length : Int)])) := same_new hd
    refine ⟨_, rfl, l, qs, rfl, hq.same sd, hn, fun H2 p s2 h2 => ?_⟩
    have hz : (2002 : Nat) ≤ sizeLine := by decide
    refine ⟨d, p, _, _, rfl, rfl, s2 _ _ upd_same, h2, by rw [List.length_map, nums_len]; show 1 + _ ≤ _; omega, fun e he => ?_⟩
    refine q _ e (same_newer (sd.trans s2) he) ((sd.trans s2).free he) ?_
    rw [upd_same, ln]
    rfl
end
end Tan
end
section
namespace Tan
open PySem PySem.Spec PyProof.Rows L2
/-! ### days -/
theorem cut_from {xs : List V} {k : Nat} : cutV xs (some (k : Int)) none = xs.drop k := by
  unfold cutV
  rw [HT.sIx_none, HT.sIx_nat]
  by_cases h : k ≤ xs.length
  · rw [Nat.min_eq_left h]
    exact List.take_of_length_le (by rw [List.length_drop]; exact Nat.le_refl _)
  · rw [Nat.min_eq_right (by omega), List.drop_of_length_le (Nat.le_refl _), List.drop_of_length_le (by omega)]
    simp
theorem cut_to {xs : List V} {k : Nat} : cutV xs none (some (k : Int)) = xs.take k := by
  unfold cutV
  rw [HT.sIx_none, HT.sIx_nat, List.drop_zero, Nat.sub_zero]
  by_cases h : k ≤ xs.length
  · rw [Nat.min_eq_left h]
  · rw [Nat.min_eq_right (by omega), List.take_of_length_le (Nat.le_refl _), List.take_of_length_le (by omega)]
theorem cut_mid {xs : List V} {j k : Nat} (hj : j ≤ k) : cutV xs (some (j : Int)) (some (k : Int)) = (xs.drop j).take (k - j) := by
  unfold cutV
  rw [HT.sIx_nat, HT.sIx_nat]
  by_cases h : k ≤ xs.length
  · rw [Nat.min_eq_left h, Nat.min_eq_left (by omega)]
  · by_cases h2 : j ≤ xs.length
    · rw [Nat.min_eq_right (by omega), Nat.min_eq_left h2, List.take_of_length_le (by rw [List.length_drop]; exact Nat.le_refl _), List.take_of_length_le (by rw [List.length_drop]; omega)]
    · rw [Nat.min_eq_right (by omega), Nat.min_eq_right (by omega), List.drop_of_length_le (Nat.le_refl _), List.drop_of_length_le (by omega)]
      simp
/-- a store in a list leaves the fractions -/
theorem Fr.updl {K : PySem.W.Frag} {H : Hp} {l p : Addr} {xs : List V} {o : HO} {q : Rat} (hl : H l = some (.lst xs)) (h : Fr K H p q) : Fr K (upd H l o) p q := by
  rcases h with (h | ⟨u, h⟩) | h
  · exact .inl (.inl (by rw [upd_ne (ne_of h hl (by intro z; cases z))]; exact h))
  · exact .inl (.inr ⟨u, by rw [upd_ne (ne_of h hl (by intro z; cases z))]; exact h⟩)
  · exact .inr h
def spMixed (K : PySem.W.Frag) : Sp := fun vs H Q _ => ∃ (p l : Int) (a b : Addr) (x y : Rat), vs = [.int p, .ref a, .int l, .ref b] ∧ Fr K H a x ∧ Fr K H b y ∧ Nice 2000 x ∧ Nice 2000 y ∧ 0 < p + l ∧ p.natAbs < 1024 ∧ l.natAbs < 1024 ∧
  RetF K H Q (((p : Rat) * x + (l : Rat) * y) / ((p : Rat) + (l : Rat)))
def spLiquors (K : PySem.W.Frag) : Sp := fun vs H Q _ => ∃ (l a : Addr) (qs : List Rat) (x : Rat), vs = [.ref l, .ref a] ∧ Frs K H l qs ∧ Fr K H a x ∧ qs.length ≤ 1000 ∧ RetFs K H Q (qs.drop 1 ++ [x])
def spLots (K : PySem.W.Frag) : Sp := fun vs H Q _ => ∃ (l a : Addr) (qs : List Rat) (x : Rat), vs = [.ref l, .ref a] ∧ Frs K H l qs ∧ Fr K H a x ∧ 1 ≤ qs.length ∧ qs.length ≤ 1000 ∧ RetFs K H Q (x :: qs.take (qs.length - 1))
/-- strengths, liquor, lot, fresh, raw -/
def spAfterDay (K : PySem.W.Frag) : Sp := fun vs H Q _ => ∃ (l f r : Addr) (v : Kp395.Line) (n : Nat) (qs : List Rat), vs = [.ref l, .int (v.liquor : Int), .int (v.lot : Int), .ref f, .ref r] ∧ Good n v ∧ Frs K H l qs ∧ Fr K H f v.fresh ∧ Fr K H r v.raw ∧
  1 ≤ qs.length ∧ qs.length ≤ 6 ∧ (∀ q ∈ qs, Nice 600 q) ∧ RetFs K H Q (Kp395.nextStrengths v qs)
def spAfterDays (K : PySem.W.Frag) : Sp := fun vs H Q _ => ∃ (k : Nat) (l f r : Addr) (v : Kp395.Line) (n : Nat), vs = [.int (k : Int), .ref l, .int (v.liquor : Int), .int (v.lot : Int), .ref f, .ref r] ∧ k ≤ 24 ∧ Good n v ∧ Frs K H l v.strengths ∧ Fr K H f v.fresh ∧ Fr K H r v.raw ∧
  RetFs K H Q (Kp395.runDays v k).strengths
theorem liquors_get {qs : List Rat} {x : Rat} {i : Nat} (h : i < qs.length) : (qs.drop 1 ++ [x]).getD i 0 = if i + 1 < qs.length then qs.getD (i + 1) 0 else x := by
  rw [List.getD_eq_getElem?_getD]
  by_cases c : i + 1 < qs.length
  · rw [if_pos c, List.getElem?_append_left (by rw [List.length_drop]; omega), List.getElem?_drop, Nat.add_comm 1 i, List.getD_eq_getElem?_getD]
  · rw [if_neg c, List.getElem?_append_right (by rw [List.length_drop]; omega), List.length_drop]
    rw [show i - (qs.length - 1) = 0 by omega]
    rfl
theorem lots_get {qs : List Rat} {x : Rat} {i : Nat} (h : i < qs.length) : (x :: qs.take (qs.length - 1)).getD i 0 = if i = 0 then x else qs.getD (i - 1) 0 := by
  by_cases c : i = 0
  · subst c
    rfl
  · rw [if_neg c]
    obtain ⟨j, rfl⟩ : ∃ j, i = j + 1 := ⟨i - 1, by omega⟩
    rw [List.getD_cons_succ, Nat.add_sub_cancel, List.getD_eq_getElem?_getD, List.getElem?_take_of_lt (by omega), List.getD_eq_getElem?_getD]
theorem next_take {v : Kp395.Line} {qs : List Rat} {i : Nat} (h : i < qs.length) :
    (Kp395.nextStrengths v qs).take (i + 1) = (Kp395.nextStrengths v qs).take i ++ [Kp395.mix v ((qs.drop 1 ++ [v.fresh]).getD i 0) ((v.raw :: qs.take (qs.length - 1)).getD i 0)] := by
  rw [liquors_get h, lots_get h]
  refine take_succ_of ?_
  unfold Kp395.nextStrengths
  rw [List.getElem?_map, List.getElem?_range h]
  rfl
theorem mix_int (v : Kp395.Line) (x y : Rat) : ((((v.liquor : Nat) : Int) : Rat) * x + (((v.lot : Nat) : Int) : Rat) * y) / ((((v.liquor : Nat) : Int) : Rat) + (((v.lot : Nat) : Int) : Rat)) = Kp395.mix v x y := by
  unfold Kp395.mix
  rw [Rat.intCast_natCast, Rat.intCast_natCast, cast_add]
  rfl
section
variable {P : Program} {w : World} {K : PySem.W.Frag} {mg : Str → Option Value} {base : Heap} {C : Addr}
theorem ok_mixed (T : Txt K mg C) : Ok P w K mg base 3 "mixed" ["liquor", "strong", "lot", "weak"] (spMixed K) := by
  obtain ⟨f, fd, F, g, b⟩ := T.d_mixed
  refine ⟨f, fd, F.ok cs_mixed (fun vs H Q E h => ?_) (fun cdv A outer s H vs Q E hr h => ⟨_, pss_cons (ps_set (i := 4) cs_mixed.nd rfl (.inl rfl)
        (pe_op op_add (pe_op op_mulW (pe_op op_mulW (pv 0) (pe_ix ix_tup (pv 1) pe_int (fun _ _ => rfl))) (pe_ix ix_tup (pv 3) pe_int (fun _ _ => rfl)))
          (pe_op op_mulW (pe_op op_mulW (pv 2) (pe_ix ix_tup (pv 3) pe_int (fun _ _ => rfl))) (pe_ix ix_tup (pv 1) pe_int (fun _ _ => rfl)))))
      (pss_one (ps_ret (pe_ok (ok_share T) hr (pa_cons (pv 4) (pa_cons (pe_op op_mulW (pe_op op_mulW (pe_op op_add (pv 0) (pv 2)) (pe_ix ix_tup (pv 1) pe_int (fun _ _ => rfl))) (pe_ix ix_tup (pv 3) pe_int (fun _ _ => rfl))) pa_nil))))), ?_⟩), g, F.kp, b⟩
  · obtain ⟨p, l, a, b, x, y, rfl, _⟩ := h
    rfl
  · obtain ⟨p, l, a, b, x, y, rfl, hx, hy, nx, ny, h0, hp, hl, q⟩ := h
    have dx : (x.den : Int).natAbs < 2 ^ 2000 := nx.2
    have dy : (y.den : Int).natAbs < 2 ^ 2000 := ny.2
    have p10 : p.natAbs < 2 ^ 10 := hp
    have l10 : l.natAbs < 2 ^ 10 := hl
    have s11 : (p + l).natAbs < 2 ^ 11 := by
      have := Int.natAbs_add_le p l
      omega
    have m1 : CMulW p x.num := wide_mul p10 nx.1 (by decide) (by decide) (by decide)
    have m2 : CMulW (p * x.num) (y.den : Int) := wide_mul (mul2 p10 nx.1) dy (by decide) (by decide) (by decide)
    have m3 : CMulW l y.num := wide_mul l10 ny.1 (by decide) (by decide) (by decide)
    have m4 : CMulW (l * y.num) (x.den : Int) := wide_mul (mul2 l10 ny.1) dx (by decide) (by decide) (by decide)
    have m5 : CMulW (p + l) (x.den : Int) := wide_mul s11 dx (by decide) (by decide) (by decide)
    have m6 : CMulW ((p + l) * (x.den : Int)) (y.den : Int) := wide_mul (mul2 s11 dx) dy (by decide) (by decide) (by decide)
    refine ⟨_, rfl, _, rfl, a, _, _, _, rfl, rfl, hx, rfl, _, _, rfl, rfl, m1, _, rfl, b, _, _, _, rfl, rfl, hy, rfl, _, _, rfl, rfl, m2, ?_⟩
    refine ⟨_, rfl, _, rfl, b, _, _, _, rfl, rfl, hy, rfl, _, _, rfl, rfl, m3, _, rfl, a, _, _, _, rfl, rfl, hx, rfl, _, _, rfl, rfl, m4, _, _, rfl, rfl, ?_⟩
    refine ⟨_, rfl, _, rfl, _, rfl, _, _, rfl, rfl, _, rfl, a, _, _, _, rfl, rfl, hx, rfl, _, _, rfl, rfl, m5, _, rfl, b, _, _, _, rfl, rfl, hy, rfl, _, _, rfl, rfl, m6, ?_⟩
    rw [mix_div h0] at q
    exact ⟨_, _, rfl, Int.mul_pos (Int.mul_pos h0 (den_i x)) (den_i y), lt9 (mul2 (mul2 s11 dx) dy) (by decide), q⟩
theorem ok_liquors_of (T : Txt K mg C) : Ok P w K mg base 1 "liquors_of" ["strengths", "fresh"] (spLiquors K) := by
  obtain ⟨f, fd, F, g, b⟩ := T.d_liquors_of
  refine ⟨f, fd, F.ok cs_liquors_of (fun vs H Q E h => ?_) (fun cdv A outer s H vs Q E hr h => ⟨_, pss_one (ps_ret (pe_op op_cat (pe_slice sl_list (pv 0) (po_some pe_int) po_none) (pe_lst (pa_cons (pv 1) pa_nil)))), ?_⟩), g, F.kp, b⟩
  · obtain ⟨l, a, qs, x, rfl, _⟩ := h
    rfl
  · obtain ⟨l, a, qs, x, rfl, ⟨ps, hl, hp⟩, hx, hn, q⟩ := h
    have ln := paired_len hp
    have hz : (2000 : Nat) ≤ sizeLine := by decide
    refine ⟨_, rfl, _, rfl, l, _, rfl, SqL.of hl, fun d hd => ?_⟩
    refine ⟨_, rfl, (by show 1 ≤ sizeLine; decide), fun e he => ?_⟩
    have s1 : Same H (upd H d (.lst (cutV (ps.map V.ref) (some 1) none))) := same_new hd
    have s2 := same_newer s1 (o := .lst [V.ref a]) he
    have hd2 : (upd (upd H d (.lst (cutV (ps.map V.ref) (some 1) none))) e (.lst [V.ref a])) d = some (.lst (cutV (ps.map V.ref) (some 1) none)) := by
      rw [upd_ne (ne_of_none upd_same he), upd_same]
    refine ⟨d, e, _, _, rfl, rfl, hd2, upd_same, ?_, fun r hr' => ?_⟩
    · have := cutV_length (ps.map V.ref) (some 1) none
      rw [List.length_map] at this
      show _ + 1 ≤ _
      omega
    · have s3 := same_newer s2 (o := .lst (cutV (ps.map V.ref) (some 1) none ++ [V.ref a])) hr'
      refine q _ r s3 ⟨ps.drop 1 ++ [a], ?_, paired_app (paired_drop 1 (Paired.mapP hp fun _ _ z => z.same s3)) (.cons (hx.same s3) .nil)⟩
      rw [upd_same, List.map_append, List.map_drop]
      exact congrArg (fun z => some (HO.lst (z ++ [V.ref a]))) (cut_from (k := 1))
theorem ok_lots_of (T : Txt K mg C) : Ok P w K mg base 1 "lots_of" ["strengths", "raw"] (spLots K) := by
  obtain ⟨f, fd, F, g, b⟩ := T.d_lots_of
  refine ⟨f, fd, F.ok cs_lots_of (fun vs H Q E h => ?_) (fun cdv A outer s H vs Q E hr h => ⟨_, pss_one (ps_ret (pe_op op_cat (pe_lst (pa_cons (pv 1) pa_nil)) (pe_slice sl_list (pv 0) po_none (po_some (pe_op op_sub (pe_callB call_len_seq (by rfl) T.b_len PySem.boot_len (pa_cons (pv 0) pa_nil)) pe_int))))), ?_⟩), g, F.kp, b⟩
  · obtain ⟨l, a, qs, x, rfl, _⟩ := h
    rfl
  · obtain ⟨l, a, qs, x, rfl, ⟨ps, hl, hp⟩, hx, h1, hn, q⟩ := h
    have ln := paired_len hp
    have hz : (2000 : Nat) ≤ sizeLine := by decide
    refine ⟨_, rfl, (by show 1 ≤ sizeLine; decide), fun e he => ?_⟩
    have s1 : Same H (upd H e (.lst [V.ref a])) := same_new he
    have el : (((ps.map V.ref).length : Nat) : Int) - 1 = ((qs.length - 1 : Nat) : Int) := by
      rw [List.length_map]
      omega
    refine ⟨_, rfl, _, rfl, l, _, rfl, .inl (SqL.of (s1 _ _ hl)), _, _, rfl, rfl, _, rfl, l, _, rfl, SqL.of (s1 _ _ hl), fun d hd => ?_⟩
    rw [el] at *
    have s2 := same_newer s1 (o := .lst (cutV (ps.map V.ref) none (some ((qs.length - 1 : Nat) : Int)))) hd
    refine ⟨e, d, _, _, rfl, rfl, same_new hd _ _ upd_same, upd_same, ?_, fun r hr' => ?_⟩
    · have := cutV_length (ps.map V.ref) none (some ((qs.length - 1 : Nat) : Int))
      rw [List.length_map] at this
      show 1 + _ ≤ _
      omega
    · have s3 := same_newer s2 (o := .lst ([V.ref a] ++ cutV (ps.map V.ref) none (some ((qs.length - 1 : Nat) : Int)))) hr'
      refine q _ r s3 ⟨a :: ps.take (qs.length - 1), ?_, .cons (hx.same s3) (paired_take _ (Paired.mapP hp fun _ _ z => z.same s3))⟩
      rw [upd_same, List.map_cons, List.map_take, cut_to]
      rfl
theorem ok_after_day (T : Txt K mg C) : Ok P w K mg base 4 "after_day" ["strengths", "liquor", "lot", "fresh", "raw"] (spAfterDay K) := by
  obtain ⟨f, fd, F, g, b⟩ := T.d_after_day
  refine ⟨f, fd, F.ok cs_after_day (fun vs H Q E h => ?_) (fun cdv A outer s H vs Q E hr h => ⟨_,
      pss_cons (ps_par (i := 5) (j := 6) rfl cs_after_day.nd rfl rfl (by decide) rfl rfl (pa_cons (pe_ok (ok_liquors_of T) hr (pa_cons (pv 0) (pa_cons (pv 3) pa_nil))) (pa_cons (pe_ok (ok_lots_of T) hr (pa_cons (pv 0) (pa_cons (pv 4) pa_nil))) pa_nil)) (by rfl))
      (pss_cons (ps_set (i := 7) cs_after_day.nd rfl (.inl rfl) (pe_lst pa_nil))
      (pss_cons (ps_for PassesOwn.never rfl (pi_range1 rfl T.b_range (pa_cons (pe_callB call_len_seq (by rfl) T.b_len PySem.boot_len (pa_cons (pv 0) pa_nil)) pa_nil)) (pg_name (i := 8) cs_after_day.nd rfl (.inl rfl))
        (pss_one (ps_expr (pe_bm PySem.F.plainAttrs_list PySem.F.slot_list_append PySem.F.type_list_append mt_append (pv 7) (pa_cons
          (pe_ok (ok_mixed T) hr (pa_cons (pv 1) (pa_cons (pe_ix ix_list (pv 5) (pv 8) (fun _ _ => rfl)) (pa_cons (pv 2) (pa_cons (pe_ix ix_list (pv 6) (pv 8) (fun _ _ => rfl)) pa_nil))))) pa_nil)))))
      (pss_one (ps_ret (pv 7))))), ?_⟩), g, F.kp, b⟩
  · obtain ⟨l, f', r, v, n, qs, rfl, _⟩ := h
    rfl
  · obtain ⟨l, f', r, v, n, qs, rfl, G, hl, hf, hr', h1, h6, hn, q⟩ := h
    have nf : Nice 2000 v.fresh := G.fr.nice.mono (by decide)
    have nr : Nice 2000 v.raw := G.rw.nice.mono (by decide)
    refine ⟨_, rfl, _, rfl, l, f', qs, _, rfl, hl, hf, by omega, fun H1 A' s1 hA => ?_⟩
    refine ⟨_, rfl, _, rfl, l, r, qs, _, rfl, hl.same s1, hr'.same s1, h1, by omega, fun H2 B' s2 hB => ?_⟩
    refine ⟨_, _, rfl, ?_⟩
    refine ⟨(by decide), fun d hd => ?_⟩
    have s12 := s1.trans s2
    have hA2 := hA.same s2
    obtain ⟨xs, hxs, lxs⟩ := (hl.same s12).len
    refine ⟨_, rfl, l, _, rfl, .inl (SqL.of (same_new hd _ _ hxs)), _, rfl, by omega, by omega, ?_⟩
    rw [lxs, Int.toNat_natCast]
    refine for_range (lo := 0) (n := qs.length) (fun i σ H' => ∃ (u : Option V) (ps : List Addr), σ = [some (.ref l), some (.int (v.liquor : Int)), some (.int (v.lot : Int)), some (.ref f'), some (.ref r), some (.ref A'), some (.ref B'), some (.ref d), u] ∧
        Same H2 H' ∧ H' d = some (.lst (ps.map V.ref)) ∧ Paired (Fr K H') ps ((Kp395.nextStrengths v qs).take i)) ⟨none, [], rfl, same_new hd, upd_same, .nil⟩ ?_ ?_
    · rintro i σ H' hi ⟨u, ps, rfl, s3, hd3, hp3⟩
      obtain ⟨xa, a, ha1, _, ha2, ha3⟩ := (hA2.same s3).get (i := i) (by rw [List.length_append, List.length_drop]; show i < _ + 1; omega)
      obtain ⟨xb, b, hb1, _, hb2, hb3⟩ := (hB.same s3).get (i := i) (by rw [List.length_cons, List.length_take]; omega)
      have na : Nice 2000 ((qs.drop 1 ++ [v.fresh]).getD i 0) := by
        rw [liquors_get hi]
        split
        · exact (hn _ (getD_mem (by assumption))).mono (by decide)
        · exact nf
      have nb : Nice 2000 ((v.raw :: qs.take (qs.length - 1)).getD i 0) := by
        rw [lots_get hi]
        split
        · exact nr
        · exact (hn _ (getD_mem (by omega))).mono (by decide)
      refine ⟨_, rfl, .inl ⟨rfl, _, SqL.of hd3⟩, ?_⟩
      refine ⟨_, rfl, _, rfl, _, rfl, A', _, _, _, rfl, rfl, SqL.of ha1, at_of (Int.zero_add _) ha2, ?_⟩
      refine ⟨_, rfl, _, rfl, _, rfl, B', _, _, _, rfl, rfl, SqL.of hb1, at_of (Int.zero_add _) hb2, ?_⟩
      have p0 := G.p0
      have p1 := G.p1
      have l1 := G.l1
      refine ⟨_, _, a, b, _, _, rfl, ha3, hb3, na, nb, by omega, by omega, by omega, fun H4 p4 s4 f4 => ?_⟩
      rw [mix_int] at f4
      have hd4 := s4 _ _ hd3
      have z0 : (ps.map V.ref).length ≤ 6 := by
        have := paired_len hp3
        rw [List.length_take] at this
        rw [List.length_map]
        omega
      have hz : (7 : Nat) < sizeLine := by decide
      refine ⟨d, _, _, rfl, rfl, hd4, by omega, ?_⟩
      refine ⟨_, ps ++ [p4], rfl, same_upd (s3.trans s4) hd, ?_, ?_⟩
      · rw [upd_same, List.map_append]
        rfl
      · rw [next_take hi]
        exact paired_app (Paired.mapP hp3 fun _ _ z => (z.same s4).updl hd4) (.cons (f4.updl hd4) .nil)
    · rintro σ H' ⟨u, ps, rfl, s3, hd3, hp3⟩
      refine ⟨_, rfl, q _ d (s12.trans s3) ⟨ps, hd3, ?_⟩⟩
      rw [List.take_of_length_le (by rw [next_len]; exact Nat.le_refl _)] at hp3
      exact hp3
theorem ok_after_days (T : Txt K mg C) : Ok P w K mg base 5 "after_days" ["count", "strengths", "liquor", "lot", "fresh", "raw"] (spAfterDays K) := by
  obtain ⟨f, fd, F, g, b⟩ := T.d_after_days
  refine ⟨f, fd, F.ok cs_after_days (fun vs H Q E h => ?_) (fun cdv A outer s H vs Q E hr h => ⟨_,
      pss_cons (ps_set (i := 6) cs_after_days.nd rfl (.inl rfl) (pv 1))
      (pss_cons (ps_for PassesOwn.never rfl (pi_range1 rfl T.b_range (pa_cons (pv 0) pa_nil)) (pg_name (i := 7) cs_after_days.nd rfl (.inl rfl))
        (pss_one (ps_set (i := 6) cs_after_days.nd rfl (.inl rfl) (pe_ok (ok_after_day T) hr (pa_cons (pv 6) (pa_cons (pv 2) (pa_cons (pv 3) (pa_cons (pv 4) (pa_cons (pv 5) pa_nil)))))))))
      (pss_one (ps_ret (pv 6)))), ?_⟩), g, F.kp, b⟩
  · obtain ⟨k, l, f', r, v, n, rfl, _⟩ := h
    rfl
  · obtain ⟨k, l, f', r, v, n, rfl, hk, G, hl, hf, hr', q⟩ := h
    refine ⟨_, rfl, _, rfl, _, rfl, by omega, by omega, ?_⟩
    rw [Int.toNat_natCast]
    refine for_range (lo := 0) (n := k) (fun i σ H' => ∃ (u : Option V) (d : Addr), σ = [some (.int (k : Int)), some (.ref l), some (.int (v.liquor : Int)), some (.int (v.lot : Int)), some (.ref f'), some (.ref r), some (.ref d), u] ∧
        Same H H' ∧ Frs K H' d (Kp395.runDays v i).strengths) ⟨none, l, rfl, Same.refl H, hl⟩ ?_ ?_
    · rintro i σ H' hi ⟨u, d, rfl, s1, hd⟩
      have n0 := G.n0
      have n1 := G.n1
      refine ⟨_, rfl, _, rfl, _, rfl, _, rfl, _, rfl, d, f', r, v, n, _, rfl, G, hd, hf.same s1, hr'.same s1, by rw [days_len]; exact n0, by rw [days_len]; exact n1, G.niceS i (by omega), fun H2 d2 s2 h2 => ?_⟩
      rw [← days_str] at h2
      exact ⟨_, d2, rfl, s1.trans s2, h2⟩
    · rintro σ H' ⟨u, d, rfl, s1, hd⟩
      exact ⟨_, rfl, q _ d s1 hd⟩
end
end Tan
end
section
namespace Tan
open PySem PySem.Spec PyProof.Rows L2
/-! ### a line in the heap (the lookups are printed by gen_line.py) -/
def lF (vp vl vf vr vs vu vt vd vy : V) : List (Str × V) := [("liquor", vp), ("lot", vl), ("fresh", vf), ("raw", vr), ("strengths", vs), ("supplied", vu), ("tanned", vt), ("discharged", vd), ("days", vy)]
theorem lk_here {k : Str} {v : V} {r : List (Str × V)} : List.lookup k ((k, v) :: r) = some v := by
  have e : (k == k) = true := beq_self_eq_true k
  simp only [List.lookup, e]
theorem lk_past {k g : Str} {v : V} {r : List (Str × V)} (h : (k == g) = false) : List.lookup k ((g, v) :: r) = List.lookup k r := by
  simp only [List.lookup, h]
theorem put_here {f : Str} {v x : V} {r : List (Str × V)} : putF f v ((f, x) :: r) = (f, v) :: r := if_pos rfl
theorem put_past {f g : Str} {v x : V} {r : List (Str × V)} (h : ¬ g = f) : putF f v ((g, x) :: r) = (g, x) :: putF f v r := if_neg h
section
variable {vp vl vf vr vs vu vt vd vy : V}
theorem lF_liquor : (lF vp vl vf vr vs vu vt vd vy).lookup ("liquor" : Str) = some vp := lk_here
theorem lF_lot : (lF vp vl vf vr vs vu vt vd vy).lookup ("lot" : Str) = some vl := (lk_past (by decide +kernel)).trans (lk_here)
theorem lF_fresh : (lF vp vl vf vr vs vu vt vd vy).lookup ("fresh" : Str) = some vf := (lk_past (by decide +kernel)).trans ((lk_past (by decide +kernel)).trans (lk_here))
theorem lF_raw : (lF vp vl vf vr vs vu vt vd vy).lookup ("raw" : Str) = some vr := (lk_past (by decide +kernel)).trans ((lk_past (by decide +kernel)).trans ((lk_past (by decide +kernel)).trans (lk_here)))
theorem lF_strengths : (lF vp vl vf vr vs vu vt vd vy).lookup ("strengths" : Str) = some vs := (lk_past (by decide +kernel)).trans ((lk_past (by decide +kernel)).trans ((lk_past (by decide +kernel)).trans ((lk_past (by decide +kernel)).trans (lk_here))))
theorem lF_supplied : (lF vp vl vf vr vs vu vt vd vy).lookup ("supplied" : Str) = some vu := (lk_past (by decide +kernel)).trans ((lk_past (by decide +kernel)).trans ((lk_past (by decide +kernel)).trans ((lk_past (by decide +kernel)).trans ((lk_past (by decide +kernel)).trans (lk_here)))))
theorem lF_tanned : (lF vp vl vf vr vs vu vt vd vy).lookup ("tanned" : Str) = some vt := (lk_past (by decide +kernel)).trans ((lk_past (by decide +kernel)).trans ((lk_past (by decide +kernel)).trans ((lk_past (by decide +kernel)).trans ((lk_past (by decide +kernel)).trans ((lk_past (by decide +kernel)).trans (lk_here))))))
theorem lF_discharged : (lF vp vl vf vr vs vu vt vd vy).lookup ("discharged" : Str) = some vd := (lk_past (by decide +kernel)).trans ((lk_past (by decide +kernel)).trans ((lk_past (by decide +kernel)).trans ((lk_past (by decide +kernel)).trans ((lk_past (by decide +kernel)).trans ((lk_past (by decide +kernel)).trans ((lk_past (by decide +kernel)).trans (lk_here)))))))
theorem lF_days : (lF vp vl vf vr vs vu vt vd vy).lookup ("days" : Str) = some vy := (lk_past (by decide +kernel)).trans ((lk_past (by decide +kernel)).trans ((lk_past (by decide +kernel)).trans ((lk_past (by decide +kernel)).trans ((lk_past (by decide +kernel)).trans ((lk_past (by decide +kernel)).trans ((lk_past (by decide +kernel)).trans ((lk_past (by decide +kernel)).trans (lk_here))))))))
theorem lM_put_fresh : (lF vp vl vf vr vs vu vt vd vy).lookup ("put_fresh" : Str) = none := (lk_past (by decide +kernel)).trans ((lk_past (by decide +kernel)).trans ((lk_past (by decide +kernel)).trans ((lk_past (by decide +kernel)).trans ((lk_past (by decide +kernel)).trans ((lk_past (by decide +kernel)).trans ((lk_past (by decide +kernel)).trans ((lk_past (by decide +kernel)).trans ((lk_past (by decide +kernel)).trans (rfl)))))))))
theorem lM_put_raw : (lF vp vl vf vr vs vu vt vd vy).lookup ("put_raw" : Str) = none := (lk_past (by decide +kernel)).trans ((lk_past (by decide +kernel)).trans ((lk_past (by decide +kernel)).trans ((lk_past (by decide +kernel)).trans ((lk_past (by decide +kernel)).trans ((lk_past (by decide +kernel)).trans ((lk_past (by decide +kernel)).trans ((lk_past (by decide +kernel)).trans ((lk_past (by decide +kernel)).trans (rfl)))))))))
theorem lM_put_strength : (lF vp vl vf vr vs vu vt vd vy).lookup ("put_strength" : Str) = none := (lk_past (by decide +kernel)).trans ((lk_past (by decide +kernel)).trans ((lk_past (by decide +kernel)).trans ((lk_past (by decide +kernel)).trans ((lk_past (by decide +kernel)).trans ((lk_past (by decide +kernel)).trans ((lk_past (by decide +kernel)).trans ((lk_past (by decide +kernel)).trans ((lk_past (by decide +kernel)).trans (rfl)))))))))
theorem lM_take_out : (lF vp vl vf vr vs vu vt vd vy).lookup ("take_out" : Str) = none := (lk_past (by decide +kernel)).trans ((lk_past (by decide +kernel)).trans ((lk_past (by decide +kernel)).trans ((lk_past (by decide +kernel)).trans ((lk_past (by decide +kernel)).trans ((lk_past (by decide +kernel)).trans ((lk_past (by decide +kernel)).trans ((lk_past (by decide +kernel)).trans ((lk_past (by decide +kernel)).trans (rfl)))))))))
theorem lM_pass_day : (lF vp vl vf vr vs vu vt vd vy).lookup ("pass_day" : Str) = none := (lk_past (by decide +kernel)).trans ((lk_past (by decide +kernel)).trans ((lk_past (by decide +kernel)).trans ((lk_past (by decide +kernel)).trans ((lk_past (by decide +kernel)).trans ((lk_past (by decide +kernel)).trans ((lk_past (by decide +kernel)).trans ((lk_past (by decide +kernel)).trans ((lk_past (by decide +kernel)).trans (rfl)))))))))
theorem lM_add_last : (lF vp vl vf vr vs vu vt vd vy).lookup ("add_last" : Str) = none := (lk_past (by decide +kernel)).trans ((lk_past (by decide +kernel)).trans ((lk_past (by decide +kernel)).trans ((lk_past (by decide +kernel)).trans ((lk_past (by decide +kernel)).trans ((lk_past (by decide +kernel)).trans ((lk_past (by decide +kernel)).trans ((lk_past (by decide +kernel)).trans ((lk_past (by decide +kernel)).trans (rfl)))))))))
theorem lM_take_pit : (lF vp vl vf vr vs vu vt vd vy).lookup ("take_pit" : Str) = none := (lk_past (by decide +kernel)).trans ((lk_past (by decide +kernel)).trans ((lk_past (by decide +kernel)).trans ((lk_past (by decide +kernel)).trans ((lk_past (by decide +kernel)).trans ((lk_past (by decide +kernel)).trans ((lk_past (by decide +kernel)).trans ((lk_past (by decide +kernel)).trans ((lk_past (by decide +kernel)).trans (rfl)))))))))
theorem lP_fresh (x : V) : putF "fresh" x (lF vp vl vf vr vs vu vt vd vy) = lF vp vl x vr vs vu vt vd vy := (put_past (by decide +kernel)).trans (congrArg _ ((put_past (by decide +kernel)).trans (congrArg _ (put_here))))
theorem lP_raw (x : V) : putF "raw" x (lF vp vl vf vr vs vu vt vd vy) = lF vp vl vf x vs vu vt vd vy := (put_past (by decide +kernel)).trans (congrArg _ ((put_past (by decide +kernel)).trans (congrArg _ ((put_past (by decide +kernel)).trans (congrArg _ (put_here))))))
theorem lP_strengths (x : V) : putF "strengths" x (lF vp vl vf vr vs vu vt vd vy) = lF vp vl vf vr x vu vt vd vy := (put_past (by decide +kernel)).trans (congrArg _ ((put_past (by decide +kernel)).trans (congrArg _ ((put_past (by decide +kernel)).trans (congrArg _ ((put_past (by decide +kernel)).trans (congrArg _ (put_here))))))))
theorem lP_supplied (x : V) : putF "supplied" x (lF vp vl vf vr vs vu vt vd vy) = lF vp vl vf vr vs x vt vd vy := (put_past (by decide +kernel)).trans (congrArg _ ((put_past (by decide +kernel)).trans (congrArg _ ((put_past (by decide +kernel)).trans (congrArg _ ((put_past (by decide +kernel)).trans (congrArg _ ((put_past (by decide +kernel)).trans (congrArg _ (put_here))))))))))
theorem lP_tanned (x : V) : putF "tanned" x (lF vp vl vf vr vs vu vt vd vy) = lF vp vl vf vr vs vu x vd vy := (put_past (by decide +kernel)).trans (congrArg _ ((put_past (by decide +kernel)).trans (congrArg _ ((put_past (by decide +kernel)).trans (congrArg _ ((put_past (by decide +kernel)).trans (congrArg _ ((put_past (by decide +kernel)).trans (congrArg _ ((put_past (by decide +kernel)).trans (congrArg _ (put_here))))))))))))
theorem lP_discharged (x : V) : putF "discharged" x (lF vp vl vf vr vs vu vt vd vy) = lF vp vl vf vr vs vu vt x vy := (put_past (by decide +kernel)).trans (congrArg _ ((put_past (by decide +kernel)).trans (congrArg _ ((put_past (by decide +kernel)).trans (congrArg _ ((put_past (by decide +kernel)).trans (congrArg _ ((put_past (by decide +kernel)).trans (congrArg _ ((put_past (by decide +kernel)).trans (congrArg _ ((put_past (by decide +kernel)).trans (congrArg _ (put_here))))))))))))))
theorem lP_days (x : V) : putF "days" x (lF vp vl vf vr vs vu vt vd vy) = lF vp vl vf vr vs vu vt vd x := (put_past (by decide +kernel)).trans (congrArg _ ((put_past (by decide +kernel)).trans (congrArg _ ((put_past (by decide +kernel)).trans (congrArg _ ((put_past (by decide +kernel)).trans (congrArg _ ((put_past (by decide +kernel)).trans (congrArg _ ((put_past (by decide +kernel)).trans (congrArg _ ((put_past (by decide +kernel)).trans (congrArg _ ((put_past (by decide +kernel)).trans (congrArg _ (put_here))))))))))))))))
theorem lN_liquor : putF "liquor" vp ([] : List (Str × V)) = ([("liquor", vp)] : List (Str × V)) := rfl
theorem lN_lot : putF "lot" vl ([("liquor", vp)] : List (Str × V)) = ([("liquor", vp), ("lot", vl)] : List (Str × V)) := (put_past (by decide +kernel)).trans (congrArg _ (rfl))
theorem lN_fresh : putF "fresh" vf ([("liquor", vp), ("lot", vl)] : List (Str × V)) = ([("liquor", vp), ("lot", vl), ("fresh", vf)] : List (Str × V)) := (put_past (by decide +kernel)).trans (congrArg _ ((put_past (by decide +kernel)).trans (congrArg _ (rfl))))
theorem lN_raw : putF "raw" vr ([("liquor", vp), ("lot", vl), ("fresh", vf)] : List (Str × V)) = ([("liquor", vp), ("lot", vl), ("fresh", vf), ("raw", vr)] : List (Str × V)) := (put_past (by decide +kernel)).trans (congrArg _ ((put_past (by decide +kernel)).trans (congrArg _ ((put_past (by decide +kernel)).trans (congrArg _ (rfl))))))
theorem lN_strengths : putF "strengths" vs ([("liquor", vp), ("lot", vl), ("fresh", vf), ("raw", vr)] : List (Str × V)) = ([("liquor", vp), ("lot", vl), ("fresh", vf), ("raw", vr), ("strengths", vs)] : List (Str × V)) := (put_past (by decide +kernel)).trans (congrArg _ ((put_past (by decide +kernel)).trans (congrArg _ ((put_past (by decide +kernel)).trans (congrArg _ ((put_past (by decide +kernel)).trans (congrArg _ (rfl))))))))
theorem lN_supplied : putF "supplied" vu ([("liquor", vp), ("lot", vl), ("fresh", vf), ("raw", vr), ("strengths", vs)] : List (Str × V)) = ([("liquor", vp), ("lot", vl), ("fresh", vf), ("raw", vr), ("strengths", vs), ("supplied", vu)] : List (Str × V)) := (put_past (by decide +kernel)).trans (congrArg _ ((put_past (by decide +kernel)).trans (congrArg _ ((put_past (by decide +kernel)).trans (congrArg _ ((put_past (by decide +kernel)).trans (congrArg _ ((put_past (by decide +kernel)).trans (congrArg _ (rfl))))))))))
theorem lN_tanned : putF "tanned" vt ([("liquor", vp), ("lot", vl), ("fresh", vf), ("raw", vr), ("strengths", vs), ("supplied", vu)] : List (Str × V)) = ([("liquor", vp), ("lot", vl), ("fresh", vf), ("raw", vr), ("strengths", vs), ("supplied", vu), ("tanned", vt)] : List (Str × V)) := (put_past (by decide +kernel)).trans (congrArg _ ((put_past (by decide +kernel)).trans (congrArg _ ((put_past (by decide +kernel)).trans (congrArg _ ((put_past (by decide +kernel)).trans (congrArg _ ((put_past (by decide +kernel)).trans (congrArg _ ((put_past (by decide +kernel)).trans (congrArg _ (rfl))))))))))))
theorem lN_discharged : putF "discharged" vd ([("liquor", vp), ("lot", vl), ("fresh", vf), ("raw", vr), ("strengths", vs), ("supplied", vu), ("tanned", vt)] : List (Str × V)) = ([("liquor", vp), ("lot", vl), ("fresh", vf), ("raw", vr), ("strengths", vs), ("supplied", vu), ("tanned", vt), ("discharged", vd)] : List (Str × V)) := (put_past (by decide +kernel)).trans (congrArg _ ((put_past (by decide +kernel)).trans (congrArg _ ((put_past (by decide +kernel)).trans (congrArg _ ((put_past (by decide +kernel)).trans (congrArg _ ((put_past (by decide +kernel)).trans (congrArg _ ((put_past (by decide +kernel)).trans (congrArg _ ((put_past (by decide +kernel)).trans (congrArg _ (rfl))))))))))))))
theorem lN_days : putF "days" vy ([("liquor", vp), ("lot", vl), ("fresh", vf), ("raw", vr), ("strengths", vs), ("supplied", vu), ("tanned", vt), ("discharged", vd)] : List (Str × V)) = ([("liquor", vp), ("lot", vl), ("fresh", vf), ("raw", vr), ("strengths", vs), ("supplied", vu), ("tanned", vt), ("discharged", vd), ("days", vy)] : List (Str × V)) := (put_past (by decide +kernel)).trans (congrArg _ ((put_past (by decide +kernel)).trans (congrArg _ ((put_past (by decide +kernel)).trans (congrArg _ ((put_past (by decide +kernel)).trans (congrArg _ ((put_past (by decide +kernel)).trans (congrArg _ ((put_past (by decide +kernel)).trans (congrArg _ ((put_past (by decide +kernel)).trans (congrArg _ ((put_past (by decide +kernel)).trans (congrArg _ (rfl))))))))))))))))
end
theorem lF_len {vp vl vf vr vs vu vt vd vy : V} : (lF vp vl vf vr vs vu vt vd vy).length < 1000 := by show 9 < 1000; decide
end Tan
end
section
namespace Tan
open PySem PySem.Spec PyProof.Rows L2
/-! ### a line, its methods -/
structure Parts (K : PySem.W.Frag) (H : Hp) (v : Kp395.Line) (f r l s t d : Addr) : Prop where
  f : Fr K H f v.fresh
  r : Fr K H r v.raw
  l : Frs K H l v.strengths
  s : Fr K H s v.supplied
  t : Fr K H t v.tanned
  d : Fr K H d v.discharged
theorem Fr.at_ {K : PySem.W.Frag} {H : Hp} {a p C dx : Addr} {fs : List (Str × V)} {q : Rat} (h : Fr K H p q) (ha : H a = some (.ins C dx fs)) (o : HO) : Fr K (upd H a o) p q := h.but But.upd ha
structure LA (K : PySem.W.Frag) (C : Addr) (H : Hp) (a : Addr) (v : Kp395.Line) (dx f r l s t d : Addr) : Prop where
  at_ : H a = some (.ins C dx (lF (.int (v.liquor : Int)) (.int (v.lot : Int)) (.ref f) (.ref r) (.ref l) (.ref s) (.ref t) (.ref d) (.int (v.days : Int))))
  p : Parts K H v f r l s t d
def LineAt (K : PySem.W.Frag) (C : Addr) (H : Hp) (a : Addr) (v : Kp395.Line) : Prop := ∃ dx f r l s t d, LA K C H a v dx f r l s t d
theorem Parts.same {K : PySem.W.Frag} {H H' : Hp} {v : Kp395.Line} {f r l s t d : Addr} (e : Same H H') (p : Parts K H v f r l s t d) : Parts K H' v f r l s t d :=
  ⟨p.f.same e, p.r.same e, p.l.same e, p.s.same e, p.t.same e, p.d.same e⟩
theorem Parts.but {K : PySem.W.Frag} {H H' : Hp} {v : Kp395.Line} {f r l s t d a C dx : Addr} {fs : List (Str × V)} (e : But a H H') (ha : H a = some (.ins C dx fs)) (p : Parts K H v f r l s t d) : Parts K H' v f r l s t d :=
  ⟨p.f.but e ha, p.r.but e ha, p.l.but e ha, p.s.but e ha, p.t.but e ha, p.d.but e ha⟩
theorem Parts.at_ {K : PySem.W.Frag} {H : Hp} {v : Kp395.Line} {f r l s t d a C dx : Addr} {fs : List (Str × V)} (p : Parts K H v f r l s t d) (ha : H a = some (.ins C dx fs)) (o : HO) : Parts K (upd H a o) v f r l s t d := p.but But.upd ha
theorem LA.same {K : PySem.W.Frag} {H H' : Hp} {v : Kp395.Line} {C a dx f r l s t d : Addr} (e : Same H H') (L : LA K C H a v dx f r l s t d) : LA K C H' a v dx f r l s t d := ⟨e _ _ L.at_, L.p.same e⟩
theorem LineAt.same {K : PySem.W.Frag} {H H' : Hp} {v : Kp395.Line} {C a : Addr} (e : Same H H') (L : LineAt K C H a v) : LineAt K C H' a v := by
  obtain ⟨dx, f, r, l, s, t, d, L⟩ := L
  exact ⟨dx, f, r, l, s, t, d, L.same e⟩
section
variable {X : Cx} {C : Addr} {k : Nat} {ps : List Str} {sp : Sp} {m : Str} {p pos apos : Pos} {e o : Expr} {es : List Expr} {ta : TE} {t : TA}
theorem pe_okM {j : Nat} {pl : Sem Bool} (he : PE X o ta) (c : Cls X.K C) (O : OkM X.prog X.w X.K X.mg X.base C k m ps sp) (hr : Room j X.A) (ha : PA X (e :: es) t) (hj : k ≤ j := by decide)
    (hst : starEach (e :: es) X.env = (false, eval e X.env) :: starEach es X.env := by rfl) (hpl : (backTo pos (starEach es X.env)).any (·.1) = false := by rfl)
    (ht : eval (.Call (.Attribute o m apos) (e :: es) [] pos) X.env = (do
      let ov ← eval o X.env
      standAt apos.atName
      let (f, first) ← holding [ov] (getMethod ov m pl)
      callWith pos f first (backTo pos (starEach (e :: es) X.env)) (backToKw pos (keywordEach [] X.env))) := by rfl) :
    PE X (.Call (.Attribute o m apos) (e :: es) [] pos) (tMeth C m sp [] E0 ta t) := by
  obtain ⟨f, fd, G, hm, b⟩ := O
  exact pe_meth he c hm G (hr.mono hj) b .nil pass0 ha hst hpl ht
theorem pe_okM0 {j : Nat} {pl : Sem Bool} (he : PE X o ta) (c : Cls X.K C) (O : OkM X.prog X.w X.K X.mg X.base C k m ps sp) (hr : Room j X.A) (hj : k ≤ j := by decide)
    (ht : eval (.Call (.Attribute o m apos) [] [] pos) X.env = (do
      let ov ← eval o X.env
      standAt apos.atName
      let (f, first) ← holding [ov] (getMethod ov m pl)
      callWith pos f first (backTo pos (starEach [] X.env)) (backToKw pos (keywordEach [] X.env))) := by rfl) :
    PE X (.Call (.Attribute o m apos) [] [] pos) (tMeth C m sp [] E0 ta tNil) := by
  obtain ⟨f, fd, G, hm, b⟩ := O
  exact pe_meth0 he c hm G (hr.mono hj) b .nil pass0 ht
end
/-- hands back nothing, leaves the line as v -/
abbrev RetN (K : PySem.W.Frag) (C : Addr) (a : Addr) (H : Hp) (Q : VK) (v : Kp395.Line) : Prop := ∀ H', But a H H' → LineAt K C H' a v → Q .non H'
def spInit (K : PySem.W.Frag) (C : Addr) : Sp := fun vs H Q _ => ∃ (a dx : Addr) (k p l : Nat), vs = [.ref a, .int (k : Int), .int (p : Int), .int (l : Int)] ∧ H a = some (.ins C dx []) ∧ k ≤ 6 ∧
  RetN K C a H Q ⟨p, l, 1, 0, List.replicate k 0, 0, 0, 0, 0⟩
def spPutFresh (K : PySem.W.Frag) (C : Addr) : Sp := fun vs H Q _ => ∃ (a x : Addr) (v : Kp395.Line) (q : Rat), vs = [.ref a, .ref x] ∧ LineAt K C H a v ∧ Fr K H x q ∧ RetN K C a H Q { v with fresh := q }
def spPutRaw (K : PySem.W.Frag) (C : Addr) : Sp := fun vs H Q _ => ∃ (a x : Addr) (v : Kp395.Line) (q : Rat), vs = [.ref a, .ref x] ∧ LineAt K C H a v ∧ Fr K H x q ∧ RetN K C a H Q { v with raw := q }
def spPutStrength (K : PySem.W.Frag) (C : Addr) : Sp := fun vs H Q _ => ∃ (a x : Addr) (v : Kp395.Line) (n i : Nat) (q : Rat), vs = [.ref a, .int (i : Int), .ref x] ∧ n ≤ 300 ∧ Good n v ∧ LineAt K C H a v ∧ Fr K H x q ∧ Frac q ∧ i < v.strengths.length ∧
  RetN K C a H Q { v with strengths := v.strengths.set i q, supplied := v.supplied + Kp395.toRat (v.liquor + v.lot) * (q - Kp395.strengthAt v i) }
def spTakeOut (K : PySem.W.Frag) (C : Addr) : Sp := fun vs H Q _ => ∃ (a x y : Addr) (v : Kp395.Line) (q u : Rat), vs = [.ref a, .ref x, .ref y] ∧ v.liquor ≤ 50 ∧ v.lot ≤ 50 ∧ Nice 600 v.tanned ∧ Nice 600 v.discharged ∧ LineAt K C H a v ∧ Fr K H x q ∧ Fr K H y u ∧ Nice 600 q ∧ Nice 600 u ∧
  RetN K C a H Q { v with tanned := v.tanned + Kp395.toRat v.lot * q, discharged := v.discharged + Kp395.toRat v.liquor * u }
def spPassDay (K : PySem.W.Frag) (C : Addr) : Sp := fun vs H Q _ => ∃ (a : Addr) (v : Kp395.Line) (n : Nat), vs = [.ref a] ∧ n ≤ 300 ∧ Good n v ∧ LineAt K C H a v ∧ RetN K C a H Q (Kp395.runDay v)
def spAddLast (K : PySem.W.Frag) (C : Addr) : Sp := fun vs H Q _ => ∃ (a : Addr) (v : Kp395.Line), vs = [.ref a] ∧ v.strengths.length ≤ 6 ∧ LineAt K C H a v ∧ RetN K C a H Q { v with strengths := v.strengths ++ [0] }
def spTakePit (K : PySem.W.Frag) (C : Addr) : Sp := fun vs H Q _ => ∃ (a : Addr) (v : Kp395.Line) (n i : Nat), vs = [.ref a, .int (i : Int)] ∧ n ≤ 300 ∧ Good n v ∧ LineAt K C H a v ∧ i < v.strengths.length ∧
  RetN K C a H Q { v with strengths := v.strengths.eraseIdx i, tanned := v.tanned + Kp395.toRat v.lot * Kp395.strengthAt v i, discharged := v.discharged + Kp395.toRat v.liquor * Kp395.strengthAt v i }
theorem Good.nSu {n : Nat} {v : Kp395.Line} (G : Good n v) (hn : n ≤ 300) : Nice 600 v.supplied := G.su.nice G.s0 G.s1 (by have := G.dy; omega) (by have := G.dy; omega)
theorem Good.nTa {n : Nat} {v : Kp395.Line} (G : Good n v) (hn : n ≤ 300) : Nice 600 v.tanned := G.ta.nice G.s0 G.s1 (by have := G.dy; omega) (by have := G.dy; omega)
theorem Good.nDi {n : Nat} {v : Kp395.Line} (G : Good n v) (hn : n ≤ 300) : Nice 600 v.discharged := G.di.nice G.s0 G.s1 (by have := G.dy; omega) (by have := G.dy; omega)
theorem Good.nSt {n : Nat} {v : Kp395.Line} (G : Good n v) {i : Nat} (hi : i < v.strengths.length) : Nice 600 (v.strengths.getD i 0) := (G.st _ (getD_mem hi)).nice G.s0 G.s1 (by have := G.dy; omega)
theorem rat_nat (n : Nat) : (((n : Nat) : Int) : Rat) = Kp395.toRat n := Rat.intCast_natCast n
theorem small64 {n : Nat} (h : n ≤ 100) : ((n : Nat) : Int).natAbs < 2 ^ 64 := by
  have : (101 : Nat) ≤ 2 ^ 64 := by decide
  omega
theorem small7 {n : Nat} (h : n ≤ 100) : ((n : Nat) : Int).natAbs < 2 ^ 7 := by
  have : (101 : Nat) ≤ 2 ^ 7 := by decide
  omega
theorem nice_toRat {n : Nat} {q : Rat} {k : Nat} (h : n ≤ 100) (hq : Nice k q) : Nice (7 + k) (Kp395.toRat n * q) := by
  rw [← rat_nat]
  exact nice_mul (small7 h) hq
theorem set_cut {α : Type} {l : List α} {i : Nat} {x : α} (h : i < l.length) : l.set i x = l.take i ++ [x] ++ l.drop (i + 1) := by
  rw [List.set_eq_take_append_cons_drop, if_pos h, List.append_assoc]
  rfl
theorem rep_flat (z : Addr) : ∀ k : Nat, (List.replicate k [V.ref z]).flatten = (List.replicate k z).map V.ref
  | 0 => rfl
  | k + 1 => by
    rw [List.replicate_succ, List.flatten_cons, rep_flat z k, List.replicate_succ, List.map_cons]
    rfl
theorem last_getD {l : List Rat} (h : 1 ≤ l.length) : l.getLastD 0 = l.getD (l.length - 1) 0 := by
  rw [List.getD_eq_getElem?_getD, ← List.getLast?_eq_getElem?, List.getLastD_eq_getLast?]
theorem head_getD {l : List Rat} : l.headD 0 = l.getD 0 0 := by cases l <;> rfl
section
variable {P : Program} {w : World} {K : PySem.W.Frag} {mg : Str → Option Value} {base : Heap} {C : Addr}
theorem ok_init (T : Txt K mg C) : ∃ f fd, FnOk P w K mg base CX0 1 f fd ["self", "pit_count", "liquor", "lot"] (spInit K C) ∧ Mk K C f ∧ Binds K fd ["self", "pit_count", "liquor", "lot"] [] := by
  obtain ⟨f, fd, M, F, b⟩ := T.d_init
  refine ⟨f, fd, F.ok cm___init__ (fun vs H Q E h => ?_) (fun cdv A outer s H vs Q E hr h => ⟨_, pss_cons (ps_fld (pv 0) (pv 2) rfl) (pss_cons (ps_fld (pv 0) (pv 3) rfl)
      (pss_cons (ps_fld (pv 0) (pe_t T.k_WHOLE) rfl) (pss_cons (ps_fld (pv 0) (pe_t T.k_NOUGHT) rfl) (pss_cons (ps_fld (pv 0) (pe_op op_rep (pe_lst (pa_cons (pe_t T.k_NOUGHT) pa_nil)) (pv 1)) rfl)
      (pss_cons (ps_fld (pv 0) (pe_t T.k_NOUGHT) rfl) (pss_cons (ps_fld (pv 0) (pe_t T.k_NOUGHT) rfl) (pss_cons (ps_fld (pv 0) (pe_t T.k_NOUGHT) rfl) (pss_one (ps_fld (pv 0) pe_int rfl))))))))), ?_⟩), M, b⟩
  · obtain ⟨a, dx, k, p, l, rfl, _⟩ := h
    rfl
  · obtain ⟨a, dx, k, p, l, rfl, ha, hk, q⟩ := h
    refine ⟨_, rfl, _, rfl, a, C, dx, _, rfl, ha, T.cl, T.n_liquor, (by show 0 < 1000; decide), ?_⟩
    refine ⟨_, rfl, _, rfl, a, C, dx, _, rfl, upd_same, T.cl, T.n_lot, (by show 1 < 1000; decide), ?_⟩
    rw [upd_upd]
    intro z1 hz1
    refine ⟨_, rfl, a, C, dx, _, rfl, upd_same, T.cl, T.n_fresh, (by show 2 < 1000; decide), ?_⟩
    rw [upd_upd]
    intro z2 hz2
    refine ⟨_, rfl, a, C, dx, _, rfl, upd_same, T.cl, T.n_raw, (by show 3 < 1000; decide), ?_⟩
    rw [upd_upd]
    intro z3 hz3
    refine ⟨(by show 1 ≤ sizeLine; decide), fun d1 n1 => ?_⟩
    have hz : (6 : Nat) ≤ sizeLine := by decide
    refine ⟨_, rfl, d1, _, _, rfl, rfl, upd_same, by omega, by omega, by rw [Int.toNat_natCast]; show 1 * k ≤ _; omega, fun d2 n2 => ?_⟩
    have s1 := same_new (o := .lst [V.ref z3]) n1
    have s2 := same_newer s1 (o := .lst (List.replicate ((k : Nat) : Int).toNat [V.ref z3]).flatten) n2
    refine ⟨_, rfl, a, C, dx, _, rfl, s2 _ _ upd_same, T.cl, T.n_strengths, (by show 4 < 1000; decide), ?_⟩
    intro z4 hz4
    refine ⟨_, rfl, a, C, dx, _, rfl, upd_same, T.cl, T.n_supplied, (by show 5 < 1000; decide), ?_⟩
    rw [upd_upd]
    intro z5 hz5
    refine ⟨_, rfl, a, C, dx, _, rfl, upd_same, T.cl, T.n_tanned, (by show 6 < 1000; decide), ?_⟩
    rw [upd_upd]
    intro z6 hz6
    refine ⟨_, rfl, a, C, dx, _, rfl, upd_same, T.cl, T.n_discharged, (by show 7 < 1000; decide), ?_⟩
    rw [upd_upd]
    refine ⟨_, rfl, a, C, dx, _, rfl, upd_same, T.cl, T.n_days, (by show 8 < 1000; decide), ?_⟩
    rw [upd_upd]
    rw [lN_liquor, lN_lot, lN_fresh, lN_raw, lN_strengths, lN_supplied, lN_tanned, lN_discharged, lN_days]
    refine q _ ((But.upd.trans (But.of s2)).trans But.upd) ⟨dx, z1, z2, d2, z4, z5, z6, ⟨upd_same, ?_⟩⟩
    refine ⟨one_fr hz1 _, zero_fr hz2 _, ⟨List.replicate k z3, ?_, paired_rep (zero_fr hz3 _) k⟩, zero_fr hz4 _, zero_fr hz5 _, zero_fr hz6 _⟩
    have ne : d2 ≠ a := (ne_of_none (s1 _ _ upd_same) n2).symm
    rw [upd_ne ne, upd_same, Int.toNat_natCast]
    rw [rep_flat]
theorem ok_put_fresh (T : Txt K mg C) : OkM P w K mg base C 1 "put_fresh" ["self", "strength"] (spPutFresh K C) := by
  obtain ⟨f, fd, F, m, b⟩ := T.d_put_fresh
  refine ⟨f, fd, F.ok cm_put_fresh (fun vs H Q E h => ?_) (fun cdv A outer s H vs Q E hr h => ⟨_, pss_one (ps_fld (pv 0) (pv 1) rfl), ?_⟩), m, b⟩
  · obtain ⟨a, x, v, q, rfl, _⟩ := h
    rfl
  · obtain ⟨a, x, v, q, rfl, ⟨dx, f', r, l, s', t, d, L⟩, hx, k⟩ := h
    refine ⟨_, rfl, _, rfl, a, C, dx, _, rfl, L.at_, T.cl, T.n_fresh, lF_len, ?_⟩
    have e : But a H (upd H a (.ins C dx (putF "fresh" (.ref x) (lF (.int (v.liquor : Int)) (.int (v.lot : Int)) (.ref f') (.ref r) (.ref l) (.ref s') (.ref t) (.ref d) (.int (v.days : Int)))))) := But.upd
    have p := L.p.but e L.at_
    refine k _ e ⟨dx, x, r, l, s', t, d, ?_, hx.but e L.at_, p.r, p.l, p.s, p.t, p.d⟩
    rw [upd_same, lP_fresh]
theorem ok_put_raw (T : Txt K mg C) : OkM P w K mg base C 1 "put_raw" ["self", "strength"] (spPutRaw K C) := by
  obtain ⟨f, fd, F, m, b⟩ := T.d_put_raw
  refine ⟨f, fd, F.ok cm_put_raw (fun vs H Q E h => ?_) (fun cdv A outer s H vs Q E hr h => ⟨_, pss_one (ps_fld (pv 0) (pv 1) rfl), ?_⟩), m, b⟩
  · obtain ⟨a, x, v, q, rfl, _⟩ := h
    rfl
  · obtain ⟨a, x, v, q, rfl, ⟨dx, f', r, l, s', t, d, L⟩, hx, k⟩ := h
    refine ⟨_, rfl, _, rfl, a, C, dx, _, rfl, L.at_, T.cl, T.n_raw, lF_len, ?_⟩
    have e : But a H (upd H a (.ins C dx (putF "raw" (.ref x) (lF (.int (v.liquor : Int)) (.int (v.lot : Int)) (.ref f') (.ref r) (.ref l) (.ref s') (.ref t) (.ref d) (.int (v.days : Int)))))) := But.upd
    have p := L.p.but e L.at_
    refine k _ e ⟨dx, f', x, l, s', t, d, ?_, p.f, hx.but e L.at_, p.l, p.s, p.t, p.d⟩
    rw [upd_same, lP_raw]
theorem ok_take_out (T : Txt K mg C) : OkM P w K mg base C 4 "take_out" ["self", "lot_strength", "liquor_strength"] (spTakeOut K C) := by
  obtain ⟨f, fd, F, m, b⟩ := T.d_take_out
  refine ⟨f, fd, F.ok cm_take_out (fun vs H Q E h => ?_) (fun cdv A outer s H vs Q E hr h => ⟨_,
      pss_cons (ps_fld (pv 0) (pe_ok (ok_plus T) hr (pa_cons (pe_fld (pv 0) rfl) (pa_cons (pe_ok (ok_times T) hr (pa_cons (pe_fld (pv 0) rfl) (pa_cons (pv 1) pa_nil))) pa_nil))) rfl)
      (pss_one (ps_fld (pv 0) (pe_ok (ok_plus T) hr (pa_cons (pe_fld (pv 0) rfl) (pa_cons (pe_ok (ok_times T) hr (pa_cons (pe_fld (pv 0) rfl) (pa_cons (pv 2) pa_nil))) pa_nil))) rfl)), ?_⟩), m, b⟩
  · obtain ⟨a, x, y, v, q, u, rfl, _⟩ := h
    rfl
  · obtain ⟨a, x, y, v, q, u, rfl, hp50, hl50, nt, nd, ⟨dx, f', r, l, s', t, d, L⟩, hx, hy, nq, nu, k⟩ := h
    refine ⟨_, rfl, a, C, dx, _, _, rfl, L.at_, T.cl, T.n_tanned, lF_tanned, ?_⟩
    refine ⟨_, rfl, a, C, dx, _, _, rfl, L.at_, T.cl, T.n_lot, lF_lot, _, rfl, _, x, q, rfl, hx, small64 (by omega), nq.mono (by decide), fun H1 p1 s1 f1 => ?_⟩
    rw [rat_nat] at f1
    have L1 := L.same s1
    refine ⟨t, p1, _, _, rfl, L1.p.t, f1, nt.mono (by decide), (nice_toRat (by omega) nq).mono (by decide), fun H2 p2 s2 f2 => ?_⟩
    have L2 := L1.same s2
    refine ⟨_, rfl, a, C, dx, _, rfl, L2.at_, T.cl, T.n_tanned, lF_len, ?_⟩
    rw [lP_tanned]
    refine ⟨_, rfl, a, C, dx, _, _, rfl, upd_same, T.cl, T.n_discharged, lF_discharged, ?_⟩
    refine ⟨_, rfl, a, C, dx, _, _, rfl, upd_same, T.cl, T.n_liquor, lF_liquor, _, rfl, _, y, u, rfl, ?_⟩
    have e1 : But a H2 (upd H2 a (.ins C dx (lF (.int (v.liquor : Int)) (.int (v.lot : Int)) (.ref f') (.ref r) (.ref l) (.ref s') (.ref p2) (.ref d) (.int (v.days : Int))))) := But.upd
    have P2 := L2.p.but e1 L2.at_
    refine ⟨((hy.same s1).same s2).but e1 L2.at_, small64 (by omega), nu.mono (by decide), fun H3 p3 s3 f3 => ?_⟩
    rw [rat_nat] at f3
    have P3' := P2.same s3
    refine ⟨d, p3, _, _, rfl, P3'.d, f3, nd.mono (by decide), (nice_toRat (by omega) nu).mono (by decide), fun H4 p4 s4 f4 => ?_⟩
    have P4 := P3'.same s4
    have a4 := s4 _ _ (s3 _ _ upd_same)
    refine ⟨_, rfl, a, C, dx, _, rfl, a4, T.cl, T.n_discharged, lF_len, ?_⟩
    rw [lP_discharged]
    have e5 : But a H4 (upd H4 a (.ins C dx (lF (.int (v.liquor : Int)) (.int (v.lot : Int)) (.ref f') (.ref r) (.ref l) (.ref s') (.ref p2) (.ref p4) (.int (v.days : Int))))) := But.upd
    have P5 := P4.but e5 a4
    have f2' := (((f2.but e1 L2.at_).same s3).same s4).but e5 a4
    exact k _ ((((But.of (s1.trans s2)).trans e1).trans (But.of (s3.trans s4))).trans e5) ⟨dx, f', r, l, s', p2, p4, upd_same, P5.f, P5.r, P5.l, P5.s, f2', f4.but e5 a4⟩
theorem ok_put_strength (T : Txt K mg C) : OkM P w K mg base C 4 "put_strength" ["self", "pit", "strength"] (spPutStrength K C) := by
  obtain ⟨f, fd, F, m, b⟩ := T.d_put_strength
  refine ⟨f, fd, F.ok cm_put_strength (fun vs H Q E h => ?_) (fun cdv A outer s H vs Q E hr h => ⟨_,
      pss_cons (ps_set (i := 3) cm_put_strength.nd rfl (.inl rfl) (pe_ok (ok_minus T) hr (pa_cons (pv 2) (pa_cons (pe_ix ix_list (pe_fld (pv 0) rfl) (pv 1) (fun _ _ => rfl)) pa_nil))))
      (pss_cons (ps_fld (pv 0) (pe_ok (ok_plus T) hr (pa_cons (pe_fld (pv 0) rfl) (pa_cons (pe_ok (ok_times T) hr (pa_cons (pe_op op_add (pe_fld (pv 0) rfl) (pe_fld (pv 0) rfl)) (pa_cons (pv 3) pa_nil))) pa_nil))) rfl)
      (pss_one (ps_fld (pv 0) (pe_op op_cat (pe_op op_cat (pe_slice sl_list (pe_fld (pv 0) rfl) po_none (po_some (pv 1))) (pe_lst (pa_cons (pv 2) pa_nil))) (pe_slice sl_list (pe_fld (pv 0) rfl) (po_some (pe_op op_add (pv 1) pe_int)) po_none)) rfl))), ?_⟩), m, b⟩
  · obtain ⟨a, x, v, n, i, q, rfl, _⟩ := h
    rfl
  · obtain ⟨a, x, v, n, i, q, rfl, hn, G, ⟨dx, f', r, l, s', t, d, L⟩, hx, fq, hi, k⟩ := h
    have p1' := G.p1
    have l1' := G.l1
    have n6 := G.n1
    obtain ⟨xs, pi, hxs, lxs, hpi, fpi⟩ := L.p.l.get hi
    refine ⟨_, rfl, _, rfl, a, C, dx, _, _, rfl, L.at_, T.cl, T.n_strengths, lF_strengths, _, rfl, l, _, _, _, rfl, rfl, SqL.of hxs, atI_nat hpi, ?_⟩
    refine ⟨x, pi, _, _, rfl, hx, fpi, fq.nice.mono (by decide), (G.nSt hi).mono (by decide), fun H1 c s1 fc => ?_⟩
    have L1 := L.same s1
    refine ⟨_, rfl, a, C, dx, _, _, rfl, L1.at_, T.cl, T.n_supplied, lF_supplied, ?_⟩
    refine ⟨_, rfl, a, C, dx, _, _, rfl, L1.at_, T.cl, T.n_liquor, lF_liquor, _, rfl, a, C, dx, _, _, rfl, L1.at_, T.cl, T.n_lot, lF_lot, _, _, rfl, rfl, _, rfl, ?_⟩
    have nc : Nice 615 (q - v.strengths.getD i 0) := nice_sub fq.nice (G.nSt hi)
    refine ⟨_, c, _, rfl, fc, small64 (n := v.liquor + v.lot) (by omega), nc.mono (by decide), fun H2 c2 s2 f2 => ?_⟩
    rw [← Int.natCast_add, rat_nat] at f2
    have L2 := L1.same s2
    refine ⟨s', c2, _, _, rfl, L2.p.s, f2, (G.nSu hn).mono (by decide), (nice_toRat (by omega) nc).mono (by decide), fun H3 c3 s3 f3 => ?_⟩
    have L3 := L2.same s3
    refine ⟨_, rfl, a, C, dx, _, rfl, L3.at_, T.cl, T.n_supplied, lF_len, ?_⟩
    rw [lP_supplied]
    have e4 : But a H3 (upd H3 a (.ins C dx (lF (.int (v.liquor : Int)) (.int (v.lot : Int)) (.ref f') (.ref r) (.ref l) (.ref c3) (.ref t) (.ref d) (.int (v.days : Int))))) := But.upd
    have P4 := L3.p.but e4 L3.at_
    have f34 := f3.but e4 L3.at_
    have x4 := (((hx.same s1).same s2).same s3).but e4 L3.at_
    have b4 : But a H (upd H3 a (.ins C dx (lF (.int (v.liquor : Int)) (.int (v.lot : Int)) (.ref f') (.ref r) (.ref l) (.ref c3) (.ref t) (.ref d) (.int (v.days : Int))))) := (But.of ((s1.trans s2).trans s3)).trans e4
    have a4 : (upd H3 a (.ins C dx (lF (.int (v.liquor : Int)) (.int (v.lot : Int)) (.ref f') (.ref r) (.ref l) (.ref c3) (.ref t) (.ref d) (.int (v.days : Int))))) a = some (.ins C dx (lF (.int (v.liquor : Int)) (.int (v.lot : Int)) (.ref f') (.ref r) (.ref l) (.ref c3) (.ref t) (.ref d) (.int (v.days : Int)))) := upd_same
    revert P4 f34 x4 b4 a4
    generalize (upd H3 a (.ins C dx (lF (.int (v.liquor : Int)) (.int (v.lot : Int)) (.ref f') (.ref r) (.ref l) (.ref c3) (.ref t) (.ref d) (.int (v.days : Int))))) = H4
    intro P4 f34 x4 b4 a4
    obtain ⟨ps, hl, hp⟩ := P4.l
    have ln := paired_len hp
    have hz : (100 : Nat) ≤ sizeLine := by decide
    refine ⟨_, rfl, a, C, dx, _, _, rfl, a4, T.cl, T.n_strengths, lF_strengths, _, rfl, _, rfl, l, _, rfl, SqL.of hl, fun d1 n1 => ?_⟩
    rw [cut_to]
    have s5 := same_new (o := .lst ((ps.map V.ref).take i)) n1
    refine ⟨_, rfl, (by show 1 ≤ sizeLine; decide), fun d2 n2 => ?_⟩
    have s6 := same_new (o := .lst [V.ref x]) n2
    refine ⟨d1, d2, _, _, rfl, rfl, s6 _ _ upd_same, upd_same, by rw [List.length_take, List.length_map]; show _ + 1 ≤ _; omega, fun d3 n3 => ?_⟩
    have s7 := same_new (o := .lst ((ps.map V.ref).take i ++ [V.ref x])) n3
    have s57 := (s5.trans s6).trans s7
    refine ⟨_, rfl, a, C, dx, _, _, rfl, s57 _ _ a4, T.cl, T.n_strengths, lF_strengths, _, rfl, _, _, rfl, rfl, _, rfl, l, _, rfl, SqL.of (s57 _ _ hl), fun d4 n4 => ?_⟩
    have ei : ((i : Nat) : Int) + 1 = ((i + 1 : Nat) : Int) := by omega
    rw [ei]
    rw [cut_from]
    have s8 := same_new (o := .lst ((ps.map V.ref).drop (i + 1))) n4
    refine ⟨d3, d4, _, _, rfl, rfl, s8 _ _ upd_same, upd_same, by rw [List.length_append, List.length_take, List.length_drop, List.length_map]; show _ + 1 + _ ≤ _; omega, fun d5 n5 => ?_⟩
    have s9 := same_new (o := .lst ((ps.map V.ref).take i ++ [V.ref x] ++ (ps.map V.ref).drop (i + 1))) n5
    have s59 := (s57.trans s8).trans s9
    have a9 := s59 _ _ a4
    refine ⟨_, rfl, a, C, dx, _, rfl, a9, T.cl, T.n_strengths, lF_len, ?_⟩
    rw [lP_strengths]
    refine k _ ((b4.trans (But.of s59)).trans But.upd) ?_
    have P9 := fun o => (P4.same s59).at_ a9 o
    refine ⟨dx, f', r, d5, c3, t, d, upd_same, (P9 _).f, (P9 _).r, ⟨ps.set i x, ?_, ?_⟩, (f34.same s59).but But.upd a9, (P9 _).t, (P9 _).d⟩
    · rw [upd_ne (ne_of upd_same a9 (by intro z; cases z)), upd_same, set_cut (by omega), List.map_append, List.map_append, List.map_take, List.map_drop]
      rfl
    · show Paired _ (ps.set i x) (v.strengths.set i q)
      rw [set_cut (by omega), set_cut hi]
      have hp9 : ∀ o, Paired (Fr K (upd _ a o)) ps v.strengths := fun o => Paired.mapP hp fun _ _ z => (z.same s59).at_ a9 o
      exact paired_app (paired_app (paired_take i (hp9 _)) (.cons ((x4.same s59).at_ a9 _) .nil)) (paired_drop (i + 1) (hp9 _))
theorem ok_pass_day (T : Txt K mg C) : OkM P w K mg base C 5 "pass_day" ["self"] (spPassDay K C) := by
  obtain ⟨f, fd, F, m, b⟩ := T.d_pass_day
  refine ⟨f, fd, F.ok cm_pass_day (fun vs H Q E h => ?_) (fun cdv A outer s H vs Q E hr h => ⟨_,
      pss_cons (ps_set (i := 1) cm_pass_day.nd rfl (.inl rfl) (pe_ok (ok_plus T) hr (pa_cons (pe_ok (ok_times T) hr (pa_cons (pe_fld (pv 0) rfl) (pa_cons (pe_fld (pv 0) rfl) pa_nil))) (pa_cons (pe_ok (ok_times T) hr (pa_cons (pe_fld (pv 0) rfl) (pa_cons (pe_fld (pv 0) rfl) pa_nil))) pa_nil))))
      (pss_cons (ps_fld (pv 0) (pe_ok (ok_plus T) hr (pa_cons (pe_fld (pv 0) rfl) (pa_cons (pv 1) pa_nil))) rfl)
      (pss_cons (ps_expr (pe_okM (pv 0) T.cl (ok_take_out T) hr (pa_cons (pe_ix ix_list (pe_fld (pv 0) rfl) (pe_op op_sub (pe_callB call_len_seq (by rfl) T.b_len PySem.boot_len (pa_cons (pe_fld (pv 0) rfl) pa_nil)) pe_int) (fun _ _ => rfl)) (pa_cons (pe_ix ix_list (pe_fld (pv 0) rfl) pe_int (fun _ _ => rfl)) pa_nil))))
      (pss_cons (ps_fld (pv 0) (pe_ok (ok_after_day T) hr (pa_cons (pe_fld (pv 0) rfl) (pa_cons (pe_fld (pv 0) rfl) (pa_cons (pe_fld (pv 0) rfl) (pa_cons (pe_fld (pv 0) rfl) (pa_cons (pe_fld (pv 0) rfl) pa_nil)))))) rfl)
      (pss_one (ps_fld (pv 0) (pe_op op_add (pe_fld (pv 0) rfl) pe_int) rfl))))), ?_⟩), m, b⟩
  · obtain ⟨a, v, n, rfl, _⟩ := h
    rfl
  · obtain ⟨a, v, n, rfl, hn, G, ⟨dx, f', r, l, s', t, d, L⟩, k⟩ := h
    have p1' := G.p1
    have l1' := G.l1
    have n0 := G.n0
    have n6 := G.n1
    have nf : Nice 14 v.fresh := G.fr.nice
    have nr : Nice 14 v.raw := G.rw.nice
    refine ⟨_, rfl, a, C, dx, _, _, rfl, L.at_, T.cl, T.n_liquor, lF_liquor, _, rfl, a, C, dx, _, _, rfl, L.at_, T.cl, T.n_fresh, lF_fresh, ?_⟩
    refine ⟨_, f', _, rfl, L.p.f, small64 (by omega), nf.mono (by decide), fun H1 c1 s1 f1 => ?_⟩
    rw [rat_nat] at f1
    have L1 := L.same s1
    refine ⟨_, rfl, a, C, dx, _, _, rfl, L1.at_, T.cl, T.n_lot, lF_lot, _, rfl, a, C, dx, _, _, rfl, L1.at_, T.cl, T.n_raw, lF_raw, ?_⟩
    refine ⟨_, r, _, rfl, L1.p.r, small64 (by omega), nr.mono (by decide), fun H2 c2 s2 f2 => ?_⟩
    rw [rat_nat] at f2
    have L2 := L1.same s2
    have na1 := nice_toRat (n := v.liquor) (by omega) nf
    have na2 := nice_toRat (n := v.lot) (by omega) nr
    have na := nice_add na1 na2
    refine ⟨c1, c2, _, _, rfl, f1.same s2, f2, na1.mono (by decide), na2.mono (by decide), fun H3 c3 s3 f3 => ?_⟩
    have L3 := L2.same s3
    refine ⟨_, rfl, a, C, dx, _, _, rfl, L3.at_, T.cl, T.n_supplied, lF_supplied, _, rfl, s', c3, _, _, rfl, L3.p.s, f3, (G.nSu hn).mono (by decide), na.mono (by decide), fun H4 c4 s4 f4 => ?_⟩
    have L4 := L3.same s4
    refine ⟨_, rfl, a, C, dx, _, rfl, L4.at_, T.cl, T.n_supplied, lF_len, ?_⟩
    rw [lP_supplied]
    have e5 : But a H4 (upd H4 a (.ins C dx (lF (.int (v.liquor : Int)) (.int (v.lot : Int)) (.ref f') (.ref r) (.ref l) (.ref c4) (.ref t) (.ref d) (.int (v.days : Int))))) := But.upd
    have b5 := (But.of (a := a) (((s1.trans s2).trans s3).trans s4)).trans e5
    have P5 := L4.p.but e5 L4.at_
    have f45 := f4.but e5 L4.at_
    have a5 : (upd H4 a (.ins C dx (lF (.int (v.liquor : Int)) (.int (v.lot : Int)) (.ref f') (.ref r) (.ref l) (.ref c4) (.ref t) (.ref d) (.int (v.days : Int))))) a = some (.ins C dx (lF (.int (v.liquor : Int)) (.int (v.lot : Int)) (.ref f') (.ref r) (.ref l) (.ref c4) (.ref t) (.ref d) (.int (v.days : Int)))) := upd_same
    revert P5 f45 b5 a5
    generalize (upd H4 a (.ins C dx (lF (.int (v.liquor : Int)) (.int (v.lot : Int)) (.ref f') (.ref r) (.ref l) (.ref c4) (.ref t) (.ref d) (.int (v.days : Int))))) = H5
    intro b5 P5 f45 a5
    obtain ⟨xs, pl, hxs, lxs, hpl, fpl⟩ := P5.l.get (i := v.strengths.length - 1) (by omega)
    obtain ⟨xs', ph, hxs', lxs', hph, fph⟩ := P5.l.get (i := 0) (by omega)
    refine ⟨_, rfl, a, dx, _, rfl, a5, lM_take_out, ?_⟩
    refine ⟨_, rfl, a, C, dx, _, _, rfl, a5, T.cl, T.n_strengths, lF_strengths, ?_⟩
    refine ⟨_, rfl, a, C, dx, _, _, rfl, a5, T.cl, T.n_strengths, lF_strengths, l, _, rfl, .inl (SqL.of hxs), _, _, rfl, rfl, ?_⟩
    refine ⟨l, _, _, _, rfl, rfl, SqL.of hxs, at_of (j := v.strengths.length - 1) (by rw [lxs]; omega) hpl, ?_⟩
    refine ⟨_, rfl, a, C, dx, _, _, rfl, a5, T.cl, T.n_strengths, lF_strengths, l, _, _, _, rfl, rfl, SqL.of hxs', at_of (j := 0) rfl hph, ?_⟩
    refine ⟨a, pl, ph, { v with supplied := v.supplied + (Kp395.toRat v.liquor * v.fresh + Kp395.toRat v.lot * v.raw) }, _, _, rfl, p1', l1', G.nTa hn, G.nDi hn, ⟨dx, f', r, l, c4, t, d, a5, P5.f, P5.r, P5.l, f45, P5.t, P5.d⟩, fpl, fph,
      G.nSt (by omega), G.nSt (by omega), fun H6 e6 L6 => ?_⟩
    obtain ⟨dx, f', r, l, s', t, d, L6⟩ := L6
    refine ⟨_, rfl, a, C, dx, _, _, rfl, L6.at_, T.cl, T.n_strengths, lF_strengths, _, rfl, a, C, dx, _, _, rfl, L6.at_, T.cl, T.n_liquor, lF_liquor, _, rfl, a, C, dx, _, _, rfl, L6.at_, T.cl, T.n_lot, lF_lot, ?_⟩
    refine ⟨_, rfl, a, C, dx, _, _, rfl, L6.at_, T.cl, T.n_fresh, lF_fresh, _, rfl, a, C, dx, _, _, rfl, L6.at_, T.cl, T.n_raw, lF_raw, ?_⟩
    refine ⟨l, f', r, v, n, v.strengths, rfl, G, L6.p.l, L6.p.f, L6.p.r, n0, n6, G.niceS 0 (by decide), fun H7 l7 s7 f7 => ?_⟩
    have L7 := L6.same s7
    refine ⟨_, rfl, a, C, dx, _, rfl, L7.at_, T.cl, T.n_strengths, lF_len, ?_⟩
    rw [lP_strengths]
    refine ⟨_, rfl, a, C, dx, _, _, rfl, upd_same, T.cl, T.n_days, lF_days, _, _, rfl, rfl, ?_⟩
    refine ⟨_, rfl, a, C, dx, _, rfl, upd_same, T.cl, T.n_days, lF_len, ?_⟩
    rw [lP_days, upd_upd]
    refine k _ (((b5.trans e6).trans (But.of s7)).trans But.upd) ?_
    have P8 := fun o => L7.p.at_ L7.at_ o
    refine ⟨dx, f', r, l7, s', t, d, upd_same, (P8 _).f, (P8 _).r, f7.but But.upd L7.at_, ?_, ?_, ?_⟩
    · have z : ∀ o, _ := fun o => (P8 o).s
      show Fr K _ s' (v.supplied + Kp395.toRat v.liquor * v.fresh + Kp395.toRat v.lot * v.raw)
      rw [Rat.add_assoc]
      exact z _
    · have z : ∀ o, _ := fun o => (P8 o).t
      show Fr K _ t (v.tanned + Kp395.toRat v.lot * v.strengths.getLastD 0)
      rw [last_getD n0]
      exact z _
    · have z : ∀ o, _ := fun o => (P8 o).d
      show Fr K _ d (v.discharged + Kp395.toRat v.liquor * v.strengths.headD 0)
      rw [head_getD]
      exact z _
theorem ok_add_last (T : Txt K mg C) : OkM P w K mg base C 1 "add_last" ["self"] (spAddLast K C) := by
  obtain ⟨f, fd, F, m, b⟩ := T.d_add_last
  refine ⟨f, fd, F.ok cm_add_last (fun vs H Q E h => ?_) (fun cdv A outer s H vs Q E hr h => ⟨_,
      pss_one (ps_fld (pv 0) (pe_op op_cat (pe_fld (pv 0) rfl) (pe_lst (pa_cons (pe_t T.k_NOUGHT) pa_nil))) rfl), ?_⟩), m, b⟩
  · obtain ⟨a, v, rfl, _⟩ := h
    rfl
  · obtain ⟨a, v, rfl, hn, ⟨dx, f', r, l, s', t, d, L⟩, k⟩ := h
    obtain ⟨ps, hl, hp⟩ := L.p.l
    have ln := paired_len hp
    have hz : (100 : Nat) ≤ sizeLine := by decide
    refine ⟨_, rfl, a, C, dx, _, _, rfl, L.at_, T.cl, T.n_strengths, lF_strengths, ?_⟩
    intro z hz'
    refine ⟨(by show 1 ≤ sizeLine; decide), fun d1 n1 => ?_⟩
    have s1 := same_new (o := .lst [V.ref z]) n1
    refine ⟨l, d1, _, _, rfl, rfl, s1 _ _ hl, upd_same, by rw [List.length_map]; show _ + 1 ≤ _; omega, fun d2 n2 => ?_⟩
    have s2 := same_newer s1 (o := .lst (ps.map V.ref ++ [V.ref z])) n2
    have L2 := L.same s2
    refine ⟨_, rfl, a, C, dx, _, rfl, L2.at_, T.cl, T.n_strengths, lF_len, ?_⟩
    rw [lP_strengths]
    have P3 := fun o => L2.p.at_ L2.at_ o
    refine k _ ((But.of s2).trans But.upd) ⟨dx, f', r, d2, s', t, d, upd_same, (P3 _).f, (P3 _).r, ⟨ps ++ [z], ?_, ?_⟩, (P3 _).s, (P3 _).t, (P3 _).d⟩
    · rw [upd_ne (ne_of upd_same L2.at_ (by intro z; cases z)), upd_same, List.map_append]
      rfl
    · exact paired_app (Paired.mapP hp fun _ _ y => (y.same s2).but But.upd L2.at_) (.cons (zero_fr hz' _) .nil)
theorem ok_take_pit (T : Txt K mg C) : OkM P w K mg base C 5 "take_pit" ["self", "pit"] (spTakePit K C) := by
  obtain ⟨f, fd, F, m, b⟩ := T.d_take_pit
  refine ⟨f, fd, F.ok cm_take_pit (fun vs H Q E h => ?_) (fun cdv A outer s H vs Q E hr h => ⟨_,
      pss_cons (ps_expr (pe_okM (pv 0) T.cl (ok_take_out T) hr (pa_cons (pe_ix ix_list (pe_fld (pv 0) rfl) (pv 1) (fun _ _ => rfl)) (pa_cons (pe_ix ix_list (pe_fld (pv 0) rfl) (pv 1) (fun _ _ => rfl)) pa_nil))))
      (pss_one (ps_fld (pv 0) (pe_op op_cat (pe_slice sl_list (pe_fld (pv 0) rfl) po_none (po_some (pv 1))) (pe_slice sl_list (pe_fld (pv 0) rfl) (po_some (pe_op op_add (pv 1) pe_int)) po_none)) rfl)), ?_⟩), m, b⟩
  · obtain ⟨a, v, n, i, rfl, _⟩ := h
    rfl
  · obtain ⟨a, v, n, i, rfl, hn, G, ⟨dx, f', r, l, s', t, d, L⟩, hi, k⟩ := h
    have n6 := G.n1
    obtain ⟨xs, pi, hxs, lxs, hpi, fpi⟩ := L.p.l.get hi
    refine ⟨_, rfl, a, dx, _, rfl, L.at_, lM_take_out, ?_⟩
    refine ⟨_, rfl, a, C, dx, _, _, rfl, L.at_, T.cl, T.n_strengths, lF_strengths, _, rfl, l, _, _, _, rfl, rfl, SqL.of hxs, atI_nat hpi, ?_⟩
    refine ⟨_, rfl, a, C, dx, _, _, rfl, L.at_, T.cl, T.n_strengths, lF_strengths, _, rfl, l, _, _, _, rfl, rfl, SqL.of hxs, atI_nat hpi, ?_⟩
    refine ⟨a, pi, pi, v, _, _, rfl, G.p1, G.l1, G.nTa hn, G.nDi hn, ⟨dx, f', r, l, s', t, d, L⟩, fpi, fpi, G.nSt hi, G.nSt hi, fun H1 e1 L1 => ?_⟩
    obtain ⟨dx, f', r, l, s', t, d, L1⟩ := L1
    obtain ⟨ps, hl, hp⟩ := L1.p.l
    have ln : ps.length = v.strengths.length := paired_len hp
    have hz : (100 : Nat) ≤ sizeLine := by decide
    refine ⟨_, rfl, a, C, dx, _, _, rfl, L1.at_, T.cl, T.n_strengths, lF_strengths, _, rfl, _, rfl, l, _, rfl, SqL.of hl, fun d1 n1 => ?_⟩
    rw [cut_to]
    have s5 := same_new (o := .lst ((ps.map V.ref).take i)) n1
    refine ⟨_, rfl, a, C, dx, _, _, rfl, s5 _ _ L1.at_, T.cl, T.n_strengths, lF_strengths, _, rfl, _, _, rfl, rfl, _, rfl, l, _, rfl, SqL.of (s5 _ _ hl), fun d4 n4 => ?_⟩
    have ei : ((i : Nat) : Int) + 1 = ((i + 1 : Nat) : Int) := by omega
    rw [ei]
    rw [cut_from]
    have s8 := same_new (o := .lst ((ps.map V.ref).drop (i + 1))) n4
    refine ⟨d1, d4, _, _, rfl, rfl, s8 _ _ upd_same, upd_same, by rw [List.length_take, List.length_drop, List.length_map]; omega, fun d5 n5 => ?_⟩
    have s9 := same_new (o := .lst ((ps.map V.ref).take i ++ (ps.map V.ref).drop (i + 1))) n5
    have s59 := (s5.trans s8).trans s9
    have a9 := s59 _ _ L1.at_
    refine ⟨_, rfl, a, C, dx, _, rfl, a9, T.cl, T.n_strengths, lF_len, ?_⟩
    rw [lP_strengths]
    refine k _ ((e1.trans (But.of s59)).trans But.upd) ?_
    have P9 := fun o => (L1.p.same s59).at_ a9 o
    refine ⟨dx, f', r, d5, s', t, d, upd_same, (P9 _).f, (P9 _).r, ⟨ps.take i ++ ps.drop (i + 1), ?_, ?_⟩, (P9 _).s, (P9 _).t, (P9 _).d⟩
    · rw [upd_ne (ne_of upd_same a9 (by intro z; cases z)), upd_same, List.map_append, List.map_take, List.map_drop]
    · show Paired _ _ (v.strengths.eraseIdx i)
      rw [List.eraseIdx_eq_take_drop_succ]
      have hp9 : ∀ o, Paired (Fr K (upd _ a o)) ps v.strengths := fun o => Paired.mapP hp fun _ _ z => (z.same s59).at_ a9 o
      exact paired_app (paired_take i (hp9 _)) (paired_drop (i + 1) (hp9 _))
end
end Tan
end
section
namespace Tan
open PySem PySem.Spec PyProof.Rows L2
/-! ### operations that change a line -/
def opS (v : Kp395.Line) (c : Kp395.Call) : Kp395.Line := (Kp395.step (some v) c).1.getD v
def opA (v : Kp395.Line) (c : Kp395.Call) : List Int := (Kp395.step (some v) c).2.num :: (Kp395.step (some v) c).2.nums
/-- hands back the answer's numbers, leaves the line as v -/
abbrev RetO (K : PySem.W.Frag) (C : Addr) (a : Addr) (H : Hp) (Q : VK) (v : Kp395.Line) (ns : List Int) : Prop := ∀ H' p, But a H H' → LineAt K C H' a v → H p = none → H' p = some (.lst (ns.map V.int)) → Q (.ref p) H'
theorem RetO.of {K : PySem.W.Frag} {C a : Addr} {H : Hp} {Q : VK} {v v' : Kp395.Line} {c : Kp395.Call} {r : Kp395.Ans} (e : Kp395.step (some v) c = (some v', r)) (k : RetO K C a H Q (opS v c) (opA v c)) : RetO K C a H Q v' (r.num :: r.nums) := by
  unfold opS opA at k
  rw [e] at k
  exact k
theorem But.free {K : PySem.W.Frag} {C a p : Addr} {H H1 : Hp} {v : Kp395.Line} (e : But a H H1) (L : LineAt K C H1 a v) (hp : H1 p = none) : H p = none := by
  obtain ⟨dx, f, r, l, s, t, d, L⟩ := L
  cases q : H p with
  | none => rfl
  | some o =>
    have z := e p o q (ne_of_none L.at_ hp).symm
    rw [hp] at z
    cases z
theorem fin_but {K : PySem.W.Frag} {C a r : Addr} {H H1 : Hp} {Q : VK} {v : Kp395.Line} {ns : List Int} (k : RetO K C a H Q v ns) (e : But a H H1) (L : LineAt K C H1 a v) (hr : H1 r = none) : Q (.ref r) (upd H1 r (.lst (ns.map V.int))) :=
  k _ r (e.trans (But.of (same_new hr))) (L.same (same_new hr)) (But.free e L hr) upd_same
theorem fin_new {K : PySem.W.Frag} {C a r : Addr} {H H1 : Hp} {Q : VK} {v : Kp395.Line} {ns : List Int} (k : RetO K C a H Q v ns) (s : Same H H1) (L : LineAt K C H a v) (hr : H1 r = none) : Q (.ref r) (upd H1 r (.lst (ns.map V.int))) :=
  fin_but k (But.of s) (L.same s) hr
theorem strength_valid (x y : Nat) : (decide ((x : Int) ≤ 100) && (decide (1 ≤ (y : Int)) && decide ((y : Int) ≤ 100))) = Kp395.validFraction x y := by
  unfold Kp395.validFraction
  rw [Bool.and_assoc, decide_eq_decide.mpr (show ((x : Int) ≤ 100) ↔ x ≤ 100 by omega), decide_eq_decide.mpr (show ((1 : Int) ≤ (y : Int)) ↔ 1 ≤ y by omega), decide_eq_decide.mpr (show ((y : Int) ≤ 100) ↔ y ≤ 100 by omega)]
theorem pits_valid (n : Nat) : (decide (1 ≤ (n : Int)) && decide ((n : Int) ≤ 6)) = Kp395.validPits n := by
  unfold Kp395.validPits Kp395.maxPits
  rw [decide_eq_decide.mpr (show ((1 : Int) ≤ (n : Int)) ↔ 1 ≤ n by omega), decide_eq_decide.mpr (show ((n : Int) ≤ 6) ↔ n ≤ 6 by omega)]
theorem days_valid (n : Nat) : (decide (1 ≤ (n : Int)) && decide ((n : Int) ≤ 24)) = Kp395.validDays n := by
  unfold Kp395.validDays Kp395.maxDays
  rw [decide_eq_decide.mpr (show ((1 : Int) ≤ (n : Int)) ↔ 1 ≤ n by omega), decide_eq_decide.mpr (show ((n : Int) ≤ 24) ↔ n ≤ 24 by omega)]
theorem amount_valid (n : Nat) : (decide (1 ≤ (n : Int)) && decide ((n : Int) ≤ 50)) = Kp395.validAmount n := by
  unfold Kp395.validAmount
  rw [decide_eq_decide.mpr (show ((1 : Int) ≤ (n : Int)) ↔ 1 ≤ n by omega), decide_eq_decide.mpr (show ((n : Int) ≤ 50) ↔ n ≤ 50 by omega)]
theorem lt_2_9000 {n k : Nat} (h : n ≤ 100) : ((n : Nat) : Int).natAbs < 2 ^ 9000 := lt9 (k := 7) (small7 h) (by decide)
/-- a new list of one number -/
theorem RetO.one {K : PySem.W.Frag} {C a p : Addr} {H : Hp} {Q : VK} {v : Kp395.Line} {i : Int} (L : LineAt K C H a v) (k : RetO K C a H Q v [i]) (hp : H p = none) : Q (.ref p) (upd H p (.lst [V.int i])) :=
  k _ p (But.of (same_new hp)) (L.same (same_new hp)) hp upd_same
def spOp2 (K : PySem.W.Frag) (C : Addr) (f : Nat → Nat → Kp395.Call) : Sp := fun vs H Q _ => ∃ (a : Addr) (v : Kp395.Line) (n x y : Nat), vs = [.ref a, .int (x : Int), .int (y : Int)] ∧ n ≤ 300 ∧ Good n v ∧ LineAt K C H a v ∧ RetO K C a H Q (opS v (f x y)) (opA v (f x y))
def spOp3 (K : PySem.W.Frag) (C : Addr) (f : Nat → Nat → Nat → Kp395.Call) : Sp := fun vs H Q _ => ∃ (a : Addr) (v : Kp395.Line) (n x y z : Nat), vs = [.ref a, .int (x : Int), .int (y : Int), .int (z : Int)] ∧ n ≤ 300 ∧ Good n v ∧ LineAt K C H a v ∧ RetO K C a H Q (opS v (f x y z)) (opA v (f x y z))
def spOp1 (K : PySem.W.Frag) (C : Addr) (f : Nat → Kp395.Call) : Sp := fun vs H Q _ => ∃ (a : Addr) (v : Kp395.Line) (n x : Nat), vs = [.ref a, .int (x : Int)] ∧ n ≤ 300 ∧ Good n v ∧ LineAt K C H a v ∧ RetO K C a H Q (opS v (f x)) (opA v (f x))
def spOp0 (K : PySem.W.Frag) (C : Addr) (c : Kp395.Call) : Sp := fun vs H Q _ => ∃ (a : Addr) (v : Kp395.Line) (n : Nat), vs = [.ref a] ∧ n ≤ 300 ∧ Good n v ∧ LineAt K C H a v ∧ RetO K C a H Q (opS v c) (opA v c)
theorem valid_den {x y : Nat} (h : Kp395.validFraction x y = true) : (0 : Int) < (y : Int) := by
  have := valid_frac h
  omega
section
variable {P : Program} {w : World} {K : PySem.W.Frag} {mg : Str → Option Value} {base : Heap} {C : Addr}
theorem ok_set_fresh (T : Txt K mg C) : Ok P w K mg base 3 "set_fresh" ["line", "num", "den"] (spOp2 K C .setFresh) := by
  obtain ⟨f, fd, F, g, b⟩ := T.d_set_fresh
  refine ⟨f, fd, F.ok cs_set_fresh (fun vs H Q E h => ?_) (fun cdv A outer s H vs Q E hr h => ⟨_,
      pss_cons (ps_if (pt_not (pt_val (pe_ok (ok_is_strength T) hr (pa_cons (pv 1) (pa_cons (pv 2) pa_nil))))) (pss_one (ps_ret (pe_lst (pa_cons (pe_k T.k_OUTSIDE) pa_nil)))) pss_nil)
      (pss_cons (ps_set (i := 3) cs_set_fresh.nd rfl (.inl rfl) (pe_fld (pv 0) rfl))
      (pss_cons (ps_expr (pe_okM (pv 0) T.cl (ok_put_fresh T) hr (pa_cons (pe_ok (ok_share T) hr (pa_cons (pv 1) (pa_cons (pv 2) pa_nil))) pa_nil)))
      (pss_one (ps_ret (pe_lst (pa_cons pe_int (pa_cons (pe_ix ix_tup (pv 3) pe_int (fun _ _ => rfl)) (pa_cons (pe_ix ix_tup (pv 3) pe_int (fun _ _ => rfl)) pa_nil)))))))), ?_⟩), g, F.kp, b⟩
  · obtain ⟨a, v, n, x, y, rfl, _⟩ := h
    rfl
  · obtain ⟨a, v, n, x, y, rfl, hn, G, LL', k⟩ := h
    refine ⟨_, rfl, _, rfl, _, _, rfl, _, rfl, ?_⟩
    rw [strength_valid]
    cases hv : Kp395.validFraction x y with
    | false =>
      refine iteT ⟨(by show 1 ≤ sizeLine; decide), fun p hp => ?_⟩
      exact RetO.one LL' (RetO.of (v' := v) (r := Kp395.single (-22)) (by show (if Kp395.validFraction x y = true then _ else _) = _; rw [hv]; rfl) k) hp
    | true =>
      refine iteF ?_
      have vf := valid_frac hv
      have k := RetO.of (v' := { v with fresh := Kp395.toRat x / Kp395.toRat y }) (r := Kp395.fractionResult v.fresh) (by show (if Kp395.validFraction x y = true then _ else _) = _; rw [hv]; rfl) k
      obtain ⟨dx, f', r, l, s', t, d, L⟩ := LL'
      refine ⟨_, rfl, a, C, dx, _, _, rfl, L.at_, T.cl, T.n_fresh, lF_fresh, ?_⟩
      refine ⟨_, rfl, a, dx, _, rfl, L.at_, lM_put_fresh, _, rfl, _, rfl, _, _, rfl, valid_den hv, lt_2_9000 (k := 0) vf.2.2, fun H1 p1 s1 f1 => ?_⟩
      rw [rat_nat, rat_nat] at f1
      have L1 := L.same s1
      refine ⟨a, p1, v, _, rfl, ⟨dx, f', r, l, s', t, d, L1⟩, f1, fun H2 e2 L2 => ?_⟩
      have fo := L1.p.f.but e2 L1.at_
      refine ⟨_, rfl, f', _, _, _, rfl, rfl, fo, rfl, _, rfl, f', _, _, _, rfl, rfl, fo, rfl, (by show 3 ≤ sizeLine; decide), fun p hp => ?_⟩
      exact fin_but k ((But.of s1).trans e2) L2 hp
theorem ok_set_raw (T : Txt K mg C) : Ok P w K mg base 3 "set_raw" ["line", "num", "den"] (spOp2 K C .setRaw) := by
  obtain ⟨f, fd, F, g, b⟩ := T.d_set_raw
  refine ⟨f, fd, F.ok cs_set_raw (fun vs H Q E h => ?_) (fun cdv A outer s H vs Q E hr h => ⟨_,
      pss_cons (ps_if (pt_not (pt_val (pe_ok (ok_is_strength T) hr (pa_cons (pv 1) (pa_cons (pv 2) pa_nil))))) (pss_one (ps_ret (pe_lst (pa_cons (pe_k T.k_OUTSIDE) pa_nil)))) pss_nil)
      (pss_cons (ps_set (i := 3) cs_set_raw.nd rfl (.inl rfl) (pe_fld (pv 0) rfl))
      (pss_cons (ps_expr (pe_okM (pv 0) T.cl (ok_put_raw T) hr (pa_cons (pe_ok (ok_share T) hr (pa_cons (pv 1) (pa_cons (pv 2) pa_nil))) pa_nil)))
      (pss_one (ps_ret (pe_lst (pa_cons pe_int (pa_cons (pe_ix ix_tup (pv 3) pe_int (fun _ _ => rfl)) (pa_cons (pe_ix ix_tup (pv 3) pe_int (fun _ _ => rfl)) pa_nil)))))))), ?_⟩), g, F.kp, b⟩
  · obtain ⟨a, v, n, x, y, rfl, _⟩ := h
    rfl
  · obtain ⟨a, v, n, x, y, rfl, hn, G, LL', k⟩ := h
    refine ⟨_, rfl, _, rfl, _, _, rfl, _, rfl, ?_⟩
    rw [strength_valid]
    cases hv : Kp395.validFraction x y with
    | false =>
      refine iteT ⟨(by show 1 ≤ sizeLine; decide), fun p hp => ?_⟩
      exact RetO.one LL' (RetO.of (v' := v) (r := Kp395.single (-22)) (by show (if Kp395.validFraction x y = true then _ else _) = _; rw [hv]; rfl) k) hp
    | true =>
      refine iteF ?_
      have vf := valid_frac hv
      have k := RetO.of (v' := { v with raw := Kp395.toRat x / Kp395.toRat y }) (r := Kp395.fractionResult v.raw) (by show (if Kp395.validFraction x y = true then _ else _) = _; rw [hv]; rfl) k
      obtain ⟨dx, f', r, l, s', t, d, L⟩ := LL'
      refine ⟨_, rfl, a, C, dx, _, _, rfl, L.at_, T.cl, T.n_raw, lF_raw, ?_⟩
      refine ⟨_, rfl, a, dx, _, rfl, L.at_, lM_put_raw, _, rfl, _, rfl, _, _, rfl, valid_den hv, lt_2_9000 (k := 0) vf.2.2, fun H1 p1 s1 f1 => ?_⟩
      rw [rat_nat, rat_nat] at f1
      have L1 := L.same s1
      refine ⟨a, p1, v, _, rfl, ⟨dx, f', r, l, s', t, d, L1⟩, f1, fun H2 e2 L2 => ?_⟩
      have fo := L1.p.r.but e2 L1.at_
      refine ⟨_, rfl, r, _, _, _, rfl, rfl, fo, rfl, _, rfl, r, _, _, _, rfl, rfl, fo, rfl, (by show 3 ≤ sizeLine; decide), fun p hp => ?_⟩
      exact fin_but k ((But.of s1).trans e2) L2 hp
theorem pit_some {v : Kp395.Line} {i : Nat} (h : i < v.strengths.length) : Kp395.isPit v i = true := decide_eq_true h
theorem pit_none {v : Kp395.Line} {i : Nat} (h : ¬ i < v.strengths.length) : Kp395.isPit v i = false := decide_eq_false h
theorem ok_set_strength (T : Txt K mg C) : Ok P w K mg base 5 "set_strength" ["line", "pit", "num", "den"] (spOp3 K C .setStrength) := by
  obtain ⟨f, fd, F, g, b⟩ := T.d_set_strength
  refine ⟨f, fd, F.ok cs_set_strength (fun vs H Q E h => ?_) (fun cdv A outer s H vs Q E hr h => ⟨_,
      pss_cons (ps_if (pt_cmpR op_ge (pv 1) (pe_callB call_len_seq (by rfl) T.b_len PySem.boot_len (pa_cons (pe_fld (pv 0) rfl) pa_nil)) (nomark _)) (pss_one (ps_ret (pe_lst (pa_cons (pe_k T.k_NO_PIT) pa_nil)))) pss_nil)
      (pss_cons (ps_if (pt_not (pt_val (pe_ok (ok_is_strength T) hr (pa_cons (pv 2) (pa_cons (pv 3) pa_nil))))) (pss_one (ps_ret (pe_lst (pa_cons (pe_k T.k_OUTSIDE) pa_nil)))) pss_nil)
      (pss_cons (ps_set (i := 4) cs_set_strength.nd rfl (.inl rfl) (pe_ix ix_list (pe_fld (pv 0) rfl) (pv 1) (fun _ _ => rfl)))
      (pss_cons (ps_expr (pe_okM (pv 0) T.cl (ok_put_strength T) hr (pa_cons (pv 1) (pa_cons (pe_ok (ok_share T) hr (pa_cons (pv 2) (pa_cons (pv 3) pa_nil))) pa_nil))))
      (pss_one (ps_ret (pe_lst (pa_cons pe_int (pa_cons (pe_ix ix_tup (pv 4) pe_int (fun _ _ => rfl)) (pa_cons (pe_ix ix_tup (pv 4) pe_int (fun _ _ => rfl)) pa_nil))))))))), ?_⟩), g, F.kp, b⟩
  · obtain ⟨a, v, n, i, x, y, rfl, _⟩ := h
    rfl
  · obtain ⟨a, v, n, i, x, y, rfl, hn, G, LL', k⟩ := h
    obtain ⟨dx, f', r, l, s', t, d, L⟩ := LL'
    obtain ⟨xs, hxs, lxs⟩ := L.p.l.len
    refine ⟨_, rfl, _, rfl, a, C, dx, _, _, rfl, L.at_, T.cl, T.n_strengths, lF_strengths, l, _, rfl, .inl (SqL.of hxs), _, _, rfl, rfl, _, rfl, ?_⟩
    by_cases hi : i < v.strengths.length
    · rw [decide_eq_false (show ¬ ((xs.length : Nat) : Int) ≤ (i : Int) by omega)]
      refine iteF ?_
      have hp := pit_some hi
      refine ⟨_, rfl, _, rfl, _, _, rfl, _, rfl, ?_⟩
      rw [strength_valid]
      cases hv : Kp395.validFraction x y with
      | false =>
        refine iteT ⟨(by show 1 ≤ sizeLine; decide), fun p hp' => ?_⟩
        exact RetO.one ⟨dx, f', r, l, s', t, d, L⟩ (RetO.of (v' := v) (r := Kp395.single (-22)) (by show (if Kp395.isPit v i = false then _ else if Kp395.validFraction x y = true then _ else _) = _; rw [hv, hp]; rfl) k) hp'
      | true =>
        refine iteF ?_
        have vf := valid_frac hv
        have k := RetO.of (v' := { v with strengths := v.strengths.set i (Kp395.toRat x / Kp395.toRat y), supplied := v.supplied + Kp395.toRat (v.liquor + v.lot) * (Kp395.toRat x / Kp395.toRat y - Kp395.strengthAt v i) }) (r := Kp395.fractionResult (Kp395.strengthAt v i))
          (by show (if Kp395.isPit v i = false then _ else if Kp395.validFraction x y = true then _ else _) = _; rw [hv, hp]; rfl) k
        obtain ⟨xs, pi, hxs, lxs, hpi, fpi⟩ := L.p.l.get hi
        refine ⟨_, rfl, a, C, dx, _, _, rfl, L.at_, T.cl, T.n_strengths, lF_strengths, _, rfl, l, _, _, _, rfl, rfl, SqL.of hxs, atI_nat hpi, ?_⟩
        refine ⟨_, rfl, a, dx, _, rfl, L.at_, lM_put_strength, _, rfl, _, rfl, _, rfl, _, _, rfl, valid_den hv, lt_2_9000 (k := 0) vf.2.2, fun H1 p1 s1 f1 => ?_⟩
        rw [rat_nat, rat_nat] at f1
        have L1 := L.same s1
        refine ⟨a, p1, v, n, i, _, rfl, hn, G, ⟨dx, f', r, l, s', t, d, L1⟩, f1, frac_of vf.1 vf.2.1 vf.2.2, hi, fun H2 e2 L2 => ?_⟩
        have fo := (fpi.same s1).but e2 L1.at_
        refine ⟨_, rfl, pi, _, _, _, rfl, rfl, fo, rfl, _, rfl, pi, _, _, _, rfl, rfl, fo, rfl, (by show 3 ≤ sizeLine; decide), fun p hp => ?_⟩
        exact fin_but k ((But.of s1).trans e2) L2 hp
    · rw [decide_eq_true (show ((xs.length : Nat) : Int) ≤ (i : Int) by omega)]
      refine iteT ⟨(by show 1 ≤ sizeLine; decide), fun p hp => ?_⟩
      exact RetO.one ⟨dx, f', r, l, s', t, d, L⟩ (RetO.of (v' := v) (r := Kp395.single (-2)) (by show (if Kp395.isPit v i = false then _ else _) = _; rw [pit_none hi]; rfl) k) hp
theorem ok_run_day (T : Txt K mg C) : Ok P w K mg base 6 "run_day" ["line"] (spOp0 K C .runDay) := by
  obtain ⟨f, fd, F, g, b⟩ := T.d_run_day
  refine ⟨f, fd, F.ok cs_run_day (fun vs H Q E h => ?_) (fun cdv A outer s H vs Q E hr h => ⟨_,
      pss_cons (ps_if (pt_cmpR op_ge (pe_fld (pv 0) rfl) (pe_k T.k_MOST_DAYS) (nomark _)) (pss_one (ps_ret (pe_lst (pa_cons (pe_k T.k_TOO_MUCH) pa_nil)))) pss_nil)
      (pss_cons (ps_par (i := 1) (j := 2) rfl cs_run_day.nd rfl rfl (by decide) rfl rfl (pa_cons (pe_ix ix_list (pe_fld (pv 0) rfl) (pe_op op_sub (pe_callB call_len_seq (by rfl) T.b_len PySem.boot_len (pa_cons (pe_fld (pv 0) rfl) pa_nil)) pe_int) (fun _ _ => rfl)) (pa_cons (pe_ix ix_list (pe_fld (pv 0) rfl) pe_int (fun _ _ => rfl)) pa_nil)) (by rfl))
      (pss_cons (ps_expr (pe_okM0 (pv 0) T.cl (ok_pass_day T) hr))
      (pss_one (ps_ret (pe_lst (pa_cons pe_int (pa_cons (pe_ix ix_tup (pv 1) pe_int (fun _ _ => rfl)) (pa_cons (pe_ix ix_tup (pv 1) pe_int (fun _ _ => rfl)) (pa_cons (pe_ix ix_tup (pv 2) pe_int (fun _ _ => rfl)) (pa_cons (pe_ix ix_tup (pv 2) pe_int (fun _ _ => rfl)) pa_nil)))))))))), ?_⟩), g, F.kp, b⟩
  · obtain ⟨a, v, n, rfl, _⟩ := h
    rfl
  · obtain ⟨a, v, n, rfl, hn, G, LL', k⟩ := h
    obtain ⟨dx, f', r, l, s', t, d, L⟩ := LL'
    refine ⟨_, rfl, a, C, dx, _, _, rfl, L.at_, T.cl, T.n_days, lF_days, _, _, rfl, rfl, _, rfl, ?_⟩
    by_cases hd : Kp395.maxDays ≤ v.days
    · have hd' : 24 ≤ v.days := hd
      rw [decide_eq_true (show (24 : Int) ≤ (v.days : Int) by omega)]
      refine iteT ⟨(by show 1 ≤ sizeLine; decide), fun p hp => ?_⟩
      exact RetO.one ⟨dx, f', r, l, s', t, d, L⟩ (RetO.of (v' := v) (r := Kp395.single (-28)) (by show (if Kp395.maxDays ≤ v.days then _ else _) = _; rw [if_pos hd]) k) hp
    · have hd' : ¬ 24 ≤ v.days := hd
      rw [decide_eq_false (show ¬ (24 : Int) ≤ (v.days : Int) by omega)]
      refine iteF ?_
      have k := RetO.of (v' := Kp395.runDay v) (r := ⟨0, Kp395.fraction (Kp395.lastStrength v) ++ Kp395.fraction (Kp395.firstStrength v)⟩) (by show (if Kp395.maxDays ≤ v.days then _ else _) = _; rw [if_neg hd]) k
      have n0 := G.n0
      obtain ⟨xs, pl, hxs, lxs, hpl, fpl⟩ := L.p.l.get (i := v.strengths.length - 1) (by omega)
      obtain ⟨xs', ph, hxs', lxs', hph, fph⟩ := L.p.l.get (i := 0) (by omega)
      refine ⟨_, rfl, a, C, dx, _, _, rfl, L.at_, T.cl, T.n_strengths, lF_strengths, ?_⟩
      refine ⟨_, rfl, a, C, dx, _, _, rfl, L.at_, T.cl, T.n_strengths, lF_strengths, l, _, rfl, .inl (SqL.of hxs), _, _, rfl, rfl, ?_⟩
      refine ⟨l, _, _, _, rfl, rfl, SqL.of hxs, at_of (j := v.strengths.length - 1) (by rw [lxs]; omega) hpl, ?_⟩
      refine ⟨_, rfl, a, C, dx, _, _, rfl, L.at_, T.cl, T.n_strengths, lF_strengths, l, _, _, _, rfl, rfl, SqL.of hxs', at_of (j := 0) rfl hph, ?_⟩
      refine ⟨_, _, rfl, ?_⟩
      refine ⟨_, rfl, a, dx, _, rfl, L.at_, lM_pass_day, a, v, n, rfl, hn, G, ⟨dx, f', r, l, s', t, d, L⟩, fun H2 e2 L2 => ?_⟩
      have fl := fpl.but e2 L.at_
      have fh := fph.but e2 L.at_
      refine ⟨_, rfl, pl, _, _, _, rfl, rfl, fl, rfl, _, rfl, pl, _, _, _, rfl, rfl, fl, rfl, _, rfl, ph, _, _, _, rfl, rfl, fh, rfl, _, rfl, ph, _, _, _, rfl, rfl, fh, rfl, (by show 5 ≤ sizeLine; decide), fun p hp => ?_⟩
      refine k _ p (e2.trans (But.of (same_new hp))) (L2.same (same_new hp)) (But.free e2 L2 hp) ?_
      rw [upd_same]
      show _ = some (HO.lst (List.map V.int (0 :: (Kp395.fraction (v.strengths.getLastD 0) ++ Kp395.fraction (v.strengths.headD 0)))))
      rw [last_getD n0, head_getD]
      rfl
theorem ok_run_days (T : Txt K mg C) : Ok P w K mg base 6 "run_days" ["line", "count"] (spOp1 K C .runDays) := by
  obtain ⟨f, fd, F, g, b⟩ := T.d_run_days
  refine ⟨f, fd, F.ok cs_run_days (fun vs H Q E h => ?_) (fun cdv A outer s H vs Q E hr h => ⟨_,
      pss_cons (ps_if (pt_not (pt_val (pe_ok (ok_is_day_count T) hr (pa_cons (pv 1) pa_nil)))) (pss_one (ps_ret (pe_lst (pa_cons (pe_k T.k_OUTSIDE) pa_nil)))) pss_nil)
      (pss_cons (ps_if (pt_cmpR op_gt (pe_op op_add (pe_fld (pv 0) rfl) (pv 1)) (pe_k T.k_MOST_DAYS) (nomark _)) (pss_one (ps_ret (pe_lst (pa_cons (pe_k T.k_TOO_MUCH) pa_nil)))) pss_nil)
      (pss_cons (ps_for PassesOwn.never rfl (pi_range1 rfl T.b_range (pa_cons (pv 1) pa_nil)) (pg_name (i := 2) cs_run_days.nd rfl (.inl rfl)) (pss_one (ps_expr (pe_okM0 (pv 0) T.cl (ok_pass_day T) hr))))
      (pss_one (ps_ret (pe_ok (ok_told_strengths T) hr (pa_cons (pe_fld (pv 0) rfl) pa_nil)))))), ?_⟩), g, F.kp, b⟩
  · obtain ⟨a, v, n, x, rfl, _⟩ := h
    rfl
  · obtain ⟨a, v, n, x, rfl, hn, G, LL', k⟩ := h
    refine ⟨_, rfl, _, rfl, _, rfl, ?_⟩
    rw [days_valid]
    cases hv : Kp395.validDays x with
    | false =>
      refine iteT ⟨(by show 1 ≤ sizeLine; decide), fun p hp => ?_⟩
      exact RetO.one LL' (RetO.of (v' := v) (r := Kp395.single (-22)) (by show (if Kp395.validDays x = false then _ else _) = _; rw [hv]; rfl) k) hp
    | true =>
      refine iteF ?_
      obtain ⟨dx, f', r, l, s', t, d, L⟩ := LL'
      refine ⟨_, rfl, a, C, dx, _, _, rfl, L.at_, T.cl, T.n_days, lF_days, _, rfl, _, _, rfl, rfl, _, _, rfl, rfl, _, rfl, ?_⟩
      by_cases hd : Kp395.maxDays < v.days + x
      · have hd' : 24 < v.days + x := hd
        rw [decide_eq_true (show (24 : Int) < (v.days : Int) + (x : Int) by omega)]
        refine iteT ⟨(by show 1 ≤ sizeLine; decide), fun p hp => ?_⟩
        exact RetO.one ⟨dx, f', r, l, s', t, d, L⟩ (RetO.of (v' := v) (r := Kp395.single (-28)) (by show (if Kp395.validDays x = false then _ else if Kp395.maxDays < v.days + x then _ else _) = _; rw [hv, if_pos hd]; rfl) k) hp
      · have hd' : ¬ 24 < v.days + x := hd
        rw [decide_eq_false (show ¬ (24 : Int) < (v.days : Int) + (x : Int) by omega)]
        refine iteF ?_
        have k := RetO.of (v' := Kp395.runDays v x) (r := Kp395.fractionsResult (Kp395.runDays v x).strengths) (by show (if Kp395.validDays x = false then _ else if Kp395.maxDays < v.days + x then _ else _) = _; rw [hv, if_neg hd]; rfl) k
        refine ⟨_, rfl, _, rfl, by omega, by omega, ?_⟩
        rw [Int.toNat_natCast]
        refine for_range (lo := 0) (n := x) (fun i σ H' => ∃ u : Option V, σ = [some (.ref a), some (.int (x : Int)), u] ∧ But a H H' ∧ LineAt K C H' a (Kp395.runDays v i)) ⟨none, rfl, But.refl a H, ⟨dx, f', r, l, s', t, d, L⟩⟩ ?_ ?_
        · rintro i σ H' hi ⟨u, rfl, e1, L1⟩
          have G1 := good_days G i (by omega)
          obtain ⟨dx, f', r, l, s', t, d, L1⟩ := L1
          refine ⟨_, rfl, a, dx, _, rfl, L1.at_, lM_pass_day, a, _, n, rfl, hn, G1, ⟨dx, f', r, l, s', t, d, L1⟩, fun H2 e2 L2 => ?_⟩
          rw [← days_succ] at L2
          exact ⟨_, rfl, e1.trans e2, L2⟩
        · rintro σ H' ⟨u, rfl, e1, L1⟩
          have n6 : (Kp395.runDays v x).strengths.length ≤ 6 := by
            rw [days_len]
            exact G.n1
          obtain ⟨dx, f', r, l, s', t, d, L1⟩ := L1
          refine ⟨_, rfl, a, C, dx, _, _, rfl, L1.at_, T.cl, T.n_strengths, lF_strengths, l, _, rfl, L1.p.l, by omega, fun H2 p s2 n2 h2 => ?_⟩
          exact k _ p (e1.trans (But.of s2)) (LineAt.same s2 ⟨dx, f', r, l, s', t, d, L1⟩) (But.free e1 ⟨dx, f', r, l, s', t, d, L1⟩ n2) h2
theorem ok_add_pit (T : Txt K mg C) : Ok P w K mg base 2 "add_pit" ["line"] (spOp0 K C .addPit) := by
  obtain ⟨f, fd, F, g, b⟩ := T.d_add_pit
  refine ⟨f, fd, F.ok cs_add_pit (fun vs H Q E h => ?_) (fun cdv A outer s H vs Q E hr h => ⟨_,
      pss_cons (ps_if (pt_cmpR op_ge (pe_callB call_len_seq (by rfl) T.b_len PySem.boot_len (pa_cons (pe_fld (pv 0) rfl) pa_nil)) (pe_k T.k_MOST_PITS) (nomark _)) (pss_one (ps_ret (pe_lst (pa_cons (pe_k T.k_TOO_MUCH) pa_nil)))) pss_nil)
      (pss_cons (ps_expr (pe_okM0 (pv 0) T.cl (ok_add_last T) hr))
      (pss_one (ps_ret (pe_lst (pa_cons (pe_callB call_len_seq (by rfl) T.b_len PySem.boot_len (pa_cons (pe_fld (pv 0) rfl) pa_nil)) pa_nil))))), ?_⟩), g, F.kp, b⟩
  · obtain ⟨a, v, n, rfl, _⟩ := h
    rfl
  · obtain ⟨a, v, n, rfl, hn, G, LL', k⟩ := h
    obtain ⟨dx, f', r, l, s', t, d, L⟩ := LL'
    obtain ⟨xs, hxs, lxs⟩ := L.p.l.len
    refine ⟨_, rfl, a, C, dx, _, _, rfl, L.at_, T.cl, T.n_strengths, lF_strengths, l, _, rfl, .inl (SqL.of hxs), _, _, rfl, rfl, _, rfl, ?_⟩
    by_cases hd : Kp395.maxPits ≤ Kp395.pitCount v
    · have hd' : 6 ≤ v.strengths.length := hd
      rw [decide_eq_true (show (6 : Int) ≤ ((xs.length : Nat) : Int) by omega)]
      refine iteT ⟨(by show 1 ≤ sizeLine; decide), fun p hp => ?_⟩
      exact RetO.one ⟨dx, f', r, l, s', t, d, L⟩ (RetO.of (v' := v) (r := Kp395.single (-28)) (by show (if Kp395.maxPits ≤ Kp395.pitCount v then _ else _) = _; rw [if_pos hd]) k) hp
    · have hd' : ¬ 6 ≤ v.strengths.length := hd
      rw [decide_eq_false (show ¬ (6 : Int) ≤ ((xs.length : Nat) : Int) by omega)]
      refine iteF ?_
      have k := RetO.of (v' := { v with strengths := v.strengths ++ [0] }) (r := Kp395.single (Kp395.pitCount v + 1 : Nat)) (by show (if Kp395.maxPits ≤ Kp395.pitCount v then _ else _) = _; rw [if_neg hd]) k
      refine ⟨_, rfl, a, dx, _, rfl, L.at_, lM_add_last, a, v, rfl, G.n1, ⟨dx, f', r, l, s', t, d, L⟩, fun H2 e2 L2 => ?_⟩
      obtain ⟨dx, f', r, l, s', t, d, L2⟩ := L2
      obtain ⟨xs, hxs, lxs⟩ := L2.p.l.len
      have lxs : xs.length = v.strengths.length + 1 := by rw [lxs, List.length_append]; rfl
      refine ⟨_, rfl, a, C, dx, _, _, rfl, L2.at_, T.cl, T.n_strengths, lF_strengths, l, _, rfl, .inl (SqL.of hxs), (by show 1 ≤ sizeLine; decide), fun p hp => ?_⟩
      refine k _ p (e2.trans (But.of (same_new hp))) (LineAt.same (same_new hp) ⟨dx, f', r, l, s', t, d, L2⟩) (But.free e2 (v := _) ⟨dx, f', r, l, s', t, d, L2⟩ hp) ?_
      rw [upd_same, lxs]
      rfl
theorem ok_remove_pit (T : Txt K mg C) : Ok P w K mg base 6 "remove_pit" ["line", "pit"] (spOp1 K C .removePit) := by
  obtain ⟨f, fd, F, g, b⟩ := T.d_remove_pit
  refine ⟨f, fd, F.ok cs_remove_pit (fun vs H Q E h => ?_) (fun cdv A outer s H vs Q E hr h => ⟨_,
      pss_cons (ps_if (pt_cmpR op_ge (pv 1) (pe_callB call_len_seq (by rfl) T.b_len PySem.boot_len (pa_cons (pe_fld (pv 0) rfl) pa_nil)) (nomark _)) (pss_one (ps_ret (pe_lst (pa_cons (pe_k T.k_NO_PIT) pa_nil)))) pss_nil)
      (pss_cons (ps_if (pt_cmpR op_eq (pe_callB call_len_seq (by rfl) T.b_len PySem.boot_len (pa_cons (pe_fld (pv 0) rfl) pa_nil)) pe_int (nomark _)) (pss_one (ps_ret (pe_lst (pa_cons (pe_k T.k_NOT_THERE) pa_nil)))) pss_nil)
      (pss_cons (ps_expr (pe_okM (pv 0) T.cl (ok_take_pit T) hr (pa_cons (pv 1) pa_nil)))
      (pss_one (ps_ret (pe_lst (pa_cons (pe_callB call_len_seq (by rfl) T.b_len PySem.boot_len (pa_cons (pe_fld (pv 0) rfl) pa_nil)) pa_nil)))))), ?_⟩), g, F.kp, b⟩
  · obtain ⟨a, v, n, i, rfl, _⟩ := h
    rfl
  · obtain ⟨a, v, n, i, rfl, hn, G, LL', k⟩ := h
    obtain ⟨dx, f', r, l, s', t, d, L⟩ := LL'
    obtain ⟨xs, hxs, lxs⟩ := L.p.l.len
    refine ⟨_, rfl, _, rfl, a, C, dx, _, _, rfl, L.at_, T.cl, T.n_strengths, lF_strengths, l, _, rfl, .inl (SqL.of hxs), _, _, rfl, rfl, _, rfl, ?_⟩
    by_cases hi : i < v.strengths.length
    · rw [decide_eq_false (show ¬ ((xs.length : Nat) : Int) ≤ (i : Int) by omega)]
      refine iteF ?_
      have hp := pit_some hi
      refine ⟨_, rfl, a, C, dx, _, _, rfl, L.at_, T.cl, T.n_strengths, lF_strengths, l, _, rfl, .inl (SqL.of hxs), rfl, _, rfl, ?_⟩
      by_cases h1 : Kp395.pitCount v = 1
      · have h1' : v.strengths.length = 1 := h1
        rw [decide_eq_true (show V.int ((xs.length : Nat) : Int) = V.int 1 by rw [lxs, h1']; rfl)]
        refine iteT ⟨(by show 1 ≤ sizeLine; decide), fun p hp' => ?_⟩
        exact RetO.one ⟨dx, f', r, l, s', t, d, L⟩ (RetO.of (v' := v) (r := Kp395.single (-33)) (by show (if Kp395.isPit v i = false then _ else if Kp395.pitCount v = 1 then _ else _) = _; rw [hp, if_pos h1]; rfl) k) hp'
      · have h1' : ¬ v.strengths.length = 1 := h1
        rw [decide_eq_false (show ¬ V.int ((xs.length : Nat) : Int) = V.int 1 from fun z => h1' (by have := V.int.inj z; omega))]
        refine iteF ?_
        have k := RetO.of (v' := { v with strengths := v.strengths.eraseIdx i, tanned := v.tanned + Kp395.toRat v.lot * Kp395.strengthAt v i, discharged := v.discharged + Kp395.toRat v.liquor * Kp395.strengthAt v i }) (r := Kp395.single (Kp395.pitCount v - 1 : Nat))
          (by show (if Kp395.isPit v i = false then _ else if Kp395.pitCount v = 1 then _ else _) = _; rw [hp, if_neg h1]; rfl) k
        refine ⟨_, rfl, a, dx, _, rfl, L.at_, lM_take_pit, _, rfl, a, v, n, i, rfl, hn, G, ⟨dx, f', r, l, s', t, d, L⟩, hi, fun H2 e2 L2 => ?_⟩
        obtain ⟨dx, f', r, l, s', t, d, L2⟩ := L2
        obtain ⟨xs, hxs, lxs⟩ := L2.p.l.len
        have lxs : xs.length = v.strengths.length - 1 := by rw [lxs]; exact List.length_eraseIdx_of_lt hi
        refine ⟨_, rfl, a, C, dx, _, _, rfl, L2.at_, T.cl, T.n_strengths, lF_strengths, l, _, rfl, .inl (SqL.of hxs), (by show 1 ≤ sizeLine; decide), fun p hp => ?_⟩
        refine k _ p (e2.trans (But.of (same_new hp))) (LineAt.same (same_new hp) ⟨dx, f', r, l, s', t, d, L2⟩) (But.free e2 (v := _) ⟨dx, f', r, l, s', t, d, L2⟩ hp) ?_
        rw [upd_same, lxs]
        rfl
    · rw [decide_eq_true (show ((xs.length : Nat) : Int) ≤ (i : Int) by omega)]
      refine iteT ⟨(by show 1 ≤ sizeLine; decide), fun p hp => ?_⟩
      exact RetO.one ⟨dx, f', r, l, s', t, d, L⟩ (RetO.of (v' := v) (r := Kp395.single (-2)) (by show (if Kp395.isPit v i = false then _ else _) = _; rw [pit_none hi]; rfl) k) hp
end
end Tan
end
section
namespace Tan
open Kp395
/-! ### powers and parts -/
def pw (b n : Nat) : List Int := (List.range (n + 1)).map fun i => ((b : Int)) ^ i
theorem pw_zero (b : Nat) : pw b 0 = [1] := by simp [pw]
theorem pw_succ (b n : Nat) : pw b (n + 1) = pw b n ++ [(b : Int) ^ (n + 1)] := by
  unfold pw
  rw [List.range_succ, List.map_append]
  rfl
theorem pw_get {b n i : Nat} (h : i ≤ n) : (pw b n)[i]? = some ((b : Int) ^ i) := by
  unfold pw
  rw [List.getElem?_map, List.getElem?_range (by omega)]
  rfl
theorem pw_len (b n : Nat) : (pw b n).length = n + 1 := by simp [pw]
def prt (n p l : Nat) : List Int := (List.range (n + 1)).map fun i => (l : Int) ^ i * (p : Int) ^ (n - i)
theorem prt_len (n p l : Nat) : (prt n p l).length = n + 1 := by simp [prt]
theorem prt_get {n p l i : Nat} (h : i ≤ n) : (prt n p l)[i]? = some ((l : Int) ^ i * (p : Int) ^ (n - i)) := by
  unfold prt
  rw [List.getElem?_map, List.getElem?_range (by omega)]
  rfl
theorem take_succ_get {α : Type} {l : List α} {i : Nat} {x : α} (h : l[i]? = some x) : l.take (i + 1) = l.take i ++ [x] := by
  rw [List.take_succ, h]
  rfl
def acc (n p l i : Nat) : Int := ((prt n p l).take i).sum
theorem acc_zero (n p l : Nat) : acc n p l 0 = 0 := rfl
theorem acc_succ {n p l i : Nat} (h : i ≤ n) : acc n p l (i + 1) = acc n p l i + (l : Int) ^ i * (p : Int) ^ (n - i) := by
  unfold acc
  rw [take_succ_get (prt_get h), List.sum_append]
  simp
theorem acc_cast {n p l : Nat} : ∀ i, i ≤ n → ((acc n p l (i + 1) : Int) : Rat) = (toRat p) ^ (n - i) * dd (toRat p) (toRat l) i
  | 0, h => by
    rw [acc_succ h, acc_zero]
    simp only [Int.zero_add, Int.pow_zero, Int.one_mul, Nat.sub_zero, dd]
    rw [Rat.intCast_pow, Rat.intCast_natCast, Rat.mul_one]
    rfl
  | i + 1, h => by
    rw [acc_succ h, Rat.intCast_add, acc_cast i (by omega), Rat.intCast_mul, Rat.intCast_pow, Rat.intCast_pow, Rat.intCast_natCast, Rat.intCast_natCast, dd_succ]
    have e : (toRat p) ^ (n - i) = (toRat p) ^ (n - (i + 1)) * toRat p := by
      rw [show n - i = (n - (i + 1)) + 1 by omega, Rat.pow_succ]
    rw [e]
    show toRat p ^ (n - (i + 1)) * toRat p * dd (toRat p) (toRat l) i + toRat l ^ (i + 1) * toRat p ^ (n - (i + 1)) = _
    grind
theorem sum_acc (n p l : Nat) : (prt n p l).sum = acc n p l (n + 1) := by
  unfold acc
  rw [List.take_of_length_le (by rw [prt_len]; exact Nat.le_refl _)]
theorem sum_cast (n p l : Nat) : (((prt n p l).sum : Int) : Rat) = dd (toRat p) (toRat l) n := by
  rw [sum_acc, acc_cast n (Nat.le_refl n), Nat.sub_self, Rat.pow_zero, Rat.one_mul]
theorem sum_pos {n p l : Nat} (hp : 0 < p) (hl : 0 < l) : 0 < (prt n p l).sum := by
  have h := dd_pos (cast_pos hp) (cast_pos hl) n
  rw [← sum_cast] at h
  exact Rat.intCast_pos.mp h
theorem term_le {n p l i : Nat} (hp : p ≤ 50) (hl : l ≤ 50) (h : i ≤ n) (hn : n ≤ 6) : 0 ≤ (l : Int) ^ i * (p : Int) ^ (n - i) ∧ (l : Int) ^ i * (p : Int) ^ (n - i) ≤ 15625000000 := by
  have e : (l : Int) ^ i * (p : Int) ^ (n - i) = ((l ^ i * p ^ (n - i) : Nat) : Int) := by
    rw [Int.natCast_mul, Int.natCast_pow, Int.natCast_pow]
  have a : l ^ i ≤ 50 ^ i := Nat.pow_le_pow_left hl i
  have b : p ^ (n - i) ≤ 50 ^ (n - i) := Nat.pow_le_pow_left hp (n - i)
  have c := Nat.mul_le_mul a b
  rw [← Nat.pow_add, show i + (n - i) = n by omega] at c
  have d : (50 : Nat) ^ n ≤ 50 ^ 6 := Nat.pow_le_pow_right (by decide) hn
  have f : (50 : Nat) ^ 6 = 15625000000 := by decide
  rw [e]
  omega
theorem acc_le {n p l : Nat} (hp : p ≤ 50) (hl : l ≤ 50) (hn : n ≤ 6) : ∀ i, i ≤ n + 1 → 0 ≤ acc n p l i ∧ acc n p l i ≤ 15625000000 * (i : Int)
  | 0, _ => by rw [acc_zero]; omega
  | i + 1, h => by
    have a := acc_le hp hl hn i (by omega)
    have b := term_le hp hl (show i ≤ n by omega) hn
    rw [acc_succ (by omega)]
    omega
theorem acc_lt {n p l : Nat} (hp : p ≤ 50) (hl : l ≤ 50) (hn : n ≤ 6) {i : Nat} (hi : i ≤ n + 1) : (acc n p l i).natAbs < 2 ^ 40 := by
  have a := acc_le hp hl hn i hi
  have c : (2 : Nat) ^ 40 = 1099511627776 := by decide
  omega
theorem pow_lt {b i : Nat} (hb : b ≤ 50) (hi : i ≤ 6) : ((b : Int) ^ i).natAbs < 2 ^ 40 := by
  have a : b ^ i ≤ 50 ^ i := Nat.pow_le_pow_left hb i
  have d : (50 : Nat) ^ i ≤ 50 ^ 6 := Nat.pow_le_pow_right (by decide) hi
  have f : (50 : Nat) ^ 6 < 2 ^ 40 := by decide
  rw [Int.natAbs_pow, Int.natAbs_natCast]
  omega
/-- a strength of the steady state as the program reckons it -/
theorem xx_acc {n p l i : Nat} (hi : i < n) (f r : Rat) :
    xx (toRat p) (toRat l) f r n i = r + (((f - r).num * acc n p l (i + 1) : Int) : Rat) / ((((f - r).den : Int) * (prt n p l).sum : Int) : Rat) := by
  have hd := den_cast_ne (f - r)
  have hg := eq_div (f - r)
  rw [Rat.intCast_mul, Rat.intCast_mul, acc_cast i (by omega), sum_cast, Rat.intCast_natCast]
  unfold xx
  generalize hG : f - r = G at *
  generalize (G.num : Rat) = a at *
  generalize (G.den : Rat) = d at *
  generalize toRat p ^ (n - i) * dd (toRat p) (toRat l) i = u
  generalize dd (toRat p) (toRat l) n = w
  subst hg
  congr 1
  rw [Rat.div_def, Rat.div_def, Rat.div_def, Rat.inv_mul_rev]
  grind
/-! ### portions -/
def portStep (v : Line) (n : Nat) (b : Rat) : Rat := (toRat v.liquor / toRat n * v.fresh + toRat v.lot * b) / (toRat v.liquor / toRat n + toRat v.lot)
def portTo (v : Line) (n i : Nat) : Rat := (List.range i).foldl (fun (b : Rat) (_ : Nat) => portStep v n b) v.raw
theorem portTo_succ (v : Line) (n i : Nat) : portTo v n (i + 1) = portStep v n (portTo v n i) := by
  unfold portTo
  rw [List.range_succ, List.foldl_append]
  rfl
theorem port_mix {v : Line} {n : Nat} (hn : 0 < n) (hp : 0 < v.liquor) (hl : 0 < v.lot) (b : Rat) :
    portStep v n b = ((((v.liquor : Nat) : Int) : Rat) * v.fresh + (((n : Int) * (v.lot : Int) : Int) : Rat) * b) / ((((v.liquor : Nat) : Int) : Rat) + (((n : Int) * (v.lot : Int) : Int) : Rat)) := by
  rw [Rat.intCast_mul, Rat.intCast_natCast, Rat.intCast_natCast, Rat.intCast_natCast]
  have n0 : (0 : Rat) < (n : Rat) := Rat.natCast_pos.mpr hn
  have p0 : (0 : Rat) < (v.liquor : Rat) := Rat.natCast_pos.mpr hp
  have l0 : (0 : Rat) < (v.lot : Rat) := Rat.natCast_pos.mpr hl
  have s0 : (v.liquor : Rat) + (n : Rat) * (v.lot : Rat) ≠ 0 := by
    have := Rat.mul_pos n0 l0
    exact Rat.ne_of_gt (by grind)
  show (toRat v.liquor / toRat n * v.fresh + toRat v.lot * b) / (toRat v.liquor / toRat n + toRat v.lot) = _
  unfold toRat
  generalize (v.liquor : Rat) = p at *
  generalize (v.lot : Rat) = l at *
  generalize (n : Rat) = m at *
  generalize v.fresh = f
  have m0 : m ≠ 0 := Rat.ne_of_gt n0
  have e1 : p / m + l = (p + m * l) / m := by grind
  have e2 : p / m * f + l * b = (p * f + m * l * b) / m := by grind
  have t0 : (p + m * l) / m ≠ 0 := by
    rw [Rat.div_def]
    intro z
    rcases Rat.mul_eq_zero.mp z with z | z
    · exact s0 z
    · have := Rat.mul_inv_cancel m m0
      rw [z, Rat.mul_zero] at this
      exact absurd this (by decide)
  rw [e1, e2]
  grind
theorem port_nice {v : Line} {c : Nat} (G : Good c v) {n : Nat} (h1 : 1 ≤ n) (h6 : n ≤ 6) : ∀ i, Nice (14 + 25 * i) (portTo v n i)
  | 0 => G.rw.nice
  | i + 1 => by
    have p0 := G.p0
    have p1 := G.p1
    have l0 := G.l0
    have l1 := G.l1
    rw [portTo_succ, port_mix h1 p0 l0]
    have q : (n : Int) * (v.lot : Int) = ((n * v.lot : Nat) : Int) := (Int.natCast_mul _ _).symm
    have r : n * v.lot ≤ 6 * 50 := Nat.mul_le_mul h6 l1
    have z := nice_mix (p := (v.liquor : Int)) (l := (n : Int) * (v.lot : Int)) (by rw [q]; omega) (by omega) (by rw [q]; omega) G.fr.nice (port_nice G h1 h6 i)
    exact z.mono (by omega)
end Tan
end
section
namespace Tan
open PySem PySem.Spec PyProof.Rows L2
/-! ### steady states, portions -/
def spPowers : Sp := fun vs H Q _ => ∃ b n : Nat, vs = [.int (b : Int), .int (n : Int)] ∧ b ≤ 50 ∧ n ≤ 6 ∧ RetL H Q (pw b n)
def spSteps : Sp := fun vs H Q _ => ∃ n p l : Nat, vs = [.int (n : Int), .int (p : Int), .int (l : Int)] ∧ n ≤ 6 ∧ p ≤ 50 ∧ l ≤ 50 ∧ RetL H Q (prt n p l)
def spSteady (K : PySem.W.Frag) : Sp := fun vs H Q _ => ∃ (n c : Nat) (f r : Addr) (v : Kp395.Line), vs = [.int (n : Int), .int (v.liquor : Int), .int (v.lot : Int), .ref f, .ref r] ∧ 1 ≤ n ∧ n ≤ 6 ∧ Good c v ∧ Fr K H f v.fresh ∧ Fr K H r v.raw ∧ RetFs K H Q (Kp395.steadyState v n)
def spSteadyLast (K : PySem.W.Frag) : Sp := fun vs H Q _ => ∃ (n c : Nat) (f r : Addr) (v : Kp395.Line), vs = [.int (n : Int), .int (v.liquor : Int), .int (v.lot : Int), .ref f, .ref r] ∧ 1 ≤ n ∧ n ≤ 6 ∧ Good c v ∧ Fr K H f v.fresh ∧ Fr K H r v.raw ∧ RetF K H Q (Kp395.steadyLot v n)
def spPortioned (K : PySem.W.Frag) : Sp := fun vs H Q _ => ∃ (n c : Nat) (f r : Addr) (v : Kp395.Line), vs = [.int (n : Int), .int (v.liquor : Int), .int (v.lot : Int), .ref f, .ref r] ∧ 1 ≤ n ∧ n ≤ 6 ∧ Good c v ∧ Fr K H f v.fresh ∧ Fr K H r v.raw ∧ RetF K H Q (Kp395.portionsLot v n)
theorem steady_list {c : Nat} {v : Kp395.Line} (G : Good c v) (n : Nat) : Kp395.steadyState v n = (List.range n).map fun i => v.raw + (((v.fresh - v.raw).num * acc n v.liquor v.lot (i + 1) : Int) : Rat) / ((((v.fresh - v.raw).den : Int) * (prt n v.liquor v.lot).sum : Int) : Rat) := by
  have p0 := G.p0
  have l0 := G.l0
  rw [steady_is (by omega) (by omega)]
  apply List.map_congr_left
  intro i hi
  exact xx_acc (List.mem_range.mp hi) _ _
theorem steady_len {c : Nat} {v : Kp395.Line} (G : Good c v) (n : Nat) : (Kp395.steadyState v n).length = n := by rw [steady_list G]; simp
theorem steady_take {c : Nat} {v : Kp395.Line} (G : Good c v) {n i : Nat} (h : i < n) : (Kp395.steadyState v n).take (i + 1) = (Kp395.steadyState v n).take i ++ [v.raw + (((v.fresh - v.raw).num * acc n v.liquor v.lot (i + 1) : Int) : Rat) / ((((v.fresh - v.raw).den : Int) * (prt n v.liquor v.lot).sum : Int) : Rat)] := by
  refine take_succ_of ?_
  rw [steady_list G, List.getElem?_map, List.getElem?_range h]
  rfl
theorem tyes_ite {A B : Hp → Prop} {σ : L2.St} {H : Hp} (h : A H) : tYes σ H fun b H3 => if b = true then A H3 else B H3 := by
  show if true = true then A H else B H
  rw [if_pos rfl]
  exact h
theorem pow_i (b : Nat) (n : Nat) : (b : Int) ^ n * (b : Int) = (b : Int) ^ (n + 1) := rfl
section
variable {P : Program} {w : World} {K : PySem.W.Frag} {mg : Str → Option Value} {base : Heap} {C : Addr}
theorem ok_powers (T : Txt K mg C) : Ok P w K mg base 1 "powers" ["number", "many"] spPowers := by
  obtain ⟨f, fd, F, g, b⟩ := T.d_powers
  refine ⟨f, fd, F.ok cs_powers (fun vs H Q E h => ?_) (fun cdv A outer s H vs Q E hr h => ⟨_,
      pss_cons (ps_set (i := 2) cs_powers.nd rfl (.inl rfl) (pe_lst (pa_cons pe_int pa_nil)))
      (pss_cons (ps_for PassesOwn.never rfl (pi_range1 rfl T.b_range (pa_cons (pv 1) pa_nil)) (pg_name (i := 3) cs_powers.nd rfl (.inl rfl))
        (pss_one (ps_expr (pe_bm PySem.F.plainAttrs_list PySem.F.slot_list_append PySem.F.type_list_append mt_append (pv 2) (pa_cons (pe_op op_mulW (pe_ix ix_list (pv 2) (pv 3) (fun _ _ => rfl)) (pv 0)) pa_nil)))))
      (pss_one (ps_ret (pv 2)))), ?_⟩), g, F.kp, b⟩
  · obtain ⟨b, n, rfl, _⟩ := h
    rfl
  · obtain ⟨b, n, rfl, hb, hn, q⟩ := h
    refine ⟨(by show 1 ≤ sizeLine; decide), fun d hd => ?_⟩
    refine ⟨_, rfl, _, rfl, by omega, by omega, ?_⟩
    rw [Int.toNat_natCast]
    refine for_range (lo := 0) (n := n) (fun i σ H' => ∃ u : Option V, σ = [some (.int (b : Int)), some (.int (n : Int)), some (.ref d), u] ∧ Same H H' ∧ H' d = some (.lst ((pw b i).map V.int))) ⟨none, rfl, same_new hd, by rw [upd_same, pw_zero]; rfl⟩ ?_ ?_
    · rintro i σ H' hi ⟨u, rfl, s1, hd1⟩
      have gi : ((pw b i).map V.int)[i]? = some (V.int ((b : Int) ^ i)) := by rw [List.getElem?_map, pw_get (Nat.le_refl i)]; rfl
      have m1 : CMulW ((b : Int) ^ i) (b : Int) := wide_mul (pow_lt hb (by omega)) (small7 (by omega)) (by decide) (by decide) (by decide)
      have hz : (100 : Nat) < sizeLine := by decide
      refine ⟨_, rfl, .inl ⟨rfl, _, SqL.of hd1⟩, _, rfl, _, rfl, d, _, _, _, rfl, rfl, SqL.of hd1, at_of (Int.zero_add _) gi, _, rfl, _, _, rfl, rfl, m1, ?_⟩
      refine ⟨d, _, _, rfl, rfl, hd1, by rw [List.length_map, pw_len]; omega, _, rfl, same_upd s1 hd, ?_⟩
      rw [upd_same, pw_succ, List.map_append]
      rfl
    · rintro σ H' ⟨u, rfl, s1, hd1⟩
      exact ⟨_, rfl, q _ d s1 hd1⟩
theorem ok_steps (T : Txt K mg C) : Ok P w K mg base 2 "steps" ["pits", "liquor", "lot"] spSteps := by
  obtain ⟨f, fd, F, g, b⟩ := T.d_steps
  refine ⟨f, fd, F.ok cs_steps (fun vs H Q E h => ?_) (fun cdv A outer s H vs Q E hr h => ⟨_,
      pss_cons (ps_asg (pe_tup (pa_cons (pe_ok (ok_powers T) hr (pa_cons (pv 2) (pa_cons (pv 0) pa_nil))) (pa_cons (pe_ok (ok_powers T) hr (pa_cons (pv 1) (pa_cons (pv 0) pa_nil))) pa_nil)))
        (pg_tup rfl (pgs_cons (pg_name (i := 3) cs_steps.nd rfl (.inr rfl)) (pgs_cons (pg_name (i := 4) cs_steps.nd rfl (.inr rfl)) pgs_nil))))
      (pss_one (ps_ret (pe_lc (own := [("at", 5)]) (g := gName 5) (tt := tYes) (te := tOp (rI CMulW fun i j => .int (i * j)) (tOp (rIxL K) (tVar 3) (tVar 5)) (tOp (rIxL K) (tVar 4) (tOp (rI0 fun i j => .int (i - j)) (tVar 0) (tVar 5)))) rfl cs_steps.nd (pi_range1 rfl T.b_range (pa_cons (pe_op op_add (pv 0) pe_int) pa_nil))
        (blkOk_by (own := [("at", 5)]) (N := ["pits", "liquor", "lot", "lots", "liquors", "at"]) (sc := defScope s_steps) (by decide +kernel))
        (fun _ _ _ _ _ => pg_name (i := 5) cs_steps.nd rfl (Or.inl rfl)) (fun _ _ _ _ _ => pts_nil)
        (fun _ _ _ _ _ => pe_op op_mulW (pe_ix ix_list (pv 3) (pv 5) (fun _ _ => rfl)) (pe_ix ix_list (pv 4) (pe_op op_sub (pv 0) (pv 5)) (fun _ _ => rfl)))))), ?_⟩), g, F.kp, b⟩
  · obtain ⟨n, p, l, rfl, _⟩ := h
    rfl
  · obtain ⟨n, p, l, rfl, hn, hp, hl, q⟩ := h
    refine ⟨_, rfl, _, rfl, l, n, rfl, hl, hn, fun H1 a1 s1 h1 => ?_⟩
    refine ⟨_, rfl, _, rfl, p, n, rfl, hp, hn, fun H2 a2 s2 h2 => ?_⟩
    refine ⟨(by show 2 ≤ sizeLine; decide), fun t ht => ?_⟩
    have s3 := same_new (o := .tup [V.ref a1, V.ref a2]) ht
    have h13 := s3 _ _ (s2 _ _ h1)
    have h23 := s3 _ _ h2
    have s03 := (s1.trans s2).trans s3
    refine ⟨t, _, rfl, SqT.of upd_same, rfl, _, _, rfl, _, _, rfl, rfl, ?_⟩
    revert h13 h23 s03
    generalize (upd H2 t (.tup [V.ref a1, V.ref a2])) = H3
    intro h13 h23 s03
    refine ⟨_, rfl, _, _, rfl, rfl, _, rfl, by omega, by omega, fun D hD => ?_⟩
    have e1 : ((n : Int) + 1).toNat = n + 1 := by omega
    rw [e1]
    refine lc_range (lo := 0) (n := n + 1) (fun i H' => Same H3 H' ∧ H' D = some (.lst (((prt n p l).take i).map V.int))) ⟨same_new hD, upd_same⟩ ?_ ?_
    · rintro i H' hi ⟨s4, hd4⟩
      have g1 : ((pw l n).map V.int)[i]? = some (V.int ((l : Int) ^ i)) := by rw [List.getElem?_map, pw_get (by omega)]; rfl
      have g2 : ((pw p n).map V.int)[n - i]? = some (V.int ((p : Int) ^ (n - i))) := by rw [List.getElem?_map, pw_get (by omega)]; rfl
      have m1 : CMulW ((l : Int) ^ i) ((p : Int) ^ (n - i)) := wide_mul (pow_lt hl (by omega)) (pow_lt hp (by omega)) (by decide) (by decide) (by decide)
      have hz : (100 : Nat) < sizeLine := by decide
      refine ⟨rfl, ?_⟩
      refine tyes_ite ?_
      refine ⟨_, rfl, _, rfl, a1, _, _, _, rfl, rfl, SqL.of (s4 _ _ h13), at_of (Int.zero_add _) g1, ?_⟩
      refine ⟨_, rfl, _, rfl, _, rfl, _, _, rfl, rfl, a2, _, _, _, rfl, rfl, SqL.of (s4 _ _ h23), at_of (j := n - i) (by omega) g2, _, _, rfl, rfl, m1, ?_⟩
      refine ⟨_, hd4, ?_, same_upd s4 hD, ?_⟩
      · rw [List.length_map, List.length_take, prt_len]
        omega
      · rw [upd_same, take_succ_get (prt_get (show i ≤ n by omega)), List.map_append]
        rfl
    · rintro H' ⟨s4, hd4⟩
      rw [List.take_of_length_le (by rw [prt_len]; exact Nat.le_refl _)] at hd4
      exact q _ D (s03.trans s4) hd4
theorem ok_steady (T : Txt K mg C) : Ok P w K mg base 4 "steady" ["pits", "liquor", "lot", "fresh", "raw"] (spSteady K) := by
  obtain ⟨f, fd, F, g, b⟩ := T.d_steady
  refine ⟨f, fd, F.ok cs_steady (fun vs H Q E h => ?_) (fun cdv A outer s H vs Q E hr h => ⟨_,
      pss_cons (ps_par (i := 5) (j := 6) rfl cs_steady.nd rfl rfl (by decide) rfl rfl (pa_cons (pe_ok (ok_steps T) hr (pa_cons (pv 0) (pa_cons (pv 1) (pa_cons (pv 2) pa_nil)))) (pa_cons (pe_ok (ok_minus T) hr (pa_cons (pv 3) (pa_cons (pv 4) pa_nil))) pa_nil)) (by rfl))
      (pss_cons (ps_par3 (i := 7) (j := 8) (l := 9) rfl cs_steady.nd rfl rfl rfl (by decide) (by decide) (by decide) rfl rfl rfl (pa_cons (pe_callB (cr_sum rfl) (by rfl) T.b_sum (by decide +kernel) (pa_cons (pv 5) pa_nil)) (pa_cons pe_int (pa_cons (pe_lst pa_nil) pa_nil))) (by rfl))
      (pss_cons (ps_for PassesOwn.never rfl (pi_range1 rfl T.b_range (pa_cons (pv 0) pa_nil)) (pg_name (i := 10) cs_steady.nd rfl (.inl rfl))
        (pss_cons (ps_set (i := 8) cs_steady.nd rfl (.inl rfl) (pe_op op_add (pv 8) (pe_ix ix_list (pv 5) (pv 10) (fun _ _ => rfl))))
        (pss_one (ps_expr (pe_bm PySem.F.plainAttrs_list PySem.F.slot_list_append PySem.F.type_list_append mt_append (pv 9) (pa_cons
          (pe_ok (ok_plus T) hr (pa_cons (pv 4) (pa_cons (pe_ok (ok_share T) hr (pa_cons (pe_op op_mulW (pe_ix ix_tup (pv 6) pe_int (fun _ _ => rfl)) (pv 8)) (pa_cons (pe_op op_mulW (pe_ix ix_tup (pv 6) pe_int (fun _ _ => rfl)) (pv 7)) pa_nil))) pa_nil))) pa_nil))))))
      (pss_one (ps_ret (pv 9))))), ?_⟩), g, F.kp, b⟩
  · obtain ⟨n, c, f', r, v, rfl, _⟩ := h
    rfl
  · obtain ⟨n, c, f', r, v, rfl, h1, h6, G, hf, hr', q⟩ := h
    have p0 := G.p0
    have p1 := G.p1
    have l0 := G.l0
    have l1 := G.l1
    have nf : Nice 14 v.fresh := G.fr.nice
    have nr : Nice 14 v.raw := G.rw.nice
    have ng : Nice 29 (v.fresh - v.raw) := nice_sub nf nr
    have W0 := sum_pos (n := n) (p := v.liquor) (l := v.lot) (by omega) (by omega)
    have W1 : ((prt n v.liquor v.lot).sum).natAbs < 2 ^ 40 := by rw [sum_acc]; exact acc_lt p1 l1 h6 (Nat.le_refl _)
    refine ⟨_, rfl, _, rfl, _, rfl, n, v.liquor, v.lot, rfl, h6, p1, l1, fun H1 pa s1 hpa => ?_⟩
    refine ⟨_, rfl, _, rfl, f', r, _, _, rfl, hf.same s1, hr'.same s1, nf.mono (by decide), nr.mono (by decide), fun H2 ga s2 hga => ?_⟩
    refine ⟨_, _, rfl, ?_⟩
    have hpa2 := s2 _ _ hpa
    refine ⟨_, rfl, pa, _, rfl, SqL.of hpa2, (by decide), fun d hd => ?_⟩
    refine ⟨_, _, _, rfl, ?_⟩
    refine ⟨_, rfl, _, rfl, by omega, by omega, ?_⟩
    rw [Int.toNat_natCast]
    have s12 := s1.trans s2
    refine for_range (lo := 0) (n := n) (fun i σ H' => ∃ (u : Option V) (ps : List Addr), σ = [some (.int (n : Int)), some (.int (v.liquor : Int)), some (.int (v.lot : Int)), some (.ref f'), some (.ref r), some (.ref pa), some (.ref ga), some (.int (prt n v.liquor v.lot).sum), some (.int (acc n v.liquor v.lot i)), some (.ref d), u] ∧
        Same H2 H' ∧ H' d = some (.lst (ps.map V.ref)) ∧ Paired (Fr K H') ps ((Kp395.steadyState v n).take i)) ⟨none, [], rfl, same_new hd, upd_same, .nil⟩ ?_ ?_
    · rintro i σ H' hi ⟨u, ps, rfl, s3, hd3, hp3⟩
      have g1 : ((prt n v.liquor v.lot).map V.int)[i]? = some (V.int ((v.lot : Int) ^ i * (v.liquor : Int) ^ (n - i))) := by rw [List.getElem?_map, prt_get (by omega)]; rfl
      have A1 : (acc n v.liquor v.lot (i + 1)).natAbs < 2 ^ 40 := acc_lt p1 l1 h6 (by omega)
      refine ⟨_, rfl, _, rfl, _, rfl, pa, _, _, _, rfl, rfl, SqL.of (s3 _ _ hpa2), at_of (Int.zero_add _) g1, _, _, rfl, rfl, ?_⟩
      dsimp only
      rw [← acc_succ (show i ≤ n by omega)]
      have m1 : CMulW (v.fresh - v.raw).num (acc n v.liquor v.lot (i + 1)) := wide_mul ng.1 A1 (by decide) (by decide) (by decide)
      have m2 : CMulW ((v.fresh - v.raw).den : Int) (prt n v.liquor v.lot).sum := wide_mul (a := 29) (by exact ng.2) W1 (by decide) (by decide) (by decide)
      refine ⟨_, rfl, .inl ⟨rfl, _, SqL.of hd3⟩, ?_⟩
      refine ⟨_, rfl, _, rfl, ga, _, _, _, rfl, rfl, hga.same s3, rfl, _, rfl, _, _, rfl, rfl, m1, _, rfl, ga, _, _, _, rfl, rfl, hga.same s3, rfl, _, rfl, _, _, rfl, rfl, m2, ?_⟩
      have b0 : (0 : Int) < ((v.fresh - v.raw).den : Int) * (prt n v.liquor v.lot).sum := Int.mul_pos (den_i _) W0
      have b1 : (((v.fresh - v.raw).den : Int) * (prt n v.liquor v.lot).sum).natAbs < 2 ^ (29 + 40) := mul2 (by exact ng.2) W1
      have b2 : ((v.fresh - v.raw).num * acc n v.liquor v.lot (i + 1)).natAbs < 2 ^ (29 + 40) := mul2 ng.1 A1
      refine ⟨_, _, rfl, b0, lt9 b1 (by decide), fun H4 sa s4 hsa => ?_⟩
      refine ⟨r, sa, _, _, rfl, ((hr'.same s12).same s3).same s4, hsa, nr.mono (by decide), (nice_share b0 b2 b1).mono (by decide), fun H5 e s5 he => ?_⟩
      have s45 := s4.trans s5
      have hd5 := s45 _ _ hd3
      have z0 : (ps.map V.ref).length ≤ 6 := by
        have := paired_len hp3
        rw [List.length_take] at this
        rw [List.length_map]
        omega
      have hz : (7 : Nat) < sizeLine := by decide
      refine ⟨d, _, _, rfl, rfl, hd5, by omega, ?_⟩
      refine ⟨_, ps ++ [e], rfl, same_upd (s3.trans s45) hd, ?_, ?_⟩
      · rw [upd_same, List.map_append]
        rfl
      · rw [steady_take G hi]
        exact paired_app (Paired.mapP hp3 fun _ _ z => (z.same s45).updl hd5) (.cons (he.updl hd5) .nil)
    · rintro σ H' ⟨u, ps, rfl, s3, hd3, hp3⟩
      refine ⟨_, rfl, q _ d (s12.trans s3) ⟨ps, hd3, ?_⟩⟩
      rw [List.take_of_length_le (by rw [steady_len G]; exact Nat.le_refl _)] at hp3
      exact hp3
theorem ok_steady_last (T : Txt K mg C) : Ok P w K mg base 5 "steady_last" ["pits", "liquor", "lot", "fresh", "raw"] (spSteadyLast K) := by
  obtain ⟨f, fd, F, g, b⟩ := T.d_steady_last
  refine ⟨f, fd, F.ok cs_steady_last (fun vs H Q E h => ?_) (fun cdv A outer s H vs Q E hr h => ⟨_,
      pss_one (ps_ret (pe_ix ix_list (pe_ok (ok_steady T) hr (pa_cons (pv 0) (pa_cons (pv 1) (pa_cons (pv 2) (pa_cons (pv 3) (pa_cons (pv 4) pa_nil)))))) (pe_op op_sub (pv 0) pe_int) (fun _ _ => rfl))), ?_⟩), g, F.kp, b⟩
  · obtain ⟨n, c, f', r, v, rfl, _⟩ := h
    rfl
  · obtain ⟨n, c, f', r, v, rfl, h1, h6, G, hf, hr', q⟩ := h
    refine ⟨_, rfl, _, rfl, _, rfl, _, rfl, _, rfl, n, c, f', r, v, rfl, h1, h6, G, hf, hr', fun H1 l s1 hl => ?_⟩
    have ln := steady_len G n
    obtain ⟨xs, p, hxs, lxs, hp, fp⟩ := hl.get (i := n - 1) (by omega)
    refine ⟨_, rfl, _, _, rfl, rfl, l, _, _, _, rfl, rfl, SqL.of hxs, at_of (j := n - 1) (by omega) hp, ?_⟩
    refine q _ p s1 ?_
    unfold Kp395.steadyLot
    rw [last_getD (by omega), ln]
    exact fp
theorem ok_portioned (T : Txt K mg C) : Ok P w K mg base 4 "portioned" ["portions", "liquor", "lot", "fresh", "raw"] (spPortioned K) := by
  obtain ⟨f, fd, F, g, b⟩ := T.d_portioned
  refine ⟨f, fd, F.ok cs_portioned (fun vs H Q E h => ?_) (fun cdv A outer s H vs Q E hr h => ⟨_,
      pss_cons (ps_set (i := 5) cs_portioned.nd rfl (.inl rfl) (pv 4))
      (pss_cons (ps_for PassesOwn.never rfl (pi_range1 rfl T.b_range (pa_cons (pv 0) pa_nil)) (pg_name (i := 6) cs_portioned.nd rfl (.inl rfl))
        (pss_one (ps_set (i := 5) cs_portioned.nd rfl (.inl rfl) (pe_ok (ok_mixed T) hr (pa_cons (pv 1) (pa_cons (pv 3) (pa_cons (pe_op op_mulW (pv 0) (pv 2)) (pa_cons (pv 5) pa_nil))))))))
      (pss_one (ps_ret (pv 5)))), ?_⟩), g, F.kp, b⟩
  · obtain ⟨n, c, f', r, v, rfl, _⟩ := h
    rfl
  · obtain ⟨n, c, f', r, v, rfl, h1, h6, G, hf, hr', q⟩ := h
    have p0 := G.p0
    have p1 := G.p1
    have l0 := G.l0
    have l1 := G.l1
    refine ⟨_, rfl, _, rfl, _, rfl, by omega, by omega, ?_⟩
    rw [Int.toNat_natCast]
    refine for_range (lo := 0) (n := n) (fun i σ H' => ∃ (u : Option V) (d : Addr), σ = [some (.int (n : Int)), some (.int (v.liquor : Int)), some (.int (v.lot : Int)), some (.ref f'), some (.ref r), some (.ref d), u] ∧ Same H H' ∧ Fr K H' d (portTo v n i)) ⟨none, r, rfl, Same.refl H, hr'⟩ ?_ ?_
    · rintro i σ H' hi ⟨u, d, rfl, s1, fd⟩
      have m1 : CMulW (n : Int) (v.lot : Int) := wide_mul (small7 (by omega)) (small7 (by omega)) (by decide) (by decide) (by decide)
      have qi : (n : Int) * (v.lot : Int) = ((n * v.lot : Nat) : Int) := (Int.natCast_mul _ _).symm
      have ri : n * v.lot ≤ 6 * 50 := Nat.mul_le_mul h6 l1
      refine ⟨_, rfl, _, rfl, _, rfl, _, rfl, _, _, rfl, rfl, m1, _, rfl, ?_⟩
      refine ⟨_, _, f', d, _, _, rfl, hf.same s1, fd, G.fr.nice.mono (by decide), (port_nice G h1 h6 i).mono (by omega), by rw [qi]; omega, by omega, by rw [qi]; omega, fun H2 e s2 he => ?_⟩
      rw [← port_mix h1 p0 l0, ← portTo_succ] at he
      exact ⟨_, e, rfl, s1.trans s2, he⟩
    · rintro σ H' ⟨u, d, rfl, s1, fd⟩
      exact ⟨_, rfl, q _ d s1 fd⟩
end
end Tan
end
section
namespace Tan
open PySem PySem.Spec PyProof.Rows L2
/-! ### questions -/
def spSteadyOf (K : PySem.W.Frag) (C : Addr) : Sp := fun vs H Q _ => ∃ (a : Addr) (n c : Nat) (v : Kp395.Line), vs = [.ref a, .int (n : Int)] ∧ 1 ≤ n ∧ n ≤ 6 ∧ Good c v ∧ LineAt K C H a v ∧ RetFs K H Q (Kp395.steadyState v n)
def spSteadyLotOf (K : PySem.W.Frag) (C : Addr) : Sp := fun vs H Q _ => ∃ (a : Addr) (n c : Nat) (v : Kp395.Line), vs = [.ref a, .int (n : Int)] ∧ 1 ≤ n ∧ n ≤ 6 ∧ Good c v ∧ LineAt K C H a v ∧ RetF K H Q (Kp395.steadyLot v n)
def spPortionsLotOf (K : PySem.W.Frag) (C : Addr) : Sp := fun vs H Q _ => ∃ (a : Addr) (n c : Nat) (v : Kp395.Line), vs = [.ref a, .int (n : Int)] ∧ 1 ≤ n ∧ n ≤ 6 ∧ Good c v ∧ LineAt K C H a v ∧ RetF K H Q (Kp395.portionsLot v n)
theorem steady_nice {c : Nat} {v : Kp395.Line} (G : Good c v) {n : Nat} (hn : n ≤ 6) : ∀ q ∈ Kp395.steadyState v n, Nice 84 q := by
  intro q hq
  rw [steady_list G] at hq
  obtain ⟨i, hi, rfl⟩ := List.mem_map.mp hq
  have hi := List.mem_range.mp hi
  have p0 := G.p0
  have p1 := G.p1
  have l0 := G.l0
  have l1 := G.l1
  have ng : Nice 29 (v.fresh - v.raw) := nice_sub G.fr.nice G.rw.nice
  have W0 := sum_pos (n := n) (p := v.liquor) (l := v.lot) (by omega) (by omega)
  have W1 : ((prt n v.liquor v.lot).sum).natAbs < 2 ^ 40 := by rw [sum_acc]; exact acc_lt p1 l1 hn (Nat.le_refl _)
  have A1 : (acc n v.liquor v.lot (i + 1)).natAbs < 2 ^ 40 := acc_lt p1 l1 hn (by omega)
  have b0 : (0 : Int) < ((v.fresh - v.raw).den : Int) * (prt n v.liquor v.lot).sum := Int.mul_pos (den_i _) W0
  have b1 : (((v.fresh - v.raw).den : Int) * (prt n v.liquor v.lot).sum).natAbs < 2 ^ (29 + 40) := mul2 (by exact ng.2) W1
  have b2 : ((v.fresh - v.raw).num * acc n v.liquor v.lot (i + 1)).natAbs < 2 ^ (29 + 40) := mul2 ng.1 A1
  exact nice_add G.rw.nice (nice_share b0 b2 b1)
theorem steadyLot_nice {c : Nat} {v : Kp395.Line} (G : Good c v) {n : Nat} (h1 : 1 ≤ n) (hn : n ≤ 6) : Nice 84 (Kp395.steadyLot v n) := steady_nice G hn _ (last_mem (by rw [steady_len G]; exact h1))
theorem portions_is (v : Kp395.Line) (n : Nat) : Kp395.portionsLot v n = portTo v n n := rfl
theorem portions_nice {c : Nat} {v : Kp395.Line} (G : Good c v) {n : Nat} (h1 : 1 ≤ n) (hn : n ≤ 6) : Nice 164 (Kp395.portionsLot v n) := by
  rw [portions_is]
  exact (port_nice G h1 hn n).mono (by omega)
theorem abs_nice {k : Nat} {q : Rat} (h : Nice k q) : Nice k (Kp395.absolute q) := by
  refine ⟨?_, by rw [abs_den]; exact h.2⟩
  rw [abs_num]
  split
  · rw [Int.natAbs_neg]; exact h.1
  · exact h.1
/-! the sum of the strengths -/
theorem foldl_add (l : List Rat) : ∀ a : Rat, l.foldl (· + ·) a = a + l.sum := by
  induction l with
  | nil => intro a; show a = a + 0; rw [Rat.add_zero]
  | cons x r ih =>
    intro a
    rw [List.foldl_cons, ih, List.sum_cons, Rat.add_assoc]
theorem sumTo_all (l : List Rat) : sumTo l l.length = l.sum := by
  unfold sumTo
  rw [List.take_of_length_le (Nat.le_refl _), foldl_add, Rat.zero_add]
theorem sumTo_pv {s e : Nat} {l : List Rat} (h : ∀ q ∈ l, Pv s e q) : ∀ i, i ≤ l.length → 0 ≤ sumTo l i ∧ sumTo l i ≤ ((100 * i : Nat) : Rat) ∧ Div s e (sumTo l i)
  | 0, _ => ⟨(by show (0 : Rat) ≤ 0; decide), (by show (0 : Rat) ≤ 0; decide), div_zero' s e⟩
  | i + 1, hi => by
    have ih := sumTo_pv h i (by omega)
    have p := h _ (List.getElem_mem (show i < l.length by omega))
    rw [sumTo_succ (List.getElem?_eq_getElem (show i < l.length by omega))]
    have a := p.lo
    have b := p.hi
    have e : ((100 * (i + 1) : Nat) : Rat) = ((100 * i : Nat) : Rat) + 100 := by
      rw [Nat.mul_add, Rat.natCast_add]
      rfl
    refine ⟨?_, ?_, ih.2.2.add p.dv⟩
    · grind
    · rw [e]
      grind
theorem sumTo_nice {c : Nat} {v : Kp395.Line} (G : Good c v) {i : Nat} (hi : i ≤ v.strengths.length) : Nice 600 (sumTo v.strengths i) := by
  have h := sumTo_pv G.st i hi
  have n6 := G.n1
  have b0 : -((600 : Nat) : Rat) ≤ sumTo v.strengths i := by
    have a := h.1
    show -(600 : Rat) ≤ _
    grind
  have b1 : sumTo v.strengths i ≤ ((600 : Nat) : Rat) := Rat.le_trans h.2.1 (Rat.natCast_le_natCast.mpr (by omega))
  exact (nice_of b0 b1 (h.2.2.den G.s0) (show 600 < 2 ^ 10 by decide) (DD_lt G.s1 (by have := G.dy; omega))).mono (by decide)
theorem take_one {l : List Rat} (h : 1 ≤ l.length) : l.take 1 = [l.headD 0] := by
  cases l with
  | nil => simp at h
  | cons a r => rfl
section
variable {P : Program} {w : World} {K : PySem.W.Frag} {mg : Str → Option Value} {base : Heap} {C : Addr}
theorem ok_steady_of (T : Txt K mg C) : Ok P w K mg base 5 "steady_of" ["line", "pits"] (spSteadyOf K C) := by
  obtain ⟨f, fd, F, g, b⟩ := T.d_steady_of
  refine ⟨f, fd, F.ok cs_steady_of (fun vs H Q E h => ?_) (fun cdv A outer s H vs Q E hr h => ⟨_,
      pss_one (ps_ret (pe_ok (ok_steady T) hr (pa_cons (pv 1) (pa_cons (pe_fld (pv 0) rfl) (pa_cons (pe_fld (pv 0) rfl) (pa_cons (pe_fld (pv 0) rfl) (pa_cons (pe_fld (pv 0) rfl) pa_nil))))))), ?_⟩), g, F.kp, b⟩
  · obtain ⟨a, n, c, v, rfl, _⟩ := h
    rfl
  · obtain ⟨a, n, c, v, rfl, h1, h6, G, ⟨dx, f', r, l, s', t, d, L⟩, k⟩ := h
    refine ⟨_, rfl, _, rfl, a, C, dx, _, _, rfl, L.at_, T.cl, T.n_liquor, lF_liquor, _, rfl, a, C, dx, _, _, rfl, L.at_, T.cl, T.n_lot, lF_lot, _, rfl, a, C, dx, _, _, rfl, L.at_, T.cl, T.n_fresh, lF_fresh, _, rfl, a, C, dx, _, _, rfl, L.at_, T.cl, T.n_raw, lF_raw, ?_⟩
    exact ⟨n, c, f', r, v, rfl, h1, h6, G, L.p.f, L.p.r, k⟩
theorem ok_steady_lot_of (T : Txt K mg C) : Ok P w K mg base 6 "steady_lot_of" ["line", "pits"] (spSteadyLotOf K C) := by
  obtain ⟨f, fd, F, g, b⟩ := T.d_steady_lot_of
  refine ⟨f, fd, F.ok cs_steady_lot_of (fun vs H Q E h => ?_) (fun cdv A outer s H vs Q E hr h => ⟨_,
      pss_one (ps_ret (pe_ok (ok_steady_last T) hr (pa_cons (pv 1) (pa_cons (pe_fld (pv 0) rfl) (pa_cons (pe_fld (pv 0) rfl) (pa_cons (pe_fld (pv 0) rfl) (pa_cons (pe_fld (pv 0) rfl) pa_nil))))))), ?_⟩), g, F.kp, b⟩
  · obtain ⟨a, n, c, v, rfl, _⟩ := h
    rfl
  · obtain ⟨a, n, c, v, rfl, h1, h6, G, ⟨dx, f', r, l, s', t, d, L⟩, k⟩ := h
    refine ⟨_, rfl, _, rfl, a, C, dx, _, _, rfl, L.at_, T.cl, T.n_liquor, lF_liquor, _, rfl, a, C, dx, _, _, rfl, L.at_, T.cl, T.n_lot, lF_lot, _, rfl, a, C, dx, _, _, rfl, L.at_, T.cl, T.n_fresh, lF_fresh, _, rfl, a, C, dx, _, _, rfl, L.at_, T.cl, T.n_raw, lF_raw, ?_⟩
    exact ⟨n, c, f', r, v, rfl, h1, h6, G, L.p.f, L.p.r, k⟩
theorem ok_portions_lot_of (T : Txt K mg C) : Ok P w K mg base 5 "portions_lot_of" ["line", "portions"] (spPortionsLotOf K C) := by
  obtain ⟨f, fd, F, g, b⟩ := T.d_portions_lot_of
  refine ⟨f, fd, F.ok cs_portions_lot_of (fun vs H Q E h => ?_) (fun cdv A outer s H vs Q E hr h => ⟨_,
      pss_one (ps_ret (pe_ok (ok_portioned T) hr (pa_cons (pv 1) (pa_cons (pe_fld (pv 0) rfl) (pa_cons (pe_fld (pv 0) rfl) (pa_cons (pe_fld (pv 0) rfl) (pa_cons (pe_fld (pv 0) rfl) pa_nil))))))), ?_⟩), g, F.kp, b⟩
  · obtain ⟨a, n, c, v, rfl, _⟩ := h
    rfl
  · obtain ⟨a, n, c, v, rfl, h1, h6, G, ⟨dx, f', r, l, s', t, d, L⟩, k⟩ := h
    refine ⟨_, rfl, _, rfl, a, C, dx, _, _, rfl, L.at_, T.cl, T.n_liquor, lF_liquor, _, rfl, a, C, dx, _, _, rfl, L.at_, T.cl, T.n_lot, lF_lot, _, rfl, a, C, dx, _, _, rfl, L.at_, T.cl, T.n_fresh, lF_fresh, _, rfl, a, C, dx, _, _, rfl, L.at_, T.cl, T.n_raw, lF_raw, ?_⟩
    exact ⟨n, c, f', r, v, rfl, h1, h6, G, L.p.f, L.p.r, k⟩
theorem ok_get_strengths (T : Txt K mg C) : Ok P w K mg base 3 "get_strengths" ["line"] (spOp0 K C .getStrengths) := by
  obtain ⟨f, fd, F, g, b⟩ := T.d_get_strengths
  refine ⟨f, fd, F.ok cs_get_strengths (fun vs H Q E h => ?_) (fun cdv A outer s H vs Q E hr h => ⟨_,
      pss_one (ps_ret (pe_ok (ok_told_strengths T) hr (pa_cons (pe_fld (pv 0) rfl) pa_nil))), ?_⟩), g, F.kp, b⟩
  · obtain ⟨a, v, n, rfl, _⟩ := h
    rfl
  · obtain ⟨a, v, n, rfl, hn, G, ⟨dx, f', r, l, s', t, d, L⟩, k⟩ := h
    have k := RetO.of (v' := v) (r := Kp395.fractionsResult v.strengths) rfl k
    have n6 := G.n1
    refine ⟨_, rfl, a, C, dx, _, _, rfl, L.at_, T.cl, T.n_strengths, lF_strengths, l, _, rfl, L.p.l, by omega, fun H2 p s2 n2 h2 => ?_⟩
    exact k _ p (But.of s2) (LineAt.same s2 ⟨dx, f', r, l, s', t, d, L⟩) n2 h2
theorem ok_steady_state (T : Txt K mg C) : Ok P w K mg base 6 "steady_state" ["line"] (spOp0 K C .steadyState) := by
  obtain ⟨f, fd, F, g, b⟩ := T.d_steady_state
  refine ⟨f, fd, F.ok cs_steady_state (fun vs H Q E h => ?_) (fun cdv A outer s H vs Q E hr h => ⟨_,
      pss_one (ps_ret (pe_ok (ok_told_strengths T) hr (pa_cons (pe_ok (ok_steady_of T) hr (pa_cons (pv 0) (pa_cons (pe_callB call_len_seq (by rfl) T.b_len PySem.boot_len (pa_cons (pe_fld (pv 0) rfl) pa_nil)) pa_nil))) pa_nil))), ?_⟩), g, F.kp, b⟩
  · obtain ⟨a, v, n, rfl, _⟩ := h
    rfl
  · obtain ⟨a, v, n, rfl, hn, G, ⟨dx, f', r, l, s', t, d, L⟩, k⟩ := h
    have k := RetO.of (v' := v) (r := Kp395.fractionsResult (Kp395.steadyState v (Kp395.pitCount v))) rfl k
    have n0 := G.n0
    have n6 := G.n1
    obtain ⟨xs, hxs, lxs⟩ := L.p.l.len
    refine ⟨_, rfl, _, rfl, a, C, dx, _, _, rfl, L.at_, T.cl, T.n_strengths, lF_strengths, l, _, rfl, .inl (SqL.of hxs), ?_⟩
    rw [lxs]
    refine ⟨a, v.strengths.length, n, v, rfl, n0, n6, G, ⟨dx, f', r, l, s', t, d, L⟩, fun H1 e s1 he => ?_⟩
    refine ⟨e, _, rfl, he, by rw [steady_len G]; omega, fun H2 p s2 n2 h2 => ?_⟩
    exact k _ p (But.of (s1.trans s2)) (LineAt.same (s1.trans s2) ⟨dx, f', r, l, s', t, d, L⟩) (s1.free n2) h2
theorem ok_steady_lot (T : Txt K mg C) : Ok P w K mg base 7 "steady_lot" ["line", "pits"] (spOp1 K C .steadyLot) := by
  obtain ⟨f, fd, F, g, b⟩ := T.d_steady_lot
  refine ⟨f, fd, F.ok cs_steady_lot (fun vs H Q E h => ?_) (fun cdv A outer s H vs Q E hr h => ⟨_,
      pss_cons (ps_if (pt_not (pt_val (pe_ok (ok_is_pit_count T) hr (pa_cons (pv 1) pa_nil)))) (pss_one (ps_ret (pe_lst (pa_cons (pe_k T.k_OUTSIDE) pa_nil)))) pss_nil)
      (pss_one (ps_ret (pe_op op_cat (pe_lst (pa_cons pe_int pa_nil)) (pe_ok (ok_numbers_of T) hr (pa_cons (pe_lst (pa_cons (pe_ok (ok_steady_lot_of T) hr (pa_cons (pv 0) (pa_cons (pv 1) pa_nil))) pa_nil)) pa_nil))))), ?_⟩), g, F.kp, b⟩
  · obtain ⟨a, v, n, x, rfl, _⟩ := h
    rfl
  · obtain ⟨a, v, n, x, rfl, hn, G, LL', k⟩ := h
    have k := RetO.of (v' := v) (r := Kp395.queryPits x fun _ => Kp395.steadyLot v x) rfl k
    unfold Kp395.queryPits at k
    refine ⟨_, rfl, _, rfl, _, rfl, ?_⟩
    rw [pits_valid]
    cases hv : Kp395.validPits x with
    | false =>
      rw [hv] at k
      exact iteT ⟨(by show 1 ≤ sizeLine; decide), fun p hp => RetO.one LL' k hp⟩
    | true =>
      rw [hv] at k
      refine iteF ?_
      have hx : 1 ≤ x ∧ x ≤ 6 := by
        unfold Kp395.validPits at hv
        rw [Bool.and_eq_true] at hv
        exact ⟨of_decide_eq_true hv.1, of_decide_eq_true hv.2⟩
      refine ⟨(by show 1 ≤ sizeLine; decide), fun d hd => ?_⟩
      have s0 := same_new (o := .lst [V.int 0]) hd
      refine ⟨_, rfl, _, rfl, a, x, n, v, rfl, hx.1, hx.2, G, LL'.same s0, fun H1 p s1 f1 => ?_⟩
      refine ⟨(by show 1 ≤ sizeLine; decide), fun l hl => ?_⟩
      have s2 := same_new (o := .lst [V.ref p]) hl
      refine ⟨l, [_], rfl, ⟨[p], upd_same, .cons (f1.same s2) .nil⟩, (by simp), fun H3 e s3 he => ?_⟩
      have s13 := (s1.trans s2).trans s3
      refine ⟨d, e, _, _, rfl, rfl, s13 _ _ upd_same, he, (by show 1 + 2 ≤ sizeLine; decide), fun r hr' => ?_⟩
      exact fin_new k (s0.trans s13) LL' hr'
theorem ok_steady_discharge (T : Txt K mg C) : Ok P w K mg base 6 "steady_discharge" ["line", "pits"] (spOp1 K C .steadyDischarge) := by
  obtain ⟨f, fd, F, g, b⟩ := T.d_steady_discharge
  refine ⟨f, fd, F.ok cs_steady_discharge (fun vs H Q E h => ?_) (fun cdv A outer s H vs Q E hr h => ⟨_,
      pss_cons (ps_if (pt_not (pt_val (pe_ok (ok_is_pit_count T) hr (pa_cons (pv 1) pa_nil)))) (pss_one (ps_ret (pe_lst (pa_cons (pe_k T.k_OUTSIDE) pa_nil)))) pss_nil)
      (pss_one (ps_ret (pe_op op_cat (pe_lst (pa_cons pe_int pa_nil)) (pe_ok (ok_numbers_of T) hr (pa_cons (pe_slice sl_list (pe_ok (ok_steady_of T) hr (pa_cons (pv 0) (pa_cons (pv 1) pa_nil))) po_none (po_some pe_int)) pa_nil))))), ?_⟩), g, F.kp, b⟩
  · obtain ⟨a, v, n, x, rfl, _⟩ := h
    rfl
  · obtain ⟨a, v, n, x, rfl, hn, G, LL', k⟩ := h
    have k := RetO.of (v' := v) (r := Kp395.queryPits x fun _ => Kp395.steadyDischarge v x) rfl k
    unfold Kp395.queryPits at k
    refine ⟨_, rfl, _, rfl, _, rfl, ?_⟩
    rw [pits_valid]
    cases hv : Kp395.validPits x with
    | false =>
      rw [hv] at k
      exact iteT ⟨(by show 1 ≤ sizeLine; decide), fun p hp => RetO.one LL' k hp⟩
    | true =>
      rw [hv] at k
      refine iteF ?_
      have hx : 1 ≤ x ∧ x ≤ 6 := by
        unfold Kp395.validPits at hv
        rw [Bool.and_eq_true] at hv
        exact ⟨of_decide_eq_true hv.1, of_decide_eq_true hv.2⟩
      refine ⟨(by show 1 ≤ sizeLine; decide), fun d hd => ?_⟩
      have s0 := same_new (o := .lst [V.int 0]) hd
      refine ⟨_, rfl, _, rfl, a, x, n, v, rfl, hx.1, hx.2, G, LL'.same s0, fun H1 p s1 f1 => ?_⟩
      obtain ⟨ps, hps, hp⟩ := f1
      refine ⟨_, rfl, p, _, rfl, SqL.of hps, fun l hl => ?_⟩
      have s2 := same_new (o := .lst (cutV (ps.map V.ref) none (some 1))) hl
      refine ⟨l, [Kp395.steadyDischarge v x], rfl, ⟨ps.take 1, ?_, ?_⟩, (by simp), fun H3 e s3 he => ?_⟩
      · rw [upd_same, List.map_take]
        exact congrArg (fun z => some (HO.lst z)) (cut_to (k := 1))
      · have z := paired_take 1 (Paired.mapP hp fun _ _ y => y.same s2)
        rw [take_one (by rw [steady_len G]; exact hx.1)] at z
        exact z
      have s13 := (s1.trans s2).trans s3
      refine ⟨d, e, _, _, rfl, rfl, s13 _ _ upd_same, he, (by show 1 + 2 ≤ sizeLine; decide), fun r hr' => ?_⟩
      exact fin_new k (s0.trans s13) LL' hr'
theorem ok_portions_lot (T : Txt K mg C) : Ok P w K mg base 6 "portions_lot" ["line", "portions"] (spOp1 K C .portionsLot) := by
  obtain ⟨f, fd, F, g, b⟩ := T.d_portions_lot
  refine ⟨f, fd, F.ok cs_portions_lot (fun vs H Q E h => ?_) (fun cdv A outer s H vs Q E hr h => ⟨_,
      pss_cons (ps_if (pt_not (pt_val (pe_ok (ok_is_pit_count T) hr (pa_cons (pv 1) pa_nil)))) (pss_one (ps_ret (pe_lst (pa_cons (pe_k T.k_OUTSIDE) pa_nil)))) pss_nil)
      (pss_one (ps_ret (pe_op op_cat (pe_lst (pa_cons pe_int pa_nil)) (pe_ok (ok_numbers_of T) hr (pa_cons (pe_lst (pa_cons (pe_ok (ok_portions_lot_of T) hr (pa_cons (pv 0) (pa_cons (pv 1) pa_nil))) pa_nil)) pa_nil))))), ?_⟩), g, F.kp, b⟩
  · obtain ⟨a, v, n, x, rfl, _⟩ := h
    rfl
  · obtain ⟨a, v, n, x, rfl, hn, G, LL', k⟩ := h
    have k := RetO.of (v' := v) (r := Kp395.queryPits x fun _ => Kp395.portionsLot v x) rfl k
    unfold Kp395.queryPits at k
    refine ⟨_, rfl, _, rfl, _, rfl, ?_⟩
    rw [pits_valid]
    cases hv : Kp395.validPits x with
    | false =>
      rw [hv] at k
      exact iteT ⟨(by show 1 ≤ sizeLine; decide), fun p hp => RetO.one LL' k hp⟩
    | true =>
      rw [hv] at k
      refine iteF ?_
      have hx : 1 ≤ x ∧ x ≤ 6 := by
        unfold Kp395.validPits at hv
        rw [Bool.and_eq_true] at hv
        exact ⟨of_decide_eq_true hv.1, of_decide_eq_true hv.2⟩
      refine ⟨(by show 1 ≤ sizeLine; decide), fun d hd => ?_⟩
      have s0 := same_new (o := .lst [V.int 0]) hd
      refine ⟨_, rfl, _, rfl, a, x, n, v, rfl, hx.1, hx.2, G, LL'.same s0, fun H1 p s1 f1 => ?_⟩
      refine ⟨(by show 1 ≤ sizeLine; decide), fun l hl => ?_⟩
      have s2 := same_new (o := .lst [V.ref p]) hl
      refine ⟨l, [_], rfl, ⟨[p], upd_same, .cons (f1.same s2) .nil⟩, (by simp), fun H3 e s3 he => ?_⟩
      have s13 := (s1.trans s2).trans s3
      refine ⟨d, e, _, _, rfl, rfl, s13 _ _ upd_same, he, (by show 1 + 2 ≤ sizeLine; decide), fun r hr' => ?_⟩
      exact fin_new k (s0.trans s13) LL' hr'
theorem ok_countercurrent_gain (T : Txt K mg C) : Ok P w K mg base 7 "countercurrent_gain" ["line", "pits"] (spOp1 K C .countercurrentGain) := by
  obtain ⟨f, fd, F, g, b⟩ := T.d_countercurrent_gain
  refine ⟨f, fd, F.ok cs_countercurrent_gain (fun vs H Q E h => ?_) (fun cdv A outer s H vs Q E hr h => ⟨_,
      pss_cons (ps_if (pt_not (pt_val (pe_ok (ok_is_pit_count T) hr (pa_cons (pv 1) pa_nil)))) (pss_one (ps_ret (pe_lst (pa_cons (pe_k T.k_OUTSIDE) pa_nil)))) pss_nil)
      (pss_one (ps_ret (pe_op op_cat (pe_lst (pa_cons pe_int pa_nil)) (pe_ok (ok_numbers_of T) hr (pa_cons (pe_lst (pa_cons (pe_ok (ok_minus T) hr (pa_cons (pe_ok (ok_steady_lot_of T) hr (pa_cons (pv 0) (pa_cons (pv 1) pa_nil))) (pa_cons (pe_ok (ok_portions_lot_of T) hr (pa_cons (pv 0) (pa_cons (pv 1) pa_nil))) pa_nil))) pa_nil)) pa_nil))))), ?_⟩), g, F.kp, b⟩
  · obtain ⟨a, v, n, x, rfl, _⟩ := h
    rfl
  · obtain ⟨a, v, n, x, rfl, hn, G, LL', k⟩ := h
    have k := RetO.of (v' := v) (r := Kp395.queryPits x fun _ => Kp395.steadyLot v x - Kp395.portionsLot v x) rfl k
    unfold Kp395.queryPits at k
    refine ⟨_, rfl, _, rfl, _, rfl, ?_⟩
    rw [pits_valid]
    cases hv : Kp395.validPits x with
    | false =>
      rw [hv] at k
      exact iteT ⟨(by show 1 ≤ sizeLine; decide), fun p hp => RetO.one LL' k hp⟩
    | true =>
      rw [hv] at k
      refine iteF ?_
      have hx : 1 ≤ x ∧ x ≤ 6 := by
        unfold Kp395.validPits at hv
        rw [Bool.and_eq_true] at hv
        exact ⟨of_decide_eq_true hv.1, of_decide_eq_true hv.2⟩
      refine ⟨(by show 1 ≤ sizeLine; decide), fun d hd => ?_⟩
      have s0 := same_new (o := .lst [V.int 0]) hd
      refine ⟨_, rfl, _, rfl, a, x, n, v, rfl, hx.1, hx.2, G, LL'.same s0, fun Ha pa sa fa => ?_⟩
      refine ⟨_, rfl, _, rfl, a, x, n, v, rfl, hx.1, hx.2, G, LL'.same (s0.trans sa), fun Hb pb sb fb => ?_⟩
      refine ⟨pa, pb, _, _, rfl, fa.same sb, fb, (steadyLot_nice G hx.1 hx.2).mono (by decide), (portions_nice G hx.1 hx.2).mono (by decide), fun H1 p sc f1 => ?_⟩
      have s1 := (sa.trans sb).trans sc
      refine ⟨(by show 1 ≤ sizeLine; decide), fun l hl => ?_⟩
      have s2 := same_new (o := .lst [V.ref p]) hl
      refine ⟨l, [_], rfl, ⟨[p], upd_same, .cons (f1.same s2) .nil⟩, (by simp), fun H3 e s3 he => ?_⟩
      have s13 := (s1.trans s2).trans s3
      refine ⟨d, e, _, _, rfl, rfl, s13 _ _ upd_same, he, (by show 1 + 2 ≤ sizeLine; decide), fun r hr' => ?_⟩
      exact fin_new k (s0.trans s13) LL' hr'
theorem ok_status (T : Txt K mg C) : Ok P w K mg base 2 "status" ["line"] (spOp0 K C .status) := by
  obtain ⟨f, fd, F, g, b⟩ := T.d_status
  refine ⟨f, fd, F.ok cs_status (fun vs H Q E h => ?_) (fun cdv A outer s H vs Q E hr h => ⟨_,
      pss_one (ps_ret (pe_op op_cat (pe_lst (pa_cons (pe_callB call_len_seq (by rfl) T.b_len PySem.boot_len (pa_cons (pe_fld (pv 0) rfl) pa_nil)) (pa_cons (pe_fld (pv 0) rfl) (pa_cons (pe_fld (pv 0) rfl) pa_nil))))
        (pe_ok (ok_numbers_of T) hr (pa_cons (pe_lst (pa_cons (pe_fld (pv 0) rfl) (pa_cons (pe_fld (pv 0) rfl) pa_nil))) pa_nil)))), ?_⟩), g, F.kp, b⟩
  · obtain ⟨a, v, n, rfl, _⟩ := h
    rfl
  · obtain ⟨a, v, n, rfl, hn, G, ⟨dx, f', r, l, s', t, d, L⟩, k⟩ := h
    have k := RetO.of (v' := v) (r := ⟨(Kp395.pitCount v : Int), [(v.liquor : Int), (v.lot : Int)] ++ Kp395.fraction v.fresh ++ Kp395.fraction v.raw⟩) rfl k
    obtain ⟨xs, hxs, lxs⟩ := L.p.l.len
    refine ⟨_, rfl, a, C, dx, _, _, rfl, L.at_, T.cl, T.n_strengths, lF_strengths, l, _, rfl, .inl (SqL.of hxs), _, rfl, a, C, dx, _, _, rfl, L.at_, T.cl, T.n_liquor, lF_liquor, _, rfl, a, C, dx, _, _, rfl, L.at_, T.cl, T.n_lot, lF_lot, (by show 3 ≤ sizeLine; decide), fun d' hd => ?_⟩
    rw [lxs] at *
    have s0 := same_new (o := .lst [V.int (v.strengths.length : Int), V.int (v.liquor : Int), V.int (v.lot : Int)]) hd
    have L0 := L.same s0
    refine ⟨_, rfl, a, C, dx, _, _, rfl, L0.at_, T.cl, T.n_fresh, lF_fresh, _, rfl, a, C, dx, _, _, rfl, L0.at_, T.cl, T.n_raw, lF_raw, (by show 2 ≤ sizeLine; decide), fun m hm => ?_⟩
    have s1 := same_new (o := .lst [V.ref f', V.ref r]) hm
    refine ⟨m, [v.fresh, v.raw], rfl, ⟨[f', r], upd_same, .cons (L0.p.f.same s1) (.cons (L0.p.r.same s1) .nil)⟩, (by simp), fun H3 e s3 he => ?_⟩
    refine ⟨d', e, _, _, rfl, rfl, s3 _ _ (s1 _ _ upd_same), he, (by show 3 + 4 ≤ sizeLine; decide), fun q hq => ?_⟩
    exact fin_new k ((s0.trans s1).trans s3) ⟨dx, f', r, l, s', t, d, L⟩ hq
theorem ok_balance (T : Txt K mg C) : Ok P w K mg base 5 "balance" ["line"] (spOp0 K C .balance) := by
  obtain ⟨f, fd, F, g, b⟩ := T.d_balance
  refine ⟨f, fd, F.ok cs_balance (fun vs H Q E h => ?_) (fun cdv A outer s H vs Q E hr h => ⟨_,
      pss_cons (ps_set (i := 1) cs_balance.nd rfl (.inl rfl) (pe_ok (ok_times T) hr (pa_cons (pe_op op_add (pe_fld (pv 0) rfl) (pe_fld (pv 0) rfl)) (pa_cons (pe_ok (ok_total T) hr (pa_cons (pe_fld (pv 0) rfl) pa_nil)) pa_nil))))
      (pss_one (ps_ret (pe_op op_cat (pe_lst (pa_cons (pe_fld (pv 0) rfl) pa_nil))
        (pe_ok (ok_numbers_of T) hr (pa_cons (pe_lst (pa_cons (pe_fld (pv 0) rfl) (pa_cons (pe_fld (pv 0) rfl) (pa_cons (pe_fld (pv 0) rfl) (pa_cons (pv 1) pa_nil))))) pa_nil))))), ?_⟩), g, F.kp, b⟩
  · obtain ⟨a, v, n, rfl, _⟩ := h
    rfl
  · obtain ⟨a, v, n, rfl, hn, G, ⟨dx, f', r, l, s', t, d, L⟩, k⟩ := h
    have k := RetO.of (v' := v) (r := ⟨(v.days : Int), Kp395.fraction v.supplied ++ Kp395.fraction v.tanned ++ Kp395.fraction v.discharged ++ Kp395.fraction (Kp395.content v)⟩) rfl k
    have p1 := G.p1
    have l1 := G.l1
    refine ⟨_, rfl, a, C, dx, _, _, rfl, L.at_, T.cl, T.n_liquor, lF_liquor, _, rfl, a, C, dx, _, _, rfl, L.at_, T.cl, T.n_lot, lF_lot, _, _, rfl, rfl, ?_⟩
    refine ⟨_, rfl, a, C, dx, _, _, rfl, L.at_, T.cl, T.n_strengths, lF_strengths, l, _, rfl, L.p.l, (fun q hq => (G.niceS 0 (by decide) q hq).mono (by decide)), (fun i hi => (sumTo_nice G hi).mono (by decide)), fun H1 e1 s1 he1 => ?_⟩
    refine ⟨_, e1, _, rfl, he1, small64 (n := v.liquor + v.lot) (by omega), (sumTo_nice G (Nat.le_refl _)).mono (by decide), fun H2 e2 s2 he2 => ?_⟩
    rw [← Int.natCast_add, rat_nat, sumTo_all] at he2
    have s02 := s1.trans s2
    have L2 := L.same s02
    refine ⟨_, rfl, a, C, dx, _, _, rfl, L2.at_, T.cl, T.n_days, lF_days, (by show 1 ≤ sizeLine; decide), fun d' hd => ?_⟩
    have s3 := same_new (o := .lst [V.int (v.days : Int)]) hd
    have L3 := L2.same s3
    refine ⟨_, rfl, a, C, dx, _, _, rfl, L3.at_, T.cl, T.n_supplied, lF_supplied, _, rfl, a, C, dx, _, _, rfl, L3.at_, T.cl, T.n_tanned, lF_tanned, _, rfl, a, C, dx, _, _, rfl, L3.at_, T.cl, T.n_discharged, lF_discharged, _, rfl, (by show 4 ≤ sizeLine; decide), fun m hm => ?_⟩
    have s4 := same_new (o := .lst [V.ref s', V.ref t, V.ref d, V.ref e2]) hm
    have P4 := L3.p.same s4
    refine ⟨m, [v.supplied, v.tanned, v.discharged, Kp395.content v], rfl, ⟨[s', t, d, e2], upd_same, .cons P4.s (.cons P4.t (.cons P4.d (.cons ((he2.same s3).same s4) .nil)))⟩, (by simp), fun H3 e s5 he => ?_⟩
    refine ⟨d', e, _, _, rfl, rfl, s5 _ _ (s4 _ _ upd_same), he, (by show 1 + 8 ≤ sizeLine; decide), fun q hq => ?_⟩
    exact fin_new k (((s02.trans s3).trans s4).trans s5) ⟨dx, f', r, l, s', t, d, L⟩ hq
theorem ok_preview_days (T : Txt K mg C) : Ok P w K mg base 6 "preview_days" ["line", "count"] (spOp1 K C .previewDays) := by
  obtain ⟨f, fd, F, g, b⟩ := T.d_preview_days
  refine ⟨f, fd, F.ok cs_preview_days (fun vs H Q E h => ?_) (fun cdv A outer s H vs Q E hr h => ⟨_,
      pss_cons (ps_if (pt_not (pt_val (pe_ok (ok_is_day_count T) hr (pa_cons (pv 1) pa_nil)))) (pss_one (ps_ret (pe_lst (pa_cons (pe_k T.k_OUTSIDE) pa_nil)))) pss_nil)
      (pss_one (ps_ret (pe_ok (ok_told_strengths T) hr (pa_cons (pe_ok (ok_after_days T) hr (pa_cons (pv 1) (pa_cons (pe_fld (pv 0) rfl) (pa_cons (pe_fld (pv 0) rfl) (pa_cons (pe_fld (pv 0) rfl) (pa_cons (pe_fld (pv 0) rfl) (pa_cons (pe_fld (pv 0) rfl) pa_nil))))))) pa_nil)))), ?_⟩), g, F.kp, b⟩
  · obtain ⟨a, v, n, x, rfl, _⟩ := h
    rfl
  · obtain ⟨a, v, n, x, rfl, hn, G, LL', k⟩ := h
    have k := RetO.of (v' := v) (r := if Kp395.validDays x then Kp395.fractionsResult (Kp395.runDays v x).strengths else Kp395.single (-22)) rfl k
    refine ⟨_, rfl, _, rfl, _, rfl, ?_⟩
    rw [days_valid]
    cases hv : Kp395.validDays x with
    | false =>
      rw [hv] at k
      exact iteT ⟨(by show 1 ≤ sizeLine; decide), fun p hp => RetO.one LL' k hp⟩
    | true =>
      rw [hv] at k
      refine iteF ?_
      have hx : x ≤ 24 := by
        unfold Kp395.validDays at hv
        rw [Bool.and_eq_true] at hv
        exact of_decide_eq_true hv.2
      have n6 : (Kp395.runDays v x).strengths.length ≤ 6 := by
        rw [days_len]
        exact G.n1
      obtain ⟨dx, f', r, l, s', t, d, L⟩ := LL'
      refine ⟨_, rfl, _, rfl, a, C, dx, _, _, rfl, L.at_, T.cl, T.n_strengths, lF_strengths, _, rfl, a, C, dx, _, _, rfl, L.at_, T.cl, T.n_liquor, lF_liquor, _, rfl, a, C, dx, _, _, rfl, L.at_, T.cl, T.n_lot, lF_lot, ?_⟩
      refine ⟨_, rfl, a, C, dx, _, _, rfl, L.at_, T.cl, T.n_fresh, lF_fresh, _, rfl, a, C, dx, _, _, rfl, L.at_, T.cl, T.n_raw, lF_raw, ?_⟩
      refine ⟨x, l, f', r, v, n, rfl, hx, G, L.p.l, L.p.f, L.p.r, fun H1 e s1 he => ?_⟩
      refine ⟨e, _, rfl, he, by omega, fun H2 p s2 n2 h2 => ?_⟩
      exact k _ p (But.of (s1.trans s2)) (LineAt.same (s1.trans s2) ⟨dx, f', r, l, s', t, d, L⟩) (s1.free n2) h2
/-! the greatest difference -/
def gapsOf (v : Kp395.Line) : List Rat := List.zipWith (fun a b => Kp395.absolute (a - b)) v.strengths (Kp395.steadyState v v.strengths.length)
theorem gaps_len {c : Nat} {v : Kp395.Line} (G : Good c v) : (gapsOf v).length = v.strengths.length := by
  unfold gapsOf
  rw [List.length_zipWith, steady_len G, Nat.min_self]
theorem gaps_get {c : Nat} {v : Kp395.Line} (G : Good c v) {i : Nat} (h : i < v.strengths.length) : (gapsOf v)[i]? = some (Kp395.absolute (v.strengths.getD i 0 - (Kp395.steadyState v v.strengths.length).getD i 0)) := by
  unfold gapsOf
  have h2 : i < (Kp395.steadyState v v.strengths.length).length := by rw [steady_len G]; exact h
  rw [List.getElem?_zipWith, List.getD_eq_getElem?_getD, List.getD_eq_getElem?_getD, List.getElem?_eq_getElem h, List.getElem?_eq_getElem h2]
  rfl
theorem gaps_nice {c : Nat} {v : Kp395.Line} (G : Good c v) : ∀ q ∈ gapsOf v, Nice 685 q := by
  intro q hq
  obtain ⟨i, hi⟩ := List.getElem?_of_mem hq
  have h := (List.getElem?_eq_some_iff.mp hi).1
  rw [gaps_len G] at h
  rw [gaps_get G h] at hi
  cases hi
  exact abs_nice (nice_sub (G.nSt h) (steady_nice G G.n1 _ (getD_mem (by rw [steady_len G]; exact h))))
theorem deviation_is {c : Nat} {v : Kp395.Line} (G : Good c v) : Kp395.deviation v = bestTo (gapsOf v) (gapsOf v).length := by
  unfold bestTo
  rw [List.take_of_length_le (Nat.le_refl _)]
  rfl
theorem ok_deviation (T : Txt K mg C) : Ok P w K mg base 6 "deviation" ["line"] (spOp0 K C .deviation) := by
  obtain ⟨f, fd, F, g, b⟩ := T.d_deviation
  refine ⟨f, fd, F.ok cs_deviation (fun vs H Q E h => ?_) (fun cdv A outer s H vs Q E hr h => ⟨_,
      pss_cons (ps_par (i := 1) (j := 2) rfl cs_deviation.nd rfl rfl (by decide) rfl rfl (pa_cons (pe_ok (ok_steady_of T) hr (pa_cons (pv 0) (pa_cons (pe_callB call_len_seq (by rfl) T.b_len PySem.boot_len (pa_cons (pe_fld (pv 0) rfl) pa_nil)) pa_nil))) (pa_cons (pe_lst pa_nil) pa_nil)) (by rfl))
      (pss_cons (ps_for PassesOwn.never rfl (pi_range1 rfl T.b_range (pa_cons (pe_callB call_len_seq (by rfl) T.b_len PySem.boot_len (pa_cons (pv 1) pa_nil)) pa_nil)) (pg_name (i := 3) cs_deviation.nd rfl (.inl rfl))
        (pss_one (ps_expr (pe_bm PySem.F.plainAttrs_list PySem.F.slot_list_append PySem.F.type_list_append mt_append (pv 2) (pa_cons
          (pe_ok (ok_size T) hr (pa_cons (pe_ok (ok_minus T) hr (pa_cons (pe_ix ix_list (pe_fld (pv 0) rfl) (pv 3) (fun _ _ => rfl)) (pa_cons (pe_ix ix_list (pv 1) (pv 3) (fun _ _ => rfl)) pa_nil))) pa_nil)) pa_nil)))))
      (pss_one (ps_ret (pe_op op_cat (pe_lst (pa_cons pe_int pa_nil)) (pe_ok (ok_numbers_of T) hr (pa_cons (pe_lst (pa_cons (pe_ok (ok_greatest T) hr (pa_cons (pv 2) pa_nil)) pa_nil)) pa_nil)))))), ?_⟩), g, F.kp, b⟩
  · obtain ⟨a, v, n, rfl, _⟩ := h
    rfl
  · obtain ⟨a, v, n, rfl, hn, G, ⟨dx, f', r, l, s', t, d, L⟩, k⟩ := h
    have k := RetO.of (v' := v) (r := Kp395.fractionResult (Kp395.deviation v)) rfl k
    have n0 := G.n0
    have n6 := G.n1
    have sl := steady_len G v.strengths.length
    obtain ⟨xs, hxs, lxs⟩ := L.p.l.len
    refine ⟨_, rfl, _, rfl, a, C, dx, _, _, rfl, L.at_, T.cl, T.n_strengths, lF_strengths, l, _, rfl, .inl (SqL.of hxs), ?_⟩
    rw [lxs]
    refine ⟨a, v.strengths.length, n, v, rfl, n0, n6, G, ⟨dx, f', r, l, s', t, d, L⟩, fun H1 ga s1 hga => ?_⟩
    refine ⟨(by decide), fun pd hpd => ?_⟩
    refine ⟨_, _, rfl, ?_⟩
    obtain ⟨ys, hys, lys⟩ := hga.len
    refine ⟨_, rfl, ga, _, rfl, .inl (SqL.of (same_new hpd _ _ hys)), _, rfl, by omega, by omega, ?_⟩
    rw [lys, sl, Int.toNat_natCast]
    refine for_range (lo := 0) (n := v.strengths.length) (fun i σ H' => ∃ (u : Option V) (ps : List Addr), σ = [some (.ref a), some (.ref ga), some (.ref pd), u] ∧ Same H1 H' ∧ H' pd = some (.lst (ps.map V.ref)) ∧ Paired (Fr K H') ps ((gapsOf v).take i)) ⟨none, [], rfl, same_new hpd, upd_same, .nil⟩ ?_ ?_
    · rintro i σ H' hi ⟨u, ps, rfl, s3, hd3, hp3⟩
      have L3 := (L.same s1).same s3
      obtain ⟨xa, pa, ha1, _, ha2, ha3⟩ := L3.p.l.get hi
      obtain ⟨xb, pb, hb1, _, hb2, hb3⟩ := (hga.same s3).get (i := i) (by omega)
      refine ⟨_, rfl, .inl ⟨rfl, _, SqL.of hd3⟩, ?_⟩
      refine ⟨_, rfl, a, C, dx, _, _, rfl, L3.at_, T.cl, T.n_strengths, lF_strengths, _, rfl, l, _, _, _, rfl, rfl, SqL.of ha1, at_of (Int.zero_add _) ha2, ?_⟩
      refine ⟨_, rfl, _, rfl, ga, _, _, _, rfl, rfl, SqL.of hb1, at_of (Int.zero_add _) hb2, ?_⟩
      refine ⟨pa, pb, _, _, rfl, ha3, hb3, (G.nSt hi).mono (by decide), (steady_nice G n6 _ (getD_mem (by omega))).mono (by decide), fun H4 e4 s4 f4 => ?_⟩
      refine ⟨e4, _, rfl, f4, fun H5 e5 s5 f5 => ?_⟩
      have s45 := s4.trans s5
      have hd5 := s45 _ _ hd3
      have z0 : (ps.map V.ref).length ≤ 6 := by
        have := paired_len hp3
        rw [List.length_take] at this
        rw [List.length_map]
        omega
      have hz : (7 : Nat) < sizeLine := by decide
      refine ⟨pd, _, _, rfl, rfl, hd5, by omega, ?_⟩
      refine ⟨_, ps ++ [e5], rfl, same_upd (s3.trans s45) hpd, ?_, ?_⟩
      · rw [upd_same, List.map_append]
        rfl
      · rw [take_succ_of (gaps_get G hi)]
        exact paired_app (Paired.mapP hp3 fun _ _ z => (z.same s45).updl hd5) (.cons (f5.updl hd5) .nil)
    · rintro σ H' ⟨u, ps, rfl, s3, hd3, hp3⟩
      rw [List.take_of_length_le (by rw [gaps_len G]; exact Nat.le_refl _)] at hp3
      refine ⟨(by show 1 ≤ sizeLine; decide), fun d0 hd0 => ?_⟩
      have s4 := same_new (o := .lst [V.int 0]) hd0
      have hg4 : Frs K _ pd (gapsOf v) := Frs.same s4 ⟨ps, hd3, hp3⟩
      refine ⟨_, rfl, pd, gapsOf v, rfl, hg4, (fun q hq => (gaps_nice G q hq).mono (by decide)), fun H5 p s5 f5 => ?_⟩
      rw [← deviation_is G] at f5
      refine ⟨(by show 1 ≤ sizeLine; decide), fun m hm => ?_⟩
      have s6 := same_new (o := .lst [V.ref p]) hm
      refine ⟨m, [_], rfl, ⟨[p], upd_same, .cons (f5.same s6) .nil⟩, (by simp), fun H7 e s7 he => ?_⟩
      have s57 := (s5.trans s6).trans s7
      refine ⟨d0, e, _, _, rfl, rfl, s57 _ _ upd_same, he, (by show 1 + 2 ≤ sizeLine; decide), fun q hq => ?_⟩
      exact fin_new k (((s1.trans s3).trans s4).trans s57) ⟨dx, f', r, l, s', t, d, L⟩ hq
end
end Tan
end
section
namespace Tan
open PySem PySem.Spec PyProof.Rows L2
/-! ### searches -/
theorem find_none {n : Nat} {p : Nat → Bool} (h : ∀ i, i < n → p i = false) : (List.range n).find? p = none := by
  rw [List.find?_eq_none]
  intro x hx
  rw [h x (List.mem_range.mp hx)]
  exact Bool.false_ne_true
theorem find_some {n i : Nat} {p : Nat → Bool} (hi : i < n) (h : p i = true) (h' : ∀ j, j < i → p j = false) : (List.range n).find? p = some i := by
  rw [List.find?_range_eq_some]
  exact ⟨h, List.mem_range.mpr hi, fun j hj => by rw [h' j hj]; rfl⟩
section
variable {P : Program} {w : World} {K : PySem.W.Frag} {mg : Str → Option Value} {base : Heap} {C : Addr}
theorem ok_pits_needed (T : Txt K mg C) : Ok P w K mg base 7 "pits_needed" ["line", "num", "den"] (spOp2 K C .pitsNeeded) := by
  obtain ⟨f, fd, F, g, b⟩ := T.d_pits_needed
  refine ⟨f, fd, F.ok cs_pits_needed (fun vs H Q E h => ?_) (fun cdv A outer s H vs Q E hr h => ⟨_,
      pss_cons (ps_if (pt_not (pt_val (pe_ok (ok_is_strength T) hr (pa_cons (pv 1) (pa_cons (pv 2) pa_nil))))) (pss_one (ps_ret (pe_lst (pa_cons (pe_k T.k_OUTSIDE) pa_nil)))) pss_nil)
      (pss_cons (ps_set (i := 3) cs_pits_needed.nd rfl (.inl rfl) (pe_ok (ok_share T) hr (pa_cons (pv 1) (pa_cons (pv 2) pa_nil))))
      (pss_cons (ps_for PassesOwn.never rfl (pi_range2 rfl T.b_range (pa_cons pe_int (pa_cons (pe_op op_add (pe_k T.k_MOST_PITS) pe_int) pa_nil))) (pg_name (i := 4) cs_pits_needed.nd rfl (.inl rfl))
        (pss_one (ps_if (pt_val (pe_ok (ok_is_at_least T) hr (pa_cons (pe_ok (ok_steady_lot_of T) hr (pa_cons (pv 0) (pa_cons (pv 4) pa_nil))) (pa_cons (pv 3) pa_nil)))) (pss_one (ps_ret (pe_lst (pa_cons (pv 4) pa_nil)))) pss_nil)))
      (pss_one (ps_ret (pe_lst (pa_cons (pe_k T.k_NOT_THERE) pa_nil)))))), ?_⟩), g, F.kp, b⟩
  · obtain ⟨a, v, n, x, y, rfl, _⟩ := h
    rfl
  · obtain ⟨a, v, n, x, y, rfl, hn, G, LL', k⟩ := h
    have k := RetO.of (v' := v) (r := if Kp395.validFraction x y = false then Kp395.single (-22) else match (List.range Kp395.maxPits).find? fun n => decide (Kp395.toRat x / Kp395.toRat y ≤ Kp395.steadyLot v (n + 1)) with
      | none => Kp395.single (-33)
      | some n => Kp395.single (n + 1 : Nat)) rfl k
    refine ⟨_, rfl, _, rfl, _, _, rfl, _, rfl, ?_⟩
    rw [strength_valid]
    cases hv : Kp395.validFraction x y with
    | false =>
      rw [hv] at k
      exact iteT ⟨(by show 1 ≤ sizeLine; decide), fun p hp => RetO.one LL' k hp⟩
    | true =>
      rw [hv] at k
      refine iteF ?_
      have vf := valid_frac hv
      have nw : Nice 14 (Kp395.toRat x / Kp395.toRat y) := (frac_of vf.1 vf.2.1 vf.2.2).nice
      refine ⟨_, rfl, _, rfl, _, _, rfl, valid_den hv, lt_2_9000 (k := 0) vf.2.2, fun H1 w1 s1 f1 => ?_⟩
      rw [rat_nat, rat_nat] at f1
      refine ⟨_, _, rfl, rfl, 1, 6 + 1, rfl, ⟨by decide, by decide, by decide, by decide⟩, ?_⟩
      refine for_range (lo := 1) (n := 6) (fun i σ H' => ∃ u : Option V, σ = [some (.ref a), some (.int (x : Int)), some (.int (y : Int)), some (.ref w1), u] ∧ Same H H' ∧ Fr K H' w1 (Kp395.toRat x / Kp395.toRat y) ∧ ∀ j, j < i → ¬ Kp395.toRat x / Kp395.toRat y ≤ Kp395.steadyLot v (j + 1)) ⟨none, rfl, s1, f1, fun j hj => absurd hj (Nat.not_lt_zero j)⟩ ?_ ?_
      · rintro i σ H' hi ⟨u, rfl, s2, f2, hj⟩
        have ei : (1 : Int) + (i : Int) = ((i + 1 : Nat) : Int) := by omega
        rw [ei]
        refine ⟨_, rfl, _, rfl, a, i + 1, n, v, rfl, by omega, by omega, G, LL'.same s2, fun H3 e s3 he => ?_⟩
        refine ⟨_, rfl, e, w1, _, _, rfl, he, f2.same s3, (steadyLot_nice G (by omega) (by omega)).mono (by decide), nw.mono (by decide), _, rfl, ?_⟩
        by_cases c : Kp395.toRat x / Kp395.toRat y ≤ Kp395.steadyLot v (i + 1)
        · rw [decide_eq_true c]
          refine iteT ?_
          refine ⟨_, rfl, (by show 1 ≤ sizeLine; decide), fun p hp => ?_⟩
          rw [find_some (n := Kp395.maxPits) (i := i) hi (decide_eq_true c) (fun j h => decide_eq_false (hj j h))] at k
          exact fin_new k (s2.trans s3) LL' hp
        · rw [decide_eq_false c]
          refine iteF ⟨_, rfl, s2.trans s3, f2.same s3, fun j h => ?_⟩
          by_cases hji : j = i
          · rw [hji]; exact c
          · exact hj j (by omega)
      · rintro σ H' ⟨u, rfl, s2, f2, hj⟩
        refine ⟨(by show 1 ≤ sizeLine; decide), fun p hp => ?_⟩
        rw [find_none (n := Kp395.maxPits) (fun j h => decide_eq_false (hj j h))] at k
        exact fin_new k s2 LL' hp
theorem ok_days_needed (T : Txt K mg C) : Ok P w K mg base 5 "days_needed" ["line", "num", "den"] (spOp2 K C .daysNeeded) := by
  obtain ⟨f, fd, F, g, b⟩ := T.d_days_needed
  refine ⟨f, fd, F.ok cs_days_needed (fun vs H Q E h => ?_) (fun cdv A outer s H vs Q E hr h => ⟨_,
      pss_cons (ps_if (pt_not (pt_val (pe_ok (ok_is_strength T) hr (pa_cons (pv 1) (pa_cons (pv 2) pa_nil))))) (pss_one (ps_ret (pe_lst (pa_cons (pe_k T.k_OUTSIDE) pa_nil)))) pss_nil)
      (pss_cons (ps_par (i := 3) (j := 4) rfl cs_days_needed.nd rfl rfl (by decide) rfl rfl (pa_cons (pe_ok (ok_share T) hr (pa_cons (pv 1) (pa_cons (pv 2) pa_nil))) (pa_cons (pe_fld (pv 0) rfl) pa_nil)) (by rfl))
      (pss_cons (ps_for PassesOwn.never rfl (pi_range1 rfl T.b_range (pa_cons (pe_op op_add (pe_k T.k_MOST_DAYS) pe_int) pa_nil)) (pg_name (i := 5) cs_days_needed.nd rfl (.inl rfl))
        (pss_cons (ps_if (pt_val (pe_ok (ok_is_at_least T) hr (pa_cons (pe_ix ix_list (pv 4) (pe_op op_sub (pe_callB call_len_seq (by rfl) T.b_len PySem.boot_len (pa_cons (pv 4) pa_nil)) pe_int) (fun _ _ => rfl)) (pa_cons (pv 3) pa_nil)))) (pss_one (ps_ret (pe_lst (pa_cons (pv 5) pa_nil)))) pss_nil)
        (pss_one (ps_set (i := 4) cs_days_needed.nd rfl (.inl rfl) (pe_ok (ok_after_day T) hr (pa_cons (pv 4) (pa_cons (pe_fld (pv 0) rfl) (pa_cons (pe_fld (pv 0) rfl) (pa_cons (pe_fld (pv 0) rfl) (pa_cons (pe_fld (pv 0) rfl) pa_nil))))))))))
      (pss_one (ps_ret (pe_lst (pa_cons (pe_k T.k_NOT_THERE) pa_nil)))))), ?_⟩), g, F.kp, b⟩
  · obtain ⟨a, v, n, x, y, rfl, _⟩ := h
    rfl
  · obtain ⟨a, v, n, x, y, rfl, hn, G, LL', k⟩ := h
    have k := RetO.of (v' := v) (r := if Kp395.validFraction x y = false then Kp395.single (-22) else match (List.range (Kp395.maxDays + 1)).find? fun n => decide (Kp395.toRat x / Kp395.toRat y ≤ Kp395.lastStrength (Kp395.runDays v n)) with
      | none => Kp395.single (-33)
      | some n => Kp395.single (n : Nat)) rfl k
    refine ⟨_, rfl, _, rfl, _, _, rfl, _, rfl, ?_⟩
    rw [strength_valid]
    cases hv : Kp395.validFraction x y with
    | false =>
      rw [hv] at k
      exact iteT ⟨(by show 1 ≤ sizeLine; decide), fun p hp => RetO.one LL' k hp⟩
    | true =>
      rw [hv] at k
      refine iteF ?_
      have vf := valid_frac hv
      have nw : Nice 14 (Kp395.toRat x / Kp395.toRat y) := (frac_of vf.1 vf.2.1 vf.2.2).nice
      have n0 := G.n0
      have n6 := G.n1
      obtain ⟨dx, f', r, l, s', t, d, L⟩ := LL'
      refine ⟨_, rfl, _, rfl, _, _, rfl, valid_den hv, lt_2_9000 (k := 0) vf.2.2, fun H1 w1 s1 f1 => ?_⟩
      rw [rat_nat, rat_nat] at f1
      have L1 := L.same s1
      refine ⟨_, rfl, a, C, dx, _, _, rfl, L1.at_, T.cl, T.n_strengths, lF_strengths, _, _, rfl, ?_⟩
      refine ⟨_, _, rfl, rfl, 24 + 1, rfl, by decide, by decide, ?_⟩
      refine for_range (lo := 0) (n := 25) (fun i σ H' => ∃ (u : Option V) (m : Addr), σ = [some (.ref a), some (.int (x : Int)), some (.int (y : Int)), some (.ref w1), some (.ref m), u] ∧ Same H H' ∧ Fr K H' w1 (Kp395.toRat x / Kp395.toRat y) ∧ Frs K H' m (Kp395.runDays v i).strengths ∧
          ∀ j, j < i → ¬ Kp395.toRat x / Kp395.toRat y ≤ Kp395.lastStrength (Kp395.runDays v j)) ⟨none, l, rfl, s1, f1, L1.p.l, fun j hj => absurd hj (Nat.not_lt_zero j)⟩ ?_ ?_
      · rintro i σ H' hi ⟨u, m, rfl, s2, f2, hm, hj⟩
        have L2 := L.same s2
        have ln : (Kp395.runDays v i).strengths.length = v.strengths.length := days_len v i
        obtain ⟨xs, p, hxs, lxs, hp, fp⟩ := hm.get (i := v.strengths.length - 1) (by omega)
        have el : Kp395.lastStrength (Kp395.runDays v i) = (Kp395.runDays v i).strengths.getD (v.strengths.length - 1) 0 := by
          unfold Kp395.lastStrength
          rw [last_getD (by omega), ln]
        rw [← el] at fp
        have nl : Nice 600 (Kp395.lastStrength (Kp395.runDays v i)) := G.niceS i (by omega) _ (last_mem (by omega))
        refine ⟨_, rfl, _, rfl, m, _, rfl, .inl (SqL.of hxs), _, _, rfl, rfl, m, _, _, _, rfl, rfl, SqL.of hxs, at_of (j := v.strengths.length - 1) (by omega) hp, ?_⟩
        refine ⟨_, rfl, p, w1, _, _, rfl, fp, f2, nl.mono (by decide), nw.mono (by decide), _, rfl, ?_⟩
        by_cases c : Kp395.toRat x / Kp395.toRat y ≤ Kp395.lastStrength (Kp395.runDays v i)
        · rw [decide_eq_true c]
          refine iteT ?_
          refine ⟨_, rfl, (by show 1 ≤ sizeLine; decide), fun q hq => ?_⟩
          rw [find_some (n := Kp395.maxDays + 1) (i := i) hi (decide_eq_true c) (fun j h => decide_eq_false (hj j h))] at k
          rw [Int.zero_add]
          exact fin_new k s2 ⟨dx, f', r, l, s', t, d, L⟩ hq
        · rw [decide_eq_false c]
          refine iteF ?_
          refine ⟨_, rfl, _, rfl, a, C, dx, _, _, rfl, L2.at_, T.cl, T.n_liquor, lF_liquor, _, rfl, a, C, dx, _, _, rfl, L2.at_, T.cl, T.n_lot, lF_lot, ?_⟩
          refine ⟨_, rfl, a, C, dx, _, _, rfl, L2.at_, T.cl, T.n_fresh, lF_fresh, _, rfl, a, C, dx, _, _, rfl, L2.at_, T.cl, T.n_raw, lF_raw, ?_⟩
          refine ⟨m, f', r, v, n, _, rfl, G, hm, L2.p.f, L2.p.r, by omega, by omega, G.niceS i (by omega), fun H3 m3 s3 h3 => ?_⟩
          rw [← days_str] at h3
          refine ⟨_, m3, rfl, s2.trans s3, f2.same s3, h3, fun j h => ?_⟩
          by_cases hji : j = i
          · rw [hji]; exact c
          · exact hj j (by omega)
      · rintro σ H' ⟨u, m, rfl, s2, f2, hm, hj⟩
        refine ⟨(by show 1 ≤ sizeLine; decide), fun p hp => ?_⟩
        rw [find_none (n := Kp395.maxDays + 1) (fun j h => decide_eq_false (hj j h))] at k
        exact fin_new k s2 ⟨dx, f', r, l, s', t, d, L⟩ hp
end
end Tan
end
section
namespace Tan
/-! ### calls by their numbers -/
def callN : Nat → List Nat → Option Kp395.Call
  | 0, [a, b, c] => some (.create a b c)
  | 1, [a, b] => some (.setFresh a b)
  | 2, [a, b] => some (.setRaw a b)
  | 3, [a, b, c] => some (.setStrength a b c)
  | 4, [] => some .runDay
  | 5, [a] => some (.runDays a)
  | 6, [] => some .getStrengths
  | 7, [] => some .steadyState
  | 8, [a] => some (.steadyLot a)
  | 9, [a] => some (.steadyDischarge a)
  | 10, [a] => some (.portionsLot a)
  | 11, [] => some .deviation
  | 12, [] => some .balance
  | 13, [a, b] => some (.pitsNeeded a b)
  | 14, [a, b] => some (.daysNeeded a b)
  | 15, [a] => some (.previewDays a)
  | 16, [] => some .addPit
  | 17, [a] => some (.removePit a)
  | 18, [a] => some (.countercurrentGain a)
  | 19, [] => some .status
  | _, _ => none
theorem call0 {gs : List Nat} {c : Kp395.Call} (h : callN 0 gs = some c) : ∃ x y z, gs = [x, y, z] ∧ c = .create x y z := by
  match gs, h with
  | [x, y, z], h => exact ⟨x, y, z, rfl, (Option.some.inj h).symm⟩
theorem call1 {gs : List Nat} {c : Kp395.Call} (h : callN 1 gs = some c) : ∃ x y, gs = [x, y] ∧ c = .setFresh x y := by
  match gs, h with
  | [x, y], h => exact ⟨x, y, rfl, (Option.some.inj h).symm⟩
theorem call2 {gs : List Nat} {c : Kp395.Call} (h : callN 2 gs = some c) : ∃ x y, gs = [x, y] ∧ c = .setRaw x y := by
  match gs, h with
  | [x, y], h => exact ⟨x, y, rfl, (Option.some.inj h).symm⟩
theorem call3 {gs : List Nat} {c : Kp395.Call} (h : callN 3 gs = some c) : ∃ x y z, gs = [x, y, z] ∧ c = .setStrength x y z := by
  match gs, h with
  | [x, y, z], h => exact ⟨x, y, z, rfl, (Option.some.inj h).symm⟩
theorem call4 {gs : List Nat} {c : Kp395.Call} (h : callN 4 gs = some c) : c = .runDay := by
  match gs, h with
  | [], h => exact (Option.some.inj h).symm
theorem call5 {gs : List Nat} {c : Kp395.Call} (h : callN 5 gs = some c) : ∃ x, gs = [x] ∧ c = .runDays x := by
  match gs, h with
  | [x], h => exact ⟨x, rfl, (Option.some.inj h).symm⟩
theorem call6 {gs : List Nat} {c : Kp395.Call} (h : callN 6 gs = some c) : c = .getStrengths := by
  match gs, h with
  | [], h => exact (Option.some.inj h).symm
theorem call7 {gs : List Nat} {c : Kp395.Call} (h : callN 7 gs = some c) : c = .steadyState := by
  match gs, h with
  | [], h => exact (Option.some.inj h).symm
theorem call8 {gs : List Nat} {c : Kp395.Call} (h : callN 8 gs = some c) : ∃ x, gs = [x] ∧ c = .steadyLot x := by
  match gs, h with
  | [x], h => exact ⟨x, rfl, (Option.some.inj h).symm⟩
theorem call9 {gs : List Nat} {c : Kp395.Call} (h : callN 9 gs = some c) : ∃ x, gs = [x] ∧ c = .steadyDischarge x := by
  match gs, h with
  | [x], h => exact ⟨x, rfl, (Option.some.inj h).symm⟩
theorem call10 {gs : List Nat} {c : Kp395.Call} (h : callN 10 gs = some c) : ∃ x, gs = [x] ∧ c = .portionsLot x := by
  match gs, h with
  | [x], h => exact ⟨x, rfl, (Option.some.inj h).symm⟩
theorem call11 {gs : List Nat} {c : Kp395.Call} (h : callN 11 gs = some c) : c = .deviation := by
  match gs, h with
  | [], h => exact (Option.some.inj h).symm
theorem call12 {gs : List Nat} {c : Kp395.Call} (h : callN 12 gs = some c) : c = .balance := by
  match gs, h with
  | [], h => exact (Option.some.inj h).symm
theorem call13 {gs : List Nat} {c : Kp395.Call} (h : callN 13 gs = some c) : ∃ x y, gs = [x, y] ∧ c = .pitsNeeded x y := by
  match gs, h with
  | [x, y], h => exact ⟨x, y, rfl, (Option.some.inj h).symm⟩
theorem call14 {gs : List Nat} {c : Kp395.Call} (h : callN 14 gs = some c) : ∃ x y, gs = [x, y] ∧ c = .daysNeeded x y := by
  match gs, h with
  | [x, y], h => exact ⟨x, y, rfl, (Option.some.inj h).symm⟩
theorem call15 {gs : List Nat} {c : Kp395.Call} (h : callN 15 gs = some c) : ∃ x, gs = [x] ∧ c = .previewDays x := by
  match gs, h with
  | [x], h => exact ⟨x, rfl, (Option.some.inj h).symm⟩
theorem call16 {gs : List Nat} {c : Kp395.Call} (h : callN 16 gs = some c) : c = .addPit := by
  match gs, h with
  | [], h => exact (Option.some.inj h).symm
theorem call17 {gs : List Nat} {c : Kp395.Call} (h : callN 17 gs = some c) : ∃ x, gs = [x] ∧ c = .removePit x := by
  match gs, h with
  | [x], h => exact ⟨x, rfl, (Option.some.inj h).symm⟩
theorem call18 {gs : List Nat} {c : Kp395.Call} (h : callN 18 gs = some c) : ∃ x, gs = [x] ∧ c = .countercurrentGain x := by
  match gs, h with
  | [x], h => exact ⟨x, rfl, (Option.some.inj h).symm⟩
theorem call19 {gs : List Nat} {c : Kp395.Call} (h : callN 19 gs = some c) : c = .status := by
  match gs, h with
  | [], h => exact (Option.some.inj h).symm
theorem call_lt {num : Nat} {gs : List Nat} {c : Kp395.Call} (h : callN num gs = some c) : num ≤ 19 := by
  match num, h with
  | 0, _ | 1, _ | 2, _ | 3, _ | 4, _ | 5, _ | 6, _ | 7, _ | 8, _ | 9, _ | 10, _ | 11, _ | 12, _ | 13, _ | 14, _ | 15, _ | 16, _ | 17, _ | 18, _ | 19, _ => omega
  | n + 20, h => simp [callN] at h
def isCh (n : Nat) : Bool := n == 1 || n == 2 || n == 3 || n == 4 || n == 5 || n == 16 || n == 17
def isAs (n : Nat) : Bool := n == 6 || n == 7 || n == 11 || n == 12 || n == 19
theorem step_none {num : Nat} {gs : List Nat} {c : Kp395.Call} (h : callN num gs = some c) (h0 : num ≠ 0) : Kp395.step none c = (none, Kp395.single (-11)) := by
  cases c with
  | create k p l =>
    match num, h with
    | 0, _ => exact absurd rfl h0
    | 1, h => obtain ⟨_, _, _, e⟩ := call1 h; cases e
    | 2, h => obtain ⟨_, _, _, e⟩ := call2 h; cases e
    | 3, h => obtain ⟨_, _, _, _, e⟩ := call3 h; cases e
    | 4, h => cases call4 h
    | 5, h => obtain ⟨_, _, e⟩ := call5 h; cases e
    | 6, h => cases call6 h
    | 7, h => cases call7 h
    | 8, h => obtain ⟨_, _, e⟩ := call8 h; cases e
    | 9, h => obtain ⟨_, _, e⟩ := call9 h; cases e
    | 10, h => obtain ⟨_, _, e⟩ := call10 h; cases e
    | 11, h => cases call11 h
    | 12, h => cases call12 h
    | 13, h => obtain ⟨_, _, _, e⟩ := call13 h; cases e
    | 14, h => obtain ⟨_, _, _, e⟩ := call14 h; cases e
    | 15, h => obtain ⟨_, _, e⟩ := call15 h; cases e
    | 16, h => cases call16 h
    | 17, h => obtain ⟨_, _, e⟩ := call17 h; cases e
    | 18, h => obtain ⟨_, _, e⟩ := call18 h; cases e
    | 19, h => cases call19 h
    | n + 20, h => simp [callN] at h
  | _ => rfl
theorem step_some (v : Kp395.Line) (c : Kp395.Call) : Kp395.step (some v) c = (some (opS v c), ⟨(Kp395.step (some v) c).2.num, (Kp395.step (some v) c).2.nums⟩) := by
  have key : ∀ r : Kp395.State × Kp395.Ans, r.1.isSome = true → r = (some (r.1.getD v), ⟨r.2.num, r.2.nums⟩) := by
    rintro ⟨s, a⟩ h
    cases s with
    | none => cases h
    | some u => rfl
  refine key _ ?_
  cases c with
  | create k p l =>
    show (if Kp395.validPits k && Kp395.validAmount p && Kp395.validAmount l then _ else _ : Kp395.State × Kp395.Ans).1.isSome = true
    split <;> rfl
  | setFresh x y =>
    show (if Kp395.validFraction x y then _ else _ : Kp395.State × Kp395.Ans).1.isSome = true
    split <;> rfl
  | setRaw x y =>
    show (if Kp395.validFraction x y then _ else _ : Kp395.State × Kp395.Ans).1.isSome = true
    split <;> rfl
  | setStrength i x y =>
    show (if Kp395.isPit v i = false then _ else if Kp395.validFraction x y then _ else _ : Kp395.State × Kp395.Ans).1.isSome = true
    split
    · rfl
    · split <;> rfl
  | runDay =>
    show (if Kp395.maxDays ≤ v.days then _ else _ : Kp395.State × Kp395.Ans).1.isSome = true
    split <;> rfl
  | runDays k =>
    show (if Kp395.validDays k = false then _ else if Kp395.maxDays < v.days + k then _ else _ : Kp395.State × Kp395.Ans).1.isSome = true
    split
    · rfl
    · split <;> rfl
  | addPit =>
    show (if Kp395.maxPits ≤ Kp395.pitCount v then _ else _ : Kp395.State × Kp395.Ans).1.isSome = true
    split <;> rfl
  | removePit i =>
    show (if Kp395.isPit v i = false then _ else if Kp395.pitCount v = 1 then _ else _ : Kp395.State × Kp395.Ans).1.isSome = true
    split
    · rfl
    · split <;> rfl
  | _ => rfl
end Tan
end
section
namespace Tan
open PySem PySem.Spec PyProof.Rows L2
/-! ### the desk -/
def gl (gs : List Nat) : List V := gs.map fun (z : Nat) => V.int (z : Int)
theorem dec_yes {n : Nat} {i : Int} (h : (n : Int) = i) : decide (V.int (n : Int) = V.int i) = true := decide_eq_true (congrArg V.int h)
theorem dec_no {n : Nat} {i : Int} (h : ¬ (n : Int) = i) : decide (V.int (n : Int) = V.int i) = false := decide_eq_false fun z => h (V.int.inj z)
def StAt (K : PySem.W.Frag) (C : Addr) (H : Hp) (x : V) : Kp395.State → Prop
  | none => x = .non
  | some v => ∃ a, x = .ref a ∧ LineAt K C H a v
theorem StAt.same {K : PySem.W.Frag} {C : Addr} {H H' : Hp} {x : V} {st : Kp395.State} (e : Same H H') (h : StAt K C H x st) : StAt K C H' x st := by
  cases st with
  | none => exact h
  | some v =>
    obtain ⟨a, e1, L⟩ := h
    exact ⟨a, e1, L.same e⟩
/-- all but the line is as it was -/
def Keep (x : V) (H H' : Hp) : Prop := ∀ b o, H b = some o → x ≠ .ref b → H' b = some o
theorem Keep.of {x : V} {H H' : Hp} (e : Same H H') : Keep x H H' := fun b o h _ => e b o h
theorem Keep.but {a : Addr} {H H' : Hp} (e : But a H H') : Keep (.ref a) H H' := fun b o h n => e b o h fun z => n (by rw [z])
abbrev RetD (K : PySem.W.Frag) (C : Addr) (x : V) (H : Hp) (Q : VK) (r : Kp395.State × Kp395.Ans) : Prop := ∀ H' p y q, Keep x H H' → H' p = some (.tup [y, .ref q]) → StAt K C H' y r.1 → H q = none → H' q = some (.lst ((r.2.num :: r.2.nums).map V.int)) → Q (.ref p) H'
def sizes : List Int := [3, 2, 2, 3, 0, 1, 0, 0, 1, 1, 1, 0, 0, 2, 2, 1, 0, 1, 1, 0]
def spSizeOf : Sp := fun vs H Q _ => ∃ (i : Nat) (z : Int), vs = [.int (i : Int)] ∧ sizes[i]? = some z ∧ Q (.int z) H
def spCreated (K : PySem.W.Frag) (C : Addr) : Sp := fun vs H Q _ => ∃ (x : V) (st : Kp395.State) (k p l : Nat) (g : Addr), vs = [x, .ref g] ∧ StAt K C H x st ∧ H g = some (.lst (gl [k, p, l])) ∧ RetD K C x H Q (Kp395.step st (.create k p l))
def spChanged (K : PySem.W.Frag) (C : Addr) : Sp := fun vs H Q _ => ∃ (a g : Addr) (v : Kp395.Line) (n num : Nat) (gs : List Nat) (c : Kp395.Call), vs = [.ref a, .int (num : Int), .ref g] ∧ H g = some (.lst (gl gs)) ∧ callN num gs = some c ∧ n ≤ 300 ∧ Good n v ∧ LineAt K C H a v ∧
  (isCh num = true → RetO K C a H Q (opS v c) (opA v c)) ∧ (isCh num = false → Q .non H)
def spAskedState (K : PySem.W.Frag) (C : Addr) : Sp := fun vs H Q _ => ∃ (a : Addr) (v : Kp395.Line) (n num : Nat) (gs : List Nat) (c : Kp395.Call), vs = [.ref a, .int (num : Int)] ∧ callN num gs = some c ∧ n ≤ 300 ∧ Good n v ∧ LineAt K C H a v ∧
  (isAs num = true → RetO K C a H Q (opS v c) (opA v c)) ∧ (isAs num = false → Q .non H)
def spAskedWith (K : PySem.W.Frag) (C : Addr) : Sp := fun vs H Q _ => ∃ (a g : Addr) (v : Kp395.Line) (n num : Nat) (gs : List Nat) (c : Kp395.Call), vs = [.ref a, .int (num : Int), .ref g] ∧ H g = some (.lst (gl gs)) ∧ callN num gs = some c ∧ num ≠ 0 ∧ isCh num = false ∧ isAs num = false ∧ n ≤ 300 ∧ Good n v ∧ LineAt K C H a v ∧
  RetO K C a H Q (opS v c) (opA v c)
def spDeskTold (K : PySem.W.Frag) (C : Addr) : Sp := fun vs H Q _ => ∃ (a g : Addr) (v : Kp395.Line) (n num : Nat) (gs : List Nat) (c : Kp395.Call), vs = [.ref a, .int (num : Int), .ref g] ∧ H g = some (.lst (gl gs)) ∧ callN num gs = some c ∧ num ≠ 0 ∧ n ≤ 300 ∧ Good n v ∧ LineAt K C H a v ∧
  RetO K C a H Q (opS v c) (opA v c)
def spDone (K : PySem.W.Frag) (C : Addr) : Sp := fun vs H Q _ => ∃ (x : V) (g : Addr) (st : Kp395.State) (n num : Nat) (gs : List Nat) (c : Kp395.Call), vs = [x, .int (num : Int), .ref g] ∧ H g = some (.lst (gl gs)) ∧ callN num gs = some c ∧ n ≤ 300 ∧ GoodS n st ∧ StAt K C H x st ∧ RetD K C x H Q (Kp395.step st c)
section
variable {P : Program} {w : World} {K : PySem.W.Frag} {mg : Str → Option Value} {base : Heap} {C : Addr}
theorem ok_size_of (T : Txt K mg C) : Ok P w K mg base 1 "size_of" ["number"] spSizeOf := by
  obtain ⟨f, fd, F, g, b⟩ := T.d_size_of
  refine ⟨f, fd, F.ok cs_size_of (fun vs H Q E h => ?_) (fun cdv A outer s H vs Q E hr h => ⟨_, pss_one (ps_ret (pe_ix ix_tup (pe_t T.k_SIZES) (pv 0) (fun _ _ => rfl))), ?_⟩), g, F.kp, b⟩
  · obtain ⟨i, z, rfl, _⟩ := h
    rfl
  · obtain ⟨i, z, rfl, hz, q⟩ := h
    intro a ha
    have hs : SqT K H a (sizes.map V.int) := ha.sq H
    exact ⟨_, rfl, a, _, _, _, rfl, rfl, hs, atI_nat (by rw [List.getElem?_map, hz]; rfl), q⟩
theorem ok_created (T : Txt K mg C) : Ok P w K mg base 3 "created" ["line", "given"] (spCreated K C) := by
  obtain ⟨f, fd, F, g, b⟩ := T.d_created
  obtain ⟨fI, fdI, GI, MI, bI⟩ := ok_init (P := P) (w := w) (base := base) T
  refine ⟨f, fd, F.ok cs_created (fun vs H Q E h => ?_) (fun cdv A outer s H vs Q E hr h => ⟨_,
      pss_cons (ps_asg (pv 1) (pg_unl rfl (pgs_cons (pg_name (i := 2) cs_created.nd rfl (.inl rfl)) (pgs_cons (pg_name (i := 3) cs_created.nd rfl (.inl rfl)) (pgs_cons (pg_name (i := 4) cs_created.nd rfl (.inl rfl)) pgs_nil)))))
      (pss_cons (ps_if (PW.pt (pw_or (pt_not (pt_val (pe_ok (ok_is_pit_count T) hr (pa_cons (pv 2) pa_nil)))) (pw_or (pt_not (pt_val (pe_ok (ok_is_amount T) hr (pa_cons (pv 3) pa_nil)))) (pw_or1 (pt_not (pt_val (pe_ok (ok_is_amount T) hr (pa_cons (pv 4) pa_nil))))))))
        (pss_one (ps_ret (pe_tup (pa_cons (pv 0) (pa_cons (pe_lst (pa_cons (pe_k T.k_OUTSIDE) pa_nil)) pa_nil))))) pss_nil)
      (pss_one (ps_ret (pe_tup (pa_cons (pe_make MI GI hr rfl T.gC bI .nil pass0 (pa_cons (pv 2) (pa_cons (pv 3) (pa_cons (pv 4) pa_nil)))) (pa_cons (pe_lst (pa_cons pe_int pa_nil)) pa_nil)))))), ?_⟩), g, F.kp, b⟩
  · obtain ⟨x, st, k, p, l, g, rfl, _⟩ := h
    rfl
  · obtain ⟨x, st, k, p, l, g, rfl, hst, hg, R⟩ := h
    refine ⟨_, rfl, g, _, rfl, SqL.of hg, rfl, _, _, rfl, _, _, rfl, _, _, rfl, rfl, ?_⟩
    have bad : (Kp395.validPits k && Kp395.validAmount p && Kp395.validAmount l) = false → ∀ q, H q = none → ∀ t, upd H q (.lst [V.int (-22)]) t = none → Q (.ref t) (upd (upd H q (.lst [V.int (-22)])) t (.tup [x, .ref q])) := by
      intro hv q hq t ht
      have e : Kp395.step st (.create k p l) = (st, Kp395.single (-22)) := by
        show (if (Kp395.validPits k && Kp395.validAmount p && Kp395.validAmount l) = true then _ else _) = _
        rw [hv]
        rfl
      rw [e] at R
      have s2 := same_newer (same_new (o := .lst [V.int (-22)]) hq) (o := .tup [x, .ref q]) ht
      exact R _ t x q (Keep.of s2) upd_same (hst.same s2) hq (same_new ht _ _ upd_same)
    refine ⟨_, rfl, _, rfl, _, rfl, ?_⟩
    rw [pits_valid]
    cases h1 : Kp395.validPits k with
    | false =>
      refine iteT (iteT ?_)
      exact ⟨_, rfl, (by show 1 ≤ sizeLine; decide), fun q hq => ⟨(by show 2 ≤ sizeLine; decide), fun t ht => bad (by rw [h1]; rfl) q hq t ht⟩⟩
    | true =>
      refine iteF ?_
      refine ⟨_, rfl, _, rfl, _, rfl, ?_⟩
      rw [amount_valid]
      cases h2 : Kp395.validAmount p with
      | false =>
        refine iteT (iteT ?_)
        exact ⟨_, rfl, (by show 1 ≤ sizeLine; decide), fun q hq => ⟨(by show 2 ≤ sizeLine; decide), fun t ht => bad (by rw [h1, h2]; rfl) q hq t ht⟩⟩
      | true =>
        refine iteF ?_
        refine ⟨_, rfl, _, rfl, _, rfl, ?_⟩
        rw [amount_valid]
        cases h3 : Kp395.validAmount l with
        | false =>
          refine iteT ?_
          exact ⟨_, rfl, (by show 1 ≤ sizeLine; decide), fun q hq => ⟨(by show 2 ≤ sizeLine; decide), fun t ht => bad (by rw [h1, h2, h3]; rfl) q hq t ht⟩⟩
        | true =>
          refine iteF ?_
          have e : Kp395.step st (.create k p l) = (some ⟨p, l, 1, 0, List.replicate k 0, 0, 0, 0, 0⟩, Kp395.single 0) := by
            show (if (Kp395.validPits k && Kp395.validAmount p && Kp395.validAmount l) = true then _ else _) = _
            rw [h1, h2, h3]
            rfl
          rw [e] at R
          have hk : k ≤ 6 := by
            unfold Kp395.validPits at h1
            rw [Bool.and_eq_true] at h1
            exact of_decide_eq_true h1.2
          refine ⟨_, rfl, _, rfl, _, rfl, ?_⟩
          intro a dx na nd ne
          refine ⟨a, dx, k, p, l, rfl, upd_same, hk, fun H1 e1 L1 => ⟨rfl, ?_⟩⟩
          have s1 : Same H H1 := Same.made na nd e1
          refine ⟨(by show 1 ≤ sizeLine; decide), fun q hq => ⟨(by show 2 ≤ sizeLine; decide), fun t ht => ?_⟩⟩
          have s2 := same_newer (same_new (o := .lst [V.int 0]) hq) (o := .tup [V.ref a, V.ref q]) ht
          exact R _ t (.ref a) q (Keep.of (s1.trans s2)) upd_same ⟨a, rfl, L1.same s2⟩ (s1.free hq) (same_new ht _ _ upd_same)
theorem ok_changed (T : Txt K mg C) : Ok P w K mg base 7 "changed" ["line", "number", "given"] (spChanged K C) := by
  obtain ⟨f, fd, F, g, b⟩ := T.d_changed
  refine ⟨f, fd, F.ok cs_changed (fun vs H Q E h => ?_) (fun cdv A outer s H vs Q E hr h => ⟨_,
      pss_cons (ps_if (pt_cmpR op_eq (pv 1) pe_int (nomark _)) (pss_one (ps_ret (pe_ok (ok_set_fresh T) hr (pa_cons (pv 0) (pa_cons (pe_ix ix_list (pv 2) pe_int (fun _ _ => rfl)) (pa_cons (pe_ix ix_list (pv 2) pe_int (fun _ _ => rfl)) pa_nil)))))) pss_nil)
      (pss_cons (ps_if (pt_cmpR op_eq (pv 1) pe_int (nomark _)) (pss_one (ps_ret (pe_ok (ok_set_raw T) hr (pa_cons (pv 0) (pa_cons (pe_ix ix_list (pv 2) pe_int (fun _ _ => rfl)) (pa_cons (pe_ix ix_list (pv 2) pe_int (fun _ _ => rfl)) pa_nil)))))) pss_nil)
      (pss_cons (ps_if (pt_cmpR op_eq (pv 1) pe_int (nomark _)) (pss_one (ps_ret (pe_ok (ok_set_strength T) hr (pa_cons (pv 0) (pa_cons (pe_ix ix_list (pv 2) pe_int (fun _ _ => rfl)) (pa_cons (pe_ix ix_list (pv 2) pe_int (fun _ _ => rfl)) (pa_cons (pe_ix ix_list (pv 2) pe_int (fun _ _ => rfl)) pa_nil))))))) pss_nil)
      (pss_cons (ps_if (pt_cmpR op_eq (pv 1) pe_int (nomark _)) (pss_one (ps_ret (pe_ok (ok_run_day T) hr (pa_cons (pv 0) pa_nil)))) pss_nil)
      (pss_cons (ps_if (pt_cmpR op_eq (pv 1) pe_int (nomark _)) (pss_one (ps_ret (pe_ok (ok_run_days T) hr (pa_cons (pv 0) (pa_cons (pe_ix ix_list (pv 2) pe_int (fun _ _ => rfl)) pa_nil))))) pss_nil)
      (pss_cons (ps_if (pt_cmpR op_eq (pv 1) pe_int (nomark _)) (pss_one (ps_ret (pe_ok (ok_add_pit T) hr (pa_cons (pv 0) pa_nil)))) pss_nil)
      (pss_cons (ps_if (pt_cmpR op_eq (pv 1) pe_int (nomark _)) (pss_one (ps_ret (pe_ok (ok_remove_pit T) hr (pa_cons (pv 0) (pa_cons (pe_ix ix_list (pv 2) pe_int (fun _ _ => rfl)) pa_nil))))) pss_nil)
      (pss_one (ps_ret pe_non)))))))), ?_⟩), g, F.kp, b⟩
  · obtain ⟨a, g, v, n, num, gs, c, rfl, _⟩ := h
    rfl
  · obtain ⟨a, g, v, n, num, gs, c, rfl, hg, hc, hn, G, L, kY, kN⟩ := h
    refine ⟨_, rfl, rfl, _, rfl, ?_⟩
    by_cases c1 : (num : Int) = 1
    · obtain rfl : num = 1 := by omega
      rw [dec_yes c1]
      obtain ⟨x, y, rfl, rfl⟩ := call1 hc
      exact iteT ⟨_, rfl, _, rfl, g, _, _, _, rfl, rfl, SqL.of hg, rfl, _, rfl, g, _, _, _, rfl, rfl, SqL.of hg, rfl, a, v, n, x, y, rfl, hn, G, L, kY rfl⟩
    rw [dec_no c1]
    refine iteF ⟨_, rfl, rfl, _, rfl, ?_⟩
    by_cases c2 : (num : Int) = 2
    · obtain rfl : num = 2 := by omega
      rw [dec_yes c2]
      obtain ⟨x, y, rfl, rfl⟩ := call2 hc
      exact iteT ⟨_, rfl, _, rfl, g, _, _, _, rfl, rfl, SqL.of hg, rfl, _, rfl, g, _, _, _, rfl, rfl, SqL.of hg, rfl, a, v, n, x, y, rfl, hn, G, L, kY rfl⟩
    rw [dec_no c2]
    refine iteF ⟨_, rfl, rfl, _, rfl, ?_⟩
    by_cases c3 : (num : Int) = 3
    · obtain rfl : num = 3 := by omega
      rw [dec_yes c3]
      obtain ⟨x, y, z, rfl, rfl⟩ := call3 hc
      exact iteT ⟨_, rfl, _, rfl, g, _, _, _, rfl, rfl, SqL.of hg, rfl, _, rfl, g, _, _, _, rfl, rfl, SqL.of hg, rfl, _, rfl, g, _, _, _, rfl, rfl, SqL.of hg, rfl, a, v, n, x, y, z, rfl, hn, G, L, kY rfl⟩
    rw [dec_no c3]
    refine iteF ⟨_, rfl, rfl, _, rfl, ?_⟩
    by_cases c4 : (num : Int) = 4
    · obtain rfl : num = 4 := by omega
      rw [dec_yes c4]
      obtain rfl := call4 hc
      exact iteT ⟨_, rfl, a, v, n, rfl, hn, G, L, kY rfl⟩
    rw [dec_no c4]
    refine iteF ⟨_, rfl, rfl, _, rfl, ?_⟩
    by_cases c5 : (num : Int) = 5
    · obtain rfl : num = 5 := by omega
      rw [dec_yes c5]
      obtain ⟨x, rfl, rfl⟩ := call5 hc
      exact iteT ⟨_, rfl, _, rfl, g, _, _, _, rfl, rfl, SqL.of hg, rfl, a, v, n, x, rfl, hn, G, L, kY rfl⟩
    rw [dec_no c5]
    refine iteF ⟨_, rfl, rfl, _, rfl, ?_⟩
    by_cases c16 : (num : Int) = 16
    · obtain rfl : num = 16 := by omega
      rw [dec_yes c16]
      obtain rfl := call16 hc
      exact iteT ⟨_, rfl, a, v, n, rfl, hn, G, L, kY rfl⟩
    rw [dec_no c16]
    refine iteF ⟨_, rfl, rfl, _, rfl, ?_⟩
    by_cases c17 : (num : Int) = 17
    · obtain rfl : num = 17 := by omega
      rw [dec_yes c17]
      obtain ⟨x, rfl, rfl⟩ := call17 hc
      exact iteT ⟨_, rfl, _, rfl, g, _, _, _, rfl, rfl, SqL.of hg, rfl, a, v, n, x, rfl, hn, G, L, kY rfl⟩
    rw [dec_no c17]
    refine iteF (kN ?_)
    unfold isCh
    simp only [Bool.or_eq_false_iff, beq_eq_false_iff_ne]
    omega
theorem ok_asked_state (T : Txt K mg C) : Ok P w K mg base 7 "asked_state" ["line", "number"] (spAskedState K C) := by
  obtain ⟨f, fd, F, g, b⟩ := T.d_asked_state
  refine ⟨f, fd, F.ok cs_asked_state (fun vs H Q E h => ?_) (fun cdv A outer s H vs Q E hr h => ⟨_,
      pss_cons (ps_if (pt_cmpR op_eq (pv 1) pe_int (nomark _)) (pss_one (ps_ret (pe_ok (ok_get_strengths T) hr (pa_cons (pv 0) pa_nil)))) pss_nil)
      (pss_cons (ps_if (pt_cmpR op_eq (pv 1) pe_int (nomark _)) (pss_one (ps_ret (pe_ok (ok_steady_state T) hr (pa_cons (pv 0) pa_nil)))) pss_nil)
      (pss_cons (ps_if (pt_cmpR op_eq (pv 1) pe_int (nomark _)) (pss_one (ps_ret (pe_ok (ok_deviation T) hr (pa_cons (pv 0) pa_nil)))) pss_nil)
      (pss_cons (ps_if (pt_cmpR op_eq (pv 1) pe_int (nomark _)) (pss_one (ps_ret (pe_ok (ok_balance T) hr (pa_cons (pv 0) pa_nil)))) pss_nil)
      (pss_cons (ps_if (pt_cmpR op_eq (pv 1) pe_int (nomark _)) (pss_one (ps_ret (pe_ok (ok_status T) hr (pa_cons (pv 0) pa_nil)))) pss_nil)
      (pss_one (ps_ret pe_non)))))), ?_⟩), g, F.kp, b⟩
  · obtain ⟨a, v, n, num, gs, c, rfl, _⟩ := h
    rfl
  · obtain ⟨a, v, n, num, gs, c, rfl, hc, hn, G, L, kY, kN⟩ := h
    refine ⟨_, rfl, rfl, _, rfl, ?_⟩
    by_cases c6 : (num : Int) = 6
    · obtain rfl : num = 6 := by omega
      rw [dec_yes c6]
      obtain rfl := call6 hc
      exact iteT ⟨_, rfl, a, v, n, rfl, hn, G, L, kY rfl⟩
    rw [dec_no c6]
    refine iteF ⟨_, rfl, rfl, _, rfl, ?_⟩
    by_cases c7 : (num : Int) = 7
    · obtain rfl : num = 7 := by omega
      rw [dec_yes c7]
      obtain rfl := call7 hc
      exact iteT ⟨_, rfl, a, v, n, rfl, hn, G, L, kY rfl⟩
    rw [dec_no c7]
    refine iteF ⟨_, rfl, rfl, _, rfl, ?_⟩
    by_cases c11 : (num : Int) = 11
    · obtain rfl : num = 11 := by omega
      rw [dec_yes c11]
      obtain rfl := call11 hc
      exact iteT ⟨_, rfl, a, v, n, rfl, hn, G, L, kY rfl⟩
    rw [dec_no c11]
    refine iteF ⟨_, rfl, rfl, _, rfl, ?_⟩
    by_cases c12 : (num : Int) = 12
    · obtain rfl : num = 12 := by omega
      rw [dec_yes c12]
      obtain rfl := call12 hc
      exact iteT ⟨_, rfl, a, v, n, rfl, hn, G, L, kY rfl⟩
    rw [dec_no c12]
    refine iteF ⟨_, rfl, rfl, _, rfl, ?_⟩
    by_cases c19 : (num : Int) = 19
    · obtain rfl : num = 19 := by omega
      rw [dec_yes c19]
      obtain rfl := call19 hc
      exact iteT ⟨_, rfl, a, v, n, rfl, hn, G, L, kY rfl⟩
    rw [dec_no c19]
    refine iteF (kN ?_)
    unfold isAs
    simp only [Bool.or_eq_false_iff, beq_eq_false_iff_ne]
    omega
theorem ok_asked_with (T : Txt K mg C) : Ok P w K mg base 8 "asked_with" ["line", "number", "given"] (spAskedWith K C) := by
  obtain ⟨f, fd, F, g, b⟩ := T.d_asked_with
  refine ⟨f, fd, F.ok cs_asked_with (fun vs H Q E h => ?_) (fun cdv A outer s H vs Q E hr h => ⟨_,
      pss_cons (ps_if (pt_cmpR op_eq (pv 1) pe_int (nomark _)) (pss_one (ps_ret (pe_ok (ok_steady_lot T) hr (pa_cons (pv 0) (pa_cons (pe_ix ix_list (pv 2) pe_int (fun _ _ => rfl)) pa_nil))))) pss_nil)
      (pss_cons (ps_if (pt_cmpR op_eq (pv 1) pe_int (nomark _)) (pss_one (ps_ret (pe_ok (ok_steady_discharge T) hr (pa_cons (pv 0) (pa_cons (pe_ix ix_list (pv 2) pe_int (fun _ _ => rfl)) pa_nil))))) pss_nil)
      (pss_cons (ps_if (pt_cmpR op_eq (pv 1) pe_int (nomark _)) (pss_one (ps_ret (pe_ok (ok_portions_lot T) hr (pa_cons (pv 0) (pa_cons (pe_ix ix_list (pv 2) pe_int (fun _ _ => rfl)) pa_nil))))) pss_nil)
      (pss_cons (ps_if (pt_cmpR op_eq (pv 1) pe_int (nomark _)) (pss_one (ps_ret (pe_ok (ok_pits_needed T) hr (pa_cons (pv 0) (pa_cons (pe_ix ix_list (pv 2) pe_int (fun _ _ => rfl)) (pa_cons (pe_ix ix_list (pv 2) pe_int (fun _ _ => rfl)) pa_nil)))))) pss_nil)
      (pss_cons (ps_if (pt_cmpR op_eq (pv 1) pe_int (nomark _)) (pss_one (ps_ret (pe_ok (ok_days_needed T) hr (pa_cons (pv 0) (pa_cons (pe_ix ix_list (pv 2) pe_int (fun _ _ => rfl)) (pa_cons (pe_ix ix_list (pv 2) pe_int (fun _ _ => rfl)) pa_nil)))))) pss_nil)
      (pss_cons (ps_if (pt_cmpR op_eq (pv 1) pe_int (nomark _)) (pss_one (ps_ret (pe_ok (ok_preview_days T) hr (pa_cons (pv 0) (pa_cons (pe_ix ix_list (pv 2) pe_int (fun _ _ => rfl)) pa_nil))))) pss_nil)
      (pss_one (ps_ret (pe_ok (ok_countercurrent_gain T) hr (pa_cons (pv 0) (pa_cons (pe_ix ix_list (pv 2) pe_int (fun _ _ => rfl)) pa_nil)))))))))), ?_⟩), g, F.kp, b⟩
  · obtain ⟨a, g, v, n, num, gs, c, rfl, _⟩ := h
    rfl
  · obtain ⟨a, g, v, n, num, gs, c, rfl, hg, hc, h0, hC, hA, hn, G, L, k⟩ := h
    have hl := call_lt hc
    refine ⟨_, rfl, rfl, _, rfl, ?_⟩
    by_cases c8 : (num : Int) = 8
    · obtain rfl : num = 8 := by omega
      rw [dec_yes c8]
      obtain ⟨x, rfl, rfl⟩ := call8 hc
      exact iteT ⟨_, rfl, _, rfl, g, _, _, _, rfl, rfl, SqL.of hg, rfl, a, v, n, x, rfl, hn, G, L, k⟩
    rw [dec_no c8]
    refine iteF ⟨_, rfl, rfl, _, rfl, ?_⟩
    by_cases c9 : (num : Int) = 9
    · obtain rfl : num = 9 := by omega
      rw [dec_yes c9]
      obtain ⟨x, rfl, rfl⟩ := call9 hc
      exact iteT ⟨_, rfl, _, rfl, g, _, _, _, rfl, rfl, SqL.of hg, rfl, a, v, n, x, rfl, hn, G, L, k⟩
    rw [dec_no c9]
    refine iteF ⟨_, rfl, rfl, _, rfl, ?_⟩
    by_cases c10 : (num : Int) = 10
    · obtain rfl : num = 10 := by omega
      rw [dec_yes c10]
      obtain ⟨x, rfl, rfl⟩ := call10 hc
      exact iteT ⟨_, rfl, _, rfl, g, _, _, _, rfl, rfl, SqL.of hg, rfl, a, v, n, x, rfl, hn, G, L, k⟩
    rw [dec_no c10]
    refine iteF ⟨_, rfl, rfl, _, rfl, ?_⟩
    by_cases c13 : (num : Int) = 13
    · obtain rfl : num = 13 := by omega
      rw [dec_yes c13]
      obtain ⟨x, y, rfl, rfl⟩ := call13 hc
      exact iteT ⟨_, rfl, _, rfl, g, _, _, _, rfl, rfl, SqL.of hg, rfl, _, rfl, g, _, _, _, rfl, rfl, SqL.of hg, rfl, a, v, n, x, y, rfl, hn, G, L, k⟩
    rw [dec_no c13]
    refine iteF ⟨_, rfl, rfl, _, rfl, ?_⟩
    by_cases c14 : (num : Int) = 14
    · obtain rfl : num = 14 := by omega
      rw [dec_yes c14]
      obtain ⟨x, y, rfl, rfl⟩ := call14 hc
      exact iteT ⟨_, rfl, _, rfl, g, _, _, _, rfl, rfl, SqL.of hg, rfl, _, rfl, g, _, _, _, rfl, rfl, SqL.of hg, rfl, a, v, n, x, y, rfl, hn, G, L, k⟩
    rw [dec_no c14]
    refine iteF ⟨_, rfl, rfl, _, rfl, ?_⟩
    by_cases c15 : (num : Int) = 15
    · obtain rfl : num = 15 := by omega
      rw [dec_yes c15]
      obtain ⟨x, rfl, rfl⟩ := call15 hc
      exact iteT ⟨_, rfl, _, rfl, g, _, _, _, rfl, rfl, SqL.of hg, rfl, a, v, n, x, rfl, hn, G, L, k⟩
    rw [dec_no c15]
    refine iteF ?_
    obtain rfl : num = 18 := by
      unfold isCh at hC
      unfold isAs at hA
      simp only [Bool.or_eq_false_iff, beq_eq_false_iff_ne] at hC hA
      omega
    obtain ⟨x, rfl, rfl⟩ := call18 hc
    exact ⟨_, rfl, _, rfl, g, _, _, _, rfl, rfl, SqL.of hg, rfl, a, v, n, x, rfl, hn, G, L, k⟩
theorem ref_non (p : Addr) : decide (V.ref p = V.non) = false := decide_eq_false (by intro z; cases z)
theorem ok_told (T : Txt K mg C) : Ok P w K mg base 9 "told" ["line", "number", "given"] (spDeskTold K C) := by
  obtain ⟨f, fd, F, g, b⟩ := T.d_told
  refine ⟨f, fd, F.ok cs_told (fun vs H Q E h => ?_) (fun cdv A outer s H vs Q E hr h => ⟨_,
      pss_cons (ps_set (i := 3) cs_told.nd rfl (.inl rfl) (pe_ok (ok_changed T) hr (pa_cons (pv 0) (pa_cons (pv 1) (pa_cons (pv 2) pa_nil)))))
      (pss_cons (ps_if (pt_cmpR op_isN (pv 3) pe_non (nomark _)) (pss_one (ps_set (i := 3) cs_told.nd rfl (.inl rfl) (pe_ok (ok_asked_state T) hr (pa_cons (pv 0) (pa_cons (pv 1) pa_nil))))) pss_nil)
      (pss_cons (ps_if (pt_cmpR op_isN (pv 3) pe_non (nomark _)) (pss_one (ps_set (i := 3) cs_told.nd rfl (.inl rfl) (pe_ok (ok_asked_with T) hr (pa_cons (pv 0) (pa_cons (pv 1) (pa_cons (pv 2) pa_nil)))))) pss_nil)
      (pss_one (ps_ret (pv 3))))), ?_⟩), g, F.kp, b⟩
  · obtain ⟨a, g, v, n, num, gs, c, rfl, _⟩ := h
    rfl
  · obtain ⟨a, g, v, n, num, gs, c, rfl, hg, hc, h0, hn, G, L, k⟩ := h
    refine ⟨_, rfl, _, rfl, _, rfl, a, g, v, n, num, gs, c, rfl, hg, hc, hn, G, L, fun hC => ?_, fun hC => ?_⟩
    · intro H1 p e1 L1 n1 h1
      refine ⟨_, rfl, rfl, _, rfl, ?_⟩
      rw [ref_non]
      refine iteF ⟨_, rfl, rfl, _, rfl, ?_⟩
      rw [ref_non]
      exact iteF ⟨_, rfl, k _ p e1 L1 n1 h1⟩
    · refine ⟨_, rfl, rfl, _, rfl, ?_⟩
      refine iteT ?_
      refine ⟨_, rfl, _, rfl, a, v, n, num, gs, c, rfl, hc, hn, G, L, fun hA => ?_, fun hA => ?_⟩
      · intro H1 p e1 L1 n1 h1
        refine ⟨_, rfl, rfl, _, rfl, ?_⟩
        rw [ref_non]
        exact iteF ⟨_, rfl, k _ p e1 L1 n1 h1⟩
      · refine ⟨_, rfl, rfl, _, rfl, ?_⟩
        refine iteT ?_
        refine ⟨_, rfl, _, rfl, _, rfl, a, g, v, n, num, gs, c, rfl, hg, hc, h0, hC, hA, hn, G, L, ?_⟩
        intro H1 p e1 L1 n1 h1
        exact ⟨_, rfl, k _ p e1 L1 n1 h1⟩
theorem ok_done (T : Txt K mg C) : Ok P w K mg base 10 "done" ["line", "number", "given"] (spDone K C) := by
  obtain ⟨f, fd, F, g, b⟩ := T.d_done
  refine ⟨f, fd, F.ok cs_done (fun vs H Q E h => ?_) (fun cdv A outer s H vs Q E hr h => ⟨_,
      pss_cons (ps_if (pt_cmpR op_eq (pv 1) (pe_k T.k_CREATE) (nomark _)) (pss_one (ps_ret (pe_ok (ok_created T) hr (pa_cons (pv 0) (pa_cons (pv 2) pa_nil))))) pss_nil)
      (pss_cons (ps_if (pt_cmpR op_isN (pv 0) pe_non (nomark _)) (pss_one (ps_ret (pe_tup (pa_cons pe_non (pa_cons (pe_lst (pa_cons (pe_k T.k_NO_LINE) pa_nil)) pa_nil))))) pss_nil)
      (pss_one (ps_ret (pe_tup (pa_cons (pv 0) (pa_cons (pe_ok (ok_told T) hr (pa_cons (pv 0) (pa_cons (pv 1) (pa_cons (pv 2) pa_nil)))) pa_nil)))))), ?_⟩), g, F.kp, b⟩
  · obtain ⟨x, g, st, n, num, gs, c, rfl, _⟩ := h
    rfl
  · obtain ⟨x, g, st, n, num, gs, c, rfl, hg, hc, hn, GS, hst, R⟩ := h
    refine ⟨_, rfl, rfl, _, rfl, ?_⟩
    by_cases c0 : (num : Int) = 0
    · obtain rfl : num = 0 := by omega
      rw [dec_yes c0]
      obtain ⟨k, p, l, rfl, rfl⟩ := call0 hc
      exact iteT ⟨_, rfl, _, rfl, x, st, k, p, l, g, rfl, hst, hg, R⟩
    rw [dec_no c0]
    have h0 : num ≠ 0 := by omega
    refine iteF ⟨_, rfl, rfl, _, rfl, ?_⟩
    cases st with
    | none =>
      obtain rfl : x = .non := hst
      rw [step_none hc h0] at R
      refine iteT ?_
      refine ⟨(by show 1 ≤ sizeLine; decide), fun q hq => ⟨(by show 2 ≤ sizeLine; decide), fun t ht => ?_⟩⟩
      have s2 := same_newer (same_new (o := .lst [V.int (-11)]) hq) (o := .tup [V.non, V.ref q]) ht
      exact R _ t .non q (Keep.of s2) upd_same rfl hq (same_new ht _ _ upd_same)
    | some v =>
      obtain ⟨a, rfl, L⟩ := hst
      rw [step_some v c] at R
      rw [ref_non]
      refine iteF ?_
      refine ⟨_, rfl, _, rfl, _, rfl, _, rfl, a, g, v, n, num, gs, c, rfl, hg, hc, h0, hn, GS, L, fun H1 q e1 L1 n1 h1 => ?_⟩
      refine ⟨(by show 2 ≤ sizeLine; decide), fun t ht => ?_⟩
      have s2 := same_new (o := .tup [V.ref a, V.ref q]) ht
      exact R _ t (.ref a) q (Keep.but (e1.trans (But.of s2))) upd_same ⟨a, rfl, L1.same s2⟩ n1 (s2 _ _ h1)
end
end Tan
end
section
namespace Tan
/-! ### the request, call by call -/
theorem shape_some {p : Int} {n k : Nat} (h : PyKp395.shape p = some (n, k)) : ∃ num : Nat, p = (num : Int) ∧ k = 0 ∧ num ≤ 19 ∧ sizes[num]? = some (n : Int) := by
  unfold PyKp395.shape at h
  by_cases c0 : p = 0
  · rw [if_pos c0] at h
    cases h
    exact ⟨0, c0, rfl, by decide, rfl⟩
  rw [if_neg c0] at h
  by_cases c1 : p = 1
  · rw [if_pos c1] at h
    cases h
    exact ⟨1, c1, rfl, by decide, rfl⟩
  rw [if_neg c1] at h
  by_cases c2 : p = 2
  · rw [if_pos c2] at h
    cases h
    exact ⟨2, c2, rfl, by decide, rfl⟩
  rw [if_neg c2] at h
  by_cases c3 : p = 3
  · rw [if_pos c3] at h
    cases h
    exact ⟨3, c3, rfl, by decide, rfl⟩
  rw [if_neg c3] at h
  by_cases c4 : p = 4
  · rw [if_pos c4] at h
    cases h
    exact ⟨4, c4, rfl, by decide, rfl⟩
  rw [if_neg c4] at h
  by_cases c5 : p = 5
  · rw [if_pos c5] at h
    cases h
    exact ⟨5, c5, rfl, by decide, rfl⟩
  rw [if_neg c5] at h
  by_cases c6 : p = 6
  · rw [if_pos c6] at h
    cases h
    exact ⟨6, c6, rfl, by decide, rfl⟩
  rw [if_neg c6] at h
  by_cases c7 : p = 7
  · rw [if_pos c7] at h
    cases h
    exact ⟨7, c7, rfl, by decide, rfl⟩
  rw [if_neg c7] at h
  by_cases c8 : p = 8
  · rw [if_pos c8] at h
    cases h
    exact ⟨8, c8, rfl, by decide, rfl⟩
  rw [if_neg c8] at h
  by_cases c9 : p = 9
  · rw [if_pos c9] at h
    cases h
    exact ⟨9, c9, rfl, by decide, rfl⟩
  rw [if_neg c9] at h
  by_cases c10 : p = 10
  · rw [if_pos c10] at h
    cases h
    exact ⟨10, c10, rfl, by decide, rfl⟩
  rw [if_neg c10] at h
  by_cases c11 : p = 11
  · rw [if_pos c11] at h
    cases h
    exact ⟨11, c11, rfl, by decide, rfl⟩
  rw [if_neg c11] at h
  by_cases c12 : p = 12
  · rw [if_pos c12] at h
    cases h
    exact ⟨12, c12, rfl, by decide, rfl⟩
  rw [if_neg c12] at h
  by_cases c13 : p = 13
  · rw [if_pos c13] at h
    cases h
    exact ⟨13, c13, rfl, by decide, rfl⟩
  rw [if_neg c13] at h
  by_cases c14 : p = 14
  · rw [if_pos c14] at h
    cases h
    exact ⟨14, c14, rfl, by decide, rfl⟩
  rw [if_neg c14] at h
  by_cases c15 : p = 15
  · rw [if_pos c15] at h
    cases h
    exact ⟨15, c15, rfl, by decide, rfl⟩
  rw [if_neg c15] at h
  by_cases c16 : p = 16
  · rw [if_pos c16] at h
    cases h
    exact ⟨16, c16, rfl, by decide, rfl⟩
  rw [if_neg c16] at h
  by_cases c17 : p = 17
  · rw [if_pos c17] at h
    cases h
    exact ⟨17, c17, rfl, by decide, rfl⟩
  rw [if_neg c17] at h
  by_cases c18 : p = 18
  · rw [if_pos c18] at h
    cases h
    exact ⟨18, c18, rfl, by decide, rfl⟩
  rw [if_neg c18] at h
  by_cases c19 : p = 19
  · rw [if_pos c19] at h
    cases h
    exact ⟨19, c19, rfl, by decide, rfl⟩
  rw [if_neg c19] at h
  cases h
theorem call_of {num : Nat} {L : List Int} (hn : num ≤ 19) (h : sizes[num]? = some (L.length : Int)) : ∃ c, callN num (L.map Int.toNat) = some c ∧ Kp395Neutral.callOf (PyKp395.whole [(num : Int) :: L]) = some c := by
  match num, h with
  | 0, h =>
    have h : L.length = 3 := by have := Option.some.inj h; omega
    match L, h with
    | [x, y, z], _ => exact ⟨_, rfl, rfl⟩
  | 1, h =>
    have h : L.length = 2 := by have := Option.some.inj h; omega
    match L, h with
    | [x, y], _ => exact ⟨_, rfl, rfl⟩
  | 2, h =>
    have h : L.length = 2 := by have := Option.some.inj h; omega
    match L, h with
    | [x, y], _ => exact ⟨_, rfl, rfl⟩
  | 3, h =>
    have h : L.length = 3 := by have := Option.some.inj h; omega
    match L, h with
    | [x, y, z], _ => exact ⟨_, rfl, rfl⟩
  | 4, h =>
    have h : L.length = 0 := by have := Option.some.inj h; omega
    match L, h with
    | [], _ => exact ⟨_, rfl, rfl⟩
  | 5, h =>
    have h : L.length = 1 := by have := Option.some.inj h; omega
    match L, h with
    | [x], _ => exact ⟨_, rfl, rfl⟩
  | 6, h =>
    have h : L.length = 0 := by have := Option.some.inj h; omega
    match L, h with
    | [], _ => exact ⟨_, rfl, rfl⟩
  | 7, h =>
    have h : L.length = 0 := by have := Option.some.inj h; omega
    match L, h with
    | [], _ => exact ⟨_, rfl, rfl⟩
  | 8, h =>
    have h : L.length = 1 := by have := Option.some.inj h; omega
    match L, h with
    | [x], _ => exact ⟨_, rfl, rfl⟩
  | 9, h =>
    have h : L.length = 1 := by have := Option.some.inj h; omega
    match L, h with
    | [x], _ => exact ⟨_, rfl, rfl⟩
  | 10, h =>
    have h : L.length = 1 := by have := Option.some.inj h; omega
    match L, h with
    | [x], _ => exact ⟨_, rfl, rfl⟩
  | 11, h =>
    have h : L.length = 0 := by have := Option.some.inj h; omega
    match L, h with
    | [], _ => exact ⟨_, rfl, rfl⟩
  | 12, h =>
    have h : L.length = 0 := by have := Option.some.inj h; omega
    match L, h with
    | [], _ => exact ⟨_, rfl, rfl⟩
  | 13, h =>
    have h : L.length = 2 := by have := Option.some.inj h; omega
    match L, h with
    | [x, y], _ => exact ⟨_, rfl, rfl⟩
  | 14, h =>
    have h : L.length = 2 := by have := Option.some.inj h; omega
    match L, h with
    | [x, y], _ => exact ⟨_, rfl, rfl⟩
  | 15, h =>
    have h : L.length = 1 := by have := Option.some.inj h; omega
    match L, h with
    | [x], _ => exact ⟨_, rfl, rfl⟩
  | 16, h =>
    have h : L.length = 0 := by have := Option.some.inj h; omega
    match L, h with
    | [], _ => exact ⟨_, rfl, rfl⟩
  | 17, h =>
    have h : L.length = 1 := by have := Option.some.inj h; omega
    match L, h with
    | [x], _ => exact ⟨_, rfl, rfl⟩
  | 18, h =>
    have h : L.length = 1 := by have := Option.some.inj h; omega
    match L, h with
    | [x], _ => exact ⟨_, rfl, rfl⟩
  | 19, h =>
    have h : L.length = 0 := by have := Option.some.inj h; omega
    match L, h with
    | [], _ => exact ⟨_, rfl, rfl⟩
  | n + 20, h => omega
theorem nat_back : ∀ {L : List Int}, (∀ z ∈ L, 0 ≤ z) → (L.map Int.toNat).map (fun (z : Nat) => (z : Int)) = L
  | [], _ => rfl
  | a :: r, h => by
    rw [List.map_cons, List.map_cons, nat_back fun z hz => h z (List.mem_cons_of_mem _ hz), Int.toNat_of_nonneg (h a List.mem_cons_self)]
/-- the first call of what is left, and the rest -/
theorem parse_turn {f : Nat} {p : Int} {r : List Int} {cs : List (List (List Int))} (hr : ∀ z ∈ r, 0 ≤ z) (h : PyFlat.calls PyKp395.shape f (p :: r) = some cs) :
    ∃ (g k num : Nat) (c : Kp395.Call) (cs' : List (List (List Int))), p = (num : Int) ∧ sizes[num]? = some (k : Int) ∧ k ≤ r.length ∧ callN num ((r.take k).map Int.toNat) = some c ∧ PyFlat.calls PyKp395.shape g (r.drop k) = some cs' ∧
      (cs.map PyKp395.whole) = PyKp395.whole [p :: r.take k] :: cs'.map PyKp395.whole ∧ Kp395Neutral.callOf (PyKp395.whole [p :: r.take k]) = some c := by
  cases f with
  | zero => cases h
  | succ g =>
    unfold PyFlat.calls PyFlat.call at h
    dsimp only at h
    cases e : PyKp395.shape p with
    | none =>
      rw [e] at h
      cases h
    | some nk =>
      obtain ⟨n, k⟩ := nk
      obtain ⟨num, hp, rfl, h19, hs⟩ := shape_some e
      rw [e] at h
      dsimp only at h
      by_cases hl : r.length < n
      · rw [if_pos hl] at h
        cases h
      · rw [if_neg hl] at h
        dsimp only [PyFlat.rows] at h
        cases e2 : PyFlat.calls PyKp395.shape g (r.drop n) with
        | none =>
          rw [e2] at h
          cases h
        | some cs' =>
          rw [e2] at h
          have h := Option.some.inj h
          have lt : (r.take n).length = n := by rw [List.length_take]; omega
          obtain ⟨c, hc1, hc2⟩ := call_of (num := num) (L := r.take n) h19 (by rw [lt]; exact hs)
          subst hp
          refine ⟨g, n, num, c, cs', rfl, hs, by omega, hc1, e2, ?_, hc2⟩
          rw [← h]
          rfl
def toldOf (st : Kp395.State) (cs : List (List (List Int))) : List Int := PyFlat.told (PyFlat.played Kp395Neutral.step st (cs.map PyKp395.whole))
theorem told_turn {st : Kp395.State} {c : Kp395.Call} {x : List (List Int)} {cs cs' : List (List (List Int))} (h : cs.map PyKp395.whole = x :: cs'.map PyKp395.whole) (hc : Kp395Neutral.callOf x = some c) :
    toldOf st cs = (((((Kp395.step st c).2.num :: (Kp395.step st c).2.nums).length : Nat) : Int) :: ((Kp395.step st c).2.num :: (Kp395.step st c).2.nums)) ++ toldOf (Kp395.step st c).1 cs' := by
  have e : Kp395Neutral.step st x = ((Kp395.step st c).1, (Kp395.step st c).2.num :: (Kp395.step st c).2.nums) := by
    unfold Kp395Neutral.step
    rw [hc]
  unfold toldOf
  rw [h]
  have e2 : PyFlat.played Kp395Neutral.step st (x :: cs'.map PyKp395.whole) = (Kp395Neutral.step st x).2 :: PyFlat.played Kp395Neutral.step (Kp395Neutral.step st x).1 (cs'.map PyKp395.whole) := rfl
  rw [e2, e]
  rfl
theorem asked_start {ns : List Int} (h : PyKp395.answers_asked ns = true) : ∃ cs, PyFlat.calls PyKp395.shape ns.length ns = some cs ∧ PyKp395.answers ns = toldOf none cs ∧ (PyKp395.answers ns).length ≤ 10000000 := by
  unfold PyKp395.answers_asked at h
  cases e : PyFlat.calls PyKp395.shape ns.length ns with
  | none =>
    rw [e] at h
    cases h
  | some cs =>
    rw [e] at h
    dsimp only at h
    rw [Bool.and_eq_true] at h
    refine ⟨cs, rfl, ?_, ?_⟩
    · unfold PyKp395.answers PyKp395.calls
      rw [e]
      rfl
    · have z := h.2
      unfold PyFlat.short at z
      exact of_decide_eq_true z
end Tan
end
section
namespace Tan
open PySem PySem.Spec PyProof.Rows L2
/-! ### answers -/
theorem StAt.ne {K : PySem.W.Frag} {C : Addr} {H : Hp} {x : V} {st : Kp395.State} {b : Addr} {o : HO} (h : StAt K C H x st) (hb : H b = some o) (ho : ∀ C' dx fs, o ≠ .ins C' dx fs) : x ≠ .ref b := by
  cases st with
  | none =>
    obtain rfl : x = .non := h
    intro z
    cases z
  | some v =>
    obtain ⟨a, rfl, dx, f, r, l, s, t, d, L⟩ := h
    intro z
    cases z
    have e := L.at_
    rw [hb] at e
    exact ho _ _ _ (Option.some.inj e)
theorem Keep.lst {K : PySem.W.Frag} {C : Addr} {H H' : Hp} {x : V} {st : Kp395.State} {b : Addr} {xs : List V} (k : Keep x H H') (h : StAt K C H x st) (hb : H b = some (.lst xs)) : H' b = some (.lst xs) :=
  k b _ hb (h.ne hb fun _ _ _ z => by cases z)
theorem Keep.sq {K : PySem.W.Frag} {C : Addr} {H H' : Hp} {x : V} {st : Kp395.State} {b : Addr} {xs : List V} (k : Keep x H H') (h : StAt K C H x st) (hb : SqL K H b xs) : SqL K H' b xs := by
  rcases hb with (hb | ⟨o, hb⟩) | hb
  · exact .inl (.inl (k.lst h hb))
  · exact .inl (.inr ⟨o, k b _ hb (h.ne hb fun _ _ _ z => by cases z)⟩)
  · exact .inr hb
/-- a list that was read is not the new one -/
theorem sq_upd {K : PySem.W.Frag} {H H' : Hp} {a d : Addr} {xs : List V} {o : HO} (h0 : SqL K H a xs) (hd : H d = none) (h : SqL K H' a xs) : SqL K (upd H' d o) a xs := by
  have go : ∀ u, H a = some u → SqL K (upd H' d o) a xs := fun u hu => by
    have ne : a ≠ d := ne_of_none hu hd
    rcases h with (h | ⟨o', h⟩) | h
    · exact .inl (.inl (by rw [upd_ne ne]; exact h))
    · exact .inl (.inr ⟨o', by rw [upd_ne ne]; exact h⟩)
    · exact .inr h
  rcases h0 with (h0 | ⟨o', h0⟩) | h0
  · exact go _ h0
  · exact go _ h0
  · exact .inr h0
theorem int_ne_ref {out : List Int} {ps : List Addr} (h : out.map V.int = ps.map V.ref) : ps = [] := by
  cases ps with
  | nil => rfl
  | cons p r =>
    cases out with
    | nil => cases h
    | cons i s =>
      rw [List.map_cons, List.map_cons] at h
      have := (List.cons.inj h).1
      cases this
/-- a store in the list of answers leaves the line -/
theorem StAt.upd {K : PySem.W.Frag} {C d n : Nat} {H : Hp} {x : V} {st : Kp395.State} {out : List Int} {o : HO} (G : GoodS n st) (h : StAt K C H x st) (hd : H d = some (.lst (out.map V.int))) : StAt K C (upd H d o) x st := by
  cases st with
  | none => exact h
  | some v =>
    obtain ⟨a, rfl, dx, f, r, l, s, t, d', L⟩ := h
    have nd : a ≠ d := ne_of L.at_ hd (by intro z; cases z)
    refine ⟨a, rfl, dx, f, r, l, s, t, d', by rw [upd_ne nd]; exact L.at_, L.p.f.updl hd, L.p.r.updl hd, ?_, L.p.s.updl hd, L.p.t.updl hd, L.p.d.updl hd⟩
    obtain ⟨ps, hl, hp⟩ := L.p.l
    have nl : l ≠ d := by
      rintro rfl
      rw [hl] at hd
      have e := int_ne_ref (HO.lst.inj (Option.some.inj hd)).symm
      subst e
      have z := paired_len hp
      have g0 := Good.n0 G
      rw [← z] at g0
      exact absurd g0 (by decide)
    exact ⟨ps, by rw [upd_ne nl]; exact hl, Paired.mapP hp fun _ _ y => y.updl hd⟩
def spAns (K : PySem.W.Frag) : Sp := fun vs H Q _ => ∃ (a : Addr) (ns : List Int), vs = [.ref a] ∧ SqL K H a (ns.map V.int) ∧ ns.length ≤ 240 ∧ (∀ z ∈ ns, 0 ≤ z) ∧ PyKp395.answers_asked ns = true ∧
  ∀ (H' : Hp) (p : Addr), H' p = some (.lst ((PyKp395.answers ns).map V.int)) → Q (.ref p) H'
theorem gl_of {L : List Int} (h : ∀ z ∈ L, 0 ≤ z) : gl (L.map Int.toNat) = L.map V.int := by
  have e := nat_back h
  unfold gl
  rw [show (fun (z : Nat) => V.int (z : Int)) = V.int ∘ (fun (z : Nat) => (z : Int)) from rfl, ← List.map_map, e]
/-- what holds ahead of each call, m numbers being left -/
def AW (K : PySem.W.Frag) (C a d : Addr) (ns : List Int) (m : Nat) (σ : L2.St) (H' : Hp) : Prop := ∃ (i fu n : Nat) (x : V) (st : Kp395.State) (out : List Int) (cs : List (List (List Int))) (u u' : Option V), m = ns.length - i ∧ i ≤ ns.length ∧ n ≤ i ∧
  σ = [some (.ref a), some (.ref d), some x, some (.int (i : Int)), u, u'] ∧ SqL K H' a (ns.map V.int) ∧ StAt K C H' x st ∧ GoodS n st ∧ H' d = some (.lst (out.map V.int)) ∧
  PyFlat.calls PyKp395.shape fu (ns.drop i) = some cs ∧ PyKp395.answers ns = out ++ toldOf st cs
section
variable {P : Program} {w : World} {K : PySem.W.Frag} {mg : Str → Option Value} {base : Heap} {C : Addr}
theorem ok_answers (T : Txt K mg C) {f : Addr} {fd : FuncData} (F : Fun K "answers" "answers" s_answers f fd) : FnOk P w K mg base CX0 11 f fd ["calls"] (spAns K) := by
  refine F.ok cs_answers (fun vs H Q E h => ?_) (fun cdv A outer s H vs Q E hr h => ⟨_,
      pss_cons (ps_par3 (i := 1) (j := 2) (l := 3) rfl cs_answers.nd rfl rfl rfl (by decide) (by decide) (by decide) rfl rfl rfl (pa_cons (pe_lst pa_nil) (pa_cons pe_non (pa_cons pe_int pa_nil))) (by rfl))
      (pss_cons (ps_while PassesOwn.never (pt_cmpR op_lt (pv 3) (pe_callB call_len_seq (by rfl) T.b_len PySem.boot_len (pa_cons (pv 0) pa_nil)) (nomark _))
        (pss_cons (ps_set (i := 4) cs_answers.nd rfl (.inl rfl) (pe_op op_add (pe_op op_add (pv 3) pe_int) (pe_ok (ok_size_of T) hr (pa_cons (pe_ix ix_list (pv 0) (pv 3) (fun _ _ => rfl)) pa_nil))))
        (pss_cons (ps_asg (pe_ok (ok_done T) hr (pa_cons (pv 2) (pa_cons (pe_ix ix_list (pv 0) (pv 3) (fun _ _ => rfl)) (pa_cons (pe_slice sl_list (pv 0) (po_some (pe_op op_add (pv 3) pe_int)) (po_some (pv 4))) pa_nil))))
          (pg_tup rfl (pgs_cons (pg_name (i := 2) cs_answers.nd rfl (.inl rfl)) (pgs_cons (pg_name (i := 5) cs_answers.nd rfl (.inl rfl)) pgs_nil))))
        (pss_cons (ps_expr (pe_bm PySem.F.plainAttrs_list PySem.F.slot_list_append PySem.F.type_list_append mt_append (pv 1) (pa_cons (pe_callB call_len_seq (by rfl) T.b_len PySem.boot_len (pa_cons (pv 5) pa_nil)) pa_nil)))
        (pss_cons (ps_expr (pe_bm PySem.F.plainAttrs_list PySem.F.slot_list_extend PySem.F.type_list_extend mt_extend (pv 1) (pa_cons (pv 5) pa_nil)))
        (pss_one (ps_set (i := 3) cs_answers.nd rfl (.inl rfl) (pv 4))))))))
      (pss_one (ps_ret (pv 1)))), ?_⟩)
  · obtain ⟨a, ns, rfl, _⟩ := h
    rfl
  · obtain ⟨a, ns, rfl, hS, hlen, hpos, hask, k⟩ := h
    obtain ⟨cs0, hcs0, ha0, hsz⟩ := asked_start hask
    have big : (10000000 : Nat) < sizeLine := by decide
    refine ⟨(by decide), fun d hd => ?_⟩
    refine ⟨_, _, _, rfl, ?_⟩
    refine ⟨AW K C a d ns,
      ⟨ns.length, 0, ns.length, 0, .non, none, [], cs0, none, none, rfl, Nat.zero_le _, Nat.le_refl _, rfl, (same_new hd).seq hS, rfl, trivial, upd_same, hcs0, ha0⟩, ?_⟩
    rintro m σ H' ⟨i, fu, n, x, st, out, cs, u, u', hm, hi, hn, rfl, hS1, hst, GS, hd1, hcs, hans⟩
    refine ⟨_, rfl, _, rfl, a, _, rfl, .inl hS1, _, _, rfl, rfl, _, rfl, ?_⟩
    rw [List.length_map]
    by_cases c : i < ns.length
    · rw [decide_eq_true (show (i : Int) < (ns.length : Int) by omega)]
      refine iteT ?_
      refine ⟨fun σ' H2 => ∃ m', m' < m ∧ AW K C a d ns m' σ' H2, fun _ _ z => z, ?_⟩
      -- the call that stands at i
      have ed : ns.drop i = ns[i] :: ns.drop (i + 1) := List.drop_eq_getElem_cons c
      rw [ed] at hcs
      obtain ⟨fu', kk, num, cl, cs', hp, hsz', hk, hcl, hcs', hwh, hof⟩ := parse_turn (fun z hz => hpos z (List.mem_of_mem_drop hz)) hcs
      rw [List.length_drop] at hk
      have hat : (ns.map V.int)[i]? = some (V.int (num : Int)) := by
        rw [List.getElem?_map, List.getElem?_eq_getElem c, hp]
        rfl
      have htold := told_turn (st := st) hwh hof
      rw [htold] at hans
      have n19 : num ≤ 19 := by
        have := (List.getElem?_eq_some_iff.mp hsz').1
        unfold sizes at this
        simp at this
        omega
      generalize hA : ((Kp395.step st cl).2.num :: (Kp395.step st cl).2.nums) = ans at *
      have hlenA : out.length + (1 + ans.length) ≤ 10000000 := by
        rw [hans] at hsz
        simp only [List.length_append, List.length_cons] at hsz
        omega
      -- behind
      refine ⟨_, rfl, _, _, rfl, rfl, _, rfl, _, rfl, a, _, _, _, rfl, rfl, hS1, atI_nat hat, num, _, rfl, hsz', _, _, rfl, rfl, ?_⟩
      -- done(line, calls[at], calls[at + 1:behind])
      refine ⟨_, rfl, _, rfl, _, rfl, a, _, _, _, rfl, rfl, hS1, atI_nat hat, _, rfl, _, rfl, _, _, rfl, rfl, _, rfl, _, rfl, _, rfl, a, _, rfl, hS1, fun g ng => ?_⟩
      have e1 : (i : Int) + 1 = ((i + 1 : Nat) : Int) := by omega
      have e2 : (i : Int) + 1 + (kk : Int) = ((i + 1 + kk : Nat) : Int) := by omega
      have ecut : cutV (ns.map V.int) (some ((i : Int) + 1)) (some ((i : Int) + 1 + (kk : Int))) = ((ns.map V.int).drop (i + 1)).take kk := by
        rw [e2, e1, cut_mid (by omega), Nat.add_sub_cancel_left]
      rw [ecut]
      have s1 := same_new (o := .lst (((ns.map V.int).drop (i + 1)).take kk)) ng
      have hg : (upd H' g (.lst (((ns.map V.int).drop (i + 1)).take kk))) g = some (.lst (gl (((ns.drop (i + 1)).take kk).map Int.toNat))) := by
        rw [upd_same, gl_of (fun z hz => hpos z (List.mem_of_mem_drop (List.mem_of_mem_take hz))), List.map_take, List.map_drop]
      refine ⟨x, g, st, n, num, _, cl, rfl, hg, hcl, by omega, GS, hst.same s1, fun H2 p y q kp htp hy nq hq => ?_⟩
      rw [hA] at hq
      refine ⟨p, _, rfl, SqT.of htp, rfl, _, _, rfl, _, _, rfl, rfl, ?_⟩
      have hst1 := hst.same s1
      have hd2 := kp.lst hst1 (s1 _ _ hd1)
      have hS2 := kp.sq hst1 (s1.seq hS1)
      have G2 := good_step GS cl
      have dq : q ≠ d := (ne_of_none (s1 _ _ hd1) nq).symm
      -- found.append(len(answer))
      refine ⟨_, rfl, .inl ⟨rfl, _, SqL.of hd2⟩, _, rfl, q, _, rfl, .inl (SqL.of hq), d, _, _, rfl, rfl, hd2, by rw [List.length_map]; omega, ?_⟩
      rw [List.length_map]
      -- found.extend(answer)
      have hq3 : (upd H2 d (.lst (out.map V.int ++ [V.int (ans.length : Int)]))) q = some (.lst (ans.map V.int)) := by rw [upd_ne dq]; exact hq
      refine ⟨_, rfl, .inl ⟨rfl, _, SqL.of upd_same⟩, _, rfl, d, q, _, _, rfl, rfl, upd_same, hq3, ?_, ?_⟩
      · rw [List.length_append, List.length_map, List.length_map]
        show out.length + 1 + ans.length ≤ sizeLine
        omega
      rw [upd_upd]
      refine ⟨_, rfl, ns.length - (i + 1 + kk), ?_, i + 1 + kk, fu', n + 1, y, (Kp395.step st cl).1, out ++ ((ans.length : Int) :: ans), cs', some (.int ((i : Int) + 1 + (kk : Int))), some (.ref q), rfl, by omega, by omega, ?_, sq_upd hS hd hS2, hy.upd G2 hd2, G2, ?_, ?_, ?_⟩
      · omega
      · rw [← e2]
        rfl
      · rw [upd_same, List.map_append, List.append_assoc]
        rfl
      · rw [List.drop_drop] at hcs'
        exact hcs'
      · rw [hans, List.append_assoc]
    · rw [decide_eq_false (show ¬ (i : Int) < (ns.length : Int) by omega)]
      refine iteF ⟨_, rfl, ?_⟩
      have hnil : ns.drop i = [] := List.drop_of_length_le (by omega)
      rw [hnil] at hcs
      have hc0 : cs = [] := by
        cases fu with
        | zero => exact (Option.some.inj hcs).symm
        | succ f' => exact (Option.some.inj hcs).symm
      subst hc0
      have hz : toldOf st [] = [] := rfl
      rw [hz, List.append_nil] at hans
      refine k H' d ?_
      rw [hans]
      exact hd1
end
end Tan
end
namespace Tan
open PySem PySem.Spec PyProof.Rows L2
open PySem.W (Codec)
/-! ### the end: what the top has written is found -/
section
variable {K : PySem.W.Frag} {h : Heap} {mg : Str → Option Value}
theorem def_in {x : Str} {st : Stmt} {ps : List Str} {f : Addr} {od an : Option Addr} {sl : Array (Option Value)} {oc kV dc pm cd ct : Value} (X : K.In h) (G : h.Ns mainGlobals mg) (a : PySem.W.nsIn K mainGlobals x = some (some (.ref f)))
    (l : K.lookup f = some ⟨oc, od, .func (PySem.W.fnOf x x (defArgs st) (defBody st) (defScope st) .none kV dc pm an cd ct), sl⟩) (c : PySem.W.codeIn K cd x = true) (k : PySem.W.keepIn K (.ref f) = true)
    (b : ∀ (kV doc pm : Value) (an : Option Addr) (cdv ct : Value) (us : List Value), us.length = ps.length → bindArgs (PySem.W.fnOf x x (defArgs st) (defBody st) (defScope st) .none kV doc pm an cdv ct) ⟨us, []⟩ = pure (ps.zip us)) : DefIn K mg x st ps := by
  have F := fun_mk (st := st) l c k
  exact ⟨f, _, F, PySem.W.mg_of X G a, F.binds b⟩
theorem meth_in {C : Addr} {m q : Str} {st : Stmt} {ps : List Str} {f : Addr} {od an : Option Addr} {sl : Array (Option Value)} {oc kV dc pm cd ct : Value} (a : PySem.W.findIn K (.ref C) m = some (some (.ref f))) (i : PySem.W.isFn K (.ref f) = true)
    (l : K.lookup f = some ⟨oc, od, .func (PySem.W.fnOf m q (defArgs st) (defBody st) (defScope st) .none kV dc pm an cd ct), sl⟩) (c : PySem.W.codeIn K cd q = true) (k : PySem.W.keepIn K (.ref f) = true)
    (b : ∀ (kV doc pm : Value) (an : Option Addr) (cdv ct : Value) (us : List Value), us.length = ps.length → bindArgs (PySem.W.fnOf m q (defArgs st) (defBody st) (defScope st) .none kV doc pm an cdv ct) ⟨us, []⟩ = pure (ps.zip us)) : MethIn K C m q st ps := by
  have F := fun_mk (st := st) l c k
  exact ⟨f, _, F, ⟨a, i, k⟩, F.binds b⟩
theorem init_in {C : Addr} {st : Stmt} {ps : List Str} {f : Addr} {od an : Option Addr} {sl : Array (Option Value)} {oc kV dc pm cd ct : Value} (mk : PySem.W.makesIn K C = true) (a : PySem.W.findIn K (.ref C) "__init__" = some (some (.ref f))) (i : PySem.W.isFn K (.ref f) = true)
    (l : K.lookup f = some ⟨oc, od, .func (PySem.W.fnOf "__init__" "Line.__init__" (defArgs st) (defBody st) (defScope st) .none kV dc pm an cd ct), sl⟩) (c : PySem.W.codeIn K cd "Line.__init__" = true) (k : PySem.W.keepIn K (.ref f) = true) (kc : PySem.W.keepIn K (.ref C) = true)
    (b : ∀ (kV doc pm : Value) (an : Option Addr) (cdv ct : Value) (us : List Value), us.length = ps.length → bindArgs (PySem.W.fnOf "__init__" "Line.__init__" (defArgs st) (defBody st) (defScope st) .none kV doc pm an cdv ct) ⟨us, []⟩ = pure (ps.zip us)) :
    ∃ f fd, Mk K C f ∧ Fun K "__init__" "Line.__init__" st f fd ∧ Binds K fd ps [] := by
  have F := fun_mk (st := st) l c k
  exact ⟨f, _, ⟨mk, a, i, kc⟩, F, F.binds b⟩
theorem int_in {x : Str} {i : Int} {t : Tok} (X : K.In h) (G : h.Ns mainGlobals mg) (a : PySem.W.nsIn K mainGlobals x = some (some (.int i t))) : IntIn mg x i := ⟨t, PySem.W.mg_of X G a⟩
def intsB : List Int → List Value → Bool
  | [], [] => true
  | i :: is, .int j _ :: us => decide (i = j) && intsB is us
  | _, _ => false
theorem ints_v : ∀ {is : List Int} {us : List Value}, intsB is us = true → Vals (is.map V.int) us
  | [], [], _ => .nil
  | i :: is, .int j t :: us, h => by
    have h : (decide (i = j) && intsB is us) = true := h
    rw [Bool.and_eq_true] at h
    exact .cons ⟨t, by rw [of_decide_eq_true h.1]⟩ (ints_v h.2)
theorem tup_in {x : Str} {a : Addr} {is : List Int} {xs : List V} {o : Obj} {its : Array Value} {n : Nat} (X : K.In h) (G : h.Ns mainGlobals mg) (e : PySem.W.nsIn K mainGlobals x = some (some (.ref a))) (l : K.lookup a = some o)
    (hc : o.cls = .type "tuple") (hd : o.data = .seq its n) (hz : its.size ≤ sizeLine) (hv : intsB is its.toList = true) (hx : xs = is.map V.int) : TupNm K mg x xs := by
  subst hx
  exact ⟨a, PySem.W.mg_of X G e, o, its, n, l, hc, hd, hz, ints_v hv⟩
/-- the asked def, by all that the top has written -/
theorem ends {P : Program} {w : World} {C fa : Addr} (X : K.In h) (G : h.Ns mainGlobals mg) (hfa : mg "answers" = some (.ref fa)) (aC : PySem.W.nsIn K mainGlobals "Line" = some (some (.ref C))) (T : mg "Line" = some (.ref C) → Txt K mg C) :
    ∃ fd : FuncData, (∀ (s : Shared) (us : List Value), us.length = (["calls"] : List Str).length → BindsTo s fd ⟨us, []⟩ ((["calls"] : List Str).zip us)) ∧ ∀ base : Heap, K.In base → base.Ns mainGlobals mg → FnOk P w K mg base CX0 11 fa fd ["calls"] (spAns K) := by
  have T := T (PySem.W.mg_of X G aC)
  obtain ⟨f, fd, F, g, b⟩ := T.d_answers
  have e := hfa.symm.trans g
  cases e
  refine ⟨fd, fun s us hu => ?_, fun base _ _ => ok_answers T F⟩
  obtain ⟨oc, od, kV, doc, pm, an, cdv, ct, osl, rfl, lk, hcd⟩ := F.ex
  match us, hu with
  | [_], _ => exact .of_eq rfl
end
end Tan
open PySem PySem.W PyProof.Rows
set_option maxRecDepth 100000 in
set_option maxHeartbeats 0 in
theorem PySem.Challenge.cw_tanyard_s01_answers_holds : PySem.Challenge.rw_tanyard_s01_answers.Holds := by
  w_on; k_headS; (case hw => exact ⟨[.list [.int 4]], by decide +kernel, by decide +kernel⟩)
  k_fillS
  refine L2.walk_specK (r := PySem.Challenge.rw_tanyard_s01_answers) (k := 11) (CX := L2.CX0) (ps := ["calls"]) (sp := Tan.spAns) (by decide +kernel) rfl rfl ⟨rfl, by decide, by decide⟩ (fun w h Y => PySem.W.kIn_of Y) ?F ?S (fun _ _ _ _ z => z)
  case F =>
    intro w mg fa h Y KX G hmg
    refine' Tan.ends KX G hmg ?aC ?T
    (case aC => k_is)
    case T =>
      intro gC
      refine' Tan.Txt.mk ?cl gC ?n_liquor ?n_lot ?n_fresh ?n_raw ?n_strengths ?n_supplied ?n_tanned ?n_discharged ?n_days ?b_range ?b_len ?b_abs ?b_sum ?k_NO_LINE ?k_NO_PIT ?k_OUTSIDE ?k_TOO_MUCH ?k_NOT_THERE ?k_MOST_PITS ?k_MOST_AMOUNT ?k_MOST_TOP ?k_MOST_BOTTOM ?k_MOST_DAYS ?k_NOUGHT ?k_WHOLE ?k_CREATE ?k_SIZES ?d_is_pit_count ?d_is_amount ?d_is_day_count ?d_is_strength ?d_common ?d_share ?d_plus ?d_minus ?d_times ?d_total ?d_size ?d_is_at_least ?d_greatest ?d_numbers_of ?d_told_strengths ?d_set_fresh ?d_set_raw ?d_set_strength ?d_run_day ?d_run_days ?d_add_pit ?d_remove_pit ?d_mixed ?d_liquors_of ?d_lots_of ?d_after_day ?d_after_days ?d_powers ?d_steps ?d_steady ?d_steady_last ?d_portioned ?d_steady_of ?d_steady_lot_of ?d_portions_lot_of ?d_get_strengths ?d_steady_state ?d_steady_lot ?d_steady_discharge ?d_portions_lot ?d_deviation ?d_balance ?d_pits_needed ?d_days_needed ?d_preview_days ?d_countercurrent_gain ?d_status ?d_size_of ?d_created ?d_changed ?d_asked_state ?d_asked_with ?d_told ?d_done ?d_answers ?d_init ?d_put_fresh ?d_put_raw ?d_put_strength ?d_take_out ?d_pass_day ?d_add_last ?d_take_pit
      (case cl => refine' ⟨?pg, ?hd, ?po, ?sa⟩; (case pg => k_is); (case hd => k_is); (case po => k_is); (case sa => k_is))
      (case n_liquor => show PySem.W.findIn _ _ _ = _; k_is)
      (case n_lot => show PySem.W.findIn _ _ _ = _; k_is)
      (case n_fresh => show PySem.W.findIn _ _ _ = _; k_is)
      (case n_raw => show PySem.W.findIn _ _ _ = _; k_is)
      (case n_strengths => show PySem.W.findIn _ _ _ = _; k_is)
      (case n_supplied => show PySem.W.findIn _ _ _ = _; k_is)
      (case n_tanned => show PySem.W.findIn _ _ _ = _; k_is)
      (case n_discharged => show PySem.W.findIn _ _ _ = _; k_is)
      (case n_days => show PySem.W.findIn _ _ _ = _; k_is)
      (case b_range => refine' PySem.W.mg_none_of KX G ?a; (case a => k_is))
      (case b_len => refine' PySem.W.mg_none_of KX G ?a; (case a => k_is))
      (case b_abs => refine' PySem.W.mg_none_of KX G ?a; (case a => k_is))
      (case b_sum => refine' PySem.W.mg_none_of KX G ?a; (case a => k_is))
      (case k_NO_LINE => refine' Tan.int_in KX G ?a; (case a => k_is))
      (case k_NO_PIT => refine' Tan.int_in KX G ?a; (case a => k_is))
      (case k_OUTSIDE => refine' Tan.int_in KX G ?a; (case a => k_is))
      (case k_TOO_MUCH => refine' Tan.int_in KX G ?a; (case a => k_is))
      (case k_NOT_THERE => refine' Tan.int_in KX G ?a; (case a => k_is))
      (case k_MOST_PITS => refine' Tan.int_in KX G ?a; (case a => k_is))
      (case k_MOST_AMOUNT => refine' Tan.int_in KX G ?a; (case a => k_is))
      (case k_MOST_TOP => refine' Tan.int_in KX G ?a; (case a => k_is))
      (case k_MOST_BOTTOM => refine' Tan.int_in KX G ?a; (case a => k_is))
      (case k_MOST_DAYS => refine' Tan.int_in KX G ?a; (case a => k_is))
      (case k_NOUGHT => refine' Tan.tup_in (is := [0, 1]) KX G ?a ?l ?c ?d ?z ?v ?x; (case a => k_is); (case l => k_is); (case c => rfl); (case d => rfl); (case z => decide); (case v => rfl); (case x => rfl))
      (case k_WHOLE => refine' Tan.tup_in (is := [1, 1]) KX G ?a ?l ?c ?d ?z ?v ?x; (case a => k_is); (case l => k_is); (case c => rfl); (case d => rfl); (case z => decide); (case v => rfl); (case x => rfl))
      (case k_CREATE => refine' Tan.int_in KX G ?a; (case a => k_is))
      (case k_SIZES => refine' Tan.tup_in (is := [3, 2, 2, 3, 0, 1, 0, 0, 1, 1, 1, 0, 0, 2, 2, 1, 0, 1, 1, 0]) KX G ?a ?l ?c ?d ?z ?v ?x; (case a => k_is); (case l => k_is); (case c => rfl); (case d => rfl); (case z => decide); (case v => rfl); (case x => rfl))
      (case d_is_pit_count => refine' Tan.def_in KX G ?a ?l ?c ?k ?b; (case a => k_is); (case l => k_is); (case c => k_is); (case k => k_is); (case b => exact fun _ _ _ _ _ _ us hl => match us, hl with | [_], _ => rfl))
      (case d_is_amount => refine' Tan.def_in KX G ?a ?l ?c ?k ?b; (case a => k_is); (case l => k_is); (case c => k_is); (case k => k_is); (case b => exact fun _ _ _ _ _ _ us hl => match us, hl with | [_], _ => rfl))
      (case d_is_day_count => refine' Tan.def_in KX G ?a ?l ?c ?k ?b; (case a => k_is); (case l => k_is); (case c => k_is); (case k => k_is); (case b => exact fun _ _ _ _ _ _ us hl => match us, hl with | [_], _ => rfl))
      (case d_is_strength => refine' Tan.def_in KX G ?a ?l ?c ?k ?b; (case a => k_is); (case l => k_is); (case c => k_is); (case k => k_is); (case b => exact fun _ _ _ _ _ _ us hl => match us, hl with | [_, _], _ => rfl))
      (case d_common => refine' Tan.def_in KX G ?a ?l ?c ?k ?b; (case a => k_is); (case l => k_is); (case c => k_is); (case k => k_is); (case b => exact fun _ _ _ _ _ _ us hl => match us, hl with | [_, _], _ => rfl))
      (case d_share => refine' Tan.def_in KX G ?a ?l ?c ?k ?b; (case a => k_is); (case l => k_is); (case c => k_is); (case k => k_is); (case b => exact fun _ _ _ _ _ _ us hl => match us, hl with | [_, _], _ => rfl))
      (case d_plus => refine' Tan.def_in KX G ?a ?l ?c ?k ?b; (case a => k_is); (case l => k_is); (case c => k_is); (case k => k_is); (case b => exact fun _ _ _ _ _ _ us hl => match us, hl with | [_, _], _ => rfl))
      (case d_minus => refine' Tan.def_in KX G ?a ?l ?c ?k ?b; (case a => k_is); (case l => k_is); (case c => k_is); (case k => k_is); (case b => exact fun _ _ _ _ _ _ us hl => match us, hl with | [_, _], _ => rfl))
      (case d_times => refine' Tan.def_in KX G ?a ?l ?c ?k ?b; (case a => k_is); (case l => k_is); (case c => k_is); (case k => k_is); (case b => exact fun _ _ _ _ _ _ us hl => match us, hl with | [_, _], _ => rfl))
      (case d_total => refine' Tan.def_in KX G ?a ?l ?c ?k ?b; (case a => k_is); (case l => k_is); (case c => k_is); (case k => k_is); (case b => exact fun _ _ _ _ _ _ us hl => match us, hl with | [_], _ => rfl))
      (case d_size => refine' Tan.def_in KX G ?a ?l ?c ?k ?b; (case a => k_is); (case l => k_is); (case c => k_is); (case k => k_is); (case b => exact fun _ _ _ _ _ _ us hl => match us, hl with | [_], _ => rfl))
      (case d_is_at_least => refine' Tan.def_in KX G ?a ?l ?c ?k ?b; (case a => k_is); (case l => k_is); (case c => k_is); (case k => k_is); (case b => exact fun _ _ _ _ _ _ us hl => match us, hl with | [_, _], _ => rfl))
      (case d_greatest => refine' Tan.def_in KX G ?a ?l ?c ?k ?b; (case a => k_is); (case l => k_is); (case c => k_is); (case k => k_is); (case b => exact fun _ _ _ _ _ _ us hl => match us, hl with | [_], _ => rfl))
      (case d_numbers_of => refine' Tan.def_in KX G ?a ?l ?c ?k ?b; (case a => k_is); (case l => k_is); (case c => k_is); (case k => k_is); (case b => exact fun _ _ _ _ _ _ us hl => match us, hl with | [_], _ => rfl))
      (case d_told_strengths => refine' Tan.def_in KX G ?a ?l ?c ?k ?b; (case a => k_is); (case l => k_is); (case c => k_is); (case k => k_is); (case b => exact fun _ _ _ _ _ _ us hl => match us, hl with | [_], _ => rfl))
      (case d_set_fresh => refine' Tan.def_in KX G ?a ?l ?c ?k ?b; (case a => k_is); (case l => k_is); (case c => k_is); (case k => k_is); (case b => exact fun _ _ _ _ _ _ us hl => match us, hl with | [_, _, _], _ => rfl))
      (case d_set_raw => refine' Tan.def_in KX G ?a ?l ?c ?k ?b; (case a => k_is); (case l => k_is); (case c => k_is); (case k => k_is); (case b => exact fun _ _ _ _ _ _ us hl => match us, hl with | [_, _, _], _ => rfl))
      (case d_set_strength => refine' Tan.def_in KX G ?a ?l ?c ?k ?b; (case a => k_is); (case l => k_is); (case c => k_is); (case k => k_is); (case b => exact fun _ _ _ _ _ _ us hl => match us, hl with | [_, _, _, _], _ => rfl))
      (case d_run_day => refine' Tan.def_in KX G ?a ?l ?c ?k ?b; (case a => k_is); (case l => k_is); (case c => k_is); (case k => k_is); (case b => exact fun _ _ _ _ _ _ us hl => match us, hl with | [_], _ => rfl))
      (case d_run_days => refine' Tan.def_in KX G ?a ?l ?c ?k ?b; (case a => k_is); (case l => k_is); (case c => k_is); (case k => k_is); (case b => exact fun _ _ _ _ _ _ us hl => match us, hl with | [_, _], _ => rfl))
      (case d_add_pit => refine' Tan.def_in KX G ?a ?l ?c ?k ?b; (case a => k_is); (case l => k_is); (case c => k_is); (case k => k_is); (case b => exact fun _ _ _ _ _ _ us hl => match us, hl with | [_], _ => rfl))
      (case d_remove_pit => refine' Tan.def_in KX G ?a ?l ?c ?k ?b; (case a => k_is); (case l => k_is); (case c => k_is); (case k => k_is); (case b => exact fun _ _ _ _ _ _ us hl => match us, hl with | [_, _], _ => rfl))
      (case d_mixed => refine' Tan.def_in KX G ?a ?l ?c ?k ?b; (case a => k_is); (case l => k_is); (case c => k_is); (case k => k_is); (case b => exact fun _ _ _ _ _ _ us hl => match us, hl with | [_, _, _, _], _ => rfl))
      (case d_liquors_of => refine' Tan.def_in KX G ?a ?l ?c ?k ?b; (case a => k_is); (case l => k_is); (case c => k_is); (case k => k_is); (case b => exact fun _ _ _ _ _ _ us hl => match us, hl with | [_, _], _ => rfl))
      (case d_lots_of => refine' Tan.def_in KX G ?a ?l ?c ?k ?b; (case a => k_is); (case l => k_is); (case c => k_is); (case k => k_is); (case b => exact fun _ _ _ _ _ _ us hl => match us, hl with | [_, _], _ => rfl))
      (case d_after_day => refine' Tan.def_in KX G ?a ?l ?c ?k ?b; (case a => k_is); (case l => k_is); (case c => k_is); (case k => k_is); (case b => exact fun _ _ _ _ _ _ us hl => match us, hl with | [_, _, _, _, _], _ => rfl))
      (case d_after_days => refine' Tan.def_in KX G ?a ?l ?c ?k ?b; (case a => k_is); (case l => k_is); (case c => k_is); (case k => k_is); (case b => exact fun _ _ _ _ _ _ us hl => match us, hl with | [_, _, _, _, _, _], _ => rfl))
      (case d_powers => refine' Tan.def_in KX G ?a ?l ?c ?k ?b; (case a => k_is); (case l => k_is); (case c => k_is); (case k => k_is); (case b => exact fun _ _ _ _ _ _ us hl => match us, hl with | [_, _], _ => rfl))
      (case d_steps => refine' Tan.def_in KX G ?a ?l ?c ?k ?b; (case a => k_is); (case l => k_is); (case c => k_is); (case k => k_is); (case b => exact fun _ _ _ _ _ _ us hl => match us, hl with | [_, _, _], _ => rfl))
      (case d_steady => refine' Tan.def_in KX G ?a ?l ?c ?k ?b; (case a => k_is); (case l => k_is); (case c => k_is); (case k => k_is); (case b => exact fun _ _ _ _ _ _ us hl => match us, hl with | [_, _, _, _, _], _ => rfl))
      (case d_steady_last => refine' Tan.def_in KX G ?a ?l ?c ?k ?b; (case a => k_is); (case l => k_is); (case c => k_is); (case k => k_is); (case b => exact fun _ _ _ _ _ _ us hl => match us, hl with | [_, _, _, _, _], _ => rfl))
      (case d_portioned => refine' Tan.def_in KX G ?a ?l ?c ?k ?b; (case a => k_is); (case l => k_is); (case c => k_is); (case k => k_is); (case b => exact fun _ _ _ _ _ _ us hl => match us, hl with | [_, _, _, _, _], _ => rfl))
      (case d_steady_of => refine' Tan.def_in KX G ?a ?l ?c ?k ?b; (case a => k_is); (case l => k_is); (case c => k_is); (case k => k_is); (case b => exact fun _ _ _ _ _ _ us hl => match us, hl with | [_, _], _ => rfl))
      (case d_steady_lot_of => refine' Tan.def_in KX G ?a ?l ?c ?k ?b; (case a => k_is); (case l => k_is); (case c => k_is); (case k => k_is); (case b => exact fun _ _ _ _ _ _ us hl => match us, hl with | [_, _], _ => rfl))
      (case d_portions_lot_of => refine' Tan.def_in KX G ?a ?l ?c ?k ?b; (case a => k_is); (case l => k_is); (case c => k_is); (case k => k_is); (case b => exact fun _ _ _ _ _ _ us hl => match us, hl with | [_, _], _ => rfl))
      (case d_get_strengths => refine' Tan.def_in KX G ?a ?l ?c ?k ?b; (case a => k_is); (case l => k_is); (case c => k_is); (case k => k_is); (case b => exact fun _ _ _ _ _ _ us hl => match us, hl with | [_], _ => rfl))
      (case d_steady_state => refine' Tan.def_in KX G ?a ?l ?c ?k ?b; (case a => k_is); (case l => k_is); (case c => k_is); (case k => k_is); (case b => exact fun _ _ _ _ _ _ us hl => match us, hl with | [_], _ => rfl))
      (case d_steady_lot => refine' Tan.def_in KX G ?a ?l ?c ?k ?b; (case a => k_is); (case l => k_is); (case c => k_is); (case k => k_is); (case b => exact fun _ _ _ _ _ _ us hl => match us, hl with | [_, _], _ => rfl))
      (case d_steady_discharge => refine' Tan.def_in KX G ?a ?l ?c ?k ?b; (case a => k_is); (case l => k_is); (case c => k_is); (case k => k_is); (case b => exact fun _ _ _ _ _ _ us hl => match us, hl with | [_, _], _ => rfl))
      (case d_portions_lot => refine' Tan.def_in KX G ?a ?l ?c ?k ?b; (case a => k_is); (case l => k_is); (case c => k_is); (case k => k_is); (case b => exact fun _ _ _ _ _ _ us hl => match us, hl with | [_, _], _ => rfl))
      (case d_deviation => refine' Tan.def_in KX G ?a ?l ?c ?k ?b; (case a => k_is); (case l => k_is); (case c => k_is); (case k => k_is); (case b => exact fun _ _ _ _ _ _ us hl => match us, hl with | [_], _ => rfl))
      (case d_balance => refine' Tan.def_in KX G ?a ?l ?c ?k ?b; (case a => k_is); (case l => k_is); (case c => k_is); (case k => k_is); (case b => exact fun _ _ _ _ _ _ us hl => match us, hl with | [_], _ => rfl))
      (case d_pits_needed => refine' Tan.def_in KX G ?a ?l ?c ?k ?b; (case a => k_is); (case l => k_is); (case c => k_is); (case k => k_is); (case b => exact fun _ _ _ _ _ _ us hl => match us, hl with | [_, _, _], _ => rfl))
      (case d_days_needed => refine' Tan.def_in KX G ?a ?l ?c ?k ?b; (case a => k_is); (case l => k_is); (case c => k_is); (case k => k_is); (case b => exact fun _ _ _ _ _ _ us hl => match us, hl with | [_, _, _], _ => rfl))
      (case d_preview_days => refine' Tan.def_in KX G ?a ?l ?c ?k ?b; (case a => k_is); (case l => k_is); (case c => k_is); (case k => k_is); (case b => exact fun _ _ _ _ _ _ us hl => match us, hl with | [_, _], _ => rfl))
      (case d_countercurrent_gain => refine' Tan.def_in KX G ?a ?l ?c ?k ?b; (case a => k_is); (case l => k_is); (case c => k_is); (case k => k_is); (case b => exact fun _ _ _ _ _ _ us hl => match us, hl with | [_, _], _ => rfl))
      (case d_status => refine' Tan.def_in KX G ?a ?l ?c ?k ?b; (case a => k_is); (case l => k_is); (case c => k_is); (case k => k_is); (case b => exact fun _ _ _ _ _ _ us hl => match us, hl with | [_], _ => rfl))
      (case d_size_of => refine' Tan.def_in KX G ?a ?l ?c ?k ?b; (case a => k_is); (case l => k_is); (case c => k_is); (case k => k_is); (case b => exact fun _ _ _ _ _ _ us hl => match us, hl with | [_], _ => rfl))
      (case d_created => refine' Tan.def_in KX G ?a ?l ?c ?k ?b; (case a => k_is); (case l => k_is); (case c => k_is); (case k => k_is); (case b => exact fun _ _ _ _ _ _ us hl => match us, hl with | [_, _], _ => rfl))
      (case d_changed => refine' Tan.def_in KX G ?a ?l ?c ?k ?b; (case a => k_is); (case l => k_is); (case c => k_is); (case k => k_is); (case b => exact fun _ _ _ _ _ _ us hl => match us, hl with | [_, _, _], _ => rfl))
      (case d_asked_state => refine' Tan.def_in KX G ?a ?l ?c ?k ?b; (case a => k_is); (case l => k_is); (case c => k_is); (case k => k_is); (case b => exact fun _ _ _ _ _ _ us hl => match us, hl with | [_, _], _ => rfl))
      (case d_asked_with => refine' Tan.def_in KX G ?a ?l ?c ?k ?b; (case a => k_is); (case l => k_is); (case c => k_is); (case k => k_is); (case b => exact fun _ _ _ _ _ _ us hl => match us, hl with | [_, _, _], _ => rfl))
      (case d_told => refine' Tan.def_in KX G ?a ?l ?c ?k ?b; (case a => k_is); (case l => k_is); (case c => k_is); (case k => k_is); (case b => exact fun _ _ _ _ _ _ us hl => match us, hl with | [_, _, _], _ => rfl))
      (case d_done => refine' Tan.def_in KX G ?a ?l ?c ?k ?b; (case a => k_is); (case l => k_is); (case c => k_is); (case k => k_is); (case b => exact fun _ _ _ _ _ _ us hl => match us, hl with | [_, _, _], _ => rfl))
      (case d_answers => refine' Tan.def_in KX G ?a ?l ?c ?k ?b; (case a => k_is); (case l => k_is); (case c => k_is); (case k => k_is); (case b => exact fun _ _ _ _ _ _ us hl => match us, hl with | [_], _ => rfl))
      (case d_init => refine' Tan.init_in ?m ?a ?i ?l ?c ?k ?kc ?b; (case m => k_is); (case a => k_is); (case i => k_is); (case l => k_is); (case c => k_is); (case k => k_is); (case kc => k_is); (case b => exact fun _ _ _ _ _ _ us hl => match us, hl with | [_, _, _, _], _ => rfl))
      (case d_put_fresh => refine' Tan.meth_in ?a ?i ?l ?c ?k ?b; (case a => k_is); (case i => k_is); (case l => k_is); (case c => k_is); (case k => k_is); (case b => exact fun _ _ _ _ _ _ us hl => match us, hl with | [_, _], _ => rfl))
      (case d_put_raw => refine' Tan.meth_in ?a ?i ?l ?c ?k ?b; (case a => k_is); (case i => k_is); (case l => k_is); (case c => k_is); (case k => k_is); (case b => exact fun _ _ _ _ _ _ us hl => match us, hl with | [_, _], _ => rfl))
      (case d_put_strength => refine' Tan.meth_in ?a ?i ?l ?c ?k ?b; (case a => k_is); (case i => k_is); (case l => k_is); (case c => k_is); (case k => k_is); (case b => exact fun _ _ _ _ _ _ us hl => match us, hl with | [_, _, _], _ => rfl))
      (case d_take_out => refine' Tan.meth_in ?a ?i ?l ?c ?k ?b; (case a => k_is); (case i => k_is); (case l => k_is); (case c => k_is); (case k => k_is); (case b => exact fun _ _ _ _ _ _ us hl => match us, hl with | [_, _, _], _ => rfl))
      (case d_pass_day => refine' Tan.meth_in ?a ?i ?l ?c ?k ?b; (case a => k_is); (case i => k_is); (case l => k_is); (case c => k_is); (case k => k_is); (case b => exact fun _ _ _ _ _ _ us hl => match us, hl with | [_], _ => rfl))
      (case d_add_last => refine' Tan.meth_in ?a ?i ?l ?c ?k ?b; (case a => k_is); (case i => k_is); (case l => k_is); (case c => k_is); (case k => k_is); (case b => exact fun _ _ _ _ _ _ us hl => match us, hl with | [_], _ => rfl))
      (case d_take_pit => refine' Tan.meth_in ?a ?i ?l ?c ?k ?b; (case a => k_is); (case i => k_is); (case l => k_is); (case c => k_is); (case k => k_is); (case b => exact fun _ _ _ _ _ _ us hl => match us, hl with | [_, _], _ => rfl))
  case S =>
    intro K H xs a hO hwi hask hx
    cases hx with
    | cons h1 h2 =>
      cases h2
      cases h1 with
      | lst hs ha =>
        have e := L2.ints_dw a.1 _ ha
        subst e
        have q : ((Codec.inLen 0 240 a.1 && a.1.all (Codec.inInt 0 4294967295)) && true) = true := hwi
        rw [Bool.and_eq_true, Bool.and_eq_true] at q
        refine ⟨_, a.1, rfl, hs, (Codec.inNat_iff.mp q.1.1).2, fun z hz => ?_, hask, fun H' p hp => .lst (L2.SqL.of hp) (L2.dw_ints _)⟩
        exact (Codec.inInt_iff.mp (List.all_eq_true.mp q.1.2 z hz)).1
#print axioms PySem.Challenge.cw_tanyard_s01_answers_holds
