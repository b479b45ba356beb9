import PyProof.Rows.All
import Wide.All
import OpenK.AllK
import Wide.FinOn
import HandS.ForMost
import HandS.Defaults
import HandS.MakeKwOnly
import KE.GoesEnum
import HandS.Wide
import HandS.WideBits
import HandS.Star
import HandS.TupMul
import HandS.IsInst
import HandS.Codes
import HandS.NoneIn
import HandS.Style
import PySem.Challenge.RW_slopeworld_k15_whole_bells_by_whole_part
/-! Mathematics of the law: neighbours of a slope, whole parts of its multiples. Plain Lean. -/
set_option linter.all false
namespace KM
/-- tops and bottoms, shifted by one: nt a (k + 1) / nb a (k + 1) is the k-th neighbour -/
def nt (a : Nat → Int) : Nat → Int
  | 0 => 1
  | 1 => 0
  | k + 2 => a (k + 1) * nt a (k + 1) + nt a k
def nb (a : Nat → Int) : Nat → Int
  | 0 => 0
  | 1 => 1
  | k + 2 => a (k + 1) * nb a (k + 1) + nb a k
/-- parts of a slope -/
def Parts (a : Nat → Int) : Prop := ∀ k, 1 ≤ k → 1 ≤ a k ∧ a k ≤ 20
theorem nt_step (a : Nat → Int) (k : Nat) : nt a (k + 2) = a (k + 1) * nt a (k + 1) + nt a k := rfl
theorem nb_step (a : Nat → Int) (k : Nat) : nb a (k + 2) = a (k + 1) * nb a (k + 1) + nb a k := rfl
theorem nt_congr {a b : Nat → Int} (h : ∀ k, 1 ≤ k → a k = b k) : ∀ k, nt a k = nt b k ∧ nt a (k + 1) = nt b (k + 1)
  | 0 => ⟨rfl, rfl⟩
  | k + 1 => by
    have ih := nt_congr h k
    refine ⟨ih.2, ?_⟩
    rw [nt_step, nt_step, ih.1, ih.2, h (k + 1) (by omega)]
theorem nb_congr {a b : Nat → Int} (h : ∀ k, 1 ≤ k → a k = b k) : ∀ k, nb a k = nb b k ∧ nb a (k + 1) = nb b (k + 1)
  | 0 => ⟨rfl, rfl⟩
  | k + 1 => by
    have ih := nb_congr h k
    refine ⟨ih.2, ?_⟩
    rw [nb_step, nb_step, ih.1, ih.2, h (k + 1) (by omega)]
section
variable {a : Nat → Int} (h : Parts a)
include h
theorem nt_nn2 : ∀ k, 0 ≤ nt a k ∧ 0 ≤ nt a (k + 1)
  | 0 => ⟨by show (0 : Int) ≤ 1; decide, by show (0 : Int) ≤ 0; decide⟩
  | k + 1 => by
    have ih := nt_nn2 k
    refine ⟨ih.2, ?_⟩
    rw [nt_step]
    have := Int.mul_nonneg (show 0 ≤ a (k + 1) by have := h (k + 1) (by omega); omega) ih.2
    omega
theorem nt_nn (k : Nat) : 0 ≤ nt a k := (nt_nn2 h k).1
theorem nb_nn2 : ∀ k, 0 ≤ nb a k ∧ 1 ≤ nb a (k + 1)
  | 0 => ⟨by show (0 : Int) ≤ 0; decide, by show (1 : Int) ≤ 1; decide⟩
  | k + 1 => by
    have ih := nb_nn2 k
    refine ⟨by omega, ?_⟩
    rw [nb_step]
    have h1 := (h (k + 1) (by omega)).1
    have := Int.mul_le_mul h1 ih.2 (by omega) (by omega)
    omega
theorem nb_nn (k : Nat) : 0 ≤ nb a k := (nb_nn2 h k).1
theorem nb_pos (k : Nat) : 1 ≤ nb a (k + 1) := (nb_nn2 h k).2
theorem nb_mono (k : Nat) : nb a (k + 1) + nb a k ≤ nb a (k + 2) := by
  rw [nb_step]
  have h1 := (h (k + 1) (by omega)).1
  have h2 := nb_pos h k
  have := Int.mul_le_mul_of_nonneg_right h1 (show 0 ≤ nb a (k + 1) by omega)
  omega
theorem nb_dbl (k : Nat) : 2 * nb a (k + 1) ≤ nb a (k + 3) := by
  have h1 := nb_mono h (k + 1)
  have h2 := nb_mono h k
  have h3 := nb_nn h k
  have e1 : k + 1 + 1 = k + 2 := rfl
  have e2 : k + 1 + 2 = k + 3 := rfl
  rw [e1, e2] at h1
  omega
theorem nb_pow : ∀ j : Nat, (2 : Int) ^ j ≤ nb a (2 * j + 1)
  | 0 => by show (2 : Int) ^ 0 ≤ 1; decide
  | j + 1 => by
    have ih := nb_pow j
    have d := nb_dbl h (2 * j)
    have e : 2 * (j + 1) + 1 = 2 * j + 3 := by omega
    rw [e, Int.pow_succ]
    omega
theorem nb_pow2 (j : Nat) : (2 : Int) ^ j ≤ nb a (2 * j + 2) := by
  have h1 := nb_pow h j
  have h2 := nb_mono h (2 * j)
  have h3 := nb_nn h (2 * j)
  omega
theorem nt_le2 : ∀ k, nt a (k + 1) ≤ nb a (k + 1) ∧ nt a (k + 2) ≤ nb a (k + 2)
  | 0 => by
    refine ⟨by show (0 : Int) ≤ 1; decide, ?_⟩
    have h1 := (h 1 (by omega)).1
    show a 1 * 0 + 1 ≤ a 1 * 1 + 0
    omega
  | k + 1 => by
    have ih := nt_le2 k
    refine ⟨ih.2, ?_⟩
    show nt a (k + 1 + 2) ≤ nb a (k + 1 + 2)
    rw [nt_step, nb_step]
    have h1 := (h (k + 1 + 1) (by omega)).1
    have := Int.mul_le_mul_of_nonneg_left ih.2 (show 0 ≤ a (k + 1 + 1) by omega)
    have e : k + 2 = k + 1 + 1 := rfl
    rw [e] at this
    omega
theorem nt_le (k : Nat) : nt a (k + 1) ≤ nb a (k + 1) := (nt_le2 h k).1
theorem nb_up2 : ∀ k, nb a k ≤ 32 ^ k ∧ nb a (k + 1) ≤ 32 ^ (k + 1)
  | 0 => ⟨by show (0 : Int) ≤ 32 ^ 0; decide, by show (1 : Int) ≤ 32 ^ 1; decide⟩
  | k + 1 => by
    have ih := nb_up2 k
    refine ⟨ih.2, ?_⟩
    show nb a (k + 2) ≤ 32 ^ (k + 2)
    rw [nb_step]
    have h1 := h (k + 1) (by omega)
    have h2 := nb_nn h (k + 1)
    have h3 := Int.mul_le_mul_of_nonneg_right h1.2 h2
    have e1 : (32 : Int) ^ (k + 2) = 32 ^ (k + 1) * 32 := Int.pow_succ _ _
    have e2 : (32 : Int) ^ (k + 1) = 32 ^ k * 32 := Int.pow_succ _ _
    omega
theorem nb_up (k : Nat) : nb a k ≤ 32 ^ k := (nb_up2 h k).1
theorem nb_bits (k : Nat) : (nb a k).natAbs < 2 ^ (5 * k + 1) := by
  have h1 := nb_up h k
  have h2 := nb_nn h k
  have e : (32 : Int) ^ k = ((2 ^ (5 * k) : Nat) : Int) := by
    rw [Nat.pow_mul, Int.natCast_pow]
    rfl
  rw [e] at h1
  have h3 : (nb a k).natAbs ≤ 2 ^ (5 * k) := by omega
  have h4 : (2 : Nat) ^ (5 * k) < 2 ^ (5 * k + 1) := Nat.pow_lt_pow_right (by omega) (by omega)
  omega
theorem nt_bits (k : Nat) : (nt a (k + 1)).natAbs < 2 ^ (5 * (k + 1) + 1) := by
  have h1 := nt_le h k
  have h2 := nt_nn h (k + 1)
  have h3 := nb_bits h (k + 1)
  omega
/-- the determinant -/
theorem det : ∀ n : Nat, nt a (2 * n + 2) * nb a (2 * n + 1) - nt a (2 * n + 1) * nb a (2 * n + 2) = 1
  | 0 => by
    show (a 1 * 0 + 1) * 1 - 0 * (a 1 * 1 + 0) = (1 : Int)
    omega
  | n + 1 => by
    have ih := det n
    have e1 : 2 * (n + 1) + 2 = 2 * n + 2 + 2 := by omega
    have e2 : 2 * (n + 1) + 1 = 2 * n + 1 + 2 := by omega
    rw [e1, e2, nt_step a (2 * n + 2), nb_step a (2 * n + 2)]
    have e3 : 2 * n + 2 + 1 = 2 * n + 1 + 2 := by omega
    rw [e3, nt_step a (2 * n + 1), nb_step a (2 * n + 1)]
    have e4 : 2 * n + 1 + 1 = 2 * n + 2 := by omega
    rw [e4]
    grind
/-- all later ones lie above a lower neighbour, and below the upper one next to it -/
theorem above (n : Nat) : ∀ j, 0 ≤ nt a (2 * n + 1 + j) * nb a (2 * n + 1) - nt a (2 * n + 1) * nb a (2 * n + 1 + j) ∧ 0 ≤ nt a (2 * n + 1 + j + 1) * nb a (2 * n + 1) - nt a (2 * n + 1) * nb a (2 * n + 1 + j + 1)
  | 0 => by
    refine ⟨by show 0 ≤ nt a (2 * n + 1) * nb a (2 * n + 1) - nt a (2 * n + 1) * nb a (2 * n + 1); omega, ?_⟩
    have := det h n
    show 0 ≤ nt a (2 * n + 2) * nb a (2 * n + 1) - nt a (2 * n + 1) * nb a (2 * n + 2)
    omega
  | j + 1 => by
    have ih := above n j
    refine ⟨ih.2, ?_⟩
    show 0 ≤ nt a (2 * n + 1 + j + 2) * nb a (2 * n + 1) - nt a (2 * n + 1) * nb a (2 * n + 1 + j + 2)
    rw [nt_step, nb_step]
    have h1 := (h (2 * n + 1 + j + 1) (by omega)).1
    have h2 := Int.mul_nonneg (show 0 ≤ a (2 * n + 1 + j + 1) by omega) ih.2
    have h3 := ih.1
    generalize nt a (2 * n + 1 + j + 1) = x at *
    generalize nb a (2 * n + 1 + j + 1) = y at *
    generalize a (2 * n + 1 + j + 1) = z at *
    have e : (z * x + nt a (2 * n + 1 + j)) * nb a (2 * n + 1) - nt a (2 * n + 1) * (z * y + nb a (2 * n + 1 + j)) = z * (x * nb a (2 * n + 1) - nt a (2 * n + 1) * y) + (nt a (2 * n + 1 + j) * nb a (2 * n + 1) - nt a (2 * n + 1) * nb a (2 * n + 1 + j)) := by grind
    omega
theorem below (n : Nat) : ∀ j, 1 ≤ nt a (2 * n + 2) * nb a (2 * n + 3 + j) - nt a (2 * n + 3 + j) * nb a (2 * n + 2) ∧ 1 ≤ nt a (2 * n + 2) * nb a (2 * n + 3 + j + 1) - nt a (2 * n + 3 + j + 1) * nb a (2 * n + 2)
  | 0 => by
    have d := det h n
    have e1 : nt a (2 * n + 3) = a (2 * n + 2) * nt a (2 * n + 2) + nt a (2 * n + 1) := rfl
    have e2 : nb a (2 * n + 3) = a (2 * n + 2) * nb a (2 * n + 2) + nb a (2 * n + 1) := rfl
    have e3 : nt a (2 * n + 4) = a (2 * n + 3) * nt a (2 * n + 3) + nt a (2 * n + 2) := rfl
    have e4 : nb a (2 * n + 4) = a (2 * n + 3) * nb a (2 * n + 3) + nb a (2 * n + 2) := rfl
    have f0 : nt a (2 * n + 2) * nb a (2 * n + 3) - nt a (2 * n + 3) * nb a (2 * n + 2) = 1 := by
      rw [e1, e2]
      grind
    have h1 := (h (2 * n + 3) (by omega)).1
    refine ⟨by show 1 ≤ nt a (2 * n + 2) * nb a (2 * n + 3) - nt a (2 * n + 3) * nb a (2 * n + 2); omega, ?_⟩
    show 1 ≤ nt a (2 * n + 2) * nb a (2 * n + 4) - nt a (2 * n + 4) * nb a (2 * n + 2)
    rw [e3, e4]
    have : nt a (2 * n + 2) * (a (2 * n + 3) * nb a (2 * n + 3) + nb a (2 * n + 2)) - (a (2 * n + 3) * nt a (2 * n + 3) + nt a (2 * n + 2)) * nb a (2 * n + 2) = a (2 * n + 3) * (nt a (2 * n + 2) * nb a (2 * n + 3) - nt a (2 * n + 3) * nb a (2 * n + 2)) := by grind
    rw [this, f0]
    omega
  | j + 1 => by
    have ih := below n j
    refine ⟨ih.2, ?_⟩
    show 1 ≤ nt a (2 * n + 2) * nb a (2 * n + 3 + j + 2) - nt a (2 * n + 3 + j + 2) * nb a (2 * n + 2)
    rw [nt_step a (2 * n + 3 + j), nb_step a (2 * n + 3 + j)]
    have h1 := (h (2 * n + 3 + j + 1) (by omega)).1
    have h2 := Int.mul_nonneg (show 0 ≤ a (2 * n + 3 + j + 1) by omega) (show 0 ≤ nt a (2 * n + 2) * nb a (2 * n + 3 + j + 1) - nt a (2 * n + 3 + j + 1) * nb a (2 * n + 2) by omega)
    have h3 := ih.1
    generalize nt a (2 * n + 3 + j + 1) = x at *
    generalize nb a (2 * n + 3 + j + 1) = y at *
    generalize a (2 * n + 3 + j + 1) = z at *
    have e : nt a (2 * n + 2) * (z * y + nb a (2 * n + 3 + j)) - (z * x + nt a (2 * n + 3 + j)) * nb a (2 * n + 2) = z * (nt a (2 * n + 2) * y - x * nb a (2 * n + 2)) + (nt a (2 * n + 2) * nb a (2 * n + 3 + j) - nt a (2 * n + 3 + j) * nb a (2 * n + 2)) := by grind
    omega
omit h in
/-- the arithmetic of one floor: p/q ≤ s/t < p'/q', p' q - p q' = 1, 0 < m ≤ q' -/
theorem floor_eq {p q s t p' q' m : Int} (hq : 0 < q) (ht : 0 < t) (hq' : 0 < q') (hd : p' * q - p * q' = 1) (h1 : p * t ≤ s * q) (h2 : s * q' < p' * t) (hm : 0 ≤ m) (hmq : m ≤ q') : m * s / t = m * p / q := by
  rcases Int.lt_or_eq_of_le hm with hm | hm
  · have e := Int.mul_ediv_add_emod (m * p) q
    have r0 := Int.emod_nonneg (m * p) (show q ≠ 0 by omega)
    have r1 := Int.emod_lt_of_pos (m * p) hq
    generalize hf : m * p / q = f at e ⊢
    generalize hr : m * p % q = r at e r0 r1
    -- f t ≤ m s
    have l1 : f * t ≤ m * s := by
      have a1 : m * (p * t) ≤ m * (s * q) := Int.mul_le_mul_of_nonneg_left h1 (by omega)
      have a2 : 0 ≤ r * t := Int.mul_nonneg r0 (by omega)
      have a3 : q * (f * t) ≤ q * (m * s) := by
        have : q * (f * t) = m * (p * t) - r * t := by grind
        have : q * (m * s) = m * (s * q) := by grind
        omega
      exact Int.le_of_mul_le_mul_left a3 hq
    -- m s < (f + 1) t
    have l2 : m * s < (f + 1) * t := by
      have b1 : m * q * (s * q') < m * q * (p' * t) := Int.mul_lt_mul_of_pos_left h2 (Int.mul_pos hm hq)
      have b2 : m * q * (p' * t) = q' * t * (m * p) + m * t := by grind
      have b3 : q' * t * r ≤ q' * t * (q - 1) := Int.mul_le_mul_of_nonneg_left (by omega) (Int.mul_nonneg (by omega) (by omega))
      have b4 : m * t ≤ q' * t := Int.mul_le_mul_of_nonneg_right hmq (by omega)
      have b5 : q' * t * (m * p) = q' * q * (f * t) + q' * t * r := by grind
      have b6 : q' * q * (m * s) < q' * q * ((f + 1) * t) := by
        have c1 : q' * q * (m * s) = m * q * (s * q') := by grind
        have c2 : q' * q * ((f + 1) * t) = q' * q * (f * t) + q' * t * (q - 1) + q' * t := by grind
        omega
      exact Int.lt_of_mul_lt_mul_left b6 (Int.le_of_lt (Int.mul_pos hq' hq))
    have l3 : f ≤ m * s / t := (Int.le_ediv_iff_mul_le ht).mpr l1
    have l4 : m * s / t < f + 1 := (Int.ediv_lt_iff_lt_mul ht).mpr l2
    omega
  · rw [← hm]
    simp
/-- one lower neighbour and a later one -/
theorem floor_later (n i : Nat) {m : Int} (hm : 0 ≤ m) (hmq : m ≤ nb a (2 * n + 2)) : m * nt a (2 * (n + i) + 1) / nb a (2 * (n + i) + 1) = m * nt a (2 * n + 1) / nb a (2 * n + 1) := by
  cases i with
  | zero => rfl
  | succ i =>
    have e : 2 * (n + (i + 1)) + 1 = 2 * n + 3 + (2 * i) := by omega
    have e' : 2 * (n + (i + 1)) + 1 = 2 * n + 1 + (2 * i + 2) := by omega
    have b := (below h n (2 * i)).1
    have c := (above h n (2 * i + 2)).1
    rw [← e'] at c
    rw [← e] at b
    have p1 := nb_pos h (2 * n)
    have p2 := nb_pos h (2 * n + 1)
    have p3 := nb_pos h (2 * (n + (i + 1)))
    exact floor_eq (by omega) (by omega) (show 0 < nb a (2 * n + 2) by have e : 2 * n + 1 + 1 = 2 * n + 2 := rfl; rw [e] at p2; omega) (det h n) (by omega) (by omega) hm hmq
end
/-- the whole part of m times the slope, m from 0 on -/
def fl (a : Nat → Int) (m : Int) : Int := m * nt a (2 * m.toNat + 1) / nb a (2 * m.toNat + 1)
/-- .. of any sign -/
def flz (a : Nat → Int) (m : Int) : Int := if m < 0 then -1 - fl a (-m) else fl a m
theorem fl_congr {a b : Nat → Int} (h : ∀ k, 1 ≤ k → a k = b k) (m : Int) : fl a m = fl b m := by
  unfold fl
  rw [(nt_congr h _).1, (nb_congr h _).1]
theorem flz_congr {a b : Nat → Int} (h : ∀ k, 1 ≤ k → a k = b k) (m : Int) : flz a m = flz b m := by
  unfold flz
  rw [fl_congr h, fl_congr h]
theorem lt_two_pow (j : Nat) : (j : Int) < 2 ^ j := by
  have h : ((2 ^ j : Nat) : Int) = (2 : Int) ^ j := by
    rw [Int.natCast_pow]
    rfl
  rw [← h]
  exact Int.ofNat_lt.mpr (Nat.lt_two_pow_self)
section
variable {a : Nat → Int} (h : Parts a)
include h
/-- any lower neighbour whose next one's bottom reaches m tells it -/
theorem fl_at (n : Nat) {m : Int} (hm : 0 ≤ m) (hmq : m ≤ nb a (2 * n + 2)) : m * nt a (2 * n + 1) / nb a (2 * n + 1) = fl a m := by
  unfold fl
  have hn : m ≤ nb a (2 * m.toNat + 2) := by
    have := nb_pow2 h m.toNat
    have := lt_two_pow m.toNat
    omega
  rcases Nat.le_total n m.toNat with hle | hle
  · obtain ⟨i, hi⟩ := Nat.exists_eq_add_of_le hle
    rw [hi]
    exact (floor_later h n i hm hmq).symm
  · obtain ⟨i, hi⟩ := Nat.exists_eq_add_of_le hle
    rw [hi]
    exact floor_later h m.toNat i hm hn
theorem fl_zero : fl a 0 = 0 := by
  unfold fl
  simp
theorem fl_one : fl a 1 = 0 := by
  rw [← fl_at h 0 (by omega) (by have := nb_pos h 1; omega)]
  rfl
theorem fl_step {m : Int} (hm : 0 ≤ m) : fl a m ≤ fl a (m + 1) ∧ fl a (m + 1) ≤ fl a m + 1 := by
  have k1 := nb_pow2 h (m + 1).toNat
  have k2 := lt_two_pow (m + 1).toNat
  rw [← fl_at h (m + 1).toNat hm (by omega), ← fl_at h (m + 1).toNat (show 0 ≤ m + 1 by omega) (by omega)]
  have p := nb_pos h (2 * (m + 1).toNat)
  have q := nt_le h (2 * (m + 1).toNat)
  have r := nt_nn h (2 * (m + 1).toNat + 1)
  generalize nt a (2 * (m + 1).toNat + 1) = t at *
  generalize nb a (2 * (m + 1).toNat + 1) = b at *
  have e : (m + 1) * t = m * t + t := by rw [Int.add_mul, Int.one_mul]
  rw [e]
  have hb : 0 < b := by omega
  refine ⟨Int.ediv_le_ediv hb (by omega), ?_⟩
  have : (m * t + t) / b ≤ (m * t + b) / b := Int.ediv_le_ediv hb (by omega)
  have e2 : (m * t + b) / b = m * t / b + 1 := by
    rw [Int.add_ediv_of_dvd_right ⟨1, by omega⟩, Int.ediv_self (by omega)]
  omega
theorem flz_step (m : Int) : flz a m ≤ flz a (m + 1) ∧ flz a (m + 1) ≤ flz a m + 1 := by
  unfold flz
  by_cases h1 : m + 1 < 0
  · rw [if_pos h1, if_pos (show m < 0 by omega)]
    have := fl_step h (show 0 ≤ -(m + 1) by omega)
    rw [show -(m + 1) + 1 = -m by omega] at this
    omega
  · by_cases h2 : m < 0
    · have e : m = -1 := by omega
      subst e
      rw [if_pos (show (-1 : Int) < 0 by decide), if_neg (show ¬ ((-1 : Int) + 1 < 0) by decide)]
      show -1 - fl a 1 ≤ fl a 0 ∧ fl a 0 ≤ -1 - fl a 1 + 1
      rw [fl_one h, fl_zero h]
      omega
    · rw [if_neg h1, if_neg h2]
      exact fl_step h (by omega)
theorem flz_zero : flz a 0 = 0 := by
  unfold flz
  rw [if_neg (by decide), fl_zero h]
theorem flz_one : flz a 1 = 0 := by
  unfold flz
  rw [if_neg (by decide), fl_one h]
theorem flz_neg_one : flz a (-1) = -1 := by
  unfold flz
  rw [if_pos (by decide)]
  show -1 - fl a 1 = -1
  rw [fl_one h]
  rfl
/-- of the days m and -1 - m, other ones than 0 and -1 -/
theorem flz_mirror {m : Int} (h0 : m ≠ 0) (h1 : m ≠ -1) : (flz a (-1 - m) < flz a (-1 - m + 1)) ↔ (flz a m < flz a (m + 1)) := by
  have e : -1 - m + 1 = -m := by omega
  rw [e]
  unfold flz
  by_cases hm : 0 < m
  · rw [if_pos (show -1 - m < 0 by omega), if_pos (show -m < 0 by omega), if_neg (show ¬ m < 0 by omega), if_neg (show ¬ m + 1 < 0 by omega)]
    rw [show -(-1 - m) = m + 1 by omega, show - -m = m by omega]
    omega
  · rw [if_neg (show ¬ -1 - m < 0 by omega), if_neg (show ¬ -m < 0 by omega), if_pos (show m < 0 by omega), if_pos (show m + 1 < 0 by omega)]
    rw [show -(m + 1) = -1 - m by omega]
    omega
/-- how far a loop over the neighbours can go: a bottom up to 10^30 has a small place -/
theorem place_small {k : Nat} {B : Int} (hB : B < 2 ^ 102) (hk : nb a k ≤ B) : k ≤ 206 := by
  rcases Nat.lt_or_ge 206 k with hlt | hge
  · exfalso
    obtain ⟨i, hi⟩ := Nat.exists_eq_add_of_le (show 207 ≤ k by omega)
    have mono : ∀ i, nb a 207 ≤ nb a (207 + i) := by
      intro i
      induction i with
      | zero => exact Int.le_refl _
      | succ i ih =>
        have := nb_mono h (206 + i)
        have := nb_nn h (206 + i)
        have e1 : 206 + i + 1 = 207 + i := by omega
        have e2 : 206 + i + 2 = 207 + (i + 1) := by omega
        have m := nb_mono h (206 + i)
        rw [e1, e2] at m
        omega
    have p := nb_pow h 103
    have q := mono i
    rw [← hi] at q
    have : (2 : Int) ^ 102 < 2 ^ 103 := by decide
    have e : 2 * 103 + 1 = 207 := rfl
    rw [e] at p
    omega
  · exact hge
end
/-! ### the parts told by a lead and a loop -/
def part (L T : List Int) (k : Nat) : Int := if k ≤ L.length then L.getD (k - 1) 0 else T.getD ((k - 1 - L.length) % T.length) 0
/-- small lists -/
structure Ok (L T : List Int) : Prop where
  l : L.length ≤ 2
  t0 : 1 ≤ T.length
  t : T.length ≤ 2
  pl : ∀ x ∈ L, 1 ≤ x ∧ x ≤ 4
  pt : ∀ x ∈ T, 1 ≤ x ∧ x ≤ 4
theorem getD_mem {l : List Int} {i : Nat} (h : i < l.length) : l.getD i 0 ∈ l := by
  rw [List.getD_eq_getElem?_getD, List.getElem?_eq_getElem h]
  exact List.getElem_mem h
theorem Ok.part4 {L T : List Int} (h : Ok L T) {k : Nat} (hk : 1 ≤ k) : 1 ≤ part L T k ∧ part L T k ≤ 4 := by
  unfold part
  by_cases c : k ≤ L.length
  · rw [if_pos c]
    exact h.pl _ (getD_mem (by omega))
  · rw [if_neg c]
    exact h.pt _ (getD_mem (Nat.mod_lt _ (by have := h.t0; omega)))
theorem Ok.parts {L T : List Int} (h : Ok L T) : Parts (part L T) := fun k hk => by
  have := h.part4 hk
  omega
/-- a loop of two alike -/
theorem part_loop (L : List Int) (x : Int) (k : Nat) : part L [x, x] k = part L [x] k := by
  unfold part
  by_cases c : k ≤ L.length
  · rw [if_pos c, if_pos c]
  · rw [if_neg c, if_neg c]
    show [x, x].getD ((k - 1 - L.length) % 2) 0 = [x].getD ((k - 1 - L.length) % 1) 0
    rw [Nat.mod_one]
    rcases Nat.mod_two_eq_zero_or_one (k - 1 - L.length) with e | e
    · rw [e]; rfl
    · rw [e]; rfl
/-- the last part of the lead goes into the loop -/
theorem part_turn {L T : List Int} (z : Int) (hT : T.length ≤ 1) {k : Nat} (hk : 1 ≤ k) : part (L ++ [z]) (T ++ [z]) k = part L (z :: T) k := by
  unfold part
  rw [List.length_append]
  show (if k ≤ L.length + 1 then (L ++ [z]).getD (k - 1) 0 else (T ++ [z]).getD ((k - 1 - (L.length + 1)) % (T ++ [z]).length) 0) = if k ≤ L.length then L.getD (k - 1) 0 else (z :: T).getD ((k - 1 - L.length) % (z :: T).length) 0
  by_cases c : k ≤ L.length
  · rw [if_pos c, if_pos (by omega)]
    rw [List.getD_eq_getElem?_getD, List.getD_eq_getElem?_getD, List.getElem?_append_left (by omega)]
  · rw [if_neg c]
    by_cases d : k ≤ L.length + 1
    · rw [if_pos d]
      have e : k - 1 = L.length := by omega
      rw [e, List.getD_eq_getElem?_getD, List.getElem?_append_right (by omega), Nat.sub_self, Nat.zero_mod]
      rfl
    · rw [if_neg d]
      obtain ⟨j, hj⟩ := Nat.exists_eq_add_of_le (show L.length + 2 ≤ k by omega)
      have e1 : k - 1 - (L.length + 1) = j := by omega
      have e2 : k - 1 - L.length = j + 1 := by omega
      rw [e1, e2]
      match T, hT with
      | [], _ =>
        show [z].getD (j % 1) 0 = [z].getD ((j + 1) % 1) 0
        rw [Nat.mod_one, Nat.mod_one]
      | [w], _ =>
        show [w, z].getD (j % 2) 0 = [z, w].getD ((j + 1) % 2) 0
        rcases Nat.mod_two_eq_zero_or_one j with e | e
        · have e' : (j + 1) % 2 = 1 := by omega
          rw [e, e']; rfl
        · have e' : (j + 1) % 2 = 0 := by omega
          rw [e, e']; rfl
end KM
set_option Elab.async false
set_option linter.all false
set_option maxRecDepth 100000
/-! Rules that the layer lacks: enumerate of a tuple (over the library's WalksT.enumerateD), a call by keywords alone. -/
namespace KR
open PySem PySem.Spec PyProof.Rows L2
section
variable {prog : Program} {w : World} {A : Around} {E : Value → Shared → Prop}
set_option maxHeartbeats 4000000 in
/-- enumerate.__new__ with one argument, told by how that one begins -/
theorem meets_enumerate1 {v : Value} {cell : Obj} {Told : Heap → Prop} (B : Begins v cell Told) :
    Meets (Builtin.«enumerate.__new__» ⟨[.type "enumerate", v], []⟩) (fun _ R z => Told z.heap ∧ R (.ok (.ret (.ref (z.heap.push cell).objs.size)))
      { z with heap := (z.heap.push cell).push { cls := .type "enumerate", data := .fields #[.none, .bool false, .ref z.heap.objs.size, rawInt 0, .none, .none] } }) := by
  refine .of_wp fun prog w A R z both => ?_
  obtain ⟨heap, gens, drawn, toks, os⟩ := z
  obtain ⟨told, after⟩ := both
  have sub := sub_enumerate
  have opens : ∀ {A2 : Around} {E2 : Value → Shared → Prop} {Q2 : Value → Shared → Prop}, Q2 (.ref heap.objs.size) ⟨heap.push cell, gens, drawn, toks, os⟩ → wpAny (model prog w) A2 (pyIter v) Q2 E2 ⟨heap, gens, drawn, toks, os⟩ :=
    fun then_ => B.iter prog w _ _ ⟨heap, gens, drawn, toks, os⟩ _ told then_
  wp_walk using opens
  refine wpAny_stack_any fun frames => wpAny_pure ?_
  split
  · rename_i cls _ _ _ _ _
    cases (cls == Value.type "enumerate") <;> (wp_walk using opens; exact ⟨_, rfl, after⟩)
  · wp_walk using opens
    exact ⟨_, rfl, after⟩
/-- enumerate(t) of a tuple: its two new cells -/
theorem call_enumerate_tuple {z : Shared} {t : Addr} {items : Array Value} {Q : Value → Shared → Prop} (ht : z.heap.IsTuple t items)
    (then_ : ∀ h', IsEnum h' (z.heap.objs.size + 1) z.heap.objs.size 0 .none → h'.IsTupleIter z.heap.objs.size t 0 → (∀ b o, z.heap.get? b = some o → h'.get? b = some o) → Q (.ref (z.heap.objs.size + 1)) { z with heap := h' }) :
    wpAny (model prog w) A (call (.type "enumerate") [.ref t]) Q E z := by
  have size1 := Heap.size_push z.heap { cls := .type "tuple_iterator", data := .fields #[.ref t, .int 0 0] }
  have first : ((z.heap.push { cls := .type "tuple_iterator", data := .fields #[.ref t, .int 0 0] }).push { cls := .type "enumerate", data := .fields #[.none, .bool false, .ref z.heap.objs.size, rawInt 0, .none, .none] }).get? z.heap.objs.size = some { cls := .type "tuple_iterator", data := .fields #[.ref t, .int 0 0] } :=
    Heap.get?_push_of_some _ (Heap.get?_push_size z.heap rfl)
  have second : IsEnum ((z.heap.push { cls := .type "tuple_iterator", data := .fields #[.ref t, .int 0 0] }).push { cls := .type "enumerate", data := .fields #[.none, .bool false, .ref z.heap.objs.size, rawInt 0, .none, .none] }) (z.heap.objs.size + 1) z.heap.objs.size 0 .none := by
    unfold IsEnum
    rw [← size1]
    exact Heap.get?_push_size _ rfl
  refine callType_new F.called_enumerate (by decide) (F.typeCall_enumerate_1 (.ref t)) (F.newCall_enumerate_1 (.ref t)) (fun made => F.args_object_init_2 made (.ref t)) F.entry_enumerate_new (meets_enumerate1 (begins_tuple t items)) ⟨ht, ?_⟩
  rw [size1]
  exact ⟨⟨_, second, rfl⟩, then_ _ second ⟨_, first, rfl, rfl⟩ fun b o at_ => Heap.get?_push_of_some _ (Heap.get?_push_of_some _ at_)⟩
end
/-! ### enumerate(t) as what a for walks -/
/-- the items of the tuple at a, each in a new pair with its number -/
def IteT (K : PySem.W.Frag) (a : Addr) : It where
  go := fun i H => ∃ (xs : List V) (x : V), SqT K H a xs ∧ xs[i]? = some x
  yld := fun i H v H' => ∃ (T : Addr) (x : V), v = .ref T ∧ H T = none ∧ H' = upd H T (.tup [.int (i : Nat), x]) ∧ ∀ xs, SqT K H a xs → xs[i]? = some x
  stop := fun i H => ∃ xs : List V, SqT K H a xs ∧ xs.length = i
/-- its two cells before turn i -/
def Cells (a e it : Addr) (i : Nat) (h : Heap) : Prop := (∃ old, IsEnum h e it (i : Int) old) ∧ h.IsTupleIter it a i ∧ e ≠ it ∧ a ≠ it ∧ e ≠ a
theorem two_of {e it b : Addr} (h : b ∈ [e, it]) : b = e ∨ b = it := by simpa using h
section
variable {P : Program} {w : World} {K : PySem.W.Frag} {elts : List Expr} {kk : Nat} {tpos : Pos} {a e it : Addr}
theorem turn_enumT : Turn P w K (.Tuple elts kk tpos) (IteT K a) [e, it] e (Cells a e it) where
  mem := List.mem_cons_self
  obj := by
    rintro i h ⟨⟨old, he⟩, ⟨o, ho, _, fields⟩, _⟩ b hb
    rcases two_of hb with rfl | rfl
    · exact ⟨_, he, fun v => nofun⟩
    · refine ⟨o, ho, fun v cell => ?_⟩
      rw [fields] at cell
      exact nomatch cell
  keep := by
    rintro i h h' ⟨⟨old, he⟩, hit, apart⟩ kept
    exact ⟨⟨old, kept e (by simp) _ he⟩, hit.at fun o => kept it (by simp) o, apart⟩
  item := by
    rintro X rfl rfl rfl calm i pins z σ H E I own ⟨⟨old, he⟩, hit, n1, n2, n3⟩ ⟨xs, x, reads, here⟩
    obtain ⟨its, rel, tup, _⟩ := I.tuple reads
    obtain ⟨u, at_u, ru⟩ := rel.get here
    have W := WalksT.enumerateD (Draws.tuple (prog := X.prog) (w := X.w) (A := X.A.in1) (I.ok.hd calm) it a n2 its.toArray) e n1 (by simp [n1, n3]) (by simp)
    have more : i < its.toArray.size := by
      rw [List.size_toArray]
      exact (List.getElem?_eq_some_iff.mp at_u).1
    have low : ∀ b ∈ [e, it], b < z.heap.objs.size := fun b hb => by
      rcases two_of hb with rfl | rfl
      · exact Heap.lt_size he
      · obtain ⟨_, stands, _⟩ := hit
        exact Heap.lt_size stands
    refine W.item i z _ E more ⟨⟨old, he⟩, hit, tup⟩ fun T vals h1 tk pair above isT mid kept1 => ⟨.ref T, rfl, W.go elts kk tpos i T _ _ E mid fun h2 next kept2 => ?_⟩
    obtain ⟨t, u', at_u', rfl⟩ := pair
    obtain rfl : u' = u := by
      rw [List.getElem?_toArray, at_u] at at_u'
      exact (Option.some.inj at_u').symm
    obtain ⟨oT, stands, cls, n, seq⟩ := isT
    have outT : T ∉ [e, it] := fun m => absurd (low T m) (Nat.not_lt.mpr above)
    have pairObj : ObjOk X.prog X.w (upd H T (.tup [.int (i : Nat), x])) h2 T (.tup [.int (i : Nat), x]) :=
      ⟨by show 2 ≤ sizeLine; decide, [.int i t, u'], .cons ⟨t, rfl⟩ (.cons ru .nil), oT, kept2 T oT outT stands, cls, n, seq⟩
    refine ⟨.ref T, upd H T (.tup [.int (i : Nat), x]), I.turnedNew (t' := tk) (ch := [e, it]) (fun b o out q => kept2 b o out (kept1 b o out q)) own above pairObj, rfl, ⟨T, x, rfl, I.hok.fresh above, rfl, fun ys hy => ?_⟩, ⟨next.1, next.2.1, n1, n2, n3⟩, fun b hb => ?_⟩
    · rw [I.tuple_inj hy reads]
      exact here
    · rw [upd_ne (Nat.ne_of_lt (Nat.lt_of_lt_of_le (low b hb) above))]
      exact (own b hb).1
  done := by
    rintro X rfl rfl rfl calm i pins z σ H E I own ⟨⟨old, he⟩, hit, n1, n2, n3⟩ ⟨xs, reads, rfl⟩
    obtain ⟨its, rel, tup, _⟩ := I.tuple reads
    have all : its.toArray.size = xs.length := by rw [List.size_toArray, rel.length]
    obtain ⟨g0, g1, _, g3, g4, g5⟩ := own it (by simp)
    exact wpAny_pyNext_enum_endD (Draws.tuple (A := X.A.in1) (I.ok.hd calm) it a n2 its.toArray) he (by rw [all]; exact ⟨hit, tup⟩) fun h' but => ⟨rfl, I.turned (t' := z.toks) (fun b o => but b o) g0 g1 g3 g4 g5⟩
  self := by
    rintro A i z Q E ⟨⟨_, he⟩, _⟩ q
    exact wpAny_pyIter_enum he q
end
def iEnumT (K : PySem.W.Frag) (ta : TA) : TI := fun σ H R => ta σ H fun vs H1 => ∃ a xs, vs = [.ref a] ∧ SqT K H1 a xs ∧ R (IteT K a) H1
theorem pi_enumT {X : Cx} {e : Expr} {ta : TA} {p pos tpos : Pos} {elts : List Expr} {kk : Nat} (hg : Gl X "enumerate") (hm : X.mg "enumerate" = none) (ha : PA X [e] ta) (one : starEach [e] X.env = [(false, eval e X.env)] := by rfl) :
    PI X (.Tuple elts kk tpos) (.Call (.Name "enumerate" p) [e] [] pos) (iEnumT X.K ta) := by
  constructor
  intro pins z σ H R I asked
  refine Call_ (ld_blt I hg hm boot_enumerate (PyProof.Rows.callWith_type1 (thn (ha.run pos pins z σ H _ I asked) fun us z1 got => ?_) one rfl))
  obtain ⟨vs, H1, I1, rel, a, xs, rfl, reads, then_⟩ := got
  obtain ⟨u, rfl, ru⟩ := vals1 rel
  cases ru
  obtain ⟨its, _, tup, _⟩ := I1.tuple reads
  have isT : z1.heap.IsTuple a its.toArray := tup
  have la : a < z1.heap.objs.size := by
    obtain ⟨_, stands, _⟩ := isT
    exact Heap.lt_size stands
  refine call_enumerate_tuple isT fun h' en it kept => wpAny_pyIter_enum en ⟨_, [z1.heap.objs.size + 1, z1.heap.objs.size], _, _, H1, rfl, I1.kept (t' := z1.toks) kept, turn_enumT, ⟨⟨_, en⟩, it, Nat.succ_ne_self _, Nat.ne_of_lt la, ?_⟩, fun b hb => ?_, then_⟩
  · exact (Nat.ne_of_lt (Nat.lt_succ_of_lt la)).symm
  · have high : z1.heap.objs.size ≤ b := by
      rcases two_of hb with rfl | rfl
      · exact Nat.le_succ _
      · exact Nat.le_refl _
    exact I1.fpOk high (I1.hok.fresh high)
/-- for i, x in enumerate(t): an invariant over the turn, the slots, the heap; the pair is a new tuple at T -/
theorem for_enumT {K : PySem.W.Frag} {a : Addr} {xs : List V} {g : TG} {tb : TS} {D : Ends} {σ : L2.St} {H : Hp} (Pv : Nat → L2.St → Hp → Prop) (begin_ : Pv 0 σ H) (stands : ∀ i σ H, i ≤ xs.length → Pv i σ H → SqT K H a xs)
    (turn : ∀ i x T σ H, xs[i]? = some x → Pv i σ H → H T = none → g (.ref T) σ (upd H T (.tup [.int (i : Nat), x])) fun σ1 H1 => tb { D with nx := Pv (i + 1), ct := Pv (i + 1), bk := D.nx } σ1 H1) (after : ∀ σ H, Pv xs.length σ H → D.nx σ H) :
    ∃ W : Nat → Nat → L2.St → Hp → Prop, (∃ m, W 0 m σ H) ∧ ∀ i m σ H, W i m σ H → ((IteT K a).stop i H ∧ D.nx σ H) ∨ ((IteT K a).go i H ∧ ∃ Nx : L2.St → Hp → Prop, (∀ σ' H', Nx σ' H' → ∃ m', m' < m ∧ W (i + 1) m' σ' H') ∧
      ∀ x H', (IteT K a).yld i H x H' → g x σ H' fun σ1 H1 => tb { D with nx := Nx, ct := Nx, bk := D.nx } σ1 H1) := by
  refine ⟨fun i m σ H => i + m = xs.length ∧ Pv i σ H, ⟨xs.length, Nat.zero_add _, begin_⟩, fun i m σ H => ?_⟩
  rintro ⟨sum, now⟩
  have reads := stands i σ H (by omega) now
  match m, sum with
  | 0, sum =>
    obtain rfl : i = xs.length := sum
    exact .inl ⟨⟨xs, reads, rfl⟩, after σ H now⟩
  | m + 1, sum =>
    have lt : i < xs.length := by omega
    refine .inr ⟨⟨xs, xs[i], reads, List.getElem?_eq_getElem lt⟩, Pv (i + 1), fun σ' H' later => ⟨m, Nat.lt_succ_self m, by omega, later⟩, ?_⟩
    rintro v H' ⟨T, x, rfl, free, rfl, tells⟩
    exact turn i x T σ H (tells xs reads) now free
/-! ### f(k = v, ..) -/
theorem pe_callN0 {X : Cx} {CX : CXT} {k : Nat} {f : Addr} {fd : FuncData} {ps ks : List Str} {sp : Sp} {E : XK} {x : Str} {p pos : Pos} {kws : List Keyword} {tk : TA} {g : List Value → List Value → List Value} {gV : List V → List V → List V}
    (F : FnOk X.prog X.w X.K X.mg X.base CX k f fd ps sp) (room : Room k X.A) (hg : Gl X x) (hm : X.mg x = some (.ref f)) (hk : PySem.W.keepIn X.K (.ref f) = true) (bind : KBn X.K fd ps 0 ks g gV) (pass : Passes CX X E) (words : PK X kws tk)
    (named : (backToKw pos (keywordEach kws X.env)).all (·.1.isSome) = true := by rfl) (names : (backToKw pos (keywordEach kws X.env)).filterMap (·.1) = ks := by rfl) (nodebug : (x == ("__debug__" : Str)) = false := by decide)
    (simple : ((backTo pos (starEach [] X.env)).any (·.1) || (backToKw pos (keywordEach kws X.env)).any (·.1.isNone)) = false := by rfl) : PE X (.Call (.Name x p) [] kws pos) (tCallN 0 ks.length sp gV E tNil tk) := by
  constructor
  intro pins z σ H Q I asked
  refine wpAny_Call_Name_kw (ld_glob I hg hm (PySem.W.callWith_KW0 (h₀ := X.base) I.ok.mod.kin hk named (thn (words.run pos pins z σ H _ I asked) fun ws z2 got => ?_) simple) nodebug)
  obtain ⟨zs, H2, I2, rel, l1, l2, told⟩ := got
  rw [names]
  exact ⟨I2.kIn, run_fnN (us := []) (vs := []) F room bind pass I2 .nil rel l1 l2 told⟩
end KR
set_option Elab.async false
set_option linter.all false
set_option maxRecDepth 100000
set_option autoImplicit false
namespace KD
open PySem PySem.Spec PyProof.Rows L2 KR
open C8 (Cal pe_c pe_gc Mak pe_mk InsC call_isC)
open StX (pa_star)
/-! ### the text by places -/
def top (i : Nat) : Stmt := PySem.Challenge.pw_slopeworld_k15_whole_bells_by_whole_part.main.body.getD i (.Pass ⟨0, 0, 0, 0⟩)
abbrev sIsInt : Stmt := top 12
abbrev sBetween : Stmt := top 13
abbrev sCLead : Stmt := top 22
abbrev sCLoop : Stmt := top 23
abbrev sSLoop : Stmt := top 24
abbrev sShort : Stmt := top 25
abbrev sListed : Stmt := top 26
abbrev sInit : Stmt := inClass (top 28) 0
abbrev sCSlope : Stmt := top 29
abbrev sPartAt : Stmt := top 31
abbrev sPast : Stmt := top 32
abbrev sIsPoint : Stmt := top 34
abbrev sCPoint : Stmt := top 35
abbrev sMult : Stmt := top 36
abbrev sWholeAt : Stmt := top 37
abbrev sWholePart : Stmt := top 38
abbrev sCDay : Stmt := top 40
abbrev sDoes : Stmt := top 41
abbrev sRings : Stmt := top 42
abbrev sSpring : Stmt := top 44
abbrev sDrop : Stmt := top 45
abbrev sPick : Stmt := top 46
abbrev sPlan : Stmt := top 47
abbrev sSlope : Stmt := top 48
abbrev sAt : Stmt := top 49
abbrev sPairs : Stmt := top 50
abbrev sUnder : Stmt := top 51
abbrev sRow : Stmt := top 52
abbrev sRight : Stmt := top 53
abbrev sLaw : Stmt := top 54

/-! ### what the module's names hold -/
structure Txt (mg : Str → Option Value) : Prop where
  isinstance : mg "isinstance" = none
  int : mg "int" = none
  bool : mg "bool" = none
  tuple : mg "tuple" = none
  len : mg "len" = none
  range : mg "range" = none
  enumerate : mg "enumerate" = none
  all : mg "all" = none
  abs : mg "abs" = none
  divmod : mg "divmod" = none
  str : mg "str" = none
  repr : mg "repr" = none
  max : mg "max" = none
  min : mg "min" = none
  mPart : ∃ u, mg "MOST_PART" = some u ∧ RelV (.int 20) u
  mLead : ∃ u, mg "MOST_LEAD" = some u ∧ RelV (.int 8) u
  mLoop : ∃ u, mg "MOST_LOOP" = some u ∧ RelV (.int 12) u
  mNumber : ∃ u, mg "MOST_NUMBER" = some u ∧ RelV (.int (10 ^ 30)) u
/-- a def of the text as it stands behind the top -/
structure Df (K : PySem.W.Frag) (mg : Str → Option Value) (x : Str) (st : Stmt) (ps : List Str) : Prop where
  ex : ∃ (f : Addr) (fd : FuncData), Fun K x x st f fd ∧ mg x = some (.ref f) ∧ Binds K fd ps []
section
variable {P : Program} {w : World} {K : PySem.W.Frag} {mg : Str → Option Value} {base : Heap}
theorem Df.cal {x : Str} {st : Stmt} {N ps : List Str} {k : Nat} {sp : Sp} (D : Df K mg x st ps) (S : FnScope N ps (defScope st)) (len : ∀ vs H Q E, sp vs H Q E → vs.length = ps.length)
    (hbody : ∀ (f : Addr) (cdv : Value) (A : Around) (outer : List Env) (s : Shared) (H : Hp) (vs : List V) (Q : VK) (E : XK), Room k (A.deeper (envOfC x (defScope st) s.heap.objs.size f cdv)) → sp vs H Q E →
      ∃ t, PSs (cxOf CX0 P w K mg base N x (defScope st) f cdv A outer s H E).nox (defBody st) t ∧ t { nx := fun _ H' => Q .non H', rt := Q } (start N vs) H) : Cal P w K mg base (k + 1) x sp [] := by
  obtain ⟨f, fd, F, hm, b⟩ := D.ex
  exact ⟨f, fd, ps, [], F.ok S len fun cdv A outer s H vs Q E => hbody f cdv A outer s H vs Q E, hm, F.kp, b, .nil⟩

/-! ### heaps -/
theorem same_upd {H : Hp} {p : Addr} {o : HO} (h : H p = none) : Same H (upd H p o) := fun b x e => by
  rw [upd_ne (ne_of_none e h)]
  exact e
abbrev IT (L : List Int) : HO := .tup (L.map V.int)
theorem sqT {K : PySem.W.Frag} {H : Hp} {a : Addr} {xs : List V} (h : H a = some (.tup xs)) : SqT K H a xs := .inl (.inl h)
theorem sqL {K : PySem.W.Frag} {H : Hp} {a : Addr} {xs : List V} (h : H a = some (.lst xs)) : SqL K H a xs := .inl (.inl h)

/-! ### data -/
theorem eqvAll_ints : ∀ L M : List Int, PyData.eqvAll (L.map PyData.int) (M.map PyData.int) = decide (L = M)
  | [], [] => by simp [PyData.eqvAll]
  | [], _ :: _ => by simp [PyData.eqvAll]
  | _ :: _, [] => by simp [PyData.eqvAll]
  | x :: L, y :: M => by
    show PyData.eqvAll (.int x :: L.map PyData.int) (.int y :: M.map PyData.int) = _
    rw [PyData.eqvAll, eqvAll_ints L M, PyData.eqv]
    by_cases h : x = y
    · subst h
      simp
    · simp [h]
theorem eqv_tup (L M : List Int) : PyData.eqv (.tuple (L.map PyData.int)) (.tuple (M.map PyData.int)) = decide (L = M) := by
  rw [PyData.eqv, eqvAll_ints]
theorem shaped2 {L : List Int} (h : L.length ≤ 2) : SeqAt.shaped (.tuple (L.map PyData.int)) = true := by
  match L, h with
  | [], _ => rfl
  | [x], _ => rfl
  | [x, y], _ => rfl
theorem dpAll_ints {K : PySem.W.Frag} {H : Hp} : ∀ L : List Int, DpAll K H (L.map V.int) (L.map PyData.int)
  | [] => .nil
  | x :: L => .cons (.int x) (dpAll_ints L)
theorem dp_tup {K : PySem.W.Frag} {H : Hp} {a : Addr} {L : List Int} (h : H a = some (IT L)) : Dp K H (.ref a) (.tuple (L.map PyData.int)) := .tup (sqT h) (dpAll_ints L)

/-! ### is_integer, is_between -/
def spIsInt : Sp := fun vs H Q _ => ∃ i, vs = [.int i] ∧ Q (.bl true) H
theorem scIsInt : FnScope ["value"] ["value"] (defScope sIsInt) := ⟨rfl, rfl, rfl, by decide +kernel, rfl, by decide +kernel, by decide +kernel⟩
theorem cal_isInt (D : Df K mg "is_integer" sIsInt ["value"]) (T : Txt mg) : Cal P w K mg base 1 "is_integer" spIsInt [] := by
  refine D.cal scIsInt (fun vs H Q E h => ?_) (fun f cdv A outer s H vs Q E hr h => ?_)
  · obtain ⟨i, rfl, _⟩ := h
    rfl
  · obtain ⟨i, rfl, q⟩ := h
    refine ⟨_, pss_one (ps_ret (pe_and (pe_callB call_isi (by rfl) T.isinstance (by decide +kernel) (pa_cons (pv 0) (pa_cons (pe_bltn (v := .ty "int") (by rfl) T.int boot_int rfl) pa_nil)))
      (pe_one (pe_not (pe_callB call_isi (by rfl) T.isinstance (by decide +kernel) (pa_cons (pv 0) (pa_cons (pe_bltn (v := .ty "bool") (by rfl) T.bool (by decide +kernel) rfl) pa_nil))))))), ?_⟩
    refine ⟨_, rfl, _, _, _, _, true, rfl, .ty "int", .base (.int i), kit_ty (by decide +kernel), _, rfl, iteT ?_⟩
    exact ⟨_, rfl, _, _, _, _, false, rfl, .ty "bool", .base (.int i), kit_ty (by decide +kernel), _, rfl, q⟩
def spBetween : Sp := fun vs H Q _ => ∃ i lo hi, vs = [.int i, .int lo, .int hi] ∧ lo ≤ i ∧ i ≤ hi ∧ Q (.bl true) H
theorem scBetween : FnScope ["value", "low", "high"] ["value", "low", "high"] (defScope sBetween) := ⟨rfl, rfl, rfl, by decide +kernel, rfl, by decide +kernel, by decide +kernel⟩
theorem cal_between (D : Df K mg "is_between" sBetween ["value", "low", "high"]) (c1 : Cal P w K mg base 1 "is_integer" spIsInt []) : Cal P w K mg base 2 "is_between" spBetween [] := by
  refine D.cal scBetween (fun vs H Q E h => ?_) (fun f cdv A outer s H vs Q E hr h => ?_)
  · obtain ⟨i, lo, hi, rfl, _⟩ := h
    rfl
  · obtain ⟨i, lo, hi, rfl, h1, h2, q⟩ := h
    refine ⟨_, pss_one (ps_ret (pe_and (pe_c c1 hr (by decide) (by rfl) (pa_cons (pv 0) pa_nil)) (pe_one (pe_chain op_le op_le (pv 1) (pv 0) (pv 2))))), ?_⟩
    refine ⟨_, rfl, i, rfl, true, rfl, iteT ?_⟩
    refine ⟨_, rfl, _, rfl, _, _, rfl, rfl, _, rfl, ?_⟩
    rw [decide_eq_true h1]
    refine iteT ⟨_, rfl, _, _, rfl, rfl, ?_⟩
    show Q (V.bl (decide (i ≤ hi))) H
    rw [decide_eq_true h2]
    exact q

/-! ### check_lead, check_loop -/
def spCLead : Sp := fun vs H Q _ => ∃ l L, vs = [.ref l] ∧ H l = some (IT L) ∧ L.length ≤ 2 ∧ (∀ x ∈ L, 1 ≤ x ∧ x ≤ 4) ∧ ∀ H', Same H H' → Q .non H'
theorem scCLead : FnScope ["lead", "index", "part"] ["lead"] (defScope sCLead) := ⟨rfl, rfl, rfl, by decide +kernel, rfl, by decide +kernel, by decide +kernel⟩
theorem cal_cLead (D : Df K mg "check_lead" sCLead ["lead"]) (T : Txt mg) (c1 : Cal P w K mg base 2 "is_between" spBetween []) : Cal P w K mg base 3 "check_lead" spCLead [] := by
  refine D.cal scCLead (fun vs H Q E h => ?_) (fun f cdv A outer s H vs Q E hr h => ?_)
  · obtain ⟨l, L, rfl, _⟩ := h
    rfl
  · obtain ⟨l, L, rfl, hl, h2, hp, q⟩ := h
    refine ⟨_, pss_cons (ps_if (pt_not (pt_val (pe_callB call_isi (by rfl) T.isinstance (by decide +kernel) (pa_cons (pv 0) (pa_cons (pe_bltn (v := .ty "tuple") (by rfl) T.tuple (by decide +kernel) rfl) pa_nil))))) pss_never pss_nil)
      (pss_one (ps_for PassesOwn.never rfl (pi_enumT (by rfl) T.enumerate (pa_cons (pv 0) pa_nil)) (pg_tup rfl (pgs_cons (pg_name (i := 1) scCLead.nd rfl (.inl rfl)) (pgs_cons (pg_name (i := 2) scCLead.nd rfl (.inl rfl)) pgs_nil)))
        (pss_one (ps_if (PW.pt (pw_or (pt_cmpR op_eq (pv 1) (pe_gc (by rfl) T.mLead) (nomark _)) (pw_or1 (pt_not (pt_val (pe_c c1 hr (by decide) (by rfl) (pa_cons (pv 2) (pa_cons pe_int (pa_cons (pe_gc (by rfl) T.mPart) pa_nil))))))))) pss_never pss_nil)))), ?_⟩
    refine ⟨_, rfl, _, _, _, _, true, rfl, .ty "tuple", .base (.tup hl), kit_ty (by decide +kernel), _, rfl, iteF ?_⟩
    refine ⟨_, rfl, l, L.map V.int, rfl, sqT hl, for_enumT (K := K) (a := l) (xs := L.map V.int) (fun i σ H' => ∃ y1 y2, σ = [some (.ref l), y1, y2] ∧ Same H H') ⟨_, _, rfl, Same.refl H⟩ (fun i σ H' _ ⟨_, _, _, sm⟩ => sqT (sm _ _ hl)) ?_ ?_⟩
    · rintro i x T' σ H' hx ⟨y1, y2, rfl, sm⟩ nT
      have hi : i < L.length := by
        have := (List.getElem?_eq_some_iff.mp hx).1
        simpa using this
      obtain ⟨z, hz, rfl⟩ : ∃ z, z ∈ L ∧ x = V.int z := by
        rw [List.getElem?_map, List.getElem?_eq_getElem hi] at hx
        exact ⟨L[i], List.getElem_mem hi, (Option.some.inj hx).symm⟩
      have s2 : Same H (upd H' T' (.tup [.int (i : Nat), .int z])) := sm.trans (same_upd nT)
      refine ⟨T', _, rfl, sqT upd_same, rfl, _, _, rfl, _, _, rfl, rfl, ?_⟩
      refine ⟨_, rfl, rfl, _, rfl, ?_⟩
      have e : decide (V.int ((i : Nat) : Int) = V.int 8) = false := decide_eq_false fun e => by
        have := V.int.inj e
        omega
      rw [e]
      refine iteF ?_
      have b := hp z hz
      refine ⟨_, rfl, z, 1, 20, rfl, b.1, by omega, true, rfl, iteF ?_⟩
      exact ⟨_, _, rfl, s2⟩
    · rintro σ H' ⟨_, _, _, sm⟩
      exact q H' sm
def spCLoop : Sp := fun vs H Q _ => ∃ l L, vs = [.ref l] ∧ H l = some (IT L) ∧ 1 ≤ L.length ∧ L.length ≤ 2 ∧ (∀ x ∈ L, 1 ≤ x ∧ x ≤ 4) ∧ ∀ H', Same H H' → Q .non H'
theorem scCLoop : FnScope ["turn", "index", "part"] ["turn"] (defScope sCLoop) := ⟨rfl, rfl, rfl, by decide +kernel, rfl, by decide +kernel, by decide +kernel⟩
theorem cal_cLoop (D : Df K mg "check_loop" sCLoop ["turn"]) (T : Txt mg) (c1 : Cal P w K mg base 2 "is_between" spBetween []) : Cal P w K mg base 3 "check_loop" spCLoop [] := by
  refine D.cal scCLoop (fun vs H Q E h => ?_) (fun f cdv A outer s H vs Q E hr h => ?_)
  · obtain ⟨l, L, rfl, _⟩ := h
    rfl
  · obtain ⟨l, L, rfl, hl, h1, h2, hp, q⟩ := h
    refine ⟨_, pss_cons (ps_if (PW.pt (pw_or (pt_not (pt_val (pe_callB call_isi (by rfl) T.isinstance (by decide +kernel) (pa_cons (pv 0) (pa_cons (pe_bltn (v := .ty "tuple") (by rfl) T.tuple (by decide +kernel) rfl) pa_nil)))))
        (pw_or1 (pt_cmpR (op_eqD hr.units) (pv 0) (pe_tup pa_nil) (nomark _))))) pss_never pss_nil)
      (pss_one (ps_for PassesOwn.never rfl (pi_enumT (by rfl) T.enumerate (pa_cons (pv 0) pa_nil)) (pg_tup rfl (pgs_cons (pg_name (i := 1) scCLoop.nd rfl (.inl rfl)) (pgs_cons (pg_name (i := 2) scCLoop.nd rfl (.inl rfl)) pgs_nil)))
        (pss_one (ps_if (PW.pt (pw_or (pt_cmpR op_eq (pv 1) (pe_gc (by rfl) T.mLoop) (nomark _)) (pw_or1 (pt_not (pt_val (pe_c c1 hr (by decide) (by rfl) (pa_cons (pv 2) (pa_cons pe_int (pa_cons (pe_gc (by rfl) T.mPart) pa_nil))))))))) pss_never pss_nil)))), ?_⟩
    refine ⟨_, rfl, _, _, _, _, true, rfl, .ty "tuple", .base (.tup hl), kit_ty (by decide +kernel), _, rfl, iteF ?_⟩
    refine ⟨_, rfl, Nat.zero_le _, fun e0 n0 => ?_⟩
    have hl0 : (upd H e0 (.tup [])) l = some (IT L) := same_upd n0 _ _ hl
    refine ⟨_, _, dp_tup hl0, dp_tup (L := []) upd_same, shaped2 h2, shaped2 (L := []) (by decide), _, rfl, ?_⟩
    rw [eqv_tup, decide_eq_false (show ¬ L = [] from fun e => by rw [e] at h1; exact absurd h1 (by decide))]
    refine iteF ?_
    refine ⟨_, rfl, l, L.map V.int, rfl, sqT hl0, for_enumT (K := K) (a := l) (xs := L.map V.int) (fun i σ H' => ∃ y1 y2, σ = [some (.ref l), y1, y2] ∧ Same H H') ⟨_, _, rfl, same_upd n0⟩ (fun i σ H' _ ⟨_, _, _, sm⟩ => sqT (sm _ _ hl)) ?_ ?_⟩
    · rintro i x T' σ H' hx ⟨y1, y2, rfl, sm⟩ nT
      have hi : i < L.length := by
        have := (List.getElem?_eq_some_iff.mp hx).1
        simpa using this
      obtain ⟨z, hz, rfl⟩ : ∃ z, z ∈ L ∧ x = V.int z := by
        rw [List.getElem?_map, List.getElem?_eq_getElem hi] at hx
        exact ⟨L[i], List.getElem_mem hi, (Option.some.inj hx).symm⟩
      have s2 : Same H (upd H' T' (.tup [.int (i : Nat), .int z])) := sm.trans (same_upd nT)
      refine ⟨T', _, rfl, sqT upd_same, rfl, _, _, rfl, _, _, rfl, rfl, ?_⟩
      refine ⟨_, rfl, rfl, _, rfl, ?_⟩
      have e : decide (V.int ((i : Nat) : Int) = V.int 12) = false := decide_eq_false fun e => by
        have := V.int.inj e
        omega
      rw [e]
      refine iteF ?_
      have b := hp z hz
      refine ⟨_, rfl, z, 1, 20, rfl, b.1, by omega, true, rfl, iteF ?_⟩
      exact ⟨_, _, rfl, s2⟩
    · rintro σ H' ⟨_, _, _, sm⟩
      exact q H' sm
end
end KD
set_option Elab.async false
set_option linter.all false
set_option maxRecDepth 100000
set_option autoImplicit false
namespace KD
open PySem PySem.Spec PyProof.Rows L2 KR
open C8 (Cal pe_c pe_gc Mak pe_mk InsC call_isC)
open StX (pa_star)
section
variable {P : Program} {w : World} {K : PySem.W.Frag} {mg : Str → Option Value} {base : Heap}
open KM (Ok part)
/-! ### slices of tuples -/
theorem cut_init (xs : List V) (v : V) : cutV (xs ++ [v]) none (some (-1)) = xs := by
  unfold cutV
  rw [HT.sIx_none]
  have hl : (xs ++ [v]).length = xs.length + 1 := by simp
  have e : HT.sIx (xs ++ [v]).length (xs ++ [v]).length (some (-1)) = xs.length := by
    show (if (-1 : Int) < 0 then ((-1 : Int) + ((xs ++ [v]).length : Int)).toNat else min (-1 : Int).toNat (xs ++ [v]).length) = _
    rw [if_pos (by decide), hl]
    omega
  rw [e, List.drop_zero, Nat.sub_zero, List.take_left']
  rfl
theorem cut_init_ne (xs : List V) (v : V) : ¬ (HT.sIx (xs ++ [v]).length 0 none = 0 ∧ HT.sIx (xs ++ [v]).length (xs ++ [v]).length (some (-1)) = (xs ++ [v]).length) := by
  rintro ⟨_, h⟩
  have hl : (xs ++ [v]).length = xs.length + 1 := by simp
  have e : HT.sIx (xs ++ [v]).length (xs ++ [v]).length (some (-1)) = xs.length := by
    show (if (-1 : Int) < 0 then ((-1 : Int) + ((xs ++ [v]).length : Int)).toNat else min (-1 : Int).toNat (xs ++ [v]).length) = _
    rw [if_pos (by decide), hl]
    omega
  rw [e, hl] at h
  omega
theorem nw1 : ¬ (HT.sIx 2 0 none = 0 ∧ HT.sIx 2 2 (some 1) = 2) := by decide
theorem last_split {L : List Int} (h : L ≠ []) : ∃ L0 z, L = L0 ++ [z] := ⟨L.dropLast, L.getLast h, (List.dropLast_concat_getLast h).symm⟩
theorem two_of {T : List Int} (h1 : 1 ≤ T.length) (h2 : T.length ≤ 2) : (∃ x, T = [x]) ∨ ∃ x y, T = [x, y] := by
  match T, h1, h2 with
  | [x], _, _ => exact .inl ⟨x, rfl⟩
  | [x, y], _, _ => exact .inr ⟨x, y, rfl⟩

/-! ### shortest_loop -/
def spSLoop : Sp := fun vs H Q _ => ∃ t T, vs = [.ref t] ∧ H t = some (IT T) ∧ 1 ≤ T.length ∧ T.length ≤ 2 ∧
  ∀ H' t' T', Same H H' → H' t' = some (IT T') → (T' = T ∨ ∃ x, T = [x, x] ∧ T' = [x]) → Q (.ref t') H'
theorem scSLoop : FnScope ["turn", "size"] ["turn"] (defScope sSLoop) := ⟨rfl, rfl, rfl, by decide +kernel, rfl, by decide +kernel, by decide +kernel⟩
theorem cal_sLoop (D : Df K mg "shortest_loop" sSLoop ["turn"]) (X : Txt mg) : Cal P w K mg base 1 "shortest_loop" spSLoop [] := by
  refine D.cal scSLoop (fun vs H Q E h => ?_) (fun f cdv A outer s H vs Q E hr h => ?_)
  · obtain ⟨l, L, rfl, _⟩ := h
    rfl
  · obtain ⟨t, T, rfl, ht, h1, h2, q⟩ := h
    refine ⟨_, pss_cons (ps_for PassesOwn.never rfl (pi_range2 (by rfl) X.range (pa_cons pe_int (pa_cons (pe_callB call_len_seq (by rfl) X.len PySem.boot_len (pa_cons (pv 0) pa_nil)) pa_nil))) (pg_name (i := 1) scSLoop.nd rfl (.inl rfl))
        (pss_one (ps_if (PW.pt (pw_and (pt_cmpR op_eq (pe_op op_mod (pe_callB call_len_seq (by rfl) X.len PySem.boot_len (pa_cons (pv 0) pa_nil)) (pv 1)) pe_int (nomark _))
          (pw_and1 (pt_cmpR (op_eqD hr.units) (pe_op op_repT (pe_slice sl_tup (pv 0) po_none (po_some (pv 1))) (pe_op op_fdiv (pe_callB call_len_seq (by rfl) X.len PySem.boot_len (pa_cons (pv 0) pa_nil)) (pv 1))) (pv 0) (nomark _)))))
          (pss_one (ps_ret (pe_slice sl_tup (pv 0) po_none (po_some (pv 1))))) pss_nil)))
      (pss_one (ps_ret (pv 0))), ?_⟩
    refine ⟨_, rfl, t, T.map V.int, rfl, .inr (sqT ht), 1, ((T.map V.int).length : Int), rfl, ?_, ?_⟩
    · rw [List.length_map]
      omega
    refine for_range (lo := 1) (n := (((T.map V.int).length : Int) - 1).toNat) (fun i σ H' => ∃ y1, σ = [some (.ref t), y1] ∧ Same H H') ⟨_, rfl, Same.refl H⟩ ?_ ?_
    · rintro i σ H' hi ⟨y1, rfl, sm⟩
      rw [List.length_map] at hi
      rcases two_of h1 h2 with ⟨x, rfl⟩ | ⟨x, y, rfl⟩
      · exact absurd hi (Nat.not_lt_zero _)
      · have hi' : i < 1 := hi
        obtain rfl : i = 0 := by omega
        have ht' := sm _ _ ht
        refine ⟨_, rfl, t, _, rfl, .inr (sqT ht'), _, rfl, 2, 1, rfl, rfl, (by decide), rfl, _, rfl, ?_⟩
        rw [show decide (V.int ((2 : Int) % 1) = V.int 0) = true from rfl]
        refine iteT ?_
        -- turn[:size]
        refine ⟨_, rfl, _, rfl, 1, rfl, t, [V.int x, V.int y], rfl, sqT ht', nw1, fun p np => ?_⟩
        rw [show cutV [V.int x, V.int y] none (some 1) = [V.int x] from rfl]
        have sp := same_upd (o := HO.tup [V.int x]) np
        refine ⟨_, rfl, t, [V.int x, V.int y], rfl, .inr (sqT (sp _ _ ht')), _, rfl, 2, 1, rfl, rfl, ⟨by decide, by decide⟩, ?_⟩
        refine ⟨p, 2, [V.int x], rfl, rfl, sqT upd_same, (by simp), (by decide), (by decide), (by simp), fun r nr => ?_⟩
        have sr := same_upd (o := HO.tup (List.replicate (Int.toNat 2) [V.int x]).flatten) nr
        refine ⟨_, rfl, _, _, dp_tup (L := [x, x]) upd_same, dp_tup (L := [x, y]) (sr _ _ (sp _ _ ht')), shaped2 (by simp), shaped2 (by simp), _, rfl, ?_⟩
        rw [eqv_tup]
        have sm2 := (sm.trans sp).trans sr
        by_cases e : [x, x] = [x, y]
        · rw [decide_eq_true e]
          refine iteT ?_
          have exy : x = y := by
            injection e with _ e
            injection e
          subst exy
          refine ⟨_, rfl, _, rfl, 1, rfl, t, [V.int x, V.int x], rfl, sqT (sm2 _ _ ht), nw1, fun u nu => ?_⟩
          exact q _ u [x] (sm2.trans (same_upd nu)) upd_same (.inr ⟨x, rfl, rfl⟩)
        · rw [decide_eq_false e]
          refine iteF ?_
          exact ⟨_, rfl, sm2⟩
    · rintro σ H' ⟨y1, rfl, sm⟩
      exact ⟨_, rfl, q H' t T sm (sm _ _ ht) (.inl rfl)⟩

/-! ### shortest -/
def spShort : Sp := fun vs H Q _ => ∃ l t L T, vs = [.ref l, .ref t] ∧ H l = some (IT L) ∧ H t = some (IT T) ∧ Ok L T ∧
  ∀ H' p l' t' L' T', Same H H' → H' p = some (.tup [.ref l', .ref t']) → H' l' = some (IT L') → H' t' = some (IT T') → Ok L' T' → (∀ k, 1 ≤ k → part L T k = part L' T' k) → Q (.ref p) H'
theorem scShort : FnScope ["lead", "turn"] ["lead", "turn"] (defScope sShort) := ⟨rfl, rfl, rfl, by decide +kernel, rfl, by decide +kernel, by decide +kernel⟩
theorem cal_short (D : Df K mg "shortest" sShort ["lead", "turn"]) (c1 : Cal P w K mg base 1 "shortest_loop" spSLoop []) : Cal P w K mg base 2 "shortest" spShort [] := by
  refine D.cal scShort (fun vs H Q E h => ?_) (fun f cdv A outer s H vs Q E hr h => ?_)
  · obtain ⟨l, t, L, T, rfl, _⟩ := h
    rfl
  · obtain ⟨l, t, L, T, rfl, hl, ht, ok, q⟩ := h
    refine ⟨_, pss_cons (ps_set (i := 1) scShort.nd rfl (.inl rfl) (pe_c c1 hr (by decide) (by rfl) (pa_cons (pv 1) pa_nil)))
      (pss_cons (ps_while PassesOwn.never (PW.pt (pw_and (pt_cmpR (op_neD hr.units) (pv 0) (pe_tup pa_nil) (nomark _))
          (pw_and1 (pt_cmpR op_eq (pe_ix ix_tup (pv 0) (pe_un un_neg pe_int) (fun _ _ => rfl)) (pe_ix ix_tup (pv 1) (pe_un un_neg pe_int) (fun _ _ => rfl)) (nomark _)))))
        (pss_one (ps_par (i := 0) (j := 1) (by rfl) scShort.nd rfl rfl (by decide) rfl rfl
          (pa_cons (pe_slice sl_tup (pv 0) po_none (po_some (pe_un un_neg pe_int))) (pa_cons (pe_tup (pa_cons (pe_ix ix_tup (pv 1) (pe_un un_neg pe_int) (fun _ _ => rfl)) (pa_star (pe_slice sl_tup (pv 1) po_none (po_some (pe_un un_neg pe_int))) pa_nil))) pa_nil)) (by rfl))))
      (pss_one (ps_ret (pe_tup (pa_cons (pv 0) (pa_cons (pv 1) pa_nil)))))), ?_⟩
    refine ⟨_, rfl, t, T, rfl, ht, ok.t0, ok.t, fun H1 t1 T1 s1 ht1 hT => ?_⟩
    have ok1 : Ok L T1 := by
      rcases hT with rfl | ⟨x, rfl, rfl⟩
      · exact ok
      · exact ⟨ok.l, by simp, by simp, ok.pl, fun y hy => ok.pt y (by simp at hy; simp [hy])⟩
    have pt1 : ∀ k, 1 ≤ k → part L T k = part L T1 k := fun k hk => by
      rcases hT with rfl | ⟨x, rfl, rfl⟩
      · rfl
      · exact KM.part_loop L x k
    refine ⟨fun m σ H' => ∃ l' t' L' T', m = L'.length ∧ σ = [some (.ref l'), some (.ref t')] ∧ Same H H' ∧ H' l' = some (IT L') ∧ H' t' = some (IT T') ∧ Ok L' T' ∧ ∀ k, 1 ≤ k → part L T k = part L' T' k,
      ⟨_, l, t1, L, T1, rfl, rfl, s1, s1 _ _ hl, ht1, ok1, pt1⟩, fun m σ H' hW => ?_⟩
    obtain ⟨l', t', L', T', rfl, rfl, sm, hl', ht', ok', pt'⟩ := hW
    -- lead != ()
    refine ⟨_, rfl, Nat.zero_le _, fun e0 n0 => ?_⟩
    have s0 := same_upd (o := HO.tup []) n0
    refine ⟨_, _, dp_tup (s0 _ _ hl'), dp_tup (L := []) upd_same, shaped2 ok'.l, shaped2 (L := []) (by decide), _, rfl, ?_⟩
    rw [eqv_tup]
    by_cases hL : L' = []
    · rw [decide_eq_true hL]
      refine iteF (iteF ?_)
      refine ⟨_, rfl, _, rfl, by show 2 ≤ sizeLine; decide, fun p np => ?_⟩
      have s2 := s0.trans (same_upd (o := HO.tup [.ref l', .ref t']) np)
      exact q _ p l' t' L' T' (sm.trans s2) upd_same (s2 _ _ hl') (s2 _ _ ht') ok' pt'
    · rw [decide_eq_false hL]
      refine iteT ?_
      obtain ⟨L0, z, rfl⟩ := last_split hL
      obtain ⟨T0, y, rfl⟩ := last_split (L := T') (fun e => by have := ok'.t0; rw [e] at this; exact absurd this (by decide))
      have mL : (L0 ++ [z]).map V.int = L0.map V.int ++ [V.int z] := by simp
      have mT : (T0 ++ [y]).map V.int = T0.map V.int ++ [V.int y] := by simp
      have hl1 : (upd H' e0 (.tup [])) l' = some (.tup (L0.map V.int ++ [V.int z])) := by rw [← mL]; exact s0 _ _ hl'
      have ht1 : (upd H' e0 (.tup [])) t' = some (.tup (T0.map V.int ++ [V.int y])) := by rw [← mT]; exact s0 _ _ ht'
      refine ⟨_, rfl, 1, rfl, l', _, -1, _, rfl, rfl, sqT hl1, atI_last _ _, _, rfl, 1, rfl, t', _, -1, _, rfl, rfl, sqT ht1, atI_last _ _, rfl, _, rfl, ?_⟩
      by_cases hzy : z = y
      · rw [decide_eq_true (show V.int z = V.int y by rw [hzy])]
        subst hzy
        refine iteT ⟨fun σ' H2 => ∃ l2 t2, σ' = [some (.ref l2), some (.ref t2)] ∧ Same H H2 ∧ H2 l2 = some (IT L0) ∧ H2 t2 = some (IT (z :: T0)), fun σ' H2 hN => ?_, ?_⟩
        · obtain ⟨l2, t2, e, sm2, hl2, ht2⟩ := hN
          have okl := ok'.l
          have okt := ok'.t
          rw [List.length_append] at okl okt
          have okl' : L0.length + 1 ≤ 2 := okl
          have okt' : T0.length + 1 ≤ 2 := okt
          refine ⟨L0.length, by rw [List.length_append]; exact Nat.lt_succ_self _, l2, t2, L0, z :: T0, rfl, e, sm2, hl2, ht2, ⟨by omega, by simp, by rw [List.length_cons]; omega, fun x hx => ok'.pl x (by simp [hx]), fun x hx => ok'.pt x ?_⟩, fun k hk => ?_⟩
          · rcases List.mem_cons.mp hx with rfl | hx
            · simp
            · simp [hx]
          · rw [pt' k hk]
            exact KM.part_turn z (by omega) hk
        · -- lead[:-1]
          refine ⟨_, rfl, 1, rfl, _, rfl, l', _, rfl, sqT hl1, cut_init_ne _ _, fun p np => ?_⟩
          rw [cut_init]
          have sp := same_upd (o := HO.tup (L0.map V.int)) np
          have ht2 := sp _ _ ht1
          refine ⟨_, rfl, 1, rfl, t', _, -1, _, rfl, rfl, sqT ht2, atI_last _ _, ?_⟩
          refine ⟨_, rfl, 1, rfl, _, rfl, t', _, rfl, sqT ht2, cut_init_ne _ _, fun r nr => ?_⟩
          rw [cut_init]
          have sr := same_upd (o := HO.tup (T0.map V.int)) nr
          refine ⟨r, T0.map V.int, rfl, .inl (sqT upd_same), ?_, fun u nu => ?_⟩
          · have := ok'.t
            simp at this ⊢
            exact Nat.le_trans (Nat.succ_le_succ this) (by decide)
          have su := same_upd (o := HO.tup (V.int z :: (T0.map V.int ++ []))) nu
          refine ⟨_, _, rfl, p, u, rfl, ((sm.trans s0).trans sp).trans (sr.trans su), su _ _ (sr _ _ upd_same), ?_⟩
          rw [upd_same, List.append_nil]
          rfl
      · rw [decide_eq_false (show ¬ V.int z = V.int y from fun e => hzy (V.int.inj e))]
        refine iteF ?_
        refine ⟨_, rfl, _, rfl, by show 2 ≤ sizeLine; decide, fun p np => ?_⟩
        have s2 := s0.trans (same_upd (o := HO.tup [.ref l', .ref t']) np)
        exact q _ p l' t' _ _ (sm.trans s2) upd_same (s2 _ _ hl') (s2 _ _ ht') ok' pt'

/-! ### listed -/
def spListed : Sp := fun vs H Q _ => ∃ l L, vs = [.ref l] ∧ H l = some (IT L) ∧ L.length ≤ 2 ∧ (∀ x ∈ L, 1 ≤ x ∧ x ≤ 4) ∧ ∀ H' z, Same H H' → z.length ≤ 1000 → Q (.str z) H'
theorem scListed : FnScope ["numbers", "number"] ["numbers"] (defScope sListed) := ⟨rfl, rfl, rfl, by decide +kernel, rfl, by decide +kernel, by decide +kernel⟩
def strI (i : Int) : Str := toString i
theorem strI_small {x : Int} (h : 1 ≤ x ∧ x ≤ 4) : (strI x).length = 1 := by
  have : x = 1 ∨ x = 2 ∨ x = 3 ∨ x = 4 := by omega
  rcases this with rfl | rfl | rfl | rfl <;> decide +kernel
end
end KD
set_option Elab.async false
set_option linter.all false
set_option maxRecDepth 100000
set_option autoImplicit false
namespace KD
open PySem PySem.Spec PyProof.Rows L2 KR
open C8 (Cal pe_c pe_gc Mak pe_mk InsC call_isC)
open StX (pa_star)
section
variable {P : Program} {w : World} {K : PySem.W.Frag} {mg : Str → Option Value} {base : Heap}
open KM (Ok nt nb)
theorem join_small {L : List Int} (h2 : L.length ≤ 2) (hp : ∀ x ∈ L, 1 ≤ x ∧ x ≤ 4) :
    ((L.map strI).map (·.length)).sum + (L.map strI).length * (Str.ofString ",").length ≤ 16777216 ∧ (Txt.join (Str.ofString ",") (L.map strI)).length ≤ 1000 := by
  have four : ∀ x ∈ L, x = 1 ∨ x = 2 ∨ x = 3 ∨ x = 4 := fun x hx => by
    have := hp x hx
    omega
  match L, h2 with
  | [], _ => decide +kernel
  | [x], _ =>
    rcases four x (by simp) with rfl | rfl | rfl | rfl <;> decide +kernel
  | [x, y], _ =>
    rcases four x (by simp) with rfl | rfl | rfl | rfl <;> rcases four y (by simp) with rfl | rfl | rfl | rfl <;> decide +kernel
theorem log_small {x : Int} (h : 1 ≤ x ∧ x ≤ 4) : x.natAbs.log2 < 1920 := by
  have : x = 1 ∨ x = 2 ∨ x = 3 ∨ x = 4 := by omega
  rcases this with rfl | rfl | rfl | rfl <;> decide
theorem cal_listed (D : Df K mg "listed" sListed ["numbers"]) (X : Txt mg) : Cal P w K mg base 1 "listed" spListed [] := by
  refine D.cal scListed (fun vs H Q E h => ?_) (fun f cdv A outer s H vs Q E hr h => ?_)
  · obtain ⟨l, L, rfl, _⟩ := h
    rfl
  · obtain ⟨l, L, rfl, hl, h2, hp, q⟩ := h
    refine ⟨_, pss_one (ps_ret (pe_join pe_str (pe_lc (own := [("number", 1)]) (g := gName 1) rfl scListed.nd (pi_tup (pv 0)) (blkOk_by (N := ["numbers", "number"]) (sc := defScope sListed) (by decide +kernel))
      (fun _ _ _ _ _ => pg_name (i := 1) scListed.nd rfl (Or.inl rfl)) (fun _ _ _ _ _ => pts_nil) (fun _ _ _ _ _ => pe_callTy call_str_int (by rfl) X.str (by decide +kernel) (pa_cons (pv 1) pa_nil))))), ?_⟩
    refine ⟨⟨_, rfl⟩, _, rfl, l, rfl, ⟨_, sqT hl⟩, fun d nd => ?_⟩
    have ndl : l ≠ d := ne_of_none hl nd
    have nH : ∀ b o, H b = some o → b ≠ d := fun b o e => ne_of_none e nd
    refine lc_tup (K := K) (a := l) (xs := L.map V.int) (fun i H' => Same H H' ∧ H' d = some (.lst ((L.take i).map fun x => V.str (strI x)))) ⟨same_upd nd, upd_same⟩ (fun i H' _ h => sqT (h.1 _ _ hl)) ?_ ?_
    · rintro i x H' hx ⟨sm, hd⟩
      have hi : i < L.length := by
        have := (List.getElem?_eq_some_iff.mp hx).1
        simpa using this
      have hg : L[i]? = some L[i] := List.getElem?_eq_getElem hi
      have ex : x = V.int L[i] := by
        rw [List.getElem?_map, hg] at hx
        exact (Option.some.inj hx).symm
      subst ex
      refine ⟨rfl, _, rfl, L[i], rfl, log_small (hp _ (List.getElem_mem hi)), _, hd, ?_, ?_, ?_⟩
      · rw [List.length_map, List.length_take]
        exact small1000 (by omega)
      · intro b o e
        rw [upd_ne (nH b o e)]
        exact sm b o e
      · rw [upd_same, List.take_add_one, hg, List.map_append]
        rfl
    · rintro H' ⟨sm, hd⟩
      have e : (List.take (List.map V.int L).length L).map (fun x => V.str (strI x)) = (L.map strI).map V.str := by
        rw [List.length_map, List.take_length, List.map_map]
        rfl
      rw [e] at hd
      have j := join_small h2 hp
      exact ⟨_, d, L.map strI, rfl, rfl, .inl (sqL hd), j.1, q H' _ sm j.2⟩

/-! ### the class -/
structure CTxt (K : PySem.W.Frag) (C : Addr) : Prop where
  ins : InsC K C
  nH : NoAttr K C "held"
  nW : NoAttr K C "words"
theorem hw_ : ¬ (("held" : Str) = "words") := by decide +kernel
def flds (h : Addr) (z : Str) : List (Str × V) := [("held", V.ref h), ("words", V.str z)]
theorem flds_put (h : Addr) (z : Str) : putF "words" (.str z) (putF "held" (.ref h) []) = flds h z := by
  show (if ("held" : Str) = "words" then _ else (("held" : Str), V.ref h) :: putF "words" (V.str z) []) = flds h z
  rw [if_neg hw_]
  rfl
theorem flds_held (h : Addr) (z : Str) : (flds h z).lookup ("held" : Str) = some (.ref h) := by
  rw [← flds_put, lookup_putF, if_neg hw_, lookup_putF, if_pos rfl]
def SlopeAt (C : Addr) (H : Hp) (x : Addr) (L T : List Int) : Prop :=
  ∃ dx h s t z, H x = some (.ins C dx (flds h z)) ∧ H h = some (.tup [.ref s, .ref t]) ∧ H s = some (IT L) ∧ H t = some (IT T) ∧ Ok L T
theorem SlopeAt.same {C x : Addr} {H H' : Hp} {L T : List Int} (h : SlopeAt C H x L T) (s : Same H H') : SlopeAt C H' x L T := by
  obtain ⟨dx, a, b, c, z, h1, h2, h3, h4, ok⟩ := h
  exact ⟨dx, a, b, c, z, s _ _ h1, s _ _ h2, s _ _ h3, s _ _ h4, ok⟩
def spInit (C : Addr) : Sp := fun vs H Q _ => ∃ x dx l t L T, vs = [.ref x, .ref l, .ref t] ∧ H x = some (.ins C dx []) ∧ H l = some (IT L) ∧ H t = some (IT T) ∧ Ok L T ∧
  ∀ H' L' T', (∀ b o, b ≠ x → H b = some o → H' b = some o) → SlopeAt C H' x L' T' → (∀ k, 1 ≤ k → KM.part L T k = KM.part L' T' k) → Q .non H'
theorem scInit : FnScope ["self", "lead", "loop", "some", "turn"] ["self", "lead", "loop"] (defScope sInit) := ⟨rfl, rfl, rfl, by decide +kernel, rfl, by decide +kernel, by decide +kernel⟩
/-- the class's __init__ as it stands behind the top -/
structure DfI (K : PySem.W.Frag) (mg : Str → Option Value) (C : Addr) : Prop where
  ex : ∃ (f : Addr) (fd : FuncData), Fun K "__init__" "Slope.__init__" sInit f fd ∧ Mk K C f ∧ mg "Slope" = some (.ref C) ∧ Binds K fd ["self", "lead", "loop"] []
theorem mak_slope {C : Addr} (D : DfI K mg C) (CT : CTxt K C) (c1 : Cal P w K mg base 3 "check_lead" spCLead []) (c2 : Cal P w K mg base 3 "check_loop" spCLoop []) (c3 : Cal P w K mg base 2 "shortest" spShort []) (c4 : Cal P w K mg base 1 "listed" spListed []) :
    Mak P w K mg base 4 "Slope" C (spInit C) [] := by
  obtain ⟨f, fd, F, M, hm, b⟩ := D.ex
  refine ⟨f, fd, ["self", "lead", "loop"], [], M, ?_, hm, b, .nil⟩
  refine F.ok scInit (fun vs H Q E h => ?_) (fun cdv A outer s H vs Q E hr h => ?_)
  · obtain ⟨x, dx, l, t, L, T, rfl, _⟩ := h
    rfl
  · obtain ⟨x, dx, l, t, L, T, rfl, hx, hl, ht, ok, q⟩ := h
    refine ⟨_, pss_cons (ps_expr (pe_c c1 hr (by decide) (by rfl) (pa_cons (pv 1) pa_nil))) (pss_cons (ps_expr (pe_c c2 hr (by decide) (by rfl) (pa_cons (pv 2) pa_nil)))
      (pss_cons (ps_asg (pe_c c3 hr (by decide) (by rfl) (pa_cons (pv 1) (pa_cons (pv 2) pa_nil))) (pg_tup rfl (pgs_cons (pg_name (i := 3) scInit.nd rfl (.inl rfl)) (pgs_cons (pg_name (i := 4) scInit.nd rfl (.inl rfl)) pgs_nil))))
      (pss_cons (ps_fld (pv 0) (pe_tup (pa_cons (pv 3) (pa_cons (pv 4) pa_nil))) rfl)
      (pss_one (ps_fld (pv 0) (pe_op op_add_str (pe_op op_add_str (pe_c c4 hr (by decide) (by rfl) (pa_cons (pv 3) pa_nil)) pe_str) (pe_c c4 hr (by decide) (by rfl) (pa_cons (pv 4) pa_nil))) rfl))))), ?_⟩
    refine ⟨_, rfl, l, L, rfl, hl, ok.l, ok.pl, fun H1 s1 => ?_⟩
    refine ⟨_, rfl, t, T, rfl, s1 _ _ ht, ok.t0, ok.t, ok.pt, fun H2 s2 => ?_⟩
    have s12 := s1.trans s2
    refine ⟨_, rfl, _, rfl, l, t, L, T, rfl, s12 _ _ hl, s12 _ _ ht, ok, fun H3 p l' t' L' T' s3 hp hl' ht' ok' pt => ?_⟩
    have s13 := s12.trans s3
    refine ⟨p, _, rfl, sqT hp, rfl, _, _, rfl, _, _, rfl, rfl, ?_⟩
    -- self.held = (some, turn)
    refine ⟨_, rfl, _, rfl, by show 2 ≤ sizeLine; decide, fun h nh => ?_⟩
    have s4 := same_upd (o := HO.tup [.ref l', .ref t']) nh
    have hx4 := s4 _ _ (s13 _ _ hx)
    refine ⟨_, rfl, x, C, dx, [], rfl, hx4, CT.ins.cl, CT.nH, by decide, ?_⟩
    have nxl : l' ≠ x := ne_of (s4 _ _ hl') hx4 (by intro z; cases z)
    have nxt : t' ≠ x := ne_of (s4 _ _ ht') hx4 (by intro z; cases z)
    have nxh : h ≠ x := ne_of (upd_same (o := HO.tup [.ref l', .ref t'])) hx4 (by intro z; cases z)
    -- self.words = ..
    refine ⟨_, rfl, l', L', rfl, by rw [upd_ne nxl]; exact s4 _ _ hl', ok'.l, ok'.pl, fun H5 z1 s5 lz1 => ?_⟩
    refine ⟨z1, _, rfl, rfl, by rw [sizeLine_eq]; show z1.length + 1 ≤ _; omega, ?_⟩
    refine ⟨_, rfl, t', T', rfl, s5 _ _ (by rw [upd_ne nxt]; exact s4 _ _ ht'), ok'.t, ok'.pt, fun H6 z2 s6 lz2 => ?_⟩
    have l1 : (z1 ++ (Str.ofString "/")).length = z1.length + 1 := by
      show (z1.cps ++ _).size = _
      rw [Array.size_append]
      rfl
    refine ⟨_, z2, rfl, rfl, by rw [l1, sizeLine_eq]; omega, ?_⟩
    have s56 := s5.trans s6
    have hx6 := s56 _ _ (upd_same (o := HO.ins C dx (putF "held" (.ref h) [])))
    refine ⟨_, rfl, x, C, dx, _, rfl, hx6, CT.ins.cl, CT.nW, by show 1 < 1000; decide, ?_⟩
    rw [flds_put]
    have g : ∀ b o, b ≠ x → (upd H3 h (.tup [.ref l', .ref t'])) b = some o → (upd H6 x (.ins C dx (flds h (z1 ++ (Str.ofString "/") ++ z2)))) b = some o := fun b o nb e => by
      rw [upd_ne nb]
      exact s56 _ _ (by rw [upd_ne nb]; exact e)
    refine q _ L' T' (fun b o nb e => g b o nb (s4 _ _ (s13 _ _ e))) ⟨dx, h, l', t', _, upd_same, g _ _ nxh upd_same, g _ _ nxl (s4 _ _ hl'), g _ _ nxt (s4 _ _ ht'), ok'⟩ pt

/-! ### check_slope, part_at -/
def spCSlope (C : Addr) : Sp := fun vs H Q _ => ∃ x L T, vs = [.ref x] ∧ SlopeAt C H x L T ∧ Q .non H
theorem scCSlope : FnScope ["value"] ["value"] (defScope sCSlope) := ⟨rfl, rfl, rfl, by decide +kernel, rfl, by decide +kernel, by decide +kernel⟩
theorem cal_cSlope {C : Addr} (D : Df K mg "check_slope" sCSlope ["value"]) (X : Txt mg) (hC : mg "Slope" = some (.ref C)) (CT : CTxt K C) : Cal P w K mg base 1 "check_slope" (spCSlope C) [] := by
  refine D.cal scCSlope (fun vs H Q E h => ?_) (fun f cdv A outer s H vs Q E hr h => ?_)
  · obtain ⟨l, L, T, rfl, _⟩ := h
    rfl
  · obtain ⟨x, L, T, rfl, ⟨dx, h, s', t, z, hx, _⟩, q⟩ := h
    refine ⟨_, pss_one (ps_if (pt_not (pt_val (pe_callB (call_isC CT.ins) (by rfl) X.isinstance (by decide +kernel) (pa_cons (pv 0) (pa_cons (pe_glob (v := .ref C) (by rfl) hC rfl) pa_nil))))) pss_never pss_nil), ?_⟩
    exact ⟨_, rfl, x, dx, _, rfl, hx, _, rfl, iteF q⟩
def spPartAt (C : Addr) : Sp := fun vs H Q _ => ∃ (x : Addr) (k : Nat) (L T : List Int), vs = [.ref x, .int (k : Int)] ∧ 1 ≤ k ∧ SlopeAt C H x L T ∧ Q (.int (KM.part L T k)) H
theorem scPartAt : FnScope ["slope", "many", "lead", "turn"] ["slope", "many"] (defScope sPartAt) := ⟨rfl, rfl, rfl, by decide +kernel, rfl, by decide +kernel, by decide +kernel⟩
theorem at_ints {L : List Int} {j : Nat} {z : Int} (e : z = (j : Int)) (h : j < L.length) : atI (L.map V.int) z = some (.int (L.getD j 0)) := by
  refine at_of e ?_
  rw [List.getElem?_map, List.getElem?_eq_getElem h, List.getD_eq_getElem?_getD, List.getElem?_eq_getElem h]
  rfl
theorem cal_partAt {C : Addr} (D : Df K mg "part_at" sPartAt ["slope", "many"]) (X : Txt mg) (CT : CTxt K C) : Cal P w K mg base 1 "part_at" (spPartAt C) [] := by
  refine D.cal scPartAt (fun vs H Q E h => ?_) (fun f cdv A outer s H vs Q E hr h => ?_)
  · obtain ⟨x, k, L, T, rfl, _⟩ := h
    rfl
  · obtain ⟨x, k, L, T, rfl, hk, ⟨dx, h, s', t, z, hx, hh, hs, ht, ok⟩, q⟩ := h
    refine ⟨_, pss_cons (ps_asg (pe_fld (pv 0) rfl) (pg_tup rfl (pgs_cons (pg_name (i := 2) scPartAt.nd rfl (.inl rfl)) (pgs_cons (pg_name (i := 3) scPartAt.nd rfl (.inl rfl)) pgs_nil))))
      (pss_one (ps_ret (pe_ifExp (pt_cmpR op_le (pv 1) (pe_callB call_len_seq (by rfl) X.len PySem.boot_len (pa_cons (pv 2) pa_nil)) (nomark _))
        (pe_ix ix_tup (pv 2) (pe_op op_sub (pv 1) pe_int) (fun _ _ => rfl))
        (pe_ix ix_tup (pv 3) (pe_op op_mod (pe_op op_sub (pe_op op_sub (pv 1) pe_int) (pe_callB call_len_seq (by rfl) X.len PySem.boot_len (pa_cons (pv 2) pa_nil))) (pe_callB call_len_seq (by rfl) X.len PySem.boot_len (pa_cons (pv 3) pa_nil))) (fun _ _ => rfl))))), ?_⟩
    refine ⟨_, rfl, x, C, dx, _, _, rfl, hx, CT.ins.cl, CT.nH, flds_held _ _, h, _, rfl, sqT hh, rfl, _, _, rfl, _, _, rfl, rfl, ?_⟩
    refine ⟨_, rfl, _, rfl, s', _, rfl, .inr (sqT hs), _, _, rfl, rfl, _, rfl, ?_⟩
    have lL : ((L.map V.int).length : Int) = (L.length : Int) := by rw [List.length_map]
    have lT : ((T.map V.int).length : Int) = (T.length : Int) := by rw [List.length_map]
    unfold KM.part at q
    by_cases c : k ≤ L.length
    · rw [if_pos c] at q
      rw [decide_eq_true (show (k : Int) ≤ ((L.map V.int).length : Int) by rw [lL]; omega)]
      refine iteT ⟨_, rfl, _, rfl, _, _, rfl, rfl, s', _, _, _, rfl, rfl, sqT hs, at_ints (j := k - 1) (by omega) (by omega), q⟩
    · rw [if_neg c] at q
      rw [decide_eq_false (show ¬ (k : Int) ≤ ((L.map V.int).length : Int) by rw [lL]; omega)]
      have t0 := ok.t0
      refine iteF ⟨_, rfl, _, rfl, _, _, rfl, rfl, _, rfl, s', _, rfl, .inr (sqT hs), _, _, rfl, rfl, _, rfl, t, _, rfl, .inr (sqT ht), _, _, rfl, rfl, by rw [lT]; omega, t, _, _, _, rfl, rfl, sqT ht, at_ints (j := (k - 1 - L.length) % T.length) ?_ (Nat.mod_lt _ (by omega)), q⟩
      rw [lL, lT, show (k : Int) - 1 - (L.length : Int) = ((k - 1 - L.length : Nat) : Int) by omega]
      rfl
end
end KD
set_option Elab.async false
set_option linter.all false
set_option maxRecDepth 100000
set_option autoImplicit false
namespace KD
open PySem PySem.Spec PyProof.Rows L2 KR
open C8 (Cal pe_c pe_gc Mak pe_mk InsC call_isC)
open StX (pa_star)
section
variable {P : Program} {w : World} {K : PySem.W.Frag} {mg : Str → Option Value} {base : Heap}
open KM (Ok nt nb)
/-! ### neighbours_past -/
theorem two102 : (2 : Int) ^ 101 < 2 ^ 102 := by decide
/-- a pair of ints at an address -/
abbrev Pr (H : Hp) (r : Addr) (p q : Int) : Prop := H r = some (.tup [.int p, .int q])
def spPast (C : Addr) : Sp := fun vs H Q _ => ∃ x m L T, vs = [.ref x, .int m] ∧ SlopeAt C H x L T ∧ 0 ≤ m ∧ m ≤ 2 ^ 101 ∧
  ∀ (H' : Hp) (l : Addr) (xs : List V) (r1 r2 : Addr) (k : Nat), Same H H' → H' l = some (.lst xs) → xs.length = k + 1 → xs[k]? = some (.ref r2) → xs[k - 1]? = some (.ref r1) →
    Pr H' r2 (nt (KM.part L T) (k + 1)) (nb (KM.part L T) (k + 1)) → Pr H' r1 (nt (KM.part L T) k) (nb (KM.part L T) k) → 3 ≤ k → k ≤ 300 → m < nb (KM.part L T) k → m < nb (KM.part L T) (k + 1) → Q (.ref l) H'
theorem scPast : FnScope ["slope", "bottom", "p", "q", "later", "wider", "many", "found", "beyond", "part"] ["slope", "bottom"] (defScope sPast) := ⟨rfl, rfl, rfl, by decide +kernel, rfl, by decide +kernel, by decide +kernel⟩
/-- how far the counter of great bottoms is -/
def Bey (a : Nat → Int) (m : Int) (k : Nat) (b : Int) : Prop :=
  (b = 0 ∧ (k = 0 ∨ nb a (k + 1) ≤ m)) ∨ (b = 1 ∧ 1 ≤ k ∧ m < nb a (k + 1)) ∨ (b = 2 ∧ 2 ≤ k ∧ m < nb a k ∧ m < nb a (k + 1)) ∨ (b = 3 ∧ 3 ≤ k ∧ m < nb a k ∧ m < nb a (k + 1))
theorem Bey.step {a : Nat → Int} (ha : KM.Parts a) {m : Int} {k : Nat} {b : Int} (h : Bey a m k b) (hb : b < 3) : Bey a m (k + 1) (b + (if decide (m < nb a (k + 2)) = true then 1 else 0)) := by
  have mono := KM.nb_mono ha k
  have nn := KM.nb_nn ha k
  unfold Bey at *
  show (b + _ = 0 ∧ (k + 1 = 0 ∨ nb a (k + 2) ≤ m)) ∨ (b + _ = 1 ∧ 1 ≤ k + 1 ∧ m < nb a (k + 2)) ∨ (b + _ = 2 ∧ 2 ≤ k + 1 ∧ m < nb a (k + 1) ∧ m < nb a (k + 2)) ∨ (b + _ = 3 ∧ 3 ≤ k + 1 ∧ m < nb a (k + 1) ∧ m < nb a (k + 2))
  by_cases c : m < nb a (k + 2)
  · rw [if_pos (decide_eq_true c)]
    omega
  · rw [if_neg (by rw [decide_eq_false c]; decide)]
    omega
theorem cal_past {C : Addr} (D : Df K mg "neighbours_past" sPast ["slope", "bottom"]) (X : Txt mg) (c1 : Cal P w K mg base 1 "part_at" (spPartAt C) []) : Cal P w K mg base 2 "neighbours_past" (spPast C) [] := by
  refine D.cal scPast (fun vs H Q E h => ?_) (fun f cdv A outer s H vs Q E hr h => ?_)
  · obtain ⟨x, m, L, T, rfl, _⟩ := h
    rfl
  · obtain ⟨x, m, L, T, rfl, hx, m0, m1, q⟩ := h
    have nd := scPast.nd
    have ok : Ok L T := by
      obtain ⟨_, _, _, _, _, _, _, _, _, ok⟩ := hx
      exact ok
    refine ⟨_, pss_cons (ps_asg (pe_tup (pa_cons pe_int (pa_cons pe_int (pa_cons pe_int (pa_cons pe_int (pa_cons pe_int pa_nil)))))) (pg_tup rfl (pgs_cons (pg_name (i := 2) nd rfl (.inl rfl)) (pgs_cons (pg_name (i := 3) nd rfl (.inl rfl)) (pgs_cons (pg_name (i := 4) nd rfl (.inl rfl)) (pgs_cons (pg_name (i := 5) nd rfl (.inl rfl)) (pgs_cons (pg_name (i := 6) nd rfl (.inl rfl)) pgs_nil)))))))
      (pss_cons (ps_par (i := 7) (j := 8) (by rfl) nd rfl rfl (by decide) rfl rfl (pa_cons (pe_lst (pa_cons (pe_tup (pa_cons pe_int (pa_cons pe_int pa_nil))) pa_nil)) (pa_cons pe_int pa_nil)) (by rfl))
      (pss_cons (ps_while PassesOwn.never (pt_cmpR op_lt (pv 8) pe_int (nomark _))
        (pss_cons (ps_aug (i := 6) nd rfl (.inl rfl) pe_int ip_add)
        (pss_cons (ps_set (i := 9) nd rfl (.inl rfl) (pe_c c1 hr (by decide) (by rfl) (pa_cons (pv 0) (pa_cons (pv 6) pa_nil))))
        (pss_cons (ps_asg (pe_tup (pa_cons (pv 4) (pa_cons (pv 5) (pa_cons (pe_op op_add (pe_op op_mul (pv 9) (pv 4)) (pv 2)) (pa_cons (pe_op op_add (pe_op op_mul (pv 9) (pv 5)) (pv 3)) pa_nil))))) (pg_tup rfl (pgs_cons (pg_name (i := 2) nd rfl (.inl rfl)) (pgs_cons (pg_name (i := 3) nd rfl (.inl rfl)) (pgs_cons (pg_name (i := 4) nd rfl (.inl rfl)) (pgs_cons (pg_name (i := 5) nd rfl (.inl rfl)) pgs_nil))))))
        (pss_cons (ps_expr (pe_bm PySem.F.plainAttrs_list PySem.F.slot_list_append PySem.F.type_list_append mt_append (pv 7) (pa_cons (pe_tup (pa_cons (pv 4) (pa_cons (pv 5) pa_nil))) pa_nil)))
        (pss_one (ps_aug (i := 8) nd rfl (.inl rfl) (pe_callTy call_int1 (by rfl) X.int boot_int (pa_cons (pe_cmpR op_gt (pv 5) (pv 1) (nomark _)) pa_nil)) ip_add)))))))
      (pss_one (ps_ret (pv 7))))), ?_⟩
    refine ⟨by show 5 ≤ sizeLine; decide, fun p5 n5 => ?_⟩
    refine ⟨p5, _, rfl, sqT upd_same, rfl, _, _, rfl, _, _, rfl, _, _, rfl, _, _, rfl, _, _, rfl, rfl, ?_⟩
    have s5 := same_upd (o := HO.tup [.int 1, .int 0, .int 0, .int 1, .int 0]) n5
    refine ⟨by show 2 ≤ sizeLine; decide, fun p0 n0 => ⟨by show 1 ≤ sizeLine; decide, fun l nl => ?_⟩⟩
    have s0 := same_upd (o := HO.tup [.int 0, .int 1]) n0
    have sl := same_upd (o := HO.lst [.ref p0]) nl
    have sall := (s5.trans s0).trans sl
    refine ⟨_, _, rfl, ?_⟩
    have pa : KM.Parts (KM.part L T) := ok.parts
    have hlH : H l = none := (s5.trans s0).free nl
    refine ⟨fun μ σ H' => ∃ (k : Nat) (b : Int) (xs : List V) (r1 r2 : Addr) (y : Option V), μ = 300 - k ∧ σ = [some (.ref x), some (.int m), some (.int (nt (KM.part L T) k)), some (.int (nb (KM.part L T) k)), some (.int (nt (KM.part L T) (k + 1))), some (.int (nb (KM.part L T) (k + 1))), some (.int (k : Int)), some (.ref l), some (.int b), y] ∧
        Same H H' ∧ H' l = some (.lst xs) ∧ xs.length = k + 1 ∧ xs[k]? = some (.ref r2) ∧ Pr H' r2 (nt (KM.part L T) (k + 1)) (nb (KM.part L T) (k + 1)) ∧ (1 ≤ k → xs[k - 1]? = some (.ref r1) ∧ Pr H' r1 (nt (KM.part L T) k) (nb (KM.part L T) k)) ∧ Bey (KM.part L T) m k b ∧ (k : Int) ≤ 206 + b,
      ⟨_, 0, 0, [.ref p0], p0, p0, none, rfl, rfl, sall, upd_same, rfl, rfl, sl _ _ upd_same, fun h => absurd h (by decide), .inl ⟨rfl, .inl rfl⟩, by decide⟩, fun μ σ H' hW => ?_⟩
    obtain ⟨k, b, xs, r1, r2, y, rfl, rfl, sm, hl, hlen, hx2, hr2, hx1, hB, hk⟩ := hW
    refine ⟨_, rfl, _, _, rfl, rfl, _, rfl, ite2 (fun hb => ?_) (fun hb => ?_)⟩
    · have hb3 : b < 3 := of_decide_eq_true hb
      have hb0 : 0 ≤ b := by
        unfold Bey at hB
        omega
      refine ⟨fun σ' H2 => ∃ (b : Int) (xs : List V) (r1 r2 : Addr) (y : Option V), σ' = [some (.ref x), some (.int m), some (.int (nt (KM.part L T) (k + 1))), some (.int (nb (KM.part L T) (k + 1))), some (.int (nt (KM.part L T) (k + 2))), some (.int (nb (KM.part L T) (k + 2))), some (.int ((k : Int) + 1)), some (.ref l), some (.int b), y] ∧
        Same H H2 ∧ H2 l = some (.lst xs) ∧ xs.length = k + 2 ∧ xs[k + 1]? = some (.ref r2) ∧ Pr H2 r2 (nt (KM.part L T) (k + 2)) (nb (KM.part L T) (k + 2)) ∧ xs[k]? = some (.ref r1) ∧ Pr H2 r1 (nt (KM.part L T) (k + 1)) (nb (KM.part L T) (k + 1)) ∧ Bey (KM.part L T) m (k + 1) b ∧ ((k : Int) + 1) ≤ 206 + b, fun σ' H2 hN => ?_, ?_⟩
      · obtain ⟨b', xs', r1', r2', y', e, sm', hl', hlen', hx2', hr2', hx1', hr1', hB', hk'⟩ := hN
        exact ⟨300 - (k + 1), by omega, k + 1, b', xs', r1', r2', y', rfl, e, sm', hl', hlen', hx2', hr2', fun _ => ⟨hx1', hr1'⟩, hB', hk'⟩
      · -- many += 1; part = part_at(slope, many)
        refine ⟨_, rfl, _, _, rfl, rfl, ?_⟩
        refine ⟨_, rfl, _, rfl, x, k + 1, L, T, rfl, by omega, hx.same sm, ?_⟩
        have ap := ok.part4 (show 1 ≤ k + 1 by omega)
        have cm : ∀ z : Int, CMul (KM.part L T (k + 1)) z := fun z => .inl ⟨by omega, by omega⟩
        refine ⟨_, rfl, _, rfl, _, rfl, _, rfl, _, _, rfl, rfl, cm _, _, rfl, _, _, rfl, rfl, _, rfl, _, rfl, _, _, rfl, rfl, cm _, _, rfl, _, _, rfl, rfl, by show 4 ≤ sizeLine; decide, fun p4 n4 => ?_⟩
        refine ⟨p4, _, rfl, sqT upd_same, rfl, _, _, rfl, _, _, rfl, _, _, rfl, _, _, rfl, rfl, ?_⟩
        have s4 := same_upd (H := H') n4 (o := HO.tup [.int (nt (KM.part L T) (k + 1)), .int (nb (KM.part L T) (k + 1)), .int (KM.part L T (k + 1) * nt (KM.part L T) (k + 1) + nt (KM.part L T) k), .int (KM.part L T (k + 1) * nb (KM.part L T) (k + 1) + nb (KM.part L T) k)])
        refine ⟨_, rfl, .inl ⟨rfl, _, sqL (s4 _ _ hl)⟩, _, rfl, _, rfl, by show 2 ≤ sizeLine; decide, fun p2 n2 => ?_⟩
        have s2 := same_upd (o := HO.tup [.int (KM.part L T (k + 1) * nt (KM.part L T) (k + 1) + nt (KM.part L T) k), .int (KM.part L T (k + 1) * nb (KM.part L T) (k + 1) + nb (KM.part L T) k)]) n2
        have hl2 := s2 _ _ (s4 _ _ hl)
        refine ⟨l, _, _, rfl, rfl, hl2, ?_, ?_⟩
        · rw [hlen]
          exact small1000 (by omega)
        · refine ⟨_, rfl, _, rfl, _, rfl, _, _, rfl, rfl, .inr ⟨_, rfl, _, _, rfl, rfl, ?_⟩⟩
          have nr2 : r2 ≠ l := ne_of (s2 _ _ (s4 _ _ hr2)) hl2 (by intro z; cases z)
          have np2 : p2 ≠ l := ne_of upd_same hl2 (by intro z; cases z)
          refine ⟨_, xs ++ [.ref p2], r2, p2, _, rfl, fun c o e => ?_, upd_same, by rw [List.length_append, hlen]; rfl, ?_, ?_, ?_, ?_, hB.step pa hb3, ?_⟩
          · rw [upd_ne (ne_of_none e hlH)]
            exact s2 _ _ (s4 _ _ (sm _ _ e))
          · rw [List.getElem?_append_right (by omega), hlen, Nat.sub_self]
            rfl
          · show (upd _ l _) p2 = _
            rw [upd_ne np2, upd_same]
            rfl
          · rw [List.getElem?_append_left (by omega)]
            exact hx2
          · show (upd _ l _) r2 = _
            rw [upd_ne nr2]
            exact s2 _ _ (s4 _ _ hr2)
          · have hB2 := hB.step pa hb3
            by_cases c : m < nb (KM.part L T) (k + 2)
            · show (k : Int) + 1 ≤ 206 + (b + if decide (m < nb (KM.part L T) (k + 2)) = true then 1 else 0)
              rw [if_pos (decide_eq_true c)]
              omega
            · show (k : Int) + 1 ≤ 206 + (b + if decide (m < nb (KM.part L T) (k + 2)) = true then 1 else 0)
              rw [if_neg (by rw [decide_eq_false c]; decide)]
              have := KM.place_small pa (k := k + 2) (B := m) (by have := two102; omega) (by omega)
              omega
    · have hb3 : ¬ b < 3 := fun z => hb (decide_eq_true z)
      have h3 : b = 3 ∧ 3 ≤ k ∧ m < nb (KM.part L T) k ∧ m < nb (KM.part L T) (k + 1) := by
        unfold Bey at hB
        omega
      have h1 := hx1 (by omega)
      exact ⟨_, rfl, q H' l xs r1 r2 k sm hl hlen hx2 h1.1 hr2 h1.2 h3.2.1 (by omega) h3.2.2.1 h3.2.2.2⟩
end
end KD
set_option Elab.async false
set_option linter.all false
set_option maxRecDepth 100000
set_option autoImplicit false
namespace KD
open PySem PySem.Spec PyProof.Rows L2 KR
open C8 (Cal pe_c pe_gc Mak pe_mk InsC call_isC)
open StX (pa_star)
section
variable {P : Program} {w : World} {K : PySem.W.Frag} {mg : Str → Option Value} {base : Heap}
open KM (Ok nt nb fl flz)
/-! ### is_point, check_point -/
def spIsPoint : Sp := fun vs H Q _ => ∃ p u v, vs = [.ref p] ∧ H p = some (IT [u, v]) ∧ -(10 ^ 30) ≤ u ∧ u ≤ 10 ^ 30 ∧ -(10 ^ 30) ≤ v ∧ v ≤ 10 ^ 30 ∧ ∀ H', Same H H' → Q (.bl true) H'
theorem scIsPoint : FnScope ["value", "part"] ["value"] (defScope sIsPoint) := ⟨rfl, rfl, rfl, by decide +kernel, rfl, by decide +kernel, by decide +kernel⟩
theorem cal_isPoint (D : Df K mg "is_point" sIsPoint ["value"]) (X : Txt mg) (c1 : Cal P w K mg base 2 "is_between" spBetween []) : Cal P w K mg base 3 "is_point" spIsPoint [] := by
  refine D.cal scIsPoint (fun vs H Q E h => ?_) (fun f cdv A outer s H vs Q E hr h => ?_)
  · obtain ⟨p, u, v, rfl, _⟩ := h
    rfl
  · obtain ⟨p, u, v, rfl, hp, u0, u1, v0, v1, q⟩ := h
    refine ⟨_, pss_cons (ps_if (PW.pt (pw_or (pt_not (pt_val (pe_callB call_isi (by rfl) X.isinstance (by decide +kernel) (pa_cons (pv 0) (pa_cons (pe_bltn (v := .ty "tuple") (by rfl) X.tuple (by decide +kernel) rfl) pa_nil)))))
        (pw_or1 (pt_cmpR op_ne (pe_callB call_len_seq (by rfl) X.len PySem.boot_len (pa_cons (pv 0) pa_nil)) pe_int (nomark _))))) pss_never pss_nil)
      (pss_one (ps_ret (pe_callB (cr_all rfl) (by rfl) X.all (by decide +kernel) (pa_cons (pe_lc (own := [("part", 1)]) (g := gName 1) rfl scIsPoint.nd (pi_tup (pv 0)) (blkOk_by (N := ["value", "part"]) (sc := defScope sIsPoint) (by decide +kernel))
        (fun _ _ _ _ _ => pg_name (i := 1) scIsPoint.nd rfl (Or.inl rfl)) (fun _ _ _ _ _ => pts_nil)
        (fun _ _ _ _ _ => pe_c c1 hr (by decide) (by rfl) (pa_cons (pv 1) (pa_cons (pe_un un_neg (pe_gc (by rfl) X.mNumber)) (pa_cons (pe_gc (by rfl) X.mNumber) pa_nil))))) pa_nil)))), ?_⟩
    refine ⟨_, rfl, _, _, _, _, true, rfl, .ty "tuple", .base (.tup hp), kit_ty (by decide +kernel), _, rfl, iteF ?_⟩
    refine ⟨_, rfl, p, _, rfl, .inr (sqT hp), rfl, _, rfl, ?_⟩
    rw [show (!decide (V.int ((([u, v].map V.int).length : Nat) : Int) = V.int 2)) = false from rfl]
    refine iteF ?_
    refine ⟨_, rfl, p, rfl, ⟨_, sqT hp⟩, fun d nd => ?_⟩
    have nH : ∀ b o, H b = some o → b ≠ d := fun b o e => ne_of_none e nd
    refine lc_tup (K := K) (a := p) (xs := [u, v].map V.int) (fun i H' => Same H H' ∧ H' d = some (.lst ((List.replicate i true).map V.bl)) ∧ i ≤ 2) ⟨same_upd nd, upd_same, by decide⟩ (fun i H' _ h => sqT (h.1 _ _ hp)) ?_ ?_
    · rintro i x H' hx ⟨sm, hd, _⟩
      have hi : i < 2 := (List.getElem?_eq_some_iff.mp hx).1
      obtain ⟨z, ez, z0, z1⟩ : ∃ z : Int, x = V.int z ∧ -(10 ^ 30) ≤ z ∧ z ≤ 10 ^ 30 := by
        have : i = 0 ∨ i = 1 := by omega
        rcases this with rfl | rfl
        · exact ⟨u, (Option.some.inj hx).symm, u0, u1⟩
        · exact ⟨v, (Option.some.inj hx).symm, v0, v1⟩
      subst ez
      refine ⟨rfl, _, rfl, _, rfl, z, _, _, rfl, z0, z1, _, hd, ?_, fun b o e => ?_, ?_, hi⟩
      · rw [List.length_map, List.length_replicate]
        exact small1000 (by omega)
      · rw [upd_ne (nH b o e)]
        exact sm b o e
      · rw [upd_same, List.replicate_succ', List.map_append]
        rfl
    · rintro H' ⟨sm, hd, _⟩
      exact ⟨d, List.replicate 2 true, rfl, sqL hd, q H' sm⟩
def spCPoint : Sp := fun vs H Q _ => ∃ p u v, vs = [.ref p] ∧ H p = some (IT [u, v]) ∧ -(10 ^ 30) ≤ u ∧ u ≤ 10 ^ 30 ∧ -(10 ^ 30) ≤ v ∧ v ≤ 10 ^ 30 ∧ ∀ H', Same H H' → Q .non H'
theorem scCPoint : FnScope ["value"] ["value"] (defScope sCPoint) := ⟨rfl, rfl, rfl, by decide +kernel, rfl, by decide +kernel, by decide +kernel⟩
theorem cal_cPoint (D : Df K mg "check_point" sCPoint ["value"]) (c1 : Cal P w K mg base 3 "is_point" spIsPoint []) : Cal P w K mg base 4 "check_point" spCPoint [] := by
  refine D.cal scCPoint (fun vs H Q E h => ?_) (fun f cdv A outer s H vs Q E hr h => ?_)
  · obtain ⟨p, u, v, rfl, _⟩ := h
    rfl
  · obtain ⟨p, u, v, rfl, hp, u0, u1, v0, v1, q⟩ := h
    refine ⟨_, pss_one (ps_if (pt_not (pt_val (pe_c c1 hr (by decide) (by rfl) (pa_cons (pv 0) pa_nil)))) pss_never pss_nil), ?_⟩
    exact ⟨_, rfl, p, u, v, rfl, hp, u0, u1, v0, v1, fun H' sm => ⟨true, rfl, iteF (q H' sm)⟩⟩

/-! ### multiple_at -/
def spMultP (C : Addr) : Sp := fun vs H Q _ => ∃ x m L T, vs = [.ref x, .int m] ∧ SlopeAt C H x L T ∧ 0 ≤ m ∧ m ≤ 2 ^ 101 ∧ ∀ H', Same H H' → Q (.int (fl (KM.part L T) m)) H'
def spMult (C : Addr) : Sp := fun vs H Q _ => ∃ x m L T, vs = [.ref x, .int m] ∧ SlopeAt C H x L T ∧ -(2 ^ 101) ≤ m ∧ m ≤ 2 ^ 101 ∧ ∀ H', Same H H' → Q (.int (flz (KM.part L T) m)) H'
theorem scMult : FnScope ["slope", "many", "some", "place"] ["slope", "many"] (defScope sMult) := ⟨rfl, rfl, rfl, by decide +kernel, rfl, by decide +kernel, by decide +kernel⟩
theorem bits102 {m : Int} (h0 : 0 ≤ m) (h1 : m ≤ 2 ^ 101) : m.natAbs < 2 ^ 102 := by
  have : (2 : Int) ^ 101 < 2 ^ 102 := two102
  have e : (2 : Int) ^ 102 = ((2 ^ 102 : Nat) : Int) := by decide
  omega
/-- the end of multiple_at: the pair at the even place tells the whole part -/
theorem mult_end {a : Nat → Int} (ha : KM.Parts a) {m : Int} (m0 : 0 ≤ m) {n : Nat} (h : m ≤ nb a (2 * n + 2)) : m * nt a (2 * n + 1) / nb a (2 * n + 1) = fl a m := KM.fl_at ha n m0 h
theorem mul_ok {a : Nat → Int} (ha : KM.Parts a) {m : Int} (m0 : 0 ≤ m) (m1 : m ≤ 2 ^ 101) {k : Nat} (hk : k ≤ 400) : CMulW m (nt a (k + 1)) :=
  wide_mul (bits102 m0 m1) (KM.nt_bits ha k) (by decide) (by omega) (by omega)
theorem div_ok {a : Nat → Int} (ha : KM.Parts a) {z : Int} {k : Nat} (hk : k ≤ 400) : CDivW z (nb a (k + 1)) :=
  wide_div (by have := KM.nb_pos ha k; omega) (KM.nb_bits ha (k + 1)) (by omega) (by omega)
theorem fin_pos {a : Nat → Int} (ha : KM.Parts a) {m : Int} (m0 : 0 ≤ m) (m1 : m ≤ 2 ^ 101) {H' : Hp} {l : Addr} {xs : List V} {r1 r2 : Addr} {k : Nat} (hl : H' l = some (.lst xs)) (hlen : xs.length = k + 1) (hx2 : xs[k]? = some (.ref r2)) (hx1 : xs[k - 1]? = some (.ref r1))
    (hr2 : Pr H' r2 (nt a (k + 1)) (nb a (k + 1))) (hr1 : Pr H' r1 (nt a k) (nb a k)) (h3 : 3 ≤ k) (h300 : k ≤ 300) (b1 : m < nb a k) (b2 : m < nb a (k + 1)) :
    (((k + 1) % 2 = 1 → xs[k]? = some (.ref r2) ∧ Pr H' r2 (nt a (k + 1)) (nb a (k + 1)) ∧ CMulW m (nt a (k + 1)) ∧ CDivW (m * nt a (k + 1)) (nb a (k + 1)) ∧ m * nt a (k + 1) / nb a (k + 1) = fl a m) ∧
     (¬ (k + 1) % 2 = 1 → xs[k - 1]? = some (.ref r1) ∧ Pr H' r1 (nt a k) (nb a k) ∧ CMulW m (nt a k) ∧ CDivW (m * nt a k) (nb a k) ∧ m * nt a k / nb a k = fl a m)) := by
  refine ⟨fun e => ⟨hx2, hr2, mul_ok ha m0 m1 (by omega), div_ok ha (by omega), ?_⟩, fun e => ⟨hx1, hr1, ?_, ?_, ?_⟩⟩
  · obtain ⟨n, hn⟩ : ∃ n, k = 2 * n := ⟨k / 2, by omega⟩
    subst hn
    have := KM.nb_mono ha (2 * n)
    have := KM.nb_nn ha (2 * n)
    exact mult_end ha m0 (by omega)
  · obtain ⟨j, rfl⟩ : ∃ j, k = j + 1 := ⟨k - 1, by omega⟩
    exact mul_ok ha m0 m1 (by omega)
  · obtain ⟨j, rfl⟩ : ∃ j, k = j + 1 := ⟨k - 1, by omega⟩
    exact div_ok ha (by omega)
  · obtain ⟨n, hn⟩ : ∃ n, k = 2 * n + 1 := ⟨k / 2, by omega⟩
    subst hn
    exact mult_end ha m0 (by show m ≤ nb a (2 * n + 1 + 1); omega)
theorem cal_multP {C : Addr} (D : Df K mg "multiple_at" sMult ["slope", "many"]) (X : Txt mg) (c1 : Cal P w K mg base 2 "neighbours_past" (spPast C) []) : Cal P w K mg base 3 "multiple_at" (spMultP C) [] := by
  refine D.cal scMult (fun vs H Q E h => ?_) (fun f cdv A outer s H vs Q E hr h => ?_)
  · obtain ⟨x, m, L, T, rfl, _⟩ := h
    rfl
  · obtain ⟨x, m, L, T, rfl, hx, m0, m1, q⟩ := h
    have ok : Ok L T := by
      obtain ⟨_, _, _, _, _, _, _, _, _, ok⟩ := hx
      exact ok
    refine ⟨_, pss_cons (ps_if (pt_cmpR op_lt (pv 1) pe_int (nomark _)) pss_never pss_nil)
      (pss_cons (ps_set (i := 2) scMult.nd rfl (.inl rfl) (pe_c c1 hr (by decide) (by rfl) (pa_cons (pv 0) (pa_cons (pv 1) pa_nil))))
      (pss_cons (ps_set (i := 3) scMult.nd rfl (.inl rfl) (pe_ifExp (pt_cmpR op_eq (pe_op op_mod (pe_callB call_len_seq (by rfl) X.len PySem.boot_len (pa_cons (pv 2) pa_nil)) pe_int) pe_int (nomark _))
        (pe_op op_sub (pe_callB call_len_seq (by rfl) X.len PySem.boot_len (pa_cons (pv 2) pa_nil)) pe_int) (pe_op op_sub (pe_callB call_len_seq (by rfl) X.len PySem.boot_len (pa_cons (pv 2) pa_nil)) pe_int)))
      (pss_one (ps_ret (pe_op op_fdivW (pe_op op_mulW (pv 1) (pe_ix ix_tup (pe_ix ix_list (pv 2) (pv 3) (fun _ _ => rfl)) pe_int (fun _ _ => rfl))) (pe_ix ix_tup (pe_ix ix_list (pv 2) (pv 3) (fun _ _ => rfl)) pe_int (fun _ _ => rfl))))))), ?_⟩
    refine ⟨_, rfl, _, _, rfl, rfl, _, rfl, ?_⟩
    rw [decide_eq_false (show ¬ m < 0 by omega)]
    refine iteF ?_
    refine ⟨_, rfl, _, rfl, x, m, L, T, rfl, hx, m0, m1, fun H' l xs r1 r2 k sm hl hlen hx2 hx1 hr2 hr1 h3 h300 b1 b2 => ?_⟩
    have fp := fin_pos ok.parts m0 m1 hl hlen hx2 hx1 hr2 hr1 h3 h300 b1 b2
    refine ⟨_, rfl, l, xs, rfl, .inl (sqL hl), _, _, rfl, rfl, (by show (0 : Int) < 2; decide), rfl, _, rfl, ite2 (fun e => ?_) (fun e => ?_)⟩
    · have e1 : ((xs.length : Nat) : Int) % 2 = 1 := V.int.inj (of_decide_eq_true e)
      obtain ⟨g1, g2, g3, g4, g5⟩ := fp.1 (by omega)
      have at1 : atI xs ((xs.length : Int) - 1) = some (.ref r2) := at_of (j := k) (by omega) g1
      refine ⟨_, rfl, l, xs, rfl, .inl (sqL hl), _, _, rfl, rfl, ?_⟩
      refine ⟨_, rfl, _, rfl, _, rfl, l, xs, _, _, rfl, rfl, sqL hl, at1, r2, _, 0, _, rfl, rfl, sqT g2, rfl, m, _, rfl, rfl, g3, ?_⟩
      refine ⟨_, rfl, _, rfl, l, xs, _, _, rfl, rfl, sqL hl, at1, r2, _, 1, _, rfl, rfl, sqT g2, rfl, _, _, rfl, rfl, g4, ?_⟩
      show Q (V.int (m * nt (KM.part L T) (k + 1) / nb (KM.part L T) (k + 1))) H'
      rw [g5]
      exact q H' sm
    · have e1 : ¬ ((xs.length : Nat) : Int) % 2 = 1 := fun z => e (decide_eq_true (by show V.int (((xs.length : Nat) : Int) % 2) = V.int 1; rw [z]))
      obtain ⟨g1, g2, g3, g4, g5⟩ := fp.2 (by omega)
      have at1 : atI xs ((xs.length : Int) - 2) = some (.ref r1) := at_of (j := k - 1) (by omega) g1
      refine ⟨_, rfl, l, xs, rfl, .inl (sqL hl), _, _, rfl, rfl, ?_⟩
      refine ⟨_, rfl, _, rfl, _, rfl, l, xs, _, _, rfl, rfl, sqL hl, at1, r1, _, 0, _, rfl, rfl, sqT g2, rfl, m, _, rfl, rfl, g3, ?_⟩
      refine ⟨_, rfl, _, rfl, l, xs, _, _, rfl, rfl, sqL hl, at1, r1, _, 1, _, rfl, rfl, sqT g2, rfl, _, _, rfl, rfl, g4, ?_⟩
      show Q (V.int (m * nt (KM.part L T) k / nb (KM.part L T) k)) H'
      rw [g5]
      exact q H' sm
theorem cal_mult {C : Addr} (D : Df K mg "multiple_at" sMult ["slope", "many"]) (X : Txt mg) (c1 : Cal P w K mg base 2 "neighbours_past" (spPast C) []) (c2 : Cal P w K mg base 3 "multiple_at" (spMultP C) []) : Cal P w K mg base 4 "multiple_at" (spMult C) [] := by
  refine D.cal scMult (fun vs H Q E h => ?_) (fun f cdv A outer s H vs Q E hr h => ?_)
  · obtain ⟨x, m, L, T, rfl, _⟩ := h
    rfl
  · obtain ⟨x, m, L, T, rfl, hx, m0, m1, q⟩ := h
    have ok : Ok L T := by
      obtain ⟨_, _, _, _, _, _, _, _, _, ok⟩ := hx
      exact ok
    refine ⟨_, pss_cons (ps_if (pt_cmpR op_lt (pv 1) pe_int (nomark _)) (pss_one (ps_ret (pe_op op_sub (pe_un un_neg pe_int) (pe_c c2 hr (by decide) (by rfl) (pa_cons (pv 0) (pa_cons (pe_un un_neg (pv 1)) pa_nil)))))) pss_nil)
      (pss_cons (ps_set (i := 2) scMult.nd rfl (.inl rfl) (pe_c c1 hr (by decide) (by rfl) (pa_cons (pv 0) (pa_cons (pv 1) pa_nil))))
      (pss_cons (ps_set (i := 3) scMult.nd rfl (.inl rfl) (pe_ifExp (pt_cmpR op_eq (pe_op op_mod (pe_callB call_len_seq (by rfl) X.len PySem.boot_len (pa_cons (pv 2) pa_nil)) pe_int) pe_int (nomark _))
        (pe_op op_sub (pe_callB call_len_seq (by rfl) X.len PySem.boot_len (pa_cons (pv 2) pa_nil)) pe_int) (pe_op op_sub (pe_callB call_len_seq (by rfl) X.len PySem.boot_len (pa_cons (pv 2) pa_nil)) pe_int)))
      (pss_one (ps_ret (pe_op op_fdivW (pe_op op_mulW (pv 1) (pe_ix ix_tup (pe_ix ix_list (pv 2) (pv 3) (fun _ _ => rfl)) pe_int (fun _ _ => rfl))) (pe_ix ix_tup (pe_ix ix_list (pv 2) (pv 3) (fun _ _ => rfl)) pe_int (fun _ _ => rfl))))))), ?_⟩
    refine ⟨_, rfl, _, _, rfl, rfl, _, rfl, ?_⟩
    unfold flz at q
    by_cases hm : m < 0
    · rw [if_pos hm] at q
      rw [decide_eq_true hm]
      refine iteT ⟨1, rfl, _, rfl, _, rfl, m, rfl, x, -m, L, T, rfl, hx, by omega, by omega, fun H' sm => ⟨-1, _, rfl, rfl, q H' sm⟩⟩
    · rw [if_neg hm] at q
      have m0 : 0 ≤ m := by omega
      rw [decide_eq_false hm]
      refine iteF ?_
      refine ⟨_, rfl, _, rfl, x, m, L, T, rfl, hx, m0, m1, fun H' l xs r1 r2 k sm hl hlen hx2 hx1 hr2 hr1 h3 h300 b1 b2 => ?_⟩
      have fp := fin_pos ok.parts m0 m1 hl hlen hx2 hx1 hr2 hr1 h3 h300 b1 b2
      refine ⟨_, rfl, l, xs, rfl, .inl (sqL hl), _, _, rfl, rfl, (by show (0 : Int) < 2; decide), rfl, _, rfl, ite2 (fun e => ?_) (fun e => ?_)⟩
      · have e1 : ((xs.length : Nat) : Int) % 2 = 1 := V.int.inj (of_decide_eq_true e)
        obtain ⟨g1, g2, g3, g4, g5⟩ := fp.1 (by omega)
        have at1 : atI xs ((xs.length : Int) - 1) = some (.ref r2) := at_of (j := k) (by omega) g1
        refine ⟨_, rfl, l, xs, rfl, .inl (sqL hl), _, _, rfl, rfl, ?_⟩
        refine ⟨_, rfl, _, rfl, _, rfl, l, xs, _, _, rfl, rfl, sqL hl, at1, r2, _, 0, _, rfl, rfl, sqT g2, rfl, m, _, rfl, rfl, g3, ?_⟩
        refine ⟨_, rfl, _, rfl, l, xs, _, _, rfl, rfl, sqL hl, at1, r2, _, 1, _, rfl, rfl, sqT g2, rfl, _, _, rfl, rfl, g4, ?_⟩
        show Q (V.int (m * nt (KM.part L T) (k + 1) / nb (KM.part L T) (k + 1))) H'
        rw [g5]
        exact q H' sm
      · have e1 : ¬ ((xs.length : Nat) : Int) % 2 = 1 := fun z => e (decide_eq_true (by show V.int (((xs.length : Nat) : Int) % 2) = V.int 1; rw [z]))
        obtain ⟨g1, g2, g3, g4, g5⟩ := fp.2 (by omega)
        have at1 : atI xs ((xs.length : Int) - 2) = some (.ref r1) := at_of (j := k - 1) (by omega) g1
        refine ⟨_, rfl, l, xs, rfl, .inl (sqL hl), _, _, rfl, rfl, ?_⟩
        refine ⟨_, rfl, _, rfl, _, rfl, l, xs, _, _, rfl, rfl, sqL hl, at1, r1, _, 0, _, rfl, rfl, sqT g2, rfl, m, _, rfl, rfl, g3, ?_⟩
        refine ⟨_, rfl, _, rfl, l, xs, _, _, rfl, rfl, sqL hl, at1, r1, _, 1, _, rfl, rfl, sqT g2, rfl, _, _, rfl, rfl, g4, ?_⟩
        show Q (V.int (m * nt (KM.part L T) k / nb (KM.part L T) k)) H'
        rw [g5]
        exact q H' sm

/-! ### whole_at, whole_part -/
theorem e30 : (10 : Int) ^ 30 + 1 ≤ 2 ^ 101 := by decide
def spWholeAt (C : Addr) : Sp := fun vs H Q _ => ∃ x p u v L T, vs = [.ref x, .ref p] ∧ SlopeAt C H x L T ∧ H p = some (IT [u, v]) ∧ -(10 ^ 30) ≤ v ∧ v ≤ 10 ^ 30 ∧ ∀ H', Same H H' → Q (.int (u + flz (KM.part L T) v)) H'
theorem scWholeAt : FnScope ["slope", "point"] ["slope", "point"] (defScope sWholeAt) := ⟨rfl, rfl, rfl, by decide +kernel, rfl, by decide +kernel, by decide +kernel⟩
theorem cal_wholeAt {C : Addr} (D : Df K mg "whole_at" sWholeAt ["slope", "point"]) (c1 : Cal P w K mg base 4 "multiple_at" (spMult C) []) : Cal P w K mg base 5 "whole_at" (spWholeAt C) [] := by
  refine D.cal scWholeAt (fun vs H Q E h => ?_) (fun f cdv A outer s H vs Q E hr h => ?_)
  · obtain ⟨x, p, u, v, L, T, rfl, _⟩ := h
    rfl
  · obtain ⟨x, p, u, v, L, T, rfl, hx, hp, v0, v1, q⟩ := h
    have ok : Ok L T := by
      obtain ⟨_, _, _, _, _, _, _, _, _, ok⟩ := hx
      exact ok
    refine ⟨_, pss_one (ps_ret (pe_op op_add (pe_ix ix_tup (pv 1) pe_int (fun _ _ => rfl)) (pe_ifExp (pt_cmpR op_ne (pe_ix ix_tup (pv 1) pe_int (fun _ _ => rfl)) pe_int (nomark _))
      (pe_c c1 hr (by decide) (by rfl) (pa_cons (pv 0) (pa_cons (pe_ix ix_tup (pv 1) pe_int (fun _ _ => rfl)) pa_nil))) pe_int))), ?_⟩
    refine ⟨_, rfl, p, _, 0, _, rfl, rfl, sqT hp, rfl, _, rfl, p, _, 1, _, rfl, rfl, sqT hp, rfl, rfl, _, rfl, ?_⟩
    have e := e30
    by_cases hv : v = 0
    · subst hv
      rw [show (!decide (V.int 0 = V.int 0)) = false from rfl]
      refine iteF ⟨u, 0, rfl, rfl, ?_⟩
      have := q H (Same.refl H)
      rw [KM.flz_zero ok.parts] at this
      exact this
    · rw [decide_eq_false (show ¬ V.int v = V.int 0 from fun e => hv (V.int.inj e))]
      exact iteT ⟨_, rfl, _, rfl, p, _, 1, _, rfl, rfl, sqT hp, rfl, x, v, L, T, rfl, hx, by omega, by omega, fun H' sm => ⟨u, _, rfl, rfl, q H' sm⟩⟩
def spWholePart (C : Addr) : Sp := fun vs H Q _ => ∃ x p u v L T, vs = [.ref x, .ref p] ∧ SlopeAt C H x L T ∧ H p = some (IT [u, v]) ∧ -(10 ^ 30) ≤ u ∧ u ≤ 10 ^ 30 ∧ -(10 ^ 30) ≤ v ∧ v ≤ 10 ^ 30 ∧ ∀ H', Same H H' → Q (.int (u + flz (KM.part L T) v)) H'
theorem scWholePart : FnScope ["slope", "point"] ["slope", "point"] (defScope sWholePart) := ⟨rfl, rfl, rfl, by decide +kernel, rfl, by decide +kernel, by decide +kernel⟩
theorem cal_wholePart {C : Addr} (D : Df K mg "whole_part" sWholePart ["slope", "point"]) (c1 : Cal P w K mg base 1 "check_slope" (spCSlope C) []) (c2 : Cal P w K mg base 4 "check_point" spCPoint []) (c3 : Cal P w K mg base 5 "whole_at" (spWholeAt C) []) :
    Cal P w K mg base 6 "whole_part" (spWholePart C) [] := by
  refine D.cal scWholePart (fun vs H Q E h => ?_) (fun f cdv A outer s H vs Q E hr h => ?_)
  · obtain ⟨x, p, u, v, L, T, rfl, _⟩ := h
    rfl
  · obtain ⟨x, p, u, v, L, T, rfl, hx, hp, u0, u1, v0, v1, q⟩ := h
    refine ⟨_, pss_cons (ps_expr (pe_c c1 hr (by decide) (by rfl) (pa_cons (pv 0) pa_nil))) (pss_cons (ps_expr (pe_c c2 hr (by decide) (by rfl) (pa_cons (pv 1) pa_nil)))
      (pss_one (ps_ret (pe_c c3 hr (by decide) (by rfl) (pa_cons (pv 0) (pa_cons (pv 1) pa_nil)))))), ?_⟩
    refine ⟨_, rfl, x, L, T, rfl, hx, ?_⟩
    refine ⟨_, rfl, p, u, v, rfl, hp, u0, u1, v0, v1, fun H1 s1 => ?_⟩
    exact ⟨_, rfl, _, rfl, x, p, u, v, L, T, rfl, hx.same s1, s1 _ _ hp, v0, v1, fun H2 s2 => q H2 (s1.trans s2)⟩

/-! ### the bell -/
def spCDay : Sp := fun vs H Q _ => ∃ m, vs = [.int m] ∧ -(10 ^ 30) ≤ m ∧ m ≤ 10 ^ 30 ∧ Q .non H
theorem scCDay : FnScope ["value"] ["value"] (defScope sCDay) := ⟨rfl, rfl, rfl, by decide +kernel, rfl, by decide +kernel, by decide +kernel⟩
theorem cal_cDay (D : Df K mg "check_day" sCDay ["value"]) (X : Txt mg) (c1 : Cal P w K mg base 2 "is_between" spBetween []) : Cal P w K mg base 3 "check_day" spCDay [] := by
  refine D.cal scCDay (fun vs H Q E h => ?_) (fun f cdv A outer s H vs Q E hr h => ?_)
  · obtain ⟨m, rfl, _⟩ := h
    rfl
  · obtain ⟨m, rfl, m0, m1, q⟩ := h
    refine ⟨_, pss_one (ps_if (pt_not (pt_val (pe_c c1 hr (by decide) (by rfl) (pa_cons (pv 0) (pa_cons (pe_un un_neg (pe_gc (by rfl) X.mNumber)) (pa_cons (pe_gc (by rfl) X.mNumber) pa_nil)))))) pss_never pss_nil), ?_⟩
    exact ⟨_, rfl, _, rfl, m, _, _, rfl, m0, m1, true, rfl, iteF q⟩
def spRings (C : Addr) : Sp := fun vs H Q _ => ∃ x m L T, vs = [.ref x, .int m] ∧ SlopeAt C H x L T ∧ -(10 ^ 30) ≤ m ∧ m ≤ 10 ^ 30 ∧ ∀ H', Same H H' → Q (.bl (decide (flz (KM.part L T) m < flz (KM.part L T) (m + 1)))) H'
theorem scDoes : FnScope ["slope", "day"] ["slope", "day"] (defScope sDoes) := ⟨rfl, rfl, rfl, by decide +kernel, rfl, by decide +kernel, by decide +kernel⟩
theorem cal_does {C : Addr} (D : Df K mg "does_ring" sDoes ["slope", "day"]) (c1 : Cal P w K mg base 4 "multiple_at" (spMult C) []) : Cal P w K mg base 5 "does_ring" (spRings C) [] := by
  refine D.cal scDoes (fun vs H Q E h => ?_) (fun f cdv A outer s H vs Q E hr h => ?_)
  · obtain ⟨x, m, L, T, rfl, _⟩ := h
    rfl
  · obtain ⟨x, m, L, T, rfl, hx, m0, m1, q⟩ := h
    have e := e30
    refine ⟨_, pss_one (ps_ret (pe_cmpR op_gt (pe_c c1 hr (by decide) (by rfl) (pa_cons (pv 0) (pa_cons (pe_op op_add (pv 1) pe_int) pa_nil))) (pe_c c1 hr (by decide) (by rfl) (pa_cons (pv 0) (pa_cons (pv 1) pa_nil))) (nomark _))), ?_⟩
    refine ⟨_, rfl, _, rfl, m, 1, rfl, rfl, x, m + 1, L, T, rfl, hx, by omega, by omega, fun H1 s1 => ?_⟩
    exact ⟨_, rfl, _, rfl, x, m, L, T, rfl, hx.same s1, by omega, by omega, fun H2 s2 => ⟨_, _, rfl, rfl, q H2 (s1.trans s2)⟩⟩
theorem scRings : FnScope ["slope", "day"] ["slope", "day"] (defScope sRings) := ⟨rfl, rfl, rfl, by decide +kernel, rfl, by decide +kernel, by decide +kernel⟩
theorem cal_rings {C : Addr} (D : Df K mg "rings" sRings ["slope", "day"]) (c1 : Cal P w K mg base 1 "check_slope" (spCSlope C) []) (c2 : Cal P w K mg base 3 "check_day" spCDay []) (c3 : Cal P w K mg base 5 "does_ring" (spRings C) []) : Cal P w K mg base 6 "rings" (spRings C) [] := by
  refine D.cal scRings (fun vs H Q E h => ?_) (fun f cdv A outer s H vs Q E hr h => ?_)
  · obtain ⟨x, m, L, T, rfl, _⟩ := h
    rfl
  · obtain ⟨x, m, L, T, rfl, hx, m0, m1, q⟩ := h
    refine ⟨_, pss_cons (ps_expr (pe_c c1 hr (by decide) (by rfl) (pa_cons (pv 0) pa_nil))) (pss_cons (ps_expr (pe_c c2 hr (by decide) (by rfl) (pa_cons (pv 1) pa_nil)))
      (pss_one (ps_ret (pe_c c3 hr (by decide) (by rfl) (pa_cons (pv 0) (pa_cons (pv 1) pa_nil)))))), ?_⟩
    exact ⟨_, rfl, x, L, T, rfl, hx, _, rfl, m, rfl, m0, m1, _, rfl, _, rfl, x, m, L, T, rfl, hx, m0, m1, q⟩
end
end KD
set_option Elab.async false
set_option linter.all false
set_option maxRecDepth 100000
set_option autoImplicit false
namespace KD
open PySem PySem.Spec PyProof.Rows L2 KR
open C8 (Cal pe_c pe_gc Mak pe_mk InsC call_isC pss_cut)
open StX (pa_star)
section
variable {P : Program} {w : World} {K : PySem.W.Frag} {mg : Str → Option Value} {base : Heap}
open KM (Ok nt nb fl flz)
/-- all but the object at a is kept -/
def Kept (a : Addr) (H H' : Hp) : Prop := ∀ b o, b ≠ a → H b = some o → H' b = some o
theorem Kept.refl (a : Addr) (H : Hp) : Kept a H H := fun _ _ _ e => e
theorem Kept.trans {a : Addr} {H H1 H2 : Hp} (h : Kept a H H1) (k : Kept a H1 H2) : Kept a H H2 := fun b o n e => k b o n (h b o n e)
theorem Same.kept {a : Addr} {H H' : Hp} (h : Same H H') : Kept a H H' := fun b o _ e => h b o e
theorem kept_upd (a : Addr) (H : Hp) (o : HO) : Kept a H (upd H a o) := fun b u n e => by
  rw [upd_ne n]
  exact e
/-- where draws come from -/
def Spr (H : Hp) (a : Addr) : Prop := ∃ s0 s1 s2 : Int, H a = some (.lst [.int s0, .int s1, .int s2]) ∧ 0 ≤ s0 ∧ s0 < 2147480951 ∧ 0 ≤ s1
theorem Spr.same {H H' : Hp} {a : Addr} (h : Spr H a) (s : Same H H') : Spr H' a := by
  obtain ⟨s0, s1, s2, e, r⟩ := h
  exact ⟨s0, s1, s2, s _ _ e, r⟩
theorem Spr.some {H : Hp} {a : Addr} (h : Spr H a) : ∃ o, H a = .some o := by
  obtain ⟨s0, s1, s2, e, r⟩ := h
  exact ⟨_, e⟩
theorem Spr.ne_tup {H : Hp} {a b : Addr} {xs : List V} (h : Spr H a) (e : H b = .some (.tup xs)) : b ≠ a := by
  obtain ⟨s0, s1, s2, e2, r⟩ := h
  exact ne_of e e2 (by intro z; cases z)
theorem cut_mem {xs : List V} {lo hi : Option Int} {y : V} {i : Nat} (h : (cutV xs lo hi)[i]? = some y) : y ∈ xs := by
  have := List.mem_of_getElem? h
  unfold cutV at this
  exact List.mem_of_mem_drop (List.mem_of_mem_take this)
theorem int_of_mem {ns : List Int} {y : V} (h : y ∈ ns.map V.int) : ∃ u, y = V.int u := by
  obtain ⟨u, _, e⟩ := List.mem_map.mp h
  exact ⟨u, e.symm⟩

/-! ### _law_spring -/
def spSpring (K : PySem.W.Frag) : Sp := fun vs H Q _ => ∃ (a : Addr) (ns : List Int) (k : Nat), vs = [.ref a, .int (k : Int)] ∧ SqL K H a (ns.map V.int) ∧ k < 100 ∧ ∀ H' p, Same H H' → H p = none → Spr H' p → Q (.ref p) H'
theorem scSpring : FnScope ["_law_script", "_law_at_here", "_law_own", "_law_stirred", "_law_each"] ["_law_script", "_law_at_here"] (defScope sSpring) := ⟨rfl, rfl, rfl, by decide +kernel, rfl, by decide +kernel, by decide +kernel⟩
theorem cal_spring (D : Df K mg "_law_spring" sSpring ["_law_script", "_law_at_here"]) (X : Txt mg) : Cal P w K mg base 1 "_law_spring" (spSpring K) [] := by
  refine D.cal scSpring (fun vs H Q E h => ?_) (fun f cdv A outer s H vs Q E hr h => ?_)
  · obtain ⟨a, ns, k, rfl, _⟩ := h
    rfl
  · obtain ⟨a, ns, k, rfl, ha, hk, q⟩ := h
    have nd := scSpring.nd
    refine ⟨_, pss_cut (ps_set (i := 2) nd rfl (.inl rfl) (pe_ifExp (pt_cmpR op_lt (pv 1) (pe_callB call_len_seq (by rfl) X.len PySem.boot_len (pa_cons (pv 0) pa_nil)) (nomark _))
        (pe_callTy call_int1 (by rfl) X.int boot_int (pa_cons (pe_ix ix_list (pv 0) (pv 1) (fun _ _ => rfl)) pa_nil)) (pe_op op_add (pe_op op_mul pe_int (pv 1)) pe_int)))
      (pss_cons (ps_set (i := 3) nd rfl (.inl rfl) (pe_op op_add pe_int (pe_op op_mul pe_int (pv 1))))
      (pss_cons (ps_for PassesOwn.never rfl (pi_list (pe_slice sl_list (pv 0) po_none (po_some pe_int))) (pg_name (i := 4) nd rfl (.inl rfl))
        (pss_one (ps_set (i := 3) nd rfl (.inl rfl) (pe_op op_mod (pe_callTy call_int1 (by rfl) X.int boot_int (pa_cons (pe_op op_add (pe_op op_add (pe_op op_mul (pv 3) pe_int) (pe_callTy call_int1 (by rfl) X.int boot_int (pa_cons (pv 4) pa_nil))) (pv 1)) pa_nil)) pe_int))))
      (pss_one (ps_ret (pe_lst (pa_cons (pe_op op_mod (pe_callTy call_int1 (by rfl) X.int boot_int (pa_cons (pe_op op_add (pv 3) (pe_op op_mul (pv 2) pe_int)) pa_nil)) pe_int)
        (pa_cons (pe_ifExp (PW.pt (pw_or (pt_cmpR op_lt (pv 2) pe_int (nomark _)) (pw_or1 (pt_cmpR op_ge (pv 2) (pe_op op_pow pe_int pe_int) (nomark _))))) (pe_callB call_abs (by rfl) X.abs (by decide +kernel) (pa_cons (pv 2) pa_nil)) pe_int)
        (pa_cons pe_int pa_nil)))))))), ?_⟩
    refine ⟨fun σ' H' => H = H' ∧ ∃ own : Int, σ' = [some (.ref a), some (.int (k : Int)), some (.int own), none, none], ?_, fun σ' H' hM => ?_⟩
    · refine ⟨_, rfl, _, rfl, a, _, rfl, .inl ha, _, _, rfl, rfl, _, rfl, ite2 (fun c => ?_) (fun c => ?_)⟩
      · have hlt : k < (ns.map V.int).length := by
          have := of_decide_eq_true c
          omega
        have hx : (ns.map V.int)[k]? = some (V.int (ns[k]'(by simpa using hlt))) := by
          rw [List.getElem?_map, List.getElem?_eq_getElem (by simpa using hlt)]
          rfl
        exact ⟨_, rfl, _, rfl, a, _, _, _, rfl, rfl, ha, atI_nat hx, .inl ⟨_, rfl, rfl, _, rfl⟩⟩
      · exact ⟨_, rfl, _, _, rfl, rfl, .inl (by decide), _, _, rfl, rfl, rfl, _, rfl⟩
    obtain ⟨rfl, own, rfl⟩ := hM
    refine ⟨_, rfl, _, _, rfl, rfl, .inl (by decide), _, _, rfl, rfl, ?_⟩
    refine ⟨_, rfl, _, rfl, a, _, rfl, ha, fun c nc => ?_⟩
    have sc := same_upd (o := HO.lst (cutV (ns.map V.int) none (some 6))) nc
    refine ⟨c, rfl, ⟨_, sqL upd_same⟩, for_list (K := K) (a := c) (xs := cutV (ns.map V.int) none (some 6)) (fun i σ H' => H' = upd H c (.lst (cutV (ns.map V.int) none (some 6))) ∧ ∃ (st : Int) (y4 : Option V), σ = [some (.ref a), some (.int (k : Int)), some (.int own), some (.int st), y4])
      ⟨rfl, _, _, rfl⟩ (fun i σ H' _ ⟨e, _⟩ => by subst e; exact sqL upd_same) ?_ ?_⟩
    · rintro i y σ H' hi ⟨rfl, st, y4, rfl⟩
      obtain ⟨u, rfl⟩ := int_of_mem (cut_mem hi)
      exact ⟨_, rfl, _, _, rfl, rfl, .inr (by decide), _, rfl, .inl ⟨_, rfl, _, _, rfl, rfl, _, rfl, _, _, rfl, rfl, .inl ⟨_, rfl, _, _, rfl, rfl, by show (0 : Int) < 2147480951; decide, rfl, _, _, rfl⟩⟩⟩
    · rintro σ H' ⟨rfl, st, y4, rfl⟩
      refine ⟨_, rfl, _, rfl, _, _, rfl, rfl, .inr (by decide), _, _, rfl, rfl, .inl ⟨_, rfl, _, _, rfl, rfl, by show (0 : Int) < 2147480951; decide, ?_⟩⟩
      have m0 : 0 ≤ (st + own * 463) % 2147480951 := Int.emod_nonneg _ (by decide)
      have m1 : (st + own * 463) % 2147480951 < 2147480951 := Int.emod_lt_of_pos _ (by decide)
      have fin : ∀ z : Int, 0 ≤ z → ∀ p, (upd H c (.lst (cutV (ns.map V.int) none (some 6)))) p = none → Q (.ref p) (upd (upd H c (.lst (cutV (ns.map V.int) none (some 6)))) p (.lst [.int ((st + own * 463) % 2147480951), .int z, .int 0])) := fun z hz p np =>
        q _ p (sc.trans (same_upd np)) (sc.free np) ⟨_, _, _, upd_same, m0, m1, hz⟩
      have absv : 0 ≤ (if own < 0 then -own else own) := by
        split <;> omega
      refine ⟨_, rfl, _, _, rfl, rfl, _, rfl, ite2 (fun c1 => ?_) (fun c1 => ?_)⟩
      · refine iteT ⟨_, rfl, _, rfl, by show 3 ≤ sizeLine; decide, fin _ absv⟩
      · refine ⟨_, rfl, _, _, rfl, rfl, ⟨by decide, by decide, by decide⟩, _, _, rfl, rfl, _, rfl, ite2 (fun c2 => ?_) (fun c2 => ?_)⟩
        · exact ⟨_, rfl, _, rfl, by show 3 ≤ sizeLine; decide, fin _ absv⟩
        · exact ⟨by show 3 ≤ sizeLine; decide, fin 0 (by decide)⟩

/-! ### _law_drop, _law_pick -/
def stir (s0 s2 : Int) : Int := (s0 * (s0 % 9973 + 20011) + 331 * (s2 + 1) + 17) % 2147480951
def spDrop : Sp := fun vs H Q _ => ∃ (a : Addr) (t : Int), vs = [.ref a, .int t] ∧ Spr H a ∧ 0 < t ∧ t < 1073741824 ∧ ∀ (r : Int) H', 0 ≤ r → r < t → Spr H' a → Kept a H H' → Q (.int r) H'
theorem scDrop : FnScope ["_law_spring_here", "_law_top", "_law_figure", "_law_held"] ["_law_spring_here", "_law_top"] (defScope sDrop) := ⟨rfl, rfl, rfl, by decide +kernel, rfl, by decide +kernel, by decide +kernel⟩
theorem cal_drop (D : Df K mg "_law_drop" sDrop ["_law_spring_here", "_law_top"]) (X : Txt mg) : Cal P w K mg base 1 "_law_drop" spDrop [] := by
  refine D.cal scDrop (fun vs H Q E h => ?_) (fun f cdv A outer s H vs Q E hr h => ?_)
  · obtain ⟨a, t, rfl, _⟩ := h
    rfl
  · obtain ⟨a, t, rfl, ⟨s0, s1, s2, ha, h0, h1, h2⟩, t0, t1, q⟩ := h
    have nd := scDrop.nd
    refine ⟨_, pss_cons (ps_asg (pe_op op_add (pe_ix ix_list (pv 0) pe_int (fun _ _ => rfl)) pe_int) (pg_sub (pv 0) pe_int set_list))
      (pss_cons (ps_if (pt_cmpR op_gt (pe_ix ix_list (pv 0) pe_int (fun _ _ => rfl)) pe_int (nomark _))
        (pss_cons (ps_asg (pe_callB call_divmod (by rfl) X.divmod (by decide +kernel) (pa_cons (pe_ix ix_list (pv 0) pe_int (fun _ _ => rfl)) (pa_cons (pv 1) pa_nil))) (pg_tup rfl (pgs_cons (pg_sub (pv 0) pe_int set_list) (pgs_cons (pg_name (i := 2) nd rfl (.inl rfl)) pgs_nil))))
          (pss_one (ps_ret (pv 2)))) pss_nil)
      (pss_cons (ps_set (i := 3) nd rfl (.inl rfl) (pe_callTy call_int1 (by rfl) X.int boot_int (pa_cons (pe_ix ix_list (pv 0) pe_int (fun _ _ => rfl)) pa_nil)))
      (pss_cons (ps_asg (pe_op op_mod (pe_callTy call_int1 (by rfl) X.int boot_int (pa_cons (pe_op op_add (pe_op op_add (pe_op op_mul (pv 3) (pe_op op_add (pe_op op_mod (pe_callTy call_int1 (by rfl) X.int boot_int (pa_cons (pv 3) pa_nil)) pe_int) pe_int)) (pe_op op_mul pe_int (pe_ix ix_list (pv 0) pe_int (fun _ _ => rfl)))) pe_int) pa_nil)) pe_int) (pg_sub (pv 0) pe_int set_list))
      (pss_one (ps_ret (pe_op op_mod (pe_callTy call_int1 (by rfl) X.int boot_int (pa_cons (pe_op op_fdiv (pe_ix ix_list (pv 0) pe_int (fun _ _ => rfl)) pe_int) pa_nil)) (pv 1))))))), ?_⟩
    -- spring[2] = spring[2] + 1
    refine ⟨_, rfl, a, _, 2, _, rfl, rfl, sqL ha, rfl, _, _, rfl, rfl, ?_⟩
    refine ⟨_, rfl, a, _, 2, 2, rfl, rfl, ha, rfl, ?_⟩
    have e1 : (upd H a (.lst ([V.int s0, V.int s1, V.int s2].set 2 (V.int (s2 + 1))))) a = some (.lst [.int s0, .int s1, .int (s2 + 1)]) := upd_same
    have k1 := kept_upd a H (.lst ([V.int s0, V.int s1, V.int s2].set 2 (V.int (s2 + 1))))
    refine ⟨_, rfl, a, _, 1, _, rfl, rfl, sqL e1, rfl, _, _, rfl, rfl, _, rfl, ite2 (fun c => ?_) (fun c => ?_)⟩
    · -- divmod
      refine ⟨_, rfl, a, _, 1, _, rfl, rfl, sqL e1, rfl, _, rfl, s1, t, rfl, ⟨t0, t1⟩, fun p np => ?_⟩
      have sp := same_upd (o := HO.tup [.int (s1 / t), .int (s1 % t)]) np
      refine ⟨p, _, rfl, sqT upd_same, rfl, _, _, rfl, ?_⟩
      refine ⟨_, rfl, a, _, 1, 1, rfl, rfl, sp _ _ e1, rfl, ?_⟩
      refine ⟨_, _, rfl, rfl, _, rfl, ?_⟩
      refine q _ _ (Int.emod_nonneg _ (by omega)) (Int.emod_lt_of_pos _ t0) ⟨s0, s1 / t, s2 + 1, upd_same, h0, h1, Int.ediv_nonneg h2 (by omega)⟩ ((k1.trans (Same.kept sp)).trans (kept_upd _ _ _))
    · refine ⟨_, rfl, a, _, 0, _, rfl, rfl, sqL e1, rfl, .inl ⟨_, rfl, ?_⟩⟩
      refine ⟨_, rfl, _, rfl, .inl ⟨_, rfl, _, _, rfl, rfl, by show (0 : Int) < 9973; decide, _, _, rfl, rfl, _, _, rfl, rfl, .inl ⟨by omega, by omega⟩, ?_⟩⟩
      refine ⟨_, rfl, a, _, 2, _, rfl, rfl, sqL e1, rfl, _, _, rfl, rfl, .inl (by decide), _, _, rfl, rfl, _, _, rfl, rfl, .inl ⟨_, rfl, _, _, rfl, rfl, by show (0 : Int) < 2147480951; decide, ?_⟩⟩
      refine ⟨_, rfl, a, _, 0, 0, rfl, rfl, e1, rfl, ?_⟩
      have z0 : 0 ≤ stir s0 s2 := Int.emod_nonneg _ (by decide)
      have z1 : stir s0 s2 < 2147480951 := Int.emod_lt_of_pos _ (by decide)
      have e2 : (upd (upd H a (.lst ([V.int s0, V.int s1, V.int s2].set 2 (V.int (s2 + 1))))) a (.lst ([V.int s0, V.int s1, V.int (s2 + 1)].set 0 (V.int (stir s0 s2))))) a = some (.lst [.int (stir s0 s2), .int s1, .int (s2 + 1)]) := upd_same
      refine ⟨_, rfl, a, [.int (stir s0 s2), .int s1, .int (s2 + 1)], 0, .int (stir s0 s2), rfl, rfl, sqL e2, rfl, _, _, rfl, rfl, ⟨by decide, by decide⟩, .inl ⟨_, rfl, _, rfl, _, _, rfl, rfl, t0, ?_⟩⟩
      exact q _ _ (Int.emod_nonneg _ (by omega)) (Int.emod_lt_of_pos _ t0) ⟨stir s0 s2, s1, s2 + 1, e2, z0, z1, h2⟩ (k1.trans (kept_upd _ _ _))
def spPick : Sp := fun vs H Q _ => ∃ (a l : Addr) (xs : List V), vs = [.ref a, .ref l] ∧ Spr H a ∧ H l = some (.lst xs) ∧ l ≠ a ∧ 1 ≤ xs.length ∧ xs.length ≤ 1000 ∧ ∀ (x : V) H', x ∈ xs → Spr H' a → Kept a H H' → Q x H'
theorem scPick : FnScope ["_law_spring_here", "_law_some"] ["_law_spring_here", "_law_some"] (defScope sPick) := ⟨rfl, rfl, rfl, by decide +kernel, rfl, by decide +kernel, by decide +kernel⟩
theorem cal_pick (D : Df K mg "_law_pick" sPick ["_law_spring_here", "_law_some"]) (X : Txt mg) (c1 : Cal P w K mg base 1 "_law_drop" spDrop []) : Cal P w K mg base 2 "_law_pick" spPick [] := by
  refine D.cal scPick (fun vs H Q E h => ?_) (fun f cdv A outer s H vs Q E hr h => ?_)
  · obtain ⟨a, l, xs, rfl, _⟩ := h
    rfl
  · obtain ⟨a, l, xs, rfl, ha, hl, nla, h1, h2, q⟩ := h
    refine ⟨_, pss_one (ps_ret (pe_ix ix_list (pv 1) (pe_c c1 hr (by decide) (by rfl) (pa_cons (pv 0) (pa_cons (pe_callB call_len_seq (by rfl) X.len PySem.boot_len (pa_cons (pv 1) pa_nil)) pa_nil))) (fun _ _ => rfl))), ?_⟩
    refine ⟨_, rfl, _, rfl, _, rfl, l, xs, rfl, .inl (sqL hl), a, _, rfl, ha, by omega, by omega, fun r H' r0 r1 hs hk => ?_⟩
    obtain ⟨j, hj⟩ := Int.eq_ofNat_of_zero_le r0
    have hjl : j < xs.length := by omega
    exact ⟨l, xs, r, xs[j], rfl, rfl, sqL (hk _ _ nla hl), at_of hj (List.getElem?_eq_getElem hjl), q _ H' (List.getElem_mem hjl) hs hk⟩
end
end KD
set_option Elab.async false
set_option linter.all false
set_option maxRecDepth 100000
set_option autoImplicit false
namespace KD
open PySem PySem.Spec PyProof.Rows L2 KR
open C8 (Cal pe_c pe_gc Mak pe_mk InsC call_isC pss_cut)
open StX (pa_star)
section
variable {P : Program} {w : World} {K : PySem.W.Frag} {mg : Str → Option Value} {base : Heap}
open KM (Ok nt nb fl flz)
/-! ### _law_plan, _law_slope, _law_at -/
def PlanAt (H : Hp) (p : Addr) (L T : List Int) : Prop := ∃ l t, H p = some (.lst [.ref l, .ref t]) ∧ H l = some (IT L) ∧ H t = some (IT T) ∧ Ok L T
theorem PlanAt.same {H H' : Hp} {p : Addr} {L T : List Int} (h : PlanAt H p L T) (s : Same H H') : PlanAt H' p L T := by
  obtain ⟨l, t, e1, e2, e3, ok⟩ := h
  exact ⟨l, t, s _ _ e1, s _ _ e2, s _ _ e3, ok⟩
theorem PlanAt.kept {H H' : Hp} {p a : Addr} {L T : List Int} (h : PlanAt H p L T) (hs : Spr H a) (k : Kept a H H') : PlanAt H' p L T := by
  obtain ⟨l, t, e1, e2, e3, ok⟩ := h
  have np : p ≠ a := by
    obtain ⟨s0, s1, s2, e, _⟩ := hs
    exact ne_of e1 e (by intro z; cases z)
  exact ⟨l, t, k _ _ np e1, k _ _ (hs.ne_tup e2) e2, k _ _ (hs.ne_tup e3) e3, ok⟩
theorem SlopeAt.kept {C x a : Addr} {H H' : Hp} {L T : List Int} (h : SlopeAt C H x L T) (hs : Spr H a) (k : Kept a H H') : SlopeAt C H' x L T := by
  obtain ⟨dx, b, c, d, z, h1, h2, h3, h4, ok⟩ := h
  have np : x ≠ a := by
    obtain ⟨s0, s1, s2, e, _⟩ := hs
    exact ne_of h1 e (by intro z; cases z)
  exact ⟨dx, b, c, d, z, k _ _ np h1, k _ _ (hs.ne_tup h2) h2, k _ _ (hs.ne_tup h3) h3, k _ _ (hs.ne_tup h4) h4, ok⟩
def spPlan : Sp := fun vs H Q _ => ∃ a, vs = [.ref a] ∧ Spr H a ∧ ∀ H' p L T, Spr H' a → Kept a H H' → PlanAt H' p L T → Q (.ref p) H'
theorem scPlan : FnScope ["_law_spring_here", "_law_lead_here", "_law_k"] ["_law_spring_here"] (defScope sPlan) := ⟨rfl, rfl, rfl, by decide +kernel, rfl, by decide +kernel, by decide +kernel⟩
/-- one more drawn part -/
theorem grow {d a : Addr} {H1 H2 H3 : Hp} {M : List Int} {x : Int} (nda : d ≠ a) (hd : H2 d = some (.lst (M.map V.int))) (k1 : Kept a H1 H2) (hs3 : Spr H3 a) (k3 : Kept a H2 H3) :
    H3 d = some (.lst (M.map V.int)) ∧ Spr (upd H3 d (.lst (M.map V.int ++ [V.int x]))) a ∧ (upd H3 d (.lst (M.map V.int ++ [V.int x]))) d = some (.lst ((M ++ [x]).map V.int)) := by
  refine ⟨k3 _ _ nda hd, ?_, ?_⟩
  · obtain ⟨s0, s1, s2, e, r⟩ := hs3
    exact ⟨s0, s1, s2, by rw [upd_ne nda.symm]; exact e, r⟩
  · rw [upd_same, List.map_append]
    rfl
theorem cal_plan (D : Df K mg "_law_plan" sPlan ["_law_spring_here"]) (X : Txt mg) (c1 : Cal P w K mg base 1 "_law_drop" spDrop []) (c2 : Cal P w K mg base 2 "_law_pick" spPick []) : Cal P w K mg base 3 "_law_plan" spPlan [] := by
  refine D.cal scPlan (fun vs H Q E h => ?_) (fun f cdv A outer s H vs Q E hr h => ?_)
  · obtain ⟨a, rfl, _⟩ := h
    rfl
  · obtain ⟨a, rfl, ha, q⟩ := h
    have nd := scPlan.nd
    refine ⟨_, pss_cons (ps_set (i := 1) nd rfl (.inl rfl) (pe_callTy call_tuple_of (by rfl) X.tuple (by decide +kernel) (pa_cons (pe_lc (own := [("_law_k", 2)]) (g := gName 2) rfl nd (pi_range1 (by rfl) X.range (pa_cons (pe_c c1 hr (by decide) (by rfl) (pa_cons (pv 0) (pa_cons pe_int pa_nil))) pa_nil))
        (blkOk_by (N := ["_law_spring_here", "_law_lead_here", "_law_k"]) (sc := defScope sPlan) (by decide +kernel)) (fun _ _ _ _ _ => pg_name (i := 2) nd rfl (Or.inl rfl)) (fun _ _ _ _ _ => pts_nil)
        (fun _ _ _ _ _ => pe_c c2 hr (by decide) (by rfl) (pa_cons (pv 0) (pa_cons (pe_lst (pa_cons pe_int (pa_cons pe_int (pa_cons pe_int (pa_cons pe_int (pa_cons pe_int pa_nil)))))) pa_nil)))) pa_nil)))
      (pss_one (ps_ret (pe_lst (pa_cons (pv 1) (pa_cons (pe_callTy call_tuple_of (by rfl) X.tuple (by decide +kernel) (pa_cons (pe_lc (own := [("_law_k", 2)]) (g := gName 2) rfl nd (pi_range1 (by rfl) X.range (pa_cons (pe_op op_add pe_int (pe_c c1 hr (by decide) (by rfl) (pa_cons (pv 0) (pa_cons pe_int pa_nil)))) pa_nil))
        (blkOk_by (N := ["_law_spring_here", "_law_lead_here", "_law_k"]) (sc := defScope sPlan) (by decide +kernel)) (fun _ _ _ _ _ => pg_name (i := 2) nd rfl (Or.inl rfl)) (fun _ _ _ _ _ => pts_nil)
        (fun _ _ _ _ _ => pe_c c2 hr (by decide) (by rfl) (pa_cons (pv 0) (pa_cons (pe_lst (pa_cons pe_int (pa_cons pe_int (pa_cons pe_int (pa_cons pe_int pa_nil))))) pa_nil)))) pa_nil)) pa_nil))))), ?_⟩
    refine ⟨_, rfl, a, 3, rfl, ha, by decide, by decide, fun r H1 r0 r1 hs1 k1 => ?_⟩
    refine ⟨r, rfl, by omega, by omega, fun d nd1 => ?_⟩
    have nda : d ≠ a := fun e => by
      obtain ⟨o, z⟩ := hs1.some
      rw [← e, nd1] at z
      cases z
    have sd := same_upd (o := HO.lst []) nd1
    refine lc_range (lo := 0) (n := r.toNat) (fun i H' => ∃ M : List Int, M.length = i ∧ (∀ x ∈ M, 1 ≤ x ∧ x ≤ 4) ∧ H' d = some (.lst (M.map V.int)) ∧ Spr H' a ∧ Kept a H1 H') ⟨[], rfl, fun x hx => (nomatch hx), upd_same, hs1.same sd, Same.kept sd⟩ ?_ ?_
    · rintro i H2 hi ⟨M, rfl, hM, hd, hs2, k2⟩
      refine ⟨rfl, _, rfl, by show 5 ≤ sizeLine; decide, fun u nu => ?_⟩
      have su := same_upd (o := HO.lst [.int 1, .int 2, .int 1, .int 3, .int 4]) nu
      have nua : u ≠ a := fun e => by
        obtain ⟨o, z⟩ := hs2.some
        rw [← e, nu] at z
        cases z
      refine ⟨a, u, _, rfl, hs2.same su, upd_same, nua, by decide, by decide, fun x H3 hx hs3 k3 => ?_⟩
      obtain ⟨z, rfl, hz⟩ : ∃ z : Int, x = V.int z ∧ 1 ≤ z ∧ z ≤ 4 := by
        simp only [List.mem_cons, List.not_mem_nil, or_false] at hx
        rcases hx with rfl | rfl | rfl | rfl | rfl <;> exact ⟨_, rfl, by decide, by decide⟩
      have g := grow (x := z) nda (su _ _ hd) (k2.trans (Same.kept su)) hs3 k3
      refine ⟨_, g.1, by rw [List.length_map]; exact small1000 (by omega), M ++ [z], by simp, fun y hy => ?_, g.2.2, g.2.1, fun b o nb e => ?_⟩
      · rcases List.mem_append.mp hy with hy | hy
        · exact hM y hy
        · have : y = z := by simpa using hy
          rw [this]
          exact hz
      · rw [upd_ne (ne_of_none e nd1)]
        exact k3 _ _ nb (su _ _ (k2 _ _ nb e))
    · rintro H2 ⟨L, hL, hpL, hd, hs2, k2⟩
      refine ⟨d, _, rfl, .inl ⟨sqL hd, fun l nl => ?_⟩⟩
      have sl := same_upd (o := HO.tup (L.map V.int)) nl
      have hs3 := hs2.same sl
      have k3 : Kept a H (upd H2 l (.tup (L.map V.int))) := k1.trans (k2.trans (Same.kept sl))
      -- the loop
      refine ⟨_, rfl, ?_⟩
      refine ⟨_, rfl, a, 2, rfl, hs3, by decide, by decide, fun r' H4 r0' r1' hs4 k4 => ?_⟩
      have hl4 : H4 l = some (IT L) := k4 _ _ (hs3.ne_tup upd_same) upd_same
      refine ⟨1, r', rfl, rfl, 1 + r', rfl, by omega, by omega, fun d2 nd2 => ?_⟩
      have nda2 : d2 ≠ a := fun e => by
        obtain ⟨o, z⟩ := hs4.some
        rw [← e, nd2] at z
        cases z
      have sd2 := same_upd (o := HO.lst []) nd2
      refine lc_range (lo := 0) (n := (1 + r').toNat) (fun i H' => ∃ M : List Int, M.length = i ∧ (∀ x ∈ M, 1 ≤ x ∧ x ≤ 4) ∧ H' d2 = some (.lst (M.map V.int)) ∧ Spr H' a ∧ Kept a H4 H') ⟨[], rfl, fun x hx => (nomatch hx), upd_same, hs4.same sd2, Same.kept sd2⟩ ?_ ?_
      · rintro i H5 hi ⟨M, rfl, hM, hd5, hs5, k5⟩
        refine ⟨rfl, _, rfl, by show 4 ≤ sizeLine; decide, fun u nu => ?_⟩
        have su := same_upd (o := HO.lst [.int 1, .int 1, .int 2, .int 3]) nu
        have nua : u ≠ a := fun e => by
          obtain ⟨o, z⟩ := hs5.some
          rw [← e, nu] at z
          cases z
        refine ⟨a, u, _, rfl, hs5.same su, upd_same, nua, by decide, by decide, fun x H6 hx hs6 k6 => ?_⟩
        obtain ⟨z, rfl, hz⟩ : ∃ z : Int, x = V.int z ∧ 1 ≤ z ∧ z ≤ 4 := by
          simp only [List.mem_cons, List.not_mem_nil, or_false] at hx
          rcases hx with rfl | rfl | rfl | rfl <;> exact ⟨_, rfl, by decide, by decide⟩
        have g := grow (x := z) nda2 (su _ _ hd5) (k5.trans (Same.kept su)) hs6 k6
        refine ⟨_, g.1, by rw [List.length_map]; exact small1000 (by omega), M ++ [z], by simp, fun y hy => ?_, g.2.2, g.2.1, fun b o nb e => ?_⟩
        · rcases List.mem_append.mp hy with hy | hy
          · exact hM y hy
          · have : y = z := by simpa using hy
            rw [this]
            exact hz
        · rw [upd_ne (ne_of_none e nd2)]
          exact k6 _ _ nb (su _ _ (k5 _ _ nb e))
      · rintro H5 ⟨T, hT, hpT, hd5, hs5, k5⟩
        refine ⟨d2, _, rfl, .inl ⟨sqL hd5, fun t nt' => ?_⟩⟩
        have st := same_upd (o := HO.tup (T.map V.int)) nt'
        refine ⟨by show 2 ≤ sizeLine; decide, fun p np => ?_⟩
        have sp := same_upd (o := HO.lst [.ref l, .ref t]) np
        have hs6 := (hs5.same st).same sp
        have hl5 := k5 _ _ (hs4.ne_tup hl4) hl4
        refine q _ p L T hs6 (((k3.trans k4).trans k5).trans ((Same.kept st).trans (Same.kept sp))) ⟨l, t, upd_same, sp _ _ (st _ _ hl5), sp _ _ upd_same, ⟨by omega, by omega, by omega, hpL, hpT⟩⟩
def spSlope (C : Addr) : Sp := fun vs H Q _ => ∃ p L T, vs = [.ref p] ∧ PlanAt H p L T ∧ ∀ H' x L' T', Same H H' → SlopeAt C H' x L' T' → (∀ k, 1 ≤ k → KM.part L T k = KM.part L' T' k) → Q (.ref x) H'
theorem scSlope : FnScope ["_law_plan_here"] ["_law_plan_here"] (defScope sSlope) := ⟨rfl, rfl, rfl, by decide +kernel, rfl, by decide +kernel, by decide +kernel⟩
theorem cal_slope {C : Addr} (D : Df K mg "_law_slope" sSlope ["_law_plan_here"]) (c1 : Mak P w K mg base 4 "Slope" C (spInit C) []) : Cal P w K mg base 6 "_law_slope" (spSlope C) [] := by
  refine D.cal (k := 5) scSlope (fun vs H Q E h => ?_) (fun f cdv A outer s H vs Q E hr h => ?_)
  · obtain ⟨p, L, T, rfl, _⟩ := h
    rfl
  · obtain ⟨p, L, T, rfl, ⟨l, t, hp, hl, ht, ok⟩, q⟩ := h
    refine ⟨_, pss_one (ps_ret (pe_mk c1 hr (by decide) (by rfl) (pa_cons (pe_ix ix_list (pv 0) pe_int (fun _ _ => rfl)) (pa_cons (pe_ix ix_list (pv 0) pe_int (fun _ _ => rfl)) pa_nil)))), ?_⟩
    refine ⟨_, rfl, p, _, 0, _, rfl, rfl, sqL hp, rfl, _, rfl, p, _, 1, _, rfl, rfl, sqL hp, rfl, fun x dx nx ndx ne => ?_⟩
    have s0 : Same H (upd (upd H dx (.own x)) x (.ins C dx [])) := fun b o e => by
      rw [upd_ne (ne_of_none e nx), upd_ne (ne_of_none e ndx)]
      exact e
    refine ⟨x, dx, l, t, L, T, rfl, upd_same, s0 _ _ hl, s0 _ _ ht, ok, fun H' L' T' k hx pt => ⟨rfl, q H' x L' T' (fun b o e => k b o (ne_of_none e nx) (s0 _ _ e)) hx pt⟩⟩
def spAt : Sp := fun vs H Q _ => ∃ (p : Addr) (k : Nat) (L T : List Int), vs = [.ref p, .int (k : Int)] ∧ 1 ≤ k ∧ PlanAt H p L T ∧ Q (.int (KM.part L T k)) H
theorem scAt : FnScope ["_law_plan_here", "_law_k", "_law_lead_here", "_law_loop_here"] ["_law_plan_here", "_law_k"] (defScope sAt) := ⟨rfl, rfl, rfl, by decide +kernel, rfl, by decide +kernel, by decide +kernel⟩
theorem cal_at (D : Df K mg "_law_at" sAt ["_law_plan_here", "_law_k"]) (X : Txt mg) : Cal P w K mg base 1 "_law_at" spAt [] := by
  refine D.cal scAt (fun vs H Q E h => ?_) (fun f cdv A outer s H vs Q E hr h => ?_)
  · obtain ⟨p, k, L, T, rfl, _⟩ := h
    rfl
  · obtain ⟨p, k, L, T, rfl, hk, ⟨l, t, hp, hl, ht, ok⟩, q⟩ := h
    have nd := scAt.nd
    refine ⟨_, pss_cons (ps_asg (pv 0) (pg_unl rfl (pgs_cons (pg_name (i := 2) nd rfl (.inl rfl)) (pgs_cons (pg_name (i := 3) nd rfl (.inl rfl)) pgs_nil))))
      (pss_cons (ps_if (pt_cmpR op_le (pv 1) (pe_callB call_len_seq (by rfl) X.len PySem.boot_len (pa_cons (pv 2) pa_nil)) (nomark _)) (pss_one (ps_ret (pe_ix ix_tup (pv 2) (pe_op op_sub (pv 1) pe_int) (fun _ _ => rfl)))) pss_nil)
      (pss_one (ps_ret (pe_ix ix_tup (pv 3) (pe_op op_mod (pe_callTy call_int1 (by rfl) X.int boot_int (pa_cons (pe_op op_sub (pe_op op_sub (pv 1) pe_int) (pe_callB call_len_seq (by rfl) X.len PySem.boot_len (pa_cons (pv 2) pa_nil))) pa_nil)) (pe_callB call_len_seq (by rfl) X.len PySem.boot_len (pa_cons (pv 3) pa_nil))) (fun _ _ => rfl))))), ?_⟩
    refine ⟨_, rfl, p, _, rfl, sqL hp, rfl, _, _, rfl, _, _, rfl, rfl, ?_⟩
    refine ⟨_, rfl, _, rfl, l, _, rfl, .inr (sqT hl), _, _, rfl, rfl, _, rfl, ?_⟩
    have lL : ((L.map V.int).length : Int) = (L.length : Int) := by rw [List.length_map]
    have lT : ((T.map V.int).length : Int) = (T.length : Int) := by rw [List.length_map]
    unfold KM.part at q
    by_cases c : k ≤ L.length
    · rw [if_pos c] at q
      rw [decide_eq_true (show (k : Int) ≤ ((L.map V.int).length : Int) by rw [lL]; omega)]
      refine iteT ⟨_, rfl, _, rfl, _, _, rfl, rfl, l, _, _, _, rfl, rfl, sqT hl, at_ints (j := k - 1) (by omega) (by omega), q⟩
    · rw [if_neg c] at q
      rw [decide_eq_false (show ¬ (k : Int) ≤ ((L.map V.int).length : Int) by rw [lL]; omega)]
      have t0 := ok.t0
      refine iteF ⟨_, rfl, _, rfl, _, _, rfl, rfl, _, rfl, l, _, rfl, .inr (sqT hl), _, _, rfl, rfl, .inl ⟨_, rfl, _, rfl, t, _, rfl, .inr (sqT ht), _, _, rfl, rfl, by rw [lT]; omega, t, _, _, _, rfl, rfl, sqT ht, at_ints (j := (k - 1 - L.length) % T.length) ?_ (Nat.mod_lt _ (by omega)), q⟩⟩
      rw [lL, lT, show (k : Int) - 1 - (L.length : Int) = ((k - 1 - L.length : Nat) : Int) by omega]
      rfl

/-! ### _law_pairs, _law_under -/
def spPairs : Sp := fun vs H Q _ => ∃ p m L T, vs = [.ref p, .int m] ∧ PlanAt H p L T ∧ m ≤ 2 ^ 101 ∧
  ∀ (H' : Hp) (l : Addr) (xs : List V) (r : Addr) (n : Nat), Same H H' → H' l = some (.lst (xs ++ [.ref r])) → Pr H' r (nt (KM.part L T) (2 * n + 1)) (nb (KM.part L T) (2 * n + 1)) → m < nb (KM.part L T) (2 * n + 1) → n ≤ 150 → Q (.ref l) H'
theorem scPairs : FnScope ["_law_plan_here", "_law_most", "_law_found", "_law_k", "_law_a", "_law_p", "_law_q", "_law_near", "_law_low"] ["_law_plan_here", "_law_most"] (defScope sPairs) := ⟨rfl, rfl, rfl, by decide +kernel, rfl, by decide +kernel, by decide +kernel⟩
theorem at_last2 (xs : List V) (u v : V) : atI (xs ++ [u, v]) (-1) = some v ∧ atI (xs ++ [u, v]) (-2) = some u := by
  constructor
  · rw [show xs ++ [u, v] = (xs ++ [u]) ++ [v] by simp]
    exact atI_last _ _
  · have hl : (xs ++ [u, v]).length = xs.length + 2 := by simp
    have e : ixN (xs ++ [u, v]).length (-2) = some xs.length := by
      unfold ixN
      rw [hl, if_neg (by decide), if_pos (by omega)]
      congr 1
      omega
    show (ixN (xs ++ [u, v]).length (-2)).bind _ = _
    rw [e]
    show (xs ++ [u, v])[xs.length]? = _
    rw [List.getElem?_append_right (Nat.le_refl _), Nat.sub_self]
    rfl
theorem tOr_ev {t u : TT} {σ : L2.St} {H : Hp} {b c : Bool} {F : Bool → Hp → Prop} (h1 : ∀ G : Bool → Hp → Prop, G b H → t σ H G) (h2 : ∀ G : Bool → Hp → Prop, G c H → u σ H G) (h : F (b || c) H) : tOr t u σ H F := by
  refine h1 _ ?_
  cases b with
  | true => exact iteT h
  | false => exact iteF (h2 _ h)
theorem cal_pairs (D : Df K mg "_law_pairs" sPairs ["_law_plan_here", "_law_most"]) (X : Txt mg) (c1 : Cal P w K mg base 1 "_law_at" spAt []) : Cal P w K mg base 2 "_law_pairs" spPairs [] := by
  refine D.cal scPairs (fun vs H Q E h => ?_) (fun f cdv A outer s H vs Q E hr h => ?_)
  · obtain ⟨p, m, L, T, rfl, _⟩ := h
    rfl
  · obtain ⟨p, m, L, T, rfl, hp, m1, q⟩ := h
    have nd := scPairs.nd
    have ok : Ok L T := by
      obtain ⟨_, _, _, _, _, ok⟩ := hp
      exact ok
    have pa := ok.parts
    refine ⟨_, pss_cons (ps_par (i := 2) (j := 3) (by rfl) nd rfl rfl (by decide) rfl rfl (pa_cons (pe_lst (pa_cons (pe_tup (pa_cons pe_int (pa_cons pe_int pa_nil))) (pa_cons (pe_tup (pa_cons pe_int (pa_cons (pe_c c1 hr (by decide) (by rfl) (pa_cons (pv 0) (pa_cons pe_int pa_nil))) pa_nil))) pa_nil))) (pa_cons pe_int pa_nil)) (by rfl))
      (pss_cons (ps_while PassesOwn.never (PW.pt (pw_or (pt_cmpR op_eq (pv 3) pe_int (nomark _)) (pw_or (pt_cmpR op_le (pe_ix ix_tup (pe_ix ix_list (pv 2) (pe_un un_neg pe_int) (fun _ _ => rfl)) pe_int (fun _ _ => rfl)) (pv 1) (nomark _))
          (pw_or1 (pt_cmpR op_eq (pe_op op_mod (pe_callTy call_int1 (by rfl) X.int boot_int (pa_cons (pv 3) pa_nil)) pe_int) pe_int (nomark _))))))
        (pss_cons (ps_set (i := 3) nd rfl (.inl rfl) (pe_op op_add (pv 3) pe_int))
        (pss_cons (ps_asg (pe_tup (pa_cons (pe_c c1 hr (by decide) (by rfl) (pa_cons (pv 0) (pa_cons (pv 3) pa_nil))) (pa_cons (pe_ix ix_list (pv 2) (pe_un un_neg pe_int) (fun _ _ => rfl)) (pa_cons (pe_ix ix_list (pv 2) (pe_un un_neg pe_int) (fun _ _ => rfl)) pa_nil))))
          (pg_tup rfl (pgs_cons (pg_name (i := 4) nd rfl (.inl rfl)) (pgs_cons (pg_tup rfl (pgs_cons (pg_name (i := 5) nd rfl (.inl rfl)) (pgs_cons (pg_name (i := 6) nd rfl (.inl rfl)) pgs_nil))) (pgs_cons (pg_tup rfl (pgs_cons (pg_name (i := 7) nd rfl (.inl rfl)) (pgs_cons (pg_name (i := 8) nd rfl (.inl rfl)) pgs_nil))) pgs_nil)))))
        (pss_one (ps_expr (pe_bm PySem.F.plainAttrs_list PySem.F.slot_list_append PySem.F.type_list_append mt_append (pv 2) (pa_cons (pe_tup (pa_cons (pe_op op_add (pe_op op_mul (pv 4) (pv 5)) (pv 7)) (pa_cons (pe_op op_add (pe_op op_mul (pv 4) (pv 6)) (pv 8)) pa_nil))) pa_nil)))))))
      (pss_one (ps_ret (pv 2)))), ?_⟩
    refine ⟨by show 2 ≤ sizeLine; decide, fun r0 n0 => ?_⟩
    have s0 := same_upd (o := HO.tup [.int 0, .int 1]) n0
    refine ⟨_, rfl, p, 1, L, T, rfl, by decide, hp.same s0, by show 2 ≤ sizeLine; decide, fun r1 n1 => ?_⟩
    have s1 := same_upd (o := HO.tup [.int 1, .int (KM.part L T 1)]) n1
    refine ⟨by show 2 ≤ sizeLine; decide, fun l nl => ⟨_, _, rfl, ?_⟩⟩
    have sl := same_upd (o := HO.lst [.ref r0, .ref r1]) nl
    have hlH : H l = none := (s0.trans s1).free nl
    have b2 : nb (KM.part L T) 2 = KM.part L T 1 := by
      show KM.part L T 1 * 1 + 0 = KM.part L T 1
      omega
    have t2 : nt (KM.part L T) 2 = 1 := by
      show KM.part L T 1 * 0 + 1 = 1
      omega
    refine ⟨fun μ σ H' => ∃ (k : Nat) (xs : List V) (ra rb : Addr) (y4 y5 y6 y7 y8 : Option V), μ = 300 - k ∧ σ = [some (.ref p), some (.int m), some (.ref l), some (.int (k : Int)), y4, y5, y6, y7, y8] ∧ Same H H' ∧ H' l = some (.lst (xs ++ [.ref ra, .ref rb])) ∧ xs.length + 1 = k ∧
        Pr H' ra (nt (KM.part L T) k) (nb (KM.part L T) k) ∧ Pr H' rb (nt (KM.part L T) (k + 1)) (nb (KM.part L T) (k + 1)) ∧ k ≤ 206,
      ⟨_, 1, [], r0, r1, none, none, none, none, none, rfl, rfl, (s0.trans s1).trans sl, upd_same, rfl, sl _ _ (s1 _ _ upd_same), ?_, by decide⟩, fun μ σ H' hW => ?_⟩
    · show (upd _ l _) r1 = some (.tup [.int (nt (KM.part L T) 2), .int (nb (KM.part L T) 2)])
      rw [t2, b2]
      exact sl _ _ upd_same
    obtain ⟨k, xs, ra, rb, y4, y5, y6, y7, y8, rfl, rfl, sm, hl, hlen, hra, hrb, hk⟩ := hW
    have la := at_last2 xs (.ref ra) (.ref rb)
    have kpos : 1 ≤ k := by omega
    refine tOr_ev (b := decide (V.int (k : Int) = V.int 1)) (c := decide (nb (KM.part L T) (k + 1) ≤ m) || decide (V.int ((k : Int) % 2) = V.int 1)) (fun G g => ⟨_, rfl, rfl, _, rfl, g⟩) (fun G g => ?_) ?_
    · exact tOr_ev (b := decide (nb (KM.part L T) (k + 1) ≤ m)) (c := decide (V.int ((k : Int) % 2) = V.int 1)) (fun G g => ⟨_, rfl, 1, rfl, l, _, -1, _, rfl, rfl, sqL hl, la.1, rb, _, 1, _, rfl, rfl, sqT hrb, rfl, _, rfl, _, _, rfl, rfl, _, rfl, g⟩)
        (fun G g => ⟨_, rfl, .inl ⟨_, rfl, _, _, rfl, rfl, by show (0 : Int) < 2; decide, rfl, _, rfl, g⟩⟩) g
    refine ite2 (fun go => ?_) (fun stop => ?_)
    · have hk1 : k + 1 ≤ 206 := by
        simp only [Bool.or_eq_true, decide_eq_true_eq] at go
        rcases go with e | e | e
        · have := V.int.inj e
          omega
        · have := KM.place_small pa (k := k + 1) (B := m) (by have := two102; omega) e
          omega
        · have := V.int.inj e
          omega
      refine ⟨fun σ' H2 => ∃ (xs : List V) (ra rb : Addr) (y4 y5 y6 y7 y8 : Option V), σ' = [some (.ref p), some (.int m), some (.ref l), some (.int ((k : Int) + 1)), y4, y5, y6, y7, y8] ∧ Same H H2 ∧ H2 l = some (.lst (xs ++ [.ref ra, .ref rb])) ∧ xs.length + 1 = k + 1 ∧
          Pr H2 ra (nt (KM.part L T) (k + 1)) (nb (KM.part L T) (k + 1)) ∧ Pr H2 rb (nt (KM.part L T) (k + 2)) (nb (KM.part L T) (k + 2)), fun σ' H2 hN => ?_, ?_⟩
      · obtain ⟨xs', ra', rb', z4, z5, z6, z7, z8, e, g⟩ := hN
        exact ⟨300 - (k + 1), by omega, k + 1, xs', ra', rb', z4, z5, z6, z7, z8, rfl, e, g.1, g.2.1, g.2.2.1, g.2.2.2.1, g.2.2.2.2, hk1⟩
      · refine ⟨_, rfl, _, _, rfl, rfl, ?_⟩
        refine ⟨_, rfl, _, rfl, p, k + 1, L, T, rfl, by omega, hp.same sm, ?_⟩
        refine ⟨_, rfl, 1, rfl, l, _, -1, _, rfl, rfl, sqL hl, la.1, _, rfl, 2, rfl, l, _, -2, _, rfl, rfl, sqL hl, la.2, by show 3 ≤ sizeLine; decide, fun p3 n3 => ?_⟩
        have s3 := same_upd (o := HO.tup [.int (KM.part L T (k + 1)), .ref rb, .ref ra]) n3
        refine ⟨p3, _, rfl, sqT upd_same, rfl, _, _, rfl, _, _, rfl, ⟨rb, _, rfl, sqT (s3 _ _ hrb), rfl, _, _, rfl, _, _, rfl, rfl, _, _, rfl, ⟨ra, _, rfl, sqT (s3 _ _ hra), rfl, _, _, rfl, _, _, rfl, rfl, rfl, ?_⟩⟩⟩
        have ap := ok.part4 (show 1 ≤ k + 1 by omega)
        have cm : ∀ z : Int, CMul (KM.part L T (k + 1)) z := fun z => .inl ⟨by omega, by omega⟩
        refine ⟨_, rfl, .inl ⟨rfl, _, sqL (s3 _ _ hl)⟩, _, rfl, _, rfl, _, _, rfl, rfl, cm _, _, rfl, _, _, rfl, rfl, _, rfl, _, rfl, _, _, rfl, rfl, cm _, _, rfl, _, _, rfl, rfl, by show 2 ≤ sizeLine; decide, fun p2 n2 => ?_⟩
        have s2 := same_upd (o := HO.tup [.int (KM.part L T (k + 1) * nt (KM.part L T) (k + 1) + nt (KM.part L T) k), .int (KM.part L T (k + 1) * nb (KM.part L T) (k + 1) + nb (KM.part L T) k)]) n2
        have hl2 := s2 _ _ (s3 _ _ hl)
        have nrb : rb ≠ l := ne_of (s2 _ _ (s3 _ _ hrb)) hl2 (by intro z; cases z)
        have np2 : p2 ≠ l := ne_of upd_same hl2 (by intro z; cases z)
        refine ⟨l, _, _, rfl, rfl, hl2, ?_, ?_⟩
        · rw [List.length_append]
          exact small1000 (by show xs.length + 2 ≤ 1000; omega)
        · refine ⟨xs ++ [.ref ra], rb, p2, _, _, _, _, _, rfl, fun c o e => ?_, ?_, by simp; omega, ?_, ?_⟩
          · rw [upd_ne (ne_of_none e hlH)]
            exact s2 _ _ (s3 _ _ (sm _ _ e))
          · rw [upd_same]
            simp
          · show (upd _ l _) rb = _
            rw [upd_ne nrb]
            exact s2 _ _ (s3 _ _ hrb)
          · show (upd _ l _) p2 = _
            rw [upd_ne np2, upd_same]
            rfl
    · simp only [Bool.or_eq_true, decide_eq_true_eq, not_or] at stop
      obtain ⟨e1, e2, e3⟩ := stop
      have e3' : ¬ ((k : Nat) : Int) % 2 = 1 := fun z => e3 (by rw [z])
      obtain ⟨n, hn⟩ : ∃ n, k = 2 * n := ⟨k / 2, by omega⟩
      subst hn
      exact ⟨_, rfl, q H' l (xs ++ [.ref ra]) rb n sm (by rw [hl]; simp) hrb (by omega) (by omega)⟩
end
end KD
set_option Elab.async false
set_option linter.all false
set_option maxRecDepth 100000
set_option autoImplicit false
namespace KD
open PySem PySem.Spec PyProof.Rows L2 KR
open C8 (Cal pe_c pe_gc Mak pe_mk InsC call_isC pss_cut)
open StX (pa_star)
section
variable {P : Program} {w : World} {K : PySem.W.Frag} {mg : Str → Option Value} {base : Heap}
open KM (Ok nt nb fl flz)
/-! ### _law_under -/
def spUnder : Sp := fun vs H Q _ => ∃ (r : Addr) (m : Int) (a : Nat → Int) (n : Nat), vs = [.ref r, .int m] ∧ Pr H r (nt a (2 * n + 1)) (nb a (2 * n + 1)) ∧ KM.Parts a ∧ -(nb a (2 * n + 1)) ≤ m ∧ m ≤ nb a (2 * n + 1) ∧ -(2 ^ 101) ≤ m ∧ m ≤ 2 ^ 101 ∧ n ≤ 150 ∧ Q (.int (flz a m)) H
theorem scUnder : FnScope ["_law_pair", "_law_m"] ["_law_pair", "_law_m"] (defScope sUnder) := ⟨rfl, rfl, rfl, by decide +kernel, rfl, by decide +kernel, by decide +kernel⟩
theorem cal_under (D : Df K mg "_law_under" sUnder ["_law_pair", "_law_m"]) : Cal P w K mg base 1 "_law_under" spUnder [] := by
  refine D.cal scUnder (fun vs H Q E h => ?_) (fun f cdv A outer s H vs Q E hr h => ?_)
  · obtain ⟨r, m, a, n, rfl, _⟩ := h
    rfl
  · obtain ⟨r, m, a, n, rfl, hp, pa, b0, b1, m0, m1, hn, q⟩ := h
    refine ⟨_, pss_one (ps_ret (pe_ifExp (pt_cmpR op_ge (pv 1) pe_int (nomark _))
      (pe_op op_fdivW (pe_op op_mulW (pv 1) (pe_ix ix_tup (pv 0) pe_int (fun _ _ => rfl))) (pe_ix ix_tup (pv 0) pe_int (fun _ _ => rfl)))
      (pe_op op_sub (pe_un un_neg pe_int) (pe_op op_fdivW (pe_op op_mulW (pe_op op_sub pe_int (pv 1)) (pe_ix ix_tup (pv 0) pe_int (fun _ _ => rfl))) (pe_ix ix_tup (pv 0) pe_int (fun _ _ => rfl)))))), ?_⟩
    refine ⟨_, rfl, _, _, rfl, rfl, _, rfl, ?_⟩
    have mono := KM.nb_mono pa (2 * n)
    have nn := KM.nb_nn pa (2 * n)
    unfold flz at q
    by_cases hm : m < 0
    · rw [if_pos hm] at q
      rw [decide_eq_false (show ¬ 0 ≤ m by omega)]
      have e : (0 - m) * nt a (2 * n + 1) / nb a (2 * n + 1) = fl a (-m) := by
        rw [show (0 : Int) - m = -m by omega]
        exact KM.fl_at pa n (by omega) (by omega)
      refine iteF ⟨1, rfl, _, rfl, _, _, rfl, rfl, _, rfl, r, _, 0, _, rfl, rfl, sqT hp, rfl, 0 - m, _, rfl, rfl, mul_ok pa (by omega) (by omega) (by omega), _, rfl, r, _, 1, _, rfl, rfl, sqT hp, rfl, _, _, rfl, rfl, div_ok pa (by omega), -1, _, rfl, rfl, ?_⟩
      rw [e]
      exact q
    · rw [if_neg hm] at q
      rw [decide_eq_true (show 0 ≤ m by omega)]
      have e : m * nt a (2 * n + 1) / nb a (2 * n + 1) = fl a m := KM.fl_at pa n (by omega) (by omega)
      refine iteT ⟨_, rfl, _, rfl, r, _, 0, _, rfl, rfl, sqT hp, rfl, m, _, rfl, rfl, mul_ok pa (by omega) (by omega) (by omega), _, rfl, r, _, 1, _, rfl, rfl, sqT hp, rfl, _, _, rfl, rfl, div_ok pa (by omega), ?_⟩
      show Q (V.int (m * nt a (2 * n + 1) / nb a (2 * n + 1))) H
      rw [e]
      exact q

/-! ### _law_row -/
/-- what the bell rings on the days from -12 to 12, as signs -/
def signs (a : Nat → Int) : List Str := (List.range 25).map fun j => strI (flz a (-12 + ((j + 1 : Nat) : Int)) - flz a (-12 + (j : Int)))
def rowS (a : Nat → Int) : Str := Txt.join (Str.ofString "") (signs a)
theorem sign_len {a : Nat → Int} (pa : KM.Parts a) (j : Nat) : (strI (flz a (-12 + ((j + 1 : Nat) : Int)) - flz a (-12 + (j : Int)))).length = 1 ∧ (flz a (-12 + ((j + 1 : Nat) : Int)) - flz a (-12 + (j : Int))).natAbs.log2 < 1920 := by
  have h := KM.flz_step pa (-12 + (j : Int))
  have e : -12 + (j : Int) + 1 = -12 + ((j + 1 : Nat) : Int) := by omega
  rw [e] at h
  have : flz a (-12 + ((j + 1 : Nat) : Int)) - flz a (-12 + (j : Int)) = 0 ∨ flz a (-12 + ((j + 1 : Nat) : Int)) - flz a (-12 + (j : Int)) = 1 := by omega
  rcases this with e | e <;> rw [e] <;> exact ⟨by decide +kernel, by decide⟩
theorem signs_sum {a : Nat → Int} (pa : KM.Parts a) : ((signs a).map (·.length)).sum + (signs a).length * (Str.ofString "").length ≤ 16777216 := by
  have e : (signs a).map (·.length) = (List.range 25).map fun _ => 1 := by
    unfold signs
    rw [List.map_map]
    exact List.map_congr_left fun j _ => (sign_len pa j).1
  rw [e, show (Str.ofString "").length = 0 from rfl, Nat.mul_zero]
  decide
def spRow : Sp := fun vs H Q _ => ∃ p L T, vs = [.ref p, .int (-12), .int 25] ∧ PlanAt H p L T ∧ ∀ H', Same H H' → Q (.str (rowS (KM.part L T))) H'
theorem scRow : FnScope ["_law_plan_here", "_law_begin", "_law_size", "_law_pair", "_law_wholes", "_law_m", "_law_k"] ["_law_plan_here", "_law_begin", "_law_size"] (defScope sRow) := ⟨rfl, rfl, rfl, by decide +kernel, rfl, by decide +kernel, by decide +kernel⟩
theorem cal_row (D : Df K mg "_law_row" sRow ["_law_plan_here", "_law_begin", "_law_size"]) (X : Txt mg) (c1 : Cal P w K mg base 2 "_law_pairs" spPairs []) (c2 : Cal P w K mg base 1 "_law_under" spUnder []) : Cal P w K mg base 3 "_law_row" spRow [] := by
  refine D.cal scRow (fun vs H Q E h => ?_) (fun f cdv A outer s H vs Q E hr h => ?_)
  · obtain ⟨p, L, T, rfl, _⟩ := h
    rfl
  · obtain ⟨p, L, T, rfl, hp, q⟩ := h
    have nd := scRow.nd
    have ok : Ok L T := by
      obtain ⟨_, _, _, _, _, ok⟩ := hp
      exact ok
    have pa := ok.parts
    generalize ha : KM.part L T = a at *
    refine ⟨_, pss_cons (ps_set (i := 3) nd rfl (.inr rfl) (pe_ix ix_list (pe_c c1 hr (by decide) (by rfl) (pa_cons (pv 0) (pa_cons (pe_op op_add (pe_op op_add (pe_callB call_abs (by rfl) X.abs (by decide +kernel) (pa_cons (pv 1) pa_nil)) (pv 2)) pe_int) pa_nil))) (pe_un un_neg pe_int) (fun _ _ => rfl)))
      (pss_cons (ps_set (i := 4) nd rfl (.inr rfl) (pe_lc (own := [("_law_m", 5)]) (g := gName 5) rfl nd (pi_range2 (by rfl) X.range (pa_cons (pv 1) (pa_cons (pe_op op_add (pe_op op_add (pv 1) (pv 2)) pe_int) pa_nil)))
        (blkOk_by (N := ["_law_plan_here", "_law_begin", "_law_size", "_law_pair", "_law_wholes", "_law_m", "_law_k"]) (sc := defScope sRow) (by decide +kernel)) (fun _ _ _ _ _ => pg_name (i := 5) nd rfl (Or.inl rfl)) (fun _ _ _ _ _ => pts_nil)
        (fun _ _ _ _ _ => pe_c c2 hr (by decide) (by rfl) (pa_cons (pv 3) (pa_cons (pv 5) pa_nil)))))
      (pss_one (ps_ret (pe_join pe_str (pe_lc (own := [("_law_k", 6)]) (g := gName 6) rfl nd (pi_range1 (by rfl) X.range (pa_cons (pv 2) pa_nil))
        (blkOk_by (N := ["_law_plan_here", "_law_begin", "_law_size", "_law_pair", "_law_wholes", "_law_m", "_law_k"]) (sc := defScope sRow) (by decide +kernel)) (fun _ _ _ _ _ => pg_name (i := 6) nd rfl (Or.inl rfl)) (fun _ _ _ _ _ => pts_nil)
        (fun _ _ _ _ _ => pe_callTy call_str_int (by rfl) X.str (by decide +kernel) (pa_cons (pe_op op_sub (pe_ix (r := rIxL K) ix_list (pv 4) (pe_op op_add (pv 6) pe_int) (fun _ _ => rfl)) (pe_ix (r := rIxL K) ix_list (pv 4) (pv 6) (fun _ _ => rfl))) pa_nil))))))), ?_⟩
    refine ⟨_, rfl, _, rfl, -12, rfl, _, rfl, 12, 25, rfl, rfl, 37, 1, rfl, rfl, p, 38, L, T, rfl, hp, by decide, fun H1 l xs r n s1 hl hr1 hm hn => ?_⟩
    rw [ha] at hr1 hm
    refine ⟨1, rfl, l, _, -1, _, rfl, rfl, sqL hl, atI_last _ _, ?_⟩
    -- the whole parts
    refine ⟨_, rfl, _, rfl, _, rfl, -12, 25, rfl, rfl, 13, 1, rfl, rfl, -12, 14, rfl, by decide, fun d nd1 => ?_⟩
    refine lc_range (lo := -12) (n := (14 - (-12) : Int).toNat) (fun i H' => Same H1 H' ∧ H' d = some (.lst ((List.range i).map fun j : Nat => V.int (flz a (-12 + (j : Int))))) ∧ i ≤ 26) ⟨same_upd nd1, upd_same, by decide⟩ ?_ ?_
    · rintro i H2 hi ⟨sm, hd, _⟩
      have hi26 : i < 26 := hi
      refine ⟨rfl, _, rfl, _, rfl, r, -12 + (i : Int), a, n, rfl, sm _ _ hr1, pa, by omega, by omega, by have : (100 : Int) ≤ 2 ^ 101 := by decide
                                                                                                         omega, by have : (100 : Int) ≤ 2 ^ 101 := by decide
                                                                                                                   omega, hn, _, hd, ?_, fun b o e => ?_, ?_, hi26⟩
      · rw [List.length_map, List.length_range]
        exact small1000 (by omega)
      · rw [upd_ne (ne_of_none e nd1)]
        exact sm b o e
      · rw [upd_same, List.range_succ, List.map_append]
        rfl
    · rintro H2 ⟨sm, hd, _⟩
      have hd' : H2 d = some (.lst ((List.range 26).map fun j : Nat => V.int (flz a (-12 + (j : Int))))) := hd
      refine ⟨⟨_, rfl⟩, _, rfl, 25, rfl, by decide, by decide, fun e0 ne0 => ?_⟩
      refine lc_range (lo := 0) (n := (25 : Int).toNat) (fun i H' => Same H2 H' ∧ H' e0 = some (.lst ((List.range i).map fun j : Nat => V.str (strI (flz a (-12 + ((j + 1 : Nat) : Int)) - flz a (-12 + (j : Int)))))) ∧ i ≤ 25) ⟨same_upd ne0, upd_same, by decide⟩ ?_ ?_
      · rintro i H3 hi ⟨sm3, he, _⟩
        have hi25 : i < 25 := hi
        have g : ∀ (j : Nat) (z : Int), j < 26 → z = (j : Int) → atI ((List.range 26).map fun j : Nat => V.int (flz a (-12 + (j : Int)))) z = some (V.int (flz a (-12 + (j : Int)))) := fun j z hj ez => by
          refine at_of ez ?_
          rw [List.getElem?_map, List.getElem?_range hj]
          rfl
        refine ⟨rfl, _, rfl, _, rfl, 0 + (i : Int), 1, rfl, rfl, d, _, _, _, rfl, rfl, sqL (sm3 _ _ hd'), g (i + 1) _ (by omega) (by omega), _, rfl, _, rfl, d, _, _, _, rfl, rfl, sqL (sm3 _ _ hd'), g i _ (by omega) (by omega), _, _, rfl, rfl, _, rfl, (sign_len pa i).2, _, he, ?_, fun b o e => ?_, ?_, hi25⟩
        · rw [List.length_map, List.length_range]
          exact small1000 (by omega)
        · rw [upd_ne (ne_of_none e ne0)]
          exact sm3 b o e
        · rw [upd_same, List.range_succ, List.map_append]
          rfl
      · rintro H3 ⟨sm3, he, _⟩
        have he' : H3 e0 = some (.lst ((signs a).map V.str)) := by
          unfold signs
          rw [List.map_map]
          exact he
        exact ⟨_, e0, signs a, rfl, rfl, .inl (sqL he'), signs_sum pa, q H3 ((s1.trans sm).trans sm3)⟩
end
end KD
set_option Elab.async false
set_option linter.all false
set_option maxRecDepth 100000
set_option autoImplicit false
/-! Defs that run where nothing is being shown (guards = some []): repr of a list of truth values, such a def's promise, its call, the law's end. -/
namespace KG
open PySem PySem.Spec PyProof.Rows L2
/-! ### repr of a list of two truth values -/
def shown2 (b c : Bool) : Str := (PyData.list [.bool b, .bool c]).shown
theorem shown2_len (b c : Bool) : (shown2 b c).length ≤ sizeLine := by
  have h : (shown2 b c).length ≤ 100 := by
    cases b <;> cases c <;> decide +kernel
  exact Nat.le_trans h (by decide)
theorem call_repr2 {X : Cx} (quiet : X.A.guards = some []) (room : X.A.units + 64 < cLine) :
    CallR X (.builtin "repr") (fun xs H Q => ∃ (a : Addr) (b c : Bool), xs = [.ref a] ∧ SqL X.K H a [.bl b, .bl c] ∧ Q (.str (shown2 b c)) H) := by
  intro pins s σ H xs us Q I r h
  obtain ⟨a, b, c, rfl, hL, q⟩ := h
  obtain ⟨u, rfl, ru⟩ := vals1 r
  cases ru
  obtain ⟨as, rd⟩ := Dp.reads I (.list [.bool b, .bool c]) (.ref a) (.ref a) (.lst hL (.cons (.bl b) (.cons (.bl c) .nil))) rfl
  have deep : (PyData.list [.bool b, .bool c]).depth + 1 ≤ 64 := by
    cases b <;> cases c <;> decide +kernel
  exact repr_of_reads' rd rfl (PyData.noDict_hsm rfl) quiet (by omega) (fun _ _ e => e)
    (fun h' u tk keep => ⟨.str (shown2 b c), H, I.kept (t' := tk) keep, ⟨u, rfl⟩, q⟩) (shown2_len b c)

/-! ### a promise for quiet surroundings -/
structure FnG (P : Program) (w : World) (K : PySem.W.Frag) (mg : Str → Option Value) (base : Heap) (k : Nat) (f : Addr) (fd : FuncData) (ps : List Str) (sp : Sp) : Prop where
  len : ∀ vs H Q E, sp vs H Q E → vs.length = ps.length
  go : ∀ (A : Around) (fr : List Env) (s : Shared) (H : Hp) (args : Args) (us : List Value) (vs : List V) (Q : VK) (E : XK), A.guards = some [] → Room k A → Env0 P w K mg base A fr s H →
    BindsTo s fd args (ps.zip us) → Vals vs us → sp vs H Q E → codeAny (model P w) A (.call (.ref f) args) (CR CX0 fr P w H s Q E) s
section
variable {P : Program} {w : World} {K : PySem.W.Frag} {mg : Str → Option Value} {base : Heap}
/-- from the body -/
theorem FnG.of {x : Str} {st : Stmt} {f : Addr} {fd : FuncData} {N ps : List Str} {k : Nat} {sp : Sp} (F : Fun K x x st f fd) (S : FnScope N ps (defScope st)) (len : ∀ vs H Q E, sp vs H Q E → vs.length = ps.length)
    (body : ∀ (cd : Value) (A : Around) (fr : List Env) (s : Shared) (H : Hp) (vs : List V) (Q : VK) (E : XK), A.guards = some [] → Room k (A.deeper (envOfC x (defScope st) s.heap.objs.size f cd)) → sp vs H Q E →
      ∃ t, PSs (cxOf CX0 P w K mg base N x (defScope st) f cd A fr s H E).nox (defBody st) t ∧ t { nx := fun _ H' => Q .non H', rt := Q } (start N vs) H) : FnG P w K mg base (k + 1) f fd ps sp := by
  obtain ⟨oc, od, kV, doc, pm, an, cd, ct, sl, rfl, look, code⟩ := F.ex
  refine ⟨len, fun A fr s H args us vs Q E quiet room e0 bind rv hs => ?_⟩
  have grown : ∀ b o, base.get? b = some o → s.heap.get? b = some o := fun b o e => (e0.bs b o e).1
  have inK := e0.mod.kin.keeps grown
  have places : ∀ y ∈ ps.zip us, (defScope st).names.lookup y.1 = some .local ∨ ((defScope st).names.lookup y.1 = some .cell ∧ ((cellsFrom (s.heap.objs.size + 1) (defScope st).names []).lookup y.1).isSome = true) := by
    rintro ⟨n, v⟩ hy
    rcases S.par n (List.of_mem_zip hy).1 with z | z
    · exact Or.inl z
    · exact Or.inr ⟨z, PySem.W.cellsFrom_some _ _ _ (Or.inl z)⟩
  refine codeAny_call_function room.depth (inK _ _ look) rfl S.co S.gen rfl (PySem.W.codeRec_of inK code) (bind _ _ _ _ (wpAny_newFunctionEnv_cells S.kind places fun env ee s1 x => ?_))
  subst ee
  refine ⟨(e0.mod.nolimit.keeps grown).keeps x.toInCall.keep, codeAny_func ?_⟩
  obtain ⟨t, ht, hq⟩ := body cd A fr s H vs Q E quiet (room.deeper _) hs
  have start0 := inv_start (E := E) (CX := CX0) S room.hd e0 (len _ _ _ _ hs) rv x
  refine wpAny_mono (ht.nox.run [] s1 (start N vs) H _ start0 hq) (fun fl s' out => ?_) fun e s' out => out
  match fl, out with
  | .ret u, ⟨v, σ', H', J, r, q⟩ => exact ⟨v, H', J.os, J.bare, J.base, J.hok, r, q⟩
  | .next, ⟨σ', H', J, q⟩ => exact ⟨V.non, H', J.os, J.bare, J.base, J.hok, rfl, q⟩
  | .brk, ⟨_, _, _, q⟩ => exact q.elim
  | .cont, ⟨_, _, _, q⟩ => exact q.elim
/-- a def of the module that may be called by its name in quiet surroundings -/
structure CalG (P : Program) (w : World) (K : PySem.W.Frag) (mg : Str → Option Value) (base : Heap) (k : Nat) (x : Str) (sp : Sp) : Prop where
  ex : ∃ (f : Addr) (fd : FuncData) (ps : List Str), FnG P w K mg base k f fd ps sp ∧ mg x = some (.ref f) ∧ PySem.W.keepIn K (.ref f) = true ∧ Binds K fd ps []
end
section
variable {X : Cx} {k j : Nat} {x : Str} {sp : Sp} {p pos : Pos} {e : Expr} {es : List Expr} {t : TA}
theorem pe_cG (c : CalG X.prog X.w X.K X.mg X.base k x sp) (quiet : X.A.guards = some []) (hr : Room j X.A) (hk : k ≤ j) (hg : Gl X x) (ha : PA X (e :: es) t)
    (nodebug : (x == ("__debug__" : Str)) = false := by decide) (lone : starEach (e :: es) X.env = (false, eval e X.env) :: starEach es X.env := by rfl) (nostar : (backTo pos (starEach es X.env)).any (·.1) = false := by rfl) :
    PE X (.Call (.Name x p) (e :: es) [] pos) (tCall sp [] E0 t) := by
  obtain ⟨f, fd, ps, F, hm, kp, b⟩ := c.ex
  constructor
  intro pins s σ H Q I h
  refine wpAny_Call_Name_kw (ld_glob I hg hm (PySem.W.callWith_K (h₀ := X.base) I.ok.mod.kin kp (thn (ha.run pos pins s σ H _ I h) fun us s1 args => ?_) lone nostar) nodebug)
  obtain ⟨vs, H1, I1, r, q⟩ := args
  refine ⟨I1.kIn, ?_⟩
  rw [List.append_nil] at q
  have n := F.len _ _ _ _ q
  have bound := b s1 us I1.kIn (by rw [List.append_nil, ← r.length]; exact n)
  rw [List.append_nil] at bound
  refine wpAny_call (codeAny_mono (F.go X.A X.stack s1 H1 ⟨us, []⟩ us vs Q E0 quiet (hr.mono hk) I1.env0 bound r q) fun res s' out => ?_)
  match res, out with
  | .ok (.ret u), out => exact I1.after out
  | .ok .next, out => exact out.elim
  | .ok .brk, out => exact out.elim
  | .ok .cont, out => exact out.elim
  | .error z, out => exact out.elim
end
end KG
set_option Elab.async false
set_option linter.all false
set_option maxRecDepth 100000
set_option autoImplicit false
/-! The end of a law whose def runs in quiet surroundings. -/
namespace KG
open PySem PySem.Spec PyProof.Rows L2
section
variable {P : Program} {w : World} {K : PySem.W.Frag} {mg mb : Str → Option Value} {k : Nat} {fa a : Addr} {fd : FuncData} {x : Str} {sp : Sp} {z : Shared} {vs : List Value}
/-- the law's call from an abstract heap H in which at most the script is tracked, locked -/
theorem law_go (inK : K.In z.heap) (names : z.heap.Ns mainGlobals mg) (blt : z.heap.Ns builtinsNs mb) (std : ∀ y : Str, y ≠ "__name__" → mb y = bootBuiltins y) (free : z.heap.NoLimit) (nogen : z.gens = #[])
    (obj : z.heap.get? a = some { cls := .type "list", data := .seq vs.toArray }) (room : Room k callerA) (F : ∀ base : Heap, K.In base → base.Ns mainGlobals mg → FnG P w K mg base k fa fd [x] sp)
    (bind : ∀ (s : Shared) (u : Value), BindsTo s fd ⟨[u], []⟩ [(x, u)]) (H : Hp) (only : ∀ b u, H b = some u → b = a ∧ ∃ ob xs, u = HO.frz ob (.lst xs)) (apart : H a ≠ none → K.lookup a = none) (holds : HOk P w H z.heap)
    (told : sp [.ref a] H (fun v _ => v = .bl true) fun _ _ _ => False) :
    codeAny (model P w) callerA (.call (.ref fa) ⟨[.ref a], []⟩) (fun r s' => r = .ok (.ret (.bool true)) ∧ OldK z.heap s'.heap ∧ s'.os = z.os ∧ AllBare s'.gens) z := by
  have dicts : ∀ {b : Addr} {m : Str → Option Value}, z.heap.Ns b m → (hidT z.heap H).Ns b m := by
    rintro b m ⟨o, es, ep, at_, data, rest⟩
    refine ⟨o, es, ep, hidT_get at_ ?_, data, rest⟩
    rcases e : H b with _ | u
    · rfl
    · obtain ⟨rfl, _⟩ := only b u e
      rw [obj] at at_
      cases at_
      exact nomatch (show Data.seq vs.toArray _ = Data.dict es ep from data)
  have written : K.In (hidT z.heap H) := by
    intro b o e
    refine hidT_get (inK b o e) ?_
    rcases q : H b with _ | u
    · rfl
    · obtain ⟨rfl, _⟩ := only b u q
      rw [apart (by rw [q]; exact Option.some_ne_none u)] at e
      cases e
  have mod : Mod K mg (hidT z.heap H) := by
    obtain ⟨mc, f1, f2⟩ := free
    exact ⟨written, dicts names, ⟨mb, dicts blt, std⟩, ⟨mc, dicts f1, f2⟩⟩
  have none0 : ∀ b : Addr, ¬ b ∈ frs ([] : List Env) := fun b => List.not_mem_nil
  have env0 : Env0 P w K mg (hidT z.heap H) callerA [] z H := ⟨rfl, mod, fun b o e => of_hidT e, Nat.le_of_eq (hidT_size _ _), trivial, fun b m => (none0 b m).elim, holds, .of_eq nogen⟩
  refine codeAny_mono ((F _ written mod.glob).go callerA [] z H ⟨[.ref a], []⟩ [.ref a] [.ref a] _ _ rfl room env0 (bind z (.ref a)) (.cons rfl .nil) told) fun r s' out => ?_
  match r, out with
  | .ok .next, out => exact out.elim
  | .ok .brk, out => exact out.elim
  | .ok .cont, out => exact out.elim
  | .error y, out => exact out.elim
  | .ok (.ret u), ⟨v, H', os, bare, un, holds', rel, e⟩ =>
    have e' : v = .bl true := e
    subst e'
    cases rel
    refine ⟨rfl, OldK.of_keep fun b o at_ => ?_, os, bare⟩
    rcases q : H b with _ | u
    · exact un.keep b o at_ q (none0 b) List.not_mem_nil
    · obtain ⟨rfl, ob, xs, rfl⟩ := only b u q
      have before := (holds _ _ q).1
      have after := (holds' _ _ (un.frzs _ ob _ q)).1
      rw [at_] at before
      cases before
      exact after
end
/-- the goal that the head leaves, from the promise of the law's def -/
theorem walkG {l : PySem.W.OpenLaw} {n k : Nat} {text : Program} {loose : List Str} {XP : (Str → Option Value) → Heap → Prop} {YP : World → Heap → Prop} {d : DefRec} {K : Params → PySem.W.Frag} {sp : PySem.W.Frag → Sp} {x : Str}
    (most : l.most = some n) (small : n ≤ sizeLine) (plain : d.params.defaults = []) (room : Room k callerA) (part : ∀ (w : World) (h : Heap), YP w h → (K w.params).In h)
    (defs : ∀ (w : World) (mg : Str → Option Value) (fa : Addr) (h : Heap), (K w.params).In h → h.Ns mainGlobals mg → mg d.name = some (.ref fa) →
      ∃ fd : FuncData, (∀ (s : Shared) (u : Value), BindsTo s fd ⟨[u], []⟩ [(x, u)]) ∧ ∀ base : Heap, (K w.params).In base → base.Ns mainGlobals mg → FnG l.prog w (K w.params) mg base k fa fd [x] (sp (K w.params)))
    (told : ∀ (K : PySem.W.Frag) (H : Hp) (a : Addr) (ns : List Int), ns.length ≤ n → SqL K H a (ns.map V.int) → sp K [.ref a] H (fun v _ => v = .bl true) fun _ _ _ => False) :
    PySem.W.WalkO text loose XP YP l.row.toRowW d [] (fun f vs => PySem.call f vs) := by
  refine Att.attach_call most plain fun w s₀ z mg mb fa o pm cd doc a vs ns G Y ho hd hcd hmg obj iare len nogen => ?_
  have inK := part w _ Y
  obtain ⟨fd, bind, run⟩ := defs w mg fa _ inK G.T.g hmg
  have rv := vals_ints iare
  have fits : ns.length ≤ sizeLine := Nat.le_trans len small
  have same := iare.length
  rcases look : (K w.params).lookup a with _ | ob
  · have script : (upd (fun _ => none) a (HO.frz { cls := .type "list", data := .seq vs.toArray } (.lst (ns.map V.int)))) a = some (HO.frz { cls := .type "list", data := .seq vs.toArray } (.lst (ns.map V.int))) := upd_same
    refine law_go inK G.T.g G.T.b G.T.builtins G.T.nolimit nogen obj room run bind _ (fun b u e => ?_) (fun _ => look) (fun b u e => ?_) (told _ _ a ns len (.inl (.inr ⟨_, script⟩)))
    · by_cases hb : b = a
      · subst hb
        rw [script] at e
        exact ⟨rfl, _, _, (Option.some.inj e).symm⟩
      · rw [upd_ne hb] at e
        cases e
    · by_cases hb : b = a
      · subst hb
        rw [script] at e
        cases e
        exact ⟨obj, by rw [List.length_map]; exact fits, vs, _, rv, obj⟩
      · rw [upd_ne hb] at e
        cases e
  · have at_ := inK a ob look
    rw [obj] at at_
    cases at_
    exact law_go inK G.T.g G.T.b G.T.builtins G.T.nolimit nogen obj room run bind (fun _ => none) (fun b u e => nomatch e) (fun e => (e rfl).elim) (fun b u e => nomatch e)
      (told _ _ a ns len (.inr ⟨_, vs.toArray, _, look, rfl, rfl, rfl, by rw [List.size_toArray, same]; exact fits, by simpa using rv⟩))
end KG
set_option Elab.async false
set_option linter.all false
set_option maxRecDepth 100000
set_option autoImplicit false
namespace KD
open PySem PySem.Spec PyProof.Rows L2 KR KG
open C8 (Cal pe_c pe_gc Mak pe_mk InsC call_isC pss_cut)
open StX (pa_star)
section
variable {P : Program} {w : World} {K : PySem.W.Frag} {mg : Str → Option Value} {base : Heap}
open KM (Ok nt nb fl flz)
/-! ### rings, called by keywords alone -/
structure Kal (P : Program) (w : World) (K : PySem.W.Frag) (mg : Str → Option Value) (base : Heap) (k : Nat) (x : Str) (p1 p2 : Str) (sp : Sp) : Prop where
  ex : ∃ (f : Addr) (fd : FuncData) (g1 g2 : List Value → List Value → List Value), FnOk P w K mg base CX0 k f fd [p1, p2] sp ∧ mg x = some (.ref f) ∧ PySem.W.keepIn K (.ref f) = true ∧
    KBn K fd [p1, p2] 0 [p1, p2] g1 (fun _ zs => zs) ∧ KBn K fd [p1, p2] 0 [p2, p1] g2 (fun _ zs => zs.reverse)
theorem vals_two {x y : V} {ws : List Value} (h : Vals [x, y] ws) : ∃ u v, ws = [u, v] ∧ RelV x u ∧ RelV y v := by
  cases h with
  | cons a t =>
    cases t with
    | cons b t =>
      cases t
      exact ⟨_, _, rfl, a, b⟩
theorem vals_rev : ∀ {zs : List V} {ws : List Value}, Vals zs ws → Vals zs.reverse ws.reverse
  | _, _, .nil => .nil
  | _, _, .cons a t => by
    rw [List.reverse_cons, List.reverse_cons]
    exact (vals_rev t).append (.cons a .nil)
theorem kal_rings {C : Addr} (D : Df K mg "rings" sRings ["slope", "day"]) (c1 : Cal P w K mg base 1 "check_slope" (spCSlope C) []) (c2 : Cal P w K mg base 3 "check_day" spCDay []) (c3 : Cal P w K mg base 5 "does_ring" (spRings C) []) :
    Kal P w K mg base 6 "rings" "slope" "day" (spRings C) := by
  obtain ⟨f, fd, F, hm, b⟩ := D.ex
  refine ⟨f, fd, fun _ ws => ws, fun _ ws => ws.reverse, ?_, hm, F.kp, ⟨fun s us ws _ l1 l2 => ?_, fun _ r => r⟩, ⟨fun s us ws _ l1 l2 => ?_, fun _ r => vals_rev r⟩⟩
  · refine F.ok scRings (fun vs H Q E h => ?_) (fun cdv A outer s H vs Q E hr h => ?_)
    · obtain ⟨x, m, L, T, rfl, _⟩ := h
      rfl
    · obtain ⟨x, m, L, T, rfl, hx, m0, m1, q⟩ := h
      refine ⟨_, pss_cons (ps_expr (pe_c c1 hr (by decide) (by rfl) (pa_cons (pv 0) pa_nil))) (pss_cons (ps_expr (pe_c c2 hr (by decide) (by rfl) (pa_cons (pv 1) pa_nil)))
        (pss_one (ps_ret (pe_c c3 hr (by decide) (by rfl) (pa_cons (pv 0) (pa_cons (pv 1) pa_nil)))))), ?_⟩
      exact ⟨_, rfl, x, L, T, rfl, hx, _, rfl, m, rfl, m0, m1, _, rfl, _, rfl, x, m, L, T, rfl, hx, m0, m1, q⟩
  · obtain ⟨oc, od, kV, doc, pm, an, cdv, ct, osl, rfl, _, _⟩ := F.ex
    match us, ws, l1, l2 with
    | [], [u, v], _, _ => exact .of_eq rfl
  · obtain ⟨oc, od, kV, doc, pm, an, cdv, ct, osl, rfl, _, _⟩ := F.ex
    match us, ws, l1, l2 with
    | [], [u, v], _, _ => exact .of_eq rfl

/-! ### what the law compares -/
theorem bell_int {a : Nat → Int} (pa : KM.Parts a) (m : Int) : (if decide (flz a m < flz a (m + 1)) = true then (1 : Int) else 0) = flz a (m + 1) - flz a m := by
  have h := KM.flz_step pa m
  by_cases c : flz a m < flz a (m + 1)
  · rw [if_pos (decide_eq_true c)]
    omega
  · rw [if_neg (by rw [decide_eq_false c]; decide)]
    omega
theorem bit_log (b : Bool) : (if b = true then (1 : Int) else 0).natAbs.log2 < 1920 := by
  cases b <;> decide
theorem eqv_ints (L M : List Int) : PyData.eqv (.list (L.map PyData.int)) (.list (M.map PyData.int)) = decide (L = M) := by
  rw [PyData.eqv, eqvAll_ints]
theorem inV_two (m : Int) : inV (.int m) [.int 0, .int (-1)] = decide (m = 0 ∨ m = -1) := by
  show ((0 : Int) == m || ((-1 : Int) == m || false)) = _
  rw [Bool.or_false]
  by_cases h0 : m = 0
  · subst h0
    rfl
  · by_cases h1 : m = -1
    · subst h1
      rfl
    · rw [beq_eq_false_iff_ne.mpr (Ne.symm h0), beq_eq_false_iff_ne.mpr (Ne.symm h1), decide_eq_false (by omega)]
      rfl

/-- where the law stands between two rows -/
def Sit (C a p x : Addr) (L T L' T' : List Int) (H0 H : Hp) : Prop := Spr H a ∧ Kept a H0 H ∧ PlanAt H p L T ∧ SlopeAt C H x L' T'
section
variable {C a p x : Addr} {L T L' T' : List Int} {H0 H H' : Hp}
theorem Sit.same (h : Sit C a p x L T L' T' H0 H) (s : Same H H') : Sit C a p x L T L' T' H0 H' := ⟨h.1.same s, h.2.1.trans (Same.kept s), h.2.2.1.same s, h.2.2.2.same s⟩
theorem Sit.kept (h : Sit C a p x L T L' T' H0 H) (k : Kept a H H') (hs : Spr H' a) : Sit C a p x L T L' T' H0 H' := ⟨hs, h.2.1.trans k, h.2.2.1.kept h.1 k, h.2.2.2.kept h.1 k⟩
theorem Sit.spring (h : Sit C a p x L T L' T' H0 H) : Spr H a := h.1
theorem Sit.plan (h : Sit C a p x L T L' T' H0 H) : PlanAt H p L T := h.2.2.1
theorem Sit.slope (h : Sit C a p x L T L' T' H0 H) : SlopeAt C H x L' T' := h.2.2.2
theorem Sit.fresh {l : Addr} (h : Sit C a p x L T L' T' H0 H) (n : H l = none) : l ≠ a := fun e => by
  obtain ⟨o, z⟩ := h.1.some
  rw [← e, n] at z
  cases z
end
/-! ### _law_right -/
def spRight : Sp := fun vs H Q _ => ∃ a, vs = [.ref a] ∧ Spr H a ∧ ∀ H', Kept a H H' → Q (.bl true) H'
abbrev nRight : List Str := ["_law_spring_here", "_law_plan_here", "_law_mine", "_law_row_here", "_law_m", "_law_sign", "_law_far", "_law_pair", "_law_own", "_law_later"]
theorem scRight : FnScope nRight ["_law_spring_here"] (defScope sRight) := ⟨rfl, rfl, rfl, by decide +kernel, rfl, by decide +kernel, by decide +kernel⟩
theorem e30' : (10 : Int) ^ 30 = 1000000000000000000000000000000 := by decide
theorem e101 : (2 : Int) ^ 101 = 2535301200456458802993406410752 := by decide
set_option maxHeartbeats 4000000 in
theorem calG_right {C : Addr} (D : Df K mg "_law_right" sRight ["_law_spring_here"]) (X : Txt mg) (cPlan : Cal P w K mg base 3 "_law_plan" spPlan []) (cSlope : Cal P w K mg base 6 "_law_slope" (spSlope C) []) (cRow : Cal P w K mg base 3 "_law_row" spRow [])
    (cPick : Cal P w K mg base 2 "_law_pick" spPick []) (cDrop : Cal P w K mg base 1 "_law_drop" spDrop []) (cPairs : Cal P w K mg base 2 "_law_pairs" spPairs []) (cUnder : Cal P w K mg base 1 "_law_under" spUnder [])
    (cRings : Cal P w K mg base 6 "rings" (spRings C) []) (kRings : Kal P w K mg base 6 "rings" "slope" "day" (spRings C)) (cWhole : Cal P w K mg base 6 "whole_part" (spWholePart C) []) : CalG P w K mg base 7 "_law_right" spRight := by
  obtain ⟨f, fd, F, hm, b⟩ := D.ex
  obtain ⟨fR, fdR, g1, g2, FR, hmR, kpR, kb1, kb2⟩ := kRings.ex
  refine ⟨f, fd, ["_law_spring_here"], ?_, hm, F.kp, b⟩
  refine FnG.of F scRight (fun vs H Q E h => ?_) (fun cdv A outer s H vs Q E hG hr h => ?_)
  · obtain ⟨a, rfl, _⟩ := h
    rfl
  · obtain ⟨a, rfl, ha, q⟩ := h
    have nd := scRight.nd
    refine ⟨_, pss_cons (ps_set (i := 1) nd rfl (.inl rfl) (pe_c cPlan hr (by decide) (by rfl) (pa_cons (pv 0) pa_nil)))
      (pss_cons (ps_asg (pe_tup (pa_cons (pe_c cSlope hr (by decide) (by rfl) (pa_cons (pv 1) pa_nil)) (pa_cons (pe_c cRow hr (by decide) (by rfl) (pa_cons (pv 1) (pa_cons (pe_un un_neg pe_int) (pa_cons pe_int pa_nil)))) pa_nil))) (pg_tup rfl (pgs_cons (pg_name (i := 2) nd rfl (.inr rfl)) (pgs_cons (pg_name (i := 3) nd rfl (.inl rfl)) pgs_nil))))
      (pss_cons (ps_if (pt_cmpR op_ne (pe_join pe_str (pe_lc (own := [("_law_m", 4)]) (g := gName 4) rfl nd (pi_range2 (by rfl) X.range (pa_cons (pe_un un_neg pe_int) (pa_cons pe_int pa_nil)))
          (blkOk_by (N := nRight) (sc := defScope sRight) (by decide +kernel)) (fun _ _ _ _ _ => pg_name (i := 4) nd rfl (Or.inl rfl)) (fun _ _ _ _ _ => pts_nil)
          (fun _ _ _ _ _ => pe_callTy call_str_int (by rfl) X.str (by decide +kernel) (pa_cons (pe_callTy call_int1 (by rfl) X.int boot_int (pa_cons (pe_c cRings hr (by decide) (by rfl) (pa_cons (pv 2) (pa_cons (pv 4) pa_nil))) pa_nil)) pa_nil)))) (pv 3) (nomark _)) pss_never pss_nil)
      (pss_cons (ps_if (pt_cmpR (op_neD hr.units) (pe_lst (pa_cons (pe_c cRings hr (by decide) (by rfl) (pa_cons (pv 2) (pa_cons pe_int pa_nil))) (pa_cons (pe_callN0 FR (hr.mono (by decide)) (by rfl) hmR kpR kb1 pass0 (pk_cons (pv 2) (pk_cons (pe_un un_neg pe_int) pk_nil))) pa_nil))) (pe_lst (pa_cons pe_bl (pa_cons pe_bl pa_nil))) (nomark _)) pss_never pss_nil)
      (pss_cons (ps_set (i := 5) nd rfl (.inl rfl) (pe_c cPick hr (by decide) (by rfl) (pa_cons (pv 0) (pa_cons (pe_lst (pa_cons pe_int (pa_cons (pe_un un_neg pe_int) pa_nil))) pa_nil))))
      (pss_cons (ps_set (i := 6) nd rfl (.inl rfl) (pe_op op_mul (pv 5) (pe_op op_sub (pe_op op_sub (pe_c cPick hr (by decide) (by rfl) (pa_cons (pv 0) (pa_cons (pe_lst (pa_cons (pe_op op_pow pe_int pe_int) (pa_cons (pe_op op_pow pe_int pe_int) (pa_cons (pe_op op_pow pe_int pe_int) pa_nil)))) pa_nil))) pe_int) (pe_c cDrop hr (by decide) (by rfl) (pa_cons (pv 0) (pa_cons (pe_op op_pow pe_int pe_int) pa_nil))))))
      (pss_cons (ps_for PassesOwn.never rfl (pi_list (pe_lst (pa_cons (pe_op op_sub (pe_c cDrop hr (by decide) (by rfl) (pa_cons (pv 0) (pa_cons pe_int pa_nil))) pe_int) (pa_cons (pv 6) pa_nil)))) (pg_name (i := 4) nd rfl (.inl rfl)) (pss_cons (ps_set (i := 7) nd rfl (.inl rfl) (pe_ix ix_list (pe_c cPairs hr (by decide) (by rfl) (pa_cons (pv 1) (pa_cons (pe_op op_add (pe_callB call_abs (by rfl) X.abs (by decide +kernel) (pa_cons (pv 4) pa_nil)) pe_int) pa_nil))) (pe_un un_neg pe_int) (fun _ _ => rfl)))
      (pss_cons (ps_par (i := 8) (j := 9) (by rfl) nd rfl rfl (by decide) rfl rfl (pa_cons (pe_c cUnder hr (by decide) (by rfl) (pa_cons (pv 7) (pa_cons (pv 4) pa_nil))) (pa_cons (pe_c cUnder hr (by decide) (by rfl) (pa_cons (pv 7) (pa_cons (pe_op op_add (pv 4) pe_int) pa_nil))) pa_nil)) (by rfl))
      (pss_cons (ps_if (pt_cmpR op_ne (pe_callB (call_repr2 hG hr.units) (by rfl) X.repr (by decide +kernel) (pa_cons (pe_lst (pa_cons (pe_c cRings hr (by decide) (by rfl) (pa_cons (pv 2) (pa_cons (pv 4) pa_nil))) (pa_cons (pe_callN0 FR (hr.mono (by decide)) (by rfl) hmR kpR kb2 pass0 (pk_cons (pv 4) (pk_cons (pv 2) pk_nil))) pa_nil))) pa_nil)) (pe_callB (call_repr2 hG hr.units) (by rfl) X.repr (by decide +kernel) (pa_cons (pe_op op_rep (pe_lst (pa_cons (pe_cmpR op_gt (pv 9) (pv 8) (nomark _)) pa_nil)) pe_int) pa_nil)) (nomark _)) pss_never pss_nil)
      (pss_cons (ps_if (pt_cmpR (op_neD hr.units) (pe_lst (pa_cons (pe_c cWhole hr (by decide) (by rfl) (pa_cons (pv 2) (pa_cons (pe_tup (pa_cons pe_int (pa_cons (pv 4) pa_nil))) pa_nil))) (pa_cons (pe_c cWhole hr (by decide) (by rfl) (pa_cons (pv 2) (pa_cons (pe_tup (pa_cons (pe_un un_neg pe_int) (pa_cons (pe_op op_add (pv 4) pe_int) pa_nil))) pa_nil))) pa_nil))) (pe_lst (pa_cons (pv 8) (pa_cons (pe_op op_sub (pv 9) pe_int) pa_nil))) (nomark _)) pss_never pss_nil)
      (pss_one (ps_if (PW.pt (pw_and (pt_cmpR op_notIn_seq (pv 4) (pe_lst (pa_cons pe_int (pa_cons (pe_un un_neg pe_int) pa_nil))) (by rfl)) (pw_and1 (pt_cmpR op_ne (pe_c cRings hr (by decide) (by rfl) (pa_cons (pv 2) (pa_cons (pe_op op_sub (pe_un un_neg pe_int) (pv 4)) pa_nil))) (pe_cmpR op_gt (pv 9) (pv 8) (nomark _)) (nomark _))))) pss_never pss_nil)))))))
      (pss_one (ps_ret pe_bl)))))))), ?_⟩
    -- plan = _law_plan(spring)
    refine ⟨_, rfl, a, rfl, ha, fun H1 p L T hs1 k1 hp1 => ?_⟩
    have pa : KM.Parts (KM.part L T) := by
      obtain ⟨_, _, _, _, _, ok⟩ := hp1
      exact ok.parts
    -- mine, row = ..
    refine ⟨_, rfl, p, L, T, rfl, hp1, fun H2 x L' T' s2 hx2 pt => ?_⟩
    have hz : ∀ m, flz (KM.part L' T') m = flz (KM.part L T) m := fun m => (KM.flz_congr pt m).symm
    refine ⟨_, rfl, 12, rfl, p, L, T, rfl, hp1.same s2, fun H3 s3 => ?_⟩
    refine ⟨by show 2 ≤ sizeLine; decide, fun p2 n2 => ?_⟩
    have s4 := same_upd (o := HO.tup [.ref x, .str (rowS (KM.part L T))]) n2
    refine ⟨p2, _, rfl, sqT upd_same, rfl, _, _, rfl, _, _, rfl, rfl, ?_⟩
    have sit4 : Sit C a p x L T L' T' H (upd H3 p2 (.tup [.ref x, .str (rowS (KM.part L T))])) :=
      (Sit.same ⟨hs1.same s2, k1.trans (Same.kept s2), hp1.same s2, hx2⟩ s3).same s4
    generalize hH4 : upd H3 p2 (.tup [.ref x, .str (rowS (KM.part L T))]) = H4 at *
    -- the row of signs
    refine ⟨⟨_, rfl⟩, 12, rfl, -12, 13, rfl, by decide, fun d nd1 => ?_⟩
    refine lc_range (lo := -12) (n := (13 - (-12) : Int).toNat) (fun i H' => Same H4 H' ∧ H' d = some (.lst ((List.range i).map fun j : Nat => V.str (strI (flz (KM.part L T) (-12 + ((j + 1 : Nat) : Int)) - flz (KM.part L T) (-12 + (j : Int)))))) ∧ i ≤ 25) ⟨same_upd nd1, upd_same, by decide⟩ ?_ ?_
    · rintro i H5 hi ⟨sm, hd, _⟩
      have hi25 : i < 25 := hi
      have E := e30'
      refine ⟨rfl, _, rfl, _, rfl, x, -12 + (i : Int), L', T', rfl, sit4.slope.same sm, by omega, by omega, fun H6 s6 => .inr ⟨_, rfl, _, rfl, bit_log _, _, s6 _ _ hd, ?_, fun b o e => ?_, ?_, hi25⟩⟩
      · rw [List.length_map, List.length_range]
        exact small1000 (by omega)
      · rw [upd_ne (ne_of_none e nd1)]
        exact s6 _ _ (sm _ _ e)
      · have ev : (if decide (flz (KM.part L' T') (-12 + (i : Int)) < flz (KM.part L' T') (-12 + (i : Int) + 1)) = true then (1 : Int) else 0) = flz (KM.part L T) (-12 + ((i + 1 : Nat) : Int)) - flz (KM.part L T) (-12 + (i : Int)) := by
          rw [hz, hz, bell_int pa, show -12 + (i : Int) + 1 = -12 + ((i + 1 : Nat) : Int) by omega]
        rw [upd_same]
        show some (HO.lst (_ ++ [V.str (strI (if decide (flz (KM.part L' T') (-12 + (i : Int)) < flz (KM.part L' T') (-12 + (i : Int) + 1)) = true then (1 : Int) else 0))])) = _
        rw [ev, List.range_succ, List.map_append]
        rfl
    rintro H5 ⟨s5, hd, _⟩
    have hd' : H5 d = some (.lst ((signs (KM.part L T)).map V.str)) := by
      unfold signs
      rw [List.map_map]
      exact hd
    refine ⟨_, d, signs (KM.part L T), rfl, rfl, .inl (sqL hd'), signs_sum pa, ?_⟩
    refine ⟨_, rfl, rfl, _, rfl, ?_⟩
    rw [show (!decide (V.str (Txt.join (Str.ofString "") (signs (KM.part L T))) = V.str (rowS (KM.part L T)))) = false from by rw [decide_eq_true (show V.str (Txt.join (Str.ofString "") (signs (KM.part L T))) = V.str (rowS (KM.part L T)) from rfl)]; rfl]
    refine iteF ?_
    have sit5 := sit4.same s5
    -- the days 0 and -1
    have b1 : decide (flz (KM.part L' T') 0 < flz (KM.part L' T') (0 + 1)) = false := by
      rw [hz, hz]
      show decide (flz (KM.part L T) 0 < flz (KM.part L T) 1) = false
      rw [KM.flz_zero pa, KM.flz_one pa]
      rfl
    have b2 : decide (flz (KM.part L' T') (-1) < flz (KM.part L' T') (-1 + 1)) = true := by
      rw [hz, hz]
      show decide (flz (KM.part L T) (-1) < flz (KM.part L T) 0) = true
      rw [KM.flz_zero pa, KM.flz_neg_one pa]
      rfl
    refine ⟨_, rfl, x, 0, L', T', rfl, sit5.slope, by decide, by decide, fun H6 s6 => ?_⟩
    refine ⟨_, rfl, 1, rfl, rfl, rfl, x, -1, L', T', rfl, sit5.slope.same s6, by decide, by decide, fun H7 s7 => ⟨by show 2 ≤ sizeLine; decide, fun l1 nl1 => ?_⟩⟩
    rw [b1, b2]
    have sl1 := same_upd (o := HO.lst [.bl false, .bl true]) nl1
    refine ⟨by show 2 ≤ sizeLine; decide, fun l2 nl2 => ?_⟩
    have sl2 := same_upd (o := HO.lst [.bl false, .bl true]) nl2
    refine ⟨.list [.bool false, .bool true], .list [.bool false, .bool true], .lst (sqL (sl2 _ _ upd_same)) (.cons (.bl _) (.cons (.bl _) .nil)), .lst (sqL upd_same) (.cons (.bl _) (.cons (.bl _) .nil)), rfl, rfl, _, rfl, ?_⟩
    rw [show PyData.eqv (.list [.bool false, .bool true]) (.list [.bool false, .bool true]) = true from by decide +kernel]
    refine iteF ?_
    have sit7 := (((sit5.same s6).same s7).same sl1).same sl2
    generalize upd (upd H7 l1 (.lst [.bl false, .bl true])) l2 (.lst [.bl false, .bl true]) = H8 at *
    -- sign
    refine ⟨_, rfl, 1, rfl, by show 2 ≤ sizeLine; decide, fun l3 nl3 => ?_⟩
    have sl3 := same_upd (o := HO.lst [.int 1, .int (-1)]) nl3
    have sit8 := sit7.same sl3
    refine ⟨a, l3, _, rfl, sit8.spring, upd_same, sit7.fresh nl3, by decide, by decide, fun sg H9 hsg hs9 k9 => ?_⟩
    have sit9 := sit8.kept k9 hs9
    obtain ⟨sgn, rfl, hsgn⟩ : ∃ z : Int, sg = V.int z ∧ (z = 1 ∨ z = -1) := by
      simp only [List.mem_cons, List.not_mem_nil, or_false] at hsg
      rcases hsg with rfl | rfl
      · exact ⟨_, rfl, .inl rfl⟩
      · exact ⟨_, rfl, .inr rfl⟩
    -- far
    refine ⟨_, rfl, _, rfl, _, _, rfl, rfl, ⟨by decide, by decide, by decide⟩, _, _, rfl, rfl, ⟨by decide, by decide, by decide⟩, _, _, rfl, rfl, ⟨by decide, by decide, by decide⟩, by show 3 ≤ sizeLine; decide, fun l4 nl4 => ?_⟩
    have sl4 := same_upd (o := HO.lst [.int ((10 : Int) ^ (18 : Int).toNat), .int ((10 : Int) ^ (25 : Int).toNat), .int ((10 : Int) ^ (30 : Int).toNat)]) nl4
    have sit10 := sit9.same sl4
    refine ⟨a, l4, _, rfl, sit10.spring, upd_same, sit9.fresh nl4, by decide, by decide, fun big H11 hbig hs11 k11 => ?_⟩
    have sit11 := sit10.kept k11 hs11
    obtain ⟨bg, rfl, hbg0, hbg1⟩ : ∃ z : Int, big = V.int z ∧ 10 ^ 18 ≤ z ∧ z ≤ 10 ^ 30 := by
      simp only [List.mem_cons, List.not_mem_nil, or_false] at hbig
      rcases hbig with rfl | rfl | rfl
      · exact ⟨_, rfl, by decide, by decide⟩
      · exact ⟨_, rfl, by decide, by decide⟩
      · exact ⟨_, rfl, by decide, by decide⟩
    refine ⟨bg, 1, rfl, rfl, ?_⟩
    refine ⟨_, rfl, _, _, rfl, rfl, ⟨by decide, by decide, by decide⟩, a, _, rfl, sit11.spring, by decide, by decide, fun rr H12 rr0 rr1 hs12 k12 => ?_⟩
    have sit12 := sit11.kept k12 hs12
    have rr1' : rr < 1000000 := rr1
    refine ⟨bg - 1, rr, rfl, rfl, sgn, bg - 1 - rr, rfl, rfl, .inl ⟨by omega, by omega⟩, ?_⟩
    have E := e30'
    have E18 : (10 : Int) ^ 18 = 1000000000000000000 := by decide
    have far0 : -999999999999999999999999999999 ≤ sgn * (bg - 1 - rr) ∧ sgn * (bg - 1 - rr) ≤ 999999999999999999999999999999 := by
      rcases hsgn with rfl | rfl <;> omega
    -- the two days
    refine ⟨_, rfl, a, 900, rfl, sit12.spring, by decide, by decide, fun r3 H13 r30 r31 hs13 k13 => ?_⟩
    have sit13 := sit12.kept k13 hs13
    refine ⟨_, _, rfl, rfl, _, rfl, by show 2 ≤ sizeLine; decide, fun l0 nl0 => ?_⟩
    have sl0 := same_upd (o := HO.lst [.int (r3 - 450), .int (sgn * (bg - 1 - rr))]) nl0
    have sit14 := sit13.same sl0
    have hl0 : (upd H13 l0 (.lst [.int (r3 - 450), .int (sgn * (bg - 1 - rr))])) l0 = some (.lst [.int (r3 - 450), .int (sgn * (bg - 1 - rr))]) := upd_same
    refine ⟨l0, rfl, ⟨_, sqL hl0⟩, for_list (K := K) (a := l0) (xs := [V.int (r3 - 450), V.int (sgn * (bg - 1 - rr))]) (fun i σ H' => Same (upd H13 l0 (.lst [.int (r3 - 450), .int (sgn * (bg - 1 - rr))])) H' ∧ ∃ y4 y7 y8 y9 : Option V, σ = [some (.ref a), some (.ref p), some (.ref x), some (.str (rowS (KM.part L T))), y4, some (.int sgn), some (.int (sgn * (bg - 1 - rr))), y7, y8, y9])
      ⟨Same.refl _, _, _, _, _, rfl⟩ (fun i σ H' _ h => sqL (h.1 _ _ hl0)) ?_ ?_⟩
    · rintro i y σ H15 hi ⟨s15, y4, y7, y8, y9, rfl⟩
      obtain ⟨m, rfl, m0, m1⟩ : ∃ m : Int, y = V.int m ∧ -999999999999999999999999999999 ≤ m ∧ m ≤ 999999999999999999999999999999 := by
        have hm := List.mem_of_getElem? hi
        simp only [List.mem_cons, List.not_mem_nil, or_false] at hm
        rcases hm with rfl | rfl
        · exact ⟨_, rfl, by omega, by omega⟩
        · exact ⟨_, rfl, far0.1, far0.2⟩
      have sit15 := sit14.same s15
      have E101 := e101
      -- pair
      refine ⟨_, rfl, _, rfl, m, rfl, _, _, rfl, rfl, p, (if m < 0 then -m else m) + 1, L, T, rfl, sit15.plan, by split <;> omega, fun H16 l xs r n s16 hl hrr hm hn => ⟨1, rfl, l, _, -1, _, rfl, rfl, sqL hl, atI_last _ _, ?_⟩⟩
      have habs : -(nb (KM.part L T) (2 * n + 1)) < m - 1 ∧ m + 1 < nb (KM.part L T) (2 * n + 1) := by
        split at hm <;> omega
      have sit16 := sit15.same s16
      -- own, later
      refine ⟨_, rfl, _, rfl, r, m, KM.part L T, n, rfl, hrr, pa, by omega, by omega, by omega, by omega, hn, ?_⟩
      refine ⟨_, rfl, _, rfl, _, _, rfl, rfl, r, m + 1, KM.part L T, n, rfl, hrr, pa, by omega, by omega, by omega, by omega, hn, _, _, rfl, ?_⟩
      -- repr
      refine ⟨_, rfl, _, rfl, x, m, L', T', rfl, sit16.slope, by omega, by omega, fun H17 s17 => ?_⟩
      have sit17 := sit16.same s17
      refine ⟨_, rfl, _, rfl, rfl, rfl, x, m, L', T', rfl, sit17.slope, by omega, by omega, fun H18 s18 => ⟨by show 2 ≤ sizeLine; decide, fun l1 nl1 => ⟨l1, _, _, rfl, sqL upd_same, ?_⟩⟩⟩
      rw [hz, hz]
      have s19 := same_upd (o := HO.lst [.bl (decide (flz (KM.part L T) m < flz (KM.part L T) (m + 1))), .bl (decide (flz (KM.part L T) m < flz (KM.part L T) (m + 1)))]) nl1
      have sit19 := (sit17.same s18).same s19
      refine ⟨_, rfl, _, rfl, _, _, rfl, rfl, by show 1 ≤ sizeLine; decide, fun l2 nl2 => ?_⟩
      have s20 := same_upd (o := HO.lst [.bl (decide (flz (KM.part L T) m < flz (KM.part L T) (m + 1)))]) nl2
      refine ⟨l2, 2, _, rfl, rfl, upd_same, by decide, by decide, by show 1 * 2 ≤ sizeLine; decide, fun l3 nl3 => ?_⟩
      have s21 := same_upd (o := HO.lst (List.replicate (Int.toNat 2) [.bl (decide (flz (KM.part L T) m < flz (KM.part L T) (m + 1)))]).flatten) nl3
      refine ⟨l3, decide (flz (KM.part L T) m < flz (KM.part L T) (m + 1)), decide (flz (KM.part L T) m < flz (KM.part L T) (m + 1)), rfl, sqL upd_same, rfl, _, rfl, ?_⟩
      rw [decide_eq_true (show V.str (shown2 (decide (flz (KM.part L T) m < flz (KM.part L T) (m + 1))) (decide (flz (KM.part L T) m < flz (KM.part L T) (m + 1)))) = V.str (shown2 (decide (flz (KM.part L T) m < flz (KM.part L T) (m + 1))) (decide (flz (KM.part L T) m < flz (KM.part L T) (m + 1)))) from rfl)]
      refine iteF ?_
      have sit21 := (sit19.same s20).same s21
      have same21 : Same H15 _ := s16.trans (s17.trans (s18.trans (s19.trans (s20.trans s21))))
      generalize hH21 : upd (upd _ l2 _) l3 _ = H21 at sit21 same21 ⊢
      -- whole parts
      refine ⟨_, rfl, _, rfl, by show 2 ≤ sizeLine; decide, fun t1 nt1 => ?_⟩
      have s22 := same_upd (o := HO.tup [.int 0, .int m]) nt1
      have sit22 := sit21.same s22
      refine ⟨x, t1, 0, m, L', T', rfl, sit22.slope, upd_same, by omega, by omega, by omega, by omega, fun H23 s23 => ?_⟩
      have sit23 := sit22.same s23
      refine ⟨_, rfl, 3, rfl, _, rfl, _, _, rfl, rfl, by show 2 ≤ sizeLine; decide, fun t2 nt2 => ?_⟩
      have s24 := same_upd (o := HO.tup [.int (-3), .int (m + 1)]) nt2
      have sit24 := sit23.same s24
      refine ⟨x, t2, -3, m + 1, L', T', rfl, sit24.slope, upd_same, by omega, by omega, by omega, by omega, fun H25 s25 => ⟨by show 2 ≤ sizeLine; decide, fun l4 nl4 => ?_⟩⟩
      rw [hz, hz]
      have sit25 := sit24.same s25
      have s26 := same_upd (o := HO.lst [.int (0 + flz (KM.part L T) m), .int (-3 + flz (KM.part L T) (m + 1))]) nl4
      refine ⟨_, rfl, _, rfl, _, _, rfl, rfl, by show 2 ≤ sizeLine; decide, fun l5 nl5 => ?_⟩
      have s27 := same_upd (o := HO.lst [.int (flz (KM.part L T) m), .int (flz (KM.part L T) (m + 1) - 3)]) nl5
      refine ⟨.list [.int (0 + flz (KM.part L T) m), .int (-3 + flz (KM.part L T) (m + 1))], .list [.int (flz (KM.part L T) m), .int (flz (KM.part L T) (m + 1) - 3)], .lst (sqL (s27 _ _ upd_same)) (.cons (.int _) (.cons (.int _) .nil)), .lst (sqL upd_same) (.cons (.int _) (.cons (.int _) .nil)), rfl, rfl, _, rfl, ?_⟩
      rw [show PyData.eqv (.list [.int (0 + flz (KM.part L T) m), .int (-3 + flz (KM.part L T) (m + 1))]) (.list [.int (flz (KM.part L T) m), .int (flz (KM.part L T) (m + 1) - 3)]) = true from
        (eqv_ints [0 + flz (KM.part L T) m, -3 + flz (KM.part L T) (m + 1)] [flz (KM.part L T) m, flz (KM.part L T) (m + 1) - 3]).trans (decide_eq_true (by rw [show 0 + flz (KM.part L T) m = flz (KM.part L T) m by omega, show -3 + flz (KM.part L T) (m + 1) = flz (KM.part L T) (m + 1) - 3 by omega]))]
      refine iteF ?_
      have sit27 := (sit25.same s26).same s27
      have same27 := same21.trans (s22.trans (s23.trans (s24.trans (s25.trans (s26.trans s27)))))
      generalize hH27 : upd (upd H25 l4 _) l5 _ = H27 at sit27 same27 ⊢
      -- the mirrored day
      refine ⟨_, rfl, 1, rfl, by show 2 ≤ sizeLine; decide, fun l6 nl6 => ?_⟩
      have s28 := same_upd (o := HO.lst [.int 0, .int (-1)]) nl6
      refine ⟨l6, [.int 0, .int (-1)], rfl, .inl (sqL upd_same), rfl, rfl, _, rfl, ?_⟩
      show if (!inV (V.int m) [V.int 0, V.int (-1)]) = true then _ else _
      rw [inV_two]
      by_cases hm01 : m = 0 ∨ m = -1
      · rw [decide_eq_true hm01]
        exact iteF (iteF ⟨s15.trans (same27.trans s28), _, _, _, _, rfl⟩)
      · rw [decide_eq_false hm01]
        refine iteT ⟨_, rfl, 1, rfl, _, rfl, _, _, rfl, rfl, x, -1 - m, L', T', rfl, (sit27.same s28).slope, by omega, by omega, fun H29 s29 => ?_⟩
        rw [hz, hz]
        refine ⟨_, rfl, _, rfl, _, _, rfl, rfl, rfl, _, rfl, ?_⟩
        have mir := KM.flz_mirror pa (m := m) (fun e => hm01 (.inl e)) (fun e => hm01 (.inr e))
        rw [decide_eq_true (show V.bl (decide (flz (KM.part L T) (-1 - m) < flz (KM.part L T) (-1 - m + 1))) = V.bl (decide (flz (KM.part L T) m < flz (KM.part L T) (m + 1))) by rw [decide_eq_decide.mpr mir])]
        exact iteF ⟨s15.trans (same27.trans (s28.trans s29)), _, _, _, _, rfl⟩
    · rintro σ H15 ⟨s15, y4, y7, y8, y9, rfl⟩
      exact q H15 (sit14.same s15).2.1
end
end KD
set_option Elab.async false
set_option linter.all false
set_option maxRecDepth 100000
set_option autoImplicit false
namespace KD
open PySem PySem.Spec PyProof.Rows L2 KR KG
open C8 (Cal pe_c pe_gc Mak pe_mk InsC call_isC pss_cut)
open StX (pa_star)
section
variable {P : Program} {w : World} {K : PySem.W.Frag} {mg : Str → Option Value} {base : Heap}
/-! ### law -/
def spLaw (K : PySem.W.Frag) : Sp := fun vs H Q _ => ∃ (a : Addr) (ns : List Int), vs = [.ref a] ∧ SqL K H a (ns.map V.int) ∧ ns.length ≤ 63 ∧ ∀ H', Q (.bl true) H'
theorem scLaw : FnScope ["_law_script", "_law_at_here"] ["_law_script"] (defScope sLaw) := ⟨rfl, rfl, rfl, by decide +kernel, rfl, by decide +kernel, by decide +kernel⟩
theorem fnG_law {f : Addr} {fd : FuncData} (F : Fun K "law" "law" sLaw f fd) (X : Txt mg) (c1 : Cal P w K mg base 1 "_law_spring" (spSpring K) []) (c2 : CalG P w K mg base 7 "_law_right" spRight) : FnG P w K mg base 8 f fd ["_law_script"] (spLaw K) := by
  refine FnG.of F scLaw (fun vs H Q E h => ?_) (fun cdv A outer s H vs Q E hG hr h => ?_)
  · obtain ⟨a, ns, rfl, _⟩ := h
    rfl
  · obtain ⟨a, ns, rfl, ha, hn, q⟩ := h
    have nd := scLaw.nd
    refine ⟨_, pss_one (ps_ret (pe_callB (cr_all rfl) (by rfl) X.all (by decide +kernel) (pa_cons (pe_lc (own := [("_law_at_here", 1)]) (g := gName 1) rfl nd
      (pi_range1 (by rfl) X.range (pa_cons (pe_callB (call_max2 rfl) (by rfl) X.max (by decide +kernel) (pa_cons pe_int (pa_cons (pe_callB (call_min2 rfl) (by rfl) X.min (by decide +kernel) (pa_cons (pe_callB call_len_seq (by rfl) X.len PySem.boot_len (pa_cons (pv 0) pa_nil)) (pa_cons pe_int pa_nil))) pa_nil))) pa_nil))
      (blkOk_by (N := ["_law_script", "_law_at_here"]) (sc := defScope sLaw) (by decide +kernel)) (fun _ _ _ _ _ => pg_name (i := 1) nd rfl (Or.inl rfl)) (fun _ _ _ _ _ => pts_nil)
      (fun _ _ _ _ _ => pe_cG c2 hG hr (by decide) (by rfl) (pa_cons (pe_c c1 hr (by decide) (by rfl) (pa_cons (pv 0) (pa_cons (pv 1) pa_nil))) pa_nil))) pa_nil))), ?_⟩
    refine ⟨_, rfl, a, _, rfl, .inl ha, _, _, rfl, _, _, rfl, ?_⟩
    have len : ((ns.map V.int).length : Int) = (ns.length : Int) := by rw [List.length_map]
    -- how many
    have many : ∃ t : Nat, (if (if (4 : Int) < ((ns.map V.int).length : Int) then (4 : Int) else ((ns.map V.int).length : Int)) > 2 then (if (4 : Int) < ((ns.map V.int).length : Int) then (4 : Int) else ((ns.map V.int).length : Int)) else 2) = (t : Int) ∧ t ≤ 4 := by
      rw [len]
      by_cases h4 : (4 : Int) < (ns.length : Int)
      · exact ⟨4, by rw [if_pos h4]; rfl, by decide⟩
      · rw [if_neg h4]
        by_cases h2 : (ns.length : Int) > 2
        · exact ⟨ns.length, if_pos h2, by omega⟩
        · exact ⟨2, if_neg h2, by decide⟩
    obtain ⟨t, ht, ht4⟩ := many
    refine ⟨(t : Int), by rw [← ht], by omega, by omega, fun d nd1 => ?_⟩
    refine lc_range (lo := 0) (n := (t : Int).toNat) (fun i H' => Same H H' ∧ H' d = some (.lst ((List.replicate i true).map V.bl)) ∧ i ≤ 4) ⟨same_upd nd1, upd_same, by decide⟩ ?_ ?_
    · rintro i H1 hi ⟨sm, hd, _⟩
      have hi4 : i < 4 := by omega
      refine ⟨rfl, _, rfl, _, rfl, a, ns, i, by rw [Int.zero_add]; rfl, sm.seq ha, by omega, fun H2 p s2 np hs2 => ?_⟩
      have ndp : d ≠ p := ne_of_none hd np
      refine ⟨p, rfl, hs2, fun H3 k3 => ⟨_, k3 _ _ ndp (s2 _ _ hd), ?_, fun b o e => ?_, ?_, hi4⟩⟩
      · rw [List.length_map, List.length_replicate]
        exact small1000 (by omega)
      · rw [upd_ne (ne_of_none e nd1)]
        exact k3 _ _ (ne_of_none (sm _ _ e) np) (s2 _ _ (sm _ _ e))
      · rw [upd_same, List.replicate_succ', List.map_append]
        rfl
    · rintro H1 ⟨sm, hd, _⟩
      refine ⟨d, List.replicate (t : Int).toNat true, rfl, sqL hd, ?_⟩
      rw [show (List.replicate (t : Int).toNat true).all id = true from List.all_eq_true.mpr fun b hb => by rw [(List.mem_replicate.mp hb).2]; rfl]
      exact q H1
end

/-! ### what the top has written -/
/-- a def, found by name -/
structure DfFacts (K : PySem.W.Frag) (x : Str) (st : Stmt) : Prop where
  ex : ∃ (f : Addr) (oc : Value) (od : Option Addr) (kV dc pm : Value) (an : Option Addr) (cd ct : Value) (sl : Array (Option Value)), PySem.W.nsIn K mainGlobals x = some (some (.ref f)) ∧
    K.lookup f = some ⟨oc, od, .func (PySem.W.fnOf x x (defArgs st) (defBody st) (defScope st) .none kV dc pm an cd ct), sl⟩ ∧ PySem.W.codeIn K cd x = true ∧ PySem.W.keepIn K (.ref f) = true
theorem mkD {K : PySem.W.Frag} {x : Str} {st : Stmt} {f : Addr} {oc : Value} {od : Option Addr} {kV dc pm : Value} {an : Option Addr} {cd ct : Value} {sl : Array (Option Value)} (a : PySem.W.nsIn K mainGlobals x = some (some (.ref f)))
    (l : K.lookup f = some ⟨oc, od, .func (PySem.W.fnOf x x (defArgs st) (defBody st) (defScope st) .none kV dc pm an cd ct), sl⟩) (c : PySem.W.codeIn K cd x = true) (k : PySem.W.keepIn K (.ref f) = true) : DfFacts K x st :=
  ⟨f, oc, od, kV, dc, pm, an, cd, ct, sl, a, l, c, k⟩
section
variable {K : PySem.W.Frag} {h : Heap} {mg : Str → Option Value}
theorem DfFacts.df {x : Str} {st : Stmt} {ps : List Str} (D : DfFacts K x st) (X : K.In h) (G : h.Ns mainGlobals mg)
    (hb : ∀ (kV doc pm : Value) (an : Option Addr) (cdv ct : Value) (us : List Value), us.length = ps.length → bindArgs (PySem.W.fnOf x x (defArgs st) (defBody st) (defScope st) .none kV doc pm an cdv ct) ⟨us, []⟩ = pure (ps.zip us)) : Df K mg x st ps := by
  obtain ⟨f, oc, od, kV, dc, pm, an, cd, ct, sl, a, l, c, k⟩ := D.ex
  have F := fun_mk (st := st) l c k
  exact ⟨f, _, F, PySem.W.mg_of X G a, F.binds hb⟩
/-- the class, found by name -/
structure ClsFacts (K : PySem.W.Frag) : Prop where
  ex : ∃ (C f : Addr) (oc : Value) (od : Option Addr) (kV dc pm : Value) (an : Option Addr) (cd ct : Value) (sl : Array (Option Value)), PySem.W.nsIn K mainGlobals "Slope" = some (some (.ref C)) ∧
    PySem.W.findIn K (.ref C) "__init__" = some (some (.ref f)) ∧ PySem.W.isFn K (.ref f) = true ∧
    K.lookup f = some ⟨oc, od, .func (PySem.W.fnOf "__init__" "Slope.__init__" (defArgs sInit) (defBody sInit) (defScope sInit) .none kV dc pm an cd ct), sl⟩ ∧ PySem.W.codeIn K cd "Slope.__init__" = true ∧ PySem.W.keepIn K (.ref f) = true ∧
    PySem.W.plainGet K C Str.empty = true ∧ PySem.W.hasDictIn K C = true ∧ PySem.W.plainOver K C = true ∧ PySem.W.findIn K (.ref C) "__setattr__" = some (some (.builtin "object.__setattr__")) ∧ PySem.W.makesIn K C = true ∧ PySem.W.keepIn K (.ref C) = true ∧
    PySem.W.findIn K (.ref C) "held" = some none ∧ PySem.W.findIn K (.ref C) "words" = some none ∧ PySem.W.findIn K (.ref C) "__class__" = some (some (.builtin "object.__class__")) ∧ PySem.W.mroIn K C (.type "object") = some true
theorem mkC {C f : Addr} {oc : Value} {od : Option Addr} {kV dc pm : Value} {an : Option Addr} {cd ct : Value} {sl : Array (Option Value)} (a : PySem.W.nsIn K mainGlobals "Slope" = some (some (.ref C)))
    (i : PySem.W.findIn K (.ref C) "__init__" = some (some (.ref f))) (fn : PySem.W.isFn K (.ref f) = true)
    (l : K.lookup f = some ⟨oc, od, .func (PySem.W.fnOf "__init__" "Slope.__init__" (defArgs sInit) (defBody sInit) (defScope sInit) .none kV dc pm an cd ct), sl⟩) (c : PySem.W.codeIn K cd "Slope.__init__" = true) (k : PySem.W.keepIn K (.ref f) = true)
    (e1 : PySem.W.plainGet K C Str.empty = true) (e2 : PySem.W.hasDictIn K C = true) (e3 : PySem.W.plainOver K C = true) (e4 : PySem.W.findIn K (.ref C) "__setattr__" = some (some (.builtin "object.__setattr__"))) (e5 : PySem.W.makesIn K C = true) (e6 : PySem.W.keepIn K (.ref C) = true)
    (e7 : PySem.W.findIn K (.ref C) "held" = some none) (e8 : PySem.W.findIn K (.ref C) "words" = some none) (e9 : PySem.W.findIn K (.ref C) "__class__" = some (some (.builtin "object.__class__"))) (e10 : PySem.W.mroIn K C (.type "object") = some true) : ClsFacts K :=
  ⟨C, f, oc, od, kV, dc, pm, an, cd, ct, sl, a, i, fn, l, c, k, e1, e2, e3, e4, e5, e6, e7, e8, e9, e10⟩
theorem kit_self {K : PySem.W.Frag} (C : Addr) : PySem.W.kitOne K (.ref C) (.ref C) = some true := by
  unfold PySem.W.kitOne
  rw [if_pos (beq_self_eq_true (Value.ref C))]
/-- the built-in names, the constants -/
structure NameFacts (K : PySem.W.Frag) : Prop where
  free : ∀ x ∈ (["isinstance", "int", "bool", "tuple", "len", "range", "enumerate", "all", "abs", "divmod", "str", "repr", "max", "min"] : List Str), PySem.W.nsIn K mainGlobals x = some none
  cons : ∃ t1 t2 t3 t4 : Tok, PySem.W.nsIn K mainGlobals "MOST_PART" = some (some (.int 20 t1)) ∧ PySem.W.nsIn K mainGlobals "MOST_LEAD" = some (some (.int 8 t2)) ∧ PySem.W.nsIn K mainGlobals "MOST_LOOP" = some (some (.int 12 t3)) ∧
    PySem.W.nsIn K mainGlobals "MOST_NUMBER" = some (some (.int 1000000000000000000000000000000 t4))
theorem mkN {t1 t2 t3 t4 : Tok} (z1 : PySem.W.nsIn K mainGlobals "isinstance" = some none) (z2 : PySem.W.nsIn K mainGlobals "int" = some none) (z3 : PySem.W.nsIn K mainGlobals "bool" = some none) (z4 : PySem.W.nsIn K mainGlobals "tuple" = some none)
    (z5 : PySem.W.nsIn K mainGlobals "len" = some none) (z6 : PySem.W.nsIn K mainGlobals "range" = some none) (z7 : PySem.W.nsIn K mainGlobals "enumerate" = some none) (z8 : PySem.W.nsIn K mainGlobals "all" = some none) (z9 : PySem.W.nsIn K mainGlobals "abs" = some none)
    (z10 : PySem.W.nsIn K mainGlobals "divmod" = some none) (z11 : PySem.W.nsIn K mainGlobals "str" = some none) (z12 : PySem.W.nsIn K mainGlobals "repr" = some none) (z13 : PySem.W.nsIn K mainGlobals "max" = some none) (z14 : PySem.W.nsIn K mainGlobals "min" = some none)
    (y1 : PySem.W.nsIn K mainGlobals "MOST_PART" = some (some (.int 20 t1))) (y2 : PySem.W.nsIn K mainGlobals "MOST_LEAD" = some (some (.int 8 t2))) (y3 : PySem.W.nsIn K mainGlobals "MOST_LOOP" = some (some (.int 12 t3)))
    (y4 : PySem.W.nsIn K mainGlobals "MOST_NUMBER" = some (some (.int 1000000000000000000000000000000 t4))) : NameFacts K := by
  refine ⟨fun x hx => ?_, t1, t2, t3, t4, y1, y2, y3, y4⟩
  simp only [List.mem_cons, List.not_mem_nil, or_false] at hx
  rcases hx with rfl | rfl | rfl | rfl | rfl | rfl | rfl | rfl | rfl | rfl | rfl | rfl | rfl | rfl <;> assumption
theorem NameFacts.txt (N : NameFacts K) (X : K.In h) (G : h.Ns mainGlobals mg) : Txt mg := by
  have none_of : ∀ x ∈ (["isinstance", "int", "bool", "tuple", "len", "range", "enumerate", "all", "abs", "divmod", "str", "repr", "max", "min"] : List Str), mg x = none := fun x hx => PySem.W.mg_none_of X G (N.free x hx)
  obtain ⟨t1, t2, t3, t4, y1, y2, y3, y4⟩ := N.cons
  exact ⟨none_of _ (by simp), none_of _ (by simp), none_of _ (by simp), none_of _ (by simp), none_of _ (by simp), none_of _ (by simp), none_of _ (by simp), none_of _ (by simp), none_of _ (by simp), none_of _ (by simp), none_of _ (by simp), none_of _ (by simp), none_of _ (by simp), none_of _ (by simp),
    ⟨_, PySem.W.mg_of X G y1, _, rfl⟩, ⟨_, PySem.W.mg_of X G y2, _, rfl⟩, ⟨_, PySem.W.mg_of X G y3, _, rfl⟩, ⟨_, PySem.W.mg_of X G y4, _, by rw [e30']⟩⟩
theorem all_mk {l : PySem.W.OpenLaw} {w : World} {fa : Addr} (X : K.In h) (G : h.Ns mainGlobals mg) (hfa : mg "law" = some (.ref fa)) (hn : PySem.W.specialIn K (.builtin "object.__class__") "__get__" = some (some (.builtin "getset_descriptor.__get__")))
    (htk : PySem.W.takesIn K (.builtin "object.__class__") = some true) (N : NameFacts K) (CF : ClsFacts K)
    (d1 : DfFacts K "is_integer" sIsInt) (d2 : DfFacts K "is_between" sBetween) (d3 : DfFacts K "check_lead" sCLead) (d4 : DfFacts K "check_loop" sCLoop) (d5 : DfFacts K "shortest_loop" sSLoop) (d6 : DfFacts K "shortest" sShort) (d7 : DfFacts K "listed" sListed)
    (d8 : DfFacts K "check_slope" sCSlope) (d9 : DfFacts K "part_at" sPartAt) (d10 : DfFacts K "neighbours_past" sPast) (d11 : DfFacts K "is_point" sIsPoint) (d12 : DfFacts K "check_point" sCPoint) (d13 : DfFacts K "multiple_at" sMult) (d14 : DfFacts K "whole_at" sWholeAt)
    (d15 : DfFacts K "whole_part" sWholePart) (d16 : DfFacts K "check_day" sCDay) (d17 : DfFacts K "does_ring" sDoes) (d18 : DfFacts K "rings" sRings) (d19 : DfFacts K "_law_spring" sSpring) (d20 : DfFacts K "_law_drop" sDrop) (d21 : DfFacts K "_law_pick" sPick)
    (d22 : DfFacts K "_law_plan" sPlan) (d23 : DfFacts K "_law_slope" sSlope) (d24 : DfFacts K "_law_at" sAt) (d25 : DfFacts K "_law_pairs" sPairs) (d26 : DfFacts K "_law_under" sUnder) (d27 : DfFacts K "_law_row" sRow) (d28 : DfFacts K "_law_right" sRight) (d29 : DfFacts K "law" sLaw) :
    ∃ fd : FuncData, (∀ (s : Shared) (v : Value), BindsTo s fd ⟨[v], []⟩ [("_law_script", v)]) ∧ ∀ base : Heap, K.In base → base.Ns mainGlobals mg → FnG l.prog w K mg base 8 fa fd ["_law_script"] (spLaw K) := by
  have T := N.txt X G
  obtain ⟨C, f, oc, od, kV, dc, pm, an, cd, ct, sl, aC, ai, fn, li, ci, ki, e1, e2, e3, e4, e5, e6, e7, e8, e9, e10⟩ := CF.ex
  have CT : CTxt K C := ⟨⟨⟨e1, e2, e3, e4⟩, e9, hn, htk, e10, kit_self C⟩, e7, e8⟩
  have hC : mg "Slope" = some (.ref C) := PySem.W.mg_of X G aC
  have FI := fun_mk (st := sInit) li ci ki
  have DI : DfI K mg C := ⟨f, _, FI, ⟨e5, ai, fn, e6⟩, hC, FI.binds (ps := ["self", "lead", "loop"]) fun _ _ _ _ _ _ us hl => match us, hl with | [_, _, _], _ => rfl⟩
  have D1 : Df K mg "is_integer" sIsInt ["value"] := d1.df X G fun _ _ _ _ _ _ us hl => match us, hl with | [_], _ => rfl
  have D2 : Df K mg "is_between" sBetween ["value", "low", "high"] := d2.df X G fun _ _ _ _ _ _ us hl => match us, hl with | [_, _, _], _ => rfl
  have D3 : Df K mg "check_lead" sCLead ["lead"] := d3.df X G fun _ _ _ _ _ _ us hl => match us, hl with | [_], _ => rfl
  have D4 : Df K mg "check_loop" sCLoop ["turn"] := d4.df X G fun _ _ _ _ _ _ us hl => match us, hl with | [_], _ => rfl
  have D5 : Df K mg "shortest_loop" sSLoop ["turn"] := d5.df X G fun _ _ _ _ _ _ us hl => match us, hl with | [_], _ => rfl
  have D6 : Df K mg "shortest" sShort ["lead", "turn"] := d6.df X G fun _ _ _ _ _ _ us hl => match us, hl with | [_, _], _ => rfl
  have D7 : Df K mg "listed" sListed ["numbers"] := d7.df X G fun _ _ _ _ _ _ us hl => match us, hl with | [_], _ => rfl
  have D8 : Df K mg "check_slope" sCSlope ["value"] := d8.df X G fun _ _ _ _ _ _ us hl => match us, hl with | [_], _ => rfl
  have D9 : Df K mg "part_at" sPartAt ["slope", "many"] := d9.df X G fun _ _ _ _ _ _ us hl => match us, hl with | [_, _], _ => rfl
  have D10 : Df K mg "neighbours_past" sPast ["slope", "bottom"] := d10.df X G fun _ _ _ _ _ _ us hl => match us, hl with | [_, _], _ => rfl
  have D11 : Df K mg "is_point" sIsPoint ["value"] := d11.df X G fun _ _ _ _ _ _ us hl => match us, hl with | [_], _ => rfl
  have D12 : Df K mg "check_point" sCPoint ["value"] := d12.df X G fun _ _ _ _ _ _ us hl => match us, hl with | [_], _ => rfl
  have D13 : Df K mg "multiple_at" sMult ["slope", "many"] := d13.df X G fun _ _ _ _ _ _ us hl => match us, hl with | [_, _], _ => rfl
  have D14 : Df K mg "whole_at" sWholeAt ["slope", "point"] := d14.df X G fun _ _ _ _ _ _ us hl => match us, hl with | [_, _], _ => rfl
  have D15 : Df K mg "whole_part" sWholePart ["slope", "point"] := d15.df X G fun _ _ _ _ _ _ us hl => match us, hl with | [_, _], _ => rfl
  have D16 : Df K mg "check_day" sCDay ["value"] := d16.df X G fun _ _ _ _ _ _ us hl => match us, hl with | [_], _ => rfl
  have D17 : Df K mg "does_ring" sDoes ["slope", "day"] := d17.df X G fun _ _ _ _ _ _ us hl => match us, hl with | [_, _], _ => rfl
  have D18 : Df K mg "rings" sRings ["slope", "day"] := d18.df X G fun _ _ _ _ _ _ us hl => match us, hl with | [_, _], _ => rfl
  have D19 : Df K mg "_law_spring" sSpring ["_law_script", "_law_at_here"] := d19.df X G fun _ _ _ _ _ _ us hl => match us, hl with | [_, _], _ => rfl
  have D20 : Df K mg "_law_drop" sDrop ["_law_spring_here", "_law_top"] := d20.df X G fun _ _ _ _ _ _ us hl => match us, hl with | [_, _], _ => rfl
  have D21 : Df K mg "_law_pick" sPick ["_law_spring_here", "_law_some"] := d21.df X G fun _ _ _ _ _ _ us hl => match us, hl with | [_, _], _ => rfl
  have D22 : Df K mg "_law_plan" sPlan ["_law_spring_here"] := d22.df X G fun _ _ _ _ _ _ us hl => match us, hl with | [_], _ => rfl
  have D23 : Df K mg "_law_slope" sSlope ["_law_plan_here"] := d23.df X G fun _ _ _ _ _ _ us hl => match us, hl with | [_], _ => rfl
  have D24 : Df K mg "_law_at" sAt ["_law_plan_here", "_law_k"] := d24.df X G fun _ _ _ _ _ _ us hl => match us, hl with | [_, _], _ => rfl
  have D25 : Df K mg "_law_pairs" sPairs ["_law_plan_here", "_law_most"] := d25.df X G fun _ _ _ _ _ _ us hl => match us, hl with | [_, _], _ => rfl
  have D26 : Df K mg "_law_under" sUnder ["_law_pair", "_law_m"] := d26.df X G fun _ _ _ _ _ _ us hl => match us, hl with | [_, _], _ => rfl
  have D27 : Df K mg "_law_row" sRow ["_law_plan_here", "_law_begin", "_law_size"] := d27.df X G fun _ _ _ _ _ _ us hl => match us, hl with | [_, _, _], _ => rfl
  have D28 : Df K mg "_law_right" sRight ["_law_spring_here"] := d28.df X G fun _ _ _ _ _ _ us hl => match us, hl with | [_], _ => rfl
  obtain ⟨f9, oc9, od9, kV9, dc9, pm9, an9, cd9, ct9, sl9, a9, l9, c9, k9⟩ := d29.ex
  have same := hfa.symm.trans (PySem.W.mg_of X G a9)
  cases same
  refine ⟨PySem.W.fnOf "law" "law" (defArgs sLaw) (defBody sLaw) (defScope sLaw) .none kV9 dc9 pm9 an9 cd9 ct9, fun s v => .of_eq rfl, fun base _ _ => ?_⟩
  have i1 := cal_isInt (P := l.prog) (w := w) (base := base) D1 T
  have i2 := cal_between D2 i1
  have i3 := cal_cLead D3 T i2
  have i4 := cal_cLoop D4 T i2
  have i5 := cal_sLoop (P := l.prog) (w := w) (base := base) D5 T
  have i6 := cal_short D6 i5
  have i7 := cal_listed (P := l.prog) (w := w) (base := base) D7 T
  have iS := mak_slope DI CT i3 i4 i6 i7
  have i8 := cal_cSlope (P := l.prog) (w := w) (base := base) D8 T hC CT
  have i9 := cal_partAt (P := l.prog) (w := w) (base := base) D9 T CT
  have i10 := cal_past D10 T i9
  have i11 := cal_isPoint D11 T i2
  have i12 := cal_cPoint D12 i11
  have i13 := cal_mult D13 T i10 (cal_multP D13 T i10)
  have i14 := cal_wholeAt D14 i13
  have i15 := cal_wholePart D15 i8 i12 i14
  have i16 := cal_cDay D16 T i2
  have i17 := cal_does D17 i13
  have i18 := cal_rings D18 i8 i16 i17
  have k18 := kal_rings D18 i8 i16 i17
  have i19 := cal_spring (P := l.prog) (w := w) (base := base) D19 T
  have i20 := cal_drop (P := l.prog) (w := w) (base := base) D20 T
  have i21 := cal_pick D21 T i20
  have i22 := cal_plan D22 T i20 i21
  have i23 := cal_slope D23 iS
  have i24 := cal_at (P := l.prog) (w := w) (base := base) D24 T
  have i25 := cal_pairs D25 T i24
  have i26 := cal_under (P := l.prog) (w := w) (base := base) D26
  have i27 := cal_row D27 T i25 i26
  have i28 := calG_right D28 T i22 i23 i27 i21 i20 i25 i26 i18 k18 i15
  exact fnG_law (fun_mk (st := sLaw) l9 c9 k9) T i19 i28
end
end KD
open PySem PySem.W PyProof.Rows
set_option Elab.async false
set_option maxRecDepth 100000 in
set_option maxHeartbeats 0 in
theorem PySem.Challenge.cw_slopeworld_k15_whole_bells_by_whole_part_holds : PySem.Challenge.rw_slopeworld_k15_whole_bells_by_whole_part.Holds := by
  w_on; o_law; k_head; (case hw => w_witness2)
  k_fill
  refine KG.walkG (l := PySem.Challenge.rw_slopeworld_k15_whole_bells_by_whole_part) (n := 63) (k := 8) (x := "_law_script") (sp := KD.spLaw) rfl (by decide) rfl ⟨rfl, by decide, by decide⟩ (fun w h Y => PySem.W.kIn_of Y) ?F (fun _ _ a ns hl hS => ⟨a, ns, rfl, hS, hl, fun _ => rfl⟩)
  case F =>
    intro w mg fa h KX G hmg
    refine' KD.all_mk KX G hmg ?hn ?htk ?zN ?zC ?d1 ?d2 ?d3 ?d4 ?d5 ?d6 ?d7 ?d8 ?d9 ?d10 ?d11 ?d12 ?d13 ?d14 ?d15 ?d16 ?d17 ?d18 ?d19 ?d20 ?d21 ?d22 ?d23 ?d24 ?d25 ?d26 ?d27 ?d28 ?d29
    (case hn => k_is)
    (case htk => k_is)
    (case zN =>
      refine' KD.mkN ?zf1 ?zf2 ?zf3 ?zf4 ?zf5 ?zf6 ?zf7 ?zf8 ?zf9 ?zf10 ?zf11 ?zf12 ?zf13 ?zf14 ?zy1 ?zy2 ?zy3 ?zy4
      (case zf1 => k_is)
      (case zf2 => k_is)
      (case zf3 => k_is)
      (case zf4 => k_is)
      (case zf5 => k_is)
      (case zf6 => k_is)
      (case zf7 => k_is)
      (case zf8 => k_is)
      (case zf9 => k_is)
      (case zf10 => k_is)
      (case zf11 => k_is)
      (case zf12 => k_is)
      (case zf13 => k_is)
      (case zf14 => k_is)
      (case zy1 => k_is)
      (case zy2 => k_is)
      (case zy3 => k_is)
      (case zy4 => k_is))
    (case zC =>
      refine' KD.mkC ?ca ?ci ?cfn ?cl ?cc ?ck ?ce1 ?ce2 ?ce3 ?ce4 ?ce5 ?ce6 ?ce7 ?ce8 ?ce9 ?ce10
      (case ca => k_is)
      (case ci => k_is)
      (case cfn => k_is)
      (case cl => k_is)
      (case cc => k_is)
      (case ck => k_is)
      (case ce1 => k_is)
      (case ce2 => k_is)
      (case ce3 => k_is)
      (case ce4 => k_is)
      (case ce5 => k_is)
      (case ce6 => k_is)
      (case ce7 => k_is)
      (case ce8 => k_is)
      (case ce9 => k_is)
      (case ce10 => k_is))
    (case d1 =>
      refine' KD.mkD ?qa1 ?ql1 ?qc1 ?qk1
      (case qa1 => k_is)
      (case ql1 => k_is)
      (case qc1 => k_is)
      (case qk1 => k_is))
    (case d2 =>
      refine' KD.mkD ?qa2 ?ql2 ?qc2 ?qk2
      (case qa2 => k_is)
      (case ql2 => k_is)
      (case qc2 => k_is)
      (case qk2 => k_is))
    (case d3 =>
      refine' KD.mkD ?qa3 ?ql3 ?qc3 ?qk3
      (case qa3 => k_is)
      (case ql3 => k_is)
      (case qc3 => k_is)
      (case qk3 => k_is))
    (case d4 =>
      refine' KD.mkD ?qa4 ?ql4 ?qc4 ?qk4
      (case qa4 => k_is)
      (case ql4 => k_is)
      (case qc4 => k_is)
      (case qk4 => k_is))
    (case d5 =>
      refine' KD.mkD ?qa5 ?ql5 ?qc5 ?qk5
      (case qa5 => k_is)
      (case ql5 => k_is)
      (case qc5 => k_is)
      (case qk5 => k_is))
    (case d6 =>
      refine' KD.mkD ?qa6 ?ql6 ?qc6 ?qk6
      (case qa6 => k_is)
      (case ql6 => k_is)
      (case qc6 => k_is)
      (case qk6 => k_is))
    (case d7 =>
      refine' KD.mkD ?qa7 ?ql7 ?qc7 ?qk7
      (case qa7 => k_is)
      (case ql7 => k_is)
      (case qc7 => k_is)
      (case qk7 => k_is))
    (case d8 =>
      refine' KD.mkD ?qa8 ?ql8 ?qc8 ?qk8
      (case qa8 => k_is)
      (case ql8 => k_is)
      (case qc8 => k_is)
      (case qk8 => k_is))
    (case d9 =>
      refine' KD.mkD ?qa9 ?ql9 ?qc9 ?qk9
      (case qa9 => k_is)
      (case ql9 => k_is)
      (case qc9 => k_is)
      (case qk9 => k_is))
    (case d10 =>
      refine' KD.mkD ?qa10 ?ql10 ?qc10 ?qk10
      (case qa10 => k_is)
      (case ql10 => k_is)
      (case qc10 => k_is)
      (case qk10 => k_is))
    (case d11 =>
      refine' KD.mkD ?qa11 ?ql11 ?qc11 ?qk11
      (case qa11 => k_is)
      (case ql11 => k_is)
      (case qc11 => k_is)
      (case qk11 => k_is))
    (case d12 =>
      refine' KD.mkD ?qa12 ?ql12 ?qc12 ?qk12
      (case qa12 => k_is)
      (case ql12 => k_is)
      (case qc12 => k_is)
      (case qk12 => k_is))
    (case d13 =>
      refine' KD.mkD ?qa13 ?ql13 ?qc13 ?qk13
      (case qa13 => k_is)
      (case ql13 => k_is)
      (case qc13 => k_is)
      (case qk13 => k_is))
    (case d14 =>
      refine' KD.mkD ?qa14 ?ql14 ?qc14 ?qk14
      (case qa14 => k_is)
      (case ql14 => k_is)
      (case qc14 => k_is)
      (case qk14 => k_is))
    (case d15 =>
      refine' KD.mkD ?qa15 ?ql15 ?qc15 ?qk15
      (case qa15 => k_is)
      (case ql15 => k_is)
      (case qc15 => k_is)
      (case qk15 => k_is))
    (case d16 =>
      refine' KD.mkD ?qa16 ?ql16 ?qc16 ?qk16
      (case qa16 => k_is)
      (case ql16 => k_is)
      (case qc16 => k_is)
      (case qk16 => k_is))
    (case d17 =>
      refine' KD.mkD ?qa17 ?ql17 ?qc17 ?qk17
      (case qa17 => k_is)
      (case ql17 => k_is)
      (case qc17 => k_is)
      (case qk17 => k_is))
    (case d18 =>
      refine' KD.mkD ?qa18 ?ql18 ?qc18 ?qk18
      (case qa18 => k_is)
      (case ql18 => k_is)
      (case qc18 => k_is)
      (case qk18 => k_is))
    (case d19 =>
      refine' KD.mkD ?qa19 ?ql19 ?qc19 ?qk19
      (case qa19 => k_is)
      (case ql19 => k_is)
      (case qc19 => k_is)
      (case qk19 => k_is))
    (case d20 =>
      refine' KD.mkD ?qa20 ?ql20 ?qc20 ?qk20
      (case qa20 => k_is)
      (case ql20 => k_is)
      (case qc20 => k_is)
      (case qk20 => k_is))
    (case d21 =>
      refine' KD.mkD ?qa21 ?ql21 ?qc21 ?qk21
      (case qa21 => k_is)
      (case ql21 => k_is)
      (case qc21 => k_is)
      (case qk21 => k_is))
    (case d22 =>
      refine' KD.mkD ?qa22 ?ql22 ?qc22 ?qk22
      (case qa22 => k_is)
      (case ql22 => k_is)
      (case qc22 => k_is)
      (case qk22 => k_is))
    (case d23 =>
      refine' KD.mkD ?qa23 ?ql23 ?qc23 ?qk23
      (case qa23 => k_is)
      (case ql23 => k_is)
      (case qc23 => k_is)
      (case qk23 => k_is))
    (case d24 =>
      refine' KD.mkD ?qa24 ?ql24 ?qc24 ?qk24
      (case qa24 => k_is)
      (case ql24 => k_is)
      (case qc24 => k_is)
      (case qk24 => k_is))
    (case d25 =>
      refine' KD.mkD ?qa25 ?ql25 ?qc25 ?qk25
      (case qa25 => k_is)
      (case ql25 => k_is)
      (case qc25 => k_is)
      (case qk25 => k_is))
    (case d26 =>
      refine' KD.mkD ?qa26 ?ql26 ?qc26 ?qk26
      (case qa26 => k_is)
      (case ql26 => k_is)
      (case qc26 => k_is)
      (case qk26 => k_is))
    (case d27 =>
      refine' KD.mkD ?qa27 ?ql27 ?qc27 ?qk27
      (case qa27 => k_is)
      (case ql27 => k_is)
      (case qc27 => k_is)
      (case qk27 => k_is))
    (case d28 =>
      refine' KD.mkD ?qa28 ?ql28 ?qc28 ?qk28
      (case qa28 => k_is)
      (case ql28 => k_is)
      (case qc28 => k_is)
      (case qk28 => k_is))
    (case d29 =>
      refine' KD.mkD ?qa29 ?ql29 ?qc29 ?qk29
      (case qa29 => k_is)
      (case ql29 => k_is)
      (case qc29 => k_is)
      (case qk29 => k_is))
