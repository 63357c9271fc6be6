import PyProof.Rows.All
import Wide.All
import OpenK.AllK
import Wide.FinOn
import HandS.ForMost
import HandS.ForExc
import HandS.Evl
import HandS.Wide
import HandS.WideBits
import HandS.IsInst
import HandS.ClsMeth
import HandS.Defaults
import HandS.EndBits
import HandS.More
import HandS.Rev
import HandS.RevTup
import PySem.Challenge.RW_marksteps_k03_one_turn
set_option Elab.async false
set_option linter.all false
set_option maxRecDepth 100000
set_option maxHeartbeats 4000000
namespace Mk
/-! ### turning lists: rows by places -/
/-- the row at a place -/
def trow (s : Int) : Nat → Int → List Int
  | 0, _ => []
  | n + 1, p => (p % s - p / s % s) % s :: trow s n (p / s)
/-- the place of a row -/
def tplace (s : Int) : List Int → Int
  | [] => 0
  | m :: r => tplace s r * s + (tplace s r % s + m) % s
/-- where the next row differs -/
def tspot (s : Int) : Nat → Int → Nat
  | 0, _ => 0
  | 1, _ => 0
  | n + 2, p => if p % s = s - 1 then tspot s (n + 1) (p / s) + 1 else 0
def Marks (s : Int) (l : List Int) : Prop := ∀ m ∈ l, 0 ≤ m ∧ m < s

theorem trow_len (s : Int) : ∀ (n : Nat) (p : Int), (trow s n p).length = n
  | 0, _ => rfl
  | n + 1, p => by
    show (trow s n (p / s)).length + 1 = n + 1
    rw [trow_len s n]
theorem trow_marks {s : Int} (hs : 0 < s) : ∀ (n : Nat) (p : Int), Marks s (trow s n p)
  | 0, _, m, h => by cases h
  | n + 1, p, m, h => by
    rcases List.mem_cons.mp h with h | h
    · subst h
      exact ⟨Int.emod_nonneg _ (by omega), Int.emod_lt_of_pos _ hs⟩
    · exact trow_marks hs n _ m h

theorem pow_succ' (s : Int) (n : Nat) : s ^ (n + 1) = s ^ n * s := Int.pow_succ s n
theorem pow_pos' {s : Int} (hs : 0 < s) (n : Nat) : 0 < s ^ n := Int.pow_pos hs
theorem div_lt_pow {s p : Int} {n : Nat} (hs : 0 < s) (h : p < s ^ (n + 1)) : p / s < s ^ n := by
  rw [Int.pow_succ] at h
  exact Int.ediv_lt_of_lt_mul hs h
theorem div_nonneg' {s p : Int} (hs : 0 < s) (h : 0 ≤ p) : 0 ≤ p / s := Int.ediv_nonneg h (Int.le_of_lt hs)
theorem div_parts (p s : Int) : p / s * s + p % s = p := by
  have h := Int.ediv_mul_add_emod p s
  omega
theorem add_mod_left (a b s : Int) : (a % s + b) % s = (a + b) % s := Int.emod_add_emod a s b
theorem add_mod_right (a b s : Int) : (a + b % s) % s = (a + b) % s := Int.add_emod_emod a b s
theorem tplace_trow {s : Int} (hs : 0 < s) : ∀ (n : Nat) (p : Int), 0 ≤ p → p < s ^ n → tplace s (trow s n p) = p
  | 0, p, h0, h1 => by
    have : (s ^ 0 : Int) = 1 := Int.pow_zero s
    show (0 : Int) = p
    omega
  | n + 1, p, h0, h1 => by
    have ih := tplace_trow hs n (p / s) (div_nonneg' hs h0) (div_lt_pow hs h1)
    show tplace s (trow s n (p / s)) * s + (tplace s (trow s n (p / s)) % s + (p % s - p / s % s) % s) % s = p
    rw [ih, add_mod_right]
    have e : p / s % s + (p % s - p / s % s) = p % s := by omega
    rw [e, Int.emod_emod_of_dvd _ (Int.dvd_refl s)]
    exact div_parts p s
theorem mul_add_div {q r s : Int} (hs : 0 < s) (h0 : 0 ≤ r) (h1 : r < s) : (q * s + r) / s = q := by
  rw [Int.add_comm, Int.add_mul_ediv_right _ _ (by omega), Int.ediv_eq_zero_of_lt h0 h1]
  omega
theorem mul_add_mod {q r s : Int} (hs : 0 < s) (h0 : 0 ≤ r) (h1 : r < s) : (q * s + r) % s = r := by
  rw [Int.add_comm, Int.add_mul_emod_self_right, Int.emod_eq_of_lt h0 h1]
theorem trow_tplace {s : Int} (hs : 0 < s) : ∀ (l : List Int), Marks s l → trow s l.length (tplace s l) = l
  | [], _ => rfl
  | m :: r, h => by
    have ih := trow_tplace hs r fun x hx => h x (List.mem_cons_of_mem _ hx)
    obtain ⟨m0, m1⟩ := h m List.mem_cons_self
    show ((tplace s r * s + (tplace s r % s + m) % s) % s - (tplace s r * s + (tplace s r % s + m) % s) / s % s) % s :: trow s r.length ((tplace s r * s + (tplace s r % s + m) % s) / s) = m :: r
    have a0 := Int.emod_nonneg (tplace s r % s + m) (show s ≠ 0 by omega)
    have a1 := Int.emod_lt_of_pos (tplace s r % s + m) hs
    rw [mul_add_div hs a0 a1, mul_add_mod hs a0 a1, ih]
    have e : ((tplace s r % s + m) % s - tplace s r % s) % s = m := by
      rw [show (tplace s r % s + m) % s - tplace s r % s = (tplace s r % s + m) % s + -(tplace s r % s) by omega, add_mod_left]
      rw [show tplace s r % s + m + -(tplace s r % s) = m by omega]
      exact Int.emod_eq_of_lt m0 m1
    rw [e]
theorem tplace_nonneg {s : Int} (hs : 0 < s) : ∀ (l : List Int), 0 ≤ tplace s l
  | [] => Int.le_refl 0
  | m :: r => by
    have a0 := Int.emod_nonneg (tplace s r % s + m) (show s ≠ 0 by omega)
    have := Int.mul_nonneg (tplace_nonneg hs r) (Int.le_of_lt hs)
    show 0 ≤ tplace s r * s + (tplace s r % s + m) % s
    omega
theorem tplace_lt {s : Int} (hs : 0 < s) : ∀ (l : List Int), tplace s l < s ^ l.length
  | [] => by
    show (0 : Int) < s ^ 0
    exact Int.pow_pos hs
  | m :: r => by
    have a1 := Int.emod_lt_of_pos (tplace s r % s + m) hs
    have ih := tplace_lt hs r
    show tplace s r * s + (tplace s r % s + m) % s < s ^ (r.length + 1)
    rw [Int.pow_succ]
    have h : (tplace s r + 1) * s ≤ s ^ r.length * s := Int.mul_le_mul_of_nonneg_right (by omega) (by omega)
    rw [Int.add_mul] at h
    omega
theorem tplace_inj {s : Int} (hs : 0 < s) {l l' : List Int} (h : Marks s l) (h' : Marks s l') (e : l.length = l'.length) (q : tplace s l = tplace s l') : l = l' := by
  rw [← trow_tplace hs l h, ← trow_tplace hs l' h', e, q]
theorem trow_inj {s : Int} (hs : 0 < s) {n : Nat} {p q : Int} (p0 : 0 ≤ p) (p1 : p < s ^ n) (q0 : 0 ≤ q) (q1 : q < s ^ n) (e : trow s n p = trow s n q) : p = q := by
  rw [← tplace_trow hs n p p0 p1, ← tplace_trow hs n q q0 q1, e]
/-! the figures -/
theorem trow_get {s : Int} (hs : 0 < s) : ∀ (n : Nat) (p : Int) (k : Nat), k < n → (trow s n p)[k]? = some ((p / s ^ k % s - p / s ^ (k + 1) % s) % s)
  | n + 1, p, 0, _ => by
    show some _ = _
    rw [Int.pow_zero, Int.ediv_one, show s ^ (0 + 1) = s from by rw [Int.pow_succ, Int.pow_zero, Int.one_mul]]
  | n + 1, p, k + 1, h => by
    show (trow s n (p / s))[k]? = _
    rw [trow_get hs n (p / s) k (by omega)]
    rw [Int.ediv_ediv_of_nonneg (Int.le_of_lt hs), Int.ediv_ediv_of_nonneg (Int.le_of_lt hs)]
    rw [show s * s ^ k = s ^ (k + 1) from by rw [Int.pow_succ, Int.mul_comm], show s * s ^ (k + 1) = s ^ (k + 1 + 1) from by rw [Int.pow_succ s (k + 1), Int.mul_comm]]
/-! the next row -/
theorem tspot_lt (s : Int) : ∀ (n : Nat) (p : Int), 0 < n → tspot s n p < n
  | 1, _, _ => Nat.one_pos
  | n + 2, p, _ => by
    unfold tspot
    split
    · have := tspot_lt s (n + 1) (p / s) (Nat.succ_pos n)
      omega
    · omega
theorem mul_mod_mul {a b s : Int} (hs : 0 < s) : a * s % (b * s) = a % b * s := by
  rw [Int.mul_comm a s, Int.mul_comm b s, Int.mul_emod_mul_of_pos _ _ hs, Int.mul_comm]
theorem next_div {s p : Int} {n : Nat} (hs : 1 < s) (h0 : 0 ≤ p) (h1 : p < s ^ (n + 1)) (hm : p % s = s - 1) : (p + 1) % s ^ (n + 1) / s = (p / s + 1) % s ^ n ∧ (p + 1) % s ^ (n + 1) % s = 0 := by
  have hp := div_parts p s
  have e1 : p + 1 = (p / s + 1) * s := by
    rw [Int.add_mul]
    omega
  rw [e1, Int.pow_succ, mul_mod_mul (by omega)]
  exact ⟨Int.mul_ediv_cancel _ (by omega), Int.mul_emod_left _ _⟩
theorem trow_next {s : Int} (hs : 1 < s) : ∀ (n : Nat) (p : Int), 0 < n → 0 ≤ p → p < s ^ n →
    trow s n ((p + 1) % s ^ n) = (trow s n p).modify (tspot s n p) fun m => (m + 1) % s
  | 1, p, _, h0, h1 => by
    rw [show s ^ 1 = s by rw [Int.pow_succ, Int.pow_zero, Int.one_mul]] at *
    have z : ∀ q : Int, 0 ≤ q → q < s → trow s 1 q = [q] := fun q q0 q1 => by
      show [(q % s - q / s % s) % s] = [q]
      rw [Int.ediv_eq_zero_of_lt q0 q1, Int.zero_emod, Int.emod_eq_of_lt q0 q1, Int.sub_zero, Int.emod_eq_of_lt q0 q1]
    rw [z p h0 h1, z _ (Int.emod_nonneg _ (by omega)) (Int.emod_lt_of_pos _ (by omega))]
    rfl
  | n + 2, p, _, h0, h1 => by
    have hp := div_parts p s
    have m0 := Int.emod_nonneg p (show s ≠ 0 by omega)
    have m1 := Int.emod_lt_of_pos p (show 0 < s by omega)
    by_cases hm : p % s = s - 1
    · obtain ⟨e1, e2⟩ := next_div (n := n + 1) hs h0 h1 hm
      have ih := trow_next hs (n + 1) (p / s) (Nat.succ_pos n) (div_nonneg' (by omega) h0) (div_lt_pow (by omega) h1)
      have es : tspot s (n + 2) p = tspot s (n + 1) (p / s) + 1 := if_pos hm
      rw [es]
      show ((p + 1) % s ^ (n + 1 + 1) % s - (p + 1) % s ^ (n + 1 + 1) / s % s) % s :: trow s (n + 1) ((p + 1) % s ^ (n + 1 + 1) / s) = (p % s - p / s % s) % s :: (trow s (n + 1) (p / s)).modify (tspot s (n + 1) (p / s)) fun m => (m + 1) % s
      rw [e1, e2, ih, hm]
      congr 1
      rw [Int.emod_emod_of_dvd _ ⟨s ^ n, by rw [Int.pow_succ, Int.mul_comm]⟩]
      rw [show (0 : Int) - (p / s + 1) % s = 0 + -((p / s + 1) % s) by omega]
      have k1 : (s - 1 - p / s % s) % s = (s - 1 - p / s) % s := by
        rw [Int.sub_emod, Int.emod_emod_of_dvd _ (Int.dvd_refl s), ← Int.sub_emod]
      have k2 : (0 + -((p / s + 1) % s)) % s = (-(p / s + 1)) % s := by
        rw [show (0 : Int) + -((p / s + 1) % s) = 0 - (p / s + 1) % s by omega, Int.sub_emod, Int.emod_emod_of_dvd _ (Int.dvd_refl s), ← Int.sub_emod]
        congr 1
        omega
      rw [k1, k2, show s - 1 - p / s = -(p / s + 1) + s by omega, Int.add_emod_right]
    · have es : tspot s (n + 2) p = 0 := if_neg hm
      have d1 : (p + 1) / s = p / s := by
        conv => lhs; rw [show p + 1 = p / s * s + (p % s + 1) by omega]
        exact mul_add_div (by omega) (by omega) (by omega)
      have d2 : (p + 1) % s = p % s + 1 := by
        conv => lhs; rw [show p + 1 = p / s * s + (p % s + 1) by omega]
        exact mul_add_mod (by omega) (by omega) (by omega)
      have lt : p + 1 < s ^ (n + 1 + 1) := by
        have q := div_lt_pow (n := n + 1) (show 0 < s by omega) h1
        have t : (p / s + 1) * s ≤ s ^ (n + 1) * s := Int.mul_le_mul_of_nonneg_right (by omega) (by omega)
        have t2 : (p / s + 1) * s = p / s * s + s := by rw [Int.add_mul, Int.one_mul]
        rw [Int.pow_succ s (n + 1)]
        omega
      rw [es, Int.emod_eq_of_lt (by omega) lt]
      show ((p + 1) % s - (p + 1) / s % s) % s :: trow s (n + 1) ((p + 1) / s) = ((p % s - p / s % s) % s + 1) % s :: trow s (n + 1) (p / s)
      rw [d1, d2, add_mod_left]
      congr 2
      omega
end Mk
namespace Mk
/-! ### choosing lists -/
/-- how many rows -/
def bin : Nat → Nat → Nat
  | _, 0 => 1
  | 0, _ + 1 => 0
  | n + 1, k + 1 => bin n k + bin n (k + 1)
theorem bin_zero (n : Nat) : bin n 0 = 1 := by cases n <;> rfl
theorem bin_over : ∀ (n k : Nat), n < k → bin n k = 0
  | 0, k + 1, _ => rfl
  | n + 1, k + 1, h => by
    show bin n k + bin n (k + 1) = 0
    rw [bin_over n k (by omega), bin_over n (k + 1) (by omega)]
theorem bin_self : ∀ n : Nat, bin n n = 1
  | 0 => rfl
  | n + 1 => by
    show bin n n + bin n (n + 1) = 1
    rw [bin_self n, bin_over n (n + 1) (by omega)]
theorem bin_pos : ∀ (n k : Nat), k ≤ n → 0 < bin n k
  | n, 0, _ => by rw [bin_zero]; omega
  | n + 1, k + 1, h => by
    have := bin_pos n k (by omega)
    show 0 < bin n k + bin n (k + 1)
    omega
theorem bin_succ (n k : Nat) : bin (n + 1) (k + 1) = bin n k + bin n (k + 1) := rfl
/-- (k + 1) * bin n (k + 1) = (n - k) * bin n k, over the ints -/
theorem bin_up : ∀ (n k : Nat), (bin n (k + 1) : Int) * ((k : Int) + 1) = (bin n k : Int) * ((n : Int) - (k : Int))
  | 0, 0 => rfl
  | 0, k + 1 => by
    show ((0 : Nat) : Int) * _ = ((0 : Nat) : Int) * _
    omega
  | n + 1, 0 => by
    have ih := bin_up n 0
    rw [bin_succ, bin_zero, bin_zero] at *
    simp only [Int.natCast_add, Int.natCast_one, Int.natCast_zero] at *
    omega
  | n + 1, k + 1 => by
    have i1 := bin_up n k
    have i2 := bin_up n (k + 1)
    rw [bin_succ n (k + 1), bin_succ n k]
    simp only [Int.natCast_add, Int.natCast_one] at *
    generalize (bin n k : Int) = a at *
    generalize (bin n (k + 1) : Int) = b at *
    generalize (bin n (k + 1 + 1) : Int) = c at *
    generalize (n : Int) = m at *
    generalize (k : Int) = j at *
    -- b (j+1) = a (m-j); c (j+2) = b (m-j-1); goal (b + c) (j+2) = (a+b)(m+1-j-1)
    have e1 : (b + c) * (j + 1 + 1) = b * (j + 1) + b + c * (j + 1 + 1) := by
      rw [Int.add_mul b c, Int.mul_add b (j + 1) 1, Int.mul_one]
    have e2 : (a + b) * (m + 1 - (j + 1)) = a * (m - j) + b * (m - (j + 1)) + b := by
      rw [show m + 1 - (j + 1) = m - j by omega, Int.add_mul, show m - j = m - (j + 1) + 1 by omega, Int.mul_add b, Int.mul_one]
      omega
    omega
/-- n-th times: bin (n + 1) k * (n + 1 - k) = bin n k * (n + 1) -/
theorem bin_down (n k : Nat) : (bin (n + 1) k : Int) * ((n : Int) + 1 - (k : Int)) = (bin n k : Int) * ((n : Int) + 1) := by
  cases k with
  | zero =>
    rw [bin_zero, bin_zero]
    simp only [Int.natCast_zero]
    omega
  | succ k =>
    have i1 := bin_up n k
    rw [bin_succ]
    simp only [Int.natCast_add, Int.natCast_one] at *
    generalize (bin n k : Int) = a at *
    generalize (bin n (k + 1) : Int) = b at *
    generalize (n : Int) = m at *
    generalize (k : Int) = j at *
    have e1 : (a + b) * (m + 1 - (j + 1)) = a * (m - j) + b * (m - j) := by
      rw [show m + 1 - (j + 1) = m - j by omega, Int.add_mul]
    have e2 : b * (m + 1) = b * (m - j) + b * (j + 1) := by
      rw [← Int.mul_add]
      congr 1
      omega
    omega
/-- bin (n + 1) (k + 1) * (k + 1) = bin n k * (n + 1) -/
theorem bin_diag (n k : Nat) : (bin (n + 1) (k + 1) : Int) * ((k : Int) + 1) = (bin n k : Int) * ((n : Int) + 1) := by
  have i1 := bin_up n k
  rw [bin_succ]
  simp only [Int.natCast_add, Int.natCast_one] at *
  generalize (bin n k : Int) = a at *
  generalize (bin n (k + 1) : Int) = b at *
  generalize (n : Int) = m at *
  generalize (k : Int) = j at *
  have e1 : (a + b) * (j + 1) = a * (j + 1) + b * (j + 1) := Int.add_mul _ _ _
  have e2 : a * (m + 1) = a * (m - j) + a * (j + 1) := by
    rw [← Int.mul_add]
    congr 1
    omega
  omega
theorem bin_symm : ∀ (n k : Nat), k ≤ n → bin n (n - k) = bin n k
  | 0, 0, _ => rfl
  | n + 1, 0, _ => by
    rw [Nat.sub_zero, bin_self, bin_zero]
  | n + 1, k + 1, h => by
    have e : n + 1 - (k + 1) = n - k := by omega
    rw [e]
    by_cases hk : n - k = 0
    · have : k = n := by omega
      subst this
      rw [hk, bin_zero, bin_self]
    · obtain ⟨j, hj⟩ : ∃ j, n - k = j + 1 := ⟨n - k - 1, by omega⟩
      rw [hj, bin_succ, bin_succ]
      have a := bin_symm n k (by omega)
      have b := bin_symm n (k + 1) (by omega)
      rw [hj] at a
      rw [show n - (k + 1) = j by omega] at b
      omega
theorem bin_le_pow : ∀ (n k : Nat), bin n k ≤ 2 ^ n
  | n, 0 => by rw [bin_zero]; exact Nat.one_le_two_pow
  | 0, k + 1 => Nat.zero_le _
  | n + 1, k + 1 => by
    have a := bin_le_pow n k
    have b := bin_le_pow n (k + 1)
    rw [bin_succ, Nat.pow_succ]
    omega
/-- exact divisions -/
theorem div_exact {a b c : Int} (hb : 0 < b) (h : c * b = a) : a / b = c := by
  rw [← h]
  exact Int.mul_ediv_cancel _ (by omega)
theorem bin_up_div (n k : Nat) : (bin n k : Int) * ((n : Int) - (k : Int)) / ((k : Int) + 1) = (bin n (k + 1) : Int) := div_exact (by omega) (bin_up n k)
theorem bin_down_div (n k : Nat) : (bin (n + 1) k : Int) * ((n : Int) + 1 - (k : Int)) / ((n : Int) + 1) = (bin n k : Int) := by
  rw [bin_down]
  exact Int.mul_ediv_cancel _ (by omega)
theorem bin_zero_div (n k : Nat) (h : k ≤ n) : (bin n k : Int) * ((n : Int) + 1) / ((n : Int) + 1 - (k : Int)) = (bin (n + 1) k : Int) := div_exact (by omega) (bin_down n k)
theorem bin_one_div (n k : Nat) : (bin n k : Int) * ((n : Int) + 1) / ((k : Int) + 1) = (bin (n + 1) (k + 1) : Int) := div_exact (by omega) (bin_diag n k)

/-! ### rows of ones -/
/-- a row is told from its last spot on: crev n k p is the row at the place p, backwards -/
def crev : Nat → Nat → Int → List Int
  | 0, _, _ => []
  | n + 1, k, p => if p < (bin n k : Int) then 0 :: crev n k p else 1 :: crev n (k - 1) ((bin (n + 1) k : Int) - 1 - p)
/-- the place of a row told backwards, and its ones -/
def ones : List Int → Nat
  | [] => 0
  | m :: r => if m = 1 then ones r + 1 else ones r
def cpl : List Int → Int
  | [] => 0
  | m :: r => if m = 1 then (bin (r.length + 1) (ones r + 1) : Int) - 1 - cpl r else cpl r
theorem ones_cons (m : Int) (r : List Int) : ones (m :: r) = if m = 1 then ones r + 1 else ones r := rfl
theorem cpl_cons (m : Int) (r : List Int) : cpl (m :: r) = if m = 1 then (bin (r.length + 1) (ones r + 1) : Int) - 1 - cpl r else cpl r := rfl
def Bits (l : List Int) : Prop := ∀ m ∈ l, m = 0 ∨ m = 1
def crow (n k : Nat) (p : Int) : List Int := (crev n k p).reverse
def cplace (l : List Int) : Int := cpl l.reverse
theorem crev_len : ∀ (n k : Nat) (p : Int), (crev n k p).length = n
  | 0, _, _ => rfl
  | n + 1, k, p => by
    unfold crev
    split
    · exact congrArg (· + 1) (crev_len n k p)
    · exact congrArg (· + 1) (crev_len n (k - 1) _)
theorem crev_bits : ∀ (n k : Nat) (p : Int), Bits (crev n k p)
  | 0, _, _, _, h => by cases h
  | n + 1, k, p, m, h => by
    unfold crev at h
    split at h
    · rcases List.mem_cons.mp h with h | h
      · exact .inl h
      · exact crev_bits n k p m h
    · rcases List.mem_cons.mp h with h | h
      · exact .inr h
      · exact crev_bits n (k - 1) _ m h
theorem ones_le : ∀ l : List Int, ones l ≤ l.length
  | [] => Nat.le_refl _
  | m :: r => by
    have := ones_le r
    unfold ones
    rw [List.length_cons]
    split <;> omega
/-- what a turn of row_at needs -/
theorem crev_low {n k : Nat} {p : Int} (h : p < (bin n k : Int)) : crev (n + 1) k p = 0 :: crev n k p := if_pos h
theorem crev_high {n k : Nat} {p : Int} (h : ¬ p < (bin n k : Int)) : crev (n + 1) k p = 1 :: crev n (k - 1) ((bin (n + 1) k : Int) - 1 - p) := if_neg h
theorem high_one {n k : Nat} {p : Int} (h : ¬ p < (bin n k : Int)) (h1 : p < (bin (n + 1) k : Int)) : ∃ j, k = j + 1 := by
  cases k with
  | zero =>
    rw [bin_zero] at *
    omega
  | succ j => exact ⟨j, rfl⟩
theorem crev_ones : ∀ (n k : Nat) (p : Int), 0 ≤ p → p < (bin n k : Int) → ones (crev n k p) = k
  | 0, k, p, h0, h1 => by
    cases k with
    | zero => rfl
    | succ k =>
      have : (bin 0 (k + 1) : Int) = 0 := rfl
      omega
  | n + 1, k, p, h0, h1 => by
    by_cases h : p < (bin n k : Int)
    · rw [crev_low h]
      exact crev_ones n k p h0 h
    · obtain ⟨j, rfl⟩ := high_one h h1
      rw [crev_high h]
      have e := bin_succ n j
      show ones (crev n j _) + 1 = j + 1
      rw [crev_ones n j _ (by omega) (by omega)]
theorem cpl_nonneg_lt : ∀ l : List Int, 0 ≤ cpl l ∧ cpl l < (bin l.length (ones l) : Int)
  | [] => ⟨Int.le_refl 0, by decide⟩
  | m :: r => by
    obtain ⟨a, b⟩ := cpl_nonneg_lt r
    have e := bin_succ r.length (ones r)
    rw [cpl_cons, ones_cons, List.length_cons]
    split
    · omega
    · have : bin r.length (ones r) ≤ bin (r.length + 1) (ones r) := by
        cases ones r with
        | zero => rw [bin_zero, bin_zero]; omega
        | succ j => rw [bin_succ]; omega
      omega
theorem cpl_crev : ∀ (n k : Nat) (p : Int), 0 ≤ p → p < (bin n k : Int) → cpl (crev n k p) = p
  | 0, k, p, h0, h1 => by
    show (0 : Int) = p
    cases k with
    | zero =>
      have : (bin 0 0 : Int) = 1 := rfl
      omega
    | succ k =>
      have : (bin 0 (k + 1) : Int) = 0 := rfl
      omega
  | n + 1, k, p, h0, h1 => by
    by_cases h : p < (bin n k : Int)
    · rw [crev_low h]
      exact cpl_crev n k p h0 h
    · obtain ⟨j, rfl⟩ := high_one h h1
      rw [crev_high h]
      have e := bin_succ n j
      have b0 : (0 : Int) ≤ (bin (n + 1) (j + 1) : Int) - 1 - p := by omega
      have b1 : (bin (n + 1) (j + 1) : Int) - 1 - p < (bin n j : Int) := by omega
      show (bin ((crev n j _).length + 1) (ones (crev n j _) + 1) : Int) - 1 - cpl (crev n j _) = p
      rw [crev_len, crev_ones n j _ b0 b1, cpl_crev n j _ b0 b1]
      omega
theorem crev_cpl : ∀ (l : List Int), Bits l → crev l.length (ones l) (cpl l) = l
  | [], _ => rfl
  | m :: r, h => by
    have hr : Bits r := fun x hx => h x (List.mem_cons_of_mem _ hx)
    have ih := crev_cpl r hr
    obtain ⟨a, b⟩ := cpl_nonneg_lt r
    have e := bin_succ r.length (ones r)
    rcases h m List.mem_cons_self with rfl | rfl
    · show crev (r.length + 1) (ones r) (cpl r) = 0 :: r
      rw [crev_low b, ih]
    · show crev (r.length + 1) (ones r + 1) ((bin (r.length + 1) (ones r + 1) : Int) - 1 - cpl r) = 1 :: r
      have hn : ¬ (bin (r.length + 1) (ones r + 1) : Int) - 1 - cpl r < (bin r.length (ones r + 1) : Int) := by omega
      rw [crev_high hn, show ones r + 1 - 1 = ones r from rfl]
      rw [show (bin (r.length + 1) (ones r + 1) : Int) - 1 - ((bin (r.length + 1) (ones r + 1) : Int) - 1 - cpl r) = cpl r by omega, ih]
/-! forwards -/
theorem ones_append : ∀ (l r : List Int), ones (l ++ r) = ones l + ones r
  | [], r => by simp [ones]
  | m :: l, r => by
    have ih := ones_append l r
    rw [List.cons_append, ones_cons, ones_cons, ih]
    split <;> omega
theorem ones_reverse : ∀ l : List Int, ones l.reverse = ones l
  | [] => rfl
  | m :: r => by
    rw [List.reverse_cons, ones_append, ones_reverse r]
    show _ + (if m = 1 then 0 + 1 else 0) = if m = 1 then ones r + 1 else ones r
    split <;> omega
theorem bits_reverse {l : List Int} (h : Bits l) : Bits l.reverse := fun m hm => h m (List.mem_reverse.mp hm)
theorem crow_len (n k : Nat) (p : Int) : (crow n k p).length = n := by
  unfold crow
  rw [List.length_reverse, crev_len]
theorem crow_bits (n k : Nat) (p : Int) : Bits (crow n k p) := bits_reverse (crev_bits n k p)
theorem crow_ones {n k : Nat} {p : Int} (h0 : 0 ≤ p) (h1 : p < (bin n k : Int)) : ones (crow n k p) = k := by
  unfold crow
  rw [ones_reverse, crev_ones n k p h0 h1]
theorem cplace_crow {n k : Nat} {p : Int} (h0 : 0 ≤ p) (h1 : p < (bin n k : Int)) : cplace (crow n k p) = p := by
  unfold cplace crow
  rw [List.reverse_reverse, cpl_crev n k p h0 h1]
theorem crow_cplace {l : List Int} (h : Bits l) : crow l.length (ones l) (cplace l) = l := by
  have e := crev_cpl l.reverse (bits_reverse h)
  rw [List.length_reverse, ones_reverse] at e
  unfold crow cplace
  rw [e, List.reverse_reverse]
theorem cplace_nonneg (l : List Int) : 0 ≤ cplace l := (cpl_nonneg_lt l.reverse).1
theorem cplace_lt (l : List Int) : cplace l < (bin l.length (ones l) : Int) := by
  have h := (cpl_nonneg_lt l.reverse).2
  rw [List.length_reverse, ones_reverse] at h
  exact h
theorem cplace_inj {l l' : List Int} (h : Bits l) (h' : Bits l') (e : l.length = l'.length) (o : ones l = ones l') (q : cplace l = cplace l') : l = l' := by
  rw [← crow_cplace h, ← crow_cplace h', e, o, q]
/-- one more spot behind -/
theorem cplace_zero (l : List Int) : cplace (l ++ [0]) = cplace l := by
  unfold cplace
  rw [List.reverse_append]
  rfl
theorem cplace_one (l : List Int) : cplace (l ++ [1]) = (bin (l.length + 1) (ones l + 1) : Int) - 1 - cplace l := by
  unfold cplace
  rw [List.reverse_append]
  show (bin (l.reverse.length + 1) (ones l.reverse + 1) : Int) - 1 - cpl l.reverse = _
  rw [List.length_reverse, ones_reverse]
/-- ones and sums -/
theorem bits_sum : ∀ {l : List Int}, Bits l → l.sum = (ones l : Int)
  | [], _ => rfl
  | m :: r, h => by
    have ih := bits_sum (l := r) fun x hx => h x (List.mem_cons_of_mem _ hx)
    rw [List.sum_cons, ih]
    rcases h m List.mem_cons_self with rfl | rfl
    · show (0 : Int) + ones r = (ones r : Int)
      omega
    · show (1 : Int) + ones r = ((ones r + 1 : Nat) : Int)
      omega
/-! ### spots that differ -/
theorem filter_one : ∀ (n j : Nat) (p : Nat → Bool), j < n → (∀ k, k < n → (p k = true ↔ k = j)) → (List.range n).filter p = [j]
  | n + 1, j, p, hj, h => by
    rw [List.range_succ, List.filter_append]
    by_cases e : j = n
    · subst e
      have h1 : (List.range j).filter p = [] := by
        rw [List.filter_eq_nil_iff]
        intro k hk
        have hk' := List.mem_range.mp hk
        rw [h k (by omega)]
        omega
      have h2 : p j = true := (h j (by omega)).mpr rfl
      rw [h1, List.filter_cons, if_pos h2]
      rfl
    · have h1 := filter_one n j p (by omega) fun k hk => h k (by omega)
      have h2 : ¬ p n = true := fun z => e ((h n (by omega)).mp z).symm
      rw [h1, List.filter_cons, if_neg h2]
      rfl
theorem modify_set {f : Int → Int} : ∀ {xs : List Int} {j : Nat}, j < xs.length → xs.modify j f = xs.set j (f (xs.getD j 0))
  | x :: r, 0, _ => rfl
  | x :: r, j + 1, h => by
    have ih := modify_set (f := f) (xs := r) (j := j) (by simpa using h)
    show x :: r.modify j f = x :: r.set j (f (r.getD j 0))
    rw [ih]
theorem pow_one_zero {s : Int} (hs : 2 ≤ s) {n : Nat} (h : s ^ n = 1) : n = 0 := by
  cases n with
  | zero => rfl
  | succ n =>
    have h1 : 0 < s ^ n := Int.pow_pos (by omega)
    rw [Int.pow_succ] at h
    have h2 : 1 * 2 ≤ s ^ n * s := Int.mul_le_mul (by omega) hs (by omega) (by omega)
    omega
theorem prev_place {p m : Int} (h0 : 0 ≤ p) (h1 : p < m) : ((p + 1) % m + -1) % m = p := by
  rw [Int.emod_add_emod, show p + 1 + -1 = p by omega, Int.emod_eq_of_lt h0 h1]
theorem mark_ne {s m : Int} (hs : 2 ≤ s) (h0 : 0 ≤ m) (h1 : m < s) : (m + 1) % s ≠ m := by
  by_cases h : m + 1 = s
  · rw [h, Int.emod_self]
    omega
  · rw [Int.emod_eq_of_lt (by omega) (by omega)]
    omega
end Mk

namespace Mk
open PySem L2 Evl
/-! ### evaluation: what Evl lacks -/
section
variable {K : PySem.W.Frag} {σ : L2.St} {H H0 H' : Hp} {ta tb tc te tx : TE} {t u : TT} {x y z v : V} {r r' : R2} {a C dx : Addr} {fs : List (Str × V)} {f m : Str}
theorem ev_fld (h : Ev ta σ H (.ref a)) (ho : H a = some (.ins C dx fs)) (hc : Cls K C) (hn : NoAttr K C f) (hl : fs.lookup f = some v) : Ev (tFld K ta f) σ H v := fun H1 e Q q =>
  h H1 e _ fun H2 e2 => ⟨a, C, dx, fs, v, rfl, e2 _ _ (e _ _ ho), hc, hn, hl, q H2 e2⟩
/-- a promise's answers that are one value | a new list | a new tuple | a new instance -/
theorem ev_meth {sp : Sp} {dvs vs : List V} {E : XK} {tg : TA} (h : Ev ta σ H (.ref a)) (ho : H a = some (.ins C dx fs)) (hl : fs.lookup m = none) (ha : EvA tg σ H vs) (hs : ∀ H1, Ex H H1 → ∀ Q : VK, RetV z H1 Q → sp (.ref a :: (vs ++ dvs)) H1 Q E) :
    Ev (tMeth C m sp dvs E ta tg) σ H z := fun H1 e Q q =>
  h H1 e _ fun H2 e2 => ⟨a, dx, fs, rfl, e2 _ _ (e _ _ ho), hl, ha H2 (e.trans e2) _ fun H3 e3 => hs H3 ((e.trans e2).trans e3) Q fun H4 e4 => q H4 ((e2.trans e3).trans e4)⟩
theorem el_meth {sp : Sp} {dvs vs xs : List V} {E : XK} {tg : TA} (h : Ev ta σ H (.ref a)) (ho : H a = some (.ins C dx fs)) (hl : fs.lookup m = none) (ha : EvA tg σ H vs) (hs : ∀ H1, Ex H H1 → ∀ Q : VK, RetL xs H1 Q → sp (.ref a :: (vs ++ dvs)) H1 Q E) :
    EvL (tMeth C m sp dvs E ta tg) σ H xs := fun H1 e Q q =>
  h H1 e _ fun H2 e2 => ⟨a, dx, fs, rfl, e2 _ _ (e _ _ ho), hl, ha H2 (e.trans e2) _ fun H3 e3 => hs H3 ((e.trans e2).trans e3) Q fun p H4 hp e4 h4 => q p H4 (fresh_back (e2.trans e3) hp) ((e2.trans e3).trans e4) h4⟩
theorem eu_meth {sp : Sp} {dvs vs xs : List V} {E : XK} {tg : TA} (h : Ev ta σ H (.ref a)) (ho : H a = some (.ins C dx fs)) (hl : fs.lookup m = none) (ha : EvA tg σ H vs) (hs : ∀ H1, Ex H H1 → ∀ Q : VK, (∀ p H2, H1 p = none → Ex H1 H2 → H2 p = some (.tup xs) → Q (.ref p) H2) → sp (.ref a :: (vs ++ dvs)) H1 Q E) :
    EvU (tMeth C m sp dvs E ta tg) σ H xs := fun H1 e Q q =>
  h H1 e _ fun H2 e2 => ⟨a, dx, fs, rfl, e2 _ _ (e _ _ ho), hl, ha H2 (e.trans e2) _ fun H3 e3 => hs H3 ((e.trans e2).trans e3) Q fun p H4 hp e4 h4 => q p H4 (fresh_back (e2.trans e3) hp) ((e2.trans e3).trans e4) h4⟩
theorem ev_callF {sp : Sp} {dvs vs : List V} {E : XK} {tg : TA} (ha : EvA tg σ H vs) (hs : ∀ H1, Ex H H1 → ∀ Q : VK, RetV z H1 Q → sp (vs ++ dvs) H1 Q E) : Ev (tCall sp dvs E tg) σ H z := fun H1 e Q q =>
  ha H1 e _ fun H2 e2 => hs H2 (e.trans e2) Q fun H3 e3 => q H3 (e2.trans e3)
theorem el_callF {sp : Sp} {dvs vs xs : List V} {E : XK} {tg : TA} (ha : EvA tg σ H vs) (hs : ∀ H1, Ex H H1 → ∀ Q : VK, RetL xs H1 Q → sp (vs ++ dvs) H1 Q E) : EvL (tCall sp dvs E tg) σ H xs := fun H1 e Q q =>
  ha H1 e _ fun H2 e2 => hs H2 (e.trans e2) Q fun p H3 hp e3 h3 => q p H3 (fresh_back e2 hp) (e2.trans e3) h3
/-- a new instance -/
def EvO (te : TE) (σ : L2.St) (H : Hp) (C : Addr) (fs : List (Str × V)) : Prop := ∀ H1, Ex H H1 → ∀ Q : VK, (∀ p dx H2, H1 p = none → Ex H1 H2 → H2 p = some (.ins C dx fs) → Q (.ref p) H2) → te σ H1 Q
/-- what __init__ promises -/
def RetO (C x dx : Addr) (fs : List (Str × V)) (H : Hp) (Q : VK) : Prop := ∀ H2, (∀ b o, H b = some o → b ≠ x → H2 b = some o) → H2 x = some (.ins C dx fs) → Q .non H2
theorem eo_make {sp : Sp} {dvs vs : List V} {E : XK} {tg : TA} (ha : EvA tg σ H vs) (hs : ∀ H1, Ex H H1 → ∀ x dx, H1 x = some (.ins C dx []) → ∀ Q : VK, RetO C x dx fs H1 Q → sp (.ref x :: (vs ++ dvs)) H1 Q E) :
    EvO (tMake C sp dvs E tg) σ H C fs := fun H1 e Q q => ha H1 e _ fun H2 e2 => fun x dx nx ndx nex => by
  have s0 : Ex H2 (upd (upd H2 dx (.own x)) x (.ins C dx [])) := fun b o eb => by
    rw [upd_ne (ne_of_none eb nx), upd_ne (ne_of_none eb ndx)]
    exact eb
  refine hs _ ((e.trans e2).trans s0) x dx upd_same _ fun H3 k h3 => ⟨rfl, ?_⟩
  exact q x dx H3 (fresh_back e2 nx) (e2.trans fun b o eb => k b o (s0 b o eb) (ne_of_none eb nx)) h3
/-- an expression has some value of which P holds -/
def EvS (te : TE) (σ : L2.St) (H : Hp) (P : V → Prop) : Prop := ∀ H1, Ex H H1 → ∀ Q : VK, (∀ v, P v → ∀ H2, Ex H1 H2 → Q v H2) → te σ H1 Q
def RetS (P : V → Prop) (H : Hp) (Q : VK) : Prop := ∀ v, P v → ∀ H2, Ex H H2 → Q v H2
theorem es_callF {sp : Sp} {dvs vs : List V} {E : XK} {tg : TA} {P : V → Prop} (ha : EvA tg σ H vs) (hs : ∀ H1, Ex H H1 → ∀ Q : VK, RetS P H1 Q → sp (vs ++ dvs) H1 Q E) : EvS (tCall sp dvs E tg) σ H P := fun H1 e Q q =>
  ha H1 e _ fun H2 e2 => hs H2 (e.trans e2) Q fun v hv H3 e3 => q v hv H3 (e2.trans e3)
/-- .. the first argument a new list -/
theorem es_callL1 {sp : Sp} {E : XK} {ta tb : TE} {xs : List V} {y : V} {P : V → Prop} (h : EvL ta σ H xs) (hb : ∀ H1, Ex H H1 → Ev tb σ H1 y) (hs : ∀ p H1, Ex H H1 → H1 p = some (.lst xs) → ∀ Q : VK, RetS P H1 Q → sp [.ref p, y] H1 Q E) :
    EvS (tCall sp [] E (tCons ta (tCons tb tNil))) σ H P := fun H1 e Q q =>
  h H1 e _ fun p H2 _ e2 hp => hb H2 (e.trans e2) H2 (Ex.refl H2) _ fun H3 e3 => hs p H3 ((e.trans e2).trans e3) (e3 _ _ hp) Q fun v hv H4 e4 => q v hv H4 ((e2.trans e3).trans e4)
/-- some new list of ints of which P holds -/
def EvLS (te : TE) (σ : L2.St) (H : Hp) (P : List Int → Prop) : Prop := ∀ H1, Ex H H1 → ∀ Q : VK, (∀ xs, P xs → RetL (xs.map V.int) H1 Q) → te σ H1 Q
theorem els_callF {sp : Sp} {dvs vs : List V} {E : XK} {tg : TA} {P : List Int → Prop} (ha : EvA tg σ H vs) (hs : ∀ H1, Ex H H1 → ∀ Q : VK, (∀ xs, P xs → RetL (xs.map V.int) H1 Q) → sp (vs ++ dvs) H1 Q E) : EvLS (tCall sp dvs E tg) σ H P := fun H1 e Q q =>
  ha H1 e _ fun H2 e2 => hs H2 (e.trans e2) Q fun xs hx p H3 hp e3 h3 => q xs hx p H3 (fresh_back e2 hp) (e2.trans e3) h3
theorem Ev.some {P : V → Prop} (h : Ev te σ H v) (hv : P v) : EvS te σ H P := fun H1 e Q q => h H1 e Q fun H2 e2 => q v hv H2 e2
/-- x, y = divmod(a, b) -/
theorem eu_divmod {tg : TA} {i j : Int} (ha : EvA tg σ H [.int i, .int j]) (hc : CDivP i j) :
    EvU (tCB (fun xs H Q => ∃ i j, xs = [.int i, .int j] ∧ CDivP i j ∧ ∀ p, H p = none → Q (.ref p) (upd H p (.tup [.int (i / j), .int (i % j)]))) tg) σ H [.int (i / j), .int (i % j)] := fun H1 e Q q =>
  ha H1 e _ fun H2 e2 => ⟨i, j, rfl, hc, fun p hp => q p _ (fresh_back e2 hp) (e2.trans (Ex.new hp)) upd_same⟩
theorem ev_chain {p q : Bool} (ha : Ev ta σ H x) (hb : Ev tb σ H y) (hr : RV r x y H (.bl p)) (hc : p = true → Ev tc σ H z) (hr' : p = true → RV r' y z H (.bl q)) : Ev (tChain r r' ta tb tc) σ H (.bl (p && q)) := fun H1 e Q k =>
  ha H1 e _ fun H2 e2 => hb H2 (e.trans e2) _ fun H3 e3 => hr H3 ((e.trans e2).trans e3) _ fun H4 e4 => ⟨p, rfl, by
    cases p with
    | true =>
      show tc σ H4 _
      exact hc rfl H4 (((e.trans e2).trans e3).trans e4) _ fun H5 e5 => hr' rfl H5 ((((e.trans e2).trans e3).trans e4).trans e5) Q fun H6 e6 => k H6 ((((e2.trans e3).trans e4).trans e5).trans e6)
    | false =>
      show Q (.bl false) H4
      exact k H4 ((e2.trans e3).trans e4)⟩
/-- isinstance with a built-in class -/
theorem rc_isi {tn : String} {tv : Value} {b : Bool} (ty : ∀ H1, Ex H H1 → TyX K H1 x tv) (hb : PySem.W.kitOne K tv (.type tn) = some b) : RC (rIsi K) [x, .ty tn] H (.bl b) := fun H1 e Q q =>
  ⟨x, .ty tn, tv, .type tn, b, rfl, .ty _, ty H1 e, hb, q H1 (Ex.refl H1)⟩
theorem ex_ty {t : Value} (e : Ex H H') (h : TyOf K H x t) : TyOf K H' x t := by
  cases h with
  | non => exact .non
  | bl b => exact .bl b
  | int i => exact .int i
  | str s => exact .str s
  | flt s => exact .flt s
  | lst h => exact .lst (e _ _ h)
  | frz h => exact .frz (e _ _ h)
  | tup h => exact .tup (e _ _ h)
  | dK h => exact .dK (e _ _ h)
  | dT h => exact .dT (e _ _ h)
  | ins h a b c d f => exact .ins (e _ _ h) a b c d f
theorem ev_isi {tn : String} {tv : Value} {b : Bool} {tg : TA} (ha : EvA tg σ H [x, .ty tn]) (ty : TyOf K H x tv) (hb : PySem.W.kitOne K tv (.type tn) = some b) : Ev (tCB (rIsi K) tg) σ H (.bl b) :=
  ev_cb ha (rc_isi (fun H1 e => .base (ex_ty e ty)) hb)
/-- a built-in's call by values -/
theorem ev_cbv {rr : List V → Hp → VK → Prop} {tg : TA} {vs : List V} (ha : EvA tg σ H vs) (hr : ∀ H1, Ex H H1 → ∀ Q : VK, Q z H1 → rr vs H1 Q) : Ev (tCB rr tg) σ H z :=
  ev_cb ha fun H1 e Q q => hr H1 e Q (q H1 (Ex.refl H1))
theorem ev_un0 {g : Int → V} {i : Int} (h : Ev ta σ H (.int i)) : Ev (tUn (rU g) ta) σ H (g i) := ev_un h fun H1 _ _ q => ⟨i, rfl, q H1 (Ex.refl H1)⟩
theorem rv_eqI {i j : Int} : RV rEq (.int i) (.int j) H (.bl (decide (i = j))) := fun H1 _ _ q => ⟨rfl, by
  have e : decide (V.int i = V.int j) = decide (i = j) := by
    by_cases h : i = j
    · rw [decide_eq_true h, decide_eq_true (congrArg V.int h)]
    · rw [decide_eq_false h, decide_eq_false fun z => h (V.int.inj z)]
  rw [e]
  exact q H1 (Ex.refl H1)⟩
theorem rv_neI {i j : Int} : RV rNe (.int i) (.int j) H (.bl (!decide (i = j))) := fun H1 _ _ q => ⟨rfl, by
  have e : decide (V.int i = V.int j) = decide (i = j) := by
    by_cases h : i = j
    · rw [decide_eq_true h, decide_eq_true (congrArg V.int h)]
    · rw [decide_eq_false h, decide_eq_false fun z => h (V.int.inj z)]
  rw [e]
  exact q H1 (Ex.refl H1)⟩
theorem rv_isN : RV (fun x y H Q => y = .non ∧ Q (.bl (decide (x = .non))) H) x .non H (.bl (decide (x = .non))) := fun H1 _ _ q => ⟨rfl, q H1 (Ex.refl H1)⟩
theorem rv_notN : RV (fun x y H Q => y = .non ∧ Q (.bl (!decide (x = .non))) H) x .non H (.bl (!decide (x = .non))) := fun H1 _ _ q => ⟨rfl, q H1 (Ex.refl H1)⟩
theorem et_cmp {b : Bool} (h : Ev te σ H (.bl b)) : EvT (tTest te) σ H b := et_test h

/-! ### statements, told over an elder heap H0 -/
variable {D : Ends} {tu tw tz : TS} {g : TG}
theorem b_asg {i : Nat} (e : Ex H0 H) (h : Ev te σ H0 v) (k : ∀ H1, Ex H0 H1 → tz D (σ.set i (some v)) H1) : tSeq (tAsg te (gName i)) tz D σ H := q_asg (h.mono e) fun H1 e1 => k H1 (e.trans e1)
theorem b_asgL {i : Nat} {xs : List V} (e : Ex H0 H) (h : EvL te σ H0 xs) (k : ∀ p H1, H0 p = none → Ex H0 H1 → H1 p = some (.lst xs) → tz D (σ.set i (some (.ref p))) H1) : tSeq (tAsg te (gName i)) tz D σ H :=
  q_asgL (h.mono e) fun p H1 hp e1 h1 => k p H1 (fresh_back e hp) (e.trans e1) h1
theorem b_asgU {i : Nat} {xs : List V} (e : Ex H0 H) (h : EvU te σ H0 xs) (k : ∀ p H1, H0 p = none → Ex H0 H1 → H1 p = some (.tup xs) → tz D (σ.set i (some (.ref p))) H1) : tSeq (tAsg te (gName i)) tz D σ H :=
  q_asgU (fun H1 e1 => h H1 (e.trans e1)) fun p H1 hp e1 h1 => k p H1 (fresh_back e hp) (e.trans e1) h1
theorem b_asgO {i : Nat} (e : Ex H0 H) (h : EvO te σ H0 C fs) (k : ∀ p dx H1, H0 p = none → Ex H0 H1 → H1 p = some (.ins C dx fs) → tz D (σ.set i (some (.ref p))) H1) : tSeq (tAsg te (gName i)) tz D σ H :=
  h H e _ fun p dx H1 hp e1 h1 => k p dx H1 (fresh_back e hp) (e.trans e1) h1
theorem b_asgS {i : Nat} {P : V → Prop} (e : Ex H0 H) (h : EvS te σ H0 P) (k : ∀ v, P v → ∀ H1, Ex H0 H1 → tz D (σ.set i (some v)) H1) : tSeq (tAsg te (gName i)) tz D σ H :=
  h H e _ fun v hv H1 e1 => k v hv H1 (e.trans e1)
/-- x, y = a new tuple of two -/
theorem b_asg2 {i j : Nat} {x y : V} (e : Ex H0 H) (h : EvU te σ H0 [x, y]) (k : ∀ H1, Ex H0 H1 → tz D ((σ.set i (some x)).set j (some y)) H1) : tSeq (tAsg te (gTup K 2 (gCons (gName i) (gCons (gName j) gNil)))) tz D σ H :=
  h H e _ fun p H1 hp e1 h1 => ⟨p, [x, y], rfl, st_of h1, rfl, x, [y], rfl, y, [], rfl, rfl, k H1 (e.trans e1)⟩
theorem b_asgLS {i : Nat} {P : List Int → Prop} (e : Ex H0 H) (h : EvLS te σ H0 P) (k : ∀ xs, P xs → ∀ p H1, H0 p = none → Ex H0 H1 → H1 p = some (.lst (xs.map V.int)) → tz D (σ.set i (some (.ref p))) H1) : tSeq (tAsg te (gName i)) tz D σ H :=
  h H e _ fun xs hx p H1 hp e1 h1 => k xs hx p H1 (fresh_back e hp) (e.trans e1) h1
theorem b_drop (e : Ex H0 H) (h : Ev te σ H0 v) (k : ∀ H1, Ex H0 H1 → tz D σ H1) : tSeq (tDrop te) tz D σ H := q_drop (h.mono e) fun H1 e1 => k H1 (e.trans e1)
theorem b_dropCall {sp : Sp} {dvs vs : List V} {E : XK} {tg : TA} (e : Ex H0 H) (ha : EvA tg σ H0 vs) (hs : ∀ H1, Ex H0 H1 → sp (vs ++ dvs) H1 (fun _ H2 => tz D σ H2) E) : tSeq (tDrop (tCall sp dvs E tg)) tz D σ H :=
  ha H e _ fun H1 e1 => hs H1 (e.trans e1)
theorem b_if {b : Bool} (e : Ex H0 H) (h : EvT t σ H0 b) (h1 : b = true → ∀ H1, Ex H0 H1 → tu { D with nx := tz D } σ H1) (h2 : b = false → ∀ H1, Ex H0 H1 → tw { D with nx := tz D } σ H1) : tSeq (tIfS t tu tw) tz D σ H :=
  q_if (h.mono e) (fun q H1 e1 => h1 q H1 (e.trans e1)) fun q H1 e1 => h2 q H1 (e.trans e1)
/-- an if whose body ends the def or falls through -/
theorem b_when {b : Bool} (e : Ex H0 H) (h : EvT t σ H0 b) (h1 : b = true → ∀ H1, Ex H0 H1 → tu { D with nx := tz D } σ H1) (h2 : b = false → ∀ H1, Ex H0 H1 → tz D σ H1) : tSeq (tIfS t tu tNext) tz D σ H :=
  q_when (h.mono e) (fun q H1 e1 => h1 q H1 (e.trans e1)) fun q H1 e1 => h2 q H1 (e.trans e1)
/-- a guard that does not hold -/
theorem b_skip {b : Bool} (e : Ex H0 H) (h : EvT t σ H0 b) (k : ∀ H1, Ex H0 H1 → tz D σ H1) (hb : b = false := by rfl) : tSeq (tIfS t tu tNext) tz D σ H := b_when e h (fun q => by rw [hb] at q; cases q) fun _ => k
theorem b_ret (e : Ex H0 H) (h : Ev te σ H0 v) (k : ∀ H1, Ex H0 H1 → D.rt v H1) : tRet te D σ H := s_ret (h.mono e) fun H1 e1 => k H1 (e.trans e1)
theorem b_retL {xs : List V} (e : Ex H0 H) (h : EvL te σ H0 xs) (k : ∀ p H1, H0 p = none → Ex H0 H1 → H1 p = some (.lst xs) → D.rt (.ref p) H1) : tRet te D σ H :=
  s_retL (h.mono e) fun p H1 hp e1 h1 => k p H1 (fresh_back e hp) (e.trans e1) h1
theorem b_retU {xs : List V} (e : Ex H0 H) (h : EvU te σ H0 xs) (k : ∀ p H1, H0 p = none → Ex H0 H1 → H1 p = some (.tup xs) → D.rt (.ref p) H1) : tRet te D σ H :=
  s_retU (fun H1 e1 => h H1 (e.trans e1)) fun p H1 hp e1 h1 => k p H1 (fresh_back e hp) (e.trans e1) h1
/-- if c: x = e, told by the value x has behind it -/
theorem b_ifAsg {b : Bool} {i : Nat} (e : Ex H0 H) (h : EvT t σ H0 b) (h1 : b = true → Ev te σ H0 v) (h2 : b = false → σ.set i (some v) = σ) (k : ∀ H1, Ex H0 H1 → tz D (σ.set i (some v)) H1) : tSeq (tIfS t (tAsg te (gName i)) tNext) tz D σ H :=
  q_ifAsg (h.mono e) (fun q => (h1 q).mono e) h2 fun H1 e1 => k H1 (e.trans e1)
theorem l_asg {i : Nat} (e : Ex H0 H) (h : Ev te σ H0 v) (k : ∀ H1, Ex H0 H1 → D.nx (σ.set i (some v)) H1) : tAsg te (gName i) D σ H := s_asg (h.mono e) fun H1 e1 => k H1 (e.trans e1)
/-- the last of a branch -/
theorem e_asg {i : Nat} {f b c : L2.St → Hp → Prop} {r' : VK} (e : Ex H0 H) (h : Ev te σ H0 v) (k : ∀ H1, Ex H0 H1 → f (σ.set i (some v)) H1) : tAsg te (gName i) ⟨f, r', b, c⟩ σ H := s_asg (h.mono e) fun H1 e1 => k H1 (e.trans e1)
theorem e_drop {f b c : L2.St → Hp → Prop} {r' : VK} (e : Ex H0 H) (h : Ev te σ H0 v) (k : ∀ H1, Ex H0 H1 → f σ H1) : tDrop te ⟨f, r', b, c⟩ σ H := s_drop (h.mono e) fun H1 e1 => k H1 (e.trans e1)
theorem e_next {f b c : L2.St → Hp → Prop} {r' : VK} (k : f σ H) : tNext ⟨f, r', b, c⟩ σ H := k
theorem e_when {b : Bool} {f b' c : L2.St → Hp → Prop} {r' : VK} (e : Ex H0 H) (h : EvT t σ H0 b) (h1 : b = true → ∀ H1, Ex H0 H1 → tu ⟨f, r', b', c⟩ σ H1) (h2 : b = false → ∀ H1, Ex H0 H1 → f σ H1) : tIfS t tu tNext ⟨f, r', b', c⟩ σ H :=
  s_when (h.mono e) (fun q H1 e1 => h1 q H1 (e.trans e1)) fun q H1 e1 => h2 q H1 (e.trans e1)
theorem l_when {b : Bool} (e : Ex H0 H) (h : EvT t σ H0 b) (h1 : b = true → ∀ H1, Ex H0 H1 → tu D σ H1) (h2 : b = false → ∀ H1, Ex H0 H1 → D.nx σ H1) : tIfS t tu tNext D σ H :=
  s_when (h.mono e) (fun q H1 e1 => h1 q H1 (e.trans e1)) fun q H1 e1 => h2 q H1 (e.trans e1)
theorem l_if {b : Bool} (e : Ex H0 H) (h : EvT t σ H0 b) (h1 : b = true → ∀ H1, Ex H0 H1 → tu D σ H1) (h2 : b = false → ∀ H1, Ex H0 H1 → tw D σ H1) : tIfS t tu tw D σ H :=
  s_if (h.mono e) (fun q H1 e1 => h1 q H1 (e.trans e1)) fun q H1 e1 => h2 q H1 (e.trans e1)
theorem b_forR1 {tg : TA} {j : Nat} {n : Int} (e : Ex H0 H) (h : EvA tg σ H0 [.int n]) (hn : n ≤ 100000) (hm : -100000 ≤ n) (Pv : Nat → L2.St → Hp → Prop) (h0 : ∀ H1, Ex H0 H1 → Pv 0 σ H1)
    (hs : ∀ (i : Nat) σ' H', (i : Int) < n → Pv i σ' H' → tu { D with nx := Pv (i + 1), ct := Pv (i + 1), bk := tz D } (σ'.set j (some (.int (i : Int)))) H') (hd : ∀ σ' H', Pv n.toNat σ' H' → tz D σ' H') : tSeq (tFor (iRng1 tg) (gName j) tu) tz D σ H :=
  (h.mono e) H (Ex.refl H) _ fun H1 e1 => ⟨n, rfl, by omega, by omega, for_range (lo := 0) (n := n.toNat) Pv (h0 H1 (e.trans e1)) (fun i σ' H' hi p => by
    have e0 : (0 : Int) + (i : Int) = (i : Int) := Int.zero_add _
    show tu _ (σ'.set j (some (.int ((0 : Int) + (i : Int))))) H'
    rw [e0]
    exact hs i σ' H' (by omega) p) hd⟩
theorem b_forLn {l : Addr} {xs : List V} {tl : TE} {j : Nat} (e : Ex H0 H) (h : Ev tl σ H0 (.ref l)) (hx : SqL K H0 l xs) (Pv : Nat → L2.St → Hp → Prop) (h0 : ∀ H1, Ex H0 H1 → Pv 0 σ H1) (hl : ∀ i σ' H', i ≤ xs.length → Pv i σ' H' → SqL K H' l xs)
    (hs : ∀ i x σ' H', xs[i]? = some x → Pv i σ' H' → tu { D with nx := Pv (i + 1), ct := Pv (i + 1), bk := tz D } (σ'.set j (some x)) H') (hd : ∀ σ' H', Pv xs.length σ' H' → tz D σ' H') : tSeq (tFor (iList K tl) (gName j) tu) tz D σ H :=
  q_forLn (h.mono e) (ex_l e hx) Pv (fun H1 e1 => h0 H1 (e.trans e1)) hl hs hd
end
/-! ### sizes -/
theorem cmul_r {i j : Int} (h0 : -1000000000000000 ≤ j) (h1 : j ≤ 1000000000000000) : CMul i j := .inr ⟨by omega, by omega⟩
theorem cmul_l {i j : Int} (h0 : -1000000000000000 ≤ i) (h1 : i ≤ 1000000000000000) : CMul i j := .inl ⟨by omega, by omega⟩
theorem cdiv_small {i j : Int} (h0 : 0 < j) (h1 : j ≤ 1000000000000000) : CDivW i j := wide_div (b := 64) h0 (by omega) (by decide) (by decide)
theorem mod_range (a : Int) {b : Int} (h : 0 < b) : 0 ≤ a % b ∧ a % b < b := ⟨Int.emod_nonneg a (by omega), Int.emod_lt_of_pos a h⟩
theorem cdivp_small {i j : Int} (h0 : 0 < j) (h1 : j ≤ 1000000000000000) : CDivP i j := by
  refine ⟨h0, ?_⟩
  have hn : j.natAbs ≠ 0 := by omega
  have hl : j.natAbs.log2 < 64 := (Nat.log2_lt hn).mpr (by omega)
  unfold Builtin.divisionGoesByPylong
  have e : ¬ (if j == 0 then 0 else j.natAbs.log2 / 30 + 1) > 300 := by
    split
    · omega
    · omega
  simp only [e, decide_false, Bool.false_and]
theorem rv_pow {i j n : Int} {H : Hp} (hc : CPow i j) (e : i ^ j.toNat = n) : RV (rI CPow fun i j => .int (i ^ j.toNat)) (.int i) (.int j) H (.int n) := by
  have h := rv_I (C := CPow) (g := fun i j => V.int (i ^ j.toNat)) (H := H) hc
  rw [e] at h
  exact h
theorem rv_p12 {H : Hp} : RV (rI CPow fun i j => .int (i ^ j.toNat)) (.int 10) (.int 12) H (.int 1000000000000) := rv_pow ⟨by decide, by decide, by decide⟩ (by decide +kernel)
theorem rv_p30 {H : Hp} : RV (rI CPow fun i j => .int (i ^ j.toNat)) (.int 10) (.int 30) H (.int (10 ^ 30)) := rv_pow ⟨by decide, by decide, by decide⟩ (by decide +kernel)
theorem rv_p60 {H : Hp} : RV (rI CPow fun i j => .int (i ^ j.toNat)) (.int 10) (.int 60) H (.int (10 ^ 60)) := rv_pow ⟨by decide, by decide, by decide⟩ (by decide +kernel)
def c7 : Int := 982451653 ^ 7
def c5 : Int := 982451653 ^ 5
theorem rv_c7 {H : Hp} : RV (rI CPow fun i j => .int (i ^ j.toNat)) (.int 982451653) (.int 7) H (.int c7) := rv_pow ⟨by decide, by decide, by decide⟩ (by decide +kernel)
theorem rv_c5 {H : Hp} : RV (rI CPow fun i j => .int (i ^ j.toNat)) (.int 982451653) (.int 5) H (.int c5) := rv_pow ⟨by decide, by decide, by decide⟩ (by decide +kernel)
theorem c7_lt : c7.natAbs < 2 ^ 210 := by decide +kernel
theorem c5_lt : c5.natAbs < 2 ^ 150 := by decide +kernel
/-- a product of great ints -/
theorem rv_mulX {i j : Int} {a b : Nat} {H : Hp} (ha : i.natAbs < 2 ^ a) (hb : j.natAbs < 2 ^ b) (h : a + b ≤ 134217728) : RV (rI CMulX fun i j => .int (i * j)) (.int i) (.int j) H (.int (i * j)) := rv_I (mulx_ok ha hb h)
theorem pow_bits {s : Int} (h0 : 0 ≤ s) (h1 : s ≤ 1000000000000) : ∀ n : Nat, (s ^ n).natAbs < 2 ^ (40 * n + 1)
  | 0 => by
    rw [Int.pow_zero]
    decide
  | n + 1 => by
    have ih := pow_bits h0 h1 n
    rw [Int.pow_succ, Int.natAbs_mul]
    have h2 : s.natAbs ≤ 2 ^ 40 := by
      have e : (2 : Nat) ^ 40 = 1099511627776 := by decide
      omega
    have e : (2 : Nat) ^ (40 * (n + 1) + 1) = 2 ^ (40 * n + 1) * 2 ^ 40 := by
      rw [← Nat.pow_add]
      congr 1
    rw [e]
    exact Nat.lt_of_le_of_lt (Nat.mul_le_mul_left _ h2) (Nat.mul_lt_mul_of_pos_right ih (Nat.two_pow_pos 40))
/-- a number that has at most 8001 bits -/
def Fits (z : Int) : Prop := z.natAbs < 2 ^ 8001
theorem pow_fits {s : Int} {n : Nat} (h0 : 0 ≤ s) (h1 : s ≤ 1000000000000) (hn : n ≤ 200) : Fits (s ^ n) :=
  Nat.lt_of_lt_of_le (pow_bits h0 h1 n) (Nat.pow_le_pow_right (by decide) (by omega))
theorem Fits.le {a b : Int} (h : Fits b) (h0 : 0 ≤ a) (h1 : a ≤ b) : Fits a := Nat.lt_of_le_of_lt (by clear h; omega) h
theorem Fits.div {a b : Int} (h : Fits a) (h0 : 0 ≤ a) (h1 : 0 < b) : Fits (a / b) := h.le (Int.ediv_nonneg h0 (Int.le_of_lt h1)) (Int.ediv_le_self b h0)
theorem rv_mulF {i j : Int} {H : Hp} (ha : Fits i) (hb : Fits j) : RV (rI CMulX fun i j => .int (i * j)) (.int i) (.int j) H (.int (i * j)) := rv_mulX ha hb (by decide)
theorem rv_mulC7 {i : Int} {H : Hp} (ha : Fits i) : RV (rI CMulX fun i j => .int (i * j)) (.int i) (.int c7) H (.int (i * c7)) := rv_mulX ha c7_lt (by decide)
theorem rv_divF {i j : Int} {H : Hp} (h : 0 < j) (hb : Fits j) : RV (rI CDivW fun i j => .int (i / j)) (.int i) (.int j) H (.int (i / j)) := rv_I (wide_div h hb (by decide) (by decide))
theorem mod_nat (c : Int) (n : Nat) : ∃ j : Nat, c % ((n : Int) + 1) = (j : Int) ∧ j ≤ n := by
  have a0 := Int.emod_nonneg c (show (n : Int) + 1 ≠ 0 by omega)
  have a1 := Int.emod_lt_of_pos c (show (0 : Int) < (n : Int) + 1 by omega)
  exact ⟨(c % ((n : Int) + 1)).toNat, by omega, by omega⟩
/-! ### fields -/
theorem len_putF (f : Str) (v : V) : ∀ fs : List (Str × V), (putF f v fs).length ≤ fs.length + 1
  | [] => Nat.le_refl _
  | (g, x) :: r => by
    have ih := len_putF f v r
    unfold putF
    split
    · exact Nat.le_succ _
    · exact Nat.succ_le_succ ih
/-- the fields of a Listing, of a turning list -/
def lF (n z : Int) : List (Str × V) := putF "size" (.int z) (putF "length" (.int n) [])
def tF (s n : Int) (z : Int) : List (Str × V) := putF "signs" (.int s) (lF n z)
def cF (n k : Int) (z : Int) : List (Str × V) := putF "ones" (.int k) (lF n z)
theorem lF_len (n z : Int) : (lF n z).length ≤ 2 := Nat.le_trans (len_putF _ _ _) (Nat.succ_le_succ (len_putF _ _ _))
theorem lF_length (n z : Int) : (lF n z).lookup ("length" : Str) = some (V.int n) := by
  unfold lF
  rw [lookup_putF, if_neg (by decide +kernel), lookup_putF, if_pos rfl]
theorem lF_size (n z : Int) : (lF n z).lookup ("size" : Str) = some (V.int z) := by
  unfold lF
  rw [lookup_putF, if_pos rfl]
theorem lF_no (n z : Int) {m : Str} (h1 : ¬ m = "size") (h2 : ¬ m = "length") : (lF n z).lookup m = none := by
  unfold lF
  rw [lookup_putF, if_neg h1, lookup_putF, if_neg h2]
  rfl
theorem tF_length (s n z : Int) : (tF s n z).lookup ("length" : Str) = some (V.int n) := by
  unfold tF
  rw [lookup_putF, if_neg (by decide +kernel), lF_length]
theorem tF_size (s n z : Int) : (tF s n z).lookup ("size" : Str) = some (V.int z) := by
  unfold tF
  rw [lookup_putF, if_neg (by decide +kernel), lF_size]
theorem tF_signs (s n z : Int) : (tF s n z).lookup ("signs" : Str) = some (V.int s) := by
  unfold tF
  rw [lookup_putF, if_pos rfl]
theorem tF_no (s n z : Int) {m : Str} (h1 : ¬ m = "size") (h2 : ¬ m = "length") (h3 : ¬ m = "signs") : (tF s n z).lookup m = none := by
  unfold tF
  rw [lookup_putF, if_neg h3, lF_no _ _ h1 h2]
theorem cF_length (n k z : Int) : (cF n k z).lookup ("length" : Str) = some (V.int n) := by
  unfold cF
  rw [lookup_putF, if_neg (by decide +kernel), lF_length]
theorem cF_size (n k z : Int) : (cF n k z).lookup ("size" : Str) = some (V.int z) := by
  unfold cF
  rw [lookup_putF, if_neg (by decide +kernel), lF_size]
theorem cF_ones (n k z : Int) : (cF n k z).lookup ("ones" : Str) = some (V.int k) := by
  unfold cF
  rw [lookup_putF, if_pos rfl]
theorem cF_no (n k z : Int) {m : Str} (h1 : ¬ m = "size") (h2 : ¬ m = "length") (h3 : ¬ m = "ones") : (cF n k z).lookup m = none := by
  unfold cF
  rw [lookup_putF, if_neg h3, lF_no _ _ h1 h2]
/-! ### the law's promise: of a list of at most 63 ints, True -/
def spLawK (K : PySem.W.Frag) : Sp := fun vs H Q _ => ∃ (a : Addr) (ns : List Int), vs = [.ref a] ∧ SqL K H a (ns.map V.int) ∧ ns.length ≤ 63 ∧ (∀ z ∈ ns, Builtin.Int.intBits z ≤ 1048576) ∧ ∀ H', Q (.bl true) H'
/-- a cell of the script -/
def cell (ns : List Int) (k : Int) : Int := ns.getD k.toNat 0
/-! ### a plain def read off a class: C.m(..) -/
section
variable {X : Cx} {CX : CXT} {k : Nat} {f C : Addr} {mc : Value} {fd : FuncData} {ps : List Str} {sp : Sp} {dvs : List V} {ds : List Value} {E : XK} {x m : Str} {np apos pos : Pos} {e : Expr} {es : List Expr} {t : TA} {pl : Sem Bool}
theorem pe_clsfn (r : ClX.CRead X.K C mc) (at_ : PySem.W.findCls X.K (.ref C) mc m = some (.val (.ref f))) (kp : PySem.W.keepIn X.K (.ref f) = true) (F : FnOk X.prog X.w X.K X.mg X.base CX k f fd ps sp) (hr : Room k X.A) (hg : Gl X x) (hm : X.mg x = some (.ref C))
    (hb : Binds X.K fd ps ds) (hd : Vals dvs ds) (hx : Passes CX X E) (ha : PA X (e :: es) t) (hdb : (x == ("__debug__" : Str)) = false := by decide)
    (he : starEach (e :: es) X.env = (false, eval e X.env) :: starEach es X.env := by rfl) (hpl : (backTo pos (starEach es X.env)).any (·.1) = false := by rfl)
    (ht : eval (.Call (.Attribute (.Name x np) m apos) (e :: es) [] pos) X.env = (do
      let ov ← eval (.Name x np) X.env
      standAt apos.atName
      let (f, first) ← holding [ov] (getMethod ov m pl)
      callWith pos f first (backTo pos (starEach (e :: es) X.env)) (backToKw pos (keywordEach [] X.env))) := by rfl) :
    PE X (.Call (.Attribute (.Name x np) m apos) (e :: es) [] pos) (tCall sp dvs E t) := by
  refine ⟨fun pins s σ H Q I h => ?_⟩
  refine PySem.W.methodCall_KW (pl := pl) (ld_glob I hg hm ?_ hdb) ht
  refine PySem.W.method_cls I.kIn r.ga (PySem.W.cls_value I.kIn r.rd at_ rfl ?_)
  have I2 : Inv X pins σ H { s with toks := s.toks + 1 } := I.tok _
  refine PySem.W.callWith_K (h₀ := X.base) (first := []) I.ok.mod.kin kp (thn (ha.run pos pins { s with toks := s.toks + 1 } σ H _ I2 h) fun us s1 ⟨vs, H1, I1, rv, q⟩ => ⟨I1.kIn, ?_⟩) he hpl
  exact run_fn F hr hb hd hx I1 rv q
end
end Mk
/-! ### list(reversed(xs)) -/
namespace Mk
open PySem PySem.Spec PyProof.Rows L2 RT
section
variable {prog : Program} {w : World} {A : Around} {E : Value → Shared → Prop} {s : Shared}
theorem call_list_rev {it l : Addr} {items : Array Value} {Q : Value → Shared → Prop} (hh : A.handled = none) (hit : s.heap.IsRevIter it l ((items.size : Int) - 1)) (hl : s.heap.IsList l items) (hne : l ≠ it) (hn : items.size ≤ sizeLine)
    (hQ : ∀ (h' : Heap) (tk : Nat) (acc' : Array Value) (c' : Nat), (∀ b o, b ≠ it → s.heap.get? b = some o → h'.get? b = some o) → h'.get? s.heap.objs.size = some { cls := .type "list", dict := none, data := .seq acc' c', slots := #[] } →
      ItemsOf (fun i v => items[items.size - 1 - i]? = some v) acc' items.size → Q (.ref s.heap.objs.size) { s with heap := h', toks := tk }) :
    wpAny (model prog w) A (call (.type "list") [.ref it]) Q E s := by
  refine callType_codes (Q₁ := fun obj s₁ => obj = .ref s.heap.objs.size ∧ s₁ = { s with heap := s.heap.push { cls := .type "list", data := .seq #[] } }) PySem.F.called_list (PySem.F.typeCall_list_1 _) PySem.F.entry_list_init
    (code_list_new _ ⟨rfl, rfl⟩) fun obj s₁ h₁ => ?_
  obtain ⟨rfl, rfl⟩ := h₁
  have hS : (s.heap.push { cls := .type "list", data := .seq #[] }).get? s.heap.objs.size = some { cls := .type "list", data := .seq #[] } := Heap.get?_push_size _ rfl
  refine ⟨⟨_, hS, rfl⟩, PySem.F.args_list_init_2 _ _, ?_⟩
  obtain ⟨oi, hoi, _⟩ := id hit
  have hSi : s.heap.objs.size ≠ it := Nat.ne_of_gt (Heap.lt_size hoi)
  obtain ⟨ol, hol, _⟩ := id hl
  have hSl : s.heap.objs.size ≠ l := Nat.ne_of_gt (Heap.lt_size hol)
  show wpAny _ A.in1.in1 (do let old ← Builtin.List.listItems (.ref s.heap.objs.size); Builtin.List.listUpdate (.ref s.heap.objs.size) (fun _ => #[]); letGo old.toList.reverse; Builtin.List.listExtendWith (.ref s.heap.objs.size) (.ref it) .none) _ _ _
  refine wpAny_bind ?_
  unfold Builtin.List.listItems
  refine wpAny_bind (wpAny_seqItems hS rfl (wpAny_pure ?_))
  show wpAny _ A.in1.in1 (updateSeq s.heap.objs.size (fun _ => #[]) >>= fun _ => letGo (#[] : Array Value).toList.reverse >>= fun _ => Builtin.List.listExtendWith (.ref s.heap.objs.size) (.ref it) .none) _ _ _
  refine wpAny_bind (wpAny_updateSeq hS rfl ?_)
  have hS₂ := Heap.get?_update_self (Obj.mapSeq (fun _ => (#[] : Array Value))) hS rfl
  have oth : ∀ b o, b ≠ s.heap.objs.size → s.heap.get? b = some o → ((s.heap.push { cls := .type "list", data := .seq #[] }).update s.heap.objs.size (Obj.mapSeq (fun _ => (#[] : Array Value)))).get? b = some o :=
    fun b o hb e => (Heap.get?_update_other _ _ (Ne.symm hb)).trans (Heap.get?_push_of_some _ e)
  refine wpAny_bind (wpAny_letGo ?_)
  generalize hG : (s.heap.push { cls := .type "list", data := .seq #[] }).update s.heap.objs.size (Obj.mapSeq (fun _ => (#[] : Array Value))) = G at hS₂ oth
  have hit1 : G.IsRevIter it l ((items.size : Int) - 1) := hit.at fun o e => oth it o hSi.symm e
  have hl1 : G.IsList l items := hl.at fun o e => oth l o hSl.symm e
  have hT : ({ s with heap := G } : Shared).TypeIs (.ref it) "list_reverseiterator" := Heap.IsRevIter.typeIs (s := { s with heap := G }) hit1
  have h1 : Builtin.List.listSameRef (.ref s.heap.objs.size) (.ref it) = false := by simp [Builtin.List.listSameRef, hSi]
  have hSf : s.heap.objs.size ∉ [it, l] := by simp only [List.mem_cons, List.not_mem_nil, or_false, not_or]; exact ⟨hSi, hSl⟩
  have W := Walks.listRev (prog := prog) (w := w) (A := A.in1.in1) hh it l hne items
  unfold Builtin.List.listExtendWith
  refine wpAny_bind (wpAny_typeOf hT ?_)
  rw [if_neg (by rw [h1]; decide)]
  refine wpAny_bind (wpAny_pyIter_revIter (s := { s with heap := G }) hit1 ?_)
  refine wpAny_bind (wpAny_holding ?_)
  unfold Builtin.List.listLengthHint
  refine wpAny_bind (wpAny_specialOf hT nolen_lri ?_)
  show wpAny _ A.in1.in1 (specialOf (Value.ref it) (Str.ofString "__length_hint__") >>= _) _ _ _
  refine wpAny_bind (wpAny_specialOf hT hint_lri ?_)
  generalize hid : ("list_reverseiterator.__length_hint__" : String) = id0
  wp_delta
  rw [show splitId id0 = some ("list_reverseiterator", "__length_hint__") from by subst hid; decide +kernel]
  subst hid
  refine wpAny_bind (wpAny_isInstance (b := true) hT (by rw [isSubtype_type]; kernel_rfl) ?_)
  refine wpAny_pure ?_
  rw [if_neg (by decide)]
  have e0 : ((items.size : Nat) : Int) - 1 - ((0 : Nat) : Int) = (items.size : Int) - 1 := by omega
  refine wpAny_pure ⟨plainId_quiet F.plain_extend_loop _, codeAny_extend_loopS W.toS hn _ hSf _ items.size 0 _ _ _ rfl (Nat.zero_le _) ⟨Nat.zero_le _, by rw [e0]; exact hit1, hl1⟩ hS₂ (ItemsOf.nil _) fun s' acc' c' hm hS' hacc => ?_⟩
  rw [Moved.eq_with hm]
  refine ⟨rfl, hQ s'.heap s'.toks acc' c' (fun b o hb e => ?_) hS' hacc⟩
  have hb2 : b ≠ s.heap.objs.size := Nat.ne_of_lt (Heap.lt_size e)
  refine hm.heap b o (fun hmem => ?_) (oth b o hb2 e)
  rcases List.mem_cons.mp hmem with e' | hmem
  · exact hb2 e'
  · exact hb (List.mem_singleton.mp hmem)
end
section
variable {X : Cx}
/-- list(reversed(x)), x a list: a new list -/
def tLstRev (K : PySem.W.Frag) (te : TE) : TE := fun σ H Q => te σ H fun v H1 => ∃ (a : Addr) (xs : List V), v = .ref a ∧ SqL K H1 a xs ∧ ∀ q, H1 q = none → Q (.ref q) (upd H1 q (.lst xs.reverse))
theorem pe_lstRev {e : Expr} {te : TE} {p p2 pos pos2 : Pos} (hc : X.calm = true) (hg : Gl X "list") (hm : X.mg "list" = none) (hg2 : Gl X "reversed") (hm2 : X.mg "reversed" = none) (he : PE X e te)
    (hs : starEach [e] X.env = (false, eval e X.env) :: starEach [] X.env := by rfl)
    (hs2 : starEach [.Call (.Name "reversed" p2) [e] [] pos2] X.env = (false, eval (.Call (.Name "reversed" p2) [e] [] pos2) X.env) :: starEach [] X.env := by rfl) :
    PE X (.Call (.Name "list" p) [.Call (.Name "reversed" p2) [e] [] pos2] [] pos) (tLstRev X.K te) := by
  refine ⟨fun pins s σ H Q I h => ?_⟩
  refine Call_ (ld_blt I hg hm boot_list (PyProof.Rows.callWith_type1 (args_cons (Call_ (ld_blt I hg2 hm2 PyProof.Rows.boot_reversed (PyProof.Rows.callWith_type1 (args_cons (thn (he.run pins s σ H _ I h) fun u s1 ⟨v, H1, I1, r1, q1⟩ => args_nil ?_) hs) hs rfl))) hs2) hs2 rfl))
  obtain ⟨a, xs, ev, hq, q⟩ := q1
  subst ev
  obtain rfl : u = Value.ref a := r1
  obtain ⟨its, rv, p', hz⟩ := I1.list hq
  refine call_reversed_list p'.isList (args_nil ?_)
  have k0 : ∀ b o, s1.heap.get? b = some o → (s1.heap.push (revObj a ((its.toArray.size : Int) - 1))).get? b = some o := fun b o e => Heap.get?_push_of_some _ e
  have I2 : Inv X pins σ H1 { s1 with heap := s1.heap.push (revObj a ((its.toArray.size : Int) - 1)) } := I1.kept (t' := s1.toks) k0
  have hfr := I1.hok.fresh (Nat.le_refl s1.heap.objs.size)
  obtain ⟨f0, f1, f2, f3, f4, f5⟩ := I1.fpOk (H' := H1) (b := s1.heap.objs.size) (Nat.le_refl _) hfr
  have hl := p'.isList
  obtain ⟨ol, hol, _⟩ := id hl
  have hn : its.toArray.size ≤ sizeLine := by rw [List.size_toArray, ← rv.length]; exact hz
  refine call_list_rev (s := { s1 with heap := s1.heap.push (revObj a ((its.toArray.size : Int) - 1)) }) (I1.ok.hd hc) ⟨_, Heap.get?_push_size _ rfl, rfl, rfl⟩ (hl.push _) (Nat.ne_of_lt (Heap.lt_size hol)) hn fun h' tk acc c' hk hS hi => ?_
  refine ⟨.ref (s1.heap.push (revObj a ((its.toArray.size : Int) - 1))).objs.size, upd H1 (s1.heap.push (revObj a ((its.toArray.size : Int) - 1))).objs.size (.lst xs.reverse),
    I2.turnedNew (t' := tk) (ch := [s1.heap.objs.size]) (T := (s1.heap.push (revObj a ((its.toArray.size : Int) - 1))).objs.size) (ob := .lst xs.reverse) (fun b o hb e => hk b o (fun z => hb (by simp [z])) e) (fun b hb => ?_) (Nat.le_refl _) ?_, rfl, q _ (I2.hok.fresh (Nat.le_refl _))⟩
  · rw [List.mem_singleton.mp hb]
    exact I1.fpOk (Nat.le_refl _) hfr
  · refine ⟨by rw [List.length_reverse]; exact hz, acc.toList, c', vals_rev rv hi, ?_⟩
    rw [Array.toArray_toList]
    exact hS
end
end Mk
namespace Mk
open PySem L2 Evl
/-! ### rules whose reading names the written part: by a letter -/
section
variable {X : Cx} {K : PySem.W.Frag}
theorem pe_fldK {e : Expr} {f : Str} {ta : TE} {pos : Pos} (he : PE X e ta) (hb : attributeBase e f X.env (eval e X.env) = eval e X.env) (hK : X.K = K := by rfl) : PE X (.Attribute e f pos) (tFld K ta f) := by
  subst hK
  exact pe_fld he hb
theorem ix_listK (hK : X.K = K := by rfl) : IxR X (rIxL K) := by
  subst hK
  exact ix_list
theorem ix_tupK (hK : X.K = K := by rfl) : IxR X (rIxT K) := by
  subst hK
  exact ix_tup
theorem call_lenK (hK : X.K = K := by rfl) : CallR X (.builtin "len") (rLenS K) := by
  subst hK
  exact call_len_seq
end
/-! ### lists of ints -/
section
variable {K : PySem.W.Frag} {σ : L2.St} {H H0 H' : Hp} {ta tb tc te tx tl : TE} {t u : TT} {x y z v : V} {a b : Addr} {xs ys : List Int} {D : Ends} {tu tw tz : TS}
theorem int_item {ns : List Int} {i : Nat} {x : V} (h : (ns.map V.int)[i]? = some x) : ∃ (c : Int) (hi : i < ns.length), x = V.int c ∧ ns[i] = c := by
  rw [List.getElem?_map] at h
  cases e : ns[i]? with
  | none => rw [e] at h; cases h
  | some c =>
    rw [e] at h
    obtain ⟨hi, e2⟩ := List.getElem?_eq_some_iff.mp e
    exact ⟨c, hi, (Option.some.inj h).symm, e2⟩
theorem int_at {ns : List Int} {i : Nat} (hi : i < ns.length) : (ns.map V.int)[i]? = some (V.int ns[i]) := by
  rw [List.getElem?_map, List.getElem?_eq_getElem hi]
  rfl
theorem dp_all : ∀ xs : List Int, DpAll K H (xs.map V.int) (xs.map PyData.int)
  | [] => .nil
  | x :: r => .cons (.int x) (dp_all r)
theorem dp_ints (h : SqL K H a (xs.map V.int)) : Dp K H (.ref a) (.list (xs.map PyData.int)) := .lst h (dp_all xs)
theorem lay_ints : ∀ xs : List Int, PyData.canLayAll0 (xs.map PyData.int) = true
  | [] => rfl
  | x :: r => by
    show (PyData.canLay0 (PyData.int x) && PyData.canLayAll0 (r.map PyData.int)) = true
    rw [lay_ints r]
    rfl
theorem depth_ints : ∀ xs : List Int, PyData.depthAll (xs.map PyData.int) ≤ 1
  | [] => by decide
  | x :: r => by
    show max (PyData.depth (PyData.int x)) (PyData.depthAll (r.map PyData.int)) ≤ 1
    have := depth_ints r
    have e : PyData.depth (PyData.int x) ≤ 1 := by
      first | (show (0 : Nat) ≤ 1; decide) | (show (1 : Nat) ≤ 1; decide) | (simp [PyData.depth])
    omega
theorem shaped_ints (xs : List Int) : SeqAt.shaped (.list (xs.map PyData.int)) = true := by
  unfold SeqAt.shaped
  have h1 : PyData.canLay0 (.list (xs.map PyData.int)) = true := lay_ints xs
  have h2 : PyData.depth (.list (xs.map PyData.int)) ≤ 64 := by
    have e : PyData.depth (.list (xs.map PyData.int)) = 1 + PyData.depthAll (xs.map PyData.int) := by simp [PyData.depth, Nat.add_comm]
    have := depth_ints xs
    omega
  rw [h1, decide_eq_true h2]
  rfl
theorem eqv_ints : ∀ xs ys : List Int, PyData.eqvAll (xs.map PyData.int) (ys.map PyData.int) = decide (xs = ys)
  | [], [] => rfl
  | [], _ :: _ => rfl
  | _ :: _, [] => rfl
  | x :: r, y :: q => by
    show (PyData.eqv (.int x) (.int y) && PyData.eqvAll (r.map PyData.int) (q.map PyData.int)) = decide (x :: r = y :: q)
    rw [eqv_ints r q]
    have e : PyData.eqv (.int x) (.int y) = (x == y) := by simp [PyData.eqv]
    rw [e]
    by_cases h : x = y
    · subst h
      by_cases h2 : r = q
      · subst h2
        simp
      · simp [h2]
    · simp [h]
theorem rv_eqL (h1 : SqL K H a (xs.map V.int)) (h2 : SqL K H b (ys.map V.int)) : RV (rEqD K) (.ref a) (.ref b) H (.bl (decide (xs = ys))) := fun H1 e Q q =>
  ⟨_, _, dp_ints (ex_l e h1), dp_ints (ex_l e h2), shaped_ints _, shaped_ints _, by
    show Q (.bl (PyData.eqvAll (xs.map PyData.int) (ys.map PyData.int))) H1
    rw [eqv_ints]
    exact q H1 (Ex.refl H1)⟩
theorem rv_neL (h1 : SqL K H a (xs.map V.int)) (h2 : SqL K H b (ys.map V.int)) : RV (rNeD K) (.ref a) (.ref b) H (.bl (!decide (xs = ys))) := fun H1 e Q q =>
  ⟨_, _, dp_ints (ex_l e h1), dp_ints (ex_l e h2), shaped_ints _, shaped_ints _, by
    show Q (.bl (!PyData.eqvAll (xs.map PyData.int) (ys.map PyData.int))) H1
    rw [eqv_ints]
    exact q H1 (Ex.refl H1)⟩
/-- [e for x in xs] -/
theorem el_mapL {l : Addr} {vs : List V} {j : Nat} {ws : List Nat} (g : V → V) (h : Ev tl σ H (.ref l)) (hx : SqL K H l vs) (hz : vs.length ≤ 40000) (hw : ∀ x, wipe ((wipe σ ws).set j (some x)) ws = wipe σ ws)
    (he : ∀ x H1, Ex H H1 → x ∈ vs → Ev te ((wipe σ ws).set j (some x)) H1 (g x)) : EvL (tLc (iList K tl) (gName j) tYes te ws) σ H (vs.map g) := by
  have h0 := el_lcL (K := K) (t := tYes) (te := te) (fun _ => true) (fun i => match vs[i]? with | some x => g x | none => .non) h hx hz hw (fun i x H1 e hi => fun H2 _ Q q => q H2 (Ex.refl H2)) (fun i x H1 e hi _ => by
    rw [hi]
    exact he x H1 e (List.mem_of_getElem? hi))
  have e : given vs.length (fun _ => true) (fun i => match vs[i]? with | some x => g x | none => .non) = vs.map g := by
    unfold given
    rw [List.filter_eq_self.mpr (fun _ _ => rfl)]
    apply List.ext_getElem?
    intro i
    rw [List.getElem?_map, List.getElem?_map]
    by_cases hi : i < vs.length
    · rw [List.getElem?_range hi, List.getElem?_eq_getElem hi]
      simp [hi]
    · rw [List.getElem?_eq_none (by simpa using hi), List.getElem?_eq_none (by simpa using hi)]
      rfl
  rw [e] at h0
  exact h0
/-- all([..]) -/
theorem ev_allL {bs : List Bool} (h : EvL te σ H (bs.map V.bl)) : Ev (tCB (rAll K) (tCons te tNil)) σ H (.bl (bs.all id)) := fun H1 e Q q =>
  h H1 e _ fun p H2 _ e2 hp => ⟨p, bs, rfl, sq_of hp, q H2 e2⟩
theorem ev_allI {l : Addr} {ns : List Int} {j : Nat} {ws : List Nat} (p : Int → Bool) (h : Ev tl σ H (.ref l)) (hx : SqL K H l (ns.map V.int)) (hz : ns.length ≤ 40000) (hw : ∀ x, wipe ((wipe σ ws).set j (some x)) ws = wipe σ ws)
    (he : ∀ m H1, Ex H H1 → m ∈ ns → Ev te ((wipe σ ws).set j (some (.int m))) H1 (.bl (p m))) : Ev (tCB (rAll K) (tCons (tLc (iList K tl) (gName j) tYes te ws) tNil)) σ H (.bl (ns.all p)) := by
  have h0 := el_mapL (K := K) (te := te) (fun x => match x with | .int m => V.bl (p m) | _ => .non) h hx (by rw [List.length_map]; exact hz) hw (fun x H1 e hm => by
    obtain ⟨m, hm2, rfl⟩ := List.mem_map.mp hm
    exact he m H1 e hm2)
  have e : (ns.map V.int).map (fun x => match x with | .int m => V.bl (p m) | _ => .non) = (ns.map p).map V.bl := by
    rw [List.map_map, List.map_map]
    rfl
  rw [e] at h0
  have h1 := ev_allL (K := K) h0
  have e2 : (ns.map p).all id = ns.all p := by rw [List.all_map]; rfl
  rw [e2] at h1
  exact h1
/-- [x] * n -/
theorem el_rep {vs : List V} {n : Int} (h : EvL ta σ H vs) (hb : ∀ H1, Ex H H1 → Ev tb σ H1 (.int n)) (h0 : 0 ≤ n) (h1 : n ≤ 1000) (hl : vs.length ≤ 1) : EvL (tOp rRep ta tb) σ H (List.replicate n.toNat vs).flatten := fun H1 e Q q =>
  h H1 e _ fun p H2 hp e2 hv => hb H2 (e.trans e2) H2 (Ex.refl H2) _ fun H3 e3 => ⟨p, n, vs, rfl, rfl, e3 _ _ hv, by omega, by omega, by
    have : vs.length * n.toNat ≤ 1 * 1000 := Nat.mul_le_mul hl (by omega)
    exact Nat.le_trans this (by decide), fun p' hp' => q p' _ (fresh_back (e2.trans e3) hp') ((e2.trans e3).trans (Ex.new hp')) upd_same⟩
theorem flat_one (n : Nat) (v : V) : (List.replicate n [v]).flatten = List.replicate n v := by
  induction n with
  | zero => rfl
  | succ n ih => rw [List.replicate_succ, List.flatten_cons, ih]; rfl
/-- list(reversed(xs)) -/
theorem el_lstRev {vs : List V} (h : Ev te σ H (.ref a)) (hx : SqL K H a vs) : EvL (tLstRev K te) σ H vs.reverse := fun H1 e Q q =>
  h H1 e _ fun H2 e2 => ⟨a, vs, rfl, ex_l (e.trans e2) hx, fun p hp => q p _ (fresh_back e2 hp) (e2.trans (Ex.new hp)) upd_same⟩
theorem cut_ints (ns : List Int) (lo hi : Option Int) : ∃ ms : List Int, cutV (ns.map V.int) lo hi = ms.map V.int := by
  unfold cutV
  rw [← List.map_drop, ← List.map_take]
  exact ⟨_, rfl⟩
theorem b_forNLn {vs : List V} {j : Nat} (e : Ex H0 H) (h : EvL tl σ H0 vs) (Pv : Addr → Nat → L2.St → Hp → Prop) (h0 : ∀ p H1, H p = none → Ex H H1 → H1 p = some (.lst vs) → Pv p 0 σ H1) (hl : ∀ p i σ' H', i ≤ vs.length → Pv p i σ' H' → SqL K H' p vs)
    (hs : ∀ p i x σ' H', vs[i]? = some x → Pv p i σ' H' → tu { D with nx := Pv p (i + 1), ct := Pv p (i + 1), bk := tz D } (σ'.set j (some x)) H') (hd : ∀ p σ' H', Pv p vs.length σ' H' → tz D σ' H') : tSeq (tFor (iList K tl) (gName j) tu) tz D σ H :=
  q_forNLn (h.mono e) Pv h0 hl hs hd
theorem b_forRev {tg : TA} {l : Addr} {vs : List V} {j : Nat} (e : Ex H0 H) (h : EvA tg σ H0 [.ref l]) (hx : SqL K H0 l vs) (Pv : Nat → L2.St → Hp → Prop) (h0 : ∀ H1, Ex H0 H1 → Pv 0 σ H1) (hq : ∀ i σ' H', Pv i σ' H' → SqL K H' l vs)
    (hs : ∀ (i : Nat) x σ' H', i < vs.length → vs[vs.length - 1 - i]? = some x → Pv i σ' H' → tu { D with nx := Pv (i + 1), ct := Pv (i + 1), bk := tz D } (σ'.set j (some x)) H') (hd : ∀ σ' H', Pv vs.length σ' H' → tz D σ' H') : tSeq (tFor (iRev K tg) (gName j) tu) tz D σ H :=
  h H e _ fun H1 e1 => ⟨l, vs, rfl, ex_l (e.trans e1) hx, RT.for_Itv Pv (h0 H1 (e.trans e1)) hq hs hd⟩
end
/-! ### what raises as is wished -/
section
variable {K : PySem.W.Frag} {σ : L2.St} {H H0 H' : Hp} {ta tb tc te tx tl : TE} {t u : TT} {x y z v : V} {a b C dx : Addr} {fs : List (Str × V)} {m : Str} {D : Ends} {tu tw tz : TS} {r : R2} {tg tr : TA}
def EvR (te : TE) (σ : L2.St) (H : Hp) : Prop := ∀ H1, Ex H H1 → ∀ Q : VK, te σ H1 Q
def EvRA (ta : TA) (σ : L2.St) (H : Hp) : Prop := ∀ H1, Ex H H1 → ∀ Q : List V → Hp → Prop, ta σ H1 Q
theorem er_op1 (h : EvR ta σ H) : EvR (tOp r ta tb) σ H := fun H1 e _ => h H1 e _
theorem er_op2 (ha : Ev ta σ H x) (h : EvR tb σ H) : EvR (tOp r ta tb) σ H := fun H1 e _ => ha H1 e _ fun H2 e2 => h H2 (e.trans e2) _
theorem er_cons1 (h : EvR ta σ H) : EvRA (tCons ta tr) σ H := fun H1 e _ => h H1 e _
theorem er_cons2 (ha : Ev ta σ H x) (h : EvRA tr σ H) : EvRA (tCons ta tr) σ H := fun H1 e _ => ha H1 e _ fun H2 e2 => h H2 (e.trans e2) _
theorem er_methA {sp : Sp} {dvs : List V} {E : XK} (h : Ev ta σ H (.ref a)) (ho : H a = some (.ins C dx fs)) (hl : fs.lookup m = none) (ha : EvRA tg σ H) : EvR (tMeth C m sp dvs E ta tg) σ H := fun H1 e _ =>
  h H1 e _ fun H2 e2 => ⟨a, dx, fs, rfl, e2 _ _ (e _ _ ho), hl, ha H2 (e.trans e2) _⟩
theorem er_meth {sp : Sp} {dvs vs : List V} {E : XK} (h : Ev ta σ H (.ref a)) (ho : H a = some (.ins C dx fs)) (hl : fs.lookup m = none) (ha : EvA tg σ H vs) (hs : ∀ H1, Ex H H1 → ∀ Q : VK, sp (.ref a :: (vs ++ dvs)) H1 Q E) : EvR (tMeth C m sp dvs E ta tg) σ H := fun H1 e Q =>
  h H1 e _ fun H2 e2 => ⟨a, dx, fs, rfl, e2 _ _ (e _ _ ho), hl, ha H2 (e.trans e2) _ fun H3 e3 => hs H3 ((e.trans e2).trans e3) Q⟩
theorem b_retR (e : Ex H0 H) (h : EvR te σ H0) : tRet te D σ H := h H e _
/-- return o.m(..), as the promise goes on -/
theorem b_retMeth {sp : Sp} {dvs vs : List V} {E : XK} (e : Ex H0 H) (h : Ev ta σ H0 (.ref a)) (ho : H0 a = some (.ins C dx fs)) (hl : fs.lookup m = none) (ha : EvA tg σ H0 vs) (hs : ∀ H1, Ex H0 H1 → sp (.ref a :: (vs ++ dvs)) H1 D.rt E) : tRet (tMeth C m sp dvs E ta tg) D σ H :=
  h H e _ fun H2 e2 => ⟨a, dx, fs, rfl, (e.trans e2) _ _ ho, hl, ha H2 (e.trans e2) _ fun H3 e3 => hs H3 ((e.trans e2).trans e3)⟩
theorem b_asgR {i : Nat} (e : Ex H0 H) (h : EvR te σ H0) : tSeq (tAsg te (gName i)) tz D σ H := h H e _
theorem RetX.mono {c : Addr} {E : XK} {H H' : Hp} (h : ∀ H2, Ex H H2 → E (.ref c) none H2) (e : Ex H H') : ∀ H2, Ex H' H2 → E (.ref c) none H2 := fun H2 e2 => h H2 (e.trans e2)
/-- x = [a new list, a new list] -/
theorem b_asgLL {i : Nat} {xs ys : List V} (e : Ex H0 H) (h1 : EvL ta σ H0 xs) (h2 : EvL tb σ H0 ys) (k : ∀ p a b H1, H0 p = none → Ex H0 H1 → H1 p = some (.lst [.ref a, .ref b]) → H1 a = some (.lst xs) → H1 b = some (.lst ys) → tz D (σ.set i (some (.ref p))) H1) :
    tSeq (tAsg (tLst (tCons ta (tCons tb tNil))) (gName i)) tz D σ H :=
  h1 H e _ fun a H1 ha e1 h1 => h2 H1 (e.trans e1) _ fun b H2 hb e2 h2 => ⟨by show 2 ≤ sizeLine; decide, fun p hp => k p a b _ (fresh_back ((e.trans e1).trans e2) hp) (((e.trans e1).trans e2).trans (Ex.new hp)) upd_same (by rw [upd_ne (ne_of_none (e2 _ _ h1) hp)]; exact e2 _ _ h1) (by rw [upd_ne (ne_of_none h2 hp)]; exact h2)⟩
/-- a new tuple handed back -/
def RetU (xs : List V) (H : Hp) (Q : VK) : Prop := ∀ p H2, H p = none → Ex H H2 → H2 p = some (.tup xs) → Q (.ref p) H2
theorem eu_callF {sp : Sp} {dvs vs xs : List V} {E : XK} (ha : EvA tg σ H vs) (hs : ∀ H1, Ex H H1 → ∀ Q : VK, RetU xs H1 Q → sp (vs ++ dvs) H1 Q E) : EvU (tCall sp dvs E tg) σ H xs := fun H1 e Q q =>
  ha H1 e _ fun H2 e2 => hs H2 (e.trans e2) Q fun p H3 hp e3 h3 => q p H3 (fresh_back e2 hp) (e2.trans e3) h3
theorem ev_lenT {p : Addr} {xs : List V} (ha : Ev ta σ H (.ref p)) (h : SqT K H p xs) : Ev (tCB (rLenS K) (tCons ta tNil)) σ H (.int (xs.length : Int)) := fun H1 e Q q =>
  ha H1 e _ fun H2 e2 => ⟨p, xs, rfl, Or.inr (ex_t (e.trans e2) h), q H2 e2⟩
theorem b_aug {i : Nat} {f : Int → Int → Int} {a b : Int} (e : Ex H0 H) (hx : σ[i]? = some (some (.int a))) (h : Ev te σ H0 (.int b)) (k : ∀ H1, Ex H0 H1 → tz D (σ.set i (some (.int (f a b)))) H1) : tSeq (tAug i te (ipI f)) tz D σ H := q_aug hx (h.mono e) fun H1 e1 => k H1 (e.trans e1)
theorem l_aug {i : Nat} {f : Int → Int → Int} {a b : Int} (e : Ex H0 H) (hx : σ[i]? = some (some (.int a))) (h : Ev te σ H0 (.int b)) (k : ∀ H1, Ex H0 H1 → D.nx (σ.set i (some (.int (f a b)))) H1) : tAug i te (ipI f) D σ H := s_aug hx (h.mono e) fun H1 e1 => k H1 (e.trans e1)
/-- a change: none, a turn, a swap -/
inductive Ch where
  | non | turn (j : Int) | swap (i j : Int)
/-- .. as a value -/
def ChAt (K : PySem.W.Frag) (H : Hp) (v : V) : Ch → Prop
  | .non => v = .non
  | .turn j => ∃ t, v = .ref t ∧ SqT K H t [.str "turn", .int j]
  | .swap i j => ∃ t, v = .ref t ∧ SqT K H t [.str "swap", .int i, .int j]
theorem ChAt.mono {c : Ch} (h : ChAt K H v c) (e : Ex H H') : ChAt K H' v c := by
  cases c with
  | non => exact h
  | turn j => obtain ⟨t, rfl, h⟩ := h; exact ⟨t, rfl, ex_t e h⟩
  | swap i j => obtain ⟨t, rfl, h⟩ := h; exact ⟨t, rfl, ex_t e h⟩
theorem rv_isNb {b : Bool} (h : decide (x = .non) = b) : RV (fun x y H Q => y = .non ∧ Q (.bl (decide (x = .non))) H) x .non H (.bl b) := by
  subst h
  exact rv_isN
theorem rv_notNb {b : Bool} (h : (!decide (x = .non)) = b) : RV (fun x y H Q => y = .non ∧ Q (.bl (!decide (x = .non))) H) x .non H (.bl b) := by
  subst h
  exact rv_notN
theorem rv_neS {x y : Str} {b : Bool} (h : (!decide (V.str x = V.str y)) = b) : RV rNe (.str x) (.str y) H (.bl b) := by
  subst h
  exact rv_ne rfl
end
end Mk

namespace Mk
open PySem L2 Evl PyProof.Rows
/-! ### steps of the reading -/
local macro_rules | `(tactic| walk_at "rv") => `(tactic| first
  | (with_reducible exact rv_I0)
  | (with_reducible exact rv_eqI)
  | (with_reducible exact rv_neI)
  | (with_reducible refine rv_I (C := CMul) (cmul_r ?_ ?_) <;> omega)
  | (with_reducible refine rv_I (C := CMul) (cmul_l ?_ ?_) <;> omega)
  | (with_reducible refine rv_I (C := CDivW) (cdiv_small ?_ ?_) <;> omega)
  | (with_reducible refine rv_I (C := fun _ j => 0 < j) ?_ <;> omega)
  | (with_reducible exact rv_p12)
  | (with_reducible exact rv_c7)
  | (with_reducible exact rv_isN)
  | (with_reducible exact rv_notN)
  | ((with_reducible apply rv_eq); rfl)
  | ((with_reducible apply rv_ne); rfl))
local macro_rules | `(tactic| walk_at "ev") => `(tactic| first
  | (with_reducible exact ev_c)
  | ((with_reducible apply ev_var); rfl)
  | (with_reducible exact ea_nil)
  | ((with_reducible apply ea_cons); walk_at "ev"; walk_at "ev")
  | ((with_reducible apply et_test); walk_at "ev")
  | ((with_reducible apply et_B); walk_at "ev")
  | ((with_reducible apply et_not); walk_at "ev")
  | ((with_reducible apply et_or); walk_at "ev"; (intro _; walk_at "ev"))
  | ((with_reducible apply et_and); walk_at "ev"; (intro _; walk_at "ev"))
  | ((with_reducible apply ev_op); walk_at "ev"; walk_at "ev"; walk_at "rv")
  | ((with_reducible apply ev_chain); walk_at "ev"; walk_at "ev"; walk_at "rv"; (intro _; walk_at "ev"); (intro _; walk_at "rv"))
  | ((with_reducible apply ev_un0); walk_at "ev")
  | (with_reducible assumption))

/-! ### the text by places -/
def top (i : Nat) : Stmt := PySem.Challenge.pw_marksteps_k03_one_turn.main.body.getD i (.Pass ⟨0, 0, 0, 0⟩)
abbrev s_law_length : Stmt := top 18
abbrev N_law_length : List Str := ["_law_cell"]
abbrev P_law_length : List Str := ["_law_cell"]
abbrev s_law_signs : Stmt := top 19
abbrev N_law_signs : List Str := ["_law_cell"]
abbrev P_law_signs : List Str := ["_law_cell"]
abbrev s_law_power : Stmt := top 20
abbrev N_law_power : List Str := ["_law_signs_here", "_law_times", "_law_many", "_law_k"]
abbrev P_law_power : List Str := ["_law_signs_here", "_law_times"]
abbrev s_Listing___init__ : Stmt := inClass (top 10) 0
abbrev N_Listing___init__ : List Str := ["self", "length", "size"]
abbrev P_Listing___init__ : List Str := ["self", "length", "size"]
abbrev s_power : Stmt := top 2
abbrev N_power : List Str := ["signs", "length", "many", "spot"]
abbrev P_power : List Str := ["signs", "length"]
abbrev s_Turning___init__ : Stmt := inClass (top 14) 0
abbrev N_Turning___init__ : List Str := ["self", "signs", "length"]
abbrev P_Turning___init__ : List Str := ["self", "signs", "length"]
abbrev s_law_cell_at : Stmt := top 16
abbrev N_law_cell_at : List Str := ["_law_script", "_law_k"]
abbrev P_law_cell_at : List Str := ["_law_script", "_law_k"]
abbrev s_law_fold : Stmt := top 21
abbrev N_law_fold : List Str := ["_law_script", "_law_many", "_law_number", "_law_cell"]
abbrev P_law_fold : List Str := ["_law_script", "_law_many"]
abbrev s_law_place : Stmt := top 22
abbrev N_law_place : List Str := ["_law_script", "_law_signs_here", "_law_length_here", "_law_many", "_law_cell", "_law_near", "_law_number", "_law_part"]
abbrev P_law_place : List Str := ["_law_script", "_law_signs_here", "_law_length_here", "_law_many"]
abbrev s_Turning_row_at : Stmt := inClass (top 14) 1
abbrev N_Turning_row_at : List Str := ["self", "place", "row", "rest", "figure", "spot", "higher"]
abbrev P_Turning_row_at : List Str := ["self", "place"]
abbrev s_law_turned : Stmt := top 29
abbrev N_law_turned : List Str := ["_law_row", "_law_spot", "_law_signs_here", "_law_made"]
abbrev P_law_turned : List Str := ["_law_row", "_law_spot", "_law_signs_here"]
abbrev s_law_whole : Stmt := top 17
abbrev N_law_whole : List Str := ["_law_found"]
abbrev P_law_whole : List Str := ["_law_found"]
abbrev s_law_same : Stmt := top 24
abbrev N_law_same : List Str := ["_law_found", "_law_due", "_law_mark"]
abbrev P_law_same : List Str := ["_law_found", "_law_due"]
abbrev s_law_given : Stmt := top 26
abbrev N_law_given : List Str := ["_law_found", "_law_due", "_law_handed", "_law_row"]
abbrev P_law_given : List Str := ["_law_found", "_law_due", "_law_handed", "_law_row"]
abbrev s_Turning_is_row : Stmt := inClass (top 14) 2
abbrev N_Turning_is_row : List Str := ["self", "row", "mark"]
abbrev P_Turning_is_row : List Str := ["self", "row"]
abbrev s_Turning_moved : Stmt := inClass (top 14) 5
abbrev N_Turning_moved : List Str := ["self", "row", "change", "by", "made"]
abbrev P_Turning_moved : List Str := ["self", "row", "change", "by"]
abbrev s_Turning_undone : Stmt := inClass (top 14) 7
abbrev N_Turning_undone : List Str := ["self", "row", "change"]
abbrev P_Turning_undone : List Str := ["self", "row", "change"]
abbrev s_Turning_done : Stmt := inClass (top 14) 6
abbrev N_Turning_done : List Str := ["self", "row", "change"]
abbrev P_Turning_done : List Str := ["self", "row", "change"]
abbrev s_law_any_turn : Stmt := top 30
abbrev N_law_any_turn : List Str := ["_law_lot", "_law_row", "_law_spot", "_law_signs_here", "_law_made", "_law_handed"]
abbrev P_law_any_turn : List Str := ["_law_lot", "_law_row", "_law_spot", "_law_signs_here"]
abbrev s_law_none_done : Stmt := top 28
abbrev N_law_none_done : List Str := ["_law_lot", "_law_row", "_law_handed"]
abbrev P_law_none_done : List Str := ["_law_lot", "_law_row"]
abbrev s_Turning_place_of : Stmt := inClass (top 14) 3
abbrev N_Turning_place_of : List Str := ["self", "row", "place", "figure", "mark"]
abbrev P_Turning_place_of : List Str := ["self", "row"]
abbrev s_Listing_leap : Stmt := inClass (top 10) 4
abbrev N_Listing_leap : List Str := ["self", "row", "steps"]
abbrev P_Listing_leap : List Str := ["self", "row", "steps"]
abbrev s_Listing_row_before : Stmt := inClass (top 10) 6
abbrev N_Listing_row_before : List Str := ["self", "row"]
abbrev P_Listing_row_before : List Str := ["self", "row"]
abbrev s_Turning_change : Stmt := inClass (top 14) 4
abbrev N_Turning_change : List Str := ["self", "row", "place", "spot"]
abbrev P_Turning_change : List Str := ["self", "row"]
abbrev s_Listing_next_row : Stmt := inClass (top 10) 5
abbrev N_Listing_next_row : List Str := ["self", "row"]
abbrev P_Listing_next_row : List Str := ["self", "row"]
abbrev s_law_alone : Stmt := top 27
abbrev N_law_alone : List Str := ["_law_lot", "_law_row", "_law_handed"]
abbrev P_law_alone : List Str := ["_law_lot", "_law_row"]
abbrev s_law_is_row : Stmt := top 23
abbrev N_law_is_row : List Str := ["_law_found", "_law_signs_here", "_law_length_here", "_law_mark"]
abbrev P_law_is_row : List Str := ["_law_found", "_law_signs_here", "_law_length_here"]
abbrev s_law_is_turn : Stmt := top 25
abbrev N_law_is_turn : List Str := ["_law_found", "_law_spot"]
abbrev P_law_is_turn : List Str := ["_law_found", "_law_spot"]
abbrev s_law : Stmt := top 31
abbrev N_law : List Str := ["_law_script", "_law_length_here", "_law_signs_here", "_law_many", "_law_lot", "_law_place_here", "_law_row", "_law_other", "_law_spots", "_law_k", "_law_kept"]
abbrev P_law : List Str := ["_law_script"]
/-! ### what the top has left -/
structure Txt (K : PySem.W.Frag) (mg : Str → Option Value) where
  a_law_length : Addr
  d_law_length : FuncData
  a_law_signs : Addr
  d_law_signs : FuncData
  a_law_power : Addr
  d_law_power : FuncData
  a_Listing___init__ : Addr
  d_Listing___init__ : FuncData
  a_power : Addr
  d_power : FuncData
  a_Turning___init__ : Addr
  d_Turning___init__ : FuncData
  a_law_cell_at : Addr
  d_law_cell_at : FuncData
  a_law_fold : Addr
  d_law_fold : FuncData
  a_law_place : Addr
  d_law_place : FuncData
  a_Turning_row_at : Addr
  d_Turning_row_at : FuncData
  a_law_turned : Addr
  d_law_turned : FuncData
  a_law_whole : Addr
  d_law_whole : FuncData
  a_law_same : Addr
  d_law_same : FuncData
  a_law_given : Addr
  d_law_given : FuncData
  a_Turning_is_row : Addr
  d_Turning_is_row : FuncData
  a_Turning_moved : Addr
  d_Turning_moved : FuncData
  a_Turning_undone : Addr
  d_Turning_undone : FuncData
  a_Turning_done : Addr
  d_Turning_done : FuncData
  a_law_any_turn : Addr
  d_law_any_turn : FuncData
  a_law_none_done : Addr
  d_law_none_done : FuncData
  a_Turning_place_of : Addr
  d_Turning_place_of : FuncData
  a_Listing_leap : Addr
  d_Listing_leap : FuncData
  t_Listing_leap : Addr
  e_Listing_leap : List Value
  a_Listing_row_before : Addr
  d_Listing_row_before : FuncData
  a_Turning_change : Addr
  d_Turning_change : FuncData
  a_Listing_next_row : Addr
  d_Listing_next_row : FuncData
  a_law_alone : Addr
  d_law_alone : FuncData
  a_law_is_row : Addr
  d_law_is_row : FuncData
  a_law_is_turn : Addr
  d_law_is_turn : FuncData
  a_law : Addr
  d_law : FuncData
  c_NoForm : Addr
  c_NoPlace : Addr
  c_NoRow : Addr
  c_NoChange : Addr
  c_Listing : Addr
  c_Turning : Addr
  t_MOST_SIGNS : Tok
  t_MOST_SPOTS : Tok
  g_all : mg "all" = none
  g_bool : mg "bool" = none
  g_divmod : mg "divmod" = none
  g_int : mg "int" = none
  g_isinstance : mg "isinstance" = none
  g_len : mg "len" = none
  g_list : mg "list" = none
  g_range : mg "range" = none
  g_reversed : mg "reversed" = none
  g_str : mg "str" = none
  g_tuple : mg "tuple" = none
  m_MOST_SIGNS : mg "MOST_SIGNS" = some (.int 1000000000000 t_MOST_SIGNS)
  m_MOST_SPOTS : mg "MOST_SPOTS" = some (.int 200 t_MOST_SPOTS)
  F_law_length : Fun K "_law_length" "_law_length" s_law_length a_law_length d_law_length
  b_law_length : Binds K d_law_length P_law_length []
  m_law_length : mg "_law_length" = some (.ref a_law_length)
  F_law_signs : Fun K "_law_signs" "_law_signs" s_law_signs a_law_signs d_law_signs
  b_law_signs : Binds K d_law_signs P_law_signs []
  m_law_signs : mg "_law_signs" = some (.ref a_law_signs)
  F_law_power : Fun K "_law_power" "_law_power" s_law_power a_law_power d_law_power
  b_law_power : Binds K d_law_power P_law_power []
  m_law_power : mg "_law_power" = some (.ref a_law_power)
  F_Listing___init__ : Fun K "__init__" "Listing.__init__" s_Listing___init__ a_Listing___init__ d_Listing___init__
  b_Listing___init__ : Binds K d_Listing___init__ P_Listing___init__ []
  F_power : Fun K "power" "power" s_power a_power d_power
  b_power : Binds K d_power P_power []
  m_power : mg "power" = some (.ref a_power)
  F_Turning___init__ : Fun K "__init__" "Turning.__init__" s_Turning___init__ a_Turning___init__ d_Turning___init__
  b_Turning___init__ : Binds K d_Turning___init__ P_Turning___init__ []
  F_law_cell_at : Fun K "_law_cell_at" "_law_cell_at" s_law_cell_at a_law_cell_at d_law_cell_at
  b_law_cell_at : Binds K d_law_cell_at P_law_cell_at []
  m_law_cell_at : mg "_law_cell_at" = some (.ref a_law_cell_at)
  F_law_fold : Fun K "_law_fold" "_law_fold" s_law_fold a_law_fold d_law_fold
  b_law_fold : Binds K d_law_fold P_law_fold []
  m_law_fold : mg "_law_fold" = some (.ref a_law_fold)
  F_law_place : Fun K "_law_place" "_law_place" s_law_place a_law_place d_law_place
  b_law_place : Binds K d_law_place P_law_place []
  m_law_place : mg "_law_place" = some (.ref a_law_place)
  F_Turning_row_at : Fun K "row_at" "Turning.row_at" s_Turning_row_at a_Turning_row_at d_Turning_row_at
  b_Turning_row_at : Binds K d_Turning_row_at P_Turning_row_at []
  F_law_turned : Fun K "_law_turned" "_law_turned" s_law_turned a_law_turned d_law_turned
  b_law_turned : Binds K d_law_turned P_law_turned []
  m_law_turned : mg "_law_turned" = some (.ref a_law_turned)
  F_law_whole : Fun K "_law_whole" "_law_whole" s_law_whole a_law_whole d_law_whole
  b_law_whole : Binds K d_law_whole P_law_whole []
  m_law_whole : mg "_law_whole" = some (.ref a_law_whole)
  F_law_same : Fun K "_law_same" "_law_same" s_law_same a_law_same d_law_same
  b_law_same : Binds K d_law_same P_law_same []
  m_law_same : mg "_law_same" = some (.ref a_law_same)
  F_law_given : Fun K "_law_given" "_law_given" s_law_given a_law_given d_law_given
  b_law_given : Binds K d_law_given P_law_given []
  m_law_given : mg "_law_given" = some (.ref a_law_given)
  F_Turning_is_row : Fun K "is_row" "Turning.is_row" s_Turning_is_row a_Turning_is_row d_Turning_is_row
  b_Turning_is_row : Binds K d_Turning_is_row P_Turning_is_row []
  F_Turning_moved : Fun K "moved" "Turning.moved" s_Turning_moved a_Turning_moved d_Turning_moved
  b_Turning_moved : Binds K d_Turning_moved P_Turning_moved []
  F_Turning_undone : Fun K "undone" "Turning.undone" s_Turning_undone a_Turning_undone d_Turning_undone
  b_Turning_undone : Binds K d_Turning_undone P_Turning_undone []
  F_Turning_done : Fun K "done" "Turning.done" s_Turning_done a_Turning_done d_Turning_done
  b_Turning_done : Binds K d_Turning_done P_Turning_done []
  F_law_any_turn : Fun K "_law_any_turn" "_law_any_turn" s_law_any_turn a_law_any_turn d_law_any_turn
  b_law_any_turn : Binds K d_law_any_turn P_law_any_turn []
  m_law_any_turn : mg "_law_any_turn" = some (.ref a_law_any_turn)
  F_law_none_done : Fun K "_law_none_done" "_law_none_done" s_law_none_done a_law_none_done d_law_none_done
  b_law_none_done : Binds K d_law_none_done P_law_none_done []
  m_law_none_done : mg "_law_none_done" = some (.ref a_law_none_done)
  F_Turning_place_of : Fun K "place_of" "Turning.place_of" s_Turning_place_of a_Turning_place_of d_Turning_place_of
  b_Turning_place_of : Binds K d_Turning_place_of P_Turning_place_of []
  F_Listing_leap : FunD K "leap" "Listing.leap" (defArgs s_Listing_leap) (defBody s_Listing_leap) (defScope s_Listing_leap) [.int 1] [] a_Listing_leap d_Listing_leap
  b_Listing_leap : Binds K d_Listing_leap P_Listing_leap []
  ve_Listing_leap : Vals [.int 1] e_Listing_leap
  be_Listing_leap : Binds K d_Listing_leap P_Listing_leap e_Listing_leap
  F_Listing_row_before : Fun K "row_before" "Listing.row_before" s_Listing_row_before a_Listing_row_before d_Listing_row_before
  b_Listing_row_before : Binds K d_Listing_row_before P_Listing_row_before []
  F_Turning_change : Fun K "change" "Turning.change" s_Turning_change a_Turning_change d_Turning_change
  b_Turning_change : Binds K d_Turning_change P_Turning_change []
  F_Listing_next_row : Fun K "next_row" "Listing.next_row" s_Listing_next_row a_Listing_next_row d_Listing_next_row
  b_Listing_next_row : Binds K d_Listing_next_row P_Listing_next_row []
  F_law_alone : Fun K "_law_alone" "_law_alone" s_law_alone a_law_alone d_law_alone
  b_law_alone : Binds K d_law_alone P_law_alone []
  m_law_alone : mg "_law_alone" = some (.ref a_law_alone)
  F_law_is_row : Fun K "_law_is_row" "_law_is_row" s_law_is_row a_law_is_row d_law_is_row
  b_law_is_row : Binds K d_law_is_row P_law_is_row []
  m_law_is_row : mg "_law_is_row" = some (.ref a_law_is_row)
  F_law_is_turn : Fun K "_law_is_turn" "_law_is_turn" s_law_is_turn a_law_is_turn d_law_is_turn
  b_law_is_turn : Binds K d_law_is_turn P_law_is_turn []
  m_law_is_turn : mg "_law_is_turn" = some (.ref a_law_is_turn)
  F_law : Fun K "law" "law" s_law a_law d_law
  b_law : Binds K d_law P_law []
  m_NoForm : mg "NoForm" = some (.ref c_NoForm)
  x_NoForm : PySem.W.excIn K c_NoForm [.type "ValueError", .type "Exception", .type "BaseException", .type "object"] "ValueError.__new__" = true
  k_NoForm : PySem.W.keepIn K (.ref c_NoForm) = true
  bE_NoForm : PySem.W.subIn K (.ref c_NoForm) (.type "BaseException") = some true
  tE_NoForm : PySem.W.typeIn K (.ref c_NoForm) = some (.type "type")
  m_NoPlace : mg "NoPlace" = some (.ref c_NoPlace)
  x_NoPlace : PySem.W.excIn K c_NoPlace [.type "ValueError", .type "Exception", .type "BaseException", .type "object"] "ValueError.__new__" = true
  k_NoPlace : PySem.W.keepIn K (.ref c_NoPlace) = true
  bE_NoPlace : PySem.W.subIn K (.ref c_NoPlace) (.type "BaseException") = some true
  tE_NoPlace : PySem.W.typeIn K (.ref c_NoPlace) = some (.type "type")
  m_NoRow : mg "NoRow" = some (.ref c_NoRow)
  x_NoRow : PySem.W.excIn K c_NoRow [.type "ValueError", .type "Exception", .type "BaseException", .type "object"] "ValueError.__new__" = true
  k_NoRow : PySem.W.keepIn K (.ref c_NoRow) = true
  bE_NoRow : PySem.W.subIn K (.ref c_NoRow) (.type "BaseException") = some true
  tE_NoRow : PySem.W.typeIn K (.ref c_NoRow) = some (.type "type")
  m_NoChange : mg "NoChange" = some (.ref c_NoChange)
  x_NoChange : PySem.W.excIn K c_NoChange [.type "ValueError", .type "Exception", .type "BaseException", .type "object"] "ValueError.__new__" = true
  k_NoChange : PySem.W.keepIn K (.ref c_NoChange) = true
  bE_NoChange : PySem.W.subIn K (.ref c_NoChange) (.type "BaseException") = some true
  tE_NoChange : PySem.W.typeIn K (.ref c_NoChange) = some (.type "type")
  m_Listing : mg "Listing" = some (.ref c_Listing)
  cr_Listing : ClX.CRead K c_Listing (.type "type")
  at_Listing___init__ : PySem.W.findCls K (.ref c_Listing) (.type "type") "__init__" = some (.val (.ref a_Listing___init__))
  m_Turning : mg "Turning" = some (.ref c_Turning)
  cl_Turning : Cls K c_Turning
  mk_Turning : Mk K c_Turning a_Turning___init__
  no_Turning_length : NoAttr K c_Turning "length"
  no_Turning_size : NoAttr K c_Turning "size"
  no_Turning_signs : NoAttr K c_Turning "signs"
  me_Turning_change : Meth K c_Turning "change" a_Turning_change
  me_Turning_done : Meth K c_Turning "done" a_Turning_done
  me_Turning_is_row : Meth K c_Turning "is_row" a_Turning_is_row
  me_Turning_leap : Meth K c_Turning "leap" a_Listing_leap
  me_Turning_moved : Meth K c_Turning "moved" a_Turning_moved
  me_Turning_next_row : Meth K c_Turning "next_row" a_Listing_next_row
  me_Turning_place_of : Meth K c_Turning "place_of" a_Turning_place_of
  me_Turning_row_at : Meth K c_Turning "row_at" a_Turning_row_at
  me_Turning_row_before : Meth K c_Turning "row_before" a_Listing_row_before
  me_Turning_undone : Meth K c_Turning "undone" a_Turning_undone

section
variable {P : Program} {w : World} {K : PySem.W.Frag} {mg : Str → Option Value} {base : Heap}
/-! #### _law_length -/
theorem sc_law_length : FnScope N_law_length P_law_length (defScope s_law_length) := ⟨rfl, rfl, rfl, by decide +kernel, rfl, by decide +kernel, by decide +kernel⟩
def sp_law_length (_ : Txt K mg) : Sp := fun vs H Q _ => ∃ (c : Int), vs = [.int c] ∧ RetS (fun v => ∃ n : Nat, v = .int n ∧ n ≤ 200) H Q
theorem es_length {T : Txt K mg} {σ : L2.St} {H : Hp} {tg : TA} {E : XK} {c : Int} (ha : EvA tg σ H [.int c]) : EvS (tCall (sp_law_length T) [] E tg) σ H (fun v => ∃ n : Nat, v = .int n ∧ n ≤ 200) :=
  es_callF ha fun _ _ _ q => ⟨c, rfl, q⟩
theorem ok_law_length (T : Txt K mg) : FnOk P w K mg base CX0 1 T.a_law_length T.d_law_length P_law_length (sp_law_length T) := by
  refine (T.F_law_length).ok sc_law_length (fun vs H Q E h => ?len) (fun cdv A outer s H vs Q E hr h => ⟨_, (pss_cons (ps_if (pt_cmpR op_eq (pe_op op_mod (pv 0) pe_int) pe_int (nomark _)) (pss_one (ps_ret (pe_op op_mod (pe_op op_fdivW (pv 0) pe_int) pe_int))) pss_nil)
    (pss_one (ps_ret (pe_op op_mod (pe_op op_fdivW (pv 0) pe_int) pe_int)))), ?read⟩)
  case len =>
    obtain ⟨c, rfl, _⟩ := h
    rfl
  case read =>
    obtain ⟨c, rfl, q⟩ := h
    show tSeq _ _ _ [some (.int c)] H
    have done : ∀ z : Int, 0 ≤ z → z ≤ 200 → ∀ H2, Ex H H2 → Q (.int z) H2 := fun z h0 h1 H2 e => q (.int z) ⟨z.toNat, by rw [Int.toNat_of_nonneg h0], by omega⟩ H2 e
    refine b_when (Ex.refl H) (by walk_at "ev") (fun hb H1 e1 => ?_) (fun hb H1 e1 => ?_)
    · exact b_ret e1 (v := .int (c / 3 % 201)) (by walk_at "ev") (done _ (by omega) (by omega))
    · exact b_ret e1 (v := .int (c / 3 % 13)) (by walk_at "ev") (done _ (by omega) (by omega))
/-! #### _law_signs -/
theorem sc_law_signs : FnScope N_law_signs P_law_signs (defScope s_law_signs) := ⟨rfl, rfl, rfl, by decide +kernel, rfl, by decide +kernel, by decide +kernel⟩
def sp_law_signs (_ : Txt K mg) : Sp := fun vs H Q _ => ∃ (c : Int), vs = [.int c] ∧ RetS (fun v => ∃ s : Int, v = .int s ∧ 2 ≤ s ∧ s ≤ 1000000000000) H Q
theorem es_signs {T : Txt K mg} {σ : L2.St} {H : Hp} {tg : TA} {E : XK} {c : Int} (ha : EvA tg σ H [.int c]) : EvS (tCall (sp_law_signs T) [] E tg) σ H (fun v => ∃ s : Int, v = .int s ∧ 2 ≤ s ∧ s ≤ 1000000000000) :=
  es_callF ha fun _ _ _ q => ⟨c, rfl, q⟩
theorem ok_law_signs (T : Txt K mg) : FnOk P w K mg base CX0 1 T.a_law_signs T.d_law_signs P_law_signs (sp_law_signs T) := by
  refine (T.F_law_signs).ok sc_law_signs (fun vs H Q E h => ?len) (fun cdv A outer s H vs Q E hr h => ⟨_, (pss_cons (ps_if (pt_cmpR op_eq (pe_op op_mod (pv 0) pe_int) pe_int (nomark _)) (pss_one (ps_ret pe_int)) pss_nil)
    (pss_cons (ps_if (pt_cmpR op_eq (pe_op op_mod (pv 0) pe_int) pe_int (nomark _)) (pss_one (ps_ret (pe_op op_add pe_int (pe_op op_mod (pe_op op_fdivW (pv 0) pe_int) pe_int)))) pss_nil)
    (pss_cons (ps_if (pt_cmpR op_eq (pe_op op_mod (pv 0) pe_int) pe_int (nomark _)) (pss_one (ps_ret (pe_op op_sub (pe_op op_pow pe_int pe_int) (pe_op op_mod (pe_op op_fdivW (pv 0) pe_int) pe_int)))) pss_nil)
    (pss_one (ps_ret (pe_op op_add pe_int (pe_op op_mod (pe_op op_mul (pe_op op_fdivW (pv 0) pe_int) pe_int) (pe_op op_sub (pe_op op_pow pe_int pe_int) pe_int)))))))), ?read⟩)
  case len =>
    obtain ⟨c, rfl, _⟩ := h
    rfl
  case read =>
    obtain ⟨c, rfl, q⟩ := h
    show tSeq _ _ _ [some (.int c)] H
    have done : ∀ z : Int, 2 ≤ z → z ≤ 1000000000000 → ∀ H2, Ex H H2 → Q (.int z) H2 := fun z h0 h1 H2 e => q (.int z) ⟨z, rfl, h0, h1⟩ H2 e
    refine b_when (Ex.refl H) (by walk_at "ev") (fun hb H1 e1 => b_ret e1 (by walk_at "ev") (done _ (by omega) (by omega))) (fun hb H1 e1 => ?_)
    refine b_when e1 (by walk_at "ev") (fun hb H1 e1 => b_ret e1 (v := .int (3 + c / 4 % 9)) (by walk_at "ev") (done _ (by omega) (by omega))) (fun hb H1 e1 => ?_)
    refine b_when e1 (by walk_at "ev") (fun hb H1 e1 => b_ret e1 (v := .int (1000000000000 - c / 4 % 3)) (by walk_at "ev") (done _ (by omega) (by omega))) (fun hb H1 e1 => ?_)
    exact b_ret e1 (v := .int (2 + c / 4 * 982451653 % (1000000000000 - 1))) (by walk_at "ev") (done _ (by omega) (by omega))
/-! #### _law_power -/
theorem sc_law_power : FnScope N_law_power P_law_power (defScope s_law_power) := ⟨rfl, rfl, rfl, by decide +kernel, rfl, by decide +kernel, by decide +kernel⟩
def sp_law_power (_ : Txt K mg) : Sp := fun vs H Q _ => ∃ (s : Int) (n : Nat), vs = [.int s, .int n] ∧ 0 ≤ s ∧ s ≤ 1000000000000 ∧ n ≤ 200 ∧ RetV (.int (s ^ n)) H Q
theorem ev_law_power {T : Txt K mg} {σ : L2.St} {H : Hp} {tg : TA} {E : XK} (s : Int) (n : Nat) (h0 : 0 ≤ s) (h1 : s ≤ 1000000000000) (hn : n ≤ 200) (ha : EvA tg σ H [.int s, .int n]) : Ev (tCall (sp_law_power T) [] E tg) σ H (.int (s ^ n)) :=
  ev_callF ha fun _ _ _ q => ⟨s, n, rfl, h0, h1, hn, q⟩
theorem ok_law_power (T : Txt K mg) : FnOk P w K mg base CX0 1 T.a_law_power T.d_law_power P_law_power (sp_law_power T) := by
  refine (T.F_law_power).ok sc_law_power (fun vs H Q E h => ?len) (fun cdv A outer s H vs Q E hr h => ⟨_, (pss_cons (ps_set (i := 2) sc_law_power.nd rfl (Or.inl rfl) pe_int)
    (pss_cons (ps_for PassesOwn.never rfl (pi_range1 rfl T.g_range (pa_cons (pv 1) pa_nil)) (pg_name (i := 3) sc_law_power.nd rfl (Or.inl rfl)) (pss_one (ps_set (i := 2) sc_law_power.nd rfl (Or.inl rfl) (pe_op op_mul (pv 2) (pv 0)))))
    (pss_one (ps_ret (pv 2))))), ?read⟩)
  case len =>
    obtain ⟨s, n, rfl, _⟩ := h
    rfl
  case read =>
    obtain ⟨s, n, rfl, h0, h1, hn, q⟩ := h
    show tSeq _ _ _ [some (.int s), some (.int n), none, none] H
    refine b_asg (Ex.refl H) (by walk_at "ev") fun H1 e => ?_
    refine b_forR1 (n := (n : Int)) e (by walk_at "ev") (by omega) (by omega) (fun i σ' H' => ∃ v, σ' = [some (.int s), some (.int n), some (.int (s ^ i)), v] ∧ Ex H H') (fun H3 e3 => ⟨none, by rw [Int.pow_zero]; rfl, e3⟩) ?_ ?_
    · rintro i σ' H' hi ⟨v, rfl, e3⟩
      refine l_asg e3 (v := .int (s ^ (i + 1))) ?_ fun H4 e4 => ⟨_, rfl, e4⟩
      rw [Int.pow_succ]
      show Ev _ [some (.int s), some (.int n), some (.int (s ^ i)), some (.int (i : Int))] H _
      walk_at "ev"
    · rintro σ' H' ⟨v, rfl, e3⟩
      exact b_ret e3 (ev_var rfl) q
/-! #### Listing.__init__ -/
theorem sc_Listing___init__ : FnScope N_Listing___init__ P_Listing___init__ (defScope s_Listing___init__) := ⟨rfl, rfl, rfl, by decide +kernel, rfl, by decide +kernel, by decide +kernel⟩
def sp_Listing___init__ (_ : Txt K mg) : Sp := fun vs H Q _ => ∃ (x C dx : Addr) (n z : Int), vs = [.ref x, .int n, .int z] ∧ Cls K C ∧ NoAttr K C "length" ∧ NoAttr K C "size" ∧ H x = some (.ins C dx []) ∧ RetO C x dx (lF n z) H Q
theorem ok_Listing___init__ (T : Txt K mg) : FnOk P w K mg base CX0 1 T.a_Listing___init__ T.d_Listing___init__ P_Listing___init__ (sp_Listing___init__ T) := by
  refine (T.F_Listing___init__).ok sc_Listing___init__ (fun vs H Q E h => ?len) (fun cdv A outer s H vs Q E hr h => ⟨_, (pss_cons (ps_fld (pv 0) (pv 1) rfl)
    (pss_one (ps_fld (pv 0) (pv 2) rfl))), ?read⟩)
  case len =>
    obtain ⟨x, C, dx, n, z, rfl, _⟩ := h
    rfl
  case read =>
    obtain ⟨x, C, dx, n, z, rfl, hc, h1, h2, hx, q⟩ := h
    refine ⟨_, rfl, _, rfl, x, C, dx, [], rfl, hx, hc, h1, (by show 0 < 1000; decide), ?_⟩
    refine ⟨_, rfl, _, rfl, x, C, dx, _, rfl, upd_same, hc, h2, (Nat.lt_of_le_of_lt (len_putF _ _ _) (by show 1 < 1000; decide)), ?_⟩
    refine q _ (fun b o e hb => ?_) upd_same
    rw [upd_ne hb, upd_ne hb]
    exact e
/-! #### power -/
theorem sc_power : FnScope N_power P_power (defScope s_power) := ⟨rfl, rfl, rfl, by decide +kernel, rfl, by decide +kernel, by decide +kernel⟩
def sp_power (_ : Txt K mg) : Sp := fun vs H Q _ => ∃ (s : Int) (n : Nat), vs = [.int s, .int n] ∧ 0 ≤ s ∧ s ≤ 1000000000000 ∧ n ≤ 200 ∧ RetV (.int (s ^ n)) H Q
theorem ev_power {T : Txt K mg} {σ : L2.St} {H : Hp} {tg : TA} {E : XK} (s : Int) (n : Nat) (h0 : 0 ≤ s) (h1 : s ≤ 1000000000000) (hn : n ≤ 200) (ha : EvA tg σ H [.int s, .int n]) : Ev (tCall (sp_power T) [] E tg) σ H (.int (s ^ n)) :=
  ev_callF ha fun _ _ _ q => ⟨s, n, rfl, h0, h1, hn, q⟩
theorem ok_power (T : Txt K mg) : FnOk P w K mg base CX0 1 T.a_power T.d_power P_power (sp_power T) := by
  refine (T.F_power).ok sc_power (fun vs H Q E h => ?len) (fun cdv A outer s H vs Q E hr h => ⟨_, (pss_cons (ps_set (i := 2) sc_power.nd rfl (Or.inl rfl) pe_int)
    (pss_cons (ps_for PassesOwn.never rfl (pi_range1 rfl T.g_range (pa_cons (pv 1) pa_nil)) (pg_name (i := 3) sc_power.nd rfl (Or.inl rfl)) (pss_one (ps_set (i := 2) sc_power.nd rfl (Or.inl rfl) (pe_op op_mul (pv 2) (pv 0)))))
    (pss_one (ps_ret (pv 2))))), ?read⟩)
  case len =>
    obtain ⟨s, n, rfl, _⟩ := h
    rfl
  case read =>
    obtain ⟨s, n, rfl, h0, h1, hn, q⟩ := h
    show tSeq _ _ _ [some (.int s), some (.int n), none, none] H
    refine b_asg (Ex.refl H) (by walk_at "ev") fun H1 e => ?_
    refine b_forR1 (n := (n : Int)) e (by walk_at "ev") (by omega) (by omega) (fun i σ' H' => ∃ v, σ' = [some (.int s), some (.int n), some (.int (s ^ i)), v] ∧ Ex H H') (fun H3 e3 => ⟨none, by rw [Int.pow_zero]; rfl, e3⟩) ?_ ?_
    · rintro i σ' H' hi ⟨v, rfl, e3⟩
      refine l_asg e3 (v := .int (s ^ (i + 1))) ?_ fun H4 e4 => ⟨_, rfl, e4⟩
      rw [Int.pow_succ]
      show Ev _ [some (.int s), some (.int n), some (.int (s ^ i)), some (.int (i : Int))] H _
      walk_at "ev"
    · rintro σ' H' ⟨v, rfl, e3⟩
      exact b_ret e3 (ev_var rfl) q
/-! #### Turning.__init__ -/
theorem sc_Turning___init__ : FnScope N_Turning___init__ P_Turning___init__ (defScope s_Turning___init__) := ⟨rfl, rfl, rfl, by decide +kernel, rfl, by decide +kernel, by decide +kernel⟩
/-- the bounds of a turning list's form -/
def TForm (s n : Int) : Prop := 2 ≤ s ∧ s ≤ 1000000000000 ∧ 0 ≤ n ∧ n ≤ 200
/-- a turning list stands at o -/
def IsT (T : Txt K mg) (H : Hp) (o : Addr) (s : Int) (n : Nat) : Prop := ∃ dx, H o = some (.ins T.c_Turning dx (tF s n (s ^ n)))
theorem IsT.mono {T : Txt K mg} {H H' : Hp} {o : Addr} {s : Int} {n : Nat} (h : IsT T H o s n) (e : Ex H H') : IsT T H' o s n := let ⟨dx, h⟩ := h; ⟨dx, e _ _ h⟩
/-- refused -/
def RetX (c : Addr) (H : Hp) (E : XK) : Prop := ∀ H2, Ex H H2 → E (.ref c) none H2
def sp_Turning___init__ (T : Txt K mg) : Sp := fun vs H Q E => ∃ (x dx : Addr) (s n : Int), vs = [.ref x, .int s, .int n] ∧ H x = some (.ins T.c_Turning dx []) ∧
  (TForm s n → RetO T.c_Turning x dx (tF s n (s ^ n.toNat)) H Q) ∧ (¬ TForm s n → RetX T.c_NoForm H E)
theorem eo_Turning {T : Txt K mg} {σ : L2.St} {H : Hp} {tg : TA} {E : XK} {s : Int} {n : Nat} (h : TForm s n) (ha : EvA tg σ H [.int s, .int n]) : EvO (tMake T.c_Turning (sp_Turning___init__ T) [] E tg) σ H T.c_Turning (tF s n (s ^ n)) :=
  eo_make ha fun H1 e x dx hx Q q => ⟨x, dx, s, n, rfl, hx, fun _ => q, fun z => absurd h z⟩
theorem ok_Turning___init__ (T : Txt K mg) : FnOk P w K mg base (L2.CX P w) 2 T.a_Turning___init__ T.d_Turning___init__ P_Turning___init__ (sp_Turning___init__ T) := by
  have G_Listing___init__ := ok_Listing___init__ (P := P) (w := w) (base := base) T
  have G_power := ok_power (P := P) (w := w) (base := base) T
  refine (T.F_Turning___init__).okX sc_Turning___init__ (fun vs H Q E h => ?len) (fun cdv A outer s H vs Q E hr h => ⟨_, (pss_cons (ps_if (PW.pt (pw_or (pt_not (pt_chain op_le op_le pe_int (pv 1) (pe_glob (v := .int 1000000000000) rfl T.m_MOST_SIGNS ⟨_, rfl⟩))) (pw_or1 (pt_not (pt_chain op_le op_le pe_int (pv 2) (pe_glob (v := .int 200) rfl T.m_MOST_SPOTS ⟨_, rfl⟩)))))) (pss_one (ps_raise rfl (takes_of rfl rfl rfl rfl) (pmk_own PySem.F.excBase_ValueError T.x_NoForm T.m_NoForm T.k_NoForm (raises_own T.bE_NoForm T.tE_NoForm) rfl))) pss_nil)
    (pss_cons (ps_expr (pe_clsfn T.cr_Listing T.at_Listing___init__ T.F_Listing___init__.kp G_Listing___init__ (hr.mono (by decide)) (by rfl) T.m_Listing T.b_Listing___init__ .nil pass0 (pa_cons (pv 0) (pa_cons (pv 2) (pa_cons (pe_call G_power (hr.mono (by decide)) (by rfl) T.m_power T.F_power.kp T.b_power .nil pass0 (pa_cons (pv 1) (pa_cons (pv 2) pa_nil))) pa_nil)))))
    (pss_one (ps_fld (pv 0) (pv 1) rfl)))), ?read⟩)
  case len =>
    obtain ⟨x, dx, s, n, rfl, _⟩ := h
    rfl
  case read =>
    obtain ⟨x, dx, s, n, rfl, hx, q, qe⟩ := h
    show tSeq _ _ _ [some (.ref x), some (.int s), some (.int n)] H
    refine b_when (Ex.refl H) (by walk_at "ev") (fun hb H1 e1 => ?_) (fun hb H1 e1 => ?_)
    · refine qe ?_ H1 e1
      intro f
      unfold TForm at f
      simp at hb
      omega
    · have f : TForm s n := by
        unfold TForm
        simp at hb
        omega
      obtain ⟨m, rfl⟩ : ∃ m : Nat, n = m := ⟨n.toNat, by have := f.2.2.1; omega⟩
      have hp := ev_power (T := T) (σ := [some (.ref x), some (.int s), some (.int m)]) (H := H) (tg := tCons (tVar 1) (tCons (tVar 2) tNil)) (E := E0) s m (by have := f.1; omega) f.2.1 (by have := f.2.2.2; omega) (by walk_at "ev")
      have ha : EvA (tCons (tVar 0) (tCons (tVar 2) (tCons (tCall (sp_power T) [] E0 (tCons (tVar 1) (tCons (tVar 2) tNil))) tNil))) [some (.ref x), some (.int s), some (.int m)] H [.ref x, .int m, .int (s ^ m)] :=
        ea_cons (ev_var rfl) (ea_cons (ev_var rfl) (ea_cons hp ea_nil))
      refine b_dropCall e1 ha fun H2 e2 => ?_
      refine ⟨x, T.c_Turning, dx, m, s ^ m, rfl, T.cl_Turning, T.no_Turning_length, T.no_Turning_size, e2 _ _ hx, fun H3 k3 h3 => ?_⟩
      refine ⟨_, rfl, _, rfl, x, T.c_Turning, dx, _, rfl, h3, T.cl_Turning, T.no_Turning_signs, (Nat.lt_of_le_of_lt (lF_len _ _) (by decide)), ?_⟩
      refine q f _ (fun b o eb hb => ?_) upd_same
      rw [upd_ne hb]
      exact k3 b o (e2 _ _ eb) hb
/-! #### _law_cell_at -/
theorem sc_law_cell_at : FnScope N_law_cell_at P_law_cell_at (defScope s_law_cell_at) := ⟨rfl, rfl, rfl, by decide +kernel, rfl, by decide +kernel, by decide +kernel⟩
def sp_law_cell_at (_ : Txt K mg) : Sp := fun vs H Q _ => ∃ (a : Addr) (ns : List Int) (k : Int), vs = [.ref a, .int k] ∧ 0 ≤ k ∧ SqL K H a (ns.map V.int) ∧ RetV (.int (cell ns k)) H Q
theorem ev_cell {T : Txt K mg} {σ : L2.St} {H : Hp} {tg : TA} {E : XK} {a : Addr} {ns : List Int} {k : Int} (ha : EvA tg σ H [.ref a, .int k]) (hs : SqL K H a (ns.map V.int)) (h0 : 0 ≤ k) : Ev (tCall (sp_law_cell_at T) [] E tg) σ H (.int (cell ns k)) :=
  ev_callF ha fun _ e _ q => ⟨a, ns, k, rfl, h0, ex_l e hs, q⟩
local macro_rules | `(tactic| walk_at "ev") => `(tactic| ((with_reducible apply ev_cell); walk_at "ev"; assumption; omega))
theorem ok_law_cell_at (T : Txt K mg) : FnOk P w K mg base CX0 1 T.a_law_cell_at T.d_law_cell_at P_law_cell_at (sp_law_cell_at T) := by
  refine (T.F_law_cell_at).ok sc_law_cell_at (fun vs H Q E h => ?len) (fun cdv A outer s H vs Q E hr h => ⟨_, (pss_cons (ps_if (pt_cmpR op_lt (pv 1) (pe_callB call_len_seq (by rfl) T.g_len boot_len (pa_cons (pv 0) pa_nil)) (nomark _)) (pss_one (ps_ret (pe_ix ix_list (pv 0) (pv 1) (fun _ _ => rfl)))) pss_nil)
    (pss_one (ps_ret pe_int))), ?read⟩)
  case len =>
    obtain ⟨a, ns, k, rfl, _⟩ := h
    rfl
  case read =>
    obtain ⟨a, ns, k, rfl, h0, hs, q⟩ := h
    show tSeq _ _ _ [some (.ref a), some (.int k)] H
    obtain ⟨k, rfl⟩ : ∃ n : Nat, k = n := ⟨k.toNat, by omega⟩
    refine b_when (Ex.refl H) (et_test (ev_op (ev_var rfl) (ev_len (ev_var rfl) hs) rv_I0)) (fun hb H1 e1 => ?_) (fun hb H1 e1 => ?_)
    · have h1 : k < ns.length := by simpa using hb
      have e : cell ns k = ns[k] := by simp [cell, h1]
      refine b_ret e1 (v := .int (cell ns k)) ?_ q
      refine ev_op (ev_var rfl) (ev_var rfl) (rv_ixL hs (atI_nat ?_))
      rw [e]
      simp [h1]
    · have h1 : ns.length ≤ k := by simpa using hb
      have e : cell ns k = 0 := by simp [cell, h1]
      rw [e] at q
      exact b_ret e1 ev_c q
/-! #### _law_fold -/
theorem sc_law_fold : FnScope N_law_fold P_law_fold (defScope s_law_fold) := ⟨rfl, rfl, rfl, by decide +kernel, rfl, by decide +kernel, by decide +kernel⟩
/-- numbers folded: some number below many -/
def sp_law_fold (_ : Txt K mg) : Sp := fun vs H Q _ => ∃ (a : Addr) (ns : List Int) (m : Int), vs = [.ref a, .int m] ∧ SqL K H a (ns.map V.int) ∧ 0 < m ∧ Fits m ∧ RetS (fun v => ∃ z : Int, v = .int z ∧ 0 ≤ z ∧ z < m) H Q
theorem es_fold {T : Txt K mg} {σ : L2.St} {H : Hp} {tg : TA} {E : XK} {a : Addr} {ns : List Int} {m : Int} (hs : SqL K H a (ns.map V.int)) (h0 : 0 < m) (h1 : Fits m) (ha : EvA tg σ H [.ref a, .int m]) :
    EvS (tCall (sp_law_fold T) [] E tg) σ H (fun v => ∃ z : Int, v = .int z ∧ 0 ≤ z ∧ z < m) := es_callF ha fun _ e _ q => ⟨a, ns, m, rfl, ex_l e hs, h0, h1, q⟩
theorem ok_law_fold (T : Txt K mg) : FnOk P w K mg base CX0 1 T.a_law_fold T.d_law_fold P_law_fold (sp_law_fold T) := by
  refine (T.F_law_fold).ok sc_law_fold (fun vs H Q E h => ?len) (fun cdv A outer s H vs Q E hr h => ⟨_, (pss_cons (ps_set (i := 2) sc_law_fold.nd rfl (Or.inl rfl) pe_int)
    (pss_cons (ps_for PassesOwn.never rfl (pi_list (pv 0)) (pg_name (i := 3) sc_law_fold.nd rfl (Or.inl rfl)) (pss_one (ps_set (i := 2) sc_law_fold.nd rfl (Or.inl rfl) (pe_op op_mod (pe_op op_add (pe_op op_mulX (pv 2) (pe_op op_pow pe_int pe_int)) (pv 3)) (pv 1)))))
    (pss_one (ps_ret (pv 2))))), ?read⟩)
  case len =>
    obtain ⟨a, ns, m, rfl, _⟩ := h
    rfl
  case read =>
    obtain ⟨a, ns, m, rfl, hs, h0, h1, q⟩ := h
    show tSeq _ _ _ [some (.ref a), some (.int m), none, none] H
    refine b_asg (Ex.refl H) (by walk_at "ev") fun H1 e => ?_
    refine b_forLn e (ev_var rfl) hs (fun i σ' H' => ∃ (z : Int) (v : Option V), σ' = [some (.ref a), some (.int m), some (.int z), v] ∧ 0 ≤ z ∧ z < m ∧ Ex H H') (fun H3 e3 => ⟨0, none, rfl, by omega, h0, e3⟩) (fun i σ' H' _ ⟨_, _, _, _, _, e3⟩ => ex_l e3 hs) ?_ ?_
    · rintro i x σ' H' hi ⟨z, v, rfl, z0, z1, e3⟩
      obtain ⟨c, rfl⟩ : ∃ c, x = V.int c := by
        rw [List.getElem?_map] at hi
        cases h : ns[i]? with
        | none => rw [h] at hi; cases hi
        | some c => rw [h] at hi; exact ⟨c, (Option.some.inj hi).symm⟩
      have hz : Fits z := h1.le z0 (Int.le_of_lt z1)
      refine l_asg e3 (v := .int ((z * c7 + c) % m)) ?_ fun H4 e4 => ⟨_, _, rfl, Int.emod_nonneg _ (by omega), Int.emod_lt_of_pos _ h0, e4⟩
      show Ev _ [some (.ref a), some (.int m), some (.int z), some (.int c)] H _
      refine ev_op (ev_op (ev_op (ev_var rfl) (ev_op ev_c ev_c rv_c7) (rv_mulC7 hz)) (ev_var rfl) rv_I0) (ev_var rfl) (rv_I h0)
    · rintro σ' H' ⟨z, v, rfl, z0, z1, e3⟩
      exact b_ret e3 (ev_var rfl) (q _ ⟨z, rfl, z0, z1⟩)
/-! #### _law_place -/
theorem sc_law_place : FnScope N_law_place P_law_place (defScope s_law_place) := ⟨rfl, rfl, rfl, by decide +kernel, rfl, by decide +kernel, by decide +kernel⟩
/-- some place -/
def sp_law_place (_ : Txt K mg) : Sp := fun vs H Q _ => ∃ (a : Addr) (ns : List Int) (s : Int) (n : Nat), vs = [.ref a, .int s, .int n, .int (s ^ n)] ∧ SqL K H a (ns.map V.int) ∧ 2 ≤ s ∧ s ≤ 1000000000000 ∧ n ≤ 200 ∧
  RetS (fun v => ∃ z : Int, v = .int z ∧ 0 ≤ z ∧ z < s ^ n) H Q
theorem es_place {T : Txt K mg} {σ : L2.St} {H : Hp} {tg : TA} {E : XK} {a : Addr} {ns : List Int} {s : Int} {n : Nat} (hs : SqL K H a (ns.map V.int)) (h0 : 2 ≤ s) (h1 : s ≤ 1000000000000) (hn : n ≤ 200) (ha : EvA tg σ H [.ref a, .int s, .int n, .int (s ^ n)]) :
    EvS (tCall (sp_law_place T) [] E tg) σ H (fun v => ∃ z : Int, v = .int z ∧ 0 ≤ z ∧ z < s ^ n) := es_callF ha fun _ e _ q => ⟨a, ns, s, n, rfl, ex_l e hs, h0, h1, hn, q⟩
theorem ok_law_place (T : Txt K mg) : FnOk P w K mg base CX0 2 T.a_law_place T.d_law_place P_law_place (sp_law_place T) := by
  have G_law_cell_at := ok_law_cell_at (P := P) (w := w) (base := base) T
  have G_law_fold := ok_law_fold (P := P) (w := w) (base := base) T
  have G_law_power := ok_law_power (P := P) (w := w) (base := base) T
  refine (T.F_law_place).ok sc_law_place (fun vs H Q E h => ?len) (fun cdv A outer s H vs Q E hr h => ⟨_, (pss_cons (ps_set (i := 4) sc_law_place.nd rfl (Or.inl rfl) (pe_call G_law_cell_at (hr.mono (by decide)) (by rfl) T.m_law_cell_at T.F_law_cell_at.kp T.b_law_cell_at .nil pass0 (pa_cons (pv 0) (pa_cons pe_int pa_nil))))
    (pss_cons (ps_set (i := 5) sc_law_place.nd rfl (Or.inl rfl) (pe_op op_sub (pe_op op_mod (pe_op op_fdivW (pv 4) pe_int) pe_int) pe_int))
    (pss_cons (ps_if (pt_cmpR op_eq (pe_op op_mod (pv 4) pe_int) pe_int (nomark _)) (pss_one (ps_ret (pe_op op_mod (pv 5) (pv 3)))) pss_nil)
    (pss_cons (ps_set (i := 6) sc_law_place.nd rfl (Or.inl rfl) (pe_call G_law_fold (hr.mono (by decide)) (by rfl) T.m_law_fold T.F_law_fold.kp T.b_law_fold .nil pass0 (pa_cons (pv 0) (pa_cons (pv 3) pa_nil))))
    (pss_cons (ps_if (pt_cmpR op_eq (pe_op op_mod (pv 4) pe_int) pe_int (nomark _)) (pss_cons (ps_set (i := 7) sc_law_place.nd rfl (Or.inl rfl) (pe_call G_law_power (hr.mono (by decide)) (by rfl) T.m_law_power T.F_law_power.kp T.b_law_power .nil pass0 (pa_cons (pv 1) (pa_cons (pe_op op_mod (pe_call G_law_cell_at (hr.mono (by decide)) (by rfl) T.m_law_cell_at T.F_law_cell_at.kp T.b_law_cell_at .nil pass0 (pa_cons (pv 0) (pa_cons pe_int pa_nil))) (pe_op op_add (pv 2) pe_int)) pa_nil))))
    (pss_one (ps_set (i := 6) sc_law_place.nd rfl (Or.inl rfl) (pe_op op_add (pe_op op_mulX (pe_op op_fdivW (pv 6) (pv 7)) (pv 7)) (pv 5))))) pss_nil)
    (pss_one (ps_ret (pe_op op_mod (pv 6) (pv 3))))))))), ?read⟩)
  case len =>
    obtain ⟨a, ns, s, n, rfl, _⟩ := h
    rfl
  case read =>
    obtain ⟨a, ns, s, n, rfl, hs, h0, h1, hn, q⟩ := h
    have m0 : 0 < s ^ n := Int.pow_pos (by omega)
    have mb : Fits (s ^ n) := pow_fits (by omega) h1 hn
    have done : ∀ z : Int, ∀ H2, Ex H H2 → Q (.int (z % s ^ n)) H2 := fun z H2 e => q _ ⟨_, rfl, Int.emod_nonneg _ (by omega), Int.emod_lt_of_pos _ m0⟩ H2 e
    generalize hm : s ^ n = m at *
    show tSeq _ _ _ [some (.ref a), some (.int s), some (.int n), some (.int m), none, none, none, none] H
    refine b_asg (Ex.refl H) (by walk_at "ev") fun H1 e => ?_
    refine b_asg e (v := .int (cell ns 2 / 3 % 9 - 4)) (by walk_at "ev") fun H2 e => ?_
    refine b_when e (by walk_at "ev") (fun hb H1 e1 => b_ret e1 (by walk_at "ev") (done _)) (fun hb H3 e => ?_)
    refine b_asgS e (es_fold hs m0 mb (by walk_at "ev")) ?_
    rintro _ ⟨z, rfl, z0, z1⟩ H4 e
    show tSeq _ _ _ [some (.ref a), some (.int s), some (.int n), some (.int m), some (.int (cell ns 2)), some (.int (cell ns 2 / 3 % 9 - 4)), some (.int z), none] H4
    refine b_when e (by walk_at "ev") (fun hb H5 e => ?_) (fun hb H5 e => ?_)
    · obtain ⟨j, hj, hj2⟩ := mod_nat (cell ns 3) n
      refine b_asg e (ev_law_power s j (by omega) h1 (by omega) ?_) fun H6 e => ?_
      · rw [← hj]
        walk_at "ev"
      have hj0 : 0 < s ^ j := Int.pow_pos (by omega)
      have hjb : Fits (s ^ j) := pow_fits (by omega) h1 (by omega)
      have zd : Fits (z / s ^ j) := (mb.le z0 (Int.le_of_lt z1)).div z0 hj0
      refine e_asg e (v := .int (z / s ^ j * s ^ j + (cell ns 2 / 3 % 9 - 4))) ?_ fun H7 e => ?_
      · show Ev _ [some (.ref a), some (.int s), some (.int n), some (.int m), some (.int (cell ns 2)), some (.int (cell ns 2 / 3 % 9 - 4)), some (.int z), some (.int (s ^ j))] H _
        exact ev_op (ev_op (ev_op (ev_var rfl) (ev_var rfl) (rv_divF hj0 hjb)) (ev_var rfl) (rv_mulF zd hjb)) (ev_var rfl) rv_I0
      · exact b_ret e (by walk_at "ev") (done _)
    · exact b_ret e (by walk_at "ev") (done _)
/-! #### Turning.row_at -/
theorem sc_Turning_row_at : FnScope N_Turning_row_at P_Turning_row_at (defScope s_Turning_row_at) := ⟨rfl, rfl, rfl, by decide +kernel, rfl, by decide +kernel, by decide +kernel⟩
def sp_Turning_row_at (T : Txt K mg) : Sp := fun vs H Q E => ∃ (o : Addr) (s : Int) (n : Nat) (p : Int), vs = [.ref o, .int p] ∧ TForm s n ∧ IsT T H o s n ∧
  (0 ≤ p ∧ p < s ^ n → RetL ((trow s n p).map V.int) H Q) ∧ (¬ (0 ≤ p ∧ p < s ^ n) → RetX T.c_NoPlace H E)
theorem el_trow {T : Txt K mg} {σ : L2.St} {H : Hp} {ta : TE} {tg : TA} {E : XK} {o : Addr} {s : Int} {n : Nat} {p : Int} (f : TForm s n) (ho : IsT T H o s n) (p0 : 0 ≤ p) (p1 : p < s ^ n) (hv : Ev ta σ H (.ref o)) (ha : EvA tg σ H [.int p]) :
    EvL (tMeth T.c_Turning "row_at" (sp_Turning_row_at T) [] E ta tg) σ H ((trow s n p).map V.int) := by
  obtain ⟨dx, h⟩ := ho
  exact el_meth hv h (tF_no _ _ _ (by decide +kernel) (by decide +kernel) (by decide +kernel)) ha fun H1 e Q q => ⟨o, s, n, p, rfl, f, ⟨dx, e _ _ h⟩, fun _ => q, fun z => absurd ⟨p0, p1⟩ z⟩
theorem ok_Turning_row_at (T : Txt K mg) : FnOk P w K mg base (L2.CX P w) 1 T.a_Turning_row_at T.d_Turning_row_at P_Turning_row_at (sp_Turning_row_at T) := by
  refine (T.F_Turning_row_at).okX sc_Turning_row_at (fun vs H Q E h => ?len) (fun cdv A outer s H vs Q E hr h => ⟨_, (pss_cons (ps_if (pt_not (pt_chain op_le op_lt pe_int (pv 1) (pe_fld (pv 0) (by rfl)))) (pss_one (ps_raise rfl (takes_of rfl rfl rfl rfl) (pmk_own PySem.F.excBase_ValueError T.x_NoPlace T.m_NoPlace T.k_NoPlace (raises_own T.bE_NoPlace T.tE_NoPlace) rfl))) pss_nil)
    (pss_cons (ps_set (i := 2) sc_Turning_row_at.nd rfl (Or.inl rfl) (pe_lst pa_nil))
    (pss_cons (ps_asg (pe_callB call_divmodW (by rfl) T.g_divmod boot_divmod (pa_cons (pv 1) (pa_cons (pe_fld (pv 0) (by rfl)) pa_nil))) (pg_tup rfl (pgs_cons (pg_name (i := 3) sc_Turning_row_at.nd rfl (Or.inl rfl)) (pgs_cons (pg_name (i := 4) sc_Turning_row_at.nd rfl (Or.inl rfl)) pgs_nil))))
    (pss_cons (ps_for (passes_of rfl) rfl (pi_range1 rfl T.g_range (pa_cons (pe_fld (pv 0) (by rfl)) pa_nil)) (pg_name (i := 5) sc_Turning_row_at.nd rfl (Or.inl rfl)) (pss_cons (ps_asg (pe_callB call_divmodW (by rfl) T.g_divmod boot_divmod (pa_cons (pv 3) (pa_cons (pe_fld (pv 0) (by rfl)) pa_nil))) (pg_tup rfl (pgs_cons (pg_name (i := 3) sc_Turning_row_at.nd rfl (Or.inl rfl)) (pgs_cons (pg_name (i := 6) sc_Turning_row_at.nd rfl (Or.inl rfl)) pgs_nil))))
    (pss_cons (ps_expr (pe_bm PySem.F.plainAttrs_list PySem.F.slot_list_append PySem.F.type_list_append mt_append (pv 2) (pa_cons (pe_op op_mod (pe_op op_sub (pv 4) (pv 6)) (pe_fld (pv 0) (by rfl))) pa_nil)))
    (pss_one (ps_set (i := 4) sc_Turning_row_at.nd rfl (Or.inl rfl) (pv 6))))))
    (pss_one (ps_ret (pv 2))))))), ?read⟩)
  case len =>
    obtain ⟨o, s, n, p, rfl, _⟩ := h
    rfl
  case read =>
    obtain ⟨o, s, n, p, rfl, f, ⟨dx, ho⟩, q, qe⟩ := h
    show tSeq _ _ _ [some (.ref o), some (.int p), none, none, none, none, none] H
    have hsz : ∀ {σ : L2.St}, σ[0]? = some (some (V.ref o)) → Ev (tFld K (tVar 0) "size") σ H (.int (s ^ n)) := fun h => ev_fld (ev_var h) ho T.cl_Turning T.no_Turning_size (tF_size _ _ _)
    refine b_when (Ex.refl H) (et_not (et_test (ev_chain (by walk_at "ev") (by walk_at "ev") (by walk_at "rv") (fun _ => hsz rfl) fun _ => by walk_at "rv"))) (fun hb H1 e1 => ?_) (fun hb H1 e1 => ?_)
    · refine qe ?_ H1 e1
      simp at hb
      omega
    have hp : 0 ≤ p ∧ p < s ^ n := by simpa using hb
    obtain ⟨f1, f2, f3, f4⟩ := id f
    refine b_asgL e1 (el_lst ea_nil (by simp)) fun l H2 nl e2 hl => ?_
    have hsg : ∀ {σ : L2.St} {H' : Hp}, Ex H H' → σ[0]? = some (some (V.ref o)) → Ev (tFld K (tVar 0) "signs") σ H' (.int s) := fun e h => ev_fld (ev_var h) (e _ _ ho) T.cl_Turning T.no_Turning_signs (tF_signs _ _ _)
    refine b_asg2 (Ex.refl H2) (eu_divmod (ea_cons (ev_var rfl) (ea_cons (hsg e2 rfl) ea_nil)) (cdivp_small (by omega) (by omega))) fun H3 e3 => ?_
    have hln : Ev (tFld K (tVar 0) "length") [some (.ref o), some (.int p), some (.ref l), some (.int (p / s)), some (.int (p % s)), none, none] H2 (.int n) := ev_fld (ev_var rfl) (e2 _ _ ho) T.cl_Turning T.no_Turning_length (tF_length _ _ _)
    refine b_forR1 (n := (n : Int)) e3 (ea_cons hln ea_nil) (by omega) (by omega) (fun i σ' H' => ∃ u v, σ' = [some (.ref o), some (.int p), some (.ref l), some (.int (p / s ^ (i + 1))), some (.int (p / s ^ i % s)), u, v] ∧ Ex H H' ∧ H' l = some (.lst (((trow s n p).take i).map V.int)))
      (fun H4 e4 => ⟨none, none, by rw [Int.pow_zero, Int.ediv_one, Int.pow_succ, Int.pow_zero, Int.one_mul]; rfl, e2.trans e4, e4 _ _ hl⟩) ?_ ?_
    · rintro i σ' H' hi ⟨u, v, rfl, e4, hl4⟩
      show tSeq _ _ _ [some (.ref o), some (.int p), some (.ref l), some (.int (p / s ^ (i + 1))), some (.int (p / s ^ i % s)), some (.int (i : Int)), v] H'
      have hi' : i < n := by omega
      refine b_asg2 (Ex.refl H') (eu_divmod (ea_cons (ev_var rfl) (ea_cons (hsg e4 rfl) ea_nil)) (cdivp_small (by omega) (by omega))) fun H5 e5 => ?_
      refine q_app (e5 _ _ hl4) (ev_var rfl) (ev_op (ev_op (ev_var rfl) (ev_var rfl) rv_I0) (hsg (e4.trans e5) rfl) (by walk_at "rv")) (by rw [List.length_map, List.length_take]; omega) fun H6 e6 => ?_
      refine l_asg (Ex.refl _) (ev_var rfl) fun H7 e7 => ⟨some (.int i), some (.int (p / s ^ (i + 1) % s)), ?_, ?_, ?_⟩
      · rw [Int.pow_succ s (i + 1), ← Int.ediv_ediv_of_nonneg (Int.le_of_lt (Int.pow_pos (by omega)))]
        rfl
      · exact (Ex.mut ((e4.trans e5).trans e6) nl).trans e7
      · refine e7 _ _ ?_
        rw [upd_same, List.take_add_one, trow_get (by omega) n p i hi', List.map_append]
        rfl
    · rintro σ' H' ⟨u, v, rfl, e4, hl4⟩
      refine s_ret (ev_var rfl) fun H5 e5 => q hp l H5 nl (e4.trans e5) ?_
      rw [show ((n : Int)).toNat = n from rfl, List.take_of_length_le (Nat.le_of_eq (trow_len s n p))] at hl4
      exact e5 _ _ hl4
/-! #### _law_turned -/
theorem sc_law_turned : FnScope N_law_turned P_law_turned (defScope s_law_turned) := ⟨rfl, rfl, rfl, by decide +kernel, rfl, by decide +kernel, by decide +kernel⟩
def turned (s : Int) (xs : List Int) (j : Nat) : List Int := xs.set j ((xs.getD j 0 + 1) % s)
def sp_law_turned (_ : Txt K mg) : Sp := fun vs H Q _ => ∃ (r : Addr) (s : Int) (xs : List Int) (j : Nat), vs = [.ref r, .int j, .int s] ∧ 0 < s ∧ H r = some (.lst (xs.map V.int)) ∧ j < xs.length ∧ RetL ((turned s xs j).map V.int) H Q
theorem el_turned {T : Txt K mg} {σ : L2.St} {H : Hp} {tg : TA} {E : XK} {r : Addr} {s : Int} {xs : List Int} {j : Nat} (h0 : 0 < s) (hr : H r = some (.lst (xs.map V.int))) (hj : j < xs.length) (ha : EvA tg σ H [.ref r, .int j, .int s]) : EvL (tCall (sp_law_turned T) [] E tg) σ H ((turned s xs j).map V.int) :=
  el_callF ha fun _ e _ q => ⟨r, s, xs, j, rfl, h0, e _ _ hr, hj, q⟩
theorem ok_law_turned (T : Txt K mg) : FnOk P w K mg base CX0 1 T.a_law_turned T.d_law_turned P_law_turned (sp_law_turned T) := by
  refine (T.F_law_turned).ok sc_law_turned (fun vs H Q E h => ?len) (fun cdv A outer s H vs Q E hr h => ⟨_, (pss_cons (ps_set (i := 3) sc_law_turned.nd rfl (Or.inl rfl) (pe_callTy call_list_of (by rfl) T.g_list boot_list (pa_cons (pv 0) pa_nil)))
    (pss_cons (ps_asg (pe_op op_mod (pe_op op_add (pe_ix ix_list (pv 3) (pv 1) (fun _ _ => rfl)) pe_int) (pv 2)) (pg_sub (pv 3) (pv 1) set_list))
    (pss_one (ps_ret (pv 3))))), ?read⟩)
  case len =>
    obtain ⟨r, s, xs, j, rfl, _⟩ := h
    rfl
  case read =>
    obtain ⟨r, s, xs, j, rfl, h0, hr, hj, q⟩ := h
    show tSeq _ _ _ [some (.ref r), some (.int j), some (.int s), none] H
    refine b_asgL (Ex.refl H) (el_list (ev_var rfl) (sq_of hr)) fun l H1 nl e hl => ?_
    refine q_setL (v := .int ((xs[j] + 1) % s)) (j := j) hl (ev_op (ev_op (ev_op (ev_var rfl) (ev_var rfl) (rv_ixL (sq_of hl) (atI_nat (int_at hj)))) ev_c rv_I0) (ev_var rfl) (rv_I h0)) (ev_var rfl) (ev_var rfl) (by rw [List.length_map]; exact hj) fun H2 e2 => ?_
    refine s_ret (ev_var rfl) fun H3 e3 => q l H3 nl ((Ex.mut (e.trans e2) nl).trans e3) (e3 _ _ ?_)
    rw [upd_same, turned, List.map_set]
    simp [hj]
/-! #### _law_whole -/
theorem sc_law_whole : FnScope N_law_whole P_law_whole (defScope s_law_whole) := ⟨rfl, rfl, rfl, by decide +kernel, rfl, by decide +kernel, by decide +kernel⟩
/-- whether an int is found -/
def sp_law_whole (_ : Txt K mg) : Sp := fun vs H Q _ => ∃ (n : Int), vs = [.int n] ∧ RetV (.bl true) H Q
theorem ev_whole {T : Txt K mg} {σ : L2.St} {H : Hp} {tg : TA} {E : XK} {n : Int} (ha : EvA tg σ H [.int n]) : Ev (tCall (sp_law_whole T) [] E tg) σ H (.bl true) :=
  ev_callF ha fun _ _ _ q => ⟨n, rfl, q⟩
local macro_rules | `(tactic| walk_at "ev") => `(tactic| ((with_reducible apply ev_whole); walk_at "ev"))
theorem ok_law_whole (T : Txt K mg) : FnOk P w K mg base CX0 1 T.a_law_whole T.d_law_whole P_law_whole (sp_law_whole T) := by
  refine (T.F_law_whole).ok sc_law_whole (fun vs H Q E h => ?len) (fun cdv A outer s H vs Q E hr h => ⟨_, (pss_one (ps_ret (pe_and (pe_callB call_isi (by rfl) T.g_isinstance boot_isinstance (pa_cons (pv 0) (pa_cons (pe_bltn (v := .ty "int") rfl T.g_int boot_int rfl) pa_nil))) (pe_one (pe_not (pe_callB call_isi (by rfl) T.g_isinstance boot_isinstance (pa_cons (pv 0) (pa_cons (pe_bltn (v := .ty "bool") rfl T.g_bool boot_bool rfl) pa_nil)))))))), ?read⟩)
  case len =>
    obtain ⟨n, rfl, _⟩ := h
    rfl
  case read =>
    obtain ⟨n, rfl, q⟩ := h
    refine s_ret (v := .bl (true && !false)) ?_ q
    refine ev_andV (ev_isi (ea_cons (ev_var rfl) (ea_cons ev_c ea_nil)) (.int n) (kit_ty (by decide +kernel))) fun _ => ev_notV (ev_isi (ea_cons (ev_var rfl) (ea_cons ev_c ea_nil)) (.int n) (kit_ty (by decide +kernel)))
/-! #### _law_same -/
theorem sc_law_same : FnScope N_law_same P_law_same (defScope s_law_same) := ⟨rfl, rfl, rfl, by decide +kernel, rfl, by decide +kernel, by decide +kernel⟩
/-- two lists that are the same -/
def sp_law_same (_ : Txt K mg) : Sp := fun vs H Q _ => ∃ (a b : Addr) (xs : List Int), vs = [.ref a, .ref b] ∧ H a = some (.lst (xs.map V.int)) ∧ H b = some (.lst (xs.map V.int)) ∧ xs.length ≤ 10000 ∧ RetV (.bl true) H Q
theorem ev_same {T : Txt K mg} {σ : L2.St} {H : Hp} {tg : TA} {E : XK} {a b : Addr} {xs : List Int} (h1 : H a = some (.lst (xs.map V.int))) (h2 : H b = some (.lst (xs.map V.int))) (hl : xs.length ≤ 10000) (ha : EvA tg σ H [.ref a, .ref b]) : Ev (tCall (sp_law_same T) [] E tg) σ H (.bl true) :=
  ev_callF ha fun _ e _ q => ⟨a, b, xs, rfl, e _ _ h1, e _ _ h2, hl, q⟩
theorem ev_sameL {T : Txt K mg} {σ : L2.St} {H : Hp} {ta : TE} {E : XK} {b : Addr} {i : Nat} {xs : List Int} (h1 : EvL ta σ H (xs.map V.int)) (h2 : H b = some (.lst (xs.map V.int))) (hl : xs.length ≤ 10000) (hb : σ[i]? = some (some (.ref b))) : Ev (tCall (sp_law_same T) [] E (tCons ta (tCons (tVar i) tNil))) σ H (.bl true) := fun H1 e Q q =>
  h1 H1 e _ fun p H2 _ e2 h => ⟨.ref b, hb, p, b, xs, rfl, h, (e.trans e2) _ _ h2, hl, fun H3 e3 => q H3 (e2.trans e3)⟩
theorem ok_law_same (T : Txt K mg) : FnOk P w K mg base CX0 2 T.a_law_same T.d_law_same P_law_same (sp_law_same T) := by
  have G_law_whole := ok_law_whole (P := P) (w := w) (base := base) T
  refine (T.F_law_same).ok sc_law_same (fun vs H Q E h => ?len) (fun cdv A outer s H vs Q E hr h => ⟨_, (pss_cons (ps_if (PW.pt (pw_or (pt_not (pt_val (pe_callB call_isi (by rfl) T.g_isinstance boot_isinstance (pa_cons (pv 0) (pa_cons (pe_bltn (v := .ty "list") rfl T.g_list boot_list rfl) pa_nil))))) (pw_or1 (pt_cmpR op_ne (pe_callB call_len_seq (by rfl) T.g_len boot_len (pa_cons (pv 0) pa_nil)) (pe_callB call_len_seq (by rfl) T.g_len boot_len (pa_cons (pv 1) pa_nil)) (nomark _))))) (pss_one (ps_ret pe_bl)) pss_nil)
    (pss_one (ps_ret (pe_and (pe_callB (cr_all rfl) (by rfl) T.g_all boot_all (pa_cons (pe_lc (own := [("_law_mark", 2)]) (g := (gName 2)) rfl sc_law_same.nd (pi_list (pv 0)) (blkOk_by (N := N_law_same) (sc := defScope s_law_same) (by decide +kernel)) (fun _ _ _ _ _ => pg_name (i := 2) sc_law_same.nd rfl (Or.inl rfl)) (fun _ _ _ _ _ => pts_nil) (fun _ _ _ _ _ => (pe_call G_law_whole (hr.mono (by decide)) (by rfl) T.m_law_whole T.F_law_whole.kp T.b_law_whole .nil pass0 (pa_cons (pv 2) pa_nil)))) pa_nil)) (pe_one (pe_cmpR (op_eqD hr.units) (pv 0) (pv 1) (nomark _))))))), ?read⟩)
  case len =>
    obtain ⟨a, b, xs, rfl, _⟩ := h
    rfl
  case read =>
    obtain ⟨a, b, xs, rfl, h1, h2, hl, q⟩ := h
    show tSeq _ _ _ [some (.ref a), some (.ref b), none] H
    refine b_skip (b := !true || !decide (((xs.map V.int).length : Int) = ((xs.map V.int).length : Int))) (Ex.refl H) (et_or (et_not (et_B (ev_isi (by walk_at "ev") (.lst h1) (kit_ty (by decide +kernel))))) fun _ => et_test (ev_op (ev_len (ev_var rfl) (sq_of h1)) (ev_len (ev_var rfl) (sq_of h2)) rv_neI)) (fun H1 e => ?_) (by simp)
    refine b_ret e (v := .bl ((xs.all fun _ => true) && decide (xs = xs))) (ev_andV (ev_allI _ (ev_var rfl) (sq_of h1) (by omega) (fun _ => rfl) fun m H2 e2 _ => by walk_at "ev") fun _ => ev_op (ev_var rfl) (ev_var rfl) (rv_eqL (sq_of h1) (sq_of h2))) ?_
    have e1 : (xs.all fun _ => true) = true := by simp
    rw [e1, decide_eq_true rfl]
    exact q
/-! #### _law_given -/
theorem sc_law_given : FnScope N_law_given P_law_given (defScope s_law_given) := ⟨rfl, rfl, rfl, by decide +kernel, rfl, by decide +kernel, by decide +kernel⟩
/-- a new list, as is due; what was handed in stays, also where the new one is changed -/
def sp_law_given (_ : Txt K mg) : Sp := fun vs H Q _ => ∃ (f d h r : Addr) (xs ys : List Int), vs = [.ref f, .ref d, .ref h, .ref r] ∧ H f = some (.lst (xs.map V.int)) ∧ H d = some (.lst (xs.map V.int)) ∧ H h = some (.lst (ys.map V.int)) ∧ H r = some (.lst (ys.map V.int)) ∧
  f ≠ h ∧ f ≠ r ∧ xs.length ≤ 10000 ∧ ∀ H2, (∀ b o, H b = some o → b ≠ f → H2 b = some o) → Q (.bl true) H2
theorem ev_given {T : Txt K mg} {σ : L2.St} {H : Hp} {ta : TE} {E : XK} {i j k : Nat} {d h r : Addr} {xs ys : List Int} (hl : EvL ta σ H (xs.map V.int)) (hd : H d = some (.lst (xs.map V.int))) (hh : H h = some (.lst (ys.map V.int))) (hr : H r = some (.lst (ys.map V.int))) (hn : xs.length ≤ 10000)
    (h1 : σ[i]? = some (some (.ref d))) (h2 : σ[j]? = some (some (.ref h))) (h3 : σ[k]? = some (some (.ref r))) : Ev (tCall (sp_law_given T) [] E (tCons ta (tCons (tVar i) (tCons (tVar j) (tCons (tVar k) tNil))))) σ H (.bl true) := fun H1 e Q q =>
  hl H1 e _ fun p H2 hp e2 h => ⟨.ref d, h1, .ref _, h2, .ref r, h3, p, d, _, r, xs, ys, rfl, h, (e.trans e2) _ _ hd, (e.trans e2) _ _ hh, (e.trans e2) _ _ hr, (ne_of_none (e _ _ hh) hp).symm, (ne_of_none (e _ _ hr) hp).symm, hn, fun H3 k3 => q H3 fun b o hb => k3 b o (e2 b o hb) (ne_of_none hb hp)⟩
theorem ok_law_given (T : Txt K mg) : FnOk P w K mg base CX0 3 T.a_law_given T.d_law_given P_law_given (sp_law_given T) := by
  have G_law_same := ok_law_same (P := P) (w := w) (base := base) T
  refine (T.F_law_given).ok sc_law_given (fun vs H Q E h => ?len) (fun cdv A outer s H vs Q E hr h => ⟨_, (pss_cons (ps_if (PW.pt (pw_or (pt_not (pt_val (pe_call G_law_same (hr.mono (by decide)) (by rfl) T.m_law_same T.F_law_same.kp T.b_law_same .nil pass0 (pa_cons (pv 0) (pa_cons (pv 1) pa_nil))))) (pw_or1 (pt_cmpR (op_neD hr.units) (pv 2) (pv 3) (nomark _))))) (pss_one (ps_ret pe_bl)) pss_nil)
    (pss_cons (ps_expr (pe_bm PySem.F.plainAttrs_list PySem.F.slot_list_append PySem.F.type_list_append mt_append (pv 0) (pa_cons pe_int pa_nil)))
    (pss_one (ps_ret (pe_cmpR (op_eqD hr.units) (pv 2) (pv 3) (nomark _)))))), ?read⟩)
  case len =>
    obtain ⟨f, d, hh, r, xs, ys, rfl, _⟩ := h
    rfl
  case read =>
    obtain ⟨f, d, hh, r, xs, ys, rfl, hf, hd, hh', hr, n1, n2, hl, q⟩ := h
    show tSeq _ _ _ [some (.ref f), some (.ref d), some (.ref hh), some (.ref r)] H
    refine b_skip (b := !true || !decide (ys = ys)) (Ex.refl H) (et_or (et_not (et_B (ev_same hf hd hl (by walk_at "ev")))) fun _ => et_test (ev_op (ev_var rfl) (ev_var rfl) (rv_neL (sq_of hh') (sq_of hr)))) (fun H1 e => ?_) (by simp)
    refine q_app (e _ _ hf) (ev_var rfl) ev_c (by rw [List.length_map]; omega) fun H2 e2 => ?_
    have k1 : ∀ b o, H b = some o → b ≠ f → (upd H2 f (.lst (xs.map V.int ++ [V.int 1]))) b = some o := fun b o hb hn => by
      rw [upd_ne hn]
      exact e2 _ _ (e _ _ hb)
    refine b_ret (Ex.refl _) (v := .bl (decide (ys = ys))) (ev_op (ev_var rfl) (ev_var rfl) (rv_eqL (sq_of (k1 _ _ hh' n1.symm)) (sq_of (k1 _ _ hr n2.symm)))) fun H3 e3 => ?_
    rw [decide_eq_true rfl]
    exact q H3 fun b o hb hn => e3 _ _ (k1 b o hb hn)
/-! #### Turning.is_row -/
theorem sc_Turning_is_row : FnScope N_Turning_is_row P_Turning_is_row (defScope s_Turning_is_row) := ⟨rfl, rfl, rfl, by decide +kernel, rfl, by decide +kernel, by decide +kernel⟩
/-- the marks of a row -/
def markB (s m : Int) : Bool := decide (0 ≤ m) && decide (m < s)
def isTrow (s : Int) (n : Nat) (xs : List Int) : Bool := decide ((xs.length : Int) = n) && xs.all (markB s)
theorem isTrow_iff (s : Int) (n : Nat) (xs : List Int) : isTrow s n xs = true ↔ xs.length = n ∧ Marks s xs := by
  unfold isTrow Marks
  simp [markB]
  omega
def sp_Turning_is_row (T : Txt K mg) : Sp := fun vs H Q _ => ∃ (o a : Addr) (s : Int) (n : Nat) (xs : List Int), vs = [.ref o, .ref a] ∧ IsT T H o s n ∧ SqL K H a (xs.map V.int) ∧ xs.length ≤ 10000 ∧ RetV (.bl (isTrow s n xs)) H Q
theorem ev_Tis_row {T : Txt K mg} {σ : L2.St} {H : Hp} {ta : TE} {tg : TA} {E : XK} {o a : Addr} {s : Int} {n : Nat} {xs : List Int} (ho : IsT T H o s n) (hx : SqL K H a (xs.map V.int)) (hl : xs.length ≤ 10000) (hv : Ev ta σ H (.ref o)) (ha : EvA tg σ H [.ref a]) :
    Ev (tMeth T.c_Turning "is_row" (sp_Turning_is_row T) [] E ta tg) σ H (.bl (isTrow s n xs)) := by
  obtain ⟨dx, h⟩ := ho
  exact ev_meth hv h (tF_no _ _ _ (by decide +kernel) (by decide +kernel) (by decide +kernel)) ha fun H1 e Q q => ⟨o, a, s, n, xs, rfl, ⟨dx, e _ _ h⟩, ex_l e hx, hl, q⟩
theorem ok_Turning_is_row (T : Txt K mg) : FnOk P w K mg base CX0 1 T.a_Turning_is_row T.d_Turning_is_row P_Turning_is_row (sp_Turning_is_row T) := by
  refine (T.F_Turning_is_row).ok sc_Turning_is_row (fun vs H Q E h => ?len) (fun cdv A outer s H vs Q E hr h => ⟨_, (pss_one (ps_ret (pe_and (pe_cmpR op_eq (pe_callB call_len_seq (by rfl) T.g_len boot_len (pa_cons (pv 1) pa_nil)) (pe_fld (pv 0) (by rfl)) (nomark _)) (pe_one (pe_callB (cr_all rfl) (by rfl) T.g_all boot_all (pa_cons (pe_lc (own := [("mark", 2)]) (g := (gName 2)) rfl sc_Turning_is_row.nd (pi_list (pv 1)) (blkOk_by (N := N_Turning_is_row) (sc := defScope s_Turning_is_row) (by decide +kernel)) (fun _ _ _ _ _ => pg_name (i := 2) sc_Turning_is_row.nd rfl (Or.inl rfl)) (fun _ _ _ _ _ => pts_nil) (fun _ _ _ _ _ => (pe_chain op_le op_lt pe_int (pv 2) (pe_fldK (K := K) (pv 0) (by rfl))))) pa_nil)))))), ?read⟩)
  case len =>
    obtain ⟨o, a, s, n, xs, rfl, _⟩ := h
    rfl
  case read =>
    obtain ⟨o, a, s, n, xs, rfl, ⟨dx, ho⟩, hx, hl, q⟩ := h
    show tRet _ _ [some (.ref o), some (.ref a), none] H
    refine b_ret (Ex.refl H) (v := .bl (isTrow s n xs)) ?_ q
    refine ev_andV (ev_op (ev_is (ev_len (ev_var rfl) hx) (by rw [List.length_map])) (ev_fld (ev_var rfl) ho T.cl_Turning T.no_Turning_length (tF_length _ _ _)) rv_eqI) fun _ => ?_
    refine ev_allI (markB s) (ev_var rfl) hx (by omega) (fun _ => rfl) fun m H1 e _ => ?_
    exact ev_chain ev_c (ev_var rfl) rv_I0 (fun _ => ev_fld (ev_var rfl) (e _ _ ho) T.cl_Turning T.no_Turning_signs (tF_signs _ _ _)) fun _ => rv_I0
/-! #### Turning.moved -/
theorem sc_Turning_moved : FnScope N_Turning_moved P_Turning_moved (defScope s_Turning_moved) := ⟨rfl, rfl, rfl, by decide +kernel, rfl, by decide +kernel, by decide +kernel⟩
/-- a row moved by a change: none where it does not fit -/
def tmv (s : Int) (n : Nat) (xs : List Int) (by_ : Int) : Ch → Option (List Int)
  | .non => some xs
  | .turn j => if 0 ≤ j ∧ j < n then some (xs.set j.toNat ((xs.getD j.toNat 0 + by_) % s)) else none
  | .swap _ _ => none
def sp_Turning_moved (T : Txt K mg) : Sp := fun vs H Q E => ∃ (o a : Addr) (s : Int) (n : Nat) (xs : List Int) (v : V) (c : Ch) (d : Int), vs = [.ref o, .ref a, v, .int d] ∧ TForm s n ∧ IsT T H o s n ∧ SqL K H a (xs.map V.int) ∧ xs.length ≤ 10000 ∧ ChAt K H v c ∧
  (xs.length = n ∧ Marks s xs → (∀ ys, tmv s n xs d c = some ys → RetL (ys.map V.int) H Q) ∧ (tmv s n xs d c = none → RetX T.c_NoChange H E)) ∧ (¬ (xs.length = n ∧ Marks s xs) → RetX T.c_NoRow H E)
theorem ok_Turning_moved (T : Txt K mg) : FnOk P w K mg base (L2.CX P w) 2 T.a_Turning_moved T.d_Turning_moved P_Turning_moved (sp_Turning_moved T) := by
  have G_Turning_is_row := ok_Turning_is_row (P := P) (w := w) (base := base) T
  refine (T.F_Turning_moved).okX sc_Turning_moved (fun vs H Q E h => ?len) (fun cdv A outer s H vs Q E hr h => ⟨_, (pss_cons (ps_if (pt_not (pt_val (pe_meth (pv 0) T.cl_Turning T.me_Turning_is_row G_Turning_is_row (hr.mono (by decide)) T.b_Turning_is_row .nil pass0 (pa_cons (pv 1) pa_nil)))) (pss_one (ps_raise rfl (takes_of rfl rfl rfl rfl) (pmk_own PySem.F.excBase_ValueError T.x_NoRow T.m_NoRow T.k_NoRow (raises_own T.bE_NoRow T.tE_NoRow) rfl))) pss_nil)
    (pss_cons (ps_set (i := 4) sc_Turning_moved.nd rfl (Or.inl rfl) (pe_callTy call_list_of (by rfl) T.g_list boot_list (pa_cons (pv 1) pa_nil)))
    (pss_cons (ps_if (pt_cmpR op_isN (pv 2) pe_non (nomark _)) (pss_one (ps_ret (pv 4))) pss_nil)
    (pss_cons (ps_if (PW.pt (pw_or (pt_cmpR op_ne (pe_ix ix_tup (pv 2) pe_int (fun _ _ => rfl)) pe_str (nomark _)) (pw_or1 (pt_not (pt_chain op_le op_lt pe_int (pe_ix ix_tup (pv 2) pe_int (fun _ _ => rfl)) (pe_fld (pv 0) (by rfl))))))) (pss_one (ps_raise rfl (takes_of rfl rfl rfl rfl) (pmk_own PySem.F.excBase_ValueError T.x_NoChange T.m_NoChange T.k_NoChange (raises_own T.bE_NoChange T.tE_NoChange) rfl))) pss_nil)
    (pss_cons (ps_asg (pe_op op_mod (pe_op op_add (pe_ix ix_list (pv 4) (pe_ix ix_tup (pv 2) pe_int (fun _ _ => rfl)) (fun _ _ => rfl)) (pv 3)) (pe_fld (pv 0) (by rfl))) (pg_sub (pv 4) (pe_ix ix_tup (pv 2) pe_int (fun _ _ => rfl)) set_list))
    (pss_one (ps_ret (pv 4)))))))), ?read⟩)
  case len =>
    obtain ⟨o, a, s, n, xs, v, c, d, rfl, _⟩ := h
    rfl
  case read =>
    obtain ⟨o, a, s, n, xs, v, c, d, rfl, f, ho, hx, hl, hc, q, qe⟩ := h
    obtain ⟨dx, hO⟩ := id ho
    show tSeq _ _ _ [some (.ref o), some (.ref a), some v, some (.int d), none] H
    obtain ⟨f1, f2, f3, f4⟩ := id f
    have hs0 : 0 < s := by omega
    refine b_when (Ex.refl H) (et_not (et_B (ev_Tis_row ho hx hl (ev_var rfl) (by walk_at "ev")))) (fun hb H1 e1 => ?_) (fun hb H1 e1 => ?_)
    · refine qe ?_ H1 e1
      intro z
      rw [(isTrow_iff s n xs).mpr z] at hb
      cases hb
    have hr : xs.length = n ∧ Marks s xs := (isTrow_iff s n xs).mp (by simpa using hb)
    obtain ⟨q1, q2⟩ := q hr
    refine b_asgL e1 (el_list (ev_var rfl) hx) fun l H2 nl e hlst => ?_
    have hc2 := hc.mono e
    have hO2 := e _ _ hO
    have hln : ∀ {σ : L2.St}, σ[0]? = some (some (V.ref o)) → Ev (tFld K (tVar 0) "length") σ H2 (.int n) := fun h => ev_fld (ev_var h) hO2 T.cl_Turning T.no_Turning_length (tF_length _ _ _)
    cases c with
    | non =>
      obtain rfl : v = .non := hc
      refine b_when (Ex.refl H2) (et_test (ev_op (ev_var rfl) ev_c (rv_isNb (b := true) rfl))) (fun _ H3 e3 => ?_) (fun hb => by cases hb)
      exact s_ret (ev_var rfl) fun H4 e4 => q1 _ rfl l H4 nl ((e.trans e3).trans e4) (e4 _ _ (e3 _ _ hlst))
    | swap i j =>
      obtain ⟨t, rfl, ht⟩ := hc2
      refine b_skip (Ex.refl H2) (et_test (ev_op (ev_var rfl) ev_c (rv_isNb (b := false) rfl))) (fun H3 e3 => ?_)
      refine b_when (b := true || false) e3 (et_or (et_test (ev_op (ev_op (ev_var rfl) ev_c (rv_ixT ht (at_of (j := 0) rfl rfl))) ev_c (rv_neS (b := true) (by decide +kernel)))) fun h => by cases h) (fun _ H4 e4 => ?_) (fun hb => by cases hb)
      exact q2 rfl H4 (e.trans e4)
    | turn j =>
      obtain ⟨t, rfl, ht⟩ := hc2
      refine b_skip (Ex.refl H2) (et_test (ev_op (ev_var rfl) ev_c (rv_isNb (b := false) rfl))) (fun H3 e3 => ?_)
      have h1 : Ev (tOp (rIxT K) (tVar 2) (tC (.int 1))) [some (.ref o), some (.ref a), some (.ref t), some (.int d), some (.ref l)] H2 (.int j) := ev_op (ev_var rfl) ev_c (rv_ixT ht (at_of (j := 1) rfl rfl))
      refine b_when (b := false || !(decide (0 ≤ j) && decide (j < n))) e3 (et_or (et_test (ev_op (ev_op (ev_var rfl) ev_c (rv_ixT ht (at_of (j := 0) rfl rfl))) ev_c (rv_neS (b := false) (by decide +kernel)))) fun _ => et_not (et_test (ev_chain ev_c h1 rv_I0 (fun _ => hln rfl) fun _ => rv_I0))) (fun hb H4 e4 => ?_) (fun hb H4 e4 => ?_)
      · refine q2 ?_ H4 (e.trans e4)
        exact if_neg (by simp at hb; omega)
      · have hj : 0 ≤ j ∧ j < n := by simpa using hb
        obtain ⟨k, rfl⟩ : ∃ k : Nat, j = k := ⟨j.toNat, by omega⟩
        have hk : k < xs.length := by omega
        have hx4 : H4 l = some (.lst (xs.map V.int)) := e4 _ _ hlst
        refine q_setL (v := .int ((xs[k] + d) % s)) (j := k) hx4 (Ev.mono e4 (ev_op (ev_op (ev_op (ev_var rfl) h1 (rv_ixL (sq_of hlst) (atI_nat (int_at hk)))) (ev_var rfl) rv_I0) (ev_fld (ev_var rfl) hO2 T.cl_Turning T.no_Turning_signs (tF_signs _ _ _)) (rv_I hs0))) (ev_var rfl) (h1.mono e4) (by rw [List.length_map]; exact hk) fun H5 e5 => ?_
        refine s_ret (ev_var rfl) fun H6 e6 => ?_
        refine q1 (xs.set k ((xs[k] + d) % s)) ?_ l H6 nl ((Ex.mut ((e.trans e4).trans e5) nl).trans e6) (e6 _ _ ?_)
        · show (if 0 ≤ (k : Int) ∧ (k : Int) < n then some (xs.set (k : Int).toNat ((xs.getD (k : Int).toNat 0 + d) % s)) else none) = _
          rw [if_pos hj]
          simp [hk]
        · rw [upd_same, List.map_set]
/-! #### Turning.undone -/
theorem sc_Turning_undone : FnScope N_Turning_undone P_Turning_undone (defScope s_Turning_undone) := ⟨rfl, rfl, rfl, by decide +kernel, rfl, by decide +kernel, by decide +kernel⟩
def sp_Turning_undone (T : Txt K mg) : Sp := fun vs H Q E => ∃ (o a : Addr) (s : Int) (n : Nat) (xs : List Int) (v : V) (c : Ch), vs = [.ref o, .ref a, v] ∧ TForm s n ∧ IsT T H o s n ∧ SqL K H a (xs.map V.int) ∧ xs.length ≤ 10000 ∧ ChAt K H v c ∧
  (xs.length = n ∧ Marks s xs → (∀ ys, tmv s n xs (-1) c = some ys → RetL (ys.map V.int) H Q) ∧ (tmv s n xs (-1) c = none → RetX T.c_NoChange H E)) ∧ (¬ (xs.length = n ∧ Marks s xs) → RetX T.c_NoRow H E)
theorem el_Tundone {T : Txt K mg} {σ : L2.St} {H : Hp} {ta : TE} {tg : TA} {E : XK} {o a : Addr} {s : Int} {n : Nat} {xs ys : List Int} {v : V} {c : Ch} (f : TForm s n) (ho : IsT T H o s n) (hx : SqL K H a (xs.map V.int)) (hl : xs.length = n) (hm : Marks s xs) (hc : ChAt K H v c) (hy : tmv s n xs (-1) c = some ys) (hv : Ev ta σ H (.ref o)) (ha : EvA tg σ H [.ref a, v]) :
    EvL (tMeth T.c_Turning "undone" (sp_Turning_undone T) [] E ta tg) σ H (ys.map V.int) := by
  obtain ⟨dx, h⟩ := ho
  exact el_meth hv h (tF_no _ _ _ (by decide +kernel) (by decide +kernel) (by decide +kernel)) ha fun H1 e Q q => ⟨o, a, s, n, xs, v, c, rfl, f, ⟨dx, e _ _ h⟩, ex_l e hx, by have := f.2.2.2; omega, hc.mono e, fun _ => ⟨fun zs hz => by rw [hy] at hz; cases hz; exact q, fun z => by rw [hy] at z; cases z⟩, fun z => absurd ⟨hl, hm⟩ z⟩
/-- .. the change a tuple made on the way -/
theorem el_TundoneU {T : Txt K mg} {σ : L2.St} {H : Hp} {ta tr tu : TE} {E : XK} {o a : Addr} {s : Int} {n : Nat} {xs ys : List Int} {j : Int} (f : TForm s n) (ho : IsT T H o s n) (hx : SqL K H a (xs.map V.int)) (hl : xs.length = n) (hm : Marks s xs) (hy : tmv s n xs (-1) (.turn j) = some ys) (hv : Ev ta σ H (.ref o)) (hr : Ev tr σ H (.ref a)) (hu : EvU tu σ H [.str "turn", .int j]) :
    EvL (tMeth T.c_Turning "undone" (sp_Turning_undone T) [] E ta (tCons tr (tCons tu tNil))) σ H (ys.map V.int) := by
  obtain ⟨dx, h⟩ := ho
  intro H1 e Q q
  refine hv H1 e _ fun H2 e2 => ⟨o, dx, _, rfl, e2 _ _ (e _ _ h), tF_no _ _ _ (by decide +kernel) (by decide +kernel) (by decide +kernel), ?_⟩
  refine hr H2 (e.trans e2) _ fun H3 e3 => hu H3 ((e.trans e2).trans e3) _ fun p H4 hp e4 h4 => ?_
  have e5 := ((e.trans e2).trans e3).trans e4
  exact ⟨o, a, s, n, xs, .ref p, .turn j, rfl, f, ⟨dx, e5 _ _ h⟩, ex_l e5 hx, by have := f.2.2.2; omega, ⟨p, rfl, st_of h4⟩, fun _ => ⟨fun zs hz => by rw [hy] at hz; cases hz; exact fun p' H5 hp' e5 h5 => q p' H5 (fresh_back ((e2.trans e3).trans e4) hp') (((e2.trans e3).trans e4).trans e5) h5, fun z => by rw [hy] at z; cases z⟩, fun z => absurd ⟨hl, hm⟩ z⟩
theorem ok_Turning_undone (T : Txt K mg) : FnOk P w K mg base (L2.CX P w) 3 T.a_Turning_undone T.d_Turning_undone P_Turning_undone (sp_Turning_undone T) := by
  have G_Turning_moved := ok_Turning_moved (P := P) (w := w) (base := base) T
  refine (T.F_Turning_undone).okX sc_Turning_undone (fun vs H Q E h => ?len) (fun cdv A outer s H vs Q E hr h => ⟨_, (pss_one (ps_ret (pe_meth (pv 0) T.cl_Turning T.me_Turning_moved G_Turning_moved (hr.mono (by decide)) T.b_Turning_moved .nil (passes_call (W := fun cls d _ H => E cls d H) (E := E) (takes_of rfl rfl rfl rfl) (fun _ _ _ _ h => h)) (pa_cons (pv 1) (pa_cons (pv 2) (pa_cons (pe_un un_neg pe_int) pa_nil)))))), ?read⟩)
  case len =>
    obtain ⟨o, a, s, n, xs, v, c, rfl, _⟩ := h
    rfl
  case read =>
    obtain ⟨o, a, s, n, xs, v, c, rfl, f, ho, hx, hl, hc, q, qe⟩ := h
    obtain ⟨dx, hO⟩ := id ho
    show tRet _ _ [some (.ref o), some (.ref a), some v] H
    have ha : EvA (tCons (tVar 1) (tCons (tVar 2) (tCons (tUn (rU fun i => .int (-i)) (tC (.int 1))) tNil))) [some (.ref o), some (.ref a), some v] H [.ref a, v, .int (-1)] := by walk_at "ev"
    refine b_retMeth (Ex.refl H) (ev_var rfl) hO (tF_no _ _ _ (by decide +kernel) (by decide +kernel) (by decide +kernel)) ha fun H3 e => ?_
    refine ⟨o, a, s, n, xs, v, c, -1, rfl, f, ho.mono e, ex_l e hx, hl, hc.mono e, fun hr => ⟨fun ys hy p H4 hp e4 h4 => (q hr).1 ys hy p H4 (fresh_back e hp) (e.trans e4) h4, fun hy => RetX.mono ((q hr).2 hy) e⟩, fun hr => RetX.mono (qe hr) e⟩
/-! #### Turning.done -/
theorem sc_Turning_done : FnScope N_Turning_done P_Turning_done (defScope s_Turning_done) := ⟨rfl, rfl, rfl, by decide +kernel, rfl, by decide +kernel, by decide +kernel⟩
def sp_Turning_done (T : Txt K mg) : Sp := fun vs H Q E => ∃ (o a : Addr) (s : Int) (n : Nat) (xs : List Int) (v : V) (c : Ch), vs = [.ref o, .ref a, v] ∧ TForm s n ∧ IsT T H o s n ∧ SqL K H a (xs.map V.int) ∧ xs.length ≤ 10000 ∧ ChAt K H v c ∧
  (xs.length = n ∧ Marks s xs → (∀ ys, tmv s n xs 1 c = some ys → RetL (ys.map V.int) H Q) ∧ (tmv s n xs 1 c = none → RetX T.c_NoChange H E)) ∧ (¬ (xs.length = n ∧ Marks s xs) → RetX T.c_NoRow H E)
theorem el_Tdone {T : Txt K mg} {σ : L2.St} {H : Hp} {ta : TE} {tg : TA} {E : XK} {o a : Addr} {s : Int} {n : Nat} {xs ys : List Int} {v : V} {c : Ch} (f : TForm s n) (ho : IsT T H o s n) (hx : SqL K H a (xs.map V.int)) (hl : xs.length = n) (hm : Marks s xs) (hc : ChAt K H v c) (hy : tmv s n xs 1 c = some ys) (hv : Ev ta σ H (.ref o)) (ha : EvA tg σ H [.ref a, v]) :
    EvL (tMeth T.c_Turning "done" (sp_Turning_done T) [] E ta tg) σ H (ys.map V.int) := by
  obtain ⟨dx, h⟩ := ho
  exact el_meth hv h (tF_no _ _ _ (by decide +kernel) (by decide +kernel) (by decide +kernel)) ha fun H1 e Q q => ⟨o, a, s, n, xs, v, c, rfl, f, ⟨dx, e _ _ h⟩, ex_l e hx, by have := f.2.2.2; omega, hc.mono e, fun _ => ⟨fun zs hz => by rw [hy] at hz; cases hz; exact q, fun z => by rw [hy] at z; cases z⟩, fun z => absurd ⟨hl, hm⟩ z⟩
/-- .. the change a tuple made on the way -/
theorem el_TdoneU {T : Txt K mg} {σ : L2.St} {H : Hp} {ta tr tu : TE} {E : XK} {o a : Addr} {s : Int} {n : Nat} {xs ys : List Int} {j : Int} (f : TForm s n) (ho : IsT T H o s n) (hx : SqL K H a (xs.map V.int)) (hl : xs.length = n) (hm : Marks s xs) (hy : tmv s n xs 1 (.turn j) = some ys) (hv : Ev ta σ H (.ref o)) (hr : Ev tr σ H (.ref a)) (hu : EvU tu σ H [.str "turn", .int j]) :
    EvL (tMeth T.c_Turning "done" (sp_Turning_done T) [] E ta (tCons tr (tCons tu tNil))) σ H (ys.map V.int) := by
  obtain ⟨dx, h⟩ := ho
  intro H1 e Q q
  refine hv H1 e _ fun H2 e2 => ⟨o, dx, _, rfl, e2 _ _ (e _ _ h), tF_no _ _ _ (by decide +kernel) (by decide +kernel) (by decide +kernel), ?_⟩
  refine hr H2 (e.trans e2) _ fun H3 e3 => hu H3 ((e.trans e2).trans e3) _ fun p H4 hp e4 h4 => ?_
  have e5 := ((e.trans e2).trans e3).trans e4
  exact ⟨o, a, s, n, xs, .ref p, .turn j, rfl, f, ⟨dx, e5 _ _ h⟩, ex_l e5 hx, by have := f.2.2.2; omega, ⟨p, rfl, st_of h4⟩, fun _ => ⟨fun zs hz => by rw [hy] at hz; cases hz; exact fun p' H5 hp' e5 h5 => q p' H5 (fresh_back ((e2.trans e3).trans e4) hp') (((e2.trans e3).trans e4).trans e5) h5, fun z => by rw [hy] at z; cases z⟩, fun z => absurd ⟨hl, hm⟩ z⟩
theorem ok_Turning_done (T : Txt K mg) : FnOk P w K mg base (L2.CX P w) 3 T.a_Turning_done T.d_Turning_done P_Turning_done (sp_Turning_done T) := by
  have G_Turning_moved := ok_Turning_moved (P := P) (w := w) (base := base) T
  refine (T.F_Turning_done).okX sc_Turning_done (fun vs H Q E h => ?len) (fun cdv A outer s H vs Q E hr h => ⟨_, (pss_one (ps_ret (pe_meth (pv 0) T.cl_Turning T.me_Turning_moved G_Turning_moved (hr.mono (by decide)) T.b_Turning_moved .nil (passes_call (W := fun cls d _ H => E cls d H) (E := E) (takes_of rfl rfl rfl rfl) (fun _ _ _ _ h => h)) (pa_cons (pv 1) (pa_cons (pv 2) (pa_cons pe_int pa_nil)))))), ?read⟩)
  case len =>
    obtain ⟨o, a, s, n, xs, v, c, rfl, _⟩ := h
    rfl
  case read =>
    obtain ⟨o, a, s, n, xs, v, c, rfl, f, ho, hx, hl, hc, q, qe⟩ := h
    obtain ⟨dx, hO⟩ := id ho
    show tRet _ _ [some (.ref o), some (.ref a), some v] H
    have ha : EvA (tCons (tVar 1) (tCons (tVar 2) (tCons (tC (.int 1)) tNil))) [some (.ref o), some (.ref a), some v] H [.ref a, v, .int 1] := by walk_at "ev"
    refine b_retMeth (Ex.refl H) (ev_var rfl) hO (tF_no _ _ _ (by decide +kernel) (by decide +kernel) (by decide +kernel)) ha fun H3 e => ?_
    refine ⟨o, a, s, n, xs, v, c, 1, rfl, f, ho.mono e, ex_l e hx, hl, hc.mono e, fun hr => ⟨fun ys hy p H4 hp e4 h4 => (q hr).1 ys hy p H4 (fresh_back e hp) (e.trans e4) h4, fun hy => RetX.mono ((q hr).2 hy) e⟩, fun hr => RetX.mono (qe hr) e⟩
/-! #### _law_any_turn -/
theorem sc_law_any_turn : FnScope N_law_any_turn P_law_any_turn (defScope s_law_any_turn) := ⟨rfl, rfl, rfl, by decide +kernel, rfl, by decide +kernel, by decide +kernel⟩
theorem turned_len (s : Int) (xs : List Int) (j : Nat) : (turned s xs j).length = xs.length := List.length_set
theorem turned_marks {s : Int} {xs : List Int} (hs : 0 < s) (h : Marks s xs) (j : Nat) : Marks s (turned s xs j) := fun m hm => by
  rcases List.mem_or_eq_of_mem_set hm with hm | rfl
  · exact h m hm
  · exact mod_range _ hs
theorem tmv_turn {s : Int} {n : Nat} {xs : List Int} {j : Nat} (hl : xs.length = n) (hj : j < n) : tmv s n xs 1 (.turn j) = some (turned s xs j) := by
  show (if 0 ≤ (j : Int) ∧ (j : Int) < n then _ else _) = _
  rw [if_pos (by omega)]
  rfl
theorem tmv_back {s : Int} {n : Nat} {xs : List Int} {j : Nat} (hs : 0 < s) (hM : Marks s xs) (hl : xs.length = n) (hj : j < n) : tmv s n (turned s xs j) (-1) (.turn j) = some xs := by
  show (if 0 ≤ (j : Int) ∧ (j : Int) < n then some ((turned s xs j).set (j : Int).toNat (((turned s xs j).getD (j : Int).toNat 0 + -1) % s)) else none) = some xs
  rw [if_pos (by omega), show ((j : Int)).toNat = j from rfl]
  have hj' : j < xs.length := by omega
  have h1 : (turned s xs j).getD j 0 = (xs[j] + 1) % s := by simp [turned, hj']
  obtain ⟨m0, m1⟩ := hM xs[j] (List.getElem_mem hj')
  have h2 : ((xs[j] + 1) % s + -1) % s = xs[j] := by
    rw [Int.emod_add_emod, show xs[j] + 1 + -1 = xs[j] by omega, Int.emod_eq_of_lt m0 m1]
  rw [h1, h2, turned, List.set_set, List.set_getElem_self]
def sp_law_any_turn (T : Txt K mg) : Sp := fun vs H Q _ => ∃ (o r : Addr) (s : Int) (n : Nat) (xs : List Int) (j : Nat), vs = [.ref o, .ref r, .int j, .int s] ∧ TForm s n ∧ IsT T H o s n ∧ H r = some (.lst (xs.map V.int)) ∧ xs.length = n ∧ Marks s xs ∧ j < n ∧ RetV (.bl true) H Q
theorem ev_any_turn {T : Txt K mg} {σ : L2.St} {H : Hp} {tg : TA} {E : XK} {o r : Addr} {s : Int} {n : Nat} {xs : List Int} {j : Nat} (f : TForm s n) (ho : IsT T H o s n) (hr : H r = some (.lst (xs.map V.int))) (hl : xs.length = n) (hM : Marks s xs) (hj : j < n) (ha : EvA tg σ H [.ref o, .ref r, .int j, .int s]) : Ev (tCall (sp_law_any_turn T) [] E tg) σ H (.bl true) :=
  ev_callF ha fun _ e _ q => ⟨o, r, s, n, xs, j, rfl, f, ho.mono e, e _ _ hr, hl, hM, hj, q⟩
theorem ok_law_any_turn (T : Txt K mg) : FnOk P w K mg base CX0 4 T.a_law_any_turn T.d_law_any_turn P_law_any_turn (sp_law_any_turn T) := by
  have G_Turning_done := ok_Turning_done (P := P) (w := w) (base := base) T
  have G_Turning_undone := ok_Turning_undone (P := P) (w := w) (base := base) T
  have G_law_given := ok_law_given (P := P) (w := w) (base := base) T
  have G_law_turned := ok_law_turned (P := P) (w := w) (base := base) T
  refine (T.F_law_any_turn).ok sc_law_any_turn (fun vs H Q E h => ?len) (fun cdv A outer s H vs Q E hr h => ⟨_, (pss_cons (ps_set (i := 4) sc_law_any_turn.nd rfl (Or.inl rfl) (pe_call G_law_turned (hr.mono (by decide)) (by rfl) T.m_law_turned T.F_law_turned.kp T.b_law_turned .nil pass0 (pa_cons (pv 1) (pa_cons (pv 2) (pa_cons (pv 3) pa_nil)))))
    (pss_cons (ps_set (i := 5) sc_law_any_turn.nd rfl (Or.inl rfl) (pe_callTy call_list_of (by rfl) T.g_list boot_list (pa_cons (pv 1) pa_nil)))
    (pss_cons (ps_if (pt_not (pt_val (pe_call G_law_given (hr.mono (by decide)) (by rfl) T.m_law_given T.F_law_given.kp T.b_law_given .nil pass0 (pa_cons (pe_meth (pv 0) T.cl_Turning T.me_Turning_done G_Turning_done (hr.mono (by decide)) T.b_Turning_done .nil passL (pa_cons (pv 5) (pa_cons (pe_tup (pa_cons pe_str (pa_cons (pv 2) pa_nil))) pa_nil))) (pa_cons (pv 4) (pa_cons (pv 5) (pa_cons (pv 1) pa_nil))))))) (pss_one (ps_ret pe_bl)) pss_nil)
    (pss_cons (ps_set (i := 5) sc_law_any_turn.nd rfl (Or.inl rfl) (pe_callTy call_list_of (by rfl) T.g_list boot_list (pa_cons (pv 4) pa_nil)))
    (pss_one (ps_ret (pe_call G_law_given (hr.mono (by decide)) (by rfl) T.m_law_given T.F_law_given.kp T.b_law_given .nil pass0 (pa_cons (pe_meth (pv 0) T.cl_Turning T.me_Turning_undone G_Turning_undone (hr.mono (by decide)) T.b_Turning_undone .nil passL (pa_cons (pv 5) (pa_cons (pe_tup (pa_cons pe_str (pa_cons (pv 2) pa_nil))) pa_nil))) (pa_cons (pv 1) (pa_cons (pv 5) (pa_cons (pv 4) pa_nil))))))))))), ?read⟩)
  case len =>
    obtain ⟨o, r, s, n, xs, j, rfl, _⟩ := h
    rfl
  case read =>
    obtain ⟨o, r, s, n, xs, j, rfl, f, ho, hr, hl, hM, hj, q⟩ := h
    show tSeq _ _ _ [some (.ref o), some (.ref r), some (.int j), some (.int s), none, none] H
    have hs : 0 < s := by have := f.1; omega
    have hn : n ≤ 10000 := by have := f.2.2.2; omega
    have hT := turned_len s xs j
    have hTM := turned_marks hs hM j
    refine b_asgL (Ex.refl H) (el_turned (xs := xs) (j := j) hs hr (by omega) (by walk_at "ev")) fun m H1 nm e hm => ?_
    have hr1 := e _ _ hr
    refine b_asgL (Ex.refl H1) (el_list (ev_var rfl) (sq_of hr1)) fun l H2 nl e2 hl' => ?_
    have ho2 := ho.mono (e.trans e2)
    have hr2 := e2 _ _ hr1
    have hm2 := e2 _ _ hm
    refine b_skip (b := !true) (Ex.refl H2) (et_not (et_B (ev_given (el_TdoneU f ho2 (sq_of hl') hl hM (tmv_turn hl hj) (ev_var rfl) (ev_var rfl) (eu_tup (by walk_at "ev") (by simp))) hm2 hl' hr2 (by omega) rfl rfl rfl))) (fun H3 e3 => ?_)
    refine b_asgL e3 (el_list (ev_var rfl) (sq_of hm2)) fun l2 H4 nl2 e4 hl2 => ?_
    exact b_ret (Ex.refl H4) (ev_given (el_TundoneU f (ho2.mono e4) (sq_of hl2) (hT.trans hl) hTM (tmv_back hs hM hl hj) (ev_var rfl) (ev_var rfl) (eu_tup (by walk_at "ev") (by simp))) (e4 _ _ hr2) hl2 (e4 _ _ hm2) (by omega) rfl rfl rfl) fun H5 e5 => q H5 (((e.trans e2).trans e4).trans e5)
/-! #### _law_none_done -/
theorem sc_law_none_done : FnScope N_law_none_done P_law_none_done (defScope s_law_none_done) := ⟨rfl, rfl, rfl, by decide +kernel, rfl, by decide +kernel, by decide +kernel⟩
def sp_law_none_done (T : Txt K mg) : Sp := fun vs H Q _ => ∃ (o r : Addr) (s : Int) (n : Nat) (xs : List Int), vs = [.ref o, .ref r] ∧ TForm s n ∧ IsT T H o s n ∧ H r = some (.lst (xs.map V.int)) ∧ xs.length = n ∧ Marks s xs ∧ RetV (.bl true) H Q
theorem ev_none_done {T : Txt K mg} {σ : L2.St} {H : Hp} {tg : TA} {E : XK} {o r : Addr} {s : Int} {n : Nat} {xs : List Int} (f : TForm s n) (ho : IsT T H o s n) (hr : H r = some (.lst (xs.map V.int))) (hl : xs.length = n) (hM : Marks s xs) (ha : EvA tg σ H [.ref o, .ref r]) : Ev (tCall (sp_law_none_done T) [] E tg) σ H (.bl true) :=
  ev_callF ha fun _ e _ q => ⟨o, r, s, n, xs, rfl, f, ho.mono e, e _ _ hr, hl, hM, q⟩
theorem ok_law_none_done (T : Txt K mg) : FnOk P w K mg base CX0 4 T.a_law_none_done T.d_law_none_done P_law_none_done (sp_law_none_done T) := by
  have G_Turning_done := ok_Turning_done (P := P) (w := w) (base := base) T
  have G_Turning_undone := ok_Turning_undone (P := P) (w := w) (base := base) T
  have G_law_given := ok_law_given (P := P) (w := w) (base := base) T
  refine (T.F_law_none_done).ok sc_law_none_done (fun vs H Q E h => ?len) (fun cdv A outer s H vs Q E hr h => ⟨_, (pss_cons (ps_set (i := 2) sc_law_none_done.nd rfl (Or.inl rfl) (pe_callTy call_list_of (by rfl) T.g_list boot_list (pa_cons (pv 1) pa_nil)))
    (pss_cons (ps_if (pt_not (pt_val (pe_call G_law_given (hr.mono (by decide)) (by rfl) T.m_law_given T.F_law_given.kp T.b_law_given .nil pass0 (pa_cons (pe_meth (pv 0) T.cl_Turning T.me_Turning_done G_Turning_done (hr.mono (by decide)) T.b_Turning_done .nil passL (pa_cons (pv 2) (pa_cons pe_non pa_nil))) (pa_cons (pv 1) (pa_cons (pv 2) (pa_cons (pv 1) pa_nil))))))) (pss_one (ps_ret pe_bl)) pss_nil)
    (pss_one (ps_ret (pe_call G_law_given (hr.mono (by decide)) (by rfl) T.m_law_given T.F_law_given.kp T.b_law_given .nil pass0 (pa_cons (pe_meth (pv 0) T.cl_Turning T.me_Turning_undone G_Turning_undone (hr.mono (by decide)) T.b_Turning_undone .nil passL (pa_cons (pv 2) (pa_cons pe_non pa_nil))) (pa_cons (pv 1) (pa_cons (pv 2) (pa_cons (pv 1) pa_nil))))))))), ?read⟩)
  case len =>
    obtain ⟨o, r, s, n, xs, rfl, _⟩ := h
    rfl
  case read =>
    obtain ⟨o, r, s, n, xs, rfl, f, ho, hr, hl, hM, q⟩ := h
    show tSeq _ _ _ [some (.ref o), some (.ref r), none] H
    have hn : xs.length ≤ 10000 := by have := f.2.2.2; omega
    refine b_asgL (Ex.refl H) (el_list (ev_var rfl) (sq_of hr)) fun l H1 nl e hl' => ?_
    have ho1 := ho.mono e
    have hr1 := e _ _ hr
    refine b_skip (b := !true) (Ex.refl H1) (et_not (et_B (ev_given (el_Tdone (c := .non) f ho1 (sq_of hl') hl hM rfl rfl (ev_var rfl) (by walk_at "ev")) hr1 hl' hr1 hn rfl rfl rfl))) (fun H2 e2 => ?_)
    exact b_ret e2 (ev_given (el_Tundone (c := .non) f ho1 (sq_of hl') hl hM rfl rfl (ev_var rfl) (by walk_at "ev")) hr1 hl' hr1 hn rfl rfl rfl) fun H3 e3 => q H3 (e.trans e3)
/-! #### Turning.place_of -/
theorem sc_Turning_place_of : FnScope N_Turning_place_of P_Turning_place_of (defScope s_Turning_place_of) := ⟨rfl, rfl, rfl, by decide +kernel, rfl, by decide +kernel, by decide +kernel⟩
theorem drop_turn {xs : List Int} {i : Nat} (hi : i < xs.length) : xs.drop (xs.length - (i + 1)) = xs[xs.length - 1 - i] :: xs.drop (xs.length - i) := by
  have h1 : xs.length - (i + 1) < xs.length := by omega
  rw [List.drop_eq_getElem_cons h1]
  have e : xs.length - (i + 1) + 1 = xs.length - i := by omega
  have e2 : xs.length - (i + 1) = xs.length - 1 - i := by omega
  rw [e]
  simp only [e2]
def sp_Turning_place_of (T : Txt K mg) : Sp := fun vs H Q E => ∃ (o a : Addr) (s : Int) (n : Nat) (xs : List Int), vs = [.ref o, .ref a] ∧ TForm s n ∧ IsT T H o s n ∧ SqL K H a (xs.map V.int) ∧ xs.length ≤ 10000 ∧
  (xs.length = n ∧ Marks s xs → RetV (.int (tplace s xs)) H Q) ∧ (¬ (xs.length = n ∧ Marks s xs) → RetX T.c_NoRow H E)
theorem ev_Tplace {T : Txt K mg} {σ : L2.St} {H : Hp} {ta : TE} {tg : TA} {E : XK} {o a : Addr} {s : Int} {n : Nat} {xs : List Int} (f : TForm s n) (ho : IsT T H o s n) (hx : SqL K H a (xs.map V.int)) (hl : xs.length = n) (hm : Marks s xs) (hv : Ev ta σ H (.ref o)) (ha : EvA tg σ H [.ref a]) :
    Ev (tMeth T.c_Turning "place_of" (sp_Turning_place_of T) [] E ta tg) σ H (.int (tplace s xs)) := by
  obtain ⟨dx, h⟩ := ho
  exact ev_meth hv h (tF_no _ _ _ (by decide +kernel) (by decide +kernel) (by decide +kernel)) ha fun H1 e Q q => ⟨o, a, s, n, xs, rfl, f, ⟨dx, e _ _ h⟩, ex_l e hx, by have := f.2.2.2; omega, fun _ => q, fun z => absurd ⟨hl, hm⟩ z⟩
theorem ok_Turning_place_of (T : Txt K mg) : FnOk P w K mg base (L2.CX P w) 2 T.a_Turning_place_of T.d_Turning_place_of P_Turning_place_of (sp_Turning_place_of T) := by
  have G_Turning_is_row := ok_Turning_is_row (P := P) (w := w) (base := base) T
  refine (T.F_Turning_place_of).okX sc_Turning_place_of (fun vs H Q E h => ?len) (fun cdv A outer s H vs Q E hr h => ⟨_, (pss_cons (ps_if (pt_not (pt_val (pe_meth (pv 0) T.cl_Turning T.me_Turning_is_row G_Turning_is_row (hr.mono (by decide)) T.b_Turning_is_row .nil pass0 (pa_cons (pv 1) pa_nil)))) (pss_one (ps_raise rfl (takes_of rfl rfl rfl rfl) (pmk_own PySem.F.excBase_ValueError T.x_NoRow T.m_NoRow T.k_NoRow (raises_own T.bE_NoRow T.tE_NoRow) rfl))) pss_nil)
    (pss_cons (ps_set (i := 2) sc_Turning_place_of.nd rfl (Or.inl rfl) pe_int)
    (pss_cons (ps_set (i := 3) sc_Turning_place_of.nd rfl (Or.inl rfl) pe_int)
    (pss_cons (ps_for (passes_of rfl) rfl (pi_reversed rfl T.g_reversed (pa_cons (pv 1) pa_nil)) (pg_name (i := 4) sc_Turning_place_of.nd rfl (Or.inl rfl)) (pss_cons (ps_set (i := 3) sc_Turning_place_of.nd rfl (Or.inl rfl) (pe_op op_mod (pe_op op_add (pv 3) (pv 4)) (pe_fld (pv 0) (by rfl))))
    (pss_one (ps_set (i := 2) sc_Turning_place_of.nd rfl (Or.inl rfl) (pe_op op_add (pe_op op_mul (pv 2) (pe_fld (pv 0) (by rfl))) (pv 3))))))
    (pss_one (ps_ret (pv 2))))))), ?read⟩)
  case len =>
    obtain ⟨o, a, s, n, xs, rfl, _⟩ := h
    rfl
  case read =>
    obtain ⟨o, a, s, n, xs, rfl, f, ⟨dx, ho⟩, hx, hl, q, qe⟩ := h
    show tSeq _ _ _ [some (.ref o), some (.ref a), none, none, none] H
    obtain ⟨f1, f2, f3, f4⟩ := id f
    have hs0 : 0 < s := by omega
    refine b_when (Ex.refl H) (et_not (et_B (ev_Tis_row ⟨dx, ho⟩ hx hl (ev_var rfl) (by walk_at "ev")))) (fun hb H1 e1 => ?_) (fun hb H1 e1 => ?_)
    · refine qe ?_ H1 e1
      intro z
      rw [(isTrow_iff s n xs).mpr z] at hb
      cases hb
    have hr : xs.length = n ∧ Marks s xs := (isTrow_iff s n xs).mp (by simpa using hb)
    refine b_asg e1 ev_c fun H2 e => ?_
    refine b_asg e ev_c fun H3 e => ?_
    have hsg : ∀ {σ : L2.St}, σ[0]? = some (some (V.ref o)) → Ev (tFld K (tVar 0) "signs") σ H (.int s) := fun h => ev_fld (ev_var h) ho T.cl_Turning T.no_Turning_signs (tF_signs _ _ _)
    refine b_forRev e (by walk_at "ev") hx (fun i σ' H' => ∃ u, σ' = [some (.ref o), some (.ref a), some (.int (tplace s (xs.drop (xs.length - i)))), some (.int (tplace s (xs.drop (xs.length - i)) % s)), u] ∧ Ex H H')
      (fun H' e' => ⟨none, by rw [Nat.sub_zero, List.drop_length]; rfl, e'⟩) (fun i σ' H' ⟨_, _, e'⟩ => ex_l e' hx) ?_ ?_
    · rintro i x σ' H' hi hxi ⟨u, rfl, e'⟩
      rw [List.length_map] at hi hxi
      obtain ⟨m, hj, rfl, hm⟩ := int_item hxi
      have dt := drop_turn hi
      rw [hm] at dt
      have e3 : tplace s (xs.drop (xs.length - (i + 1))) = tplace s (xs.drop (xs.length - i)) * s + (tplace s (xs.drop (xs.length - i)) % s + m) % s := by rw [dt]; rfl
      generalize hP : tplace s (xs.drop (xs.length - i)) = P at *
      obtain ⟨a0, a1⟩ := mod_range (P % s + m) hs0
      show tSeq _ _ _ [some (.ref o), some (.ref a), some (.int P), some (.int (P % s)), some (.int m)] H'
      refine b_asg e' (ev_op (ev_op (ev_var rfl) (ev_var rfl) rv_I0) (hsg rfl) (rv_I hs0)) fun H4 e4 => ?_
      refine l_asg e4 (ev_op (ev_op (ev_var rfl) (hsg rfl) (rv_I (cmul_r (by omega) (by omega)))) (ev_var rfl) rv_I0) fun H5 e5 => ⟨some (.int m), ?_, e5⟩
      rw [e3, mul_add_mod hs0 a0 a1]
      rfl
    · rintro σ' H' ⟨u, rfl, e'⟩
      rw [List.length_map, Nat.sub_self, List.drop_zero]
      exact b_ret e' (ev_var rfl) (q hr)
/-! #### Listing.leap -/
theorem sc_Listing_leap : FnScope N_Listing_leap P_Listing_leap (defScope s_Listing_leap) := ⟨rfl, rfl, rfl, by decide +kernel, rfl, by decide +kernel, by decide +kernel⟩
def sp_Listing_leap_T (T : Txt K mg) : Sp := fun vs H Q E => ∃ (o a : Addr) (s : Int) (n : Nat) (xs : List Int) (k : Int), vs = [.ref o, .ref a, .int k] ∧ TForm s n ∧ IsT T H o s n ∧ SqL K H a (xs.map V.int) ∧ xs.length ≤ 10000 ∧
  (xs.length = n ∧ Marks s xs → RetL ((trow s n ((tplace s xs + k) % s ^ n)).map V.int) H Q) ∧ (¬ (xs.length = n ∧ Marks s xs) → RetX T.c_NoRow H E)
theorem el_Tleap {T : Txt K mg} {σ : L2.St} {H : Hp} {ta : TE} {tg : TA} {E : XK} {o a : Addr} {s : Int} {n : Nat} {xs : List Int} {k : Int} {dvs ws : List V} (f : TForm s n) (ho : IsT T H o s n) (hx : SqL K H a (xs.map V.int)) (hl : xs.length = n) (hm : Marks s xs) (hv : Ev ta σ H (.ref o)) (ha : EvA tg σ H ws) (hw : ws ++ dvs = [.ref a, .int k]) :
    EvL (tMeth T.c_Turning "leap" (sp_Listing_leap_T T) dvs E ta tg) σ H ((trow s n ((tplace s xs + k) % s ^ n)).map V.int) := by
  obtain ⟨dx, h⟩ := ho
  refine el_meth hv h (tF_no _ _ _ (by decide +kernel) (by decide +kernel) (by decide +kernel)) ha fun H1 e Q q => ?_
  rw [hw]
  exact ⟨o, a, s, n, xs, k, rfl, f, ⟨dx, e _ _ h⟩, ex_l e hx, by have := f.2.2.2; omega, fun _ => q, fun z => absurd ⟨hl, hm⟩ z⟩
theorem er_Tplace {T : Txt K mg} {σ : L2.St} {H : Hp} {ta : TE} {tg : TA} {E : XK} {o a : Addr} {s : Int} {n : Nat} {xs : List Int} (f : TForm s n) (ho : IsT T H o s n) (hx : SqL K H a (xs.map V.int)) (hl : xs.length ≤ 10000) (hm : ¬ (xs.length = n ∧ Marks s xs)) (he : RetX T.c_NoRow H E) (hv : Ev ta σ H (.ref o)) (ha : EvA tg σ H [.ref a]) :
    EvR (tMeth T.c_Turning "place_of" (sp_Turning_place_of T) [] E ta tg) σ H := by
  obtain ⟨dx, h⟩ := ho
  exact er_meth hv h (tF_no _ _ _ (by decide +kernel) (by decide +kernel) (by decide +kernel)) ha fun H1 e Q => ⟨o, a, s, n, xs, rfl, f, ⟨dx, e _ _ h⟩, ex_l e hx, hl, fun z => absurd z hm, fun _ => RetX.mono he e⟩
theorem er_Tleap {T : Txt K mg} {σ : L2.St} {H : Hp} {ta : TE} {tg : TA} {E : XK} {o a : Addr} {s : Int} {n : Nat} {xs : List Int} {k : Int} {dvs ws : List V} (f : TForm s n) (ho : IsT T H o s n) (hx : SqL K H a (xs.map V.int)) (hl : xs.length ≤ 10000) (hm : ¬ (xs.length = n ∧ Marks s xs)) (he : RetX T.c_NoRow H E) (hv : Ev ta σ H (.ref o)) (ha : EvA tg σ H ws) (hw : ws ++ dvs = [.ref a, .int k]) :
    EvR (tMeth T.c_Turning "leap" (sp_Listing_leap_T T) dvs E ta tg) σ H := by
  obtain ⟨dx, h⟩ := ho
  refine er_meth hv h (tF_no _ _ _ (by decide +kernel) (by decide +kernel) (by decide +kernel)) ha fun H1 e Q => ?_
  rw [hw]
  exact ⟨o, a, s, n, xs, k, rfl, f, ⟨dx, e _ _ h⟩, ex_l e hx, hl, fun z => absurd z hm, fun _ => RetX.mono he e⟩
theorem ok_Listing_leap_T (T : Txt K mg) : FnOk P w K mg base (L2.CX P w) 3 T.a_Listing_leap T.d_Listing_leap P_Listing_leap (sp_Listing_leap_T T) := by
  have G_Turning_place_of := ok_Turning_place_of (P := P) (w := w) (base := base) T
  have G_Turning_row_at := ok_Turning_row_at (P := P) (w := w) (base := base) T
  refine (T.F_Listing_leap).ok (CX := L2.CX P w) sc_Listing_leap (fun vs H Q E h => ?len) (fun cdv A outer s H vs Q E hr h => ⟨_, (pss_one (ps_ret (pe_meth (pv 0) T.cl_Turning T.me_Turning_row_at G_Turning_row_at (hr.mono (by decide)) T.b_Turning_row_at .nil (passes_call (W := fun cls d _ H => E cls d H) (E := E) (takes_of rfl rfl rfl rfl) (fun _ _ _ _ h => h)) (pa_cons (pe_op op_mod (pe_op op_add (pe_meth (pv 0) T.cl_Turning T.me_Turning_place_of G_Turning_place_of (hr.mono (by decide)) T.b_Turning_place_of .nil (passes_call (W := fun cls d _ H => E cls d H) (E := E) (takes_of rfl rfl rfl rfl) (fun _ _ _ _ h => h)) (pa_cons (pv 1) pa_nil)) (pv 2)) (pe_fld (pv 0) (by rfl))) pa_nil)))), ?read⟩)
  case len =>
    obtain ⟨o, a, s, n, xs, k, rfl, _⟩ := h
    rfl
  case read =>
    obtain ⟨o, a, s, n, xs, k, rfl, f, ho, hx, hl, q, qe⟩ := h
    obtain ⟨dx, hO⟩ := id ho
    show tRet _ _ [some (.ref o), some (.ref a), some (.int k)] H
    have m0 : 0 < s ^ n := Int.pow_pos (by have := f.1; omega)
    obtain ⟨r0, r1⟩ := mod_range (tplace s xs + k) m0
    by_cases hr : xs.length = n ∧ Marks s xs
    · refine b_retL (Ex.refl H) (el_trow f ho r0 r1 (ev_var rfl) (ea_cons (ev_op (ev_op (ev_Tplace f ho hx hr.1 hr.2 (ev_var rfl) (by walk_at "ev")) (ev_var rfl) rv_I0) (ev_fld (ev_var rfl) hO T.cl_Turning T.no_Turning_size (tF_size _ _ _)) (rv_I m0)) ea_nil)) (q hr)
    · exact b_retR (Ex.refl H) (er_methA (ev_var rfl) hO (tF_no _ _ _ (by decide +kernel) (by decide +kernel) (by decide +kernel)) (er_cons1 (er_op1 (er_op1 (er_Tplace f ho hx hl hr (qe hr) (ev_var rfl) (by walk_at "ev"))))))
/-! #### Listing.row_before -/
theorem sc_Listing_row_before : FnScope N_Listing_row_before P_Listing_row_before (defScope s_Listing_row_before) := ⟨rfl, rfl, rfl, by decide +kernel, rfl, by decide +kernel, by decide +kernel⟩
def sp_Listing_row_before_T (T : Txt K mg) : Sp := fun vs H Q E => ∃ (o a : Addr) (s : Int) (n : Nat) (xs : List Int), vs = [.ref o, .ref a] ∧ TForm s n ∧ IsT T H o s n ∧ SqL K H a (xs.map V.int) ∧ xs.length ≤ 10000 ∧
  (xs.length = n ∧ Marks s xs → RetL ((trow s n ((tplace s xs + -1) % s ^ n)).map V.int) H Q) ∧ (¬ (xs.length = n ∧ Marks s xs) → RetX T.c_NoRow H E)
theorem el_Tbefore {T : Txt K mg} {σ : L2.St} {H : Hp} {ta : TE} {tg : TA} {E : XK} {o a : Addr} {s : Int} {n : Nat} {xs : List Int} (f : TForm s n) (ho : IsT T H o s n) (hx : SqL K H a (xs.map V.int)) (hl : xs.length = n) (hm : Marks s xs) (hv : Ev ta σ H (.ref o)) (ha : EvA tg σ H [.ref a]) :
    EvL (tMeth T.c_Turning "row_before" (sp_Listing_row_before_T T) [] E ta tg) σ H ((trow s n ((tplace s xs + -1) % s ^ n)).map V.int) := by
  obtain ⟨dx, h⟩ := ho
  exact el_meth hv h (tF_no _ _ _ (by decide +kernel) (by decide +kernel) (by decide +kernel)) ha fun H1 e Q q => ⟨o, a, s, n, xs, rfl, f, ⟨dx, e _ _ h⟩, ex_l e hx, by have := f.2.2.2; omega, fun _ => q, fun z => absurd ⟨hl, hm⟩ z⟩
theorem ok_Listing_row_before_T (T : Txt K mg) : FnOk P w K mg base (L2.CX P w) 4 T.a_Listing_row_before T.d_Listing_row_before P_Listing_row_before (sp_Listing_row_before_T T) := by
  have G_Listing_leap_T := ok_Listing_leap_T (P := P) (w := w) (base := base) T
  refine (T.F_Listing_row_before).okX sc_Listing_row_before (fun vs H Q E h => ?len) (fun cdv A outer s H vs Q E hr h => ⟨_, (pss_one (ps_ret (pe_meth (pv 0) T.cl_Turning T.me_Turning_leap G_Listing_leap_T (hr.mono (by decide)) T.b_Listing_leap .nil (passes_call (W := fun cls d _ H => E cls d H) (E := E) (takes_of rfl rfl rfl rfl) (fun _ _ _ _ h => h)) (pa_cons (pv 1) (pa_cons (pe_un un_neg pe_int) pa_nil))))), ?read⟩)
  case len =>
    obtain ⟨o, a, s, n, xs, rfl, _⟩ := h
    rfl
  case read =>
    obtain ⟨o, a, s, n, xs, rfl, f, ho, hx, hl, q, qe⟩ := h
    show tRet _ _ [some (.ref o), some (.ref a)] H
    by_cases hr : xs.length = n ∧ Marks s xs
    · exact b_retL (Ex.refl H) (el_Tleap (k := -1) f ho hx hr.1 hr.2 (ev_var rfl) (by walk_at "ev") rfl) (q hr)
    · exact b_retR (Ex.refl H) (er_Tleap (k := -1) f ho hx hl hr (qe hr) (ev_var rfl) (by walk_at "ev") rfl)
/-! #### Turning.change -/
theorem sc_Turning_change : FnScope N_Turning_change P_Turning_change (defScope s_Turning_change) := ⟨rfl, rfl, rfl, by decide +kernel, rfl, by decide +kernel, by decide +kernel⟩
theorem tspot_step {s : Int} {n i : Nat} {p : Int} (hi : i + 1 < n) (h : p % s = s - 1) : tspot s (n - i) p = tspot s (n - (i + 1)) (p / s) + 1 := by
  obtain ⟨m, hm⟩ : ∃ m, n - i = m + 2 := ⟨n - i - 2, by omega⟩
  have e : n - (i + 1) = m + 1 := by omega
  rw [hm, e]
  exact if_pos h
theorem tspot_stop {s : Int} {n i : Nat} {p : Int} (hi : i < n) (h : ¬ (i + 1 < n ∧ p % s = s - 1)) : tspot s (n - i) p = 0 := by
  by_cases h1 : i + 1 < n
  · obtain ⟨m, hm⟩ : ∃ m, n - i = m + 2 := ⟨n - i - 2, by omega⟩
    rw [hm]
    exact if_neg fun z => h ⟨h1, z⟩
  · have e : n - i = 1 := by omega
    rw [e]
    rfl
/-- what a turning list tells as the change -/
def sp_Turning_change (T : Txt K mg) : Sp := fun vs H Q E => ∃ (o a : Addr) (s : Int) (n : Nat) (xs : List Int), vs = [.ref o, .ref a] ∧ TForm s n ∧ IsT T H o s n ∧ SqL K H a (xs.map V.int) ∧ xs.length ≤ 10000 ∧
  (xs.length = n ∧ Marks s xs → (s ^ n = 1 → RetV .non H Q) ∧ (s ^ n ≠ 1 → RetU [.str "turn", .int (tspot s n (tplace s xs))] H Q)) ∧ (¬ (xs.length = n ∧ Marks s xs) → RetX T.c_NoRow H E)
theorem ev_Tchange {T : Txt K mg} {σ : L2.St} {H : Hp} {ta : TE} {tg : TA} {E : XK} {o a : Addr} {s : Int} {n : Nat} {xs : List Int} (f : TForm s n) (ho : IsT T H o s n) (hx : SqL K H a (xs.map V.int)) (hl : xs.length = n) (hm : Marks s xs) (h1 : s ^ n = 1) (hv : Ev ta σ H (.ref o)) (ha : EvA tg σ H [.ref a]) :
    Ev (tMeth T.c_Turning "change" (sp_Turning_change T) [] E ta tg) σ H .non := by
  obtain ⟨dx, h⟩ := ho
  exact ev_meth hv h (tF_no _ _ _ (by decide +kernel) (by decide +kernel) (by decide +kernel)) ha fun H1 e Q q => ⟨o, a, s, n, xs, rfl, f, ⟨dx, e _ _ h⟩, ex_l e hx, by have := f.2.2.2; omega, fun _ => ⟨fun _ => q, fun z => absurd h1 z⟩, fun z => absurd ⟨hl, hm⟩ z⟩
theorem eu_Tchange {T : Txt K mg} {σ : L2.St} {H : Hp} {ta : TE} {tg : TA} {E : XK} {o a : Addr} {s : Int} {n : Nat} {xs : List Int} (f : TForm s n) (ho : IsT T H o s n) (hx : SqL K H a (xs.map V.int)) (hl : xs.length = n) (hm : Marks s xs) (h1 : s ^ n ≠ 1) (hv : Ev ta σ H (.ref o)) (ha : EvA tg σ H [.ref a]) :
    EvU (tMeth T.c_Turning "change" (sp_Turning_change T) [] E ta tg) σ H [.str "turn", .int (tspot s n (tplace s xs))] := by
  obtain ⟨dx, h⟩ := ho
  exact eu_meth hv h (tF_no _ _ _ (by decide +kernel) (by decide +kernel) (by decide +kernel)) ha fun H1 e Q q => ⟨o, a, s, n, xs, rfl, f, ⟨dx, e _ _ h⟩, ex_l e hx, by have := f.2.2.2; omega, fun _ => ⟨fun z => absurd z h1, fun _ => q⟩, fun z => absurd ⟨hl, hm⟩ z⟩
theorem ok_Turning_change (T : Txt K mg) : FnOk P w K mg base (L2.CX P w) 3 T.a_Turning_change T.d_Turning_change P_Turning_change (sp_Turning_change T) := by
  have G_Turning_place_of := ok_Turning_place_of (P := P) (w := w) (base := base) T
  refine (T.F_Turning_change).okX sc_Turning_change (fun vs H Q E h => ?len) (fun cdv A outer s H vs Q E hr h => ⟨_, (pss_cons (ps_set (i := 2) sc_Turning_change.nd rfl (Or.inl rfl) (pe_meth (pv 0) T.cl_Turning T.me_Turning_place_of G_Turning_place_of (hr.mono (by decide)) T.b_Turning_place_of .nil (passes_call (W := fun cls d _ H => E cls d H) (E := E) (takes_of rfl rfl rfl rfl) (fun _ _ _ _ h => h)) (pa_cons (pv 1) pa_nil)))
    (pss_cons (ps_if (pt_cmpR op_eq (pe_fld (pv 0) (by rfl)) pe_int (nomark _)) (pss_one (ps_ret pe_non)) pss_nil)
    (pss_cons (ps_set (i := 3) sc_Turning_change.nd rfl (Or.inl rfl) pe_int)
    (pss_cons (ps_while (passes_of rfl) (PW.pt (pw_and (pt_cmpR op_lt (pe_op op_add (pv 3) pe_int) (pe_fld (pv 0) (by rfl)) (nomark _)) (pw_and1 (pt_cmpR op_eq (pe_op op_mod (pv 2) (pe_fld (pv 0) (by rfl))) (pe_op op_sub (pe_fld (pv 0) (by rfl)) pe_int) (nomark _))))) (pss_cons (ps_set (i := 2) sc_Turning_change.nd rfl (Or.inl rfl) (pe_op op_fdivW (pv 2) (pe_fld (pv 0) (by rfl))))
    (pss_one (ps_aug (i := 3) sc_Turning_change.nd rfl (Or.inl rfl) pe_int ip_add))))
    (pss_one (ps_ret (pe_tup (pa_cons pe_str (pa_cons (pv 3) pa_nil))))))))), ?read⟩)
  case len =>
    obtain ⟨o, a, s, n, xs, rfl, _⟩ := h
    rfl
  case read =>
    obtain ⟨o, a, s, n, xs, rfl, f, ho, hx, hl, q, qe⟩ := h
    obtain ⟨dx, hO⟩ := id ho
    show tSeq _ _ _ [some (.ref o), some (.ref a), none, none] H
    obtain ⟨f1, f2, f3, f4⟩ := id f
    have hs0 : 0 < s := by omega
    by_cases hr : xs.length = n ∧ Marks s xs
    case neg => exact b_asgR (Ex.refl H) (er_Tplace f ho hx hl hr (qe hr) (ev_var rfl) (by walk_at "ev"))
    obtain ⟨q1, q2⟩ := q hr
    refine b_asg (Ex.refl H) (ev_Tplace f ho hx hr.1 hr.2 (ev_var rfl) (by walk_at "ev")) fun H1 e => ?_
    have hsz : ∀ {σ : L2.St}, σ[0]? = some (some (V.ref o)) → Ev (tFld K (tVar 0) "size") σ H (.int (s ^ n)) := fun h => ev_fld (ev_var h) hO T.cl_Turning T.no_Turning_size (tF_size _ _ _)
    have hsg : ∀ {σ : L2.St}, σ[0]? = some (some (V.ref o)) → Ev (tFld K (tVar 0) "signs") σ H (.int s) := fun h => ev_fld (ev_var h) hO T.cl_Turning T.no_Turning_signs (tF_signs _ _ _)
    have hln : ∀ {σ : L2.St}, σ[0]? = some (some (V.ref o)) → Ev (tFld K (tVar 0) "length") σ H (.int n) := fun h => ev_fld (ev_var h) hO T.cl_Turning T.no_Turning_length (tF_length _ _ _)
    refine b_when e (et_test (ev_op (hsz rfl) ev_c rv_eqI)) (fun hb H2 e2 => b_ret e2 ev_c (q1 (by simpa using hb))) (fun hb H2 e => ?_)
    have hne : s ^ n ≠ 1 := by simpa using hb
    have hn0 : 0 < n := by
      rcases Nat.eq_zero_or_pos n with h | h
      · subst h
        exact absurd (Int.pow_zero s) hne
      · exact h
    have q2 := q2 hne
    refine b_asg e ev_c fun H3 e => ?_
    generalize hP : tplace s xs = P at q2 ⊢
    refine q_while (fun m σ' H' => ∃ i : Nat, m = n - i ∧ i < n ∧ ∃ p : Int, σ' = [some (.ref o), some (.ref a), some (.int p), some (.int (i : Int))] ∧ tspot s n P = i + tspot s (n - i) p ∧ Ex H H') n ⟨0, rfl, hn0, P, rfl, by simp, e⟩ ?_
    rintro m σ' H' ⟨i, rfl, hi, p, rfl, ht, e'⟩
    refine ⟨decide ((i : Int) + 1 < n) && decide (p % s = s - 1), EvT.mono e' (et_and (et_test (ev_op (by walk_at "ev") (hln rfl) rv_I0)) fun _ => et_test (ev_op (ev_op (ev_var rfl) (hsg rfl) (rv_I hs0)) (ev_op (hsg rfl) ev_c rv_I0) rv_eqI)), fun hb H4 e4 => ?_, fun hb H4 e4 => ?_⟩
    · have hb2 : i + 1 < n ∧ p % s = s - 1 := by
        simp at hb
        omega
      refine ⟨fun σ' H' => ∃ i' : Nat, i' = i + 1 ∧ ∃ p' : Int, σ' = [some (.ref o), some (.ref a), some (.int p'), some (.int (i' : Int))] ∧ p' = p / s ∧ Ex H H', ?_, ?_⟩
      · rintro σ2 H2 ⟨_, rfl, _, rfl, rfl, e2⟩
        exact ⟨n - (i + 1), by omega, i + 1, rfl, hb2.1, _, rfl, by rw [ht, tspot_step hb2.1 hb2.2]; omega, e2⟩
      · refine b_asg (e'.trans e4) (v := .int (p / s)) (ev_op (ev_var rfl) (hsg rfl) (rv_I (cdiv_small hs0 (by omega)))) fun H5 e5 => ?_
        refine l_aug (a := (i : Int)) e5 rfl ev_c fun H6 e6 => ⟨i + 1, rfl, _, ?_, rfl, e6⟩
        rfl
    · have hb2 : ¬ (i + 1 < n ∧ p % s = s - 1) := by
        simp at hb
        omega
      rw [tspot_stop hi hb2] at ht
      refine b_retU (e'.trans e4) (eu_tup (by walk_at "ev") (by simp)) fun t H5 nt e5 h5 => ?_
      rw [ht] at q2
      exact q2 t H5 nt e5 h5
/-! #### Listing.next_row -/
theorem sc_Listing_next_row : FnScope N_Listing_next_row P_Listing_next_row (defScope s_Listing_next_row) := ⟨rfl, rfl, rfl, by decide +kernel, rfl, by decide +kernel, by decide +kernel⟩
def sp_Listing_next_row_T (T : Txt K mg) : Sp := fun vs H Q E => ∃ (o a : Addr) (s : Int) (n : Nat) (xs : List Int), vs = [.ref o, .ref a] ∧ TForm s n ∧ IsT T H o s n ∧ SqL K H a (xs.map V.int) ∧ xs.length ≤ 10000 ∧
  (xs.length = n ∧ Marks s xs → RetL ((trow s n ((tplace s xs + 1) % s ^ n)).map V.int) H Q) ∧ (¬ (xs.length = n ∧ Marks s xs) → RetX T.c_NoRow H E)
theorem el_Tnext {T : Txt K mg} {σ : L2.St} {H : Hp} {ta : TE} {tg : TA} {E : XK} {o a : Addr} {s : Int} {n : Nat} {xs : List Int} (f : TForm s n) (ho : IsT T H o s n) (hx : SqL K H a (xs.map V.int)) (hl : xs.length = n) (hm : Marks s xs) (hv : Ev ta σ H (.ref o)) (ha : EvA tg σ H [.ref a]) :
    EvL (tMeth T.c_Turning "next_row" (sp_Listing_next_row_T T) [] E ta tg) σ H ((trow s n ((tplace s xs + 1) % s ^ n)).map V.int) := by
  obtain ⟨dx, h⟩ := ho
  exact el_meth hv h (tF_no _ _ _ (by decide +kernel) (by decide +kernel) (by decide +kernel)) ha fun H1 e Q q => ⟨o, a, s, n, xs, rfl, f, ⟨dx, e _ _ h⟩, ex_l e hx, by have := f.2.2.2; omega, fun _ => q, fun z => absurd ⟨hl, hm⟩ z⟩
theorem ok_Listing_next_row_T (T : Txt K mg) : FnOk P w K mg base (L2.CX P w) 4 T.a_Listing_next_row T.d_Listing_next_row P_Listing_next_row (sp_Listing_next_row_T T) := by
  have G_Listing_leap_T := ok_Listing_leap_T (P := P) (w := w) (base := base) T
  refine (T.F_Listing_next_row).okX sc_Listing_next_row (fun vs H Q E h => ?len) (fun cdv A outer s H vs Q E hr h => ⟨_, (pss_one (ps_ret (pe_meth (pv 0) T.cl_Turning T.me_Turning_leap G_Listing_leap_T (hr.mono (by decide)) T.be_Listing_leap T.ve_Listing_leap (passes_call (W := fun cls d _ H => E cls d H) (E := E) (takes_of rfl rfl rfl rfl) (fun _ _ _ _ h => h)) (pa_cons (pv 1) pa_nil)))), ?read⟩)
  case len =>
    obtain ⟨o, a, s, n, xs, rfl, _⟩ := h
    rfl
  case read =>
    obtain ⟨o, a, s, n, xs, rfl, f, ho, hx, hl, q, qe⟩ := h
    show tRet _ _ [some (.ref o), some (.ref a)] H
    by_cases hr : xs.length = n ∧ Marks s xs
    · exact b_retL (Ex.refl H) (el_Tleap (k := 1) f ho hx hr.1 hr.2 (ev_var rfl) (by walk_at "ev") rfl) (q hr)
    · exact b_retR (Ex.refl H) (er_Tleap (k := 1) f ho hx hl hr (qe hr) (ev_var rfl) (by walk_at "ev") rfl)
/-! #### _law_alone -/
theorem sc_law_alone : FnScope N_law_alone P_law_alone (defScope s_law_alone) := ⟨rfl, rfl, rfl, by decide +kernel, rfl, by decide +kernel, by decide +kernel⟩
def sp_law_alone (T : Txt K mg) : Sp := fun vs H Q _ => ∃ (o r : Addr) (s : Int) (xs : List Int), vs = [.ref o, .ref r] ∧ TForm s (0 : Nat) ∧ IsT T H o s 0 ∧ H r = some (.lst (xs.map V.int)) ∧ xs.length = 0 ∧ RetV (.bl true) H Q
theorem ev_alone {T : Txt K mg} {σ : L2.St} {H : Hp} {tg : TA} {E : XK} {o r : Addr} {s : Int} {xs : List Int} (f : TForm s (0 : Nat)) (ho : IsT T H o s 0) (hr : H r = some (.lst (xs.map V.int))) (hl : xs.length = 0) (ha : EvA tg σ H [.ref o, .ref r]) : Ev (tCall (sp_law_alone T) [] E tg) σ H (.bl true) :=
  ev_callF ha fun _ e _ q => ⟨o, r, s, xs, rfl, f, ho.mono e, e _ _ hr, hl, q⟩
theorem ok_law_alone (T : Txt K mg) : FnOk P w K mg base CX0 5 T.a_law_alone T.d_law_alone P_law_alone (sp_law_alone T) := by
  have G_Listing_next_row_T := ok_Listing_next_row_T (P := P) (w := w) (base := base) T
  have G_Listing_row_before_T := ok_Listing_row_before_T (P := P) (w := w) (base := base) T
  have G_Turning_change := ok_Turning_change (P := P) (w := w) (base := base) T
  have G_law_given := ok_law_given (P := P) (w := w) (base := base) T
  refine (T.F_law_alone).ok sc_law_alone (fun vs H Q E h => ?len) (fun cdv A outer s H vs Q E hr h => ⟨_, (pss_cons (ps_set (i := 2) sc_law_alone.nd rfl (Or.inl rfl) (pe_callTy call_list_of (by rfl) T.g_list boot_list (pa_cons (pv 1) pa_nil)))
    (pss_cons (ps_if (PW.pt (pw_or (pt_cmpR op_notN (pe_meth (pv 0) T.cl_Turning T.me_Turning_change G_Turning_change (hr.mono (by decide)) T.b_Turning_change .nil passL (pa_cons (pv 2) pa_nil)) pe_non (nomark _)) (pw_or1 (pt_not (pt_val (pe_call G_law_given (hr.mono (by decide)) (by rfl) T.m_law_given T.F_law_given.kp T.b_law_given .nil pass0 (pa_cons (pe_meth (pv 0) T.cl_Turning T.me_Turning_next_row G_Listing_next_row_T (hr.mono (by decide)) T.b_Listing_next_row .nil passL (pa_cons (pv 2) pa_nil)) (pa_cons (pv 1) (pa_cons (pv 2) (pa_cons (pv 1) pa_nil)))))))))) (pss_one (ps_ret pe_bl)) pss_nil)
    (pss_one (ps_ret (pe_call G_law_given (hr.mono (by decide)) (by rfl) T.m_law_given T.F_law_given.kp T.b_law_given .nil pass0 (pa_cons (pe_meth (pv 0) T.cl_Turning T.me_Turning_row_before G_Listing_row_before_T (hr.mono (by decide)) T.b_Listing_row_before .nil passL (pa_cons (pv 2) pa_nil)) (pa_cons (pv 1) (pa_cons (pv 2) (pa_cons (pv 1) pa_nil))))))))), ?read⟩)
  case len =>
    obtain ⟨o, r, s, xs, rfl, _⟩ := h
    rfl
  case read =>
    obtain ⟨o, r, s, xs, rfl, f, ho, hr, hl, q⟩ := h
    obtain rfl : xs = [] := List.eq_nil_of_length_eq_zero hl
    show tSeq _ _ _ [some (.ref o), some (.ref r), none] H
    have hM : Marks s [] := fun m h => by cases h
    refine b_asgL (Ex.refl H) (el_list (ev_var rfl) (sq_of hr)) fun l H1 nl e hl' => ?_
    have ho1 := ho.mono e
    have hr1 := e _ _ hr
    refine b_skip (b := false || !true) (Ex.refl H1) (et_or (et_test (ev_op (ev_Tchange f ho1 (sq_of hl') rfl hM (Int.pow_zero s) (ev_var rfl) (by walk_at "ev")) ev_c (rv_notNb (b := false) rfl))) fun _ => et_not (et_B (ev_given (xs := []) (ys := []) (el_Tnext f ho1 (sq_of hl') rfl hM (ev_var rfl) (by walk_at "ev")) hr1 hl' hr1 (by simp) rfl rfl rfl))) (fun H2 e2 => ?_)
    exact b_ret e2 (ev_given (xs := []) (ys := []) (el_Tbefore f ho1 (sq_of hl') rfl hM (ev_var rfl) (by walk_at "ev")) hr1 hl' hr1 (by simp) rfl rfl rfl) fun H3 e3 => q H3 (e.trans e3)
/-! #### _law_is_row -/
theorem sc_law_is_row : FnScope N_law_is_row P_law_is_row (defScope s_law_is_row) := ⟨rfl, rfl, rfl, by decide +kernel, rfl, by decide +kernel, by decide +kernel⟩
def sp_law_is_row (_ : Txt K mg) : Sp := fun vs H Q _ => ∃ (a : Addr) (xs : List Int) (s : Int) (n : Nat), vs = [.ref a, .int s, .int n] ∧ H a = some (.lst (xs.map V.int)) ∧ xs.length = n ∧ n ≤ 10000 ∧ Marks s xs ∧ RetV (.bl true) H Q
theorem ev_is_row {T : Txt K mg} {σ : L2.St} {H : Hp} {tg : TA} {E : XK} {a : Addr} {xs : List Int} {s : Int} {n : Nat} (hx : H a = some (.lst (xs.map V.int))) (hl : xs.length = n) (hn : n ≤ 10000) (hM : Marks s xs) (ha : EvA tg σ H [.ref a, .int s, .int n]) : Ev (tCall (sp_law_is_row T) [] E tg) σ H (.bl true) :=
  ev_callF ha fun _ e _ q => ⟨a, xs, s, n, rfl, e _ _ hx, hl, hn, hM, q⟩
theorem ok_law_is_row (T : Txt K mg) : FnOk P w K mg base CX0 2 T.a_law_is_row T.d_law_is_row P_law_is_row (sp_law_is_row T) := by
  have G_law_whole := ok_law_whole (P := P) (w := w) (base := base) T
  refine (T.F_law_is_row).ok sc_law_is_row (fun vs H Q E h => ?len) (fun cdv A outer s H vs Q E hr h => ⟨_, (pss_cons (ps_if (PW.pt (pw_or (pt_not (pt_val (pe_callB call_isi (by rfl) T.g_isinstance boot_isinstance (pa_cons (pv 0) (pa_cons (pe_bltn (v := .ty "list") rfl T.g_list boot_list rfl) pa_nil))))) (pw_or1 (pt_cmpR op_ne (pe_callB call_len_seq (by rfl) T.g_len boot_len (pa_cons (pv 0) pa_nil)) (pv 2) (nomark _))))) (pss_one (ps_ret pe_bl)) pss_nil)
    (pss_one (ps_ret (pe_callB (cr_all rfl) (by rfl) T.g_all boot_all (pa_cons (pe_lc (own := [("_law_mark", 3)]) (g := (gName 3)) rfl sc_law_is_row.nd (pi_list (pv 0)) (blkOk_by (N := N_law_is_row) (sc := defScope s_law_is_row) (by decide +kernel)) (fun _ _ _ _ _ => pg_name (i := 3) sc_law_is_row.nd rfl (Or.inl rfl)) (fun _ _ _ _ _ => pts_nil) (fun _ _ _ _ _ => (pe_and (pe_call G_law_whole (hr.mono (by decide)) (by rfl) T.m_law_whole T.F_law_whole.kp T.b_law_whole .nil pass0 (pa_cons (pv 3) pa_nil)) (pe_and (pe_cmpR op_le pe_int (pv 3) (nomark _)) (pe_one (pe_cmpR op_lt (pv 3) (pv 1) (nomark _))))))) pa_nil))))), ?read⟩)
  case len =>
    obtain ⟨a, xs, s, n, rfl, _⟩ := h
    rfl
  case read =>
    obtain ⟨a, xs, s, n, rfl, hx, hl, hn, hM, q⟩ := h
    show tSeq _ _ _ [some (.ref a), some (.int s), some (.int n), none] H
    refine b_skip (b := !true || !decide ((xs.length : Int) = n)) (Ex.refl H) (et_or (et_not (et_B (ev_isi (by walk_at "ev") (.lst hx) (kit_ty (by decide +kernel))))) fun _ => et_test (ev_op (ev_is (ev_len (ev_var rfl) (sq_of hx)) (by rw [List.length_map])) (ev_var rfl) rv_neI)) (fun H1 e => ?_) (by simp; omega)
    refine b_ret e (v := .bl (xs.all fun m => true && (decide (0 ≤ m) && decide (m < s)))) ?_ ?_
    · refine ev_allI _ (ev_var rfl) (sq_of hx) (by omega) (fun _ => rfl) fun m H2 e2 _ => ?_
      refine ev_andV (ev_whole (by walk_at "ev")) fun _ => ev_andV (by walk_at "ev") fun _ => by walk_at "ev"
    · have e : (xs.all fun m => true && (decide (0 ≤ m) && decide (m < s))) = true := by
        rw [List.all_eq_true]
        intro m hm
        simp [hM m hm]
      rw [e]
      exact q
/-! #### _law_is_turn -/
theorem sc_law_is_turn : FnScope N_law_is_turn P_law_is_turn (defScope s_law_is_turn) := ⟨rfl, rfl, rfl, by decide +kernel, rfl, by decide +kernel, by decide +kernel⟩
theorem turn_data (K : PySem.W.Frag) {H : Hp} {t : Addr} {j : Int} (h : SqT K H t [.str "turn", .int j]) : Dp K H (.ref t) (.tuple [.str "turn", .int j]) := .tup h (.cons (.str _) (.cons (.int j) .nil))
theorem turn_shaped (j : Int) : SeqAt.shaped (.tuple [.str "turn", .int j]) = true := by
  have h1 : PyData.canLay0 (.tuple [.str "turn", .int j]) = true := by
    show (PyData.canLay0 (.str "turn") && (PyData.canLay0 (.int j) && true)) = true
    have : PyData.canLay0 (.str "turn") = true := by decide +kernel
    rw [this]
    rfl
  unfold SeqAt.shaped
  rw [h1]
  rfl
theorem turn_eqv (j : Int) : PyData.eqv (.tuple [.str "turn", .int j]) (.tuple [.str "turn", .int j]) = true := SeqAt.eqv_refl _ (SeqAt.canLay_of_shaped (turn_shaped j))
def sp_law_is_turn (_ : Txt K mg) : Sp := fun vs H Q _ => ∃ (t : Addr) (j : Int), vs = [.ref t, .int j] ∧ H t = some (.tup [.str "turn", .int j]) ∧ RetV (.bl true) H Q
theorem ev_is_turnU {T : Txt K mg} {σ : L2.St} {H : Hp} {tu tb : TE} {E : XK} {j : Int} (hu : EvU tu σ H [.str "turn", .int j]) (hb : Ev tb σ H (.int j)) : Ev (tCall (sp_law_is_turn T) [] E (tCons tu (tCons tb tNil))) σ H (.bl true) := fun H1 e Q q =>
  hu H1 e _ fun p H2 _ e2 h => hb H2 (e.trans e2) _ fun H3 e3 => ⟨p, j, rfl, e3 _ _ h, fun H4 e4 => q H4 ((e2.trans e3).trans e4)⟩
theorem ok_law_is_turn (T : Txt K mg) : FnOk P w K mg base CX0 2 T.a_law_is_turn T.d_law_is_turn P_law_is_turn (sp_law_is_turn T) := by
  have G_law_whole := ok_law_whole (P := P) (w := w) (base := base) T
  refine (T.F_law_is_turn).ok sc_law_is_turn (fun vs H Q E h => ?len) (fun cdv A outer s H vs Q E hr h => ⟨_, (pss_cons (ps_if (PW.pt (pw_or (pt_not (pt_val (pe_callB call_isi (by rfl) T.g_isinstance boot_isinstance (pa_cons (pv 0) (pa_cons (pe_bltn (v := .ty "tuple") rfl T.g_tuple boot_tuple rfl) pa_nil))))) (pw_or (pt_cmpR op_ne (pe_callB call_len_seq (by rfl) T.g_len boot_len (pa_cons (pv 0) pa_nil)) pe_int (nomark _)) (pw_or1 (pt_not (pt_val (pe_callB call_isi (by rfl) T.g_isinstance boot_isinstance (pa_cons (pe_ix ix_tup (pv 0) pe_int (fun _ _ => rfl)) (pa_cons (pe_bltn (v := .ty "str") rfl T.g_str boot_str rfl) pa_nil))))))))) (pss_one (ps_ret pe_bl)) pss_nil)
    (pss_one (ps_ret (pe_and (pe_call G_law_whole (hr.mono (by decide)) (by rfl) T.m_law_whole T.F_law_whole.kp T.b_law_whole .nil pass0 (pa_cons (pe_ix ix_tup (pv 0) pe_int (fun _ _ => rfl)) pa_nil)) (pe_one (pe_cmpR (op_eqD hr.units) (pv 0) (pe_tup (pa_cons pe_str (pa_cons (pv 1) pa_nil))) (nomark _))))))), ?read⟩)
  case len =>
    obtain ⟨t, j, rfl, _⟩ := h
    rfl
  case read =>
    obtain ⟨t, j, rfl, ht, q⟩ := h
    show tSeq _ _ _ [some (.ref t), some (.int j)] H
    have hs : SqT K H t [.str "turn", .int j] := st_of ht
    have i0 : Ev (tOp (rIxT K) (tVar 0) (tC (.int 0))) [some (.ref t), some (.int j)] H (.str "turn") := ev_op (ev_var rfl) ev_c (rv_ixT hs (at_of (j := 0) rfl rfl))
    have i1 : Ev (tOp (rIxT K) (tVar 0) (tC (.int 1))) [some (.ref t), some (.int j)] H (.int j) := ev_op (ev_var rfl) ev_c (rv_ixT hs (at_of (j := 1) rfl rfl))
    refine b_skip (b := !true || (!decide ((2 : Int) = 2) || !true)) (Ex.refl H) (et_or (et_not (et_B (ev_isi (by walk_at "ev") (.tup ht) (kit_ty (by decide +kernel))))) fun _ => et_or (et_test (ev_op (ev_lenT (ev_var rfl) hs) ev_c rv_neI)) fun _ => et_not (et_B (ev_isi (ea_cons i0 (ea_cons ev_c ea_nil)) (.str _) (kit_ty (by decide +kernel))))) (fun H1 e => ?_) (by simp)
    refine b_ret e (v := .bl (true && true)) (ev_andV (ev_whole (ea_cons i1 ea_nil)) fun _ => ev_opU (xs := [.str "turn", .int j]) (ev_var rfl) (eu_tup (by walk_at "ev") (by simp)) fun p H2 h2 e2 => ?_) q
    intro H3 e3 Q q
    refine ⟨_, _, turn_data K (ex_t (e2.trans e3) hs), turn_data K (ex_t e3 (st_of h2)), turn_shaped j, turn_shaped j, ?_⟩
    rw [turn_eqv]
    exact q H3 (Ex.refl H3)
/-! #### law -/
theorem sc_law : FnScope N_law P_law (defScope s_law) := ⟨rfl, rfl, rfl, by decide +kernel, rfl, by decide +kernel, by decide +kernel⟩
theorem spots_one {s : Int} (hs : 2 ≤ s) {xs : List Int} (hM : Marks s xs) {j n : Nat} (hl : xs.length = n) (hj : j < n) :
    given n (fun k => !decide (xs.getD k 0 = (turned s xs j).getD k 0)) (fun k => V.int (k : Int)) = [V.int (j : Int)] := by
  unfold given
  rw [filter_one n j _ hj fun k hk => ?_]
  · rfl
  · have hk' : k < xs.length := by omega
    have hj' : j < xs.length := by omega
    obtain ⟨m0, m1⟩ := hM xs[j] (List.getElem_mem hj')
    have := mark_ne hs m0 m1
    by_cases h : k = j
    · subst h
      simp [turned, hk']
      omega
    · have h2 : ¬ j = k := fun z => h z.symm
      simp [turned, hk', h, h2, List.getElem?_set]
def sp_law (_ : Txt K mg) : Sp := spLawK K
theorem ok_law (T : Txt K mg) : FnOk P w K mg base CX0 6 T.a_law T.d_law P_law (sp_law T) := by
  have G_Listing_next_row_T := ok_Listing_next_row_T (P := P) (w := w) (base := base) T
  have G_Listing_row_before_T := ok_Listing_row_before_T (P := P) (w := w) (base := base) T
  have G_Turning___init__ := ok_Turning___init__ (P := P) (w := w) (base := base) T
  have G_Turning_change := ok_Turning_change (P := P) (w := w) (base := base) T
  have G_Turning_row_at := ok_Turning_row_at (P := P) (w := w) (base := base) T
  have G_law_alone := ok_law_alone (P := P) (w := w) (base := base) T
  have G_law_any_turn := ok_law_any_turn (P := P) (w := w) (base := base) T
  have G_law_cell_at := ok_law_cell_at (P := P) (w := w) (base := base) T
  have G_law_is_row := ok_law_is_row (P := P) (w := w) (base := base) T
  have G_law_is_turn := ok_law_is_turn (P := P) (w := w) (base := base) T
  have G_law_length := ok_law_length (P := P) (w := w) (base := base) T
  have G_law_none_done := ok_law_none_done (P := P) (w := w) (base := base) T
  have G_law_place := ok_law_place (P := P) (w := w) (base := base) T
  have G_law_power := ok_law_power (P := P) (w := w) (base := base) T
  have G_law_same := ok_law_same (P := P) (w := w) (base := base) T
  have G_law_signs := ok_law_signs (P := P) (w := w) (base := base) T
  have G_law_turned := ok_law_turned (P := P) (w := w) (base := base) T
  refine (T.F_law).ok sc_law (fun vs H Q E h => ?len) (fun cdv A outer s H vs Q E hr h => ⟨_, (pss_cons (ps_set (i := 1) sc_law.nd rfl (Or.inl rfl) (pe_call G_law_length (hr.mono (by decide)) (by rfl) T.m_law_length T.F_law_length.kp T.b_law_length .nil pass0 (pa_cons (pe_call G_law_cell_at (hr.mono (by decide)) (by rfl) T.m_law_cell_at T.F_law_cell_at.kp T.b_law_cell_at .nil pass0 (pa_cons (pv 0) (pa_cons pe_int pa_nil))) pa_nil)))
    (pss_cons (ps_set (i := 2) sc_law.nd rfl (Or.inl rfl) (pe_call G_law_signs (hr.mono (by decide)) (by rfl) T.m_law_signs T.F_law_signs.kp T.b_law_signs .nil pass0 (pa_cons (pe_call G_law_cell_at (hr.mono (by decide)) (by rfl) T.m_law_cell_at T.F_law_cell_at.kp T.b_law_cell_at .nil pass0 (pa_cons (pv 0) (pa_cons pe_int pa_nil))) pa_nil)))
    (pss_cons (ps_set (i := 3) sc_law.nd rfl (Or.inl rfl) (pe_call G_law_power (hr.mono (by decide)) (by rfl) T.m_law_power T.F_law_power.kp T.b_law_power .nil pass0 (pa_cons (pv 2) (pa_cons (pv 1) pa_nil))))
    (pss_cons (ps_set (i := 4) sc_law.nd rfl (Or.inl rfl) (pe_make T.mk_Turning G_Turning___init__ (hr.mono (by decide)) (by rfl) T.m_Turning T.b_Turning___init__ .nil passL (pa_cons (pv 2) (pa_cons (pv 1) pa_nil))))
    (pss_cons (ps_set (i := 5) sc_law.nd rfl (Or.inl rfl) (pe_call G_law_place (hr.mono (by decide)) (by rfl) T.m_law_place T.F_law_place.kp T.b_law_place .nil pass0 (pa_cons (pv 0) (pa_cons (pv 2) (pa_cons (pv 1) (pa_cons (pv 3) pa_nil))))))
    (pss_cons (ps_set (i := 6) sc_law.nd rfl (Or.inr rfl) (pe_meth (pv 4) T.cl_Turning T.me_Turning_row_at G_Turning_row_at (hr.mono (by decide)) T.b_Turning_row_at .nil passL (pa_cons (pv 5) pa_nil)))
    (pss_cons (ps_set (i := 7) sc_law.nd rfl (Or.inr rfl) (pe_meth (pv 4) T.cl_Turning T.me_Turning_row_at G_Turning_row_at (hr.mono (by decide)) T.b_Turning_row_at .nil passL (pa_cons (pe_op op_mod (pe_op op_add (pv 5) pe_int) (pv 3)) pa_nil)))
    (pss_cons (ps_if (PW.pt (pw_or (pt_not (pt_val (pe_call G_law_is_row (hr.mono (by decide)) (by rfl) T.m_law_is_row T.F_law_is_row.kp T.b_law_is_row .nil pass0 (pa_cons (pv 6) (pa_cons (pv 2) (pa_cons (pv 1) pa_nil)))))) (pw_or1 (pt_not (pt_val (pe_call G_law_is_row (hr.mono (by decide)) (by rfl) T.m_law_is_row T.F_law_is_row.kp T.b_law_is_row .nil pass0 (pa_cons (pv 7) (pa_cons (pv 2) (pa_cons (pv 1) pa_nil))))))))) (pss_one (ps_ret pe_bl)) pss_nil)
    (pss_cons (ps_if (pt_not (pt_val (pe_call G_law_none_done (hr.mono (by decide)) (by rfl) T.m_law_none_done T.F_law_none_done.kp T.b_law_none_done .nil pass0 (pa_cons (pv 4) (pa_cons (pv 6) pa_nil))))) (pss_one (ps_ret pe_bl)) pss_nil)
    (pss_cons (ps_if (pt_cmpR op_eq (pv 3) pe_int (nomark _)) (pss_one (ps_ret (pe_call G_law_alone (hr.mono (by decide)) (by rfl) T.m_law_alone T.F_law_alone.kp T.b_law_alone .nil pass0 (pa_cons (pv 4) (pa_cons (pv 6) pa_nil))))) pss_nil)
    (pss_cons (ps_setLc (i := 8) (own := [("_law_k", 9)]) (g := (gName 9)) rfl sc_law.nd rfl rfl (sw_true rfl rfl rfl (by decide +kernel)) (pi_range1 rfl T.g_range (pa_cons (pv 1) pa_nil)) (blkOk_by (N := N_law) (sc := defScope s_law) (by decide +kernel)) (fun _ _ _ _ _ => pg_name (i := 9) sc_law.nd rfl (Or.inl rfl)) (fun _ _ _ _ _ => (pts_one (pt_cmpR op_ne (pe_ix (ix_listK (K := K)) (pv 6) (pv 9) (fun _ _ => rfl)) (pe_ix (ix_listK (K := K)) (pv 7) (pv 9) (fun _ _ => rfl)) (nomark _)))) (fun _ _ _ _ _ => (pv 9)))
    (pss_cons (ps_if (PW.pt (pw_or (pt_cmpR op_ne (pe_callB call_len_seq (by rfl) T.g_len boot_len (pa_cons (pv 8) pa_nil)) pe_int (nomark _)) (pw_or1 (pt_cmpR (op_neD hr.units) (pe_call G_law_turned (hr.mono (by decide)) (by rfl) T.m_law_turned T.F_law_turned.kp T.b_law_turned .nil pass0 (pa_cons (pv 6) (pa_cons (pe_ix ix_list (pv 8) pe_int (fun _ _ => rfl)) (pa_cons (pv 2) pa_nil)))) (pv 7) (nomark _))))) (pss_one (ps_ret pe_bl)) pss_nil)
    (pss_cons (ps_set (i := 10) sc_law.nd rfl (Or.inl rfl) (pe_lst (pa_cons (pe_callTy call_list_of (by rfl) T.g_list boot_list (pa_cons (pv 6) pa_nil)) (pa_cons (pe_callTy call_list_of (by rfl) T.g_list boot_list (pa_cons (pv 7) pa_nil)) pa_nil))))
    (pss_cons (ps_if (PW.pt (pw_or (pt_not (pt_val (pe_call G_law_is_turn (hr.mono (by decide)) (by rfl) T.m_law_is_turn T.F_law_is_turn.kp T.b_law_is_turn .nil pass0 (pa_cons (pe_meth (pv 4) T.cl_Turning T.me_Turning_change G_Turning_change (hr.mono (by decide)) T.b_Turning_change .nil passL (pa_cons (pv 6) pa_nil)) (pa_cons (pe_ix ix_list (pv 8) pe_int (fun _ _ => rfl)) pa_nil))))) (pw_or1 (pt_not (pt_val (pe_call G_law_same (hr.mono (by decide)) (by rfl) T.m_law_same T.F_law_same.kp T.b_law_same .nil pass0 (pa_cons (pe_meth (pv 4) T.cl_Turning T.me_Turning_next_row G_Listing_next_row_T (hr.mono (by decide)) T.b_Listing_next_row .nil passL (pa_cons (pv 6) pa_nil)) (pa_cons (pv 7) pa_nil)))))))) (pss_one (ps_ret pe_bl)) pss_nil)
    (pss_cons (ps_if (PW.pt (pw_or (pt_not (pt_val (pe_call G_law_same (hr.mono (by decide)) (by rfl) T.m_law_same T.F_law_same.kp T.b_law_same .nil pass0 (pa_cons (pe_meth (pv 4) T.cl_Turning T.me_Turning_row_before G_Listing_row_before_T (hr.mono (by decide)) T.b_Listing_row_before .nil passL (pa_cons (pv 7) pa_nil)) (pa_cons (pv 6) pa_nil))))) (pw_or (pt_cmpR (op_neD hr.units) (pv 6) (pe_ix ix_list (pv 10) pe_int (fun _ _ => rfl)) (nomark _)) (pw_or1 (pt_cmpR (op_neD hr.units) (pv 7) (pe_ix ix_list (pv 10) pe_int (fun _ _ => rfl)) (nomark _)))))) (pss_one (ps_ret pe_bl)) pss_nil)
    (pss_cons (ps_if (pt_not (pt_val (pe_call G_law_any_turn (hr.mono (by decide)) (by rfl) T.m_law_any_turn T.F_law_any_turn.kp T.b_law_any_turn .nil pass0 (pa_cons (pv 4) (pa_cons (pv 6) (pa_cons (pe_ix ix_list (pv 8) pe_int (fun _ _ => rfl)) (pa_cons (pv 2) pa_nil))))))) (pss_one (ps_ret pe_bl)) pss_nil)
    (pss_one (ps_ret (pe_call G_law_any_turn (hr.mono (by decide)) (by rfl) T.m_law_any_turn T.F_law_any_turn.kp T.b_law_any_turn .nil pass0 (pa_cons (pv 4) (pa_cons (pv 6) (pa_cons (pe_op op_mod (pe_call G_law_cell_at (hr.mono (by decide)) (by rfl) T.m_law_cell_at T.F_law_cell_at.kp T.b_law_cell_at .nil pass0 (pa_cons (pv 0) (pa_cons pe_int pa_nil))) (pv 1)) (pa_cons (pv 2) pa_nil))))))))))))))))))))))), ?read⟩)
  case len =>
    obtain ⟨a, ns, rfl, _⟩ := h
    rfl
  case read =>
    obtain ⟨a, ns, rfl, hS, hlen, hbits, kq⟩ := h
    show tSeq _ _ _ [some (.ref a), none, none, none, none, none, none, none, none, none, none] H
    refine b_asgS (Ex.refl H) (es_length (by walk_at "ev")) ?_
    rintro _ ⟨n, rfl, hn⟩ H1 e
    refine b_asgS e (es_signs (by walk_at "ev")) ?_
    rintro _ ⟨s, rfl, s2, s1⟩ H2 e
    refine b_asg e (ev_law_power s n (by omega) s1 hn (by walk_at "ev")) fun H3 e => ?_
    have f : TForm s n := ⟨s2, s1, by omega, by omega⟩
    refine b_asgO e (eo_Turning f (by walk_at "ev")) fun o dx H4 no e hO => ?_
    have hT : IsT T H4 o s n := ⟨dx, hO⟩
    have hS4 := ex_l e hS
    refine b_asgS (Ex.refl H4) (es_place hS4 s2 s1 hn (by walk_at "ev")) ?_
    rintro _ ⟨p, rfl, p0, p1⟩ H5 e
    have hs0 : 0 < s := by omega
    have m0 : 0 < s ^ n := Int.pow_pos hs0
    -- the row, the other one
    refine b_asgL e (el_trow f hT p0 p1 (ev_var rfl) (by walk_at "ev")) fun r H6 nr e6 hr => ?_
    have hT6 := hT.mono e6
    have hS6 := ex_l e6 hS4
    obtain ⟨q0, q1⟩ := mod_range (p + 1) m0
    refine b_asgL (Ex.refl H6) (el_trow (p := (p + 1) % s ^ n) f hT6 q0 q1 (ev_var rfl) (ea_cons (ev_op (by walk_at "ev") (ev_var rfl) (rv_I m0)) ea_nil)) fun u H7 nu e7 hu => ?_
    have hT7 := hT6.mono e7
    have hS7 := ex_l e7 hS6
    have hr7 := e7 _ _ hr
    have rM := trow_marks hs0 n p
    have rl := trow_len s n p
    have uM := trow_marks hs0 n ((p + 1) % s ^ n)
    have ul := trow_len s n ((p + 1) % s ^ n)
    have rp := tplace_trow hs0 n p p0 p1
    have up := tplace_trow hs0 n _ q0 q1
    have hnx : 0 < n → trow s n ((p + 1) % s ^ n) = turned s (trow s n p) (tspot s n p) := fun h => by
      rw [trow_next (by omega) n p h p0 p1, modify_set (by rw [rl]; exact tspot_lt s n p h)]
      rfl
    have hpv : ((p + 1) % s ^ n + -1) % s ^ n = p := prev_place p0 p1
    generalize hR : trow s n p = R at *
    generalize hU : trow s n ((p + 1) % s ^ n) = U at *
    generalize hQ : (p + 1) % s ^ n = pu at *
    refine b_skip (b := !true || !true) (Ex.refl H7) (et_or (et_not (et_B (ev_is_row hr7 rl (by omega) rM (by walk_at "ev")))) fun _ => et_not (et_B (ev_is_row hu ul (by omega) uM (by walk_at "ev")))) (fun H8 e => ?_)
    refine b_skip (b := !true) e (et_not (et_B (ev_none_done f hT7 hr7 rl rM (by walk_at "ev")))) (fun H9 e => ?_)
    refine b_when e (by walk_at "ev") (fun hb H10 e => ?_) (fun hb H10 e => ?_)
    · have h1 : s ^ n = 1 := by simpa using hb
      obtain rfl : n = 0 := pow_one_zero s2 h1
      exact b_ret e (ev_alone f hT7 hr7 rl (by walk_at "ev")) fun H11 _ => kq H11
    have h1 : s ^ n ≠ 1 := by simpa using hb
    have hn0 : 0 < n := by
      rcases Nat.eq_zero_or_pos n with h | h
      · subst h
        exact absurd (Int.pow_zero s) h1
      · exact h
    have hj := tspot_lt s n p hn0
    have hnx := hnx hn0
    generalize hJ : tspot s n p = j at *
    -- the spots that differ
    refine b_asgL e (xs := [V.int (j : Int)]) ?_ fun l H11 nl e11 hl => ?_
    · have h := el_lcR1 (H := H7) (σ := [some (.ref a), some (.int n), some (.int s), some (.int (s ^ n)), some (.ref o), some (.int p), some (.ref r), some (.ref u), none, none, none]) (ta := tCons (tVar 1) tNil) (j := 9) (vs := [9]) (n := (n : Int)) (t := tTest (tOp rNe (tOp (rIxL K) (tVar 6) (tVar 9)) (tOp (rIxL K) (tVar 7) (tVar 9)))) (te := tVar 9)
        (fun k => !decide (R.getD k 0 = (turned s R j).getD k 0)) (fun k => V.int (k : Int)) (by walk_at "ev") ⟨by omega, by omega⟩ (fun _ => rfl) (fun k H1 e1 hk => ?_) (fun k H1 e1 hk _ => ev_var rfl)
      · rw [show ((n : Int)).toNat = n from rfl, spots_one s2 rM rl hj] at h
        exact h
      · have hk1 : k < R.length := by omega
        have hk2 : k < U.length := by omega
        have g1 : R.getD k 0 = R[k] := by simp [hk1]
        have g2 : (turned s R j).getD k 0 = U[k] := by rw [← hnx]; simp [hk2]
        rw [g1, g2]
        exact et_test (ev_op (ev_op (ev_var rfl) (ev_var rfl) (rv_ixL (sq_of (e1 _ _ hr7)) (atI_nat (int_at hk1)))) (ev_op (ev_var rfl) (ev_var rfl) (rv_ixL (sq_of (e1 _ _ hu)) (atI_nat (int_at hk2)))) rv_neI)
    have hT11 := hT7.mono e11
    have hr11 := e11 _ _ hr7
    have hu11 := e11 _ _ hu
    have hS11 := ex_l e11 hS7
    have hlz : ∀ {σ : L2.St} {H' : Hp}, H' l = some (.lst [V.int (j : Int)]) → σ[8]? = some (some (V.ref l)) → Ev (tOp (rIxL K) (tVar 8) (tC (.int 0))) σ H' (.int j) := fun h1 h2 => ev_op (ev_var h2) ev_c (rv_ixL (sq_of h1) (at_of (j := 0) rfl rfl))
    refine b_skip (b := !decide ((1 : Int) = 1) || !decide (turned s R j = U)) (Ex.refl H11) (et_or (et_test (ev_op (ev_len (ev_var rfl) (sq_of hl)) ev_c rv_neI)) fun _ => et_test (ev_opL1 (el_turned hs0 hr11 (by omega) (ea_cons (ev_var rfl) (ea_cons (hlz hl rfl) (ea_cons (ev_var rfl) ea_nil)))) (fun H1 _ => ev_var rfl) fun p' H1 hp' e1 => rv_neL (sq_of hp') (sq_of (e1 _ _ hu11)))) (fun H12 e12 => ?_) (by simp [hnx])
    refine b_asgLL e12 (el_list (ev_var rfl) (sq_of hr11)) (el_list (ev_var rfl) (sq_of hu11)) fun kp ka kb H13 nk e13 hk hka hkb => ?_
    have hT13 := hT11.mono e13
    have hr13 := e13 _ _ hr11
    have hu13 := e13 _ _ hu11
    have hl13 := e13 _ _ hl
    have hS13 := ex_l e13 hS11
    have ech := eu_Tchange (T := T) (E := E0) (ta := tVar 4) (tg := tCons (tVar 6) tNil) (σ := [some (.ref a), some (.int n), some (.int s), some (.int (s ^ n)), some (.ref o), some (.int p), some (.ref r), some (.ref u), some (.ref l), none, some (.ref kp)]) f hT13 (sq_of hr13) rl rM h1 (ev_var rfl) (by walk_at "ev")
    rw [rp, hJ] at ech
    have enx := el_Tnext (T := T) (E := E0) (ta := tVar 4) (tg := tCons (tVar 6) tNil) (σ := [some (.ref a), some (.int n), some (.int s), some (.int (s ^ n)), some (.ref o), some (.int p), some (.ref r), some (.ref u), some (.ref l), none, some (.ref kp)]) f hT13 (sq_of hr13) rl rM (ev_var rfl) (by walk_at "ev")
    rw [rp, hQ, hU] at enx
    have ebf := el_Tbefore (T := T) (E := E0) (ta := tVar 4) (tg := tCons (tVar 7) tNil) (σ := [some (.ref a), some (.int n), some (.int s), some (.int (s ^ n)), some (.ref o), some (.int p), some (.ref r), some (.ref u), some (.ref l), none, some (.ref kp)]) f hT13 (sq_of hu13) ul uM (ev_var rfl) (by walk_at "ev")
    rw [up, hpv, hR] at ebf
    refine b_skip (b := !true || !true) (Ex.refl H13) (et_or (et_not (et_B (ev_is_turnU ech (hlz hl13 rfl)))) fun _ => et_not (et_B (ev_sameL enx hu13 (by omega) rfl))) (fun H14 e14 => ?_)
    refine b_skip (b := !true || (!decide (R = R) || !decide (U = U))) e14 (et_or (et_not (et_B (ev_sameL ebf hr13 (by omega) rfl))) fun _ => et_or (et_test (ev_op (ev_var rfl) (ev_op (ev_var rfl) ev_c (rv_ixL (sq_of hk) (at_of (j := 0) rfl rfl))) (rv_neL (sq_of hr13) (sq_of hka)))) fun _ => et_test (ev_op (ev_var rfl) (ev_op (ev_var rfl) ev_c (rv_ixL (sq_of hk) (at_of (j := 1) rfl rfl))) (rv_neL (sq_of hu13) (sq_of hkb)))) (fun H15 e15 => ?_) (by simp)
    refine b_skip (b := !true) e15 (et_not (et_B (ev_any_turn (j := j) f hT13 hr13 rl rM hj (ea_cons (ev_var rfl) (ea_cons (ev_var rfl) (ea_cons (hlz hl13 rfl) (ea_cons (ev_var rfl) ea_nil))))))) (fun H16 e16 => ?_)
    obtain ⟨c0, c1⟩ := mod_range (cell ns 4) (show (0 : Int) < n by omega)
    obtain ⟨i, hi⟩ : ∃ i : Nat, cell ns 4 % (n : Int) = i := ⟨(cell ns 4 % (n : Int)).toNat, by omega⟩
    refine b_ret e16 (ev_any_turn (j := i) f hT13 hr13 rl rM (by omega) ?_) fun H17 _ => kq H17
    rw [← hi]
    exact ea_cons (ev_var rfl) (ea_cons (ev_var rfl) (ea_cons (ev_op (by walk_at "ev") (ev_var rfl) (rv_I (show (0 : Int) < n by omega))) (ea_cons (ev_var rfl) ea_nil)))
end
/-! ### the end -/
theorem all_mk {l : PySem.W.OpenLaw} {w : World} {K : PySem.W.Frag} {h : Heap} {mg : Str → Option Value} {fa : Addr} (X : K.In h) (G : h.Ns mainGlobals mg) (hfa : mg "law" = some (.ref fa))
    {a_law_length a_law_signs a_law_power a_Listing___init__ a_power a_Turning___init__ a_law_cell_at a_law_fold a_law_place a_Turning_row_at a_law_turned a_law_whole a_law_same a_law_given a_Turning_is_row a_Turning_moved a_Turning_undone a_Turning_done a_law_any_turn a_law_none_done a_Turning_place_of a_Listing_leap t_Listing_leap a_Listing_row_before a_Turning_change a_Listing_next_row a_law_alone a_law_is_row a_law_is_turn a_law c_NoForm c_NoPlace c_NoRow c_NoChange c_Listing c_Turning : Addr} {od_law_length an_law_length od_law_signs an_law_signs od_law_power an_law_power od_Listing___init__ an_Listing___init__ od_power an_power od_Turning___init__ an_Turning___init__ od_law_cell_at an_law_cell_at od_law_fold an_law_fold od_law_place an_law_place od_Turning_row_at an_Turning_row_at od_law_turned an_law_turned od_law_whole an_law_whole od_law_same an_law_same od_law_given an_law_given od_Turning_is_row an_Turning_is_row od_Turning_moved an_Turning_moved od_Turning_undone an_Turning_undone od_Turning_done an_Turning_done od_law_any_turn an_law_any_turn od_law_none_done an_law_none_done od_Turning_place_of an_Turning_place_of od_Listing_leap an_Listing_leap td_Listing_leap od_Listing_row_before an_Listing_row_before od_Turning_change an_Turning_change od_Listing_next_row an_Listing_next_row od_law_alone an_law_alone od_law_is_row an_law_is_row od_law_is_turn an_law_is_turn od_law an_law : Option Addr} {sl_law_length sl_law_signs sl_law_power sl_Listing___init__ sl_power sl_Turning___init__ sl_law_cell_at sl_law_fold sl_law_place sl_Turning_row_at sl_law_turned sl_law_whole sl_law_same sl_law_given sl_Turning_is_row sl_Turning_moved sl_Turning_undone sl_Turning_done sl_law_any_turn sl_law_none_done sl_Turning_place_of sl_Listing_leap ts_Listing_leap sl_Listing_row_before sl_Turning_change sl_Listing_next_row sl_law_alone sl_law_is_row sl_law_is_turn sl_law : Array (Option Value)} {oc_law_length kV_law_length dc_law_length pm_law_length cd_law_length ct_law_length oc_law_signs kV_law_signs dc_law_signs pm_law_signs cd_law_signs ct_law_signs oc_law_power kV_law_power dc_law_power pm_law_power cd_law_power ct_law_power oc_Listing___init__ kV_Listing___init__ dc_Listing___init__ pm_Listing___init__ cd_Listing___init__ ct_Listing___init__ oc_power kV_power dc_power pm_power cd_power ct_power oc_Turning___init__ kV_Turning___init__ dc_Turning___init__ pm_Turning___init__ cd_Turning___init__ ct_Turning___init__ oc_law_cell_at kV_law_cell_at dc_law_cell_at pm_law_cell_at cd_law_cell_at ct_law_cell_at oc_law_fold kV_law_fold dc_law_fold pm_law_fold cd_law_fold ct_law_fold oc_law_place kV_law_place dc_law_place pm_law_place cd_law_place ct_law_place oc_Turning_row_at kV_Turning_row_at dc_Turning_row_at pm_Turning_row_at cd_Turning_row_at ct_Turning_row_at oc_law_turned kV_law_turned dc_law_turned pm_law_turned cd_law_turned ct_law_turned oc_law_whole kV_law_whole dc_law_whole pm_law_whole cd_law_whole ct_law_whole oc_law_same kV_law_same dc_law_same pm_law_same cd_law_same ct_law_same oc_law_given kV_law_given dc_law_given pm_law_given cd_law_given ct_law_given oc_Turning_is_row kV_Turning_is_row dc_Turning_is_row pm_Turning_is_row cd_Turning_is_row ct_Turning_is_row oc_Turning_moved kV_Turning_moved dc_Turning_moved pm_Turning_moved cd_Turning_moved ct_Turning_moved oc_Turning_undone kV_Turning_undone dc_Turning_undone pm_Turning_undone cd_Turning_undone ct_Turning_undone oc_Turning_done kV_Turning_done dc_Turning_done pm_Turning_done cd_Turning_done ct_Turning_done oc_law_any_turn kV_law_any_turn dc_law_any_turn pm_law_any_turn cd_law_any_turn ct_law_any_turn oc_law_none_done kV_law_none_done dc_law_none_done pm_law_none_done cd_law_none_done ct_law_none_done oc_Turning_place_of kV_Turning_place_of dc_Turning_place_of pm_Turning_place_of cd_Turning_place_of ct_Turning_place_of oc_Listing_leap kV_Listing_leap dc_Listing_leap pm_Listing_leap cd_Listing_leap ct_Listing_leap oc_Listing_row_before kV_Listing_row_before dc_Listing_row_before pm_Listing_row_before cd_Listing_row_before ct_Listing_row_before oc_Turning_change kV_Turning_change dc_Turning_change pm_Turning_change cd_Turning_change ct_Turning_change oc_Listing_next_row kV_Listing_next_row dc_Listing_next_row pm_Listing_next_row cd_Listing_next_row ct_Listing_next_row oc_law_alone kV_law_alone dc_law_alone pm_law_alone cd_law_alone ct_law_alone oc_law_is_row kV_law_is_row dc_law_is_row pm_law_is_row cd_law_is_row ct_law_is_row oc_law_is_turn kV_law_is_turn dc_law_is_turn pm_law_is_turn cd_law_is_turn ct_law_is_turn oc_law kV_law dc_law pm_law cd_law ct_law : Value} {t_MOST_SIGNS t_MOST_SPOTS tk_Listing_leap : Tok} {tn_Listing_leap : Nat}
    (h_all : PySem.W.nsIn K mainGlobals "all" = some none)
    (h_bool : PySem.W.nsIn K mainGlobals "bool" = some none)
    (h_divmod : PySem.W.nsIn K mainGlobals "divmod" = some none)
    (h_int : PySem.W.nsIn K mainGlobals "int" = some none)
    (h_isinstance : PySem.W.nsIn K mainGlobals "isinstance" = some none)
    (h_len : PySem.W.nsIn K mainGlobals "len" = some none)
    (h_list : PySem.W.nsIn K mainGlobals "list" = some none)
    (h_range : PySem.W.nsIn K mainGlobals "range" = some none)
    (h_reversed : PySem.W.nsIn K mainGlobals "reversed" = some none)
    (h_str : PySem.W.nsIn K mainGlobals "str" = some none)
    (h_tuple : PySem.W.nsIn K mainGlobals "tuple" = some none)
    (h_MOST_SIGNS : PySem.W.nsIn K mainGlobals "MOST_SIGNS" = some (some (.int 1000000000000 t_MOST_SIGNS)))
    (h_MOST_SPOTS : PySem.W.nsIn K mainGlobals "MOST_SPOTS" = some (some (.int 200 t_MOST_SPOTS)))
    (n_law_length : PySem.W.nsIn K mainGlobals "_law_length" = some (some (.ref a_law_length)))
    (n_law_signs : PySem.W.nsIn K mainGlobals "_law_signs" = some (some (.ref a_law_signs)))
    (n_law_power : PySem.W.nsIn K mainGlobals "_law_power" = some (some (.ref a_law_power)))
    (n_power : PySem.W.nsIn K mainGlobals "power" = some (some (.ref a_power)))
    (n_law_cell_at : PySem.W.nsIn K mainGlobals "_law_cell_at" = some (some (.ref a_law_cell_at)))
    (n_law_fold : PySem.W.nsIn K mainGlobals "_law_fold" = some (some (.ref a_law_fold)))
    (n_law_place : PySem.W.nsIn K mainGlobals "_law_place" = some (some (.ref a_law_place)))
    (n_law_turned : PySem.W.nsIn K mainGlobals "_law_turned" = some (some (.ref a_law_turned)))
    (n_law_whole : PySem.W.nsIn K mainGlobals "_law_whole" = some (some (.ref a_law_whole)))
    (n_law_same : PySem.W.nsIn K mainGlobals "_law_same" = some (some (.ref a_law_same)))
    (n_law_given : PySem.W.nsIn K mainGlobals "_law_given" = some (some (.ref a_law_given)))
    (n_law_any_turn : PySem.W.nsIn K mainGlobals "_law_any_turn" = some (some (.ref a_law_any_turn)))
    (n_law_none_done : PySem.W.nsIn K mainGlobals "_law_none_done" = some (some (.ref a_law_none_done)))
    (n_law_alone : PySem.W.nsIn K mainGlobals "_law_alone" = some (some (.ref a_law_alone)))
    (n_law_is_row : PySem.W.nsIn K mainGlobals "_law_is_row" = some (some (.ref a_law_is_row)))
    (n_law_is_turn : PySem.W.nsIn K mainGlobals "_law_is_turn" = some (some (.ref a_law_is_turn)))
    (n_law : PySem.W.nsIn K mainGlobals "law" = some (some (.ref a_law)))
    (n_NoForm : PySem.W.nsIn K mainGlobals "NoForm" = some (some (.ref c_NoForm)))
    (n_NoPlace : PySem.W.nsIn K mainGlobals "NoPlace" = some (some (.ref c_NoPlace)))
    (n_NoRow : PySem.W.nsIn K mainGlobals "NoRow" = some (some (.ref c_NoRow)))
    (n_NoChange : PySem.W.nsIn K mainGlobals "NoChange" = some (some (.ref c_NoChange)))
    (n_Listing : PySem.W.nsIn K mainGlobals "Listing" = some (some (.ref c_Listing)))
    (n_Turning : PySem.W.nsIn K mainGlobals "Turning" = some (some (.ref c_Turning)))
    (rd_Listing : PySem.W.readsIn K c_Listing (.type "type") = true)
    (fi_Turning : PySem.W.findIn K (.ref c_Turning) "__init__" = some (some (.ref a_Turning___init__)))
    (fi_Turning_change : PySem.W.findIn K (.ref c_Turning) "change" = some (some (.ref a_Turning_change)))
    (fi_Turning_done : PySem.W.findIn K (.ref c_Turning) "done" = some (some (.ref a_Turning_done)))
    (fi_Turning_is_row : PySem.W.findIn K (.ref c_Turning) "is_row" = some (some (.ref a_Turning_is_row)))
    (fi_Turning_leap : PySem.W.findIn K (.ref c_Turning) "leap" = some (some (.ref a_Listing_leap)))
    (fi_Turning_moved : PySem.W.findIn K (.ref c_Turning) "moved" = some (some (.ref a_Turning_moved)))
    (fi_Turning_next_row : PySem.W.findIn K (.ref c_Turning) "next_row" = some (some (.ref a_Listing_next_row)))
    (fi_Turning_place_of : PySem.W.findIn K (.ref c_Turning) "place_of" = some (some (.ref a_Turning_place_of)))
    (fi_Turning_row_at : PySem.W.findIn K (.ref c_Turning) "row_at" = some (some (.ref a_Turning_row_at)))
    (fi_Turning_row_before : PySem.W.findIn K (.ref c_Turning) "row_before" = some (some (.ref a_Listing_row_before)))
    (fi_Turning_undone : PySem.W.findIn K (.ref c_Turning) "undone" = some (some (.ref a_Turning_undone)))
    (at_Listing___init__ : PySem.W.findCls K (.ref c_Listing) (.type "type") "__init__" = some (.val (.ref a_Listing___init__)))
    (l_law_length : K.lookup a_law_length = some ⟨oc_law_length, od_law_length, .func (PySem.W.fnOf "_law_length" "_law_length" (defArgs s_law_length) (defBody s_law_length) (defScope s_law_length) .none kV_law_length dc_law_length pm_law_length an_law_length cd_law_length ct_law_length), sl_law_length⟩)
    (cc_law_length : PySem.W.codeIn K cd_law_length "_law_length" = true)
    (k_law_length : PySem.W.keepIn K (.ref a_law_length) = true)
    (l_law_signs : K.lookup a_law_signs = some ⟨oc_law_signs, od_law_signs, .func (PySem.W.fnOf "_law_signs" "_law_signs" (defArgs s_law_signs) (defBody s_law_signs) (defScope s_law_signs) .none kV_law_signs dc_law_signs pm_law_signs an_law_signs cd_law_signs ct_law_signs), sl_law_signs⟩)
    (cc_law_signs : PySem.W.codeIn K cd_law_signs "_law_signs" = true)
    (k_law_signs : PySem.W.keepIn K (.ref a_law_signs) = true)
    (l_law_power : K.lookup a_law_power = some ⟨oc_law_power, od_law_power, .func (PySem.W.fnOf "_law_power" "_law_power" (defArgs s_law_power) (defBody s_law_power) (defScope s_law_power) .none kV_law_power dc_law_power pm_law_power an_law_power cd_law_power ct_law_power), sl_law_power⟩)
    (cc_law_power : PySem.W.codeIn K cd_law_power "_law_power" = true)
    (k_law_power : PySem.W.keepIn K (.ref a_law_power) = true)
    (l_Listing___init__ : K.lookup a_Listing___init__ = some ⟨oc_Listing___init__, od_Listing___init__, .func (PySem.W.fnOf "__init__" "Listing.__init__" (defArgs s_Listing___init__) (defBody s_Listing___init__) (defScope s_Listing___init__) .none kV_Listing___init__ dc_Listing___init__ pm_Listing___init__ an_Listing___init__ cd_Listing___init__ ct_Listing___init__), sl_Listing___init__⟩)
    (cc_Listing___init__ : PySem.W.codeIn K cd_Listing___init__ "Listing.__init__" = true)
    (k_Listing___init__ : PySem.W.keepIn K (.ref a_Listing___init__) = true)
    (l_power : K.lookup a_power = some ⟨oc_power, od_power, .func (PySem.W.fnOf "power" "power" (defArgs s_power) (defBody s_power) (defScope s_power) .none kV_power dc_power pm_power an_power cd_power ct_power), sl_power⟩)
    (cc_power : PySem.W.codeIn K cd_power "power" = true)
    (k_power : PySem.W.keepIn K (.ref a_power) = true)
    (l_Turning___init__ : K.lookup a_Turning___init__ = some ⟨oc_Turning___init__, od_Turning___init__, .func (PySem.W.fnOf "__init__" "Turning.__init__" (defArgs s_Turning___init__) (defBody s_Turning___init__) (defScope s_Turning___init__) .none kV_Turning___init__ dc_Turning___init__ pm_Turning___init__ an_Turning___init__ cd_Turning___init__ ct_Turning___init__), sl_Turning___init__⟩)
    (cc_Turning___init__ : PySem.W.codeIn K cd_Turning___init__ "Turning.__init__" = true)
    (k_Turning___init__ : PySem.W.keepIn K (.ref a_Turning___init__) = true)
    (l_law_cell_at : K.lookup a_law_cell_at = some ⟨oc_law_cell_at, od_law_cell_at, .func (PySem.W.fnOf "_law_cell_at" "_law_cell_at" (defArgs s_law_cell_at) (defBody s_law_cell_at) (defScope s_law_cell_at) .none kV_law_cell_at dc_law_cell_at pm_law_cell_at an_law_cell_at cd_law_cell_at ct_law_cell_at), sl_law_cell_at⟩)
    (cc_law_cell_at : PySem.W.codeIn K cd_law_cell_at "_law_cell_at" = true)
    (k_law_cell_at : PySem.W.keepIn K (.ref a_law_cell_at) = true)
    (l_law_fold : K.lookup a_law_fold = some ⟨oc_law_fold, od_law_fold, .func (PySem.W.fnOf "_law_fold" "_law_fold" (defArgs s_law_fold) (defBody s_law_fold) (defScope s_law_fold) .none kV_law_fold dc_law_fold pm_law_fold an_law_fold cd_law_fold ct_law_fold), sl_law_fold⟩)
    (cc_law_fold : PySem.W.codeIn K cd_law_fold "_law_fold" = true)
    (k_law_fold : PySem.W.keepIn K (.ref a_law_fold) = true)
    (l_law_place : K.lookup a_law_place = some ⟨oc_law_place, od_law_place, .func (PySem.W.fnOf "_law_place" "_law_place" (defArgs s_law_place) (defBody s_law_place) (defScope s_law_place) .none kV_law_place dc_law_place pm_law_place an_law_place cd_law_place ct_law_place), sl_law_place⟩)
    (cc_law_place : PySem.W.codeIn K cd_law_place "_law_place" = true)
    (k_law_place : PySem.W.keepIn K (.ref a_law_place) = true)
    (l_Turning_row_at : K.lookup a_Turning_row_at = some ⟨oc_Turning_row_at, od_Turning_row_at, .func (PySem.W.fnOf "row_at" "Turning.row_at" (defArgs s_Turning_row_at) (defBody s_Turning_row_at) (defScope s_Turning_row_at) .none kV_Turning_row_at dc_Turning_row_at pm_Turning_row_at an_Turning_row_at cd_Turning_row_at ct_Turning_row_at), sl_Turning_row_at⟩)
    (cc_Turning_row_at : PySem.W.codeIn K cd_Turning_row_at "Turning.row_at" = true)
    (k_Turning_row_at : PySem.W.keepIn K (.ref a_Turning_row_at) = true)
    (l_law_turned : K.lookup a_law_turned = some ⟨oc_law_turned, od_law_turned, .func (PySem.W.fnOf "_law_turned" "_law_turned" (defArgs s_law_turned) (defBody s_law_turned) (defScope s_law_turned) .none kV_law_turned dc_law_turned pm_law_turned an_law_turned cd_law_turned ct_law_turned), sl_law_turned⟩)
    (cc_law_turned : PySem.W.codeIn K cd_law_turned "_law_turned" = true)
    (k_law_turned : PySem.W.keepIn K (.ref a_law_turned) = true)
    (l_law_whole : K.lookup a_law_whole = some ⟨oc_law_whole, od_law_whole, .func (PySem.W.fnOf "_law_whole" "_law_whole" (defArgs s_law_whole) (defBody s_law_whole) (defScope s_law_whole) .none kV_law_whole dc_law_whole pm_law_whole an_law_whole cd_law_whole ct_law_whole), sl_law_whole⟩)
    (cc_law_whole : PySem.W.codeIn K cd_law_whole "_law_whole" = true)
    (k_law_whole : PySem.W.keepIn K (.ref a_law_whole) = true)
    (l_law_same : K.lookup a_law_same = some ⟨oc_law_same, od_law_same, .func (PySem.W.fnOf "_law_same" "_law_same" (defArgs s_law_same) (defBody s_law_same) (defScope s_law_same) .none kV_law_same dc_law_same pm_law_same an_law_same cd_law_same ct_law_same), sl_law_same⟩)
    (cc_law_same : PySem.W.codeIn K cd_law_same "_law_same" = true)
    (k_law_same : PySem.W.keepIn K (.ref a_law_same) = true)
    (l_law_given : K.lookup a_law_given = some ⟨oc_law_given, od_law_given, .func (PySem.W.fnOf "_law_given" "_law_given" (defArgs s_law_given) (defBody s_law_given) (defScope s_law_given) .none kV_law_given dc_law_given pm_law_given an_law_given cd_law_given ct_law_given), sl_law_given⟩)
    (cc_law_given : PySem.W.codeIn K cd_law_given "_law_given" = true)
    (k_law_given : PySem.W.keepIn K (.ref a_law_given) = true)
    (l_Turning_is_row : K.lookup a_Turning_is_row = some ⟨oc_Turning_is_row, od_Turning_is_row, .func (PySem.W.fnOf "is_row" "Turning.is_row" (defArgs s_Turning_is_row) (defBody s_Turning_is_row) (defScope s_Turning_is_row) .none kV_Turning_is_row dc_Turning_is_row pm_Turning_is_row an_Turning_is_row cd_Turning_is_row ct_Turning_is_row), sl_Turning_is_row⟩)
    (cc_Turning_is_row : PySem.W.codeIn K cd_Turning_is_row "Turning.is_row" = true)
    (k_Turning_is_row : PySem.W.keepIn K (.ref a_Turning_is_row) = true)
    (l_Turning_moved : K.lookup a_Turning_moved = some ⟨oc_Turning_moved, od_Turning_moved, .func (PySem.W.fnOf "moved" "Turning.moved" (defArgs s_Turning_moved) (defBody s_Turning_moved) (defScope s_Turning_moved) .none kV_Turning_moved dc_Turning_moved pm_Turning_moved an_Turning_moved cd_Turning_moved ct_Turning_moved), sl_Turning_moved⟩)
    (cc_Turning_moved : PySem.W.codeIn K cd_Turning_moved "Turning.moved" = true)
    (k_Turning_moved : PySem.W.keepIn K (.ref a_Turning_moved) = true)
    (l_Turning_undone : K.lookup a_Turning_undone = some ⟨oc_Turning_undone, od_Turning_undone, .func (PySem.W.fnOf "undone" "Turning.undone" (defArgs s_Turning_undone) (defBody s_Turning_undone) (defScope s_Turning_undone) .none kV_Turning_undone dc_Turning_undone pm_Turning_undone an_Turning_undone cd_Turning_undone ct_Turning_undone), sl_Turning_undone⟩)
    (cc_Turning_undone : PySem.W.codeIn K cd_Turning_undone "Turning.undone" = true)
    (k_Turning_undone : PySem.W.keepIn K (.ref a_Turning_undone) = true)
    (l_Turning_done : K.lookup a_Turning_done = some ⟨oc_Turning_done, od_Turning_done, .func (PySem.W.fnOf "done" "Turning.done" (defArgs s_Turning_done) (defBody s_Turning_done) (defScope s_Turning_done) .none kV_Turning_done dc_Turning_done pm_Turning_done an_Turning_done cd_Turning_done ct_Turning_done), sl_Turning_done⟩)
    (cc_Turning_done : PySem.W.codeIn K cd_Turning_done "Turning.done" = true)
    (k_Turning_done : PySem.W.keepIn K (.ref a_Turning_done) = true)
    (l_law_any_turn : K.lookup a_law_any_turn = some ⟨oc_law_any_turn, od_law_any_turn, .func (PySem.W.fnOf "_law_any_turn" "_law_any_turn" (defArgs s_law_any_turn) (defBody s_law_any_turn) (defScope s_law_any_turn) .none kV_law_any_turn dc_law_any_turn pm_law_any_turn an_law_any_turn cd_law_any_turn ct_law_any_turn), sl_law_any_turn⟩)
    (cc_law_any_turn : PySem.W.codeIn K cd_law_any_turn "_law_any_turn" = true)
    (k_law_any_turn : PySem.W.keepIn K (.ref a_law_any_turn) = true)
    (l_law_none_done : K.lookup a_law_none_done = some ⟨oc_law_none_done, od_law_none_done, .func (PySem.W.fnOf "_law_none_done" "_law_none_done" (defArgs s_law_none_done) (defBody s_law_none_done) (defScope s_law_none_done) .none kV_law_none_done dc_law_none_done pm_law_none_done an_law_none_done cd_law_none_done ct_law_none_done), sl_law_none_done⟩)
    (cc_law_none_done : PySem.W.codeIn K cd_law_none_done "_law_none_done" = true)
    (k_law_none_done : PySem.W.keepIn K (.ref a_law_none_done) = true)
    (l_Turning_place_of : K.lookup a_Turning_place_of = some ⟨oc_Turning_place_of, od_Turning_place_of, .func (PySem.W.fnOf "place_of" "Turning.place_of" (defArgs s_Turning_place_of) (defBody s_Turning_place_of) (defScope s_Turning_place_of) .none kV_Turning_place_of dc_Turning_place_of pm_Turning_place_of an_Turning_place_of cd_Turning_place_of ct_Turning_place_of), sl_Turning_place_of⟩)
    (cc_Turning_place_of : PySem.W.codeIn K cd_Turning_place_of "Turning.place_of" = true)
    (k_Turning_place_of : PySem.W.keepIn K (.ref a_Turning_place_of) = true)
    (l_Listing_leap : K.lookup a_Listing_leap = some ⟨oc_Listing_leap, od_Listing_leap, .func (PySem.W.fnOf "leap" "Listing.leap" (defArgs s_Listing_leap) (defBody s_Listing_leap) (defScope s_Listing_leap) (.ref t_Listing_leap) kV_Listing_leap dc_Listing_leap pm_Listing_leap an_Listing_leap cd_Listing_leap ct_Listing_leap), sl_Listing_leap⟩)
    (cc_Listing_leap : PySem.W.codeIn K cd_Listing_leap "Listing.leap" = true)
    (k_Listing_leap : PySem.W.keepIn K (.ref a_Listing_leap) = true)
    (lt_Listing_leap : K.lookup t_Listing_leap = some ⟨.type "tuple", td_Listing_leap, .seq #[.int 1 tk_Listing_leap] tn_Listing_leap, ts_Listing_leap⟩)
    (l_Listing_row_before : K.lookup a_Listing_row_before = some ⟨oc_Listing_row_before, od_Listing_row_before, .func (PySem.W.fnOf "row_before" "Listing.row_before" (defArgs s_Listing_row_before) (defBody s_Listing_row_before) (defScope s_Listing_row_before) .none kV_Listing_row_before dc_Listing_row_before pm_Listing_row_before an_Listing_row_before cd_Listing_row_before ct_Listing_row_before), sl_Listing_row_before⟩)
    (cc_Listing_row_before : PySem.W.codeIn K cd_Listing_row_before "Listing.row_before" = true)
    (k_Listing_row_before : PySem.W.keepIn K (.ref a_Listing_row_before) = true)
    (l_Turning_change : K.lookup a_Turning_change = some ⟨oc_Turning_change, od_Turning_change, .func (PySem.W.fnOf "change" "Turning.change" (defArgs s_Turning_change) (defBody s_Turning_change) (defScope s_Turning_change) .none kV_Turning_change dc_Turning_change pm_Turning_change an_Turning_change cd_Turning_change ct_Turning_change), sl_Turning_change⟩)
    (cc_Turning_change : PySem.W.codeIn K cd_Turning_change "Turning.change" = true)
    (k_Turning_change : PySem.W.keepIn K (.ref a_Turning_change) = true)
    (l_Listing_next_row : K.lookup a_Listing_next_row = some ⟨oc_Listing_next_row, od_Listing_next_row, .func (PySem.W.fnOf "next_row" "Listing.next_row" (defArgs s_Listing_next_row) (defBody s_Listing_next_row) (defScope s_Listing_next_row) .none kV_Listing_next_row dc_Listing_next_row pm_Listing_next_row an_Listing_next_row cd_Listing_next_row ct_Listing_next_row), sl_Listing_next_row⟩)
    (cc_Listing_next_row : PySem.W.codeIn K cd_Listing_next_row "Listing.next_row" = true)
    (k_Listing_next_row : PySem.W.keepIn K (.ref a_Listing_next_row) = true)
    (l_law_alone : K.lookup a_law_alone = some ⟨oc_law_alone, od_law_alone, .func (PySem.W.fnOf "_law_alone" "_law_alone" (defArgs s_law_alone) (defBody s_law_alone) (defScope s_law_alone) .none kV_law_alone dc_law_alone pm_law_alone an_law_alone cd_law_alone ct_law_alone), sl_law_alone⟩)
    (cc_law_alone : PySem.W.codeIn K cd_law_alone "_law_alone" = true)
    (k_law_alone : PySem.W.keepIn K (.ref a_law_alone) = true)
    (l_law_is_row : K.lookup a_law_is_row = some ⟨oc_law_is_row, od_law_is_row, .func (PySem.W.fnOf "_law_is_row" "_law_is_row" (defArgs s_law_is_row) (defBody s_law_is_row) (defScope s_law_is_row) .none kV_law_is_row dc_law_is_row pm_law_is_row an_law_is_row cd_law_is_row ct_law_is_row), sl_law_is_row⟩)
    (cc_law_is_row : PySem.W.codeIn K cd_law_is_row "_law_is_row" = true)
    (k_law_is_row : PySem.W.keepIn K (.ref a_law_is_row) = true)
    (l_law_is_turn : K.lookup a_law_is_turn = some ⟨oc_law_is_turn, od_law_is_turn, .func (PySem.W.fnOf "_law_is_turn" "_law_is_turn" (defArgs s_law_is_turn) (defBody s_law_is_turn) (defScope s_law_is_turn) .none kV_law_is_turn dc_law_is_turn pm_law_is_turn an_law_is_turn cd_law_is_turn ct_law_is_turn), sl_law_is_turn⟩)
    (cc_law_is_turn : PySem.W.codeIn K cd_law_is_turn "_law_is_turn" = true)
    (k_law_is_turn : PySem.W.keepIn K (.ref a_law_is_turn) = true)
    (l_law : K.lookup a_law = some ⟨oc_law, od_law, .func (PySem.W.fnOf "law" "law" (defArgs s_law) (defBody s_law) (defScope s_law) .none kV_law dc_law pm_law an_law cd_law ct_law), sl_law⟩)
    (cc_law : PySem.W.codeIn K cd_law "law" = true)
    (k_law : PySem.W.keepIn K (.ref a_law) = true)
    (x_NoForm : PySem.W.excIn K c_NoForm [.type "ValueError", .type "Exception", .type "BaseException", .type "object"] "ValueError.__new__" = true)
    (k_NoForm : PySem.W.keepIn K (.ref c_NoForm) = true)
    (bE_NoForm : PySem.W.subIn K (.ref c_NoForm) (.type "BaseException") = some true)
    (tE_NoForm : PySem.W.typeIn K (.ref c_NoForm) = some (.type "type"))
    (x_NoPlace : PySem.W.excIn K c_NoPlace [.type "ValueError", .type "Exception", .type "BaseException", .type "object"] "ValueError.__new__" = true)
    (k_NoPlace : PySem.W.keepIn K (.ref c_NoPlace) = true)
    (bE_NoPlace : PySem.W.subIn K (.ref c_NoPlace) (.type "BaseException") = some true)
    (tE_NoPlace : PySem.W.typeIn K (.ref c_NoPlace) = some (.type "type"))
    (x_NoRow : PySem.W.excIn K c_NoRow [.type "ValueError", .type "Exception", .type "BaseException", .type "object"] "ValueError.__new__" = true)
    (k_NoRow : PySem.W.keepIn K (.ref c_NoRow) = true)
    (bE_NoRow : PySem.W.subIn K (.ref c_NoRow) (.type "BaseException") = some true)
    (tE_NoRow : PySem.W.typeIn K (.ref c_NoRow) = some (.type "type"))
    (x_NoChange : PySem.W.excIn K c_NoChange [.type "ValueError", .type "Exception", .type "BaseException", .type "object"] "ValueError.__new__" = true)
    (k_NoChange : PySem.W.keepIn K (.ref c_NoChange) = true)
    (bE_NoChange : PySem.W.subIn K (.ref c_NoChange) (.type "BaseException") = some true)
    (tE_NoChange : PySem.W.typeIn K (.ref c_NoChange) = some (.type "type"))
    (ga_Listing : PySem.W.specialIn K (.ref c_Listing) "__getattribute__" = some (some (.builtin "type.__getattribute__")))
    (pg_Turning : PySem.W.plainGet K c_Turning Str.empty = true)
    (hd_Turning : PySem.W.hasDictIn K c_Turning = true)
    (po_Turning : PySem.W.plainOver K c_Turning = true)
    (sa_Turning : PySem.W.findIn K (.ref c_Turning) "__setattr__" = some (some (.builtin "object.__setattr__")))
    (mm_Turning : PySem.W.makesIn K c_Turning = true)
    (kp_Turning : PySem.W.keepIn K (.ref c_Turning) = true)
    (if_Turning___init__ : PySem.W.isFn K (.ref a_Turning___init__) = true)
    (no_Turning_length : PySem.W.findIn K (.ref c_Turning) "length" = some none)
    (no_Turning_size : PySem.W.findIn K (.ref c_Turning) "size" = some none)
    (no_Turning_signs : PySem.W.findIn K (.ref c_Turning) "signs" = some none)
    (if_Turning_change : PySem.W.isFn K (.ref a_Turning_change) = true)
    (if_Turning_done : PySem.W.isFn K (.ref a_Turning_done) = true)
    (if_Turning_is_row : PySem.W.isFn K (.ref a_Turning_is_row) = true)
    (if_Listing_leap : PySem.W.isFn K (.ref a_Listing_leap) = true)
    (if_Turning_moved : PySem.W.isFn K (.ref a_Turning_moved) = true)
    (if_Listing_next_row : PySem.W.isFn K (.ref a_Listing_next_row) = true)
    (if_Turning_place_of : PySem.W.isFn K (.ref a_Turning_place_of) = true)
    (if_Turning_row_at : PySem.W.isFn K (.ref a_Turning_row_at) = true)
    (if_Listing_row_before : PySem.W.isFn K (.ref a_Listing_row_before) = true)
    (if_Turning_undone : PySem.W.isFn K (.ref a_Turning_undone) = true)
    : ∃ fd : FuncData, (∀ (s : Shared) (v : Value), BindsTo s fd ⟨[v], []⟩ [("_law_script", v)]) ∧ ∀ base : Heap, K.In base → base.Ns mainGlobals mg → FnOk l.prog w K mg base CX0 6 fa fd P_law (spLawK K) := by
  have e := hfa.symm.trans (PySem.W.mg_of X G n_law)
  cases e
  refine ⟨PySem.W.fnOf "law" "law" (defArgs s_law) (defBody s_law) (defScope s_law) .none kV_law dc_law pm_law an_law cd_law ct_law, fun s v => .of_eq rfl, fun base _ _ => ?_⟩
  have FD_Listing_leap : FunD K "leap" "Listing.leap" (defArgs s_Listing_leap) (defBody s_Listing_leap) (defScope s_Listing_leap) [.int 1] [] a_Listing_leap (PySem.W.fnOf "leap" "Listing.leap" (defArgs s_Listing_leap) (defBody s_Listing_leap) (defScope s_Listing_leap) (.ref t_Listing_leap) kV_Listing_leap dc_Listing_leap pm_Listing_leap an_Listing_leap cd_Listing_leap ct_Listing_leap) :=
    ⟨⟨_, _, _, _, _, _, _, _, _, _, rfl, l_Listing_leap, cc_Listing_leap, .inr ⟨by simp, t_Listing_leap, _, [.int 1 tk_Listing_leap], _, rfl, lt_Listing_leap, rfl, .cons ⟨_, rfl⟩ .nil⟩, .inl rfl⟩, k_Listing_leap⟩
  obtain ⟨e_Listing_leap, ve_Listing_leap, be_Listing_leap⟩ := FD_Listing_leap.binds1 (ps := P_Listing_leap) 2 0 (by simp) rfl fun _ _ _ _ _ _ _ us its hu hi => match us, its, hu, hi with | [_, _], [_], _, _ => ⟨_, rfl, rfl⟩
  obtain ⟨en_Listing_leap, vn_Listing_leap, bn_Listing_leap⟩ := FD_Listing_leap.binds1 (ps := P_Listing_leap) 3 1 (by simp) rfl fun _ _ _ _ _ _ _ us its hu hi => match us, its, hu, hi with | [_, _, _], [_], _, _ => ⟨_, rfl, rfl⟩
  cases vn_Listing_leap
  exact ok_law (T := {
    a_law_length := a_law_length
    d_law_length := PySem.W.fnOf "_law_length" "_law_length" (defArgs s_law_length) (defBody s_law_length) (defScope s_law_length) .none kV_law_length dc_law_length pm_law_length an_law_length cd_law_length ct_law_length
    a_law_signs := a_law_signs
    d_law_signs := PySem.W.fnOf "_law_signs" "_law_signs" (defArgs s_law_signs) (defBody s_law_signs) (defScope s_law_signs) .none kV_law_signs dc_law_signs pm_law_signs an_law_signs cd_law_signs ct_law_signs
    a_law_power := a_law_power
    d_law_power := PySem.W.fnOf "_law_power" "_law_power" (defArgs s_law_power) (defBody s_law_power) (defScope s_law_power) .none kV_law_power dc_law_power pm_law_power an_law_power cd_law_power ct_law_power
    a_Listing___init__ := a_Listing___init__
    d_Listing___init__ := PySem.W.fnOf "__init__" "Listing.__init__" (defArgs s_Listing___init__) (defBody s_Listing___init__) (defScope s_Listing___init__) .none kV_Listing___init__ dc_Listing___init__ pm_Listing___init__ an_Listing___init__ cd_Listing___init__ ct_Listing___init__
    a_power := a_power
    d_power := PySem.W.fnOf "power" "power" (defArgs s_power) (defBody s_power) (defScope s_power) .none kV_power dc_power pm_power an_power cd_power ct_power
    a_Turning___init__ := a_Turning___init__
    d_Turning___init__ := PySem.W.fnOf "__init__" "Turning.__init__" (defArgs s_Turning___init__) (defBody s_Turning___init__) (defScope s_Turning___init__) .none kV_Turning___init__ dc_Turning___init__ pm_Turning___init__ an_Turning___init__ cd_Turning___init__ ct_Turning___init__
    a_law_cell_at := a_law_cell_at
    d_law_cell_at := PySem.W.fnOf "_law_cell_at" "_law_cell_at" (defArgs s_law_cell_at) (defBody s_law_cell_at) (defScope s_law_cell_at) .none kV_law_cell_at dc_law_cell_at pm_law_cell_at an_law_cell_at cd_law_cell_at ct_law_cell_at
    a_law_fold := a_law_fold
    d_law_fold := PySem.W.fnOf "_law_fold" "_law_fold" (defArgs s_law_fold) (defBody s_law_fold) (defScope s_law_fold) .none kV_law_fold dc_law_fold pm_law_fold an_law_fold cd_law_fold ct_law_fold
    a_law_place := a_law_place
    d_law_place := PySem.W.fnOf "_law_place" "_law_place" (defArgs s_law_place) (defBody s_law_place) (defScope s_law_place) .none kV_law_place dc_law_place pm_law_place an_law_place cd_law_place ct_law_place
    a_Turning_row_at := a_Turning_row_at
    d_Turning_row_at := PySem.W.fnOf "row_at" "Turning.row_at" (defArgs s_Turning_row_at) (defBody s_Turning_row_at) (defScope s_Turning_row_at) .none kV_Turning_row_at dc_Turning_row_at pm_Turning_row_at an_Turning_row_at cd_Turning_row_at ct_Turning_row_at
    a_law_turned := a_law_turned
    d_law_turned := PySem.W.fnOf "_law_turned" "_law_turned" (defArgs s_law_turned) (defBody s_law_turned) (defScope s_law_turned) .none kV_law_turned dc_law_turned pm_law_turned an_law_turned cd_law_turned ct_law_turned
    a_law_whole := a_law_whole
    d_law_whole := PySem.W.fnOf "_law_whole" "_law_whole" (defArgs s_law_whole) (defBody s_law_whole) (defScope s_law_whole) .none kV_law_whole dc_law_whole pm_law_whole an_law_whole cd_law_whole ct_law_whole
    a_law_same := a_law_same
    d_law_same := PySem.W.fnOf "_law_same" "_law_same" (defArgs s_law_same) (defBody s_law_same) (defScope s_law_same) .none kV_law_same dc_law_same pm_law_same an_law_same cd_law_same ct_law_same
    a_law_given := a_law_given
    d_law_given := PySem.W.fnOf "_law_given" "_law_given" (defArgs s_law_given) (defBody s_law_given) (defScope s_law_given) .none kV_law_given dc_law_given pm_law_given an_law_given cd_law_given ct_law_given
    a_Turning_is_row := a_Turning_is_row
    d_Turning_is_row := PySem.W.fnOf "is_row" "Turning.is_row" (defArgs s_Turning_is_row) (defBody s_Turning_is_row) (defScope s_Turning_is_row) .none kV_Turning_is_row dc_Turning_is_row pm_Turning_is_row an_Turning_is_row cd_Turning_is_row ct_Turning_is_row
    a_Turning_moved := a_Turning_moved
    d_Turning_moved := PySem.W.fnOf "moved" "Turning.moved" (defArgs s_Turning_moved) (defBody s_Turning_moved) (defScope s_Turning_moved) .none kV_Turning_moved dc_Turning_moved pm_Turning_moved an_Turning_moved cd_Turning_moved ct_Turning_moved
    a_Turning_undone := a_Turning_undone
    d_Turning_undone := PySem.W.fnOf "undone" "Turning.undone" (defArgs s_Turning_undone) (defBody s_Turning_undone) (defScope s_Turning_undone) .none kV_Turning_undone dc_Turning_undone pm_Turning_undone an_Turning_undone cd_Turning_undone ct_Turning_undone
    a_Turning_done := a_Turning_done
    d_Turning_done := PySem.W.fnOf "done" "Turning.done" (defArgs s_Turning_done) (defBody s_Turning_done) (defScope s_Turning_done) .none kV_Turning_done dc_Turning_done pm_Turning_done an_Turning_done cd_Turning_done ct_Turning_done
    a_law_any_turn := a_law_any_turn
    d_law_any_turn := PySem.W.fnOf "_law_any_turn" "_law_any_turn" (defArgs s_law_any_turn) (defBody s_law_any_turn) (defScope s_law_any_turn) .none kV_law_any_turn dc_law_any_turn pm_law_any_turn an_law_any_turn cd_law_any_turn ct_law_any_turn
    a_law_none_done := a_law_none_done
    d_law_none_done := PySem.W.fnOf "_law_none_done" "_law_none_done" (defArgs s_law_none_done) (defBody s_law_none_done) (defScope s_law_none_done) .none kV_law_none_done dc_law_none_done pm_law_none_done an_law_none_done cd_law_none_done ct_law_none_done
    a_Turning_place_of := a_Turning_place_of
    d_Turning_place_of := PySem.W.fnOf "place_of" "Turning.place_of" (defArgs s_Turning_place_of) (defBody s_Turning_place_of) (defScope s_Turning_place_of) .none kV_Turning_place_of dc_Turning_place_of pm_Turning_place_of an_Turning_place_of cd_Turning_place_of ct_Turning_place_of
    a_Listing_leap := a_Listing_leap
    d_Listing_leap := PySem.W.fnOf "leap" "Listing.leap" (defArgs s_Listing_leap) (defBody s_Listing_leap) (defScope s_Listing_leap) (.ref t_Listing_leap) kV_Listing_leap dc_Listing_leap pm_Listing_leap an_Listing_leap cd_Listing_leap ct_Listing_leap
    t_Listing_leap := t_Listing_leap
    e_Listing_leap := e_Listing_leap
    a_Listing_row_before := a_Listing_row_before
    d_Listing_row_before := PySem.W.fnOf "row_before" "Listing.row_before" (defArgs s_Listing_row_before) (defBody s_Listing_row_before) (defScope s_Listing_row_before) .none kV_Listing_row_before dc_Listing_row_before pm_Listing_row_before an_Listing_row_before cd_Listing_row_before ct_Listing_row_before
    a_Turning_change := a_Turning_change
    d_Turning_change := PySem.W.fnOf "change" "Turning.change" (defArgs s_Turning_change) (defBody s_Turning_change) (defScope s_Turning_change) .none kV_Turning_change dc_Turning_change pm_Turning_change an_Turning_change cd_Turning_change ct_Turning_change
    a_Listing_next_row := a_Listing_next_row
    d_Listing_next_row := PySem.W.fnOf "next_row" "Listing.next_row" (defArgs s_Listing_next_row) (defBody s_Listing_next_row) (defScope s_Listing_next_row) .none kV_Listing_next_row dc_Listing_next_row pm_Listing_next_row an_Listing_next_row cd_Listing_next_row ct_Listing_next_row
    a_law_alone := a_law_alone
    d_law_alone := PySem.W.fnOf "_law_alone" "_law_alone" (defArgs s_law_alone) (defBody s_law_alone) (defScope s_law_alone) .none kV_law_alone dc_law_alone pm_law_alone an_law_alone cd_law_alone ct_law_alone
    a_law_is_row := a_law_is_row
    d_law_is_row := PySem.W.fnOf "_law_is_row" "_law_is_row" (defArgs s_law_is_row) (defBody s_law_is_row) (defScope s_law_is_row) .none kV_law_is_row dc_law_is_row pm_law_is_row an_law_is_row cd_law_is_row ct_law_is_row
    a_law_is_turn := a_law_is_turn
    d_law_is_turn := PySem.W.fnOf "_law_is_turn" "_law_is_turn" (defArgs s_law_is_turn) (defBody s_law_is_turn) (defScope s_law_is_turn) .none kV_law_is_turn dc_law_is_turn pm_law_is_turn an_law_is_turn cd_law_is_turn ct_law_is_turn
    a_law := fa
    d_law := PySem.W.fnOf "law" "law" (defArgs s_law) (defBody s_law) (defScope s_law) .none kV_law dc_law pm_law an_law cd_law ct_law
    c_NoForm := c_NoForm
    c_NoPlace := c_NoPlace
    c_NoRow := c_NoRow
    c_NoChange := c_NoChange
    c_Listing := c_Listing
    c_Turning := c_Turning
    t_MOST_SIGNS := t_MOST_SIGNS
    t_MOST_SPOTS := t_MOST_SPOTS
    g_all := PySem.W.mg_none_of X G h_all
    g_bool := PySem.W.mg_none_of X G h_bool
    g_divmod := PySem.W.mg_none_of X G h_divmod
    g_int := PySem.W.mg_none_of X G h_int
    g_isinstance := PySem.W.mg_none_of X G h_isinstance
    g_len := PySem.W.mg_none_of X G h_len
    g_list := PySem.W.mg_none_of X G h_list
    g_range := PySem.W.mg_none_of X G h_range
    g_reversed := PySem.W.mg_none_of X G h_reversed
    g_str := PySem.W.mg_none_of X G h_str
    g_tuple := PySem.W.mg_none_of X G h_tuple
    m_MOST_SIGNS := PySem.W.mg_of X G h_MOST_SIGNS
    m_MOST_SPOTS := PySem.W.mg_of X G h_MOST_SPOTS
    F_law_length := fun_mk (st := s_law_length) l_law_length cc_law_length k_law_length
    b_law_length := (fun_mk (st := s_law_length) l_law_length cc_law_length k_law_length).binds (ps := P_law_length) fun _ _ _ _ _ _ us hl => match us, hl with | [_], _ => rfl
    m_law_length := PySem.W.mg_of X G n_law_length
    F_law_signs := fun_mk (st := s_law_signs) l_law_signs cc_law_signs k_law_signs
    b_law_signs := (fun_mk (st := s_law_signs) l_law_signs cc_law_signs k_law_signs).binds (ps := P_law_signs) fun _ _ _ _ _ _ us hl => match us, hl with | [_], _ => rfl
    m_law_signs := PySem.W.mg_of X G n_law_signs
    F_law_power := fun_mk (st := s_law_power) l_law_power cc_law_power k_law_power
    b_law_power := (fun_mk (st := s_law_power) l_law_power cc_law_power k_law_power).binds (ps := P_law_power) fun _ _ _ _ _ _ us hl => match us, hl with | [_, _], _ => rfl
    m_law_power := PySem.W.mg_of X G n_law_power
    F_Listing___init__ := fun_mk (st := s_Listing___init__) l_Listing___init__ cc_Listing___init__ k_Listing___init__
    b_Listing___init__ := (fun_mk (st := s_Listing___init__) l_Listing___init__ cc_Listing___init__ k_Listing___init__).binds (ps := P_Listing___init__) fun _ _ _ _ _ _ us hl => match us, hl with | [_, _, _], _ => rfl
    F_power := fun_mk (st := s_power) l_power cc_power k_power
    b_power := (fun_mk (st := s_power) l_power cc_power k_power).binds (ps := P_power) fun _ _ _ _ _ _ us hl => match us, hl with | [_, _], _ => rfl
    m_power := PySem.W.mg_of X G n_power
    F_Turning___init__ := fun_mk (st := s_Turning___init__) l_Turning___init__ cc_Turning___init__ k_Turning___init__
    b_Turning___init__ := (fun_mk (st := s_Turning___init__) l_Turning___init__ cc_Turning___init__ k_Turning___init__).binds (ps := P_Turning___init__) fun _ _ _ _ _ _ us hl => match us, hl with | [_, _, _], _ => rfl
    F_law_cell_at := fun_mk (st := s_law_cell_at) l_law_cell_at cc_law_cell_at k_law_cell_at
    b_law_cell_at := (fun_mk (st := s_law_cell_at) l_law_cell_at cc_law_cell_at k_law_cell_at).binds (ps := P_law_cell_at) fun _ _ _ _ _ _ us hl => match us, hl with | [_, _], _ => rfl
    m_law_cell_at := PySem.W.mg_of X G n_law_cell_at
    F_law_fold := fun_mk (st := s_law_fold) l_law_fold cc_law_fold k_law_fold
    b_law_fold := (fun_mk (st := s_law_fold) l_law_fold cc_law_fold k_law_fold).binds (ps := P_law_fold) fun _ _ _ _ _ _ us hl => match us, hl with | [_, _], _ => rfl
    m_law_fold := PySem.W.mg_of X G n_law_fold
    F_law_place := fun_mk (st := s_law_place) l_law_place cc_law_place k_law_place
    b_law_place := (fun_mk (st := s_law_place) l_law_place cc_law_place k_law_place).binds (ps := P_law_place) fun _ _ _ _ _ _ us hl => match us, hl with | [_, _, _, _], _ => rfl
    m_law_place := PySem.W.mg_of X G n_law_place
    F_Turning_row_at := fun_mk (st := s_Turning_row_at) l_Turning_row_at cc_Turning_row_at k_Turning_row_at
    b_Turning_row_at := (fun_mk (st := s_Turning_row_at) l_Turning_row_at cc_Turning_row_at k_Turning_row_at).binds (ps := P_Turning_row_at) fun _ _ _ _ _ _ us hl => match us, hl with | [_, _], _ => rfl
    F_law_turned := fun_mk (st := s_law_turned) l_law_turned cc_law_turned k_law_turned
    b_law_turned := (fun_mk (st := s_law_turned) l_law_turned cc_law_turned k_law_turned).binds (ps := P_law_turned) fun _ _ _ _ _ _ us hl => match us, hl with | [_, _, _], _ => rfl
    m_law_turned := PySem.W.mg_of X G n_law_turned
    F_law_whole := fun_mk (st := s_law_whole) l_law_whole cc_law_whole k_law_whole
    b_law_whole := (fun_mk (st := s_law_whole) l_law_whole cc_law_whole k_law_whole).binds (ps := P_law_whole) fun _ _ _ _ _ _ us hl => match us, hl with | [_], _ => rfl
    m_law_whole := PySem.W.mg_of X G n_law_whole
    F_law_same := fun_mk (st := s_law_same) l_law_same cc_law_same k_law_same
    b_law_same := (fun_mk (st := s_law_same) l_law_same cc_law_same k_law_same).binds (ps := P_law_same) fun _ _ _ _ _ _ us hl => match us, hl with | [_, _], _ => rfl
    m_law_same := PySem.W.mg_of X G n_law_same
    F_law_given := fun_mk (st := s_law_given) l_law_given cc_law_given k_law_given
    b_law_given := (fun_mk (st := s_law_given) l_law_given cc_law_given k_law_given).binds (ps := P_law_given) fun _ _ _ _ _ _ us hl => match us, hl with | [_, _, _, _], _ => rfl
    m_law_given := PySem.W.mg_of X G n_law_given
    F_Turning_is_row := fun_mk (st := s_Turning_is_row) l_Turning_is_row cc_Turning_is_row k_Turning_is_row
    b_Turning_is_row := (fun_mk (st := s_Turning_is_row) l_Turning_is_row cc_Turning_is_row k_Turning_is_row).binds (ps := P_Turning_is_row) fun _ _ _ _ _ _ us hl => match us, hl with | [_, _], _ => rfl
    F_Turning_moved := fun_mk (st := s_Turning_moved) l_Turning_moved cc_Turning_moved k_Turning_moved
    b_Turning_moved := (fun_mk (st := s_Turning_moved) l_Turning_moved cc_Turning_moved k_Turning_moved).binds (ps := P_Turning_moved) fun _ _ _ _ _ _ us hl => match us, hl with | [_, _, _, _], _ => rfl
    F_Turning_undone := fun_mk (st := s_Turning_undone) l_Turning_undone cc_Turning_undone k_Turning_undone
    b_Turning_undone := (fun_mk (st := s_Turning_undone) l_Turning_undone cc_Turning_undone k_Turning_undone).binds (ps := P_Turning_undone) fun _ _ _ _ _ _ us hl => match us, hl with | [_, _, _], _ => rfl
    F_Turning_done := fun_mk (st := s_Turning_done) l_Turning_done cc_Turning_done k_Turning_done
    b_Turning_done := (fun_mk (st := s_Turning_done) l_Turning_done cc_Turning_done k_Turning_done).binds (ps := P_Turning_done) fun _ _ _ _ _ _ us hl => match us, hl with | [_, _, _], _ => rfl
    F_law_any_turn := fun_mk (st := s_law_any_turn) l_law_any_turn cc_law_any_turn k_law_any_turn
    b_law_any_turn := (fun_mk (st := s_law_any_turn) l_law_any_turn cc_law_any_turn k_law_any_turn).binds (ps := P_law_any_turn) fun _ _ _ _ _ _ us hl => match us, hl with | [_, _, _, _], _ => rfl
    m_law_any_turn := PySem.W.mg_of X G n_law_any_turn
    F_law_none_done := fun_mk (st := s_law_none_done) l_law_none_done cc_law_none_done k_law_none_done
    b_law_none_done := (fun_mk (st := s_law_none_done) l_law_none_done cc_law_none_done k_law_none_done).binds (ps := P_law_none_done) fun _ _ _ _ _ _ us hl => match us, hl with | [_, _], _ => rfl
    m_law_none_done := PySem.W.mg_of X G n_law_none_done
    F_Turning_place_of := fun_mk (st := s_Turning_place_of) l_Turning_place_of cc_Turning_place_of k_Turning_place_of
    b_Turning_place_of := (fun_mk (st := s_Turning_place_of) l_Turning_place_of cc_Turning_place_of k_Turning_place_of).binds (ps := P_Turning_place_of) fun _ _ _ _ _ _ us hl => match us, hl with | [_, _], _ => rfl
    F_Listing_leap := FD_Listing_leap
    b_Listing_leap := bn_Listing_leap
    ve_Listing_leap := ve_Listing_leap
    be_Listing_leap := be_Listing_leap
    F_Listing_row_before := fun_mk (st := s_Listing_row_before) l_Listing_row_before cc_Listing_row_before k_Listing_row_before
    b_Listing_row_before := (fun_mk (st := s_Listing_row_before) l_Listing_row_before cc_Listing_row_before k_Listing_row_before).binds (ps := P_Listing_row_before) fun _ _ _ _ _ _ us hl => match us, hl with | [_, _], _ => rfl
    F_Turning_change := fun_mk (st := s_Turning_change) l_Turning_change cc_Turning_change k_Turning_change
    b_Turning_change := (fun_mk (st := s_Turning_change) l_Turning_change cc_Turning_change k_Turning_change).binds (ps := P_Turning_change) fun _ _ _ _ _ _ us hl => match us, hl with | [_, _], _ => rfl
    F_Listing_next_row := fun_mk (st := s_Listing_next_row) l_Listing_next_row cc_Listing_next_row k_Listing_next_row
    b_Listing_next_row := (fun_mk (st := s_Listing_next_row) l_Listing_next_row cc_Listing_next_row k_Listing_next_row).binds (ps := P_Listing_next_row) fun _ _ _ _ _ _ us hl => match us, hl with | [_, _], _ => rfl
    F_law_alone := fun_mk (st := s_law_alone) l_law_alone cc_law_alone k_law_alone
    b_law_alone := (fun_mk (st := s_law_alone) l_law_alone cc_law_alone k_law_alone).binds (ps := P_law_alone) fun _ _ _ _ _ _ us hl => match us, hl with | [_, _], _ => rfl
    m_law_alone := PySem.W.mg_of X G n_law_alone
    F_law_is_row := fun_mk (st := s_law_is_row) l_law_is_row cc_law_is_row k_law_is_row
    b_law_is_row := (fun_mk (st := s_law_is_row) l_law_is_row cc_law_is_row k_law_is_row).binds (ps := P_law_is_row) fun _ _ _ _ _ _ us hl => match us, hl with | [_, _, _], _ => rfl
    m_law_is_row := PySem.W.mg_of X G n_law_is_row
    F_law_is_turn := fun_mk (st := s_law_is_turn) l_law_is_turn cc_law_is_turn k_law_is_turn
    b_law_is_turn := (fun_mk (st := s_law_is_turn) l_law_is_turn cc_law_is_turn k_law_is_turn).binds (ps := P_law_is_turn) fun _ _ _ _ _ _ us hl => match us, hl with | [_, _], _ => rfl
    m_law_is_turn := PySem.W.mg_of X G n_law_is_turn
    F_law := fun_mk (st := s_law) l_law cc_law k_law
    b_law := (fun_mk (st := s_law) l_law cc_law k_law).binds (ps := P_law) fun _ _ _ _ _ _ us hl => match us, hl with | [_], _ => rfl
    m_NoForm := PySem.W.mg_of X G n_NoForm
    x_NoForm := x_NoForm
    k_NoForm := k_NoForm
    bE_NoForm := bE_NoForm
    tE_NoForm := tE_NoForm
    m_NoPlace := PySem.W.mg_of X G n_NoPlace
    x_NoPlace := x_NoPlace
    k_NoPlace := k_NoPlace
    bE_NoPlace := bE_NoPlace
    tE_NoPlace := tE_NoPlace
    m_NoRow := PySem.W.mg_of X G n_NoRow
    x_NoRow := x_NoRow
    k_NoRow := k_NoRow
    bE_NoRow := bE_NoRow
    tE_NoRow := tE_NoRow
    m_NoChange := PySem.W.mg_of X G n_NoChange
    x_NoChange := x_NoChange
    k_NoChange := k_NoChange
    bE_NoChange := bE_NoChange
    tE_NoChange := tE_NoChange
    m_Listing := PySem.W.mg_of X G n_Listing
    cr_Listing := ⟨rd_Listing, ga_Listing⟩
    at_Listing___init__ := at_Listing___init__
    m_Turning := PySem.W.mg_of X G n_Turning
    cl_Turning := ⟨pg_Turning, hd_Turning, po_Turning, sa_Turning⟩
    mk_Turning := ⟨mm_Turning, fi_Turning, if_Turning___init__, kp_Turning⟩
    no_Turning_length := no_Turning_length
    no_Turning_size := no_Turning_size
    no_Turning_signs := no_Turning_signs
    me_Turning_change := ⟨fi_Turning_change, if_Turning_change, k_Turning_change⟩
    me_Turning_done := ⟨fi_Turning_done, if_Turning_done, k_Turning_done⟩
    me_Turning_is_row := ⟨fi_Turning_is_row, if_Turning_is_row, k_Turning_is_row⟩
    me_Turning_leap := ⟨fi_Turning_leap, if_Listing_leap, k_Listing_leap⟩
    me_Turning_moved := ⟨fi_Turning_moved, if_Turning_moved, k_Turning_moved⟩
    me_Turning_next_row := ⟨fi_Turning_next_row, if_Listing_next_row, k_Listing_next_row⟩
    me_Turning_place_of := ⟨fi_Turning_place_of, if_Turning_place_of, k_Turning_place_of⟩
    me_Turning_row_at := ⟨fi_Turning_row_at, if_Turning_row_at, k_Turning_row_at⟩
    me_Turning_row_before := ⟨fi_Turning_row_before, if_Listing_row_before, k_Listing_row_before⟩
    me_Turning_undone := ⟨fi_Turning_undone, if_Turning_undone, k_Turning_undone⟩ })
theorem walk {l : PySem.W.OpenLaw} {q : Program} {loose : List Str} {XP : (Str → Option Value) → Heap → Prop} {YP : World → Heap → Prop} {d : DefRec} {K : Params → PySem.W.Frag} (hn : l.most = some 63) (hdf : d.params.defaults = [])
    (hY : ∀ (w : World) (h : Heap), YP w h → (K w.params).In h)
    (F : ∀ (w : World) (mg : Str → Option Value) (fa : Addr) (h : Heap), (K w.params).In h → h.Ns mainGlobals mg → mg d.name = some (.ref fa) →
      ∃ fd : FuncData, (∀ (s : Shared) (u : Value), BindsTo s fd ⟨[u], []⟩ [("_law_script", u)]) ∧ ∀ base : Heap, (K w.params).In base → base.Ns mainGlobals mg → FnOk l.prog w (K w.params) mg base CX0 6 fa fd P_law (spLawK (K w.params))) :
    PySem.W.WalkO q loose XP YP l.row.toRowW d [] (fun f vs => PySem.call f vs) :=
  L2.walk_ofB (n := 63) (k := 6) (x := "_law_script") (CX := fun _ => CX0) (sp := fun w => spLawK (K w.params)) hn (by decide) hdf ⟨rfl, by decide, by decide⟩ hY F (fun _ _ a ns hl hb _ hS => ⟨a, ns, rfl, hS, hl, hb, fun _ => rfl⟩) fun _ _ _ _ _ z => z
end Mk
open PySem PySem.W PyProof.Rows in
set_option maxRecDepth 100000 in
set_option maxHeartbeats 0 in
theorem PySem.Challenge.cw_marksteps_k03_one_turn_holds : PySem.Challenge.rw_marksteps_k03_one_turn.Holds := by
  w_on; o_law; k_head; (case hw => w_witness2)
  k_fill
  refine Mk.walk (l := PySem.Challenge.rw_marksteps_k03_one_turn) rfl rfl (fun w h Y => PySem.W.kIn_of Y) ?F
  case F =>
    intro w mg fa h KX G hmg
    refine' Mk.all_mk KX G hmg ?h_all ?h_bool ?h_divmod ?h_int ?h_isinstance ?h_len ?h_list ?h_range ?h_reversed ?h_str ?h_tuple ?h_MOST_SIGNS ?h_MOST_SPOTS ?n_law_length ?n_law_signs ?n_law_power ?n_power ?n_law_cell_at ?n_law_fold ?n_law_place ?n_law_turned ?n_law_whole ?n_law_same ?n_law_given ?n_law_any_turn ?n_law_none_done ?n_law_alone ?n_law_is_row ?n_law_is_turn ?n_law ?n_NoForm ?n_NoPlace ?n_NoRow ?n_NoChange ?n_Listing ?n_Turning ?rd_Listing ?fi_Turning ?fi_Turning_change ?fi_Turning_done ?fi_Turning_is_row ?fi_Turning_leap ?fi_Turning_moved ?fi_Turning_next_row ?fi_Turning_place_of ?fi_Turning_row_at ?fi_Turning_row_before ?fi_Turning_undone ?at_Listing___init__ ?l_law_length ?cc_law_length ?k_law_length ?l_law_signs ?cc_law_signs ?k_law_signs ?l_law_power ?cc_law_power ?k_law_power ?l_Listing___init__ ?cc_Listing___init__ ?k_Listing___init__ ?l_power ?cc_power ?k_power ?l_Turning___init__ ?cc_Turning___init__ ?k_Turning___init__ ?l_law_cell_at ?cc_law_cell_at ?k_law_cell_at ?l_law_fold ?cc_law_fold ?k_law_fold ?l_law_place ?cc_law_place ?k_law_place ?l_Turning_row_at ?cc_Turning_row_at ?k_Turning_row_at ?l_law_turned ?cc_law_turned ?k_law_turned ?l_law_whole ?cc_law_whole ?k_law_whole ?l_law_same ?cc_law_same ?k_law_same ?l_law_given ?cc_law_given ?k_law_given ?l_Turning_is_row ?cc_Turning_is_row ?k_Turning_is_row ?l_Turning_moved ?cc_Turning_moved ?k_Turning_moved ?l_Turning_undone ?cc_Turning_undone ?k_Turning_undone ?l_Turning_done ?cc_Turning_done ?k_Turning_done ?l_law_any_turn ?cc_law_any_turn ?k_law_any_turn ?l_law_none_done ?cc_law_none_done ?k_law_none_done ?l_Turning_place_of ?cc_Turning_place_of ?k_Turning_place_of ?l_Listing_leap ?cc_Listing_leap ?k_Listing_leap ?lt_Listing_leap ?l_Listing_row_before ?cc_Listing_row_before ?k_Listing_row_before ?l_Turning_change ?cc_Turning_change ?k_Turning_change ?l_Listing_next_row ?cc_Listing_next_row ?k_Listing_next_row ?l_law_alone ?cc_law_alone ?k_law_alone ?l_law_is_row ?cc_law_is_row ?k_law_is_row ?l_law_is_turn ?cc_law_is_turn ?k_law_is_turn ?l_law ?cc_law ?k_law ?x_NoForm ?k_NoForm ?bE_NoForm ?tE_NoForm ?x_NoPlace ?k_NoPlace ?bE_NoPlace ?tE_NoPlace ?x_NoRow ?k_NoRow ?bE_NoRow ?tE_NoRow ?x_NoChange ?k_NoChange ?bE_NoChange ?tE_NoChange ?ga_Listing ?pg_Turning ?hd_Turning ?po_Turning ?sa_Turning ?mm_Turning ?kp_Turning ?if_Turning___init__ ?no_Turning_length ?no_Turning_size ?no_Turning_signs ?if_Turning_change ?if_Turning_done ?if_Turning_is_row ?if_Listing_leap ?if_Turning_moved ?if_Listing_next_row ?if_Turning_place_of ?if_Turning_row_at ?if_Listing_row_before ?if_Turning_undone
    (case h_all => k_is)
    (case h_bool => k_is)
    (case h_divmod => k_is)
    (case h_int => k_is)
    (case h_isinstance => k_is)
    (case h_len => k_is)
    (case h_list => k_is)
    (case h_range => k_is)
    (case h_reversed => k_is)
    (case h_str => k_is)
    (case h_tuple => k_is)
    (case h_MOST_SIGNS => k_is)
    (case h_MOST_SPOTS => k_is)
    (case n_law_length => k_is)
    (case n_law_signs => k_is)
    (case n_law_power => k_is)
    (case n_power => k_is)
    (case n_law_cell_at => k_is)
    (case n_law_fold => k_is)
    (case n_law_place => k_is)
    (case n_law_turned => k_is)
    (case n_law_whole => k_is)
    (case n_law_same => k_is)
    (case n_law_given => k_is)
    (case n_law_any_turn => k_is)
    (case n_law_none_done => k_is)
    (case n_law_alone => k_is)
    (case n_law_is_row => k_is)
    (case n_law_is_turn => k_is)
    (case n_law => k_is)
    (case n_NoForm => k_is)
    (case n_NoPlace => k_is)
    (case n_NoRow => k_is)
    (case n_NoChange => k_is)
    (case n_Listing => k_is)
    (case n_Turning => k_is)
    (case rd_Listing => k_is)
    (case fi_Turning => k_is)
    (case fi_Turning_change => k_is)
    (case fi_Turning_done => k_is)
    (case fi_Turning_is_row => k_is)
    (case fi_Turning_leap => k_is)
    (case fi_Turning_moved => k_is)
    (case fi_Turning_next_row => k_is)
    (case fi_Turning_place_of => k_is)
    (case fi_Turning_row_at => k_is)
    (case fi_Turning_row_before => k_is)
    (case fi_Turning_undone => k_is)
    (case at_Listing___init__ => k_is)
    (case l_law_length => k_is)
    (case cc_law_length => k_is)
    (case k_law_length => k_is)
    (case l_law_signs => k_is)
    (case cc_law_signs => k_is)
    (case k_law_signs => k_is)
    (case l_law_power => k_is)
    (case cc_law_power => k_is)
    (case k_law_power => k_is)
    (case l_Listing___init__ => k_is)
    (case cc_Listing___init__ => k_is)
    (case k_Listing___init__ => k_is)
    (case l_power => k_is)
    (case cc_power => k_is)
    (case k_power => k_is)
    (case l_Turning___init__ => k_is)
    (case cc_Turning___init__ => k_is)
    (case k_Turning___init__ => k_is)
    (case l_law_cell_at => k_is)
    (case cc_law_cell_at => k_is)
    (case k_law_cell_at => k_is)
    (case l_law_fold => k_is)
    (case cc_law_fold => k_is)
    (case k_law_fold => k_is)
    (case l_law_place => k_is)
    (case cc_law_place => k_is)
    (case k_law_place => k_is)
    (case l_Turning_row_at => k_is)
    (case cc_Turning_row_at => k_is)
    (case k_Turning_row_at => k_is)
    (case l_law_turned => k_is)
    (case cc_law_turned => k_is)
    (case k_law_turned => k_is)
    (case l_law_whole => k_is)
    (case cc_law_whole => k_is)
    (case k_law_whole => k_is)
    (case l_law_same => k_is)
    (case cc_law_same => k_is)
    (case k_law_same => k_is)
    (case l_law_given => k_is)
    (case cc_law_given => k_is)
    (case k_law_given => k_is)
    (case l_Turning_is_row => k_is)
    (case cc_Turning_is_row => k_is)
    (case k_Turning_is_row => k_is)
    (case l_Turning_moved => k_is)
    (case cc_Turning_moved => k_is)
    (case k_Turning_moved => k_is)
    (case l_Turning_undone => k_is)
    (case cc_Turning_undone => k_is)
    (case k_Turning_undone => k_is)
    (case l_Turning_done => k_is)
    (case cc_Turning_done => k_is)
    (case k_Turning_done => k_is)
    (case l_law_any_turn => k_is)
    (case cc_law_any_turn => k_is)
    (case k_law_any_turn => k_is)
    (case l_law_none_done => k_is)
    (case cc_law_none_done => k_is)
    (case k_law_none_done => k_is)
    (case l_Turning_place_of => k_is)
    (case cc_Turning_place_of => k_is)
    (case k_Turning_place_of => k_is)
    (case l_Listing_leap => k_is)
    (case cc_Listing_leap => k_is)
    (case k_Listing_leap => k_is)
    (case lt_Listing_leap => k_is)
    (case l_Listing_row_before => k_is)
    (case cc_Listing_row_before => k_is)
    (case k_Listing_row_before => k_is)
    (case l_Turning_change => k_is)
    (case cc_Turning_change => k_is)
    (case k_Turning_change => k_is)
    (case l_Listing_next_row => k_is)
    (case cc_Listing_next_row => k_is)
    (case k_Listing_next_row => k_is)
    (case l_law_alone => k_is)
    (case cc_law_alone => k_is)
    (case k_law_alone => k_is)
    (case l_law_is_row => k_is)
    (case cc_law_is_row => k_is)
    (case k_law_is_row => k_is)
    (case l_law_is_turn => k_is)
    (case cc_law_is_turn => k_is)
    (case k_law_is_turn => k_is)
    (case l_law => k_is)
    (case cc_law => k_is)
    (case k_law => k_is)
    (case x_NoForm => k_exc)
    (case k_NoForm => k_is)
    (case bE_NoForm => first | rfl | k_is)
    (case tE_NoForm => k_is)
    (case x_NoPlace => k_exc)
    (case k_NoPlace => k_is)
    (case bE_NoPlace => first | rfl | k_is)
    (case tE_NoPlace => k_is)
    (case x_NoRow => k_exc)
    (case k_NoRow => k_is)
    (case bE_NoRow => first | rfl | k_is)
    (case tE_NoRow => k_is)
    (case x_NoChange => k_exc)
    (case k_NoChange => k_is)
    (case bE_NoChange => first | rfl | k_is)
    (case tE_NoChange => k_is)
    (case ga_Listing => k_is)
    (case pg_Turning => k_is)
    (case hd_Turning => k_is)
    (case po_Turning => k_is)
    (case sa_Turning => k_is)
    (case mm_Turning => k_is)
    (case kp_Turning => k_is)
    (case if_Turning___init__ => k_is)
    (case no_Turning_length => k_is)
    (case no_Turning_size => k_is)
    (case no_Turning_signs => k_is)
    (case if_Turning_change => k_is)
    (case if_Turning_done => k_is)
    (case if_Turning_is_row => k_is)
    (case if_Listing_leap => k_is)
    (case if_Turning_moved => k_is)
    (case if_Listing_next_row => k_is)
    (case if_Turning_place_of => k_is)
    (case if_Turning_row_at => k_is)
    (case if_Listing_row_before => k_is)
    (case if_Turning_undone => k_is)
