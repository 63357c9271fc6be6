import PyProof.Rows.All
import Wide.All
import OpenK.AllK
import Wide.FinOn
import HandS.ForMost
import HandS.ForExc
import HandS.Evl
import HandS.Wide
import HandS.WideBits
import HandS.IsInst
import HandS.ClsMeth
import HandS.Defaults
import HandS.EndBits
import HandS.More
import HandS.Rev
import PySem.Challenge.RW_marksteps_k04_rows_counted
set_option Elab.async false
set_option linter.all false
set_option maxRecDepth 100000
set_option maxHeartbeats 4000000
namespace Mk
/-! ### turning lists: rows by places -/
/-- the row at a place -/
def trow (s : Int) : Nat → Int → List Int
  | 0, _ => []
  | n + 1, p => (p % s - p / s % s) % s :: trow s n (p / s)
/-- the place of a row -/
def tplace (s : Int) : List Int → Int
  | [] => 0
  | m :: r => tplace s r * s + (tplace s r % s + m) % s
/-- where the next row differs -/
def tspot (s : Int) : Nat → Int → Nat
  | 0, _ => 0
  | 1, _ => 0
  | n + 2, p => if p % s = s - 1 then tspot s (n + 1) (p / s) + 1 else 0
def Marks (s : Int) (l : List Int) : Prop := ∀ m ∈ l, 0 ≤ m ∧ m < s

theorem trow_len (s : Int) : ∀ (n : Nat) (p : Int), (trow s n p).length = n
  | 0, _ => rfl
  | n + 1, p => by
    show (trow s n (p / s)).length + 1 = n + 1
    rw [trow_len s n]
theorem trow_marks {s : Int} (hs : 0 < s) : ∀ (n : Nat) (p : Int), Marks s (trow s n p)
  | 0, _, m, h => by cases h
  | n + 1, p, m, h => by
    rcases List.mem_cons.mp h with h | h
    · subst h
      exact ⟨Int.emod_nonneg _ (by omega), Int.emod_lt_of_pos _ hs⟩
    · exact trow_marks hs n _ m h

theorem pow_succ' (s : Int) (n : Nat) : s ^ (n + 1) = s ^ n * s := Int.pow_succ s n
theorem pow_pos' {s : Int} (hs : 0 < s) (n : Nat) : 0 < s ^ n := Int.pow_pos hs
theorem div_lt_pow {s p : Int} {n : Nat} (hs : 0 < s) (h : p < s ^ (n + 1)) : p / s < s ^ n := by
  rw [Int.pow_succ] at h
  exact Int.ediv_lt_of_lt_mul hs h
theorem div_nonneg' {s p : Int} (hs : 0 < s) (h : 0 ≤ p) : 0 ≤ p / s := Int.ediv_nonneg h (Int.le_of_lt hs)
theorem div_parts (p s : Int) : p / s * s + p % s = p := by
  have h := Int.ediv_mul_add_emod p s
  omega
theorem add_mod_left (a b s : Int) : (a % s + b) % s = (a + b) % s := Int.emod_add_emod a s b
theorem add_mod_right (a b s : Int) : (a + b % s) % s = (a + b) % s := Int.add_emod_emod a b s
theorem tplace_trow {s : Int} (hs : 0 < s) : ∀ (n : Nat) (p : Int), 0 ≤ p → p < s ^ n → tplace s (trow s n p) = p
  | 0, p, h0, h1 => by
    have : (s ^ 0 : Int) = 1 := Int.pow_zero s
    show (0 : Int) = p
    omega
  | n + 1, p, h0, h1 => by
    have ih := tplace_trow hs n (p / s) (div_nonneg' hs h0) (div_lt_pow hs h1)
    show tplace s (trow s n (p / s)) * s + (tplace s (trow s n (p / s)) % s + (p % s - p / s % s) % s) % s = p
    rw [ih, add_mod_right]
    have e : p / s % s + (p % s - p / s % s) = p % s := by omega
    rw [e, Int.emod_emod_of_dvd _ (Int.dvd_refl s)]
    exact div_parts p s
theorem mul_add_div {q r s : Int} (hs : 0 < s) (h0 : 0 ≤ r) (h1 : r < s) : (q * s + r) / s = q := by
  rw [Int.add_comm, Int.add_mul_ediv_right _ _ (by omega), Int.ediv_eq_zero_of_lt h0 h1]
  omega
theorem mul_add_mod {q r s : Int} (hs : 0 < s) (h0 : 0 ≤ r) (h1 : r < s) : (q * s + r) % s = r := by
  rw [Int.add_comm, Int.add_mul_emod_self_right, Int.emod_eq_of_lt h0 h1]
theorem trow_tplace {s : Int} (hs : 0 < s) : ∀ (l : List Int), Marks s l → trow s l.length (tplace s l) = l
  | [], _ => rfl
  | m :: r, h => by
    have ih := trow_tplace hs r fun x hx => h x (List.mem_cons_of_mem _ hx)
    obtain ⟨m0, m1⟩ := h m List.mem_cons_self
    show ((tplace s r * s + (tplace s r % s + m) % s) % s - (tplace s r * s + (tplace s r % s + m) % s) / s % s) % s :: trow s r.length ((tplace s r * s + (tplace s r % s + m) % s) / s) = m :: r
    have a0 := Int.emod_nonneg (tplace s r % s + m) (show s ≠ 0 by omega)
    have a1 := Int.emod_lt_of_pos (tplace s r % s + m) hs
    rw [mul_add_div hs a0 a1, mul_add_mod hs a0 a1, ih]
    have e : ((tplace s r % s + m) % s - tplace s r % s) % s = m := by
      rw [show (tplace s r % s + m) % s - tplace s r % s = (tplace s r % s + m) % s + -(tplace s r % s) by omega, add_mod_left]
      rw [show tplace s r % s + m + -(tplace s r % s) = m by omega]
      exact Int.emod_eq_of_lt m0 m1
    rw [e]
theorem tplace_nonneg {s : Int} (hs : 0 < s) : ∀ (l : List Int), 0 ≤ tplace s l
  | [] => Int.le_refl 0
  | m :: r => by
    have a0 := Int.emod_nonneg (tplace s r % s + m) (show s ≠ 0 by omega)
    have := Int.mul_nonneg (tplace_nonneg hs r) (Int.le_of_lt hs)
    show 0 ≤ tplace s r * s + (tplace s r % s + m) % s
    omega
theorem tplace_lt {s : Int} (hs : 0 < s) : ∀ (l : List Int), tplace s l < s ^ l.length
  | [] => by
    show (0 : Int) < s ^ 0
    exact Int.pow_pos hs
  | m :: r => by
    have a1 := Int.emod_lt_of_pos (tplace s r % s + m) hs
    have ih := tplace_lt hs r
    show tplace s r * s + (tplace s r % s + m) % s < s ^ (r.length + 1)
    rw [Int.pow_succ]
    have h : (tplace s r + 1) * s ≤ s ^ r.length * s := Int.mul_le_mul_of_nonneg_right (by omega) (by omega)
    rw [Int.add_mul] at h
    omega
theorem tplace_inj {s : Int} (hs : 0 < s) {l l' : List Int} (h : Marks s l) (h' : Marks s l') (e : l.length = l'.length) (q : tplace s l = tplace s l') : l = l' := by
  rw [← trow_tplace hs l h, ← trow_tplace hs l' h', e, q]
theorem trow_inj {s : Int} (hs : 0 < s) {n : Nat} {p q : Int} (p0 : 0 ≤ p) (p1 : p < s ^ n) (q0 : 0 ≤ q) (q1 : q < s ^ n) (e : trow s n p = trow s n q) : p = q := by
  rw [← tplace_trow hs n p p0 p1, ← tplace_trow hs n q q0 q1, e]
/-! the figures -/
theorem trow_get {s : Int} (hs : 0 < s) : ∀ (n : Nat) (p : Int) (k : Nat), k < n → (trow s n p)[k]? = some ((p / s ^ k % s - p / s ^ (k + 1) % s) % s)
  | n + 1, p, 0, _ => by
    show some _ = _
    rw [Int.pow_zero, Int.ediv_one, show s ^ (0 + 1) = s from by rw [Int.pow_succ, Int.pow_zero, Int.one_mul]]
  | n + 1, p, k + 1, h => by
    show (trow s n (p / s))[k]? = _
    rw [trow_get hs n (p / s) k (by omega)]
    rw [Int.ediv_ediv_of_nonneg (Int.le_of_lt hs), Int.ediv_ediv_of_nonneg (Int.le_of_lt hs)]
    rw [show s * s ^ k = s ^ (k + 1) from by rw [Int.pow_succ, Int.mul_comm], show s * s ^ (k + 1) = s ^ (k + 1 + 1) from by rw [Int.pow_succ s (k + 1), Int.mul_comm]]
/-! the next row -/
theorem tspot_lt (s : Int) : ∀ (n : Nat) (p : Int), 0 < n → tspot s n p < n
  | 1, _, _ => Nat.one_pos
  | n + 2, p, _ => by
    unfold tspot
    split
    · have := tspot_lt s (n + 1) (p / s) (Nat.succ_pos n)
      omega
    · omega
theorem mul_mod_mul {a b s : Int} (hs : 0 < s) : a * s % (b * s) = a % b * s := by
  rw [Int.mul_comm a s, Int.mul_comm b s, Int.mul_emod_mul_of_pos _ _ hs, Int.mul_comm]
theorem next_div {s p : Int} {n : Nat} (hs : 1 < s) (h0 : 0 ≤ p) (h1 : p < s ^ (n + 1)) (hm : p % s = s - 1) : (p + 1) % s ^ (n + 1) / s = (p / s + 1) % s ^ n ∧ (p + 1) % s ^ (n + 1) % s = 0 := by
  have hp := div_parts p s
  have e1 : p + 1 = (p / s + 1) * s := by
    rw [Int.add_mul]
    omega
  rw [e1, Int.pow_succ, mul_mod_mul (by omega)]
  exact ⟨Int.mul_ediv_cancel _ (by omega), Int.mul_emod_left _ _⟩
theorem trow_next {s : Int} (hs : 1 < s) : ∀ (n : Nat) (p : Int), 0 < n → 0 ≤ p → p < s ^ n →
    trow s n ((p + 1) % s ^ n) = (trow s n p).modify (tspot s n p) fun m => (m + 1) % s
  | 1, p, _, h0, h1 => by
    rw [show s ^ 1 = s by rw [Int.pow_succ, Int.pow_zero, Int.one_mul]] at *
    have z : ∀ q : Int, 0 ≤ q → q < s → trow s 1 q = [q] := fun q q0 q1 => by
      show [(q % s - q / s % s) % s] = [q]
      rw [Int.ediv_eq_zero_of_lt q0 q1, Int.zero_emod, Int.emod_eq_of_lt q0 q1, Int.sub_zero, Int.emod_eq_of_lt q0 q1]
    rw [z p h0 h1, z _ (Int.emod_nonneg _ (by omega)) (Int.emod_lt_of_pos _ (by omega))]
    rfl
  | n + 2, p, _, h0, h1 => by
    have hp := div_parts p s
    have m0 := Int.emod_nonneg p (show s ≠ 0 by omega)
    have m1 := Int.emod_lt_of_pos p (show 0 < s by omega)
    by_cases hm : p % s = s - 1
    · obtain ⟨e1, e2⟩ := next_div (n := n + 1) hs h0 h1 hm
      have ih := trow_next hs (n + 1) (p / s) (Nat.succ_pos n) (div_nonneg' (by omega) h0) (div_lt_pow (by omega) h1)
      have es : tspot s (n + 2) p = tspot s (n + 1) (p / s) + 1 := if_pos hm
      rw [es]
      show ((p + 1) % s ^ (n + 1 + 1) % s - (p + 1) % s ^ (n + 1 + 1) / s % s) % s :: trow s (n + 1) ((p + 1) % s ^ (n + 1 + 1) / s) = (p % s - p / s % s) % s :: (trow s (n + 1) (p / s)).modify (tspot s (n + 1) (p / s)) fun m => (m + 1) % s
      rw [e1, e2, ih, hm]
      congr 1
      rw [Int.emod_emod_of_dvd _ ⟨s ^ n, by rw [Int.pow_succ, Int.mul_comm]⟩]
      rw [show (0 : Int) - (p / s + 1) % s = 0 + -((p / s + 1) % s) by omega]
      have k1 : (s - 1 - p / s % s) % s = (s - 1 - p / s) % s := by
        rw [Int.sub_emod, Int.emod_emod_of_dvd _ (Int.dvd_refl s), ← Int.sub_emod]
      have k2 : (0 + -((p / s + 1) % s)) % s = (-(p / s + 1)) % s := by
        rw [show (0 : Int) + -((p / s + 1) % s) = 0 - (p / s + 1) % s by omega, Int.sub_emod, Int.emod_emod_of_dvd _ (Int.dvd_refl s), ← Int.sub_emod]
        congr 1
        omega
      rw [k1, k2, show s - 1 - p / s = -(p / s + 1) + s by omega, Int.add_emod_right]
    · have es : tspot s (n + 2) p = 0 := if_neg hm
      have d1 : (p + 1) / s = p / s := by
        conv => lhs; rw [show p + 1 = p / s * s + (p % s + 1) by omega]
        exact mul_add_div (by omega) (by omega) (by omega)
      have d2 : (p + 1) % s = p % s + 1 := by
        conv => lhs; rw [show p + 1 = p / s * s + (p % s + 1) by omega]
        exact mul_add_mod (by omega) (by omega) (by omega)
      have lt : p + 1 < s ^ (n + 1 + 1) := by
        have q := div_lt_pow (n := n + 1) (show 0 < s by omega) h1
        have t : (p / s + 1) * s ≤ s ^ (n + 1) * s := Int.mul_le_mul_of_nonneg_right (by omega) (by omega)
        have t2 : (p / s + 1) * s = p / s * s + s := by rw [Int.add_mul, Int.one_mul]
        rw [Int.pow_succ s (n + 1)]
        omega
      rw [es, Int.emod_eq_of_lt (by omega) lt]
      show ((p + 1) % s - (p + 1) / s % s) % s :: trow s (n + 1) ((p + 1) / s) = ((p % s - p / s % s) % s + 1) % s :: trow s (n + 1) (p / s)
      rw [d1, d2, add_mod_left]
      congr 2
      omega
end Mk
namespace Mk
/-! ### choosing lists -/
/-- how many rows -/
def bin : Nat → Nat → Nat
  | _, 0 => 1
  | 0, _ + 1 => 0
  | n + 1, k + 1 => bin n k + bin n (k + 1)
theorem bin_zero (n : Nat) : bin n 0 = 1 := by cases n <;> rfl
theorem bin_over : ∀ (n k : Nat), n < k → bin n k = 0
  | 0, k + 1, _ => rfl
  | n + 1, k + 1, h => by
    show bin n k + bin n (k + 1) = 0
    rw [bin_over n k (by omega), bin_over n (k + 1) (by omega)]
theorem bin_self : ∀ n : Nat, bin n n = 1
  | 0 => rfl
  | n + 1 => by
    show bin n n + bin n (n + 1) = 1
    rw [bin_self n, bin_over n (n + 1) (by omega)]
theorem bin_pos : ∀ (n k : Nat), k ≤ n → 0 < bin n k
  | n, 0, _ => by rw [bin_zero]; omega
  | n + 1, k + 1, h => by
    have := bin_pos n k (by omega)
    show 0 < bin n k + bin n (k + 1)
    omega
theorem bin_succ (n k : Nat) : bin (n + 1) (k + 1) = bin n k + bin n (k + 1) := rfl
/-- (k + 1) * bin n (k + 1) = (n - k) * bin n k, over the ints -/
theorem bin_up : ∀ (n k : Nat), (bin n (k + 1) : Int) * ((k : Int) + 1) = (bin n k : Int) * ((n : Int) - (k : Int))
  | 0, 0 => rfl
  | 0, k + 1 => by
    show ((0 : Nat) : Int) * _ = ((0 : Nat) : Int) * _
    omega
  | n + 1, 0 => by
    have ih := bin_up n 0
    rw [bin_succ, bin_zero, bin_zero] at *
    simp only [Int.natCast_add, Int.natCast_one, Int.natCast_zero] at *
    omega
  | n + 1, k + 1 => by
    have i1 := bin_up n k
    have i2 := bin_up n (k + 1)
    rw [bin_succ n (k + 1), bin_succ n k]
    simp only [Int.natCast_add, Int.natCast_one] at *
    generalize (bin n k : Int) = a at *
    generalize (bin n (k + 1) : Int) = b at *
    generalize (bin n (k + 1 + 1) : Int) = c at *
    generalize (n : Int) = m at *
    generalize (k : Int) = j at *
    -- b (j+1) = a (m-j); c (j+2) = b (m-j-1); goal (b + c) (j+2) = (a+b)(m+1-j-1)
    have e1 : (b + c) * (j + 1 + 1) = b * (j + 1) + b + c * (j + 1 + 1) := by
      rw [Int.add_mul b c, Int.mul_add b (j + 1) 1, Int.mul_one]
    have e2 : (a + b) * (m + 1 - (j + 1)) = a * (m - j) + b * (m - (j + 1)) + b := by
      rw [show m + 1 - (j + 1) = m - j by omega, Int.add_mul, show m - j = m - (j + 1) + 1 by omega, Int.mul_add b, Int.mul_one]
      omega
    omega
/-- n-th times: bin (n + 1) k * (n + 1 - k) = bin n k * (n + 1) -/
theorem bin_down (n k : Nat) : (bin (n + 1) k : Int) * ((n : Int) + 1 - (k : Int)) = (bin n k : Int) * ((n : Int) + 1) := by
  cases k with
  | zero =>
    rw [bin_zero, bin_zero]
    simp only [Int.natCast_zero]
    omega
  | succ k =>
    have i1 := bin_up n k
    rw [bin_succ]
    simp only [Int.natCast_add, Int.natCast_one] at *
    generalize (bin n k : Int) = a at *
    generalize (bin n (k + 1) : Int) = b at *
    generalize (n : Int) = m at *
    generalize (k : Int) = j at *
    have e1 : (a + b) * (m + 1 - (j + 1)) = a * (m - j) + b * (m - j) := by
      rw [show m + 1 - (j + 1) = m - j by omega, Int.add_mul]
    have e2 : b * (m + 1) = b * (m - j) + b * (j + 1) := by
      rw [← Int.mul_add]
      congr 1
      omega
    omega
/-- bin (n + 1) (k + 1) * (k + 1) = bin n k * (n + 1) -/
theorem bin_diag (n k : Nat) : (bin (n + 1) (k + 1) : Int) * ((k : Int) + 1) = (bin n k : Int) * ((n : Int) + 1) := by
  have i1 := bin_up n k
  rw [bin_succ]
  simp only [Int.natCast_add, Int.natCast_one] at *
  generalize (bin n k : Int) = a at *
  generalize (bin n (k + 1) : Int) = b at *
  generalize (n : Int) = m at *
  generalize (k : Int) = j at *
  have e1 : (a + b) * (j + 1) = a * (j + 1) + b * (j + 1) := Int.add_mul _ _ _
  have e2 : a * (m + 1) = a * (m - j) + a * (j + 1) := by
    rw [← Int.mul_add]
    congr 1
    omega
  omega
theorem bin_symm : ∀ (n k : Nat), k ≤ n → bin n (n - k) = bin n k
  | 0, 0, _ => rfl
  | n + 1, 0, _ => by
    rw [Nat.sub_zero, bin_self, bin_zero]
  | n + 1, k + 1, h => by
    have e : n + 1 - (k + 1) = n - k := by omega
    rw [e]
    by_cases hk : n - k = 0
    · have : k = n := by omega
      subst this
      rw [hk, bin_zero, bin_self]
    · obtain ⟨j, hj⟩ : ∃ j, n - k = j + 1 := ⟨n - k - 1, by omega⟩
      rw [hj, bin_succ, bin_succ]
      have a := bin_symm n k (by omega)
      have b := bin_symm n (k + 1) (by omega)
      rw [hj] at a
      rw [show n - (k + 1) = j by omega] at b
      omega
theorem bin_le_pow : ∀ (n k : Nat), bin n k ≤ 2 ^ n
  | n, 0 => by rw [bin_zero]; exact Nat.one_le_two_pow
  | 0, k + 1 => Nat.zero_le _
  | n + 1, k + 1 => by
    have a := bin_le_pow n k
    have b := bin_le_pow n (k + 1)
    rw [bin_succ, Nat.pow_succ]
    omega
/-- exact divisions -/
theorem div_exact {a b c : Int} (hb : 0 < b) (h : c * b = a) : a / b = c := by
  rw [← h]
  exact Int.mul_ediv_cancel _ (by omega)
theorem bin_up_div (n k : Nat) : (bin n k : Int) * ((n : Int) - (k : Int)) / ((k : Int) + 1) = (bin n (k + 1) : Int) := div_exact (by omega) (bin_up n k)
theorem bin_down_div (n k : Nat) : (bin (n + 1) k : Int) * ((n : Int) + 1 - (k : Int)) / ((n : Int) + 1) = (bin n k : Int) := by
  rw [bin_down]
  exact Int.mul_ediv_cancel _ (by omega)
theorem bin_zero_div (n k : Nat) (h : k ≤ n) : (bin n k : Int) * ((n : Int) + 1) / ((n : Int) + 1 - (k : Int)) = (bin (n + 1) k : Int) := div_exact (by omega) (bin_down n k)
theorem bin_one_div (n k : Nat) : (bin n k : Int) * ((n : Int) + 1) / ((k : Int) + 1) = (bin (n + 1) (k + 1) : Int) := div_exact (by omega) (bin_diag n k)

/-! ### rows of ones -/
/-- a row is told from its last spot on: crev n k p is the row at the place p, backwards -/
def crev : Nat → Nat → Int → List Int
  | 0, _, _ => []
  | n + 1, k, p => if p < (bin n k : Int) then 0 :: crev n k p else 1 :: crev n (k - 1) ((bin (n + 1) k : Int) - 1 - p)
/-- the place of a row told backwards, and its ones -/
def ones : List Int → Nat
  | [] => 0
  | m :: r => if m = 1 then ones r + 1 else ones r
def cpl : List Int → Int
  | [] => 0
  | m :: r => if m = 1 then (bin (r.length + 1) (ones r + 1) : Int) - 1 - cpl r else cpl r
theorem ones_cons (m : Int) (r : List Int) : ones (m :: r) = if m = 1 then ones r + 1 else ones r := rfl
theorem cpl_cons (m : Int) (r : List Int) : cpl (m :: r) = if m = 1 then (bin (r.length + 1) (ones r + 1) : Int) - 1 - cpl r else cpl r := rfl
def Bits (l : List Int) : Prop := ∀ m ∈ l, m = 0 ∨ m = 1
def crow (n k : Nat) (p : Int) : List Int := (crev n k p).reverse
def cplace (l : List Int) : Int := cpl l.reverse
theorem crev_len : ∀ (n k : Nat) (p : Int), (crev n k p).length = n
  | 0, _, _ => rfl
  | n + 1, k, p => by
    unfold crev
    split
    · exact congrArg (· + 1) (crev_len n k p)
    · exact congrArg (· + 1) (crev_len n (k - 1) _)
theorem crev_bits : ∀ (n k : Nat) (p : Int), Bits (crev n k p)
  | 0, _, _, _, h => by cases h
  | n + 1, k, p, m, h => by
    unfold crev at h
    split at h
    · rcases List.mem_cons.mp h with h | h
      · exact .inl h
      · exact crev_bits n k p m h
    · rcases List.mem_cons.mp h with h | h
      · exact .inr h
      · exact crev_bits n (k - 1) _ m h
theorem ones_le : ∀ l : List Int, ones l ≤ l.length
  | [] => Nat.le_refl _
  | m :: r => by
    have := ones_le r
    unfold ones
    rw [List.length_cons]
    split <;> omega
/-- what a turn of row_at needs -/
theorem crev_low {n k : Nat} {p : Int} (h : p < (bin n k : Int)) : crev (n + 1) k p = 0 :: crev n k p := if_pos h
theorem crev_high {n k : Nat} {p : Int} (h : ¬ p < (bin n k : Int)) : crev (n + 1) k p = 1 :: crev n (k - 1) ((bin (n + 1) k : Int) - 1 - p) := if_neg h
theorem high_one {n k : Nat} {p : Int} (h : ¬ p < (bin n k : Int)) (h1 : p < (bin (n + 1) k : Int)) : ∃ j, k = j + 1 := by
  cases k with
  | zero =>
    rw [bin_zero] at *
    omega
  | succ j => exact ⟨j, rfl⟩
theorem crev_ones : ∀ (n k : Nat) (p : Int), 0 ≤ p → p < (bin n k : Int) → ones (crev n k p) = k
  | 0, k, p, h0, h1 => by
    cases k with
    | zero => rfl
    | succ k =>
      have : (bin 0 (k + 1) : Int) = 0 := rfl
      omega
  | n + 1, k, p, h0, h1 => by
    by_cases h : p < (bin n k : Int)
    · rw [crev_low h]
      exact crev_ones n k p h0 h
    · obtain ⟨j, rfl⟩ := high_one h h1
      rw [crev_high h]
      have e := bin_succ n j
      show ones (crev n j _) + 1 = j + 1
      rw [crev_ones n j _ (by omega) (by omega)]
theorem cpl_nonneg_lt : ∀ l : List Int, 0 ≤ cpl l ∧ cpl l < (bin l.length (ones l) : Int)
  | [] => ⟨Int.le_refl 0, by decide⟩
  | m :: r => by
    obtain ⟨a, b⟩ := cpl_nonneg_lt r
    have e := bin_succ r.length (ones r)
    rw [cpl_cons, ones_cons, List.length_cons]
    split
    · omega
    · have : bin r.length (ones r) ≤ bin (r.length + 1) (ones r) := by
        cases ones r with
        | zero => rw [bin_zero, bin_zero]; omega
        | succ j => rw [bin_succ]; omega
      omega
theorem cpl_crev : ∀ (n k : Nat) (p : Int), 0 ≤ p → p < (bin n k : Int) → cpl (crev n k p) = p
  | 0, k, p, h0, h1 => by
    show (0 : Int) = p
    cases k with
    | zero =>
      have : (bin 0 0 : Int) = 1 := rfl
      omega
    | succ k =>
      have : (bin 0 (k + 1) : Int) = 0 := rfl
      omega
  | n + 1, k, p, h0, h1 => by
    by_cases h : p < (bin n k : Int)
    · rw [crev_low h]
      exact cpl_crev n k p h0 h
    · obtain ⟨j, rfl⟩ := high_one h h1
      rw [crev_high h]
      have e := bin_succ n j
      have b0 : (0 : Int) ≤ (bin (n + 1) (j + 1) : Int) - 1 - p := by omega
      have b1 : (bin (n + 1) (j + 1) : Int) - 1 - p < (bin n j : Int) := by omega
      show (bin ((crev n j _).length + 1) (ones (crev n j _) + 1) : Int) - 1 - cpl (crev n j _) = p
      rw [crev_len, crev_ones n j _ b0 b1, cpl_crev n j _ b0 b1]
      omega
theorem crev_cpl : ∀ (l : List Int), Bits l → crev l.length (ones l) (cpl l) = l
  | [], _ => rfl
  | m :: r, h => by
    have hr : Bits r := fun x hx => h x (List.mem_cons_of_mem _ hx)
    have ih := crev_cpl r hr
    obtain ⟨a, b⟩ := cpl_nonneg_lt r
    have e := bin_succ r.length (ones r)
    rcases h m List.mem_cons_self with rfl | rfl
    · show crev (r.length + 1) (ones r) (cpl r) = 0 :: r
      rw [crev_low b, ih]
    · show crev (r.length + 1) (ones r + 1) ((bin (r.length + 1) (ones r + 1) : Int) - 1 - cpl r) = 1 :: r
      have hn : ¬ (bin (r.length + 1) (ones r + 1) : Int) - 1 - cpl r < (bin r.length (ones r + 1) : Int) := by omega
      rw [crev_high hn, show ones r + 1 - 1 = ones r from rfl]
      rw [show (bin (r.length + 1) (ones r + 1) : Int) - 1 - ((bin (r.length + 1) (ones r + 1) : Int) - 1 - cpl r) = cpl r by omega, ih]
/-! forwards -/
theorem ones_append : ∀ (l r : List Int), ones (l ++ r) = ones l + ones r
  | [], r => by simp [ones]
  | m :: l, r => by
    have ih := ones_append l r
    rw [List.cons_append, ones_cons, ones_cons, ih]
    split <;> omega
theorem ones_reverse : ∀ l : List Int, ones l.reverse = ones l
  | [] => rfl
  | m :: r => by
    rw [List.reverse_cons, ones_append, ones_reverse r]
    show _ + (if m = 1 then 0 + 1 else 0) = if m = 1 then ones r + 1 else ones r
    split <;> omega
theorem bits_reverse {l : List Int} (h : Bits l) : Bits l.reverse := fun m hm => h m (List.mem_reverse.mp hm)
theorem crow_len (n k : Nat) (p : Int) : (crow n k p).length = n := by
  unfold crow
  rw [List.length_reverse, crev_len]
theorem crow_bits (n k : Nat) (p : Int) : Bits (crow n k p) := bits_reverse (crev_bits n k p)
theorem crow_ones {n k : Nat} {p : Int} (h0 : 0 ≤ p) (h1 : p < (bin n k : Int)) : ones (crow n k p) = k := by
  unfold crow
  rw [ones_reverse, crev_ones n k p h0 h1]
theorem cplace_crow {n k : Nat} {p : Int} (h0 : 0 ≤ p) (h1 : p < (bin n k : Int)) : cplace (crow n k p) = p := by
  unfold cplace crow
  rw [List.reverse_reverse, cpl_crev n k p h0 h1]
theorem crow_cplace {l : List Int} (h : Bits l) : crow l.length (ones l) (cplace l) = l := by
  have e := crev_cpl l.reverse (bits_reverse h)
  rw [List.length_reverse, ones_reverse] at e
  unfold crow cplace
  rw [e, List.reverse_reverse]
theorem cplace_nonneg (l : List Int) : 0 ≤ cplace l := (cpl_nonneg_lt l.reverse).1
theorem cplace_lt (l : List Int) : cplace l < (bin l.length (ones l) : Int) := by
  have h := (cpl_nonneg_lt l.reverse).2
  rw [List.length_reverse, ones_reverse] at h
  exact h
theorem cplace_inj {l l' : List Int} (h : Bits l) (h' : Bits l') (e : l.length = l'.length) (o : ones l = ones l') (q : cplace l = cplace l') : l = l' := by
  rw [← crow_cplace h, ← crow_cplace h', e, o, q]
/-- one more spot behind -/
theorem cplace_zero (l : List Int) : cplace (l ++ [0]) = cplace l := by
  unfold cplace
  rw [List.reverse_append]
  rfl
theorem cplace_one (l : List Int) : cplace (l ++ [1]) = (bin (l.length + 1) (ones l + 1) : Int) - 1 - cplace l := by
  unfold cplace
  rw [List.reverse_append]
  show (bin (l.reverse.length + 1) (ones l.reverse + 1) : Int) - 1 - cpl l.reverse = _
  rw [List.length_reverse, ones_reverse]
/-- ones and sums -/
theorem bits_sum : ∀ {l : List Int}, Bits l → l.sum = (ones l : Int)
  | [], _ => rfl
  | m :: r, h => by
    have ih := bits_sum (l := r) fun x hx => h x (List.mem_cons_of_mem _ hx)
    rw [List.sum_cons, ih]
    rcases h m List.mem_cons_self with rfl | rfl
    · show (0 : Int) + ones r = (ones r : Int)
      omega
    · show (1 : Int) + ones r = ((ones r + 1 : Nat) : Int)
      omega
end Mk

namespace Mk
open PySem L2 Evl
/-! ### evaluation: what Evl lacks -/
section
variable {K : PySem.W.Frag} {σ : L2.St} {H H0 H' : Hp} {ta tb tc te tx : TE} {t u : TT} {x y z v : V} {r r' : R2} {a C dx : Addr} {fs : List (Str × V)} {f m : Str}
theorem ev_fld (h : Ev ta σ H (.ref a)) (ho : H a = some (.ins C dx fs)) (hc : Cls K C) (hn : NoAttr K C f) (hl : fs.lookup f = some v) : Ev (tFld K ta f) σ H v := fun H1 e Q q =>
  h H1 e _ fun H2 e2 => ⟨a, C, dx, fs, v, rfl, e2 _ _ (e _ _ ho), hc, hn, hl, q H2 e2⟩
/-- a promise's answers that are one value | a new list | a new tuple | a new instance -/
theorem ev_meth {sp : Sp} {dvs vs : List V} {E : XK} {tg : TA} (h : Ev ta σ H (.ref a)) (ho : H a = some (.ins C dx fs)) (hl : fs.lookup m = none) (ha : EvA tg σ H vs) (hs : ∀ H1, Ex H H1 → ∀ Q : VK, RetV z H1 Q → sp (.ref a :: (vs ++ dvs)) H1 Q E) :
    Ev (tMeth C m sp dvs E ta tg) σ H z := fun H1 e Q q =>
  h H1 e _ fun H2 e2 => ⟨a, dx, fs, rfl, e2 _ _ (e _ _ ho), hl, ha H2 (e.trans e2) _ fun H3 e3 => hs H3 ((e.trans e2).trans e3) Q fun H4 e4 => q H4 ((e2.trans e3).trans e4)⟩
theorem el_meth {sp : Sp} {dvs vs xs : List V} {E : XK} {tg : TA} (h : Ev ta σ H (.ref a)) (ho : H a = some (.ins C dx fs)) (hl : fs.lookup m = none) (ha : EvA tg σ H vs) (hs : ∀ H1, Ex H H1 → ∀ Q : VK, RetL xs H1 Q → sp (.ref a :: (vs ++ dvs)) H1 Q E) :
    EvL (tMeth C m sp dvs E ta tg) σ H xs := fun H1 e Q q =>
  h H1 e _ fun H2 e2 => ⟨a, dx, fs, rfl, e2 _ _ (e _ _ ho), hl, ha H2 (e.trans e2) _ fun H3 e3 => hs H3 ((e.trans e2).trans e3) Q fun p H4 hp e4 h4 => q p H4 (fresh_back (e2.trans e3) hp) ((e2.trans e3).trans e4) h4⟩
theorem eu_meth {sp : Sp} {dvs vs xs : List V} {E : XK} {tg : TA} (h : Ev ta σ H (.ref a)) (ho : H a = some (.ins C dx fs)) (hl : fs.lookup m = none) (ha : EvA tg σ H vs) (hs : ∀ H1, Ex H H1 → ∀ Q : VK, (∀ p H2, H1 p = none → Ex H1 H2 → H2 p = some (.tup xs) → Q (.ref p) H2) → sp (.ref a :: (vs ++ dvs)) H1 Q E) :
    EvU (tMeth C m sp dvs E ta tg) σ H xs := fun H1 e Q q =>
  h H1 e _ fun H2 e2 => ⟨a, dx, fs, rfl, e2 _ _ (e _ _ ho), hl, ha H2 (e.trans e2) _ fun H3 e3 => hs H3 ((e.trans e2).trans e3) Q fun p H4 hp e4 h4 => q p H4 (fresh_back (e2.trans e3) hp) ((e2.trans e3).trans e4) h4⟩
theorem ev_callF {sp : Sp} {dvs vs : List V} {E : XK} {tg : TA} (ha : EvA tg σ H vs) (hs : ∀ H1, Ex H H1 → ∀ Q : VK, RetV z H1 Q → sp (vs ++ dvs) H1 Q E) : Ev (tCall sp dvs E tg) σ H z := fun H1 e Q q =>
  ha H1 e _ fun H2 e2 => hs H2 (e.trans e2) Q fun H3 e3 => q H3 (e2.trans e3)
theorem el_callF {sp : Sp} {dvs vs xs : List V} {E : XK} {tg : TA} (ha : EvA tg σ H vs) (hs : ∀ H1, Ex H H1 → ∀ Q : VK, RetL xs H1 Q → sp (vs ++ dvs) H1 Q E) : EvL (tCall sp dvs E tg) σ H xs := fun H1 e Q q =>
  ha H1 e _ fun H2 e2 => hs H2 (e.trans e2) Q fun p H3 hp e3 h3 => q p H3 (fresh_back e2 hp) (e2.trans e3) h3
/-- a new instance -/
def EvO (te : TE) (σ : L2.St) (H : Hp) (C : Addr) (fs : List (Str × V)) : Prop := ∀ H1, Ex H H1 → ∀ Q : VK, (∀ p dx H2, H1 p = none → Ex H1 H2 → H2 p = some (.ins C dx fs) → Q (.ref p) H2) → te σ H1 Q
/-- what __init__ promises -/
def RetO (C x dx : Addr) (fs : List (Str × V)) (H : Hp) (Q : VK) : Prop := ∀ H2, (∀ b o, H b = some o → b ≠ x → H2 b = some o) → H2 x = some (.ins C dx fs) → Q .non H2
theorem eo_make {sp : Sp} {dvs vs : List V} {E : XK} {tg : TA} (ha : EvA tg σ H vs) (hs : ∀ H1, Ex H H1 → ∀ x dx, H1 x = some (.ins C dx []) → ∀ Q : VK, RetO C x dx fs H1 Q → sp (.ref x :: (vs ++ dvs)) H1 Q E) :
    EvO (tMake C sp dvs E tg) σ H C fs := fun H1 e Q q => ha H1 e _ fun H2 e2 => fun x dx nx ndx nex => by
  have s0 : Ex H2 (upd (upd H2 dx (.own x)) x (.ins C dx [])) := fun b o eb => by
    rw [upd_ne (ne_of_none eb nx), upd_ne (ne_of_none eb ndx)]
    exact eb
  refine hs _ ((e.trans e2).trans s0) x dx upd_same _ fun H3 k h3 => ⟨rfl, ?_⟩
  exact q x dx H3 (fresh_back e2 nx) (e2.trans fun b o eb => k b o (s0 b o eb) (ne_of_none eb nx)) h3
theorem ev_chain {p q : Bool} (ha : Ev ta σ H x) (hb : Ev tb σ H y) (hr : RV r x y H (.bl p)) (hc : p = true → Ev tc σ H z) (hr' : p = true → RV r' y z H (.bl q)) : Ev (tChain r r' ta tb tc) σ H (.bl (p && q)) := fun H1 e Q k =>
  ha H1 e _ fun H2 e2 => hb H2 (e.trans e2) _ fun H3 e3 => hr H3 ((e.trans e2).trans e3) _ fun H4 e4 => ⟨p, rfl, by
    cases p with
    | true =>
      show tc σ H4 _
      exact hc rfl H4 (((e.trans e2).trans e3).trans e4) _ fun H5 e5 => hr' rfl H5 ((((e.trans e2).trans e3).trans e4).trans e5) Q fun H6 e6 => k H6 ((((e2.trans e3).trans e4).trans e5).trans e6)
    | false =>
      show Q (.bl false) H4
      exact k H4 ((e2.trans e3).trans e4)⟩
/-- isinstance with a built-in class -/
theorem rc_isi {tn : String} {tv : Value} {b : Bool} (ty : ∀ H1, Ex H H1 → TyX K H1 x tv) (hb : PySem.W.kitOne K tv (.type tn) = some b) : RC (rIsi K) [x, .ty tn] H (.bl b) := fun H1 e Q q =>
  ⟨x, .ty tn, tv, .type tn, b, rfl, .ty _, ty H1 e, hb, q H1 (Ex.refl H1)⟩
theorem ex_ty {t : Value} (e : Ex H H') (h : TyOf K H x t) : TyOf K H' x t := by
  cases h with
  | non => exact .non
  | bl b => exact .bl b
  | int i => exact .int i
  | str s => exact .str s
  | flt s => exact .flt s
  | lst h => exact .lst (e _ _ h)
  | frz h => exact .frz (e _ _ h)
  | tup h => exact .tup (e _ _ h)
  | dK h => exact .dK (e _ _ h)
  | dT h => exact .dT (e _ _ h)
  | ins h a b c d f => exact .ins (e _ _ h) a b c d f
theorem ev_isi {tn : String} {tv : Value} {b : Bool} {tg : TA} (ha : EvA tg σ H [x, .ty tn]) (ty : TyOf K H x tv) (hb : PySem.W.kitOne K tv (.type tn) = some b) : Ev (tCB (rIsi K) tg) σ H (.bl b) :=
  ev_cb ha (rc_isi (fun H1 e => .base (ex_ty e ty)) hb)
/-- a built-in's call by values -/
theorem ev_cbv {rr : List V → Hp → VK → Prop} {tg : TA} {vs : List V} (ha : EvA tg σ H vs) (hr : ∀ H1, Ex H H1 → ∀ Q : VK, Q z H1 → rr vs H1 Q) : Ev (tCB rr tg) σ H z :=
  ev_cb ha fun H1 e Q q => hr H1 e Q (q H1 (Ex.refl H1))
theorem ev_un0 {g : Int → V} {i : Int} (h : Ev ta σ H (.int i)) : Ev (tUn (rU g) ta) σ H (g i) := ev_un h fun H1 _ _ q => ⟨i, rfl, q H1 (Ex.refl H1)⟩
theorem rv_eqI {i j : Int} : RV rEq (.int i) (.int j) H (.bl (decide (i = j))) := fun H1 _ _ q => ⟨rfl, by
  have e : decide (V.int i = V.int j) = decide (i = j) := by
    by_cases h : i = j
    · rw [decide_eq_true h, decide_eq_true (congrArg V.int h)]
    · rw [decide_eq_false h, decide_eq_false fun z => h (V.int.inj z)]
  rw [e]
  exact q H1 (Ex.refl H1)⟩
theorem rv_neI {i j : Int} : RV rNe (.int i) (.int j) H (.bl (!decide (i = j))) := fun H1 _ _ q => ⟨rfl, by
  have e : decide (V.int i = V.int j) = decide (i = j) := by
    by_cases h : i = j
    · rw [decide_eq_true h, decide_eq_true (congrArg V.int h)]
    · rw [decide_eq_false h, decide_eq_false fun z => h (V.int.inj z)]
  rw [e]
  exact q H1 (Ex.refl H1)⟩
theorem rv_isN : RV (fun x y H Q => y = .non ∧ Q (.bl (decide (x = .non))) H) x .non H (.bl (decide (x = .non))) := fun H1 _ _ q => ⟨rfl, q H1 (Ex.refl H1)⟩
theorem rv_notN : RV (fun x y H Q => y = .non ∧ Q (.bl (!decide (x = .non))) H) x .non H (.bl (!decide (x = .non))) := fun H1 _ _ q => ⟨rfl, q H1 (Ex.refl H1)⟩
theorem et_cmp {b : Bool} (h : Ev te σ H (.bl b)) : EvT (tTest te) σ H b := et_test h

/-! ### statements, told over an elder heap H0 -/
variable {D : Ends} {tu tw tz : TS} {g : TG}
theorem b_asg {i : Nat} (e : Ex H0 H) (h : Ev te σ H0 v) (k : ∀ H1, Ex H0 H1 → tz D (σ.set i (some v)) H1) : tSeq (tAsg te (gName i)) tz D σ H := q_asg (h.mono e) fun H1 e1 => k H1 (e.trans e1)
theorem b_asgL {i : Nat} {xs : List V} (e : Ex H0 H) (h : EvL te σ H0 xs) (k : ∀ p H1, H0 p = none → Ex H0 H1 → H1 p = some (.lst xs) → tz D (σ.set i (some (.ref p))) H1) : tSeq (tAsg te (gName i)) tz D σ H :=
  q_asgL (h.mono e) fun p H1 hp e1 h1 => k p H1 (fresh_back e hp) (e.trans e1) h1
theorem b_asgU {i : Nat} {xs : List V} (e : Ex H0 H) (h : EvU te σ H0 xs) (k : ∀ p H1, H0 p = none → Ex H0 H1 → H1 p = some (.tup xs) → tz D (σ.set i (some (.ref p))) H1) : tSeq (tAsg te (gName i)) tz D σ H :=
  q_asgU (fun H1 e1 => h H1 (e.trans e1)) fun p H1 hp e1 h1 => k p H1 (fresh_back e hp) (e.trans e1) h1
theorem b_asgO {i : Nat} (e : Ex H0 H) (h : EvO te σ H0 C fs) (k : ∀ p dx H1, H0 p = none → Ex H0 H1 → H1 p = some (.ins C dx fs) → tz D (σ.set i (some (.ref p))) H1) : tSeq (tAsg te (gName i)) tz D σ H :=
  h H e _ fun p dx H1 hp e1 h1 => k p dx H1 (fresh_back e hp) (e.trans e1) h1
theorem b_drop (e : Ex H0 H) (h : Ev te σ H0 v) (k : ∀ H1, Ex H0 H1 → tz D σ H1) : tSeq (tDrop te) tz D σ H := q_drop (h.mono e) fun H1 e1 => k H1 (e.trans e1)
theorem b_if {b : Bool} (e : Ex H0 H) (h : EvT t σ H0 b) (h1 : b = true → ∀ H1, Ex H0 H1 → tu { D with nx := tz D } σ H1) (h2 : b = false → ∀ H1, Ex H0 H1 → tw { D with nx := tz D } σ H1) : tSeq (tIfS t tu tw) tz D σ H :=
  q_if (h.mono e) (fun q H1 e1 => h1 q H1 (e.trans e1)) fun q H1 e1 => h2 q H1 (e.trans e1)
/-- an if whose body ends the def or falls through -/
theorem b_when {b : Bool} (e : Ex H0 H) (h : EvT t σ H0 b) (h1 : b = true → ∀ H1, Ex H0 H1 → tu { D with nx := tz D } σ H1) (h2 : b = false → ∀ H1, Ex H0 H1 → tz D σ H1) : tSeq (tIfS t tu tNext) tz D σ H :=
  q_when (h.mono e) (fun q H1 e1 => h1 q H1 (e.trans e1)) fun q H1 e1 => h2 q H1 (e.trans e1)
/-- a guard that does not hold -/
theorem b_skip {b : Bool} (e : Ex H0 H) (h : EvT t σ H0 b) (k : ∀ H1, Ex H0 H1 → tz D σ H1) (hb : b = false := by rfl) : tSeq (tIfS t tu tNext) tz D σ H := b_when e h (fun q => by rw [hb] at q; cases q) fun _ => k
theorem b_ret (e : Ex H0 H) (h : Ev te σ H0 v) (k : ∀ H1, Ex H0 H1 → D.rt v H1) : tRet te D σ H := s_ret (h.mono e) fun H1 e1 => k H1 (e.trans e1)
theorem b_retL {xs : List V} (e : Ex H0 H) (h : EvL te σ H0 xs) (k : ∀ p H1, H0 p = none → Ex H0 H1 → H1 p = some (.lst xs) → D.rt (.ref p) H1) : tRet te D σ H :=
  s_retL (h.mono e) fun p H1 hp e1 h1 => k p H1 (fresh_back e hp) (e.trans e1) h1
theorem b_retU {xs : List V} (e : Ex H0 H) (h : EvU te σ H0 xs) (k : ∀ p H1, H0 p = none → Ex H0 H1 → H1 p = some (.tup xs) → D.rt (.ref p) H1) : tRet te D σ H :=
  s_retU (fun H1 e1 => h H1 (e.trans e1)) fun p H1 hp e1 h1 => k p H1 (fresh_back e hp) (e.trans e1) h1
/-- if c: x = e, told by the value x has behind it -/
theorem b_ifAsg {b : Bool} {i : Nat} (e : Ex H0 H) (h : EvT t σ H0 b) (h1 : b = true → Ev te σ H0 v) (h2 : b = false → σ.set i (some v) = σ) (k : ∀ H1, Ex H0 H1 → tz D (σ.set i (some v)) H1) : tSeq (tIfS t (tAsg te (gName i)) tNext) tz D σ H :=
  q_ifAsg (h.mono e) (fun q => (h1 q).mono e) h2 fun H1 e1 => k H1 (e.trans e1)
theorem l_asg {i : Nat} (e : Ex H0 H) (h : Ev te σ H0 v) (k : ∀ H1, Ex H0 H1 → D.nx (σ.set i (some v)) H1) : tAsg te (gName i) D σ H := s_asg (h.mono e) fun H1 e1 => k H1 (e.trans e1)
theorem l_when {b : Bool} (e : Ex H0 H) (h : EvT t σ H0 b) (h1 : b = true → ∀ H1, Ex H0 H1 → tu D σ H1) (h2 : b = false → ∀ H1, Ex H0 H1 → D.nx σ H1) : tIfS t tu tNext D σ H :=
  s_when (h.mono e) (fun q H1 e1 => h1 q H1 (e.trans e1)) fun q H1 e1 => h2 q H1 (e.trans e1)
theorem l_if {b : Bool} (e : Ex H0 H) (h : EvT t σ H0 b) (h1 : b = true → ∀ H1, Ex H0 H1 → tu D σ H1) (h2 : b = false → ∀ H1, Ex H0 H1 → tw D σ H1) : tIfS t tu tw D σ H :=
  s_if (h.mono e) (fun q H1 e1 => h1 q H1 (e.trans e1)) fun q H1 e1 => h2 q H1 (e.trans e1)
theorem b_forR1 {tg : TA} {j : Nat} {n : Int} (e : Ex H0 H) (h : EvA tg σ H0 [.int n]) (hn : n ≤ 100000) (hm : -100000 ≤ n) (Pv : Nat → L2.St → Hp → Prop) (h0 : ∀ H1, Ex H0 H1 → Pv 0 σ H1)
    (hs : ∀ (i : Nat) σ' H', (i : Int) < n → Pv i σ' H' → tu { D with nx := Pv (i + 1), ct := Pv (i + 1), bk := tz D } (σ'.set j (some (.int (i : Int)))) H') (hd : ∀ σ' H', Pv n.toNat σ' H' → tz D σ' H') : tSeq (tFor (iRng1 tg) (gName j) tu) tz D σ H :=
  (h.mono e) H (Ex.refl H) _ fun H1 e1 => ⟨n, rfl, by omega, by omega, for_range (lo := 0) (n := n.toNat) Pv (h0 H1 (e.trans e1)) (fun i σ' H' hi p => by
    have e0 : (0 : Int) + (i : Int) = (i : Int) := Int.zero_add _
    show tu _ (σ'.set j (some (.int ((0 : Int) + (i : Int))))) H'
    rw [e0]
    exact hs i σ' H' (by omega) p) hd⟩
theorem b_forLn {l : Addr} {xs : List V} {tl : TE} {j : Nat} (e : Ex H0 H) (h : Ev tl σ H0 (.ref l)) (hx : SqL K H0 l xs) (Pv : Nat → L2.St → Hp → Prop) (h0 : ∀ H1, Ex H0 H1 → Pv 0 σ H1) (hl : ∀ i σ' H', i ≤ xs.length → Pv i σ' H' → SqL K H' l xs)
    (hs : ∀ i x σ' H', xs[i]? = some x → Pv i σ' H' → tu { D with nx := Pv (i + 1), ct := Pv (i + 1), bk := tz D } (σ'.set j (some x)) H') (hd : ∀ σ' H', Pv xs.length σ' H' → tz D σ' H') : tSeq (tFor (iList K tl) (gName j) tu) tz D σ H :=
  q_forLn (h.mono e) (ex_l e hx) Pv (fun H1 e1 => h0 H1 (e.trans e1)) hl hs hd
end
/-! ### sizes -/
theorem cmul_r {i j : Int} (h0 : -1000000000000000 ≤ j) (h1 : j ≤ 1000000000000000) : CMul i j := .inr ⟨by omega, by omega⟩
theorem cmul_l {i j : Int} (h0 : -1000000000000000 ≤ i) (h1 : i ≤ 1000000000000000) : CMul i j := .inl ⟨by omega, by omega⟩
theorem cdiv_small {i j : Int} (h0 : 0 < j) (h1 : j ≤ 1000000000000000) : CDivW i j := wide_div (b := 64) h0 (by omega) (by decide) (by decide)
/-! ### the law's promise: of a list of at most 63 ints, True -/
def spLawK (K : PySem.W.Frag) : Sp := fun vs H Q _ => ∃ (a : Addr) (ns : List Int), vs = [.ref a] ∧ SqL K H a (ns.map V.int) ∧ ns.length ≤ 63 ∧ (∀ z ∈ ns, Builtin.Int.intBits z ≤ 1048576) ∧ ∀ H', Q (.bl true) H'
/-- a cell of the script -/
def cell (ns : List Int) (k : Int) : Int := ns.getD k.toNat 0
/-! ### a plain def read off a class: C.m(..) -/
section
variable {X : Cx} {CX : CXT} {k : Nat} {f C : Addr} {mc : Value} {fd : FuncData} {ps : List Str} {sp : Sp} {dvs : List V} {ds : List Value} {E : XK} {x m : Str} {np apos pos : Pos} {e : Expr} {es : List Expr} {t : TA} {pl : Sem Bool}
theorem pe_clsfn (r : ClX.CRead X.K C mc) (at_ : PySem.W.findCls X.K (.ref C) mc m = some (.val (.ref f))) (kp : PySem.W.keepIn X.K (.ref f) = true) (F : FnOk X.prog X.w X.K X.mg X.base CX k f fd ps sp) (hr : Room k X.A) (hg : Gl X x) (hm : X.mg x = some (.ref C))
    (hb : Binds X.K fd ps ds) (hd : Vals dvs ds) (hx : Passes CX X E) (ha : PA X (e :: es) t) (hdb : (x == ("__debug__" : Str)) = false := by decide)
    (he : starEach (e :: es) X.env = (false, eval e X.env) :: starEach es X.env := by rfl) (hpl : (backTo pos (starEach es X.env)).any (·.1) = false := by rfl)
    (ht : eval (.Call (.Attribute (.Name x np) m apos) (e :: es) [] pos) X.env = (do
      let ov ← eval (.Name x np) X.env
      standAt apos.atName
      let (f, first) ← holding [ov] (getMethod ov m pl)
      callWith pos f first (backTo pos (starEach (e :: es) X.env)) (backToKw pos (keywordEach [] X.env))) := by rfl) :
    PE X (.Call (.Attribute (.Name x np) m apos) (e :: es) [] pos) (tCall sp dvs E t) := by
  refine ⟨fun pins s σ H Q I h => ?_⟩
  refine PySem.W.methodCall_KW (pl := pl) (ld_glob I hg hm ?_ hdb) ht
  refine PySem.W.method_cls I.kIn r.ga (PySem.W.cls_value I.kIn r.rd at_ rfl ?_)
  have I2 : Inv X pins σ H { s with toks := s.toks + 1 } := I.tok _
  refine PySem.W.callWith_K (h₀ := X.base) (first := []) I.ok.mod.kin kp (thn (ha.run pos pins { s with toks := s.toks + 1 } σ H _ I2 h) fun us s1 ⟨vs, H1, I1, rv, q⟩ => ⟨I1.kIn, ?_⟩) he hpl
  exact run_fn F hr hb hd hx I1 rv q
end
end Mk

namespace Mk
open PySem L2 Evl PyProof.Rows
/-! ### steps of the reading -/
local macro_rules | `(tactic| walk_at "rv") => `(tactic| first
  | (with_reducible exact rv_I0)
  | (with_reducible exact rv_eqI)
  | (with_reducible exact rv_neI)
  | (with_reducible refine rv_I (C := CMul) (cmul_r ?_ ?_) <;> omega)
  | (with_reducible refine rv_I (C := CMul) (cmul_l ?_ ?_) <;> omega)
  | (with_reducible refine rv_I (C := CDivW) (cdiv_small ?_ ?_) <;> omega)
  | (with_reducible refine rv_I (C := fun _ j => 0 < j) ?_ <;> omega)
  | (with_reducible exact rv_isN)
  | (with_reducible exact rv_notN)
  | ((with_reducible apply rv_eq); rfl)
  | ((with_reducible apply rv_ne); rfl))
local macro_rules | `(tactic| walk_at "ev") => `(tactic| first
  | (with_reducible exact ev_c)
  | ((with_reducible apply ev_var); rfl)
  | (with_reducible exact ea_nil)
  | ((with_reducible apply ea_cons); walk_at "ev"; walk_at "ev")
  | ((with_reducible apply et_test); walk_at "ev")
  | ((with_reducible apply et_B); walk_at "ev")
  | ((with_reducible apply et_not); walk_at "ev")
  | ((with_reducible apply ev_op); walk_at "ev"; walk_at "ev"; walk_at "rv")
  | ((with_reducible apply ev_un0); walk_at "ev")
  | assumption)

/-! ### the text by places -/
def top (i : Nat) : Stmt := PySem.Challenge.pw_marksteps_k04_rows_counted.main.body.getD i (.Pass ⟨0, 0, 0, 0⟩)
abbrev s_choose : Stmt := top 1
abbrev N_choose : List Str := ["length", "ones", "many", "spot"]
abbrev P_choose : List Str := ["length", "ones"]
abbrev s_law_cell_at : Stmt := top 3
abbrev N_law_cell_at : List Str := ["_law_script", "_law_k"]
abbrev P_law_cell_at : List Str := ["_law_script", "_law_k"]
abbrev s_law_whole : Stmt := top 4
abbrev N_law_whole : List Str := ["_law_found"]
abbrev P_law_whole : List Str := ["_law_found"]
abbrev s_law : Stmt := top 5
abbrev N_law : List Str := ["_law_script", "_law_length", "_law_ones", "_law_found", "_law_fewer", "_law_as_many"]
abbrev P_law : List Str := ["_law_script"]
/-! ### what the top has left -/
structure Txt (K : PySem.W.Frag) (mg : Str → Option Value) where
  a_choose : Addr
  d_choose : FuncData
  a_law_cell_at : Addr
  d_law_cell_at : FuncData
  a_law_whole : Addr
  d_law_whole : FuncData
  a_law : Addr
  d_law : FuncData
  g_bool : mg "bool" = none
  g_int : mg "int" = none
  g_isinstance : mg "isinstance" = none
  g_len : mg "len" = none
  g_max : mg "max" = none
  g_min : mg "min" = none
  g_range : mg "range" = none
  F_choose : Fun K "choose" "choose" s_choose a_choose d_choose
  b_choose : Binds K d_choose P_choose []
  m_choose : mg "choose" = some (.ref a_choose)
  F_law_cell_at : Fun K "_law_cell_at" "_law_cell_at" s_law_cell_at a_law_cell_at d_law_cell_at
  b_law_cell_at : Binds K d_law_cell_at P_law_cell_at []
  m_law_cell_at : mg "_law_cell_at" = some (.ref a_law_cell_at)
  F_law_whole : Fun K "_law_whole" "_law_whole" s_law_whole a_law_whole d_law_whole
  b_law_whole : Binds K d_law_whole P_law_whole []
  m_law_whole : mg "_law_whole" = some (.ref a_law_whole)
  F_law : Fun K "law" "law" s_law a_law d_law
  b_law : Binds K d_law P_law []

section
variable {P : Program} {w : World} {K : PySem.W.Frag} {mg : Str → Option Value} {base : Heap}
/-! #### choose -/
theorem sc_choose : FnScope N_choose P_choose (defScope s_choose) := ⟨rfl, rfl, rfl, by decide +kernel, rfl, by decide +kernel, by decide +kernel⟩
/-- how many rows: n over k -/
def sp_choose (_ : Txt K mg) : Sp := fun vs H Q _ => ∃ (n k : Nat), vs = [.int n, .int k] ∧ n ≤ 200 ∧ k ≤ 200 ∧ RetV (.int (bin n k)) H Q
theorem ev_choose {T : Txt K mg} {σ : L2.St} {H : Hp} {tg : TA} {E : XK} (n k : Nat) (hn : n ≤ 200) (hk : k ≤ 200) (ha : EvA tg σ H [.int n, .int k]) : Ev (tCall (sp_choose T) [] E tg) σ H (.int (bin n k)) :=
  ev_callF ha fun _ _ _ q => ⟨n, k, rfl, hn, hk, q⟩
theorem ok_choose (T : Txt K mg) : FnOk P w K mg base CX0 1 T.a_choose T.d_choose P_choose (sp_choose T) := by
  refine (T.F_choose).ok sc_choose (fun vs H Q E h => ?len) (fun cdv A outer s H vs Q E hr h => ⟨_, (pss_cons (ps_if (pt_cmpR op_gt (pv 1) (pv 0) (nomark _)) (pss_one (ps_ret pe_int)) pss_nil)
    (pss_cons (ps_set (i := 2) sc_choose.nd rfl (Or.inl rfl) pe_int)
    (pss_cons (ps_for PassesOwn.never rfl (pi_range1 rfl T.g_range (pa_cons (pe_callB (call_min2 rfl) rfl T.g_min boot_min (pa_cons (pv 1) (pa_cons (pe_op op_sub (pv 0) (pv 1)) pa_nil))) pa_nil)) (pg_name (i := 3) sc_choose.nd rfl (Or.inl rfl)) (pss_one (ps_set (i := 2) sc_choose.nd rfl (Or.inl rfl) (pe_op op_fdivW (pe_op op_mul (pv 2) (pe_op op_sub (pv 0) (pv 3))) (pe_op op_add (pv 3) pe_int)))))
    (pss_one (ps_ret (pv 2)))))), ?read⟩)
  case len =>
    obtain ⟨n, k, rfl, _⟩ := h
    rfl
  case read =>
    obtain ⟨n, k, rfl, hn, hk, q⟩ := h
    show tSeq _ _ _ [some (.int n), some (.int k), none, none] H
    refine b_when (Ex.refl H) (by walk_at "ev") (fun hb H1 e1 => ?_) (fun hb H1 e1 => ?_)
    · have h1 : (n : Int) < k := by simpa using hb
      refine s_ret (v := .int 0) ev_c fun H2 e2 => ?_
      have e : (0 : Int) = (bin n k : Int) := by rw [bin_over n k (by omega)]; rfl
      rw [e]
      exact q H2 (e1.trans e2)
    · have h1 : ¬ (n : Int) < k := by simpa using hb
      refine b_asg e1 ev_c fun H2 e2 => ?_
      obtain ⟨j, hj⟩ : ∃ j : Nat, (if (n : Int) - k < k then (n : Int) - k else k) = (j : Int) ∧ j ≤ n ∧ bin n j = bin n k := by
        split
        · exact ⟨n - k, by omega, by omega, bin_symm n k (by omega)⟩
        · exact ⟨k, rfl, by omega, rfl⟩
      refine b_forR1 (n := (j : Int)) e2 (ea_cons ?_ ea_nil) (by omega) (by omega) (fun i σ' H' => ∃ v, σ' = [some (.int n), some (.int k), some (.int (bin n i)), v] ∧ Ex H H') (fun H3 e3 => ⟨none, by rw [bin_zero]; rfl, e3⟩) ?_ ?_
      · rw [← hj.1]
        exact ev_cbv (vs := [.int k, .int ((n : Int) - k)]) (by walk_at "ev") fun H1 _ Q q => ⟨_, _, rfl, q⟩
      · rintro i σ' H' hi ⟨v, rfl, e3⟩
        refine l_asg e3 (v := .int (bin n (i + 1))) ?_ fun H4 e4 => ⟨_, rfl, e4⟩
        rw [← bin_up_div n i]
        show Ev _ [some (.int n), some (.int k), some (.int (bin n i)), some (.int (i : Int))] H _
        walk_at "ev"
      · rintro σ' H' ⟨v, rfl, e3⟩
        refine b_ret e3 (ev_var rfl) fun H4 e4 => ?_
        rw [show ((j : Int)).toNat = j from rfl, hj.2.2]
        exact q H4 e4
/-! #### _law_cell_at -/
theorem sc_law_cell_at : FnScope N_law_cell_at P_law_cell_at (defScope s_law_cell_at) := ⟨rfl, rfl, rfl, by decide +kernel, rfl, by decide +kernel, by decide +kernel⟩
def sp_law_cell_at (_ : Txt K mg) : Sp := fun vs H Q _ => ∃ (a : Addr) (ns : List Int) (k : Int), vs = [.ref a, .int k] ∧ 0 ≤ k ∧ SqL K H a (ns.map V.int) ∧ RetV (.int (cell ns k)) H Q
theorem ev_cell {T : Txt K mg} {σ : L2.St} {H : Hp} {tg : TA} {E : XK} {a : Addr} {ns : List Int} {k : Int} (ha : EvA tg σ H [.ref a, .int k]) (hs : SqL K H a (ns.map V.int)) (h0 : 0 ≤ k) : Ev (tCall (sp_law_cell_at T) [] E tg) σ H (.int (cell ns k)) :=
  ev_callF ha fun _ e _ q => ⟨a, ns, k, rfl, h0, ex_l e hs, q⟩
local macro_rules | `(tactic| walk_at "ev") => `(tactic| ((with_reducible apply ev_cell); walk_at "ev"; assumption; omega))
theorem ok_law_cell_at (T : Txt K mg) : FnOk P w K mg base CX0 1 T.a_law_cell_at T.d_law_cell_at P_law_cell_at (sp_law_cell_at T) := by
  refine (T.F_law_cell_at).ok sc_law_cell_at (fun vs H Q E h => ?len) (fun cdv A outer s H vs Q E hr h => ⟨_, (pss_cons (ps_if (pt_cmpR op_lt (pv 1) (pe_callB call_len_seq rfl T.g_len boot_len (pa_cons (pv 0) pa_nil)) (nomark _)) (pss_one (ps_ret (pe_ix ix_list (pv 0) (pv 1) (fun _ _ => rfl)))) pss_nil)
    (pss_one (ps_ret pe_int))), ?read⟩)
  case len =>
    obtain ⟨a, ns, k, rfl, _⟩ := h
    rfl
  case read =>
    obtain ⟨a, ns, k, rfl, h0, hs, q⟩ := h
    show tSeq _ _ _ [some (.ref a), some (.int k)] H
    obtain ⟨k, rfl⟩ : ∃ n : Nat, k = n := ⟨k.toNat, by omega⟩
    refine b_when (Ex.refl H) (et_test (ev_op (ev_var rfl) (ev_len (ev_var rfl) hs) rv_I0)) (fun hb H1 e1 => ?_) (fun hb H1 e1 => ?_)
    · have h1 : k < ns.length := by simpa using hb
      have e : cell ns k = ns[k] := by simp [cell, h1]
      refine b_ret e1 (v := .int (cell ns k)) ?_ q
      refine ev_op (ev_var rfl) (ev_var rfl) (rv_ixL hs (atI_nat ?_))
      rw [e]
      simp [h1]
    · have h1 : ns.length ≤ k := by simpa using hb
      have e : cell ns k = 0 := by simp [cell, h1]
      rw [e] at q
      exact b_ret e1 ev_c q
/-! #### _law_whole -/
theorem sc_law_whole : FnScope N_law_whole P_law_whole (defScope s_law_whole) := ⟨rfl, rfl, rfl, by decide +kernel, rfl, by decide +kernel, by decide +kernel⟩
/-- whether an int is found -/
def sp_law_whole (_ : Txt K mg) : Sp := fun vs H Q _ => ∃ (n : Int), vs = [.int n] ∧ RetV (.bl true) H Q
theorem ev_whole {T : Txt K mg} {σ : L2.St} {H : Hp} {tg : TA} {E : XK} {n : Int} (ha : EvA tg σ H [.int n]) : Ev (tCall (sp_law_whole T) [] E tg) σ H (.bl true) :=
  ev_callF ha fun _ _ _ q => ⟨n, rfl, q⟩
local macro_rules | `(tactic| walk_at "ev") => `(tactic| ((with_reducible apply ev_whole); walk_at "ev"))
theorem ok_law_whole (T : Txt K mg) : FnOk P w K mg base CX0 1 T.a_law_whole T.d_law_whole P_law_whole (sp_law_whole T) := by
  refine (T.F_law_whole).ok sc_law_whole (fun vs H Q E h => ?len) (fun cdv A outer s H vs Q E hr h => ⟨_, (pss_one (ps_ret (pe_and (pe_callB call_isi rfl T.g_isinstance boot_isinstance (pa_cons (pv 0) (pa_cons (pe_bltn (v := .ty "int") rfl T.g_int boot_int rfl) pa_nil))) (pe_one (pe_not (pe_callB call_isi rfl T.g_isinstance boot_isinstance (pa_cons (pv 0) (pa_cons (pe_bltn (v := .ty "bool") rfl T.g_bool boot_bool rfl) pa_nil)))))))), ?read⟩)
  case len =>
    obtain ⟨n, rfl, _⟩ := h
    rfl
  case read =>
    obtain ⟨n, rfl, q⟩ := h
    refine s_ret (v := .bl (true && !false)) ?_ q
    refine ev_andV (ev_isi (ea_cons (ev_var rfl) (ea_cons ev_c ea_nil)) (.int n) (kit_ty (by decide +kernel))) fun _ => ev_notV (ev_isi (ea_cons (ev_var rfl) (ea_cons ev_c ea_nil)) (.int n) (kit_ty (by decide +kernel)))
/-! #### law -/
theorem sc_law : FnScope N_law P_law (defScope s_law) := ⟨rfl, rfl, rfl, by decide +kernel, rfl, by decide +kernel, by decide +kernel⟩
/-- what the law asks of a length n and k ones -/
theorem law_math (n k : Nat) (h0 : k ≠ 0) (h1 : k < n) : (bin n k : Int) = (bin (n - 1) (k - 1) : Int) + (bin (n - 1) k : Int) ∧ bin n (n - k) = bin n k ∧ 1 ≤ bin (n - 1) (k - 1) ∧ 1 ≤ bin (n - 1) k := by
  obtain ⟨m, rfl⟩ : ∃ m, n = m + 1 := ⟨n - 1, by omega⟩
  obtain ⟨j, rfl⟩ : ∃ j, k = j + 1 := ⟨k - 1, by omega⟩
  refine ⟨?_, bin_symm _ _ (by omega), bin_pos _ _ (by omega), bin_pos _ _ (by omega)⟩
  rw [bin_succ]
  simp
def sp_law (_ : Txt K mg) : Sp := spLawK K
theorem ok_law (T : Txt K mg) : FnOk P w K mg base CX0 2 T.a_law T.d_law P_law (sp_law T) := by
  have G_choose := ok_choose (P := P) (w := w) (base := base) T
  have G_law_cell_at := ok_law_cell_at (P := P) (w := w) (base := base) T
  have G_law_whole := ok_law_whole (P := P) (w := w) (base := base) T
  refine (T.F_law).ok sc_law (fun vs H Q E h => ?len) (fun cdv A outer s H vs Q E hr h => ⟨_, (pss_cons (ps_set (i := 1) sc_law.nd rfl (Or.inl rfl) (pe_op op_mod (pe_call G_law_cell_at (hr.mono (by decide)) rfl T.m_law_cell_at T.F_law_cell_at.kp T.b_law_cell_at .nil pass0 (pa_cons (pv 0) (pa_cons pe_int pa_nil))) pe_int))
    (pss_cons (ps_set (i := 2) sc_law.nd rfl (Or.inl rfl) (pe_op op_mod (pe_op op_fdivW (pe_call G_law_cell_at (hr.mono (by decide)) rfl T.m_law_cell_at T.F_law_cell_at.kp T.b_law_cell_at .nil pass0 (pa_cons (pv 0) (pa_cons pe_int pa_nil))) pe_int) pe_int))
    (pss_cons (ps_if (pt_cmpR op_eq (pe_op op_mod (pe_call G_law_cell_at (hr.mono (by decide)) rfl T.m_law_cell_at T.F_law_cell_at.kp T.b_law_cell_at .nil pass0 (pa_cons (pv 0) (pa_cons pe_int pa_nil))) pe_int) pe_int (nomark _)) (pss_one (ps_set (i := 2) sc_law.nd rfl (Or.inl rfl) (pe_callB (call_max2 rfl) rfl T.g_max boot_max (pa_cons pe_int (pa_cons (pe_op op_sub (pv 1) (pe_op op_mod (pe_op op_fdivW (pe_call G_law_cell_at (hr.mono (by decide)) rfl T.m_law_cell_at T.F_law_cell_at.kp T.b_law_cell_at .nil pass0 (pa_cons (pv 0) (pa_cons pe_int pa_nil))) pe_int) pe_int)) pa_nil))))) pss_nil)
    (pss_cons (ps_set (i := 3) sc_law.nd rfl (Or.inl rfl) (pe_call G_choose (hr.mono (by decide)) rfl T.m_choose T.F_choose.kp T.b_choose .nil pass0 (pa_cons (pv 1) (pa_cons (pv 2) pa_nil))))
    (pss_cons (ps_if (pt_not (pt_val (pe_call G_law_whole (hr.mono (by decide)) rfl T.m_law_whole T.F_law_whole.kp T.b_law_whole .nil pass0 (pa_cons (pv 3) pa_nil)))) (pss_one (ps_ret pe_bl)) pss_nil)
    (pss_cons (ps_if (pt_cmpR op_gt (pv 2) (pv 1) (nomark _)) (pss_one (ps_ret (pe_cmpR op_eq (pv 3) pe_int (nomark _)))) pss_nil)
    (pss_cons (ps_if (PW.pt (pw_or (pt_cmpR op_eq (pv 2) pe_int (nomark _)) (pw_or1 (pt_cmpR op_eq (pv 2) (pv 1) (nomark _))))) (pss_one (ps_ret (pe_cmpR op_eq (pv 3) pe_int (nomark _)))) pss_nil)
    (pss_cons (ps_set (i := 4) sc_law.nd rfl (Or.inl rfl) (pe_call G_choose (hr.mono (by decide)) rfl T.m_choose T.F_choose.kp T.b_choose .nil pass0 (pa_cons (pe_op op_sub (pv 1) pe_int) (pa_cons (pe_op op_sub (pv 2) pe_int) pa_nil))))
    (pss_cons (ps_set (i := 5) sc_law.nd rfl (Or.inl rfl) (pe_call G_choose (hr.mono (by decide)) rfl T.m_choose T.F_choose.kp T.b_choose .nil pass0 (pa_cons (pe_op op_sub (pv 1) pe_int) (pa_cons (pv 2) pa_nil))))
    (pss_cons (ps_if (PW.pt (pw_or (pt_not (pt_val (pe_call G_law_whole (hr.mono (by decide)) rfl T.m_law_whole T.F_law_whole.kp T.b_law_whole .nil pass0 (pa_cons (pv 4) pa_nil)))) (pw_or (pt_not (pt_val (pe_call G_law_whole (hr.mono (by decide)) rfl T.m_law_whole T.F_law_whole.kp T.b_law_whole .nil pass0 (pa_cons (pv 5) pa_nil)))) (pw_or (pt_cmpR op_lt (pv 4) pe_int (nomark _)) (pw_or1 (pt_cmpR op_lt (pv 5) pe_int (nomark _))))))) (pss_one (ps_ret pe_bl)) pss_nil)
    (pss_one (ps_ret (pe_and (pe_cmpR op_eq (pv 3) (pe_op op_add (pv 4) (pv 5)) (nomark _)) (pe_one (pe_cmpR op_eq (pv 3) (pe_call G_choose (hr.mono (by decide)) rfl T.m_choose T.F_choose.kp T.b_choose .nil pass0 (pa_cons (pv 1) (pa_cons (pe_op op_sub (pv 1) (pv 2)) pa_nil))) (nomark _)))))))))))))))), ?read⟩)
  case len =>
    obtain ⟨a, ns, rfl, _⟩ := h
    rfl
  case read =>
    obtain ⟨a, ns, rfl, hS, hlen, hbits, kq⟩ := h
    show tSeq _ _ _ [some (.ref a), none, none, none, none, none] H
    obtain ⟨n, hn, hn2⟩ : ∃ n : Nat, cell ns 0 % 201 = (n : Int) ∧ n ≤ 200 := ⟨(cell ns 0 % 201).toNat, by omega, by omega⟩
    refine b_asg (Ex.refl H) (v := .int (n : Int)) ?_ fun H1 e => ?_
    · rw [← hn]
      walk_at "ev"
    obtain ⟨k0, hk, hk2⟩ : ∃ n : Nat, cell ns 1 / 3 % 201 = (n : Int) ∧ n ≤ 200 := ⟨(cell ns 1 / 3 % 201).toNat, by omega, by omega⟩
    refine b_asg e (v := .int (k0 : Int)) ?_ fun H2 e => ?_
    · rw [← hk]
      walk_at "ev"
    -- the ones, one way or the other
    obtain ⟨k, hk', hk3⟩ : ∃ k : Nat, (if decide (cell ns 1 % 3 = 1) = true then (if (n : Int) - cell ns 1 / 3 % 3 > 0 then (n : Int) - cell ns 1 / 3 % 3 else 0) else (k0 : Int)) = (k : Int) ∧ k ≤ 200 := by
      split
      · split
        · exact ⟨((n : Int) - cell ns 1 / 3 % 3).toNat, by omega, by omega⟩
        · exact ⟨0, rfl, by omega⟩
      · exact ⟨k0, rfl, hk2⟩
    refine b_ifAsg (b := decide (cell ns 1 % 3 = 1)) e (v := .int (k : Int)) (by walk_at "ev") (fun hb => ?_) (fun hb => ?_) fun H3 e => ?_
    · rw [if_pos hb] at hk'
      rw [← hk']
      exact ev_cbv (vs := [.int 0, .int ((n : Int) - cell ns 1 / 3 % 3)]) (by walk_at "ev") fun H1 _ Q q => ⟨_, _, rfl, q⟩
    · rw [if_neg (by rw [hb]; decide)] at hk'
      have : k0 = k := by omega
      rw [this]
      rfl
    show tSeq _ _ _ [some (.ref a), some (.int (n : Int)), some (.int (k : Int)), none, none, none] H3
    refine b_asg e (ev_choose n k hn2 hk3 (by walk_at "ev")) fun H4 e => ?_
    refine b_skip e (by walk_at "ev") fun H5 e => ?_
    refine b_when e (by walk_at "ev") (fun hb H6 e => ?_) (fun hb H6 e => ?_)
    · have h1 : (n : Int) < k := by simpa using hb
      refine b_ret e (v := .bl (decide ((bin n k : Int) = 0))) (by walk_at "ev") fun H7 e => ?_
      rw [bin_over n k (by omega)]
      exact kq H7
    have h1 : ¬ (n : Int) < k := by simpa using hb
    refine b_when (b := decide ((k : Int) = 0) || decide ((k : Int) = n)) e (et_or (by walk_at "ev") fun _ => by walk_at "ev") (fun hb H7 e => ?_) (fun hb H7 e => ?_)
    · refine b_ret e (v := .bl (decide ((bin n k : Int) = 1))) (by walk_at "ev") fun H8 e => ?_
      have h2 : bin n k = 1 := by
        have : k = 0 ∨ k = n := by
          simp at hb
          omega
        rcases this with rfl | rfl
        · exact bin_zero _
        · exact bin_self _
      rw [h2]
      exact kq H8
    have h2 : k ≠ 0 ∧ k < n := by
      simp at hb
      omega
    obtain ⟨m1, m2, m3, m4⟩ := law_math n k h2.1 h2.2
    refine b_asg e (ev_choose (n - 1) (k - 1) (by omega) (by omega) ?_) fun H8 e => ?_
    · rw [show ((n - 1 : Nat) : Int) = (n : Int) - 1 by omega, show ((k - 1 : Nat) : Int) = (k : Int) - 1 by omega]
      walk_at "ev"
    refine b_asg e (ev_choose (n - 1) k (by omega) (by omega) ?_) fun H9 e => ?_
    · rw [show ((n - 1 : Nat) : Int) = (n : Int) - 1 by omega]
      walk_at "ev"
    refine b_skip e (et_or (by walk_at "ev") fun _ => et_or (by walk_at "ev") fun _ => et_or (by walk_at "ev") fun _ => by walk_at "ev") (fun H10 e => ?_) (by simp; omega)
    refine b_ret e (v := .bl (decide ((bin n k : Int) = (bin (n - 1) (k - 1) : Int) + (bin (n - 1) k : Int)) && decide ((bin n k : Int) = (bin n (n - k) : Int)))) (ev_andV (by walk_at "ev") fun _ => ?_) fun H11 e => ?_
    · refine ev_op (by walk_at "ev") (ev_choose n (n - k) (by omega) (by omega) ?_) rv_eqI
      rw [show ((n - k : Nat) : Int) = (n : Int) - k by omega]
      walk_at "ev"
    · rw [decide_eq_true m1, m2, decide_eq_true rfl]
      exact kq H11
end
/-! ### the end -/
theorem all_mk {l : PySem.W.OpenLaw} {w : World} {K : PySem.W.Frag} {h : Heap} {mg : Str → Option Value} {fa : Addr} (X : K.In h) (G : h.Ns mainGlobals mg) (hfa : mg "law" = some (.ref fa))
    {a_choose a_law_cell_at a_law_whole a_law : Addr} {od_choose an_choose od_law_cell_at an_law_cell_at od_law_whole an_law_whole od_law an_law : Option Addr} {sl_choose sl_law_cell_at sl_law_whole sl_law : Array (Option Value)} {oc_choose kV_choose dc_choose pm_choose cd_choose ct_choose oc_law_cell_at kV_law_cell_at dc_law_cell_at pm_law_cell_at cd_law_cell_at ct_law_cell_at oc_law_whole kV_law_whole dc_law_whole pm_law_whole cd_law_whole ct_law_whole oc_law kV_law dc_law pm_law cd_law ct_law : Value}
    (h_bool : PySem.W.nsIn K mainGlobals "bool" = some none)
    (h_int : PySem.W.nsIn K mainGlobals "int" = some none)
    (h_isinstance : PySem.W.nsIn K mainGlobals "isinstance" = some none)
    (h_len : PySem.W.nsIn K mainGlobals "len" = some none)
    (h_max : PySem.W.nsIn K mainGlobals "max" = some none)
    (h_min : PySem.W.nsIn K mainGlobals "min" = some none)
    (h_range : PySem.W.nsIn K mainGlobals "range" = some none)
    (n_choose : PySem.W.nsIn K mainGlobals "choose" = some (some (.ref a_choose)))
    (n_law_cell_at : PySem.W.nsIn K mainGlobals "_law_cell_at" = some (some (.ref a_law_cell_at)))
    (n_law_whole : PySem.W.nsIn K mainGlobals "_law_whole" = some (some (.ref a_law_whole)))
    (n_law : PySem.W.nsIn K mainGlobals "law" = some (some (.ref a_law)))
    (l_choose : K.lookup a_choose = some ⟨oc_choose, od_choose, .func (PySem.W.fnOf "choose" "choose" (defArgs s_choose) (defBody s_choose) (defScope s_choose) .none kV_choose dc_choose pm_choose an_choose cd_choose ct_choose), sl_choose⟩)
    (cc_choose : PySem.W.codeIn K cd_choose "choose" = true)
    (k_choose : PySem.W.keepIn K (.ref a_choose) = true)
    (l_law_cell_at : K.lookup a_law_cell_at = some ⟨oc_law_cell_at, od_law_cell_at, .func (PySem.W.fnOf "_law_cell_at" "_law_cell_at" (defArgs s_law_cell_at) (defBody s_law_cell_at) (defScope s_law_cell_at) .none kV_law_cell_at dc_law_cell_at pm_law_cell_at an_law_cell_at cd_law_cell_at ct_law_cell_at), sl_law_cell_at⟩)
    (cc_law_cell_at : PySem.W.codeIn K cd_law_cell_at "_law_cell_at" = true)
    (k_law_cell_at : PySem.W.keepIn K (.ref a_law_cell_at) = true)
    (l_law_whole : K.lookup a_law_whole = some ⟨oc_law_whole, od_law_whole, .func (PySem.W.fnOf "_law_whole" "_law_whole" (defArgs s_law_whole) (defBody s_law_whole) (defScope s_law_whole) .none kV_law_whole dc_law_whole pm_law_whole an_law_whole cd_law_whole ct_law_whole), sl_law_whole⟩)
    (cc_law_whole : PySem.W.codeIn K cd_law_whole "_law_whole" = true)
    (k_law_whole : PySem.W.keepIn K (.ref a_law_whole) = true)
    (l_law : K.lookup a_law = some ⟨oc_law, od_law, .func (PySem.W.fnOf "law" "law" (defArgs s_law) (defBody s_law) (defScope s_law) .none kV_law dc_law pm_law an_law cd_law ct_law), sl_law⟩)
    (cc_law : PySem.W.codeIn K cd_law "law" = true)
    (k_law : PySem.W.keepIn K (.ref a_law) = true)
    : ∃ fd : FuncData, (∀ (s : Shared) (v : Value), BindsTo s fd ⟨[v], []⟩ [("_law_script", v)]) ∧ ∀ base : Heap, K.In base → base.Ns mainGlobals mg → FnOk l.prog w K mg base CX0 2 fa fd P_law (spLawK K) := by
  have e := hfa.symm.trans (PySem.W.mg_of X G n_law)
  cases e
  refine ⟨PySem.W.fnOf "law" "law" (defArgs s_law) (defBody s_law) (defScope s_law) .none kV_law dc_law pm_law an_law cd_law ct_law, fun s v => .of_eq rfl, fun base _ _ => ?_⟩
  exact ok_law (T := {
    a_choose := a_choose
    d_choose := PySem.W.fnOf "choose" "choose" (defArgs s_choose) (defBody s_choose) (defScope s_choose) .none kV_choose dc_choose pm_choose an_choose cd_choose ct_choose
    a_law_cell_at := a_law_cell_at
    d_law_cell_at := PySem.W.fnOf "_law_cell_at" "_law_cell_at" (defArgs s_law_cell_at) (defBody s_law_cell_at) (defScope s_law_cell_at) .none kV_law_cell_at dc_law_cell_at pm_law_cell_at an_law_cell_at cd_law_cell_at ct_law_cell_at
    a_law_whole := a_law_whole
    d_law_whole := PySem.W.fnOf "_law_whole" "_law_whole" (defArgs s_law_whole) (defBody s_law_whole) (defScope s_law_whole) .none kV_law_whole dc_law_whole pm_law_whole an_law_whole cd_law_whole ct_law_whole
    a_law := fa
    d_law := PySem.W.fnOf "law" "law" (defArgs s_law) (defBody s_law) (defScope s_law) .none kV_law dc_law pm_law an_law cd_law ct_law
    g_bool := PySem.W.mg_none_of X G h_bool
    g_int := PySem.W.mg_none_of X G h_int
    g_isinstance := PySem.W.mg_none_of X G h_isinstance
    g_len := PySem.W.mg_none_of X G h_len
    g_max := PySem.W.mg_none_of X G h_max
    g_min := PySem.W.mg_none_of X G h_min
    g_range := PySem.W.mg_none_of X G h_range
    F_choose := fun_mk (st := s_choose) l_choose cc_choose k_choose
    b_choose := (fun_mk (st := s_choose) l_choose cc_choose k_choose).binds (ps := P_choose) fun _ _ _ _ _ _ us hl => match us, hl with | [_, _], _ => rfl
    m_choose := PySem.W.mg_of X G n_choose
    F_law_cell_at := fun_mk (st := s_law_cell_at) l_law_cell_at cc_law_cell_at k_law_cell_at
    b_law_cell_at := (fun_mk (st := s_law_cell_at) l_law_cell_at cc_law_cell_at k_law_cell_at).binds (ps := P_law_cell_at) fun _ _ _ _ _ _ us hl => match us, hl with | [_, _], _ => rfl
    m_law_cell_at := PySem.W.mg_of X G n_law_cell_at
    F_law_whole := fun_mk (st := s_law_whole) l_law_whole cc_law_whole k_law_whole
    b_law_whole := (fun_mk (st := s_law_whole) l_law_whole cc_law_whole k_law_whole).binds (ps := P_law_whole) fun _ _ _ _ _ _ us hl => match us, hl with | [_], _ => rfl
    m_law_whole := PySem.W.mg_of X G n_law_whole
    F_law := fun_mk (st := s_law) l_law cc_law k_law
    b_law := (fun_mk (st := s_law) l_law cc_law k_law).binds (ps := P_law) fun _ _ _ _ _ _ us hl => match us, hl with | [_], _ => rfl })
theorem walk {l : PySem.W.OpenLaw} {q : Program} {loose : List Str} {XP : (Str → Option Value) → Heap → Prop} {YP : World → Heap → Prop} {d : DefRec} {K : Params → PySem.W.Frag} (hn : l.most = some 63) (hdf : d.params.defaults = [])
    (hY : ∀ (w : World) (h : Heap), YP w h → (K w.params).In h)
    (F : ∀ (w : World) (mg : Str → Option Value) (fa : Addr) (h : Heap), (K w.params).In h → h.Ns mainGlobals mg → mg d.name = some (.ref fa) →
      ∃ fd : FuncData, (∀ (s : Shared) (u : Value), BindsTo s fd ⟨[u], []⟩ [("_law_script", u)]) ∧ ∀ base : Heap, (K w.params).In base → base.Ns mainGlobals mg → FnOk l.prog w (K w.params) mg base CX0 2 fa fd P_law (spLawK (K w.params))) :
    PySem.W.WalkO q loose XP YP l.row.toRowW d [] (fun f vs => PySem.call f vs) :=
  L2.walk_ofB (n := 63) (k := 2) (x := "_law_script") (CX := fun _ => CX0) (sp := fun w => spLawK (K w.params)) hn (by decide) hdf ⟨rfl, by decide, by decide⟩ hY F (fun _ _ a ns hl hb _ hS => ⟨a, ns, rfl, hS, hl, hb, fun _ => rfl⟩) fun _ _ _ _ _ z => z
end Mk
open PySem PySem.W PyProof.Rows in
set_option maxRecDepth 100000 in
set_option maxHeartbeats 0 in
theorem PySem.Challenge.cw_marksteps_k04_rows_counted_holds : PySem.Challenge.rw_marksteps_k04_rows_counted.Holds := by
  w_on; o_law; k_head; (case hw => w_witness2)
  k_fill
  refine Mk.walk (l := PySem.Challenge.rw_marksteps_k04_rows_counted) rfl rfl (fun w h Y => PySem.W.kIn_of Y) ?F
  case F =>
    intro w mg fa h KX G hmg
    refine' Mk.all_mk KX G hmg ?h_bool ?h_int ?h_isinstance ?h_len ?h_max ?h_min ?h_range ?n_choose ?n_law_cell_at ?n_law_whole ?n_law ?l_choose ?cc_choose ?k_choose ?l_law_cell_at ?cc_law_cell_at ?k_law_cell_at ?l_law_whole ?cc_law_whole ?k_law_whole ?l_law ?cc_law ?k_law
    (case h_bool => k_is)
    (case h_int => k_is)
    (case h_isinstance => k_is)
    (case h_len => k_is)
    (case h_max => k_is)
    (case h_min => k_is)
    (case h_range => k_is)
    (case n_choose => k_is)
    (case n_law_cell_at => k_is)
    (case n_law_whole => k_is)
    (case n_law => k_is)
    (case l_choose => k_is)
    (case cc_choose => k_is)
    (case k_choose => k_is)
    (case l_law_cell_at => k_is)
    (case cc_law_cell_at => k_is)
    (case k_law_cell_at => k_is)
    (case l_law_whole => k_is)
    (case cc_law_whole => k_is)
    (case k_law_whole => k_is)
    (case l_law => k_is)
    (case cc_law => k_is)
    (case k_law => k_is)
