import PyProof.Rows.All
import Wide.All
import OpenK.AllK
import Wide.FinOn
import HandS.ForMost
import HandS.ForExc
import HandS.Evl
import HandS.Wide
import HandS.WideBits
import HandS.IsInst
import HandS.ClsMeth
import HandS.Defaults
import HandS.EndBits
import HandS.More
import HandS.Rev
import HandS.RevTup
import PySem.Challenge.RW_marksteps_k08_whole_walk
set_option Elab.async false
set_option linter.all false
set_option maxRecDepth 100000
set_option maxHeartbeats 4000000
namespace Mk
/-! ### turning lists: rows by places -/
/-- the row at a place -/
def trow (s : Int) : Nat → Int → List Int
  | 0, _ => []
  | n + 1, p => (p % s - p / s % s) % s :: trow s n (p / s)
/-- the place of a row -/
def tplace (s : Int) : List Int → Int
  | [] => 0
  | m :: r => tplace s r * s + (tplace s r % s + m) % s
/-- where the next row differs -/
def tspot (s : Int) : Nat → Int → Nat
  | 0, _ => 0
  | 1, _ => 0
  | n + 2, p => if p % s = s - 1 then tspot s (n + 1) (p / s) + 1 else 0
def Marks (s : Int) (l : List Int) : Prop := ∀ m ∈ l, 0 ≤ m ∧ m < s

theorem trow_len (s : Int) : ∀ (n : Nat) (p : Int), (trow s n p).length = n
  | 0, _ => rfl
  | n + 1, p => by
    show (trow s n (p / s)).length + 1 = n + 1
    rw [trow_len s n]
theorem trow_marks {s : Int} (hs : 0 < s) : ∀ (n : Nat) (p : Int), Marks s (trow s n p)
  | 0, _, m, h => by cases h
  | n + 1, p, m, h => by
    rcases List.mem_cons.mp h with h | h
    · subst h
      exact ⟨Int.emod_nonneg _ (by omega), Int.emod_lt_of_pos _ hs⟩
    · exact trow_marks hs n _ m h

theorem pow_succ' (s : Int) (n : Nat) : s ^ (n + 1) = s ^ n * s := Int.pow_succ s n
theorem pow_pos' {s : Int} (hs : 0 < s) (n : Nat) : 0 < s ^ n := Int.pow_pos hs
theorem div_lt_pow {s p : Int} {n : Nat} (hs : 0 < s) (h : p < s ^ (n + 1)) : p / s < s ^ n := by
  rw [Int.pow_succ] at h
  exact Int.ediv_lt_of_lt_mul hs h
theorem div_nonneg' {s p : Int} (hs : 0 < s) (h : 0 ≤ p) : 0 ≤ p / s := Int.ediv_nonneg h (Int.le_of_lt hs)
theorem div_parts (p s : Int) : p / s * s + p % s = p := by
  have h := Int.ediv_mul_add_emod p s
  omega
theorem add_mod_left (a b s : Int) : (a % s + b) % s = (a + b) % s := Int.emod_add_emod a s b
theorem add_mod_right (a b s : Int) : (a + b % s) % s = (a + b) % s := Int.add_emod_emod a b s
theorem tplace_trow {s : Int} (hs : 0 < s) : ∀ (n : Nat) (p : Int), 0 ≤ p → p < s ^ n → tplace s (trow s n p) = p
  | 0, p, h0, h1 => by
    have : (s ^ 0 : Int) = 1 := Int.pow_zero s
    show (0 : Int) = p
    omega
  | n + 1, p, h0, h1 => by
    have ih := tplace_trow hs n (p / s) (div_nonneg' hs h0) (div_lt_pow hs h1)
    show tplace s (trow s n (p / s)) * s + (tplace s (trow s n (p / s)) % s + (p % s - p / s % s) % s) % s = p
    rw [ih, add_mod_right]
    have e : p / s % s + (p % s - p / s % s) = p % s := by omega
    rw [e, Int.emod_emod_of_dvd _ (Int.dvd_refl s)]
    exact div_parts p s
theorem mul_add_div {q r s : Int} (hs : 0 < s) (h0 : 0 ≤ r) (h1 : r < s) : (q * s + r) / s = q := by
  rw [Int.add_comm, Int.add_mul_ediv_right _ _ (by omega), Int.ediv_eq_zero_of_lt h0 h1]
  omega
theorem mul_add_mod {q r s : Int} (hs : 0 < s) (h0 : 0 ≤ r) (h1 : r < s) : (q * s + r) % s = r := by
  rw [Int.add_comm, Int.add_mul_emod_self_right, Int.emod_eq_of_lt h0 h1]
theorem trow_tplace {s : Int} (hs : 0 < s) : ∀ (l : List Int), Marks s l → trow s l.length (tplace s l) = l
  | [], _ => rfl
  | m :: r, h => by
    have ih := trow_tplace hs r fun x hx => h x (List.mem_cons_of_mem _ hx)
    obtain ⟨m0, m1⟩ := h m List.mem_cons_self
    show ((tplace s r * s + (tplace s r % s + m) % s) % s - (tplace s r * s + (tplace s r % s + m) % s) / s % s) % s :: trow s r.length ((tplace s r * s + (tplace s r % s + m) % s) / s) = m :: r
    have a0 := Int.emod_nonneg (tplace s r % s + m) (show s ≠ 0 by omega)
    have a1 := Int.emod_lt_of_pos (tplace s r % s + m) hs
    rw [mul_add_div hs a0 a1, mul_add_mod hs a0 a1, ih]
    have e : ((tplace s r % s + m) % s - tplace s r % s) % s = m := by
      rw [show (tplace s r % s + m) % s - tplace s r % s = (tplace s r % s + m) % s + -(tplace s r % s) by omega, add_mod_left]
      rw [show tplace s r % s + m + -(tplace s r % s) = m by omega]
      exact Int.emod_eq_of_lt m0 m1
    rw [e]
theorem tplace_nonneg {s : Int} (hs : 0 < s) : ∀ (l : List Int), 0 ≤ tplace s l
  | [] => Int.le_refl 0
  | m :: r => by
    have a0 := Int.emod_nonneg (tplace s r % s + m) (show s ≠ 0 by omega)
    have := Int.mul_nonneg (tplace_nonneg hs r) (Int.le_of_lt hs)
    show 0 ≤ tplace s r * s + (tplace s r % s + m) % s
    omega
theorem tplace_lt {s : Int} (hs : 0 < s) : ∀ (l : List Int), tplace s l < s ^ l.length
  | [] => by
    show (0 : Int) < s ^ 0
    exact Int.pow_pos hs
  | m :: r => by
    have a1 := Int.emod_lt_of_pos (tplace s r % s + m) hs
    have ih := tplace_lt hs r
    show tplace s r * s + (tplace s r % s + m) % s < s ^ (r.length + 1)
    rw [Int.pow_succ]
    have h : (tplace s r + 1) * s ≤ s ^ r.length * s := Int.mul_le_mul_of_nonneg_right (by omega) (by omega)
    rw [Int.add_mul] at h
    omega
theorem tplace_inj {s : Int} (hs : 0 < s) {l l' : List Int} (h : Marks s l) (h' : Marks s l') (e : l.length = l'.length) (q : tplace s l = tplace s l') : l = l' := by
  rw [← trow_tplace hs l h, ← trow_tplace hs l' h', e, q]
theorem trow_inj {s : Int} (hs : 0 < s) {n : Nat} {p q : Int} (p0 : 0 ≤ p) (p1 : p < s ^ n) (q0 : 0 ≤ q) (q1 : q < s ^ n) (e : trow s n p = trow s n q) : p = q := by
  rw [← tplace_trow hs n p p0 p1, ← tplace_trow hs n q q0 q1, e]
/-! the figures -/
theorem trow_get {s : Int} (hs : 0 < s) : ∀ (n : Nat) (p : Int) (k : Nat), k < n → (trow s n p)[k]? = some ((p / s ^ k % s - p / s ^ (k + 1) % s) % s)
  | n + 1, p, 0, _ => by
    show some _ = _
    rw [Int.pow_zero, Int.ediv_one, show s ^ (0 + 1) = s from by rw [Int.pow_succ, Int.pow_zero, Int.one_mul]]
  | n + 1, p, k + 1, h => by
    show (trow s n (p / s))[k]? = _
    rw [trow_get hs n (p / s) k (by omega)]
    rw [Int.ediv_ediv_of_nonneg (Int.le_of_lt hs), Int.ediv_ediv_of_nonneg (Int.le_of_lt hs)]
    rw [show s * s ^ k = s ^ (k + 1) from by rw [Int.pow_succ, Int.mul_comm], show s * s ^ (k + 1) = s ^ (k + 1 + 1) from by rw [Int.pow_succ s (k + 1), Int.mul_comm]]
/-! the next row -/
theorem tspot_lt (s : Int) : ∀ (n : Nat) (p : Int), 0 < n → tspot s n p < n
  | 1, _, _ => Nat.one_pos
  | n + 2, p, _ => by
    unfold tspot
    split
    · have := tspot_lt s (n + 1) (p / s) (Nat.succ_pos n)
      omega
    · omega
theorem mul_mod_mul {a b s : Int} (hs : 0 < s) : a * s % (b * s) = a % b * s := by
  rw [Int.mul_comm a s, Int.mul_comm b s, Int.mul_emod_mul_of_pos _ _ hs, Int.mul_comm]
theorem next_div {s p : Int} {n : Nat} (hs : 1 < s) (h0 : 0 ≤ p) (h1 : p < s ^ (n + 1)) (hm : p % s = s - 1) : (p + 1) % s ^ (n + 1) / s = (p / s + 1) % s ^ n ∧ (p + 1) % s ^ (n + 1) % s = 0 := by
  have hp := div_parts p s
  have e1 : p + 1 = (p / s + 1) * s := by
    rw [Int.add_mul]
    omega
  rw [e1, Int.pow_succ, mul_mod_mul (by omega)]
  exact ⟨Int.mul_ediv_cancel _ (by omega), Int.mul_emod_left _ _⟩
theorem trow_next {s : Int} (hs : 1 < s) : ∀ (n : Nat) (p : Int), 0 < n → 0 ≤ p → p < s ^ n →
    trow s n ((p + 1) % s ^ n) = (trow s n p).modify (tspot s n p) fun m => (m + 1) % s
  | 1, p, _, h0, h1 => by
    rw [show s ^ 1 = s by rw [Int.pow_succ, Int.pow_zero, Int.one_mul]] at *
    have z : ∀ q : Int, 0 ≤ q → q < s → trow s 1 q = [q] := fun q q0 q1 => by
      show [(q % s - q / s % s) % s] = [q]
      rw [Int.ediv_eq_zero_of_lt q0 q1, Int.zero_emod, Int.emod_eq_of_lt q0 q1, Int.sub_zero, Int.emod_eq_of_lt q0 q1]
    rw [z p h0 h1, z _ (Int.emod_nonneg _ (by omega)) (Int.emod_lt_of_pos _ (by omega))]
    rfl
  | n + 2, p, _, h0, h1 => by
    have hp := div_parts p s
    have m0 := Int.emod_nonneg p (show s ≠ 0 by omega)
    have m1 := Int.emod_lt_of_pos p (show 0 < s by omega)
    by_cases hm : p % s = s - 1
    · obtain ⟨e1, e2⟩ := next_div (n := n + 1) hs h0 h1 hm
      have ih := trow_next hs (n + 1) (p / s) (Nat.succ_pos n) (div_nonneg' (by omega) h0) (div_lt_pow (by omega) h1)
      have es : tspot s (n + 2) p = tspot s (n + 1) (p / s) + 1 := if_pos hm
      rw [es]
      show ((p + 1) % s ^ (n + 1 + 1) % s - (p + 1) % s ^ (n + 1 + 1) / s % s) % s :: trow s (n + 1) ((p + 1) % s ^ (n + 1 + 1) / s) = (p % s - p / s % s) % s :: (trow s (n + 1) (p / s)).modify (tspot s (n + 1) (p / s)) fun m => (m + 1) % s
      rw [e1, e2, ih, hm]
      congr 1
      rw [Int.emod_emod_of_dvd _ ⟨s ^ n, by rw [Int.pow_succ, Int.mul_comm]⟩]
      rw [show (0 : Int) - (p / s + 1) % s = 0 + -((p / s + 1) % s) by omega]
      have k1 : (s - 1 - p / s % s) % s = (s - 1 - p / s) % s := by
        rw [Int.sub_emod, Int.emod_emod_of_dvd _ (Int.dvd_refl s), ← Int.sub_emod]
      have k2 : (0 + -((p / s + 1) % s)) % s = (-(p / s + 1)) % s := by
        rw [show (0 : Int) + -((p / s + 1) % s) = 0 - (p / s + 1) % s by omega, Int.sub_emod, Int.emod_emod_of_dvd _ (Int.dvd_refl s), ← Int.sub_emod]
        congr 1
        omega
      rw [k1, k2, show s - 1 - p / s = -(p / s + 1) + s by omega, Int.add_emod_right]
    · have es : tspot s (n + 2) p = 0 := if_neg hm
      have d1 : (p + 1) / s = p / s := by
        conv => lhs; rw [show p + 1 = p / s * s + (p % s + 1) by omega]
        exact mul_add_div (by omega) (by omega) (by omega)
      have d2 : (p + 1) % s = p % s + 1 := by
        conv => lhs; rw [show p + 1 = p / s * s + (p % s + 1) by omega]
        exact mul_add_mod (by omega) (by omega) (by omega)
      have lt : p + 1 < s ^ (n + 1 + 1) := by
        have q := div_lt_pow (n := n + 1) (show 0 < s by omega) h1
        have t : (p / s + 1) * s ≤ s ^ (n + 1) * s := Int.mul_le_mul_of_nonneg_right (by omega) (by omega)
        have t2 : (p / s + 1) * s = p / s * s + s := by rw [Int.add_mul, Int.one_mul]
        rw [Int.pow_succ s (n + 1)]
        omega
      rw [es, Int.emod_eq_of_lt (by omega) lt]
      show ((p + 1) % s - (p + 1) / s % s) % s :: trow s (n + 1) ((p + 1) / s) = ((p % s - p / s % s) % s + 1) % s :: trow s (n + 1) (p / s)
      rw [d1, d2, add_mod_left]
      congr 2
      omega
end Mk
namespace Mk
/-! ### choosing lists -/
/-- how many rows -/
def bin : Nat → Nat → Nat
  | _, 0 => 1
  | 0, _ + 1 => 0
  | n + 1, k + 1 => bin n k + bin n (k + 1)
theorem bin_zero (n : Nat) : bin n 0 = 1 := by cases n <;> rfl
theorem bin_over : ∀ (n k : Nat), n < k → bin n k = 0
  | 0, k + 1, _ => rfl
  | n + 1, k + 1, h => by
    show bin n k + bin n (k + 1) = 0
    rw [bin_over n k (by omega), bin_over n (k + 1) (by omega)]
theorem bin_self : ∀ n : Nat, bin n n = 1
  | 0 => rfl
  | n + 1 => by
    show bin n n + bin n (n + 1) = 1
    rw [bin_self n, bin_over n (n + 1) (by omega)]
theorem bin_pos : ∀ (n k : Nat), k ≤ n → 0 < bin n k
  | n, 0, _ => by rw [bin_zero]; omega
  | n + 1, k + 1, h => by
    have := bin_pos n k (by omega)
    show 0 < bin n k + bin n (k + 1)
    omega
theorem bin_succ (n k : Nat) : bin (n + 1) (k + 1) = bin n k + bin n (k + 1) := rfl
/-- (k + 1) * bin n (k + 1) = (n - k) * bin n k, over the ints -/
theorem bin_up : ∀ (n k : Nat), (bin n (k + 1) : Int) * ((k : Int) + 1) = (bin n k : Int) * ((n : Int) - (k : Int))
  | 0, 0 => rfl
  | 0, k + 1 => by
    show ((0 : Nat) : Int) * _ = ((0 : Nat) : Int) * _
    omega
  | n + 1, 0 => by
    have ih := bin_up n 0
    rw [bin_succ, bin_zero, bin_zero] at *
    simp only [Int.natCast_add, Int.natCast_one, Int.natCast_zero] at *
    omega
  | n + 1, k + 1 => by
    have i1 := bin_up n k
    have i2 := bin_up n (k + 1)
    rw [bin_succ n (k + 1), bin_succ n k]
    simp only [Int.natCast_add, Int.natCast_one] at *
    generalize (bin n k : Int) = a at *
    generalize (bin n (k + 1) : Int) = b at *
    generalize (bin n (k + 1 + 1) : Int) = c at *
    generalize (n : Int) = m at *
    generalize (k : Int) = j at *
    -- b (j+1) = a (m-j); c (j+2) = b (m-j-1); goal (b + c) (j+2) = (a+b)(m+1-j-1)
    have e1 : (b + c) * (j + 1 + 1) = b * (j + 1) + b + c * (j + 1 + 1) := by
      rw [Int.add_mul b c, Int.mul_add b (j + 1) 1, Int.mul_one]
    have e2 : (a + b) * (m + 1 - (j + 1)) = a * (m - j) + b * (m - (j + 1)) + b := by
      rw [show m + 1 - (j + 1) = m - j by omega, Int.add_mul, show m - j = m - (j + 1) + 1 by omega, Int.mul_add b, Int.mul_one]
      omega
    omega
/-- n-th times: bin (n + 1) k * (n + 1 - k) = bin n k * (n + 1) -/
theorem bin_down (n k : Nat) : (bin (n + 1) k : Int) * ((n : Int) + 1 - (k : Int)) = (bin n k : Int) * ((n : Int) + 1) := by
  cases k with
  | zero =>
    rw [bin_zero, bin_zero]
    simp only [Int.natCast_zero]
    omega
  | succ k =>
    have i1 := bin_up n k
    rw [bin_succ]
    simp only [Int.natCast_add, Int.natCast_one] at *
    generalize (bin n k : Int) = a at *
    generalize (bin n (k + 1) : Int) = b at *
    generalize (n : Int) = m at *
    generalize (k : Int) = j at *
    have e1 : (a + b) * (m + 1 - (j + 1)) = a * (m - j) + b * (m - j) := by
      rw [show m + 1 - (j + 1) = m - j by omega, Int.add_mul]
    have e2 : b * (m + 1) = b * (m - j) + b * (j + 1) := by
      rw [← Int.mul_add]
      congr 1
      omega
    omega
/-- bin (n + 1) (k + 1) * (k + 1) = bin n k * (n + 1) -/
theorem bin_diag (n k : Nat) : (bin (n + 1) (k + 1) : Int) * ((k : Int) + 1) = (bin n k : Int) * ((n : Int) + 1) := by
  have i1 := bin_up n k
  rw [bin_succ]
  simp only [Int.natCast_add, Int.natCast_one] at *
  generalize (bin n k : Int) = a at *
  generalize (bin n (k + 1) : Int) = b at *
  generalize (n : Int) = m at *
  generalize (k : Int) = j at *
  have e1 : (a + b) * (j + 1) = a * (j + 1) + b * (j + 1) := Int.add_mul _ _ _
  have e2 : a * (m + 1) = a * (m - j) + a * (j + 1) := by
    rw [← Int.mul_add]
    congr 1
    omega
  omega
theorem bin_symm : ∀ (n k : Nat), k ≤ n → bin n (n - k) = bin n k
  | 0, 0, _ => rfl
  | n + 1, 0, _ => by
    rw [Nat.sub_zero, bin_self, bin_zero]
  | n + 1, k + 1, h => by
    have e : n + 1 - (k + 1) = n - k := by omega
    rw [e]
    by_cases hk : n - k = 0
    · have : k = n := by omega
      subst this
      rw [hk, bin_zero, bin_self]
    · obtain ⟨j, hj⟩ : ∃ j, n - k = j + 1 := ⟨n - k - 1, by omega⟩
      rw [hj, bin_succ, bin_succ]
      have a := bin_symm n k (by omega)
      have b := bin_symm n (k + 1) (by omega)
      rw [hj] at a
      rw [show n - (k + 1) = j by omega] at b
      omega
theorem bin_le_pow : ∀ (n k : Nat), bin n k ≤ 2 ^ n
  | n, 0 => by rw [bin_zero]; exact Nat.one_le_two_pow
  | 0, k + 1 => Nat.zero_le _
  | n + 1, k + 1 => by
    have a := bin_le_pow n k
    have b := bin_le_pow n (k + 1)
    rw [bin_succ, Nat.pow_succ]
    omega
/-- exact divisions -/
theorem div_exact {a b c : Int} (hb : 0 < b) (h : c * b = a) : a / b = c := by
  rw [← h]
  exact Int.mul_ediv_cancel _ (by omega)
theorem bin_up_div (n k : Nat) : (bin n k : Int) * ((n : Int) - (k : Int)) / ((k : Int) + 1) = (bin n (k + 1) : Int) := div_exact (by omega) (bin_up n k)
theorem bin_down_div (n k : Nat) : (bin (n + 1) k : Int) * ((n : Int) + 1 - (k : Int)) / ((n : Int) + 1) = (bin n k : Int) := by
  rw [bin_down]
  exact Int.mul_ediv_cancel _ (by omega)
theorem bin_zero_div (n k : Nat) (h : k ≤ n) : (bin n k : Int) * ((n : Int) + 1) / ((n : Int) + 1 - (k : Int)) = (bin (n + 1) k : Int) := div_exact (by omega) (bin_down n k)
theorem bin_one_div (n k : Nat) : (bin n k : Int) * ((n : Int) + 1) / ((k : Int) + 1) = (bin (n + 1) (k + 1) : Int) := div_exact (by omega) (bin_diag n k)

/-! ### rows of ones -/
/-- a row is told from its last spot on: crev n k p is the row at the place p, backwards -/
def crev : Nat → Nat → Int → List Int
  | 0, _, _ => []
  | n + 1, k, p => if p < (bin n k : Int) then 0 :: crev n k p else 1 :: crev n (k - 1) ((bin (n + 1) k : Int) - 1 - p)
/-- the place of a row told backwards, and its ones -/
def ones : List Int → Nat
  | [] => 0
  | m :: r => if m = 1 then ones r + 1 else ones r
def cpl : List Int → Int
  | [] => 0
  | m :: r => if m = 1 then (bin (r.length + 1) (ones r + 1) : Int) - 1 - cpl r else cpl r
theorem ones_cons (m : Int) (r : List Int) : ones (m :: r) = if m = 1 then ones r + 1 else ones r := rfl
theorem cpl_cons (m : Int) (r : List Int) : cpl (m :: r) = if m = 1 then (bin (r.length + 1) (ones r + 1) : Int) - 1 - cpl r else cpl r := rfl
def Bits (l : List Int) : Prop := ∀ m ∈ l, m = 0 ∨ m = 1
def crow (n k : Nat) (p : Int) : List Int := (crev n k p).reverse
def cplace (l : List Int) : Int := cpl l.reverse
theorem crev_len : ∀ (n k : Nat) (p : Int), (crev n k p).length = n
  | 0, _, _ => rfl
  | n + 1, k, p => by
    unfold crev
    split
    · exact congrArg (· + 1) (crev_len n k p)
    · exact congrArg (· + 1) (crev_len n (k - 1) _)
theorem crev_bits : ∀ (n k : Nat) (p : Int), Bits (crev n k p)
  | 0, _, _, _, h => by cases h
  | n + 1, k, p, m, h => by
    unfold crev at h
    split at h
    · rcases List.mem_cons.mp h with h | h
      · exact .inl h
      · exact crev_bits n k p m h
    · rcases List.mem_cons.mp h with h | h
      · exact .inr h
      · exact crev_bits n (k - 1) _ m h
theorem ones_le : ∀ l : List Int, ones l ≤ l.length
  | [] => Nat.le_refl _
  | m :: r => by
    have := ones_le r
    unfold ones
    rw [List.length_cons]
    split <;> omega
/-- what a turn of row_at needs -/
theorem crev_low {n k : Nat} {p : Int} (h : p < (bin n k : Int)) : crev (n + 1) k p = 0 :: crev n k p := if_pos h
theorem crev_high {n k : Nat} {p : Int} (h : ¬ p < (bin n k : Int)) : crev (n + 1) k p = 1 :: crev n (k - 1) ((bin (n + 1) k : Int) - 1 - p) := if_neg h
theorem high_one {n k : Nat} {p : Int} (h : ¬ p < (bin n k : Int)) (h1 : p < (bin (n + 1) k : Int)) : ∃ j, k = j + 1 := by
  cases k with
  | zero =>
    rw [bin_zero] at *
    omega
  | succ j => exact ⟨j, rfl⟩
theorem crev_ones : ∀ (n k : Nat) (p : Int), 0 ≤ p → p < (bin n k : Int) → ones (crev n k p) = k
  | 0, k, p, h0, h1 => by
    cases k with
    | zero => rfl
    | succ k =>
      have : (bin 0 (k + 1) : Int) = 0 := rfl
      omega
  | n + 1, k, p, h0, h1 => by
    by_cases h : p < (bin n k : Int)
    · rw [crev_low h]
      exact crev_ones n k p h0 h
    · obtain ⟨j, rfl⟩ := high_one h h1
      rw [crev_high h]
      have e := bin_succ n j
      show ones (crev n j _) + 1 = j + 1
      rw [crev_ones n j _ (by omega) (by omega)]
theorem cpl_nonneg_lt : ∀ l : List Int, 0 ≤ cpl l ∧ cpl l < (bin l.length (ones l) : Int)
  | [] => ⟨Int.le_refl 0, by decide⟩
  | m :: r => by
    obtain ⟨a, b⟩ := cpl_nonneg_lt r
    have e := bin_succ r.length (ones r)
    rw [cpl_cons, ones_cons, List.length_cons]
    split
    · omega
    · have : bin r.length (ones r) ≤ bin (r.length + 1) (ones r) := by
        cases ones r with
        | zero => rw [bin_zero, bin_zero]; omega
        | succ j => rw [bin_succ]; omega
      omega
theorem cpl_crev : ∀ (n k : Nat) (p : Int), 0 ≤ p → p < (bin n k : Int) → cpl (crev n k p) = p
  | 0, k, p, h0, h1 => by
    show (0 : Int) = p
    cases k with
    | zero =>
      have : (bin 0 0 : Int) = 1 := rfl
      omega
    | succ k =>
      have : (bin 0 (k + 1) : Int) = 0 := rfl
      omega
  | n + 1, k, p, h0, h1 => by
    by_cases h : p < (bin n k : Int)
    · rw [crev_low h]
      exact cpl_crev n k p h0 h
    · obtain ⟨j, rfl⟩ := high_one h h1
      rw [crev_high h]
      have e := bin_succ n j
      have b0 : (0 : Int) ≤ (bin (n + 1) (j + 1) : Int) - 1 - p := by omega
      have b1 : (bin (n + 1) (j + 1) : Int) - 1 - p < (bin n j : Int) := by omega
      show (bin ((crev n j _).length + 1) (ones (crev n j _) + 1) : Int) - 1 - cpl (crev n j _) = p
      rw [crev_len, crev_ones n j _ b0 b1, cpl_crev n j _ b0 b1]
      omega
theorem crev_cpl : ∀ (l : List Int), Bits l → crev l.length (ones l) (cpl l) = l
  | [], _ => rfl
  | m :: r, h => by
    have hr : Bits r := fun x hx => h x (List.mem_cons_of_mem _ hx)
    have ih := crev_cpl r hr
    obtain ⟨a, b⟩ := cpl_nonneg_lt r
    have e := bin_succ r.length (ones r)
    rcases h m List.mem_cons_self with rfl | rfl
    · show crev (r.length + 1) (ones r) (cpl r) = 0 :: r
      rw [crev_low b, ih]
    · show crev (r.length + 1) (ones r + 1) ((bin (r.length + 1) (ones r + 1) : Int) - 1 - cpl r) = 1 :: r
      have hn : ¬ (bin (r.length + 1) (ones r + 1) : Int) - 1 - cpl r < (bin r.length (ones r + 1) : Int) := by omega
      rw [crev_high hn, show ones r + 1 - 1 = ones r from rfl]
      rw [show (bin (r.length + 1) (ones r + 1) : Int) - 1 - ((bin (r.length + 1) (ones r + 1) : Int) - 1 - cpl r) = cpl r by omega, ih]
/-! forwards -/
theorem ones_append : ∀ (l r : List Int), ones (l ++ r) = ones l + ones r
  | [], r => by simp [ones]
  | m :: l, r => by
    have ih := ones_append l r
    rw [List.cons_append, ones_cons, ones_cons, ih]
    split <;> omega
theorem ones_reverse : ∀ l : List Int, ones l.reverse = ones l
  | [] => rfl
  | m :: r => by
    rw [List.reverse_cons, ones_append, ones_reverse r]
    show _ + (if m = 1 then 0 + 1 else 0) = if m = 1 then ones r + 1 else ones r
    split <;> omega
theorem bits_reverse {l : List Int} (h : Bits l) : Bits l.reverse := fun m hm => h m (List.mem_reverse.mp hm)
theorem crow_len (n k : Nat) (p : Int) : (crow n k p).length = n := by
  unfold crow
  rw [List.length_reverse, crev_len]
theorem crow_bits (n k : Nat) (p : Int) : Bits (crow n k p) := bits_reverse (crev_bits n k p)
theorem crow_ones {n k : Nat} {p : Int} (h0 : 0 ≤ p) (h1 : p < (bin n k : Int)) : ones (crow n k p) = k := by
  unfold crow
  rw [ones_reverse, crev_ones n k p h0 h1]
theorem cplace_crow {n k : Nat} {p : Int} (h0 : 0 ≤ p) (h1 : p < (bin n k : Int)) : cplace (crow n k p) = p := by
  unfold cplace crow
  rw [List.reverse_reverse, cpl_crev n k p h0 h1]
theorem crow_cplace {l : List Int} (h : Bits l) : crow l.length (ones l) (cplace l) = l := by
  have e := crev_cpl l.reverse (bits_reverse h)
  rw [List.length_reverse, ones_reverse] at e
  unfold crow cplace
  rw [e, List.reverse_reverse]
theorem cplace_nonneg (l : List Int) : 0 ≤ cplace l := (cpl_nonneg_lt l.reverse).1
theorem cplace_lt (l : List Int) : cplace l < (bin l.length (ones l) : Int) := by
  have h := (cpl_nonneg_lt l.reverse).2
  rw [List.length_reverse, ones_reverse] at h
  exact h
theorem cplace_inj {l l' : List Int} (h : Bits l) (h' : Bits l') (e : l.length = l'.length) (o : ones l = ones l') (q : cplace l = cplace l') : l = l' := by
  rw [← crow_cplace h, ← crow_cplace h', e, o, q]
/-- one more spot behind -/
theorem cplace_zero (l : List Int) : cplace (l ++ [0]) = cplace l := by
  unfold cplace
  rw [List.reverse_append]
  rfl
theorem cplace_one (l : List Int) : cplace (l ++ [1]) = (bin (l.length + 1) (ones l + 1) : Int) - 1 - cplace l := by
  unfold cplace
  rw [List.reverse_append]
  show (bin (l.reverse.length + 1) (ones l.reverse + 1) : Int) - 1 - cpl l.reverse = _
  rw [List.length_reverse, ones_reverse]
/-- ones and sums -/
theorem bits_sum : ∀ {l : List Int}, Bits l → l.sum = (ones l : Int)
  | [], _ => rfl
  | m :: r, h => by
    have ih := bits_sum (l := r) fun x hx => h x (List.mem_cons_of_mem _ hx)
    rw [List.sum_cons, ih]
    rcases h m List.mem_cons_self with rfl | rfl
    · show (0 : Int) + ones r = (ones r : Int)
      omega
    · show (1 : Int) + ones r = ((ones r + 1 : Nat) : Int)
      omega
/-! ### spots that differ -/
theorem filter_one : ∀ (n j : Nat) (p : Nat → Bool), j < n → (∀ k, k < n → (p k = true ↔ k = j)) → (List.range n).filter p = [j]
  | n + 1, j, p, hj, h => by
    rw [List.range_succ, List.filter_append]
    by_cases e : j = n
    · subst e
      have h1 : (List.range j).filter p = [] := by
        rw [List.filter_eq_nil_iff]
        intro k hk
        have hk' := List.mem_range.mp hk
        rw [h k (by omega)]
        omega
      have h2 : p j = true := (h j (by omega)).mpr rfl
      rw [h1, List.filter_cons, if_pos h2]
      rfl
    · have h1 := filter_one n j p (by omega) fun k hk => h k (by omega)
      have h2 : ¬ p n = true := fun z => e ((h n (by omega)).mp z).symm
      rw [h1, List.filter_cons, if_neg h2]
      rfl
theorem modify_set {f : Int → Int} : ∀ {xs : List Int} {j : Nat}, j < xs.length → xs.modify j f = xs.set j (f (xs.getD j 0))
  | x :: r, 0, _ => rfl
  | x :: r, j + 1, h => by
    have ih := modify_set (f := f) (xs := r) (j := j) (by simpa using h)
    show x :: r.modify j f = x :: r.set j (f (r.getD j 0))
    rw [ih]
theorem pow_one_zero {s : Int} (hs : 2 ≤ s) {n : Nat} (h : s ^ n = 1) : n = 0 := by
  cases n with
  | zero => rfl
  | succ n =>
    have h1 : 0 < s ^ n := Int.pow_pos (by omega)
    rw [Int.pow_succ] at h
    have h2 : 1 * 2 ≤ s ^ n * s := Int.mul_le_mul (by omega) hs (by omega) (by omega)
    omega
theorem prev_place {p m : Int} (h0 : 0 ≤ p) (h1 : p < m) : ((p + 1) % m + -1) % m = p := by
  rw [Int.emod_add_emod, show p + 1 + -1 = p by omega, Int.emod_eq_of_lt h0 h1]
theorem mark_ne {s m : Int} (hs : 2 ≤ s) (h0 : 0 ≤ m) (h1 : m < s) : (m + 1) % s ≠ m := by
  by_cases h : m + 1 = s
  · rw [h, Int.emod_self]
    omega
  · rw [Int.emod_eq_of_lt (by omega) (by omega)]
    omega
/-! ### bits -/
theorem Bits.set {xs : List Int} (h : Bits xs) (j : Nat) {m : Int} (hm : m = 0 ∨ m = 1) : Bits (xs.set j m) := fun x hx => by
  rcases List.mem_or_eq_of_mem_set hx with hx | rfl
  · exact h x hx
  · exact hm
theorem Bits.append {xs ys : List Int} (h : Bits xs) (h2 : Bits ys) : Bits (xs ++ ys) := fun x hx => by
  rcases List.mem_append.mp hx with hx | hx
  · exact h x hx
  · exact h2 x hx
theorem Bits.one {m : Int} (h : m = 0 ∨ m = 1) : Bits [m] := fun x hx => by
  rw [List.mem_singleton.mp hx]
  exact h
theorem Bits.rep {m : Int} (n : Nat) (h : m = 0 ∨ m = 1) : Bits (List.replicate n m) := fun x hx => by
  rw [(List.mem_replicate.mp hx).2]
  exact h
theorem bits_marks {l : List Int} (h : Bits l) : Marks 2 l := fun m hm => by
  rcases h m hm with h | h <;> omega
theorem marks_bits {l : List Int} (h : Marks 2 l) : Bits l := fun m hm => by
  have := h m hm
  omega
theorem mod_two (x : Int) : x % 2 = 0 ∨ x % 2 = 1 := by omega
/-! ### the next row of a choosing list -/
/-- one swap leads from the one to the other -/
inductive Swp : List Int → List Int → Prop
  | down (A B C : List Int) : Swp (A ++ 1 :: (B ++ 0 :: C)) (A ++ 0 :: (B ++ 1 :: C))
  | up (A B C : List Int) : Swp (A ++ 0 :: (B ++ 1 :: C)) (A ++ 1 :: (B ++ 0 :: C))
theorem Swp.symm {l r : List Int} (h : Swp l r) : Swp r l := by
  cases h with
  | down A B C => exact .up A B C
  | up A B C => exact .down A B C
theorem Swp.snoc {l r : List Int} (h : Swp l r) (m : Int) : Swp (l ++ [m]) (r ++ [m]) := by
  cases h with
  | down A B C =>
    have e := Swp.down A B (C ++ [m])
    simpa using e
  | up A B C =>
    have e := Swp.up A B (C ++ [m])
    simpa using e
theorem crow_low {n k : Nat} {p : Int} (h : p < (bin n k : Int)) : crow (n + 1) k p = crow n k p ++ [0] := by
  unfold crow
  rw [crev_low h, List.reverse_cons]
theorem crow_high {n k : Nat} {p : Int} (h : ¬ p < (bin n k : Int)) : crow (n + 1) k p = crow n (k - 1) ((bin (n + 1) k : Int) - 1 - p) ++ [1] := by
  unfold crow
  rw [crev_high h, List.reverse_cons]
theorem crow_first : ∀ (n k : Nat), k ≤ n → crow n k 0 = List.replicate k 1 ++ List.replicate (n - k) 0
  | 0, 0, _ => rfl
  | n + 1, k, h => by
    by_cases hk : k ≤ n
    · have hp := bin_pos n k hk
      rw [crow_low (by omega), crow_first n k hk, List.append_assoc, show n + 1 - k = (n - k) + 1 by omega, List.replicate_succ']
    · obtain rfl : k = n + 1 := by omega
      have h0 := bin_over n (n + 1) (by omega)
      have h1 := bin_self (n + 1)
      rw [crow_high (by omega), h1, show ((1 : Nat) : Int) - 1 - 0 = 0 by omega, show n + 1 - 1 = n from rfl, crow_first n n (Nat.le_refl _), Nat.sub_self, Nat.sub_self]
      simp [List.replicate_succ']
theorem crow_last {m j : Nat} (h : j ≤ m) : crow (m + 1) (j + 1) ((bin (m + 1) (j + 1) : Int) - 1) = List.replicate j 1 ++ (List.replicate (m - j) 0 ++ [1]) := by
  have hb := bin_succ m j
  have hp := bin_pos m j h
  rw [crow_high (by omega), show (bin (m + 1) (j + 1) : Int) - 1 - ((bin (m + 1) (j + 1) : Int) - 1) = 0 by omega, show j + 1 - 1 = j from rfl, crow_first m j h, List.append_assoc]
theorem crow_step : ∀ (n k : Nat) (p : Int), 0 ≤ p → p + 1 < (bin n k : Int) → Swp (crow n k p) (crow n k (p + 1))
  | 0, k, p, h0, h1 => by
    cases k with
    | zero =>
      have : (bin 0 0 : Int) = 1 := rfl
      omega
    | succ k =>
      have : (bin 0 (k + 1) : Int) = 0 := rfl
      omega
  | n + 1, k, p, h0, h1 => by
    by_cases ha : p + 1 < (bin n k : Int)
    · rw [crow_low ha, crow_low (show p < (bin n k : Int) by omega)]
      exact (crow_step n k p h0 ha).snoc 0
    · obtain ⟨j, rfl⟩ := high_one ha h1
      have hb := bin_succ n j
      by_cases hc : p < (bin n (j + 1) : Int)
      · -- from the first part to the second
        have hp : p = (bin n (j + 1) : Int) - 1 := by omega
        have hjn : j + 1 ≤ n := by
          rcases Nat.lt_or_ge n (j + 1) with h | h
          · have := bin_over n (j + 1) h
            omega
          · exact h
        obtain ⟨m, rfl⟩ : ∃ m, n = m + 1 := ⟨n - 1, by omega⟩
        rw [crow_low hc, crow_high ha, hp, crow_last (by omega), show j + 1 - 1 = j from rfl]
        rw [show (bin (m + 1 + 1) (j + 1) : Int) - 1 - ((bin (m + 1) (j + 1) : Int) - 1 + 1) = (bin (m + 1) j : Int) - 1 by omega]
        cases j with
        | zero =>
          have e1 : (bin (m + 1) 0 : Int) - 1 = 0 := by rw [bin_zero]; rfl
          rw [e1, crow_first (m + 1) 0 (Nat.zero_le _)]
          have e := Swp.down (List.replicate m 0) [] []
          have e2 : List.replicate (m + 1 - 0) (0 : Int) = List.replicate m 0 ++ [0] := by rw [Nat.sub_zero, List.replicate_succ']
          rw [e2]
          simpa using e
        | succ i =>
          rw [crow_last (by omega)]
          have e := Swp.down (List.replicate i 1) (List.replicate (m - (i + 1)) 0 ++ [1]) []
          have e2 : List.replicate (m - i) (0 : Int) = 0 :: List.replicate (m - (i + 1)) 0 := by
            rw [show m - i = (m - (i + 1)) + 1 by omega, List.replicate_succ]
          rw [e2, List.replicate_succ']
          simpa using e
      · rw [crow_high ha, crow_high hc, show j + 1 - 1 = j from rfl]
        have ih := crow_step n j ((bin (n + 1) (j + 1) : Int) - 1 - (p + 1)) (by omega) (by omega)
        rw [show (bin (n + 1) (j + 1) : Int) - 1 - (p + 1) + 1 = (bin (n + 1) (j + 1) : Int) - 1 - p by omega] at ih
        exact ih.symm.snoc 1
theorem crow_wrap {n k : Nat} (h : 1 < bin n k) : Swp (crow n k ((bin n k : Int) - 1)) (crow n k 0) := by
  have hk : k ≤ n := by
    rcases Nat.lt_or_ge n k with h' | h'
    · have := bin_over n k h'
      omega
    · exact h'
  have hk0 : k ≠ 0 := fun z => by
    rw [z, bin_zero] at h
    omega
  have hkn : k ≠ n := fun z => by
    rw [z, bin_self] at h
    omega
  obtain ⟨j, rfl⟩ : ∃ j, k = j + 1 := ⟨k - 1, by omega⟩
  obtain ⟨m, rfl⟩ : ∃ m, n = m + 1 := ⟨n - 1, by omega⟩
  rw [crow_last (by omega), crow_first _ _ hk]
  have e := Swp.up (List.replicate j 1) (List.replicate (m - (j + 1)) 0) []
  have e2 : List.replicate (m - j) (0 : Int) = 0 :: List.replicate (m - (j + 1)) 0 := by
    rw [show m - j = (m - (j + 1)) + 1 by omega, List.replicate_succ]
  have e3 : List.replicate (m + 1 - (j + 1)) (0 : Int) = List.replicate (m - (j + 1)) 0 ++ [0] := by
    rw [show m + 1 - (j + 1) = (m - (j + 1)) + 1 by omega, List.replicate_succ']
  rw [e2, e3, List.replicate_succ']
  simpa using e
theorem crow_next {n k : Nat} {p : Int} (h : 1 < bin n k) (h0 : 0 ≤ p) (h1 : p < (bin n k : Int)) : Swp (crow n k p) (crow n k ((p + 1) % (bin n k : Int))) := by
  by_cases hp : p + 1 < (bin n k : Int)
  · rw [Int.emod_eq_of_lt (by omega) hp]
    exact crow_step n k p h0 hp
  · have e : p = (bin n k : Int) - 1 := by omega
    have e2 : p + 1 = (bin n k : Int) := by omega
    rw [e2, Int.emod_self, e]
    exact crow_wrap h
/-- the two spots -/
def swapped (l : List Int) (i j : Nat) : List Int := (l.set i 0).set j 1
structure SwpAt (l r : List Int) (i j : Nat) : Prop where
  i1 : l[i]? = some 1
  j0 : l[j]? = some 0
  eq : r = swapped l i j
theorem SwpAt.ne {l r : List Int} {i j : Nat} (h : SwpAt l r i j) : i ≠ j := fun z => by
  have a := h.i1
  rw [z, h.j0] at a
  cases a
theorem Swp.at {l r : List Int} (h : Swp l r) : ∃ i j, SwpAt l r i j := by
  cases h with
  | down A B C =>
    refine ⟨A.length, A.length + 1 + B.length, ?_, ?_, ?_⟩
    · simp
    · rw [List.getElem?_append_right (by omega), show A.length + 1 + B.length - A.length = B.length + 1 by omega, List.getElem?_cons_succ, List.getElem?_append_right (Nat.le_refl _), Nat.sub_self]
      rfl
    · unfold swapped
      rw [List.set_append_right _ _ (Nat.le_refl _), Nat.sub_self, List.set_cons_zero, List.set_append_right _ _ (by omega), show A.length + 1 + B.length - A.length = B.length + 1 by omega, List.set_cons_succ, List.set_append_right _ _ (Nat.le_refl _), Nat.sub_self, List.set_cons_zero]
  | up A B C =>
    refine ⟨A.length + 1 + B.length, A.length, ?_, ?_, ?_⟩
    · rw [List.getElem?_append_right (by omega), show A.length + 1 + B.length - A.length = B.length + 1 by omega, List.getElem?_cons_succ, List.getElem?_append_right (Nat.le_refl _), Nat.sub_self]
      rfl
    · simp
    · unfold swapped
      rw [List.set_append_right _ _ (show A.length ≤ A.length + 1 + B.length by omega), show A.length + 1 + B.length - A.length = B.length + 1 by omega, List.set_cons_succ, List.set_append_right _ _ (Nat.le_refl _), Nat.sub_self, List.set_cons_zero, List.set_append_right _ _ (Nat.le_refl _), Nat.sub_self, List.set_cons_zero]
theorem swapped_len (l : List Int) (i j : Nat) : (swapped l i j).length = l.length := by simp [swapped]
theorem SwpAt.lt {l r : List Int} {i j : Nat} (h : SwpAt l r i j) : i < l.length ∧ j < l.length := ⟨(List.getElem?_eq_some_iff.mp h.i1).1, (List.getElem?_eq_some_iff.mp h.j0).1⟩
/-- mark by mark -/
theorem SwpAt.get {l r : List Int} {i j : Nat} (h : SwpAt l r i j) {k : Nat} (hk : k < l.length) : r.getD k 0 = if k = j then 1 else if k = i then 0 else l.getD k 0 := by
  rw [h.eq, swapped]
  obtain ⟨hi, hj⟩ := h.lt
  rw [List.getD_eq_getElem?_getD, List.getElem?_set, List.getElem?_set]
  by_cases h1 : j = k
  · subst h1
    simp [hj]
  · have h1' : ¬ k = j := fun z => h1 z.symm
    by_cases h2 : i = k
    · subst h2
      simp [h1, h1', hi]
    · have h2' : ¬ k = i := fun z => h2 z.symm
      simp [h1, h2, h1', h2']
theorem SwpAt.own {l r : List Int} {i j : Nat} (h : SwpAt l r i j) : l.getD i 0 = 1 ∧ l.getD j 0 = 0 := by
  rw [List.getD_eq_getElem?_getD, List.getD_eq_getElem?_getD, h.i1, h.j0]
  exact ⟨rfl, rfl⟩
theorem SwpAt.gone {l r : List Int} {i j : Nat} (h : SwpAt l r i j) {k : Nat} (hk : k < l.length) : r.getD k 0 < l.getD k 0 ↔ k = i := by
  obtain ⟨a, b⟩ := h.own
  have hne := h.ne
  rw [h.get hk]
  by_cases h1 : k = j
  · subst h1
    rw [if_pos rfl, b]
    omega
  · rw [if_neg h1]
    by_cases h2 : k = i
    · subst h2
      rw [if_pos rfl, a]
      omega
    · rw [if_neg h2]
      omega
theorem SwpAt.made {l r : List Int} {i j : Nat} (h : SwpAt l r i j) {k : Nat} (hk : k < l.length) : l.getD k 0 < r.getD k 0 ↔ k = j := by
  obtain ⟨a, b⟩ := h.own
  have hne := h.ne
  rw [h.get hk]
  by_cases h1 : k = j
  · subst h1
    rw [if_pos rfl, b]
    omega
  · rw [if_neg h1]
    by_cases h2 : k = i
    · subst h2
      rw [if_pos rfl, a]
      omega
    · rw [if_neg h2]
      omega
theorem swap_sum : ∀ {l : List Int} {j : Nat} {x y : Int}, l[j]? = some x → (l.set j y).sum = l.sum - x + y
  | [], j, x, y, h => by simp at h
  | a :: r, 0, x, y, h => by
    have e : a = x := Option.some.inj h
    subst e
    rw [List.set_cons_zero, List.sum_cons, List.sum_cons]
    omega
  | a :: r, j + 1, x, y, h => by
    have ih := swap_sum (l := r) (j := j) (x := x) (y := y) h
    rw [List.set_cons_succ, List.sum_cons, List.sum_cons, ih]
    omega
/-- a swap keeps the ones, and is undone -/
theorem SwpAt.bits {l r : List Int} {i j : Nat} (h : SwpAt l r i j) (hB : Bits l) : Bits r := by
  rw [h.eq]
  exact (hB.set i (.inl rfl)).set j (.inr rfl)
theorem SwpAt.ones {l r : List Int} {i j : Nat} (h : SwpAt l r i j) (hB : Bits l) : ones r = Mk.ones l := by
  have h1 := bits_sum hB
  have h2 := bits_sum (h.bits hB)
  have hj : (l.set i 0)[j]? = some 0 := by
    rw [List.getElem?_set_ne h.ne]
    exact h.j0
  rw [h.eq] at h2 ⊢
  unfold swapped at h2 ⊢
  rw [swap_sum hj, swap_sum h.i1] at h2
  omega
theorem SwpAt.back {l r : List Int} {i j : Nat} (h : SwpAt l r i j) : SwpAt r l j i := by
  obtain ⟨hi, hj⟩ := h.lt
  have hne := h.ne
  refine ⟨?_, ?_, ?_⟩
  · rw [h.eq, swapped, List.getElem?_set_self (by simpa using hj)]
  · rw [h.eq, swapped, List.getElem?_set_ne hne.symm, List.getElem?_set_self hi]
  · apply List.ext_getElem?
    intro k
    rw [h.eq]
    unfold swapped
    rw [List.getElem?_set, List.getElem?_set, List.getElem?_set, List.getElem?_set]
    have a := h.i1
    have b := h.j0
    by_cases h1 : i = k
    · subst h1
      have a' := (List.getElem?_eq_some_iff.mp a).2
      simp [hi, a, a']
    · by_cases h2 : j = k
      · subst h2
        have b' := (List.getElem?_eq_some_iff.mp b).2
        simp [h1, hj, b, b']
      · simp [h1, h2]
end Mk
/-! ### the spots of a mark -/
namespace Mk
theorem spots_len (p : Int → Bool) : ∀ l : List Int, ((List.range l.length).filter fun k => p (l.getD k 0)).length = l.countP p
  | [] => rfl
  | x :: r => by
    have ih := spots_len p r
    rw [List.length_cons, List.range_succ_eq_map, List.filter_cons, List.countP_cons]
    have e : ((List.range r.length).map Nat.succ).filter (fun k => p ((x :: r).getD k 0)) = ((List.range r.length).filter (fun k => p (r.getD k 0))).map Nat.succ := by
      rw [List.filter_map]
      rfl
    rw [e]
    have h0 : (x :: r).getD 0 0 = x := rfl
    rw [h0]
    cases hp : p x
    · simpa using ih
    · simpa using ih
theorem ones_count : ∀ l : List Int, l.countP (fun m => decide (m = 1)) = ones l
  | [] => rfl
  | x :: r => by
    have ih := ones_count r
    rw [List.countP_cons, ih, ones_cons]
    by_cases h : x = 1 <;> simp [h]
theorem zeros_count : ∀ {l : List Int}, Bits l → l.countP (fun m => decide (m = 0)) + ones l = l.length
  | [], _ => rfl
  | x :: r, hB => by
    have ih := zeros_count (l := r) fun m hm => hB m (List.mem_cons_of_mem _ hm)
    rw [List.countP_cons, ones_cons, List.length_cons]
    rcases hB x (List.mem_cons_self ..) with h | h <;> subst h <;> simp <;> omega
theorem spot_of {l : List Int} {c : Int} {i : Nat} (hi : i < l.countP fun m => decide (m = c)) : ∃ s, l[s]? = some c ∧ ((List.range l.length).filter fun k => decide (l.getD k 0 = c))[i]? = some s := by
  have h := spots_len (fun m => decide (m = c)) l
  rw [← h] at hi
  refine ⟨_, ?_, List.getElem?_eq_getElem hi⟩
  have hm := List.getElem_mem hi
  obtain ⟨h1, h2⟩ := List.mem_filter.mp hm
  have h3 := List.mem_range.mp h1
  have h4 := of_decide_eq_true h2
  rw [List.getD_eq_getElem?_getD, List.getElem?_eq_getElem h3] at h4
  rw [List.getElem?_eq_getElem h3]
  exact congrArg some h4
end Mk
/-! ### what is left of the turning list of two signs -/
namespace Mk
theorem two_snoc_zero : ∀ r : List Int, tplace 2 (r ++ [0]) = tplace 2 r
  | [] => rfl
  | m :: r => by
    have ih := two_snoc_zero r
    show tplace 2 (r ++ [0]) * 2 + (tplace 2 (r ++ [0]) % 2 + m) % 2 = tplace 2 r * 2 + (tplace 2 r % 2 + m) % 2
    rw [ih]
theorem two_snoc_one : ∀ r : List Int, Bits r → tplace 2 (r ++ [1]) = 2 ^ (r.length + 1) - 1 - tplace 2 r
  | [], _ => rfl
  | m :: r, hB => by
    have ih := two_snoc_one r fun x hx => hB x (List.mem_cons_of_mem _ hx)
    have hm := hB m (List.mem_cons_self ..)
    show tplace 2 (r ++ [1]) * 2 + (tplace 2 (r ++ [1]) % 2 + m) % 2 = 2 ^ (r.length + 1 + 1) - 1 - (tplace 2 r * 2 + (tplace 2 r % 2 + m) % 2)
    rw [ih, Int.pow_succ 2 (r.length + 1), Int.pow_succ 2 r.length]
    generalize (2 : Int) ^ r.length = P
    generalize tplace 2 r = t
    omega
/-- the rows with as many ones stand in the one list as in the other -/
theorem two_order : ∀ (n : Nat) (l l' : List Int), l.length = n → l'.length = n → Bits l → Bits l' → ones l = ones l' → (cplace l < cplace l' ↔ tplace 2 l < tplace 2 l')
  | 0, l, l', h, h', _, _, _ => by
    rw [List.eq_nil_of_length_eq_zero h, List.eq_nil_of_length_eq_zero h']
    constructor <;> intro z <;> exact absurd z (Int.lt_irrefl _)
  | n + 1, l, l', h, h', hB, hB', ho => by
    have hl : l ≠ [] := fun z => by rw [z] at h; cases h
    have hl' : l' ≠ [] := fun z => by rw [z] at h'; cases h'
    obtain ⟨r, a, rfl⟩ : ∃ r a, l = r ++ [a] := ⟨l.dropLast, l.getLast hl, (List.dropLast_concat_getLast hl).symm⟩
    obtain ⟨r', a', rfl⟩ : ∃ r a, l' = r ++ [a] := ⟨l'.dropLast, l'.getLast hl', (List.dropLast_concat_getLast hl').symm⟩
    have hr : r.length = n := by simpa using h
    have hr' : r'.length = n := by simpa using h'
    have bR : Bits r := fun x hx => hB x (List.mem_append_left _ hx)
    have bR' : Bits r' := fun x hx => hB' x (List.mem_append_left _ hx)
    have ha := hB a (by simp)
    have ha' := hB' a' (by simp)
    rw [ones_append, ones_append] at ho
    have c0 := cplace_nonneg r
    have c1 := cplace_lt r
    have c0' := cplace_nonneg r'
    have c1' := cplace_lt r'
    have t0 := tplace_nonneg (s := 2) (by decide) r
    have t1 := tplace_lt (s := 2) (by decide) r
    have t0' := tplace_nonneg (s := 2) (by decide) r'
    have t1' := tplace_lt (s := 2) (by decide) r'
    have e1 : ones [1] = 1 := rfl
    have e0 : ones [0] = 0 := rfl
    rw [hr] at c1 t1
    rw [hr'] at c1' t1'
    have hp : (2 : Int) ^ (n + 1) = 2 ^ n * 2 := Int.pow_succ 2 n
    rcases ha with rfl | rfl <;> rcases ha' with rfl | rfl
    · rw [cplace_zero, cplace_zero, two_snoc_zero, two_snoc_zero]
      exact two_order n r r' hr hr' bR bR' (by omega)
    · rw [cplace_zero, cplace_one, two_snoc_zero, two_snoc_one r' bR', hr', hp]
      have hb := bin_succ n (ones r')
      have ho2 : ones r = ones r' + 1 := by omega
      rw [ho2] at c1
      constructor <;> intro _ <;> omega
    · rw [cplace_zero, cplace_one, two_snoc_zero, two_snoc_one r bR, hr, hp]
      have hb := bin_succ n (ones r)
      have ho2 : ones r' = ones r + 1 := by omega
      rw [ho2] at c1'
      constructor <;> intro _ <;> omega
    · have hO : ones r = ones r' := by omega
      have ih := two_order n r' r hr' hr bR' bR hO.symm
      rw [cplace_one, cplace_one, two_snoc_one r bR, two_snoc_one r' bR', hr, hr', hO]
      constructor
      · intro z
        have := ih.mp (by omega)
        omega
      · intro z
        have := ih.mpr (by omega)
        omega
/-- how many of the first places hold a row with k ones -/
def cnt (n k : Nat) : Nat → Nat
  | 0 => 0
  | q + 1 => if ones (trow 2 n (q : Int)) = k then cnt n k q + 1 else cnt n k q
theorem cnt_same (n k a : Nat) : ∀ b : Nat, a ≤ b → (∀ x, a ≤ x → x < b → ones (trow 2 n (x : Int)) ≠ k) → cnt n k b = cnt n k a
  | 0, h, _ => by
    obtain rfl : a = 0 := by omega
    rfl
  | b + 1, h, hn => by
    by_cases e : a = b + 1
    · rw [e]
    · have ih := cnt_same n k a b (by omega) fun x h1 h2 => hn x h1 (by omega)
      show (if ones (trow 2 n (b : Int)) = k then cnt n k b + 1 else cnt n k b) = _
      rw [if_neg (hn b (by omega) (by omega)), ih]
/-- a row of bits at its place -/
theorem two_row {n : Nat} {q : Nat} (hq : (q : Int) < 2 ^ n) : (trow 2 n (q : Int)).length = n ∧ Bits (trow 2 n (q : Int)) ∧ tplace 2 (trow 2 n (q : Int)) = q :=
  ⟨trow_len 2 n q, marks_bits (trow_marks (by decide) n q), tplace_trow (by decide) n q (by omega) hq⟩
theorem cnt_place (n k : Nat) : ∀ (q : Nat), (q : Int) < 2 ^ n → ones (trow 2 n (q : Int)) = k → (cnt n k q : Int) = cplace (trow 2 n (q : Int)) := by
  intro q
  induction q using Nat.strongRecOn with
  | ind q ih =>
    intro hq hk
    obtain ⟨ql, qB, qt⟩ := two_row hq
    have c0 := cplace_nonneg (trow 2 n (q : Int))
    have c1 := cplace_lt (trow 2 n (q : Int))
    rw [ql, hk] at c1
    obtain ⟨c, hc⟩ : ∃ c : Nat, cplace (trow 2 n (q : Int)) = c := ⟨(cplace (trow 2 n (q : Int))).toNat, by omega⟩
    cases c with
    | zero =>
      have h := cnt_same n k 0 q (Nat.zero_le _) fun x _ hx hxk => by
        obtain ⟨xl, xB, xt⟩ := two_row (n := n) (q := x) (by omega)
        have := (two_order n _ _ xl ql xB qB (by rw [hxk, hk])).mpr (by rw [xt, qt]; omega)
        have := cplace_nonneg (trow 2 n (x : Int))
        omega
      rw [h, hc]
      rfl
    | succ c =>
      have y0 : (0 : Int) ≤ c := by omega
      have y1 : (c : Int) < (bin n k : Int) := by omega
      have yl := crow_len n k c
      have yB := crow_bits n k c
      have yo := crow_ones y0 y1
      have yc := cplace_crow y0 y1
      have u0 := tplace_nonneg (s := 2) (by decide) (crow n k c)
      have u1 := tplace_lt (s := 2) (by decide) (crow n k c)
      rw [yl] at u1
      obtain ⟨q', hq'⟩ : ∃ q' : Nat, tplace 2 (crow n k c) = q' := ⟨(tplace 2 (crow n k c)).toNat, by omega⟩
      have back : trow 2 n (q' : Int) = crow n k c := by
        have h := trow_tplace (s := 2) (by decide) (crow n k c) (bits_marks yB)
        rw [yl, hq'] at h
        exact h
      have hlt : q' < q := by
        have := (two_order n _ _ yl ql yB qB (by rw [yo, hk])).mp (by omega)
        rw [hq', qt] at this
        omega
      have h1 := ih q' hlt (by omega) (by rw [back, yo])
      have h2 := cnt_same n k (q' + 1) q hlt fun x h1 h2 hxk => by
        obtain ⟨xl, xB, xt⟩ := two_row (n := n) (q := x) (by omega)
        have a1 := (two_order n _ _ yl xl yB xB (by rw [yo, hxk])).mpr (by rw [hq', xt]; omega)
        have a2 := (two_order n _ _ xl ql xB qB (by rw [hxk, hk])).mpr (by rw [xt, qt]; omega)
        omega
      have h3 : cnt n k (q' + 1) = cnt n k q' + 1 := if_pos (by rw [back, yo])
      rw [back, yc] at h1
      rw [h2, h3, hc]
      omega
end Mk
namespace Mk
/-- no row with as many ones between a row and the next one, nor behind the last -/
theorem left_between {n k : Nat} {xs : List Int} {hi : Int} (hl : xs.length = n) (hB : Bits xs) (hO : ones xs = k) (hh : hi = if cplace xs = (bin n k : Int) - 1 then 2 ^ n else tplace 2 (crow n k ((cplace xs + 1) % (bin n k : Int)))) :
    tplace 2 xs < hi ∧ hi ≤ 2 ^ n ∧ ∀ q : Nat, tplace 2 xs < q → (q : Int) < hi → ones (trow 2 n (q : Int)) ≠ k := by
  have c0 := cplace_nonneg xs
  have c1 := cplace_lt xs
  have t1 := tplace_lt (s := 2) (by decide) xs
  rw [hl, hO] at c1
  rw [hl] at t1
  by_cases h : cplace xs = (bin n k : Int) - 1
  · rw [if_pos h] at hh
    subst hh
    refine ⟨t1, Int.le_refl _, fun q q0 q1 hk => ?_⟩
    obtain ⟨ql, qB, qt⟩ := two_row q1
    have := (two_order n _ _ hl ql hB qB (by rw [hk, hO])).mpr (by rw [qt]; exact q0)
    have := cplace_lt (trow 2 n (q : Int))
    rw [ql, hk] at this
    omega
  · rw [if_neg h, Int.emod_eq_of_lt (by omega) (by omega)] at hh
    have y0 : 0 ≤ cplace xs + 1 := by omega
    have y1 : cplace xs + 1 < (bin n k : Int) := by omega
    have yl := crow_len n k (cplace xs + 1)
    have yB := crow_bits n k (cplace xs + 1)
    have yo := crow_ones y0 y1
    have yc := cplace_crow y0 y1
    have u1 := tplace_lt (s := 2) (by decide) (crow n k (cplace xs + 1))
    rw [yl] at u1
    generalize crow n k (cplace xs + 1) = ys at *
    refine ⟨?_, by omega, fun q q0 q1 hk => ?_⟩
    · rw [hh]
      exact (two_order n _ _ hl yl hB yB (by rw [yo, hO])).mp (by omega)
    · obtain ⟨ql, qB, qt⟩ := two_row (n := n) (q := q) (by omega)
      have a1 := (two_order n _ _ hl ql hB qB (by rw [hk, hO])).mpr (by rw [qt]; exact q0)
      have a2 := (two_order n _ _ ql yl qB yB (by rw [yo, hk])).mpr (by omega)
      omega
/-- .. nor ahead of the first -/
theorem left_first {n k : Nat} (h : k ≤ n) : 0 ≤ tplace 2 (crow n k 0) ∧ tplace 2 (crow n k 0) < 2 ^ n ∧ ∀ q : Nat, (q : Int) < tplace 2 (crow n k 0) → ones (trow 2 n (q : Int)) ≠ k := by
  have hp := bin_pos n k h
  have yl := crow_len n k 0
  have yB := crow_bits n k 0
  have yo := crow_ones (n := n) (k := k) (p := 0) (by omega) (by omega)
  have yc := cplace_crow (n := n) (k := k) (p := 0) (by omega) (by omega)
  have u0 := tplace_nonneg (s := 2) (by decide) (crow n k 0)
  have u1 := tplace_lt (s := 2) (by decide) (crow n k 0)
  rw [yl] at u1
  refine ⟨u0, u1, fun q q1 hk => ?_⟩
  obtain ⟨ql, qB, qt⟩ := two_row (n := n) (q := q) (by omega)
  have a2 := (two_order n _ _ ql yl qB yB (by rw [yo, hk])).mpr (by omega)
  have := cplace_nonneg (trow 2 n (q : Int))
  omega
theorem left_count {n k : Nat} {xs : List Int} (hl : xs.length = n) (hB : Bits xs) (hO : ones xs = k) : (cnt n k (tplace 2 xs).toNat : Int) = cplace xs := by
  have t0 := tplace_nonneg (s := 2) (by decide) xs
  have t1 := tplace_lt (s := 2) (by decide) xs
  rw [hl] at t1
  have h := trow_tplace (s := 2) (by decide) xs (bits_marks hB)
  rw [hl] at h
  have e : ((tplace 2 xs).toNat : Int) = tplace 2 xs := Int.toNat_of_nonneg t0
  have := cnt_place n k (tplace 2 xs).toNat (by omega) (by rw [e, h, hO])
  rw [this, e, h]
/-- the marks of two spots exchanged -/
theorem swap_two {ys : List Int} {i j : Nat} (hi : i < ys.length) (hj : j < ys.length) (hB : Bits ys) : Bits ((ys.set i ys[j]).set j ys[i]) ∧ ones ((ys.set i ys[j]).set j ys[i]) = ones ys := by
  have hB2 : Bits ((ys.set i ys[j]).set j ys[i]) := (hB.set i (hB _ (List.getElem_mem hj))).set j (hB _ (List.getElem_mem hi))
  refine ⟨hB2, ?_⟩
  have h1 := bits_sum hB
  have h2 := bits_sum hB2
  have e : (ys.set i ys[j])[j]? = some ys[j] := by
    by_cases h : i = j
    · subst h
      rw [List.getElem?_set_self hi]
    · rw [List.getElem?_set_ne h, List.getElem?_eq_getElem hj]
  rw [swap_sum e, swap_sum (List.getElem?_eq_getElem hi)] at h2
  omega
end Mk
/-! ### both kinds of list under one hat -/
namespace Mk
inductive Kd where
  | T (s : Int) (n : Nat) | C (n k : Nat)
namespace Kd
def len : Kd → Nat
  | .T _ n => n
  | .C n _ => n
/-- the signs -/
def sg : Kd → Int
  | .T s _ => s
  | .C _ _ => 2
def sz : Kd → Int
  | .T s n => s ^ n
  | .C n k => (bin n k : Int)
def at_ : Kd → Int → List Int
  | .T s n, p => trow s n p
  | .C n k, p => crow n k p
def pl : Kd → List Int → Int
  | .T s _, xs => tplace s xs
  | .C _ _, xs => cplace xs
def row : Kd → List Int → Prop
  | .T s n, xs => xs.length = n ∧ Marks s xs
  | .C n k, xs => xs.length = n ∧ Bits xs ∧ ones xs = k
def ok : Kd → Prop
  | .T s n => 2 ≤ s ∧ s ≤ 1000000000000 ∧ n ≤ 200
  | .C n k => k ≤ n ∧ n ≤ 200
def first : Kd → List Int
  | .T _ n => List.replicate n 0
  | .C n k => List.replicate k 1 ++ List.replicate (n - k) 0
theorem len_le {d : Kd} (h : d.ok) : d.len ≤ 200 := by
  cases d with
  | T s n => exact h.2.2
  | C n k => exact h.2
theorem sg_pos {d : Kd} (h : d.ok) : 2 ≤ d.sg ∧ d.sg ≤ 1000000000000 := by
  cases d with
  | T s n => exact ⟨h.1, h.2.1⟩
  | C n k => exact ⟨by show (2 : Int) ≤ 2; decide, by show (2 : Int) ≤ 1000000000000; decide⟩
theorem sz_pos {d : Kd} (h : d.ok) : 0 < d.sz := by
  cases d with
  | T s n => exact Int.pow_pos (by have := h.1; omega)
  | C n k =>
    have := bin_pos n k h.1
    show 0 < (bin n k : Int)
    omega
theorem at_row {d : Kd} (h : d.ok) {p : Int} (p0 : 0 ≤ p) (p1 : p < d.sz) : d.row (d.at_ p) := by
  cases d with
  | T s n => exact ⟨trow_len s n p, trow_marks (by have := h.1; omega) n p⟩
  | C n k => exact ⟨crow_len n k p, crow_bits n k p, crow_ones p0 p1⟩
theorem pl_at {d : Kd} (h : d.ok) {p : Int} (p0 : 0 ≤ p) (p1 : p < d.sz) : d.pl (d.at_ p) = p := by
  cases d with
  | T s n => exact tplace_trow (by have := h.1; omega) n p p0 p1
  | C n k => exact cplace_crow p0 p1
theorem at_pl {d : Kd} (h : d.ok) {xs : List Int} (hr : d.row xs) : d.at_ (d.pl xs) = xs := by
  cases d with
  | T s n =>
    have := trow_tplace (s := s) (by have := h.1; omega) xs hr.2
    rw [hr.1] at this
    exact this
  | C n k =>
    have := crow_cplace hr.2.1
    rw [hr.1, hr.2.2] at this
    exact this
theorem pl_rng {d : Kd} (h : d.ok) {xs : List Int} (hr : d.row xs) : 0 ≤ d.pl xs ∧ d.pl xs < d.sz := by
  cases d with
  | T s n =>
    have h0 : 0 < s := by have := h.1; omega
    have := tplace_lt h0 xs
    rw [hr.1] at this
    exact ⟨tplace_nonneg h0 xs, this⟩
  | C n k =>
    have := cplace_lt xs
    rw [hr.1, hr.2.2] at this
    exact ⟨cplace_nonneg xs, this⟩
theorem row_len {d : Kd} {xs : List Int} (hr : d.row xs) : xs.length = d.len := by
  cases d with
  | T s n => exact hr.1
  | C n k => exact hr.1
theorem row_mark {d : Kd} {xs : List Int} (hr : d.row xs) : Marks d.sg xs := by
  cases d with
  | T s n => exact hr.2
  | C n k => exact bits_marks hr.2.1
theorem pl_inj {d : Kd} (h : d.ok) {xs ys : List Int} (hx : d.row xs) (hy : d.row ys) (e : d.pl xs = d.pl ys) : xs = ys := by rw [← at_pl h hx, ← at_pl h hy, e]
theorem trow_zero (s : Int) : ∀ n : Nat, trow s n 0 = List.replicate n 0
  | 0 => rfl
  | n + 1 => by
    show ((0 : Int) % s - 0 / s % s) % s :: trow s n (0 / s) = _
    rw [Int.zero_ediv, trow_zero s n, List.replicate_succ, Int.zero_emod, Int.sub_zero, Int.zero_emod]
theorem first_at {d : Kd} (h : d.ok) : d.at_ 0 = d.first := by
  cases d with
  | T s n => exact trow_zero s n
  | C n k => exact crow_first n k h.1
theorem first_row {d : Kd} (h : d.ok) : d.row d.first := first_at h ▸ at_row h (Int.le_refl 0) (sz_pos h)
theorem first_pl {d : Kd} (h : d.ok) : d.pl d.first = 0 := by
  have := pl_at h (Int.le_refl 0) (sz_pos h)
  rwa [first_at h] at this
/-- the row so many steps on -/
def on (d : Kd) (xs : List Int) (t : Int) : List Int := d.at_ ((d.pl xs + t) % d.sz)
theorem on_rng {d : Kd} (h : d.ok) (xs : List Int) (t : Int) : 0 ≤ (d.pl xs + t) % d.sz ∧ (d.pl xs + t) % d.sz < d.sz := ⟨Int.emod_nonneg _ (by have := sz_pos h; omega), Int.emod_lt_of_pos _ (sz_pos h)⟩
theorem on_row {d : Kd} (h : d.ok) (xs : List Int) (t : Int) : d.row (d.on xs t) := at_row h (on_rng h xs t).1 (on_rng h xs t).2
theorem on_pl {d : Kd} (h : d.ok) (xs : List Int) (t : Int) : d.pl (d.on xs t) = (d.pl xs + t) % d.sz := pl_at h (on_rng h xs t).1 (on_rng h xs t).2
theorem on_on {d : Kd} (h : d.ok) {xs : List Int} (t u : Int) : d.on (d.on xs t) u = d.on xs (t + u) := by
  show d.at_ ((d.pl (d.on xs t) + u) % d.sz) = d.at_ ((d.pl xs + (t + u)) % d.sz)
  rw [on_pl h, Int.emod_add_emod, Int.add_assoc]
theorem on_zero {d : Kd} (h : d.ok) {xs : List Int} (hr : d.row xs) : d.on xs 0 = xs := by
  obtain ⟨a, b⟩ := pl_rng h hr
  show d.at_ ((d.pl xs + 0) % d.sz) = xs
  rw [Int.add_zero, Int.emod_eq_of_lt a b, at_pl h hr]
end Kd
end Mk

namespace Mk
open PySem L2 Evl
/-! ### evaluation: what Evl lacks -/
section
variable {K : PySem.W.Frag} {σ : L2.St} {H H0 H' : Hp} {ta tb tc te tx : TE} {t u : TT} {x y z v : V} {r r' : R2} {a C dx : Addr} {fs : List (Str × V)} {f m : Str}
theorem ev_fld (h : Ev ta σ H (.ref a)) (ho : H a = some (.ins C dx fs)) (hc : Cls K C) (hn : NoAttr K C f) (hl : fs.lookup f = some v) : Ev (tFld K ta f) σ H v := fun H1 e Q q =>
  h H1 e _ fun H2 e2 => ⟨a, C, dx, fs, v, rfl, e2 _ _ (e _ _ ho), hc, hn, hl, q H2 e2⟩
/-- a promise's answers that are one value | a new list | a new tuple | a new instance -/
theorem ev_meth {sp : Sp} {dvs vs : List V} {E : XK} {tg : TA} (h : Ev ta σ H (.ref a)) (ho : H a = some (.ins C dx fs)) (hl : fs.lookup m = none) (ha : EvA tg σ H vs) (hs : ∀ H1, Ex H H1 → ∀ Q : VK, RetV z H1 Q → sp (.ref a :: (vs ++ dvs)) H1 Q E) :
    Ev (tMeth C m sp dvs E ta tg) σ H z := fun H1 e Q q =>
  h H1 e _ fun H2 e2 => ⟨a, dx, fs, rfl, e2 _ _ (e _ _ ho), hl, ha H2 (e.trans e2) _ fun H3 e3 => hs H3 ((e.trans e2).trans e3) Q fun H4 e4 => q H4 ((e2.trans e3).trans e4)⟩
theorem el_meth {sp : Sp} {dvs vs xs : List V} {E : XK} {tg : TA} (h : Ev ta σ H (.ref a)) (ho : H a = some (.ins C dx fs)) (hl : fs.lookup m = none) (ha : EvA tg σ H vs) (hs : ∀ H1, Ex H H1 → ∀ Q : VK, RetL xs H1 Q → sp (.ref a :: (vs ++ dvs)) H1 Q E) :
    EvL (tMeth C m sp dvs E ta tg) σ H xs := fun H1 e Q q =>
  h H1 e _ fun H2 e2 => ⟨a, dx, fs, rfl, e2 _ _ (e _ _ ho), hl, ha H2 (e.trans e2) _ fun H3 e3 => hs H3 ((e.trans e2).trans e3) Q fun p H4 hp e4 h4 => q p H4 (fresh_back (e2.trans e3) hp) ((e2.trans e3).trans e4) h4⟩
theorem eu_meth {sp : Sp} {dvs vs xs : List V} {E : XK} {tg : TA} (h : Ev ta σ H (.ref a)) (ho : H a = some (.ins C dx fs)) (hl : fs.lookup m = none) (ha : EvA tg σ H vs) (hs : ∀ H1, Ex H H1 → ∀ Q : VK, (∀ p H2, H1 p = none → Ex H1 H2 → H2 p = some (.tup xs) → Q (.ref p) H2) → sp (.ref a :: (vs ++ dvs)) H1 Q E) :
    EvU (tMeth C m sp dvs E ta tg) σ H xs := fun H1 e Q q =>
  h H1 e _ fun H2 e2 => ⟨a, dx, fs, rfl, e2 _ _ (e _ _ ho), hl, ha H2 (e.trans e2) _ fun H3 e3 => hs H3 ((e.trans e2).trans e3) Q fun p H4 hp e4 h4 => q p H4 (fresh_back (e2.trans e3) hp) ((e2.trans e3).trans e4) h4⟩
theorem ev_methN {sp : Sp} {xs : List V} {E : XK} (h : Ev ta σ H (.ref a)) (ho : H a = some (.ins C dx fs)) (hl : fs.lookup m = none) (hL : EvL te σ H xs) (hs : ∀ p H1, Ex H H1 → H1 p = some (.lst xs) → ∀ Q : VK, RetV z H1 Q → sp [.ref a, .ref p] H1 Q E) :
    Ev (tMeth C m sp [] E ta (tCons te tNil)) σ H z := fun H1 e Q q =>
  h H1 e _ fun H2 e2 => ⟨a, dx, fs, rfl, e2 _ _ (e _ _ ho), hl, hL H2 (e.trans e2) _ fun p H3 hp e3 h3 => hs p H3 ((e.trans e2).trans e3) h3 Q fun H4 e4 => q H4 ((e2.trans e3).trans e4)⟩
theorem el_methN {sp : Sp} {xs ys : List V} {E : XK} (h : Ev ta σ H (.ref a)) (ho : H a = some (.ins C dx fs)) (hl : fs.lookup m = none) (hL : EvL te σ H xs) (hs : ∀ p H1, Ex H H1 → H1 p = some (.lst xs) → ∀ Q : VK, RetL ys H1 Q → sp [.ref a, .ref p] H1 Q E) :
    EvL (tMeth C m sp [] E ta (tCons te tNil)) σ H ys := fun H1 e Q q =>
  h H1 e _ fun H2 e2 => ⟨a, dx, fs, rfl, e2 _ _ (e _ _ ho), hl, hL H2 (e.trans e2) _ fun p H3 hp e3 h3 => hs p H3 ((e.trans e2).trans e3) h3 Q fun p' H4 hp' e4 h4 => q p' H4 (fresh_back (e2.trans e3) hp') ((e2.trans e3).trans e4) h4⟩
/-- .. the defaults fill up -/
theorem el_methNd {sp : Sp} {dvs xs ys : List V} {E : XK} (h : Ev ta σ H (.ref a)) (ho : H a = some (.ins C dx fs)) (hl : fs.lookup m = none) (hL : EvL te σ H xs) (hs : ∀ p H1, Ex H H1 → H1 p = some (.lst xs) → ∀ Q : VK, RetL ys H1 Q → sp (.ref a :: ([.ref p] ++ dvs)) H1 Q E) :
    EvL (tMeth C m sp dvs E ta (tCons te tNil)) σ H ys := fun H1 e Q q =>
  h H1 e _ fun H2 e2 => ⟨a, dx, fs, rfl, e2 _ _ (e _ _ ho), hl, hL H2 (e.trans e2) _ fun p H3 hp e3 h3 => hs p H3 ((e.trans e2).trans e3) h3 Q fun p' H4 hp' e4 h4 => q p' H4 (fresh_back (e2.trans e3) hp') ((e2.trans e3).trans e4) h4⟩
/-- .. a new list and a value -/
theorem el_methN2 {sp : Sp} {xs ys : List V} {E : XK} (h : Ev ta σ H (.ref a)) (ho : H a = some (.ins C dx fs)) (hl : fs.lookup m = none) (hL : EvL te σ H xs) (hb : ∀ H1, Ex H H1 → Ev tb σ H1 y) (hs : ∀ p H1, Ex H H1 → H1 p = some (.lst xs) → ∀ Q : VK, RetL ys H1 Q → sp [.ref a, .ref p, y] H1 Q E) :
    EvL (tMeth C m sp [] E ta (tCons te (tCons tb tNil))) σ H ys := fun H1 e Q q =>
  h H1 e _ fun H2 e2 => ⟨a, dx, fs, rfl, e2 _ _ (e _ _ ho), hl, hL H2 (e.trans e2) _ fun p H3 hp e3 h3 => hb H3 ((e.trans e2).trans e3) H3 (Ex.refl H3) _ fun H4 e4 => hs p H4 (((e.trans e2).trans e3).trans e4) (e4 _ _ h3) Q fun p' H5 hp' e5 h5 => q p' H5 (fresh_back ((e2.trans e3).trans e4) hp') (((e2.trans e3).trans e4).trans e5) h5⟩
/-- .. two new lists -/
theorem ev_methNN {sp : Sp} {xs ys : List V} {E : XK} (h : Ev ta σ H (.ref a)) (ho : H a = some (.ins C dx fs)) (hl : fs.lookup m = none) (hL : EvL te σ H xs) (hb : EvL tb σ H ys) (hs : ∀ p u H1, Ex H H1 → H1 p = some (.lst xs) → H1 u = some (.lst ys) → ∀ Q : VK, RetV z H1 Q → sp [.ref a, .ref p, .ref u] H1 Q E) :
    Ev (tMeth C m sp [] E ta (tCons te (tCons tb tNil))) σ H z := fun H1 e Q q =>
  h H1 e _ fun H2 e2 => ⟨a, dx, fs, rfl, e2 _ _ (e _ _ ho), hl, hL H2 (e.trans e2) _ fun p H3 hp e3 h3 => hb H3 ((e.trans e2).trans e3) _ fun u H4 hu e4 h4 => hs p u H4 (((e.trans e2).trans e3).trans e4) (e4 _ _ h3) h4 Q fun H5 e5 => q H5 (((e2.trans e3).trans e4).trans e5)⟩
theorem ev_callF {sp : Sp} {dvs vs : List V} {E : XK} {tg : TA} (ha : EvA tg σ H vs) (hs : ∀ H1, Ex H H1 → ∀ Q : VK, RetV z H1 Q → sp (vs ++ dvs) H1 Q E) : Ev (tCall sp dvs E tg) σ H z := fun H1 e Q q =>
  ha H1 e _ fun H2 e2 => hs H2 (e.trans e2) Q fun H3 e3 => q H3 (e2.trans e3)
theorem el_callF {sp : Sp} {dvs vs xs : List V} {E : XK} {tg : TA} (ha : EvA tg σ H vs) (hs : ∀ H1, Ex H H1 → ∀ Q : VK, RetL xs H1 Q → sp (vs ++ dvs) H1 Q E) : EvL (tCall sp dvs E tg) σ H xs := fun H1 e Q q =>
  ha H1 e _ fun H2 e2 => hs H2 (e.trans e2) Q fun p H3 hp e3 h3 => q p H3 (fresh_back e2 hp) (e2.trans e3) h3
/-- a new instance -/
def EvO (te : TE) (σ : L2.St) (H : Hp) (C : Addr) (fs : List (Str × V)) : Prop := ∀ H1, Ex H H1 → ∀ Q : VK, (∀ p dx H2, H1 p = none → Ex H1 H2 → H2 p = some (.ins C dx fs) → Q (.ref p) H2) → te σ H1 Q
/-- what __init__ promises -/
def RetO (C x dx : Addr) (fs : List (Str × V)) (H : Hp) (Q : VK) : Prop := ∀ H2, (∀ b o, H b = some o → b ≠ x → H2 b = some o) → H2 x = some (.ins C dx fs) → Q .non H2
theorem eo_make {sp : Sp} {dvs vs : List V} {E : XK} {tg : TA} (ha : EvA tg σ H vs) (hs : ∀ H1, Ex H H1 → ∀ x dx, H1 x = some (.ins C dx []) → ∀ Q : VK, RetO C x dx fs H1 Q → sp (.ref x :: (vs ++ dvs)) H1 Q E) :
    EvO (tMake C sp dvs E tg) σ H C fs := fun H1 e Q q => ha H1 e _ fun H2 e2 => fun x dx nx ndx nex => by
  have s0 : Ex H2 (upd (upd H2 dx (.own x)) x (.ins C dx [])) := fun b o eb => by
    rw [upd_ne (ne_of_none eb nx), upd_ne (ne_of_none eb ndx)]
    exact eb
  refine hs _ ((e.trans e2).trans s0) x dx upd_same _ fun H3 k h3 => ⟨rfl, ?_⟩
  exact q x dx H3 (fresh_back e2 nx) (e2.trans fun b o eb => k b o (s0 b o eb) (ne_of_none eb nx)) h3
/-- an expression has some value of which P holds -/
def EvS (te : TE) (σ : L2.St) (H : Hp) (P : V → Prop) : Prop := ∀ H1, Ex H H1 → ∀ Q : VK, (∀ v, P v → ∀ H2, Ex H1 H2 → Q v H2) → te σ H1 Q
def RetS (P : V → Prop) (H : Hp) (Q : VK) : Prop := ∀ v, P v → ∀ H2, Ex H H2 → Q v H2
theorem es_callF {sp : Sp} {dvs vs : List V} {E : XK} {tg : TA} {P : V → Prop} (ha : EvA tg σ H vs) (hs : ∀ H1, Ex H H1 → ∀ Q : VK, RetS P H1 Q → sp (vs ++ dvs) H1 Q E) : EvS (tCall sp dvs E tg) σ H P := fun H1 e Q q =>
  ha H1 e _ fun H2 e2 => hs H2 (e.trans e2) Q fun v hv H3 e3 => q v hv H3 (e2.trans e3)
/-- .. the first argument a new list -/
theorem es_callL1 {sp : Sp} {E : XK} {ta tb : TE} {xs : List V} {y : V} {P : V → Prop} (h : EvL ta σ H xs) (hb : ∀ H1, Ex H H1 → Ev tb σ H1 y) (hs : ∀ p H1, Ex H H1 → H1 p = some (.lst xs) → ∀ Q : VK, RetS P H1 Q → sp [.ref p, y] H1 Q E) :
    EvS (tCall sp [] E (tCons ta (tCons tb tNil))) σ H P := fun H1 e Q q =>
  h H1 e _ fun p H2 _ e2 hp => hb H2 (e.trans e2) H2 (Ex.refl H2) _ fun H3 e3 => hs p H3 ((e.trans e2).trans e3) (e3 _ _ hp) Q fun v hv H4 e4 => q v hv H4 ((e2.trans e3).trans e4)
/-- some new list of ints of which P holds -/
def EvLS (te : TE) (σ : L2.St) (H : Hp) (P : List Int → Prop) : Prop := ∀ H1, Ex H H1 → ∀ Q : VK, (∀ xs, P xs → RetL (xs.map V.int) H1 Q) → te σ H1 Q
theorem els_callF {sp : Sp} {dvs vs : List V} {E : XK} {tg : TA} {P : List Int → Prop} (ha : EvA tg σ H vs) (hs : ∀ H1, Ex H H1 → ∀ Q : VK, (∀ xs, P xs → RetL (xs.map V.int) H1 Q) → sp (vs ++ dvs) H1 Q E) : EvLS (tCall sp dvs E tg) σ H P := fun H1 e Q q =>
  ha H1 e _ fun H2 e2 => hs H2 (e.trans e2) Q fun xs hx p H3 hp e3 h3 => q xs hx p H3 (fresh_back e2 hp) (e2.trans e3) h3
theorem Ev.some {P : V → Prop} (h : Ev te σ H v) (hv : P v) : EvS te σ H P := fun H1 e Q q => h H1 e Q fun H2 e2 => q v hv H2 e2
/-- x, y = divmod(a, b) -/
theorem eu_divmod {tg : TA} {i j : Int} (ha : EvA tg σ H [.int i, .int j]) (hc : CDivP i j) :
    EvU (tCB (fun xs H Q => ∃ i j, xs = [.int i, .int j] ∧ CDivP i j ∧ ∀ p, H p = none → Q (.ref p) (upd H p (.tup [.int (i / j), .int (i % j)]))) tg) σ H [.int (i / j), .int (i % j)] := fun H1 e Q q =>
  ha H1 e _ fun H2 e2 => ⟨i, j, rfl, hc, fun p hp => q p _ (fresh_back e2 hp) (e2.trans (Ex.new hp)) upd_same⟩
theorem ev_chain {p q : Bool} (ha : Ev ta σ H x) (hb : Ev tb σ H y) (hr : RV r x y H (.bl p)) (hc : p = true → Ev tc σ H z) (hr' : p = true → RV r' y z H (.bl q)) : Ev (tChain r r' ta tb tc) σ H (.bl (p && q)) := fun H1 e Q k =>
  ha H1 e _ fun H2 e2 => hb H2 (e.trans e2) _ fun H3 e3 => hr H3 ((e.trans e2).trans e3) _ fun H4 e4 => ⟨p, rfl, by
    cases p with
    | true =>
      show tc σ H4 _
      exact hc rfl H4 (((e.trans e2).trans e3).trans e4) _ fun H5 e5 => hr' rfl H5 ((((e.trans e2).trans e3).trans e4).trans e5) Q fun H6 e6 => k H6 ((((e2.trans e3).trans e4).trans e5).trans e6)
    | false =>
      show Q (.bl false) H4
      exact k H4 ((e2.trans e3).trans e4)⟩
/-- isinstance with a built-in class -/
theorem rc_isi {tn : String} {tv : Value} {b : Bool} (ty : ∀ H1, Ex H H1 → TyX K H1 x tv) (hb : PySem.W.kitOne K tv (.type tn) = some b) : RC (rIsi K) [x, .ty tn] H (.bl b) := fun H1 e Q q =>
  ⟨x, .ty tn, tv, .type tn, b, rfl, .ty _, ty H1 e, hb, q H1 (Ex.refl H1)⟩
theorem ex_ty {t : Value} (e : Ex H H') (h : TyOf K H x t) : TyOf K H' x t := by
  cases h with
  | non => exact .non
  | bl b => exact .bl b
  | int i => exact .int i
  | str s => exact .str s
  | flt s => exact .flt s
  | lst h => exact .lst (e _ _ h)
  | frz h => exact .frz (e _ _ h)
  | tup h => exact .tup (e _ _ h)
  | dK h => exact .dK (e _ _ h)
  | dT h => exact .dT (e _ _ h)
  | ins h a b c d f => exact .ins (e _ _ h) a b c d f
theorem ev_isi {tn : String} {tv : Value} {b : Bool} {tg : TA} (ha : EvA tg σ H [x, .ty tn]) (ty : TyOf K H x tv) (hb : PySem.W.kitOne K tv (.type tn) = some b) : Ev (tCB (rIsi K) tg) σ H (.bl b) :=
  ev_cb ha (rc_isi (fun H1 e => .base (ex_ty e ty)) hb)
/-- a built-in's call by values -/
theorem ev_cbv {rr : List V → Hp → VK → Prop} {tg : TA} {vs : List V} (ha : EvA tg σ H vs) (hr : ∀ H1, Ex H H1 → ∀ Q : VK, Q z H1 → rr vs H1 Q) : Ev (tCB rr tg) σ H z :=
  ev_cb ha fun H1 e Q q => hr H1 e Q (q H1 (Ex.refl H1))
theorem ev_un0 {g : Int → V} {i : Int} (h : Ev ta σ H (.int i)) : Ev (tUn (rU g) ta) σ H (g i) := ev_un h fun H1 _ _ q => ⟨i, rfl, q H1 (Ex.refl H1)⟩
theorem rv_eqI {i j : Int} : RV rEq (.int i) (.int j) H (.bl (decide (i = j))) := fun H1 _ _ q => ⟨rfl, by
  have e : decide (V.int i = V.int j) = decide (i = j) := by
    by_cases h : i = j
    · rw [decide_eq_true h, decide_eq_true (congrArg V.int h)]
    · rw [decide_eq_false h, decide_eq_false fun z => h (V.int.inj z)]
  rw [e]
  exact q H1 (Ex.refl H1)⟩
theorem rv_neI {i j : Int} : RV rNe (.int i) (.int j) H (.bl (!decide (i = j))) := fun H1 _ _ q => ⟨rfl, by
  have e : decide (V.int i = V.int j) = decide (i = j) := by
    by_cases h : i = j
    · rw [decide_eq_true h, decide_eq_true (congrArg V.int h)]
    · rw [decide_eq_false h, decide_eq_false fun z => h (V.int.inj z)]
  rw [e]
  exact q H1 (Ex.refl H1)⟩
theorem rv_isN : RV (fun x y H Q => y = .non ∧ Q (.bl (decide (x = .non))) H) x .non H (.bl (decide (x = .non))) := fun H1 _ _ q => ⟨rfl, q H1 (Ex.refl H1)⟩
theorem rv_notN : RV (fun x y H Q => y = .non ∧ Q (.bl (!decide (x = .non))) H) x .non H (.bl (!decide (x = .non))) := fun H1 _ _ q => ⟨rfl, q H1 (Ex.refl H1)⟩
theorem et_cmp {b : Bool} (h : Ev te σ H (.bl b)) : EvT (tTest te) σ H b := et_test h

/-! ### statements, told over an elder heap H0 -/
variable {D : Ends} {tu tw tz : TS} {g : TG}
theorem b_asg {i : Nat} (e : Ex H0 H) (h : Ev te σ H0 v) (k : ∀ H1, Ex H0 H1 → tz D (σ.set i (some v)) H1) : tSeq (tAsg te (gName i)) tz D σ H := q_asg (h.mono e) fun H1 e1 => k H1 (e.trans e1)
theorem b_asgL {i : Nat} {xs : List V} (e : Ex H0 H) (h : EvL te σ H0 xs) (k : ∀ p H1, H0 p = none → Ex H0 H1 → H1 p = some (.lst xs) → tz D (σ.set i (some (.ref p))) H1) : tSeq (tAsg te (gName i)) tz D σ H :=
  q_asgL (h.mono e) fun p H1 hp e1 h1 => k p H1 (fresh_back e hp) (e.trans e1) h1
theorem b_asgU {i : Nat} {xs : List V} (e : Ex H0 H) (h : EvU te σ H0 xs) (k : ∀ p H1, H0 p = none → Ex H0 H1 → H1 p = some (.tup xs) → tz D (σ.set i (some (.ref p))) H1) : tSeq (tAsg te (gName i)) tz D σ H :=
  q_asgU (fun H1 e1 => h H1 (e.trans e1)) fun p H1 hp e1 h1 => k p H1 (fresh_back e hp) (e.trans e1) h1
theorem b_asgO {i : Nat} (e : Ex H0 H) (h : EvO te σ H0 C fs) (k : ∀ p dx H1, H0 p = none → Ex H0 H1 → H1 p = some (.ins C dx fs) → tz D (σ.set i (some (.ref p))) H1) : tSeq (tAsg te (gName i)) tz D σ H :=
  h H e _ fun p dx H1 hp e1 h1 => k p dx H1 (fresh_back e hp) (e.trans e1) h1
theorem b_asgS {i : Nat} {P : V → Prop} (e : Ex H0 H) (h : EvS te σ H0 P) (k : ∀ v, P v → ∀ H1, Ex H0 H1 → tz D (σ.set i (some v)) H1) : tSeq (tAsg te (gName i)) tz D σ H :=
  h H e _ fun v hv H1 e1 => k v hv H1 (e.trans e1)
/-- x, y = a new tuple of two -/
theorem b_asg2 {i j : Nat} {x y : V} (e : Ex H0 H) (h : EvU te σ H0 [x, y]) (k : ∀ H1, Ex H0 H1 → tz D ((σ.set i (some x)).set j (some y)) H1) : tSeq (tAsg te (gTup K 2 (gCons (gName i) (gCons (gName j) gNil)))) tz D σ H :=
  h H e _ fun p H1 hp e1 h1 => ⟨p, [x, y], rfl, st_of h1, rfl, x, [y], rfl, y, [], rfl, rfl, k H1 (e.trans e1)⟩
theorem b_asgLS {i : Nat} {P : List Int → Prop} (e : Ex H0 H) (h : EvLS te σ H0 P) (k : ∀ xs, P xs → ∀ p H1, H0 p = none → Ex H0 H1 → H1 p = some (.lst (xs.map V.int)) → tz D (σ.set i (some (.ref p))) H1) : tSeq (tAsg te (gName i)) tz D σ H :=
  h H e _ fun xs hx p H1 hp e1 h1 => k xs hx p H1 (fresh_back e hp) (e.trans e1) h1
theorem b_drop (e : Ex H0 H) (h : Ev te σ H0 v) (k : ∀ H1, Ex H0 H1 → tz D σ H1) : tSeq (tDrop te) tz D σ H := q_drop (h.mono e) fun H1 e1 => k H1 (e.trans e1)
theorem b_dropCall {sp : Sp} {dvs vs : List V} {E : XK} {tg : TA} (e : Ex H0 H) (ha : EvA tg σ H0 vs) (hs : ∀ H1, Ex H0 H1 → sp (vs ++ dvs) H1 (fun _ H2 => tz D σ H2) E) : tSeq (tDrop (tCall sp dvs E tg)) tz D σ H :=
  ha H e _ fun H1 e1 => hs H1 (e.trans e1)
theorem b_if {b : Bool} (e : Ex H0 H) (h : EvT t σ H0 b) (h1 : b = true → ∀ H1, Ex H0 H1 → tu { D with nx := tz D } σ H1) (h2 : b = false → ∀ H1, Ex H0 H1 → tw { D with nx := tz D } σ H1) : tSeq (tIfS t tu tw) tz D σ H :=
  q_if (h.mono e) (fun q H1 e1 => h1 q H1 (e.trans e1)) fun q H1 e1 => h2 q H1 (e.trans e1)
/-- an if whose body ends the def or falls through -/
theorem b_when {b : Bool} (e : Ex H0 H) (h : EvT t σ H0 b) (h1 : b = true → ∀ H1, Ex H0 H1 → tu { D with nx := tz D } σ H1) (h2 : b = false → ∀ H1, Ex H0 H1 → tz D σ H1) : tSeq (tIfS t tu tNext) tz D σ H :=
  q_when (h.mono e) (fun q H1 e1 => h1 q H1 (e.trans e1)) fun q H1 e1 => h2 q H1 (e.trans e1)
/-- a guard that does not hold -/
theorem b_skip {b : Bool} (e : Ex H0 H) (h : EvT t σ H0 b) (k : ∀ H1, Ex H0 H1 → tz D σ H1) (hb : b = false := by rfl) : tSeq (tIfS t tu tNext) tz D σ H := b_when e h (fun q => by rw [hb] at q; cases q) fun _ => k
theorem b_ret (e : Ex H0 H) (h : Ev te σ H0 v) (k : ∀ H1, Ex H0 H1 → D.rt v H1) : tRet te D σ H := s_ret (h.mono e) fun H1 e1 => k H1 (e.trans e1)
theorem b_retL {xs : List V} (e : Ex H0 H) (h : EvL te σ H0 xs) (k : ∀ p H1, H0 p = none → Ex H0 H1 → H1 p = some (.lst xs) → D.rt (.ref p) H1) : tRet te D σ H :=
  s_retL (h.mono e) fun p H1 hp e1 h1 => k p H1 (fresh_back e hp) (e.trans e1) h1
theorem b_retU {xs : List V} (e : Ex H0 H) (h : EvU te σ H0 xs) (k : ∀ p H1, H0 p = none → Ex H0 H1 → H1 p = some (.tup xs) → D.rt (.ref p) H1) : tRet te D σ H :=
  s_retU (fun H1 e1 => h H1 (e.trans e1)) fun p H1 hp e1 h1 => k p H1 (fresh_back e hp) (e.trans e1) h1
/-- if c: x = e, told by the value x has behind it -/
theorem b_ifAsg {b : Bool} {i : Nat} (e : Ex H0 H) (h : EvT t σ H0 b) (h1 : b = true → Ev te σ H0 v) (h2 : b = false → σ.set i (some v) = σ) (k : ∀ H1, Ex H0 H1 → tz D (σ.set i (some v)) H1) : tSeq (tIfS t (tAsg te (gName i)) tNext) tz D σ H :=
  q_ifAsg (h.mono e) (fun q => (h1 q).mono e) h2 fun H1 e1 => k H1 (e.trans e1)
theorem l_ifAsg {b : Bool} {i : Nat} (e : Ex H0 H) (h : EvT t σ H0 b) (h1 : b = true → Ev te σ H0 v) (h2 : b = false → σ.set i (some v) = σ) (k : ∀ H1, Ex H0 H1 → D.nx (σ.set i (some v)) H1) : tIfS t (tAsg te (gName i)) tNext D σ H :=
  s_ifAsg (h.mono e) (fun q => (h1 q).mono e) h2 fun H1 e1 => k H1 (e.trans e1)
theorem l_asg {i : Nat} (e : Ex H0 H) (h : Ev te σ H0 v) (k : ∀ H1, Ex H0 H1 → D.nx (σ.set i (some v)) H1) : tAsg te (gName i) D σ H := s_asg (h.mono e) fun H1 e1 => k H1 (e.trans e1)
/-- the last of a branch -/
theorem e_asg {i : Nat} {f b c : L2.St → Hp → Prop} {r' : VK} (e : Ex H0 H) (h : Ev te σ H0 v) (k : ∀ H1, Ex H0 H1 → f (σ.set i (some v)) H1) : tAsg te (gName i) ⟨f, r', b, c⟩ σ H := s_asg (h.mono e) fun H1 e1 => k H1 (e.trans e1)
theorem e_drop {f b c : L2.St → Hp → Prop} {r' : VK} (e : Ex H0 H) (h : Ev te σ H0 v) (k : ∀ H1, Ex H0 H1 → f σ H1) : tDrop te ⟨f, r', b, c⟩ σ H := s_drop (h.mono e) fun H1 e1 => k H1 (e.trans e1)
theorem e_next {f b c : L2.St → Hp → Prop} {r' : VK} (k : f σ H) : tNext ⟨f, r', b, c⟩ σ H := k
theorem e_when {b : Bool} {f b' c : L2.St → Hp → Prop} {r' : VK} (e : Ex H0 H) (h : EvT t σ H0 b) (h1 : b = true → ∀ H1, Ex H0 H1 → tu ⟨f, r', b', c⟩ σ H1) (h2 : b = false → ∀ H1, Ex H0 H1 → f σ H1) : tIfS t tu tNext ⟨f, r', b', c⟩ σ H :=
  s_when (h.mono e) (fun q H1 e1 => h1 q H1 (e.trans e1)) fun q H1 e1 => h2 q H1 (e.trans e1)
theorem l_when {b : Bool} (e : Ex H0 H) (h : EvT t σ H0 b) (h1 : b = true → ∀ H1, Ex H0 H1 → tu D σ H1) (h2 : b = false → ∀ H1, Ex H0 H1 → D.nx σ H1) : tIfS t tu tNext D σ H :=
  s_when (h.mono e) (fun q H1 e1 => h1 q H1 (e.trans e1)) fun q H1 e1 => h2 q H1 (e.trans e1)
theorem l_if {b : Bool} (e : Ex H0 H) (h : EvT t σ H0 b) (h1 : b = true → ∀ H1, Ex H0 H1 → tu D σ H1) (h2 : b = false → ∀ H1, Ex H0 H1 → tw D σ H1) : tIfS t tu tw D σ H :=
  s_if (h.mono e) (fun q H1 e1 => h1 q H1 (e.trans e1)) fun q H1 e1 => h2 q H1 (e.trans e1)
theorem b_forR1 {tg : TA} {j : Nat} {n : Int} (e : Ex H0 H) (h : EvA tg σ H0 [.int n]) (hn : n ≤ 100000) (hm : -100000 ≤ n) (Pv : Nat → L2.St → Hp → Prop) (h0 : ∀ H1, Ex H0 H1 → Pv 0 σ H1)
    (hs : ∀ (i : Nat) σ' H', (i : Int) < n → Pv i σ' H' → tu { D with nx := Pv (i + 1), ct := Pv (i + 1), bk := tz D } (σ'.set j (some (.int (i : Int)))) H') (hd : ∀ σ' H', Pv n.toNat σ' H' → tz D σ' H') : tSeq (tFor (iRng1 tg) (gName j) tu) tz D σ H :=
  (h.mono e) H (Ex.refl H) _ fun H1 e1 => ⟨n, rfl, by omega, by omega, for_range (lo := 0) (n := n.toNat) Pv (h0 H1 (e.trans e1)) (fun i σ' H' hi p => by
    have e0 : (0 : Int) + (i : Int) = (i : Int) := Int.zero_add _
    show tu _ (σ'.set j (some (.int ((0 : Int) + (i : Int))))) H'
    rw [e0]
    exact hs i σ' H' (by omega) p) hd⟩
theorem b_forLn {l : Addr} {xs : List V} {tl : TE} {j : Nat} (e : Ex H0 H) (h : Ev tl σ H0 (.ref l)) (hx : SqL K H0 l xs) (Pv : Nat → L2.St → Hp → Prop) (h0 : ∀ H1, Ex H0 H1 → Pv 0 σ H1) (hl : ∀ i σ' H', i ≤ xs.length → Pv i σ' H' → SqL K H' l xs)
    (hs : ∀ i x σ' H', xs[i]? = some x → Pv i σ' H' → tu { D with nx := Pv (i + 1), ct := Pv (i + 1), bk := tz D } (σ'.set j (some x)) H') (hd : ∀ σ' H', Pv xs.length σ' H' → tz D σ' H') : tSeq (tFor (iList K tl) (gName j) tu) tz D σ H :=
  q_forLn (h.mono e) (ex_l e hx) Pv (fun H1 e1 => h0 H1 (e.trans e1)) hl hs hd
end
/-! ### sizes -/
theorem cmul_r {i j : Int} (h0 : -1000000000000000 ≤ j) (h1 : j ≤ 1000000000000000) : CMul i j := .inr ⟨by omega, by omega⟩
theorem cmul_l {i j : Int} (h0 : -1000000000000000 ≤ i) (h1 : i ≤ 1000000000000000) : CMul i j := .inl ⟨by omega, by omega⟩
theorem cdiv_small {i j : Int} (h0 : 0 < j) (h1 : j ≤ 1000000000000000) : CDivW i j := wide_div (b := 64) h0 (by omega) (by decide) (by decide)
theorem mod_range (a : Int) {b : Int} (h : 0 < b) : 0 ≤ a % b ∧ a % b < b := ⟨Int.emod_nonneg a (by omega), Int.emod_lt_of_pos a h⟩
theorem cdivp_small {i j : Int} (h0 : 0 < j) (h1 : j ≤ 1000000000000000) : CDivP i j := by
  refine ⟨h0, ?_⟩
  have hn : j.natAbs ≠ 0 := by omega
  have hl : j.natAbs.log2 < 64 := (Nat.log2_lt hn).mpr (by omega)
  unfold Builtin.divisionGoesByPylong
  have e : ¬ (if j == 0 then 0 else j.natAbs.log2 / 30 + 1) > 300 := by
    split
    · omega
    · omega
  simp only [e, decide_false, Bool.false_and]
theorem rv_pow {i j n : Int} {H : Hp} (hc : CPow i j) (e : i ^ j.toNat = n) : RV (rI CPow fun i j => .int (i ^ j.toNat)) (.int i) (.int j) H (.int n) := by
  have h := rv_I (C := CPow) (g := fun i j => V.int (i ^ j.toNat)) (H := H) hc
  rw [e] at h
  exact h
theorem rv_p12 {H : Hp} : RV (rI CPow fun i j => .int (i ^ j.toNat)) (.int 10) (.int 12) H (.int 1000000000000) := rv_pow ⟨by decide, by decide, by decide⟩ (by decide +kernel)
theorem rv_p30 {H : Hp} : RV (rI CPow fun i j => .int (i ^ j.toNat)) (.int 10) (.int 30) H (.int (10 ^ 30)) := rv_pow ⟨by decide, by decide, by decide⟩ (by decide +kernel)
theorem rv_p60 {H : Hp} : RV (rI CPow fun i j => .int (i ^ j.toNat)) (.int 10) (.int 60) H (.int (10 ^ 60)) := rv_pow ⟨by decide, by decide, by decide⟩ (by decide +kernel)
def c7 : Int := 982451653 ^ 7
def c5 : Int := 982451653 ^ 5
theorem rv_c7 {H : Hp} : RV (rI CPow fun i j => .int (i ^ j.toNat)) (.int 982451653) (.int 7) H (.int c7) := rv_pow ⟨by decide, by decide, by decide⟩ (by decide +kernel)
theorem rv_c5 {H : Hp} : RV (rI CPow fun i j => .int (i ^ j.toNat)) (.int 982451653) (.int 5) H (.int c5) := rv_pow ⟨by decide, by decide, by decide⟩ (by decide +kernel)
theorem c7_lt : c7.natAbs < 2 ^ 210 := by decide +kernel
theorem c5_lt : c5.natAbs < 2 ^ 150 := by decide +kernel
/-- a product of great ints -/
theorem rv_mulX {i j : Int} {a b : Nat} {H : Hp} (ha : i.natAbs < 2 ^ a) (hb : j.natAbs < 2 ^ b) (h : a + b ≤ 134217728) : RV (rI CMulX fun i j => .int (i * j)) (.int i) (.int j) H (.int (i * j)) := rv_I (mulx_ok ha hb h)
theorem pow_bits {s : Int} (h0 : 0 ≤ s) (h1 : s ≤ 1000000000000) : ∀ n : Nat, (s ^ n).natAbs < 2 ^ (40 * n + 1)
  | 0 => by
    rw [Int.pow_zero]
    decide
  | n + 1 => by
    have ih := pow_bits h0 h1 n
    rw [Int.pow_succ, Int.natAbs_mul]
    have h2 : s.natAbs ≤ 2 ^ 40 := by
      have e : (2 : Nat) ^ 40 = 1099511627776 := by decide
      omega
    have e : (2 : Nat) ^ (40 * (n + 1) + 1) = 2 ^ (40 * n + 1) * 2 ^ 40 := by
      rw [← Nat.pow_add]
      congr 1
    rw [e]
    exact Nat.lt_of_le_of_lt (Nat.mul_le_mul_left _ h2) (Nat.mul_lt_mul_of_pos_right ih (Nat.two_pow_pos 40))
/-- a number that has at most 8001 bits -/
def Fits (z : Int) : Prop := z.natAbs < 2 ^ 8001
theorem pow_fits {s : Int} {n : Nat} (h0 : 0 ≤ s) (h1 : s ≤ 1000000000000) (hn : n ≤ 200) : Fits (s ^ n) :=
  Nat.lt_of_lt_of_le (pow_bits h0 h1 n) (Nat.pow_le_pow_right (by decide) (by omega))
theorem Fits.le {a b : Int} (h : Fits b) (h0 : 0 ≤ a) (h1 : a ≤ b) : Fits a := Nat.lt_of_le_of_lt (by clear h; omega) h
theorem Fits.div {a b : Int} (h : Fits a) (h0 : 0 ≤ a) (h1 : 0 < b) : Fits (a / b) := h.le (Int.ediv_nonneg h0 (Int.le_of_lt h1)) (Int.ediv_le_self b h0)
theorem rv_mulF {i j : Int} {H : Hp} (ha : Fits i) (hb : Fits j) : RV (rI CMulX fun i j => .int (i * j)) (.int i) (.int j) H (.int (i * j)) := rv_mulX ha hb (by decide)
theorem rv_mulC7 {i : Int} {H : Hp} (ha : Fits i) : RV (rI CMulX fun i j => .int (i * j)) (.int i) (.int c7) H (.int (i * c7)) := rv_mulX ha c7_lt (by decide)
theorem rv_divF {i j : Int} {H : Hp} (h : 0 < j) (hb : Fits j) : RV (rI CDivW fun i j => .int (i / j)) (.int i) (.int j) H (.int (i / j)) := rv_I (wide_div h hb (by decide) (by decide))
theorem mod_nat (c : Int) (n : Nat) : ∃ j : Nat, c % ((n : Int) + 1) = (j : Int) ∧ j ≤ n := by
  have a0 := Int.emod_nonneg c (show (n : Int) + 1 ≠ 0 by omega)
  have a1 := Int.emod_lt_of_pos c (show (0 : Int) < (n : Int) + 1 by omega)
  exact ⟨(c % ((n : Int) + 1)).toNat, by omega, by omega⟩
/-! ### fields -/
theorem len_putF (f : Str) (v : V) : ∀ fs : List (Str × V), (putF f v fs).length ≤ fs.length + 1
  | [] => Nat.le_refl _
  | (g, x) :: r => by
    have ih := len_putF f v r
    unfold putF
    split
    · exact Nat.le_succ _
    · exact Nat.succ_le_succ ih
/-- the fields of a Listing, of a turning list -/
def lF (n z : Int) : List (Str × V) := putF "size" (.int z) (putF "length" (.int n) [])
def tF (s n : Int) (z : Int) : List (Str × V) := putF "signs" (.int s) (lF n z)
def cF (n k : Int) (z : Int) : List (Str × V) := putF "ones" (.int k) (lF n z)
theorem lF_len (n z : Int) : (lF n z).length ≤ 2 := Nat.le_trans (len_putF _ _ _) (Nat.succ_le_succ (len_putF _ _ _))
theorem lF_length (n z : Int) : (lF n z).lookup ("length" : Str) = some (V.int n) := by
  unfold lF
  rw [lookup_putF, if_neg (by decide +kernel), lookup_putF, if_pos rfl]
theorem lF_size (n z : Int) : (lF n z).lookup ("size" : Str) = some (V.int z) := by
  unfold lF
  rw [lookup_putF, if_pos rfl]
theorem lF_no (n z : Int) {m : Str} (h1 : ¬ m = "size") (h2 : ¬ m = "length") : (lF n z).lookup m = none := by
  unfold lF
  rw [lookup_putF, if_neg h1, lookup_putF, if_neg h2]
  rfl
theorem tF_length (s n z : Int) : (tF s n z).lookup ("length" : Str) = some (V.int n) := by
  unfold tF
  rw [lookup_putF, if_neg (by decide +kernel), lF_length]
theorem tF_size (s n z : Int) : (tF s n z).lookup ("size" : Str) = some (V.int z) := by
  unfold tF
  rw [lookup_putF, if_neg (by decide +kernel), lF_size]
theorem tF_signs (s n z : Int) : (tF s n z).lookup ("signs" : Str) = some (V.int s) := by
  unfold tF
  rw [lookup_putF, if_pos rfl]
theorem tF_no (s n z : Int) {m : Str} (h1 : ¬ m = "size") (h2 : ¬ m = "length") (h3 : ¬ m = "signs") : (tF s n z).lookup m = none := by
  unfold tF
  rw [lookup_putF, if_neg h3, lF_no _ _ h1 h2]
theorem cF_length (n k z : Int) : (cF n k z).lookup ("length" : Str) = some (V.int n) := by
  unfold cF
  rw [lookup_putF, if_neg (by decide +kernel), lF_length]
theorem cF_size (n k z : Int) : (cF n k z).lookup ("size" : Str) = some (V.int z) := by
  unfold cF
  rw [lookup_putF, if_neg (by decide +kernel), lF_size]
theorem cF_ones (n k z : Int) : (cF n k z).lookup ("ones" : Str) = some (V.int k) := by
  unfold cF
  rw [lookup_putF, if_pos rfl]
theorem cF_no (n k z : Int) {m : Str} (h1 : ¬ m = "size") (h2 : ¬ m = "length") (h3 : ¬ m = "ones") : (cF n k z).lookup m = none := by
  unfold cF
  rw [lookup_putF, if_neg h3, lF_no _ _ h1 h2]
theorem cF_m (n k z : Int) {m : Str} (h1 : ¬ m = "size" := by decide +kernel) (h2 : ¬ m = "length" := by decide +kernel) (h3 : ¬ m = "ones" := by decide +kernel) : (cF n k z).lookup m = none := cF_no _ _ _ h1 h2 h3
theorem tF_m (s n z : Int) {m : Str} (h1 : ¬ m = "size" := by decide +kernel) (h2 : ¬ m = "length" := by decide +kernel) (h3 : ¬ m = "signs" := by decide +kernel) : (tF s n z).lookup m = none := tF_no _ _ _ h1 h2 h3
/-! ### the law's promise: of a list of at most 63 ints, True -/
def spLawK (K : PySem.W.Frag) : Sp := fun vs H Q _ => ∃ (a : Addr) (ns : List Int), vs = [.ref a] ∧ SqL K H a (ns.map V.int) ∧ ns.length ≤ 63 ∧ (∀ z ∈ ns, Builtin.Int.intBits z ≤ 1048576) ∧ ∀ H', Q (.bl true) H'
/-- a cell of the script -/
def cell (ns : List Int) (k : Int) : Int := ns.getD k.toNat 0
/-! ### a plain def read off a class: C.m(..) -/
section
variable {X : Cx} {CX : CXT} {k : Nat} {f C : Addr} {mc : Value} {fd : FuncData} {ps : List Str} {sp : Sp} {dvs : List V} {ds : List Value} {E : XK} {x m : Str} {np apos pos : Pos} {e : Expr} {es : List Expr} {t : TA} {pl : Sem Bool}
theorem pe_clsfn (r : ClX.CRead X.K C mc) (at_ : PySem.W.findCls X.K (.ref C) mc m = some (.val (.ref f))) (kp : PySem.W.keepIn X.K (.ref f) = true) (F : FnOk X.prog X.w X.K X.mg X.base CX k f fd ps sp) (hr : Room k X.A) (hg : Gl X x) (hm : X.mg x = some (.ref C))
    (hb : Binds X.K fd ps ds) (hd : Vals dvs ds) (hx : Passes CX X E) (ha : PA X (e :: es) t) (hdb : (x == ("__debug__" : Str)) = false := by decide)
    (he : starEach (e :: es) X.env = (false, eval e X.env) :: starEach es X.env := by rfl) (hpl : (backTo pos (starEach es X.env)).any (·.1) = false := by rfl)
    (ht : eval (.Call (.Attribute (.Name x np) m apos) (e :: es) [] pos) X.env = (do
      let ov ← eval (.Name x np) X.env
      standAt apos.atName
      let (f, first) ← holding [ov] (getMethod ov m pl)
      callWith pos f first (backTo pos (starEach (e :: es) X.env)) (backToKw pos (keywordEach [] X.env))) := by rfl) :
    PE X (.Call (.Attribute (.Name x np) m apos) (e :: es) [] pos) (tCall sp dvs E t) := by
  refine ⟨fun pins s σ H Q I h => ?_⟩
  refine PySem.W.methodCall_KW (pl := pl) (ld_glob I hg hm ?_ hdb) ht
  refine PySem.W.method_cls I.kIn r.ga (PySem.W.cls_value I.kIn r.rd at_ rfl ?_)
  have I2 : Inv X pins σ H { s with toks := s.toks + 1 } := I.tok _
  refine PySem.W.callWith_K (h₀ := X.base) (first := []) I.ok.mod.kin kp (thn (ha.run pos pins { s with toks := s.toks + 1 } σ H _ I2 h) fun us s1 ⟨vs, H1, I1, rv, q⟩ => ⟨I1.kIn, ?_⟩) he hpl
  exact run_fn F hr hb hd hx I1 rv q
end
end Mk
/-! ### list(reversed(xs)) -/
namespace Mk
open PySem PySem.Spec PyProof.Rows L2 RT
section
variable {prog : Program} {w : World} {A : Around} {E : Value → Shared → Prop} {s : Shared}
theorem call_list_rev {it l : Addr} {items : Array Value} {Q : Value → Shared → Prop} (hh : A.handled = none) (hit : s.heap.IsRevIter it l ((items.size : Int) - 1)) (hl : s.heap.IsList l items) (hne : l ≠ it) (hn : items.size ≤ sizeLine)
    (hQ : ∀ (h' : Heap) (tk : Nat) (acc' : Array Value) (c' : Nat), (∀ b o, b ≠ it → s.heap.get? b = some o → h'.get? b = some o) → h'.get? s.heap.objs.size = some { cls := .type "list", dict := none, data := .seq acc' c', slots := #[] } →
      ItemsOf (fun i v => items[items.size - 1 - i]? = some v) acc' items.size → Q (.ref s.heap.objs.size) { s with heap := h', toks := tk }) :
    wpAny (model prog w) A (call (.type "list") [.ref it]) Q E s := by
  refine callType_codes (Q₁ := fun obj s₁ => obj = .ref s.heap.objs.size ∧ s₁ = { s with heap := s.heap.push { cls := .type "list", data := .seq #[] } }) PySem.F.called_list (PySem.F.typeCall_list_1 _) PySem.F.entry_list_init
    (code_list_new _ ⟨rfl, rfl⟩) fun obj s₁ h₁ => ?_
  obtain ⟨rfl, rfl⟩ := h₁
  have hS : (s.heap.push { cls := .type "list", data := .seq #[] }).get? s.heap.objs.size = some { cls := .type "list", data := .seq #[] } := Heap.get?_push_size _ rfl
  refine ⟨⟨_, hS, rfl⟩, PySem.F.args_list_init_2 _ _, ?_⟩
  obtain ⟨oi, hoi, _⟩ := id hit
  have hSi : s.heap.objs.size ≠ it := Nat.ne_of_gt (Heap.lt_size hoi)
  obtain ⟨ol, hol, _⟩ := id hl
  have hSl : s.heap.objs.size ≠ l := Nat.ne_of_gt (Heap.lt_size hol)
  show wpAny _ A.in1.in1 (do let old ← Builtin.List.listItems (.ref s.heap.objs.size); Builtin.List.listUpdate (.ref s.heap.objs.size) (fun _ => #[]); letGo old.toList.reverse; Builtin.List.listExtendWith (.ref s.heap.objs.size) (.ref it) .none) _ _ _
  refine wpAny_bind ?_
  unfold Builtin.List.listItems
  refine wpAny_bind (wpAny_seqItems hS rfl (wpAny_pure ?_))
  show wpAny _ A.in1.in1 (updateSeq s.heap.objs.size (fun _ => #[]) >>= fun _ => letGo (#[] : Array Value).toList.reverse >>= fun _ => Builtin.List.listExtendWith (.ref s.heap.objs.size) (.ref it) .none) _ _ _
  refine wpAny_bind (wpAny_updateSeq hS rfl ?_)
  have hS₂ := Heap.get?_update_self (Obj.mapSeq (fun _ => (#[] : Array Value))) hS rfl
  have oth : ∀ b o, b ≠ s.heap.objs.size → s.heap.get? b = some o → ((s.heap.push { cls := .type "list", data := .seq #[] }).update s.heap.objs.size (Obj.mapSeq (fun _ => (#[] : Array Value)))).get? b = some o :=
    fun b o hb e => (Heap.get?_update_other _ _ (Ne.symm hb)).trans (Heap.get?_push_of_some _ e)
  refine wpAny_bind (wpAny_letGo ?_)
  generalize hG : (s.heap.push { cls := .type "list", data := .seq #[] }).update s.heap.objs.size (Obj.mapSeq (fun _ => (#[] : Array Value))) = G at hS₂ oth
  have hit1 : G.IsRevIter it l ((items.size : Int) - 1) := hit.at fun o e => oth it o hSi.symm e
  have hl1 : G.IsList l items := hl.at fun o e => oth l o hSl.symm e
  have hT : ({ s with heap := G } : Shared).TypeIs (.ref it) "list_reverseiterator" := Heap.IsRevIter.typeIs (s := { s with heap := G }) hit1
  have h1 : Builtin.List.listSameRef (.ref s.heap.objs.size) (.ref it) = false := by simp [Builtin.List.listSameRef, hSi]
  have hSf : s.heap.objs.size ∉ [it, l] := by simp only [List.mem_cons, List.not_mem_nil, or_false, not_or]; exact ⟨hSi, hSl⟩
  have W := Walks.listRev (prog := prog) (w := w) (A := A.in1.in1) hh it l hne items
  unfold Builtin.List.listExtendWith
  refine wpAny_bind (wpAny_typeOf hT ?_)
  rw [if_neg (by rw [h1]; decide)]
  refine wpAny_bind (wpAny_pyIter_revIter (s := { s with heap := G }) hit1 ?_)
  refine wpAny_bind (wpAny_holding ?_)
  unfold Builtin.List.listLengthHint
  refine wpAny_bind (wpAny_specialOf hT nolen_lri ?_)
  show wpAny _ A.in1.in1 (specialOf (Value.ref it) (Str.ofString "__length_hint__") >>= _) _ _ _
  refine wpAny_bind (wpAny_specialOf hT hint_lri ?_)
  generalize hid : ("list_reverseiterator.__length_hint__" : String) = id0
  wp_delta
  rw [show splitId id0 = some ("list_reverseiterator", "__length_hint__") from by subst hid; decide +kernel]
  subst hid
  refine wpAny_bind (wpAny_isInstance (b := true) hT (by rw [isSubtype_type]; kernel_rfl) ?_)
  refine wpAny_pure ?_
  rw [if_neg (by decide)]
  have e0 : ((items.size : Nat) : Int) - 1 - ((0 : Nat) : Int) = (items.size : Int) - 1 := by omega
  refine wpAny_pure ⟨plainId_quiet F.plain_extend_loop _, codeAny_extend_loopS W.toS hn _ hSf _ items.size 0 _ _ _ rfl (Nat.zero_le _) ⟨Nat.zero_le _, by rw [e0]; exact hit1, hl1⟩ hS₂ (ItemsOf.nil _) fun s' acc' c' hm hS' hacc => ?_⟩
  rw [Moved.eq_with hm]
  refine ⟨rfl, hQ s'.heap s'.toks acc' c' (fun b o hb e => ?_) hS' hacc⟩
  have hb2 : b ≠ s.heap.objs.size := Nat.ne_of_lt (Heap.lt_size e)
  refine hm.heap b o (fun hmem => ?_) (oth b o hb2 e)
  rcases List.mem_cons.mp hmem with e' | hmem
  · exact hb2 e'
  · exact hb (List.mem_singleton.mp hmem)
end
section
variable {X : Cx}
/-- list(reversed(x)), x a list: a new list -/
def tLstRev (K : PySem.W.Frag) (te : TE) : TE := fun σ H Q => te σ H fun v H1 => ∃ (a : Addr) (xs : List V), v = .ref a ∧ SqL K H1 a xs ∧ ∀ q, H1 q = none → Q (.ref q) (upd H1 q (.lst xs.reverse))
theorem pe_lstRev {e : Expr} {te : TE} {p p2 pos pos2 : Pos} (hc : X.calm = true) (hg : Gl X "list") (hm : X.mg "list" = none) (hg2 : Gl X "reversed") (hm2 : X.mg "reversed" = none) (he : PE X e te)
    (hs : starEach [e] X.env = (false, eval e X.env) :: starEach [] X.env := by rfl)
    (hs2 : starEach [.Call (.Name "reversed" p2) [e] [] pos2] X.env = (false, eval (.Call (.Name "reversed" p2) [e] [] pos2) X.env) :: starEach [] X.env := by rfl) :
    PE X (.Call (.Name "list" p) [.Call (.Name "reversed" p2) [e] [] pos2] [] pos) (tLstRev X.K te) := by
  refine ⟨fun pins s σ H Q I h => ?_⟩
  refine Call_ (ld_blt I hg hm boot_list (PyProof.Rows.callWith_type1 (args_cons (Call_ (ld_blt I hg2 hm2 PyProof.Rows.boot_reversed (PyProof.Rows.callWith_type1 (args_cons (thn (he.run pins s σ H _ I h) fun u s1 ⟨v, H1, I1, r1, q1⟩ => args_nil ?_) hs) hs rfl))) hs2) hs2 rfl))
  obtain ⟨a, xs, ev, hq, q⟩ := q1
  subst ev
  obtain rfl : u = Value.ref a := r1
  obtain ⟨its, rv, p', hz⟩ := I1.list hq
  refine call_reversed_list p'.isList (args_nil ?_)
  have k0 : ∀ b o, s1.heap.get? b = some o → (s1.heap.push (revObj a ((its.toArray.size : Int) - 1))).get? b = some o := fun b o e => Heap.get?_push_of_some _ e
  have I2 : Inv X pins σ H1 { s1 with heap := s1.heap.push (revObj a ((its.toArray.size : Int) - 1)) } := I1.kept (t' := s1.toks) k0
  have hfr := I1.hok.fresh (Nat.le_refl s1.heap.objs.size)
  obtain ⟨f0, f1, f2, f3, f4, f5⟩ := I1.fpOk (H' := H1) (b := s1.heap.objs.size) (Nat.le_refl _) hfr
  have hl := p'.isList
  obtain ⟨ol, hol, _⟩ := id hl
  have hn : its.toArray.size ≤ sizeLine := by rw [List.size_toArray, ← rv.length]; exact hz
  refine call_list_rev (s := { s1 with heap := s1.heap.push (revObj a ((its.toArray.size : Int) - 1)) }) (I1.ok.hd hc) ⟨_, Heap.get?_push_size _ rfl, rfl, rfl⟩ (hl.push _) (Nat.ne_of_lt (Heap.lt_size hol)) hn fun h' tk acc c' hk hS hi => ?_
  refine ⟨.ref (s1.heap.push (revObj a ((its.toArray.size : Int) - 1))).objs.size, upd H1 (s1.heap.push (revObj a ((its.toArray.size : Int) - 1))).objs.size (.lst xs.reverse),
    I2.turnedNew (t' := tk) (ch := [s1.heap.objs.size]) (T := (s1.heap.push (revObj a ((its.toArray.size : Int) - 1))).objs.size) (ob := .lst xs.reverse) (fun b o hb e => hk b o (fun z => hb (by simp [z])) e) (fun b hb => ?_) (Nat.le_refl _) ?_, rfl, q _ (I2.hok.fresh (Nat.le_refl _))⟩
  · rw [List.mem_singleton.mp hb]
    exact I1.fpOk (Nat.le_refl _) hfr
  · refine ⟨by rw [List.length_reverse]; exact hz, acc.toList, c', vals_rev rv hi, ?_⟩
    rw [Array.toArray_toList]
    exact hS
end
end Mk
namespace Mk
open PySem L2 Evl
/-! ### rules whose reading names the written part: by a letter -/
section
variable {X : Cx} {K : PySem.W.Frag}
theorem pe_fldK {e : Expr} {f : Str} {ta : TE} {pos : Pos} (he : PE X e ta) (hb : attributeBase e f X.env (eval e X.env) = eval e X.env) (hK : X.K = K := by rfl) : PE X (.Attribute e f pos) (tFld K ta f) := by
  subst hK
  exact pe_fld he hb
theorem ix_listK (hK : X.K = K := by rfl) : IxR X (rIxL K) := by
  subst hK
  exact ix_list
theorem ix_tupK (hK : X.K = K := by rfl) : IxR X (rIxT K) := by
  subst hK
  exact ix_tup
theorem call_lenK (hK : X.K = K := by rfl) : CallR X (.builtin "len") (rLenS K) := by
  subst hK
  exact call_len_seq
end
/-! ### lists of ints -/
section
variable {K : PySem.W.Frag} {σ : L2.St} {H H0 H' : Hp} {ta tb tc te tx tl : TE} {t u : TT} {x y z v : V} {a b : Addr} {xs ys : List Int} {D : Ends} {tu tw tz : TS}
theorem int_item {ns : List Int} {i : Nat} {x : V} (h : (ns.map V.int)[i]? = some x) : ∃ (c : Int) (hi : i < ns.length), x = V.int c ∧ ns[i] = c := by
  rw [List.getElem?_map] at h
  cases e : ns[i]? with
  | none => rw [e] at h; cases h
  | some c =>
    rw [e] at h
    obtain ⟨hi, e2⟩ := List.getElem?_eq_some_iff.mp e
    exact ⟨c, hi, (Option.some.inj h).symm, e2⟩
theorem int_at {ns : List Int} {i : Nat} (hi : i < ns.length) : (ns.map V.int)[i]? = some (V.int ns[i]) := by
  rw [List.getElem?_map, List.getElem?_eq_getElem hi]
  rfl
theorem dp_all : ∀ xs : List Int, DpAll K H (xs.map V.int) (xs.map PyData.int)
  | [] => .nil
  | x :: r => .cons (.int x) (dp_all r)
theorem dp_ints (h : SqL K H a (xs.map V.int)) : Dp K H (.ref a) (.list (xs.map PyData.int)) := .lst h (dp_all xs)
theorem lay_ints : ∀ xs : List Int, PyData.canLayAll0 (xs.map PyData.int) = true
  | [] => rfl
  | x :: r => by
    show (PyData.canLay0 (PyData.int x) && PyData.canLayAll0 (r.map PyData.int)) = true
    rw [lay_ints r]
    rfl
theorem depth_ints : ∀ xs : List Int, PyData.depthAll (xs.map PyData.int) ≤ 1
  | [] => by decide
  | x :: r => by
    show max (PyData.depth (PyData.int x)) (PyData.depthAll (r.map PyData.int)) ≤ 1
    have := depth_ints r
    have e : PyData.depth (PyData.int x) ≤ 1 := by
      first | (show (0 : Nat) ≤ 1; decide) | (show (1 : Nat) ≤ 1; decide) | (simp [PyData.depth])
    omega
theorem shaped_ints (xs : List Int) : SeqAt.shaped (.list (xs.map PyData.int)) = true := by
  unfold SeqAt.shaped
  have h1 : PyData.canLay0 (.list (xs.map PyData.int)) = true := lay_ints xs
  have h2 : PyData.depth (.list (xs.map PyData.int)) ≤ 64 := by
    have e : PyData.depth (.list (xs.map PyData.int)) = 1 + PyData.depthAll (xs.map PyData.int) := by simp [PyData.depth, Nat.add_comm]
    have := depth_ints xs
    omega
  rw [h1, decide_eq_true h2]
  rfl
theorem eqv_ints : ∀ xs ys : List Int, PyData.eqvAll (xs.map PyData.int) (ys.map PyData.int) = decide (xs = ys)
  | [], [] => rfl
  | [], _ :: _ => rfl
  | _ :: _, [] => rfl
  | x :: r, y :: q => by
    show (PyData.eqv (.int x) (.int y) && PyData.eqvAll (r.map PyData.int) (q.map PyData.int)) = decide (x :: r = y :: q)
    rw [eqv_ints r q]
    have e : PyData.eqv (.int x) (.int y) = (x == y) := by simp [PyData.eqv]
    rw [e]
    by_cases h : x = y
    · subst h
      by_cases h2 : r = q
      · subst h2
        simp
      · simp [h2]
    · simp [h]
theorem rv_eqL (h1 : SqL K H a (xs.map V.int)) (h2 : SqL K H b (ys.map V.int)) : RV (rEqD K) (.ref a) (.ref b) H (.bl (decide (xs = ys))) := fun H1 e Q q =>
  ⟨_, _, dp_ints (ex_l e h1), dp_ints (ex_l e h2), shaped_ints _, shaped_ints _, by
    show Q (.bl (PyData.eqvAll (xs.map PyData.int) (ys.map PyData.int))) H1
    rw [eqv_ints]
    exact q H1 (Ex.refl H1)⟩
theorem rv_neL (h1 : SqL K H a (xs.map V.int)) (h2 : SqL K H b (ys.map V.int)) : RV (rNeD K) (.ref a) (.ref b) H (.bl (!decide (xs = ys))) := fun H1 e Q q =>
  ⟨_, _, dp_ints (ex_l e h1), dp_ints (ex_l e h2), shaped_ints _, shaped_ints _, by
    show Q (.bl (!PyData.eqvAll (xs.map PyData.int) (ys.map PyData.int))) H1
    rw [eqv_ints]
    exact q H1 (Ex.refl H1)⟩
/-- [e for x in xs] -/
theorem el_mapL {l : Addr} {vs : List V} {j : Nat} {ws : List Nat} (g : V → V) (h : Ev tl σ H (.ref l)) (hx : SqL K H l vs) (hz : vs.length ≤ 40000) (hw : ∀ x, wipe ((wipe σ ws).set j (some x)) ws = wipe σ ws)
    (he : ∀ x H1, Ex H H1 → x ∈ vs → Ev te ((wipe σ ws).set j (some x)) H1 (g x)) : EvL (tLc (iList K tl) (gName j) tYes te ws) σ H (vs.map g) := by
  have h0 := el_lcL (K := K) (t := tYes) (te := te) (fun _ => true) (fun i => match vs[i]? with | some x => g x | none => .non) h hx hz hw (fun i x H1 e hi => fun H2 _ Q q => q H2 (Ex.refl H2)) (fun i x H1 e hi _ => by
    rw [hi]
    exact he x H1 e (List.mem_of_getElem? hi))
  have e : given vs.length (fun _ => true) (fun i => match vs[i]? with | some x => g x | none => .non) = vs.map g := by
    unfold given
    rw [List.filter_eq_self.mpr (fun _ _ => rfl)]
    apply List.ext_getElem?
    intro i
    rw [List.getElem?_map, List.getElem?_map]
    by_cases hi : i < vs.length
    · rw [List.getElem?_range hi, List.getElem?_eq_getElem hi]
      simp [hi]
    · rw [List.getElem?_eq_none (by simpa using hi), List.getElem?_eq_none (by simpa using hi)]
      rfl
  rw [e] at h0
  exact h0
/-- all([..]) -/
theorem ev_allL {bs : List Bool} (h : EvL te σ H (bs.map V.bl)) : Ev (tCB (rAll K) (tCons te tNil)) σ H (.bl (bs.all id)) := fun H1 e Q q =>
  h H1 e _ fun p H2 _ e2 hp => ⟨p, bs, rfl, sq_of hp, q H2 e2⟩
theorem ev_allI {l : Addr} {ns : List Int} {j : Nat} {ws : List Nat} (p : Int → Bool) (h : Ev tl σ H (.ref l)) (hx : SqL K H l (ns.map V.int)) (hz : ns.length ≤ 40000) (hw : ∀ x, wipe ((wipe σ ws).set j (some x)) ws = wipe σ ws)
    (he : ∀ m H1, Ex H H1 → m ∈ ns → Ev te ((wipe σ ws).set j (some (.int m))) H1 (.bl (p m))) : Ev (tCB (rAll K) (tCons (tLc (iList K tl) (gName j) tYes te ws) tNil)) σ H (.bl (ns.all p)) := by
  have h0 := el_mapL (K := K) (te := te) (fun x => match x with | .int m => V.bl (p m) | _ => .non) h hx (by rw [List.length_map]; exact hz) hw (fun x H1 e hm => by
    obtain ⟨m, hm2, rfl⟩ := List.mem_map.mp hm
    exact he m H1 e hm2)
  have e : (ns.map V.int).map (fun x => match x with | .int m => V.bl (p m) | _ => .non) = (ns.map p).map V.bl := by
    rw [List.map_map, List.map_map]
    rfl
  rw [e] at h0
  have h1 := ev_allL (K := K) h0
  have e2 : (ns.map p).all id = ns.all p := by rw [List.all_map]; rfl
  rw [e2] at h1
  exact h1
/-- [x] * n -/
theorem el_rep {vs : List V} {n : Int} (h : EvL ta σ H vs) (hb : ∀ H1, Ex H H1 → Ev tb σ H1 (.int n)) (h0 : 0 ≤ n) (h1 : n ≤ 1000) (hl : vs.length ≤ 1) : EvL (tOp rRep ta tb) σ H (List.replicate n.toNat vs).flatten := fun H1 e Q q =>
  h H1 e _ fun p H2 hp e2 hv => hb H2 (e.trans e2) H2 (Ex.refl H2) _ fun H3 e3 => ⟨p, n, vs, rfl, rfl, e3 _ _ hv, by omega, by omega, by
    have : vs.length * n.toNat ≤ 1 * 1000 := Nat.mul_le_mul hl (by omega)
    exact Nat.le_trans this (by decide), fun p' hp' => q p' _ (fresh_back (e2.trans e3) hp') ((e2.trans e3).trans (Ex.new hp')) upd_same⟩
/-- xs + ys -/
theorem el_cat {vs ws : List V} (h : EvL ta σ H vs) (hb : EvL tb σ H ws) (hl : vs.length + ws.length ≤ 100000) : EvL (tOp rCat ta tb) σ H (vs ++ ws) := fun H1 e Q q =>
  h H1 e _ fun p H2 hp e2 hv => hb H2 (e.trans e2) _ fun p2 H3 hp2 e3 hw => ⟨p, p2, vs, ws, rfl, rfl, e3 _ _ hv, hw, sz_of (by omega), fun p' hp' => q p' _ (fresh_back (e2.trans e3) hp') ((e2.trans e3).trans (Ex.new hp')) upd_same⟩
theorem flat_one (n : Nat) (v : V) : (List.replicate n [v]).flatten = List.replicate n v := by
  induction n with
  | zero => rfl
  | succ n ih => rw [List.replicate_succ, List.flatten_cons, ih]; rfl
/-- list(reversed(xs)) -/
theorem el_lstRev {vs : List V} (h : Ev te σ H (.ref a)) (hx : SqL K H a vs) : EvL (tLstRev K te) σ H vs.reverse := fun H1 e Q q =>
  h H1 e _ fun H2 e2 => ⟨a, vs, rfl, ex_l (e.trans e2) hx, fun p hp => q p _ (fresh_back e2 hp) (e2.trans (Ex.new hp)) upd_same⟩
theorem cut_ints (ns : List Int) (lo hi : Option Int) : ∃ ms : List Int, cutV (ns.map V.int) lo hi = ms.map V.int := by
  unfold cutV
  rw [← List.map_drop, ← List.map_take]
  exact ⟨_, rfl⟩
theorem b_forNLn {vs : List V} {j : Nat} (e : Ex H0 H) (h : EvL tl σ H0 vs) (Pv : Addr → Nat → L2.St → Hp → Prop) (h0 : ∀ p H1, H p = none → Ex H H1 → H1 p = some (.lst vs) → Pv p 0 σ H1) (hl : ∀ p i σ' H', i ≤ vs.length → Pv p i σ' H' → SqL K H' p vs)
    (hs : ∀ p i x σ' H', vs[i]? = some x → Pv p i σ' H' → tu { D with nx := Pv p (i + 1), ct := Pv p (i + 1), bk := tz D } (σ'.set j (some x)) H') (hd : ∀ p σ' H', Pv p vs.length σ' H' → tz D σ' H') : tSeq (tFor (iList K tl) (gName j) tu) tz D σ H :=
  q_forNLn (h.mono e) Pv h0 hl hs hd
theorem b_forRev {tg : TA} {l : Addr} {vs : List V} {j : Nat} (e : Ex H0 H) (h : EvA tg σ H0 [.ref l]) (hx : SqL K H0 l vs) (Pv : Nat → L2.St → Hp → Prop) (h0 : ∀ H1, Ex H0 H1 → Pv 0 σ H1) (hq : ∀ i σ' H', Pv i σ' H' → SqL K H' l vs)
    (hs : ∀ (i : Nat) x σ' H', i < vs.length → vs[vs.length - 1 - i]? = some x → Pv i σ' H' → tu { D with nx := Pv (i + 1), ct := Pv (i + 1), bk := tz D } (σ'.set j (some x)) H') (hd : ∀ σ' H', Pv vs.length σ' H' → tz D σ' H') : tSeq (tFor (iRev K tg) (gName j) tu) tz D σ H :=
  h H e _ fun H1 e1 => ⟨l, vs, rfl, ex_l (e.trans e1) hx, RT.for_Itv Pv (h0 H1 (e.trans e1)) hq hs hd⟩
end
/-! ### what raises as is wished -/
section
variable {K : PySem.W.Frag} {σ : L2.St} {H H0 H' : Hp} {ta tb tc te tx tl : TE} {t u : TT} {x y z v : V} {a b C dx : Addr} {fs : List (Str × V)} {m : Str} {D : Ends} {tu tw tz : TS} {r : R2} {tg tr : TA}
/-- refused -/
def RetX (c : Addr) (H : Hp) (E : XK) : Prop := ∀ H2, Ex H H2 → E (.ref c) none H2
def EvR (te : TE) (σ : L2.St) (H : Hp) : Prop := ∀ H1, Ex H H1 → ∀ Q : VK, te σ H1 Q
def EvRA (ta : TA) (σ : L2.St) (H : Hp) : Prop := ∀ H1, Ex H H1 → ∀ Q : List V → Hp → Prop, ta σ H1 Q
theorem er_op1 (h : EvR ta σ H) : EvR (tOp r ta tb) σ H := fun H1 e _ => h H1 e _
theorem er_op2 (ha : Ev ta σ H x) (h : EvR tb σ H) : EvR (tOp r ta tb) σ H := fun H1 e _ => ha H1 e _ fun H2 e2 => h H2 (e.trans e2) _
theorem er_cons1 (h : EvR ta σ H) : EvRA (tCons ta tr) σ H := fun H1 e _ => h H1 e _
theorem er_cons2 (ha : Ev ta σ H x) (h : EvRA tr σ H) : EvRA (tCons ta tr) σ H := fun H1 e _ => ha H1 e _ fun H2 e2 => h H2 (e.trans e2) _
theorem er_methA {sp : Sp} {dvs : List V} {E : XK} (h : Ev ta σ H (.ref a)) (ho : H a = some (.ins C dx fs)) (hl : fs.lookup m = none) (ha : EvRA tg σ H) : EvR (tMeth C m sp dvs E ta tg) σ H := fun H1 e _ =>
  h H1 e _ fun H2 e2 => ⟨a, dx, fs, rfl, e2 _ _ (e _ _ ho), hl, ha H2 (e.trans e2) _⟩
theorem er_meth {sp : Sp} {dvs vs : List V} {E : XK} (h : Ev ta σ H (.ref a)) (ho : H a = some (.ins C dx fs)) (hl : fs.lookup m = none) (ha : EvA tg σ H vs) (hs : ∀ H1, Ex H H1 → ∀ Q : VK, sp (.ref a :: (vs ++ dvs)) H1 Q E) : EvR (tMeth C m sp dvs E ta tg) σ H := fun H1 e Q =>
  h H1 e _ fun H2 e2 => ⟨a, dx, fs, rfl, e2 _ _ (e _ _ ho), hl, ha H2 (e.trans e2) _ fun H3 e3 => hs H3 ((e.trans e2).trans e3) Q⟩
theorem b_retR (e : Ex H0 H) (h : EvR te σ H0) : tRet te D σ H := h H e _
/-- return o.m(..), as the promise goes on -/
theorem b_retMeth {sp : Sp} {dvs vs : List V} {E : XK} (e : Ex H0 H) (h : Ev ta σ H0 (.ref a)) (ho : H0 a = some (.ins C dx fs)) (hl : fs.lookup m = none) (ha : EvA tg σ H0 vs) (hs : ∀ H1, Ex H0 H1 → sp (.ref a :: (vs ++ dvs)) H1 D.rt E) : tRet (tMeth C m sp dvs E ta tg) D σ H :=
  h H e _ fun H2 e2 => ⟨a, dx, fs, rfl, (e.trans e2) _ _ ho, hl, ha H2 (e.trans e2) _ fun H3 e3 => hs H3 ((e.trans e2).trans e3)⟩
theorem b_asgR {i : Nat} (e : Ex H0 H) (h : EvR te σ H0) : tSeq (tAsg te (gName i)) tz D σ H := h H e _
theorem RetX.mono {c : Addr} {E : XK} {H H' : Hp} (h : RetX c H E) (e : Ex H H') : RetX c H' E := fun H2 e2 => h H2 (e.trans e2)
/-- x = [a new list, a new list] -/
theorem b_asgLL {i : Nat} {xs ys : List V} (e : Ex H0 H) (h1 : EvL ta σ H0 xs) (h2 : EvL tb σ H0 ys) (k : ∀ p a b H1, H0 p = none → Ex H0 H1 → H1 p = some (.lst [.ref a, .ref b]) → H1 a = some (.lst xs) → H1 b = some (.lst ys) → tz D (σ.set i (some (.ref p))) H1) :
    tSeq (tAsg (tLst (tCons ta (tCons tb tNil))) (gName i)) tz D σ H :=
  h1 H e _ fun a H1 ha e1 h1 => h2 H1 (e.trans e1) _ fun b H2 hb e2 h2 => ⟨by show 2 ≤ sizeLine; decide, fun p hp => k p a b _ (fresh_back ((e.trans e1).trans e2) hp) (((e.trans e1).trans e2).trans (Ex.new hp)) upd_same (by rw [upd_ne (ne_of_none (e2 _ _ h1) hp)]; exact e2 _ _ h1) (by rw [upd_ne (ne_of_none h2 hp)]; exact h2)⟩
/-- a new tuple handed back -/
def RetU (xs : List V) (H : Hp) (Q : VK) : Prop := ∀ p H2, H p = none → Ex H H2 → H2 p = some (.tup xs) → Q (.ref p) H2
theorem eu_callF {sp : Sp} {dvs vs xs : List V} {E : XK} (ha : EvA tg σ H vs) (hs : ∀ H1, Ex H H1 → ∀ Q : VK, RetU xs H1 Q → sp (vs ++ dvs) H1 Q E) : EvU (tCall sp dvs E tg) σ H xs := fun H1 e Q q =>
  ha H1 e _ fun H2 e2 => hs H2 (e.trans e2) Q fun p H3 hp e3 h3 => q p H3 (fresh_back e2 hp) (e2.trans e3) h3
theorem ev_lenT {p : Addr} {xs : List V} (ha : Ev ta σ H (.ref p)) (h : SqT K H p xs) : Ev (tCB (rLenS K) (tCons ta tNil)) σ H (.int (xs.length : Int)) := fun H1 e Q q =>
  ha H1 e _ fun H2 e2 => ⟨p, xs, rfl, Or.inr (ex_t (e.trans e2) h), q H2 e2⟩
theorem b_aug {i : Nat} {f : Int → Int → Int} {a b : Int} (e : Ex H0 H) (hx : σ[i]? = some (some (.int a))) (h : Ev te σ H0 (.int b)) (k : ∀ H1, Ex H0 H1 → tz D (σ.set i (some (.int (f a b)))) H1) : tSeq (tAug i te (ipI f)) tz D σ H := q_aug hx (h.mono e) fun H1 e1 => k H1 (e.trans e1)
theorem l_aug {i : Nat} {f : Int → Int → Int} {a b : Int} (e : Ex H0 H) (hx : σ[i]? = some (some (.int a))) (h : Ev te σ H0 (.int b)) (k : ∀ H1, Ex H0 H1 → D.nx (σ.set i (some (.int (f a b)))) H1) : tAug i te (ipI f) D σ H := s_aug hx (h.mono e) fun H1 e1 => k H1 (e.trans e1)
/-- a change: none, a turn, a swap -/
inductive Ch where
  | non | turn (j : Int) | swap (i j : Int)
/-- .. as a value -/
def ChAt (K : PySem.W.Frag) (H : Hp) (v : V) : Ch → Prop
  | .non => v = .non
  | .turn j => ∃ t, v = .ref t ∧ SqT K H t [.str "turn", .int j]
  | .swap i j => ∃ t, v = .ref t ∧ SqT K H t [.str "swap", .int i, .int j]
theorem ChAt.mono {c : Ch} (h : ChAt K H v c) (e : Ex H H') : ChAt K H' v c := by
  cases c with
  | non => exact h
  | turn j => obtain ⟨t, rfl, h⟩ := h; exact ⟨t, rfl, ex_t e h⟩
  | swap i j => obtain ⟨t, rfl, h⟩ := h; exact ⟨t, rfl, ex_t e h⟩
theorem rv_isNb {b : Bool} (h : decide (x = .non) = b) : RV (fun x y H Q => y = .non ∧ Q (.bl (decide (x = .non))) H) x .non H (.bl b) := by
  subst h
  exact rv_isN
theorem rv_notNb {b : Bool} (h : (!decide (x = .non)) = b) : RV (fun x y H Q => y = .non ∧ Q (.bl (!decide (x = .non))) H) x .non H (.bl b) := by
  subst h
  exact rv_notN
theorem rv_neS {x y : Str} {b : Bool} (h : (!decide (V.str x = V.str y)) = b) : RV rNe (.str x) (.str y) H (.bl b) := by
  subst h
  exact rv_ne rfl
end
/-! ### loops: range(n, 0, -1), enumerate -/
section
variable {K : PySem.W.Frag} {σ : L2.St} {H H0 H' : Hp} {D : Ends} {tu tz : TS} {tg : TA}
theorem b_forDown {j : Nat} {n : Nat} (e : Ex H0 H) (h : EvA tg σ H0 [.int n, .int 0, .int (-1)]) (hn : n ≤ 100000) (Pv : Nat → L2.St → Hp → Prop) (h0 : ∀ H1, Ex H0 H1 → Pv 0 σ H1)
    (hs : ∀ (i : Nat) σ' H', i < n → Pv i σ' H' → tu { D with nx := Pv (i + 1), ct := Pv (i + 1), bk := tz D } (σ'.set j (some (.int ((n : Int) - i)))) H') (hd : ∀ σ' H', Pv n σ' H' → tz D σ' H') : tSeq (tFor (iRng3 tg) (gName j) tu) tz D σ H :=
  h H e _ fun H1 e1 => ⟨n, 0, -1, n, rfl, by
    have h := RgC.neg (i := (n : Int)) (j := 0) (by omega) (by omega) (by omega) (by omega)
    rw [Int.sub_zero, Int.toNat_natCast] at h
    exact h, for_rangeC (lo := (n : Int)) (c := -1) (n := n) Pv (h0 H1 (e.trans e1)) (fun i σ' H' hi p => by
      have e0 : (n : Int) + (i : Int) * -1 = (n : Int) - i := by omega
      show tu _ (σ'.set j (some (.int ((n : Int) + (i : Int) * -1)))) H'
      rw [e0]
      exact hs i σ' H' hi p) hd⟩
theorem b_forEnum {l : Addr} {vs : List V} {j k : Nat} (e : Ex H0 H) (h : EvA tg σ H0 [.ref l]) (hx : SqL K H0 l vs) (Pv : Nat → L2.St → Hp → Prop) (h0 : ∀ H1, Ex H0 H1 → Pv 0 σ H1) (hl : ∀ i σ' H', Pv i σ' H' → SqL K H' l vs)
    (hs : ∀ (i : Nat) x σ' H' H1, vs[i]? = some x → Pv i σ' H' → Ex H' H1 → tu { D with nx := Pv (i + 1), ct := Pv (i + 1), bk := tz D } ((σ'.set j (some (.int i))).set k (some x)) H1) (hd : ∀ σ' H', Pv vs.length σ' H' → tz D σ' H') :
    tSeq (tFor (iEnum K tg) (gTup K 2 (gCons (gName j) (gCons (gName k) gNil))) tu) tz D σ H :=
  h H e _ fun H1 e1 => ⟨l, vs, rfl, ex_l (e.trans e1) hx, fun i m σ H => m = vs.length - i ∧ i ≤ vs.length ∧ Pv i σ H, ⟨vs.length, rfl, Nat.zero_le _, h0 H1 (e.trans e1)⟩, by
    rintro i m σ' H' ⟨rfl, hi, p⟩
    by_cases hlt : i < vs.length
    · refine .inr ⟨⟨vs, vs[i], hl i σ' H' p, List.getElem?_eq_getElem hlt⟩, Pv (i + 1), fun σ2 H2 p' => ⟨vs.length - (i + 1), by omega, rfl, hlt, p'⟩, ?_⟩
      rintro v H2 ⟨t, x, rfl, nt, rfl, hx'⟩
      refine ⟨t, [.int i, x], rfl, st_of upd_same, rfl, .int i, [x], rfl, x, [], rfl, rfl, ?_⟩
      exact hs i x σ' H' _ (hx' vs (hl i σ' H' p)) p (Ex.new nt)
    · have e : i = vs.length := by omega
      subst e
      exact .inl ⟨⟨vs, hl _ σ' H' p, Nat.le_refl _⟩, hd σ' H' p⟩⟩
/-- sum of ints -/
theorem ev_sum {ta : TE} {l : Addr} {ns : List Int} (h : Ev ta σ H (.ref l)) (hx : SqL K H l (ns.map V.int)) : Ev (tCB (rSum K) (tCons ta tNil)) σ H (.int ns.sum) := fun H1 e Q q =>
  h H1 e _ fun H2 e2 => ⟨l, ns, rfl, ex_l (e.trans e2) hx, q H2 e2⟩
end
end Mk

/-! ### both kinds of list: changes; pairs; lists of rows -/
namespace Mk
open PySem L2 Evl
/-- the ones as a value -/
def onV : Kd → V
  | .T _ _ => .non
  | .C _ k => .int (k : Int)
/-- the change c, done with d, leads from the one row to the other -/
def Mv : Kd → Int → Ch → List Int → List Int → Prop
  | _, _, .non, xs, ys => ys = xs
  | .T s _, d, .turn j, xs, ys => ∃ j' : Nat, j = j' ∧ j' < xs.length ∧ ys = xs.set j' ((xs.getD j' 0 + d) % s)
  | .C _ _, d, .swap i j, xs, ys => ∃ i' j' : Nat, i = i' ∧ j = j' ∧ if d < 0 then SwpAt xs ys j' i' else SwpAt xs ys i' j'
  | _, _, _, _, _ => False
theorem Mv.back {d : Kd} {c : Ch} {xs ys : List Int} (hk : d.ok) (hr : d.row xs) (h : Mv d 1 c xs ys) : Mv d (-1) c ys xs := by
  cases d with
  | T s n =>
    cases c with
    | non => exact h.symm
    | turn j =>
      obtain ⟨j', rfl, hj, rfl⟩ := h
      refine ⟨j', rfl, by rw [List.length_set]; exact hj, ?_⟩
      obtain ⟨m0, m1⟩ := hr.2 xs[j'] (List.getElem_mem hj)
      have h1 : (xs.set j' ((xs.getD j' 0 + 1) % s)).getD j' 0 = (xs[j'] + 1) % s := by simp [hj]
      have h2 : ((xs[j'] + 1) % s + -1) % s = xs[j'] := by
        rw [Int.emod_add_emod, show xs[j'] + 1 + -1 = xs[j'] by omega, Int.emod_eq_of_lt m0 m1]
      rw [h1, h2, List.set_set, List.set_getElem_self]
    | swap i j => exact absurd h id
  | C n k =>
    cases c with
    | non => exact h.symm
    | turn j => exact absurd h id
    | swap i j =>
      obtain ⟨i', j', rfl, rfl, h⟩ := h
      rw [if_neg (by decide)] at h
      exact ⟨i', j', rfl, rfl, by rw [if_pos (by decide)]; exact h.back⟩
section
variable {K : PySem.W.Frag} {σ : L2.St} {H H0 H' : Hp} {ta tb te : TE} {t : TT} {D : Ends} {tz : TS}
/-- a change as a value, its tuple not frozen -/
def ChT (H : Hp) (v : V) : Ch → Prop
  | .non => v = .non
  | .turn j => ∃ t, v = .ref t ∧ H t = some (.tup [.str "turn", .int j])
  | .swap i j => ∃ t, v = .ref t ∧ H t = some (.tup [.str "swap", .int i, .int j])
theorem ChT.mono {v : V} {c : Ch} (h : ChT H v c) (e : Ex H H') : ChT H' v c := by
  cases c with
  | non => exact h
  | turn j => obtain ⟨t, rfl, h⟩ := h; exact ⟨t, rfl, e _ _ h⟩
  | swap i j => obtain ⟨t, rfl, h⟩ := h; exact ⟨t, rfl, e _ _ h⟩
/-- a value that is a change of which P holds -/
def EvCh (te : TE) (σ : L2.St) (H : Hp) (P : Ch → Prop) : Prop := ∀ H1, Ex H H1 → ∀ Q : VK, (∀ c, P c → ∀ v H2, Ex H1 H2 → ChT H2 v c → Q v H2) → te σ H1 Q
theorem ech_non {P : Ch → Prop} (h : Ev te σ H .non) (hp : P .non) : EvCh te σ H P := fun H1 e Q q => h H1 e Q fun H2 e2 => q .non hp .non H2 e2 rfl
theorem ech_turn {P : Ch → Prop} {j : Int} (h : EvU te σ H [.str "turn", .int j]) (hp : P (.turn j)) : EvCh te σ H P := fun H1 e Q q => h H1 e Q fun p H2 _ e2 h2 => q (.turn j) hp _ H2 e2 ⟨p, rfl, h2⟩
theorem ech_swap {P : Ch → Prop} {i j : Int} (h : EvU te σ H [.str "swap", .int i, .int j]) (hp : P (.swap i j)) : EvCh te σ H P := fun H1 e Q q => h H1 e Q fun p H2 _ e2 h2 => q (.swap i j) hp _ H2 e2 ⟨p, rfl, h2⟩
/-- a new list and an int, in a new tuple -/
def RetP (xs : List V) (z : Int) (H : Hp) (Q : VK) : Prop := ∀ p l H2, H l = none → Ex H H2 → H2 p = some (.tup [.ref l, .int z]) → H2 l = some (.lst xs) → Q (.ref p) H2
def EvP (te : TE) (σ : L2.St) (H : Hp) (xs : List V) (z : Int) : Prop := ∀ H1, Ex H H1 → ∀ Q : VK, RetP xs z H1 Q → te σ H1 Q
theorem ep_tup {xs : List V} {z : Int} (h : EvL ta σ H xs) (hb : ∀ H1, Ex H H1 → Ev tb σ H1 (.int z)) : EvP (tTup (tCons ta (tCons tb tNil))) σ H xs z := fun H1 e Q q =>
  h H1 e _ fun l H2 hl e2 h2 => hb H2 (e.trans e2) H2 (Ex.refl H2) _ fun H3 e3 => ⟨by show 2 ≤ sizeLine; decide, fun p hp => q p l _ hl ((e2.trans e3).trans (Ex.new hp)) upd_same (by rw [upd_ne (ne_of_none (e3 _ _ h2) hp)]; exact e3 _ _ h2)⟩
theorem b_retP {xs : List V} {z : Int} (e : Ex H0 H) (h : EvP te σ H0 xs z) (k : RetP xs z H0 D.rt) : tRet te D σ H := h H e _ fun p l H2 hl e2 h1 h2 => k p l H2 (fresh_back e hl) (e.trans e2) h1 h2
/-- a pair of a list that is held and an int -/
theorem b_retQ {xs : List V} {z : Int} {l : Addr} (e : Ex H0 H) (nl : H0 l = none) (hl : H l = some (.lst xs)) (ha : Ev ta σ H (.ref l)) (hb : Ev tb σ H (.int z)) (k : RetP xs z H0 D.rt) : tRet (tTup (tCons ta (tCons tb tNil))) D σ H :=
  ha H (Ex.refl H) _ fun H2 e2 => hb H2 e2 _ fun H3 e3 => ⟨by show 2 ≤ sizeLine; decide, fun p hp => k p l _ nl (((e.trans e2).trans e3).trans (Ex.new hp)) upd_same (by rw [upd_ne (ne_of_none ((e2.trans e3) _ _ hl) hp)]; exact (e2.trans e3) _ _ hl)⟩
/-- x, y = such a pair -/
theorem b_asgP {i j : Nat} {xs : List V} {z : Int} (e : Ex H0 H) (h : EvP te σ H0 xs z) (k : ∀ l H1, H0 l = none → Ex H0 H1 → H1 l = some (.lst xs) → tz D ((σ.set i (some (.ref l))).set j (some (.int z))) H1) : tSeq (tAsg te (gTup K 2 (gCons (gName i) (gCons (gName j) gNil)))) tz D σ H :=
  h H e _ fun p l H1 hl e1 h1 h2 => ⟨p, [.ref l, .int z], rfl, st_of h1, rfl, .ref l, [.int z], rfl, .int z, [], rfl, rfl, k l H1 (fresh_back e hl) (e.trans e1) h2⟩
/-- isinstance with an own class -/
theorem ev_isiO {tg : TA} {C : Addr} {x : V} {tv : Value} {b : Bool} (ha : EvA tg σ H [x, .ref C]) (ty : TyOf K H x tv) (hb : PySem.W.kitOne K tv (.ref C) = some b) : Ev (tCB (rIsi K) tg) σ H (.bl b) :=
  ev_cb ha fun H1 e Q q => ⟨x, .ref C, tv, .ref C, b, rfl, .own _, .base (ex_ty e ty), hb, q H1 (Ex.refl H1)⟩
/-- [e for j in range(1, n) if t] -/
theorem el_lcR2 {ta : TA} {j : Nat} {vs : List Nat} {n : Int} (f : Nat → Bool) (v : Nat → V) (h : EvA ta σ H [.int 1, .int n]) (hn : 0 ≤ n ∧ n ≤ 40000) (hw : ∀ x, wipe ((wipe σ vs).set j (some x)) vs = wipe σ vs)
    (ht : ∀ (i : Nat) H1, Ex H H1 → (i : Int) < n - 1 → EvT t ((wipe σ vs).set j (some (.int ((1 : Int) + i)))) H1 (f i)) (he : ∀ (i : Nat) H1, Ex H H1 → (i : Int) < n - 1 → f i = true → Ev te ((wipe σ vs).set j (some (.int ((1 : Int) + i)))) H1 (v i)) :
    EvL (tLc (iRng2 ta) (gName j) t te vs) σ H (given (n - 1).toNat f v) := fun H0 e Q q => h H0 e _ fun H1 e1 => ⟨1, n, rfl, ⟨by omega, by omega, by omega, by omega⟩, fun Dl hD =>
  lc_range (lo := 1) (n := (n - 1).toNat) (Cw H1 f v Dl) ⟨hD, Ex.new hD, upd_same⟩ (fun i H' hi p => by
    show wipe ((wipe σ vs).set j (some (.int ((1 : Int) + (i : Int))))) vs = wipe σ vs ∧ t ((wipe σ vs).set j (some (.int ((1 : Int) + (i : Int))))) H' fun b H3 => if b = true then te ((wipe σ vs).set j (some (.int ((1 : Int) + (i : Int))))) H3 fun y H4 => ∃ acc, H4 Dl = some (.lst acc) ∧ acc.length < sizeLine ∧ Cw H1 f v Dl (i + 1) (upd H4 Dl (.lst (acc ++ [y]))) else Cw H1 f v Dl (i + 1) H3
    exact ⟨hw _, cw_turn p (by omega) (ht i H1 (e.trans e1) (by omega)) (fun hf => he i H1 (e.trans e1) (by omega) hf)⟩) (fun H' p => q Dl H' (fresh_back e1 p.1) (e1.trans p.2.1) p.2.2)⟩
/-! lists of rows -/
def RowsAt (H : Hp) (A : List Addr) : List V → List (List Int) → Prop
  | [], [] => True
  | v :: vs, xs :: xss => (∃ l, v = .ref l ∧ H l = some (.lst (xs.map V.int)) ∧ l ∉ A) ∧ RowsAt H A vs xss
  | _, _ => False
theorem RowsAt.mono {A : List Addr} (hm : ∀ l o, l ∉ A → H l = some o → H' l = some o) : ∀ {vs : List V} {xss : List (List Int)}, RowsAt H A vs xss → RowsAt H' A vs xss
  | [], [], _ => trivial
  | v :: vs, xs :: xss, ⟨⟨l, hv, hl, hn⟩, r⟩ => ⟨⟨l, hv, hm _ _ hn hl, hn⟩, RowsAt.mono hm r⟩
theorem RowsAt.snoc {A : List Addr} {l : Addr} {xs : List Int} (hl : H l = some (.lst (xs.map V.int))) (hn : l ∉ A) : ∀ {vs : List V} {xss : List (List Int)}, RowsAt H A vs xss → RowsAt H A (vs ++ [.ref l]) (xss ++ [xs])
  | [], [], _ => ⟨⟨l, rfl, hl, hn⟩, trivial⟩
  | v :: vs, ys :: xss, ⟨h, r⟩ => ⟨h, RowsAt.snoc hl hn r⟩
theorem RowsAt.len {A : List Addr} : ∀ {vs : List V} {xss : List (List Int)}, RowsAt H A vs xss → vs.length = xss.length
  | [], [], _ => rfl
  | v :: vs, xs :: xss, ⟨_, r⟩ => congrArg (· + 1) r.len
theorem RowsAt.get {A : List Addr} {xs : List Int} : ∀ {vs : List V} {xss : List (List Int)} {i : Nat}, RowsAt H A vs xss → xss[i]? = some xs → ∃ l, vs[i]? = some (.ref l) ∧ H l = some (.lst (xs.map V.int))
  | v :: vs, ys :: xss, 0, ⟨⟨l, hv, hl, _⟩, _⟩, h => by
    cases h
    exact ⟨l, by rw [hv]; rfl, hl⟩
  | v :: vs, ys :: xss, i + 1, ⟨_, r⟩, h => RowsAt.get (vs := vs) (xss := xss) (i := i) r (by simpa using h)
  | [], [], i, _, h => by cases h
def rowsD (xss : List (List Int)) : List PyData := xss.map fun xs => .list (xs.map PyData.int)
theorem RowsAt.dp {A : List Addr} : ∀ {vs : List V} {xss : List (List Int)}, RowsAt H A vs xss → DpAll K H vs (rowsD xss)
  | [], [], _ => .nil
  | v :: vs, xs :: xss, ⟨⟨l, hv, hl, _⟩, r⟩ => by
    subst hv
    exact .cons (dp_ints (sq_of hl)) r.dp
theorem lay_rows : ∀ xss : List (List Int), PyData.canLayAll0 (rowsD xss) = true
  | [] => rfl
  | xs :: r => by
    show (PyData.canLay0 (PyData.list (xs.map PyData.int)) && PyData.canLayAll0 (rowsD r)) = true
    rw [lay_rows r]
    have : PyData.canLay0 (PyData.list (xs.map PyData.int)) = true := lay_ints xs
    rw [this]
    rfl
theorem depth_rows : ∀ xss : List (List Int), PyData.depthAll (rowsD xss) ≤ 3
  | [] => by decide
  | xs :: r => by
    show max (PyData.depth (PyData.list (xs.map PyData.int))) (PyData.depthAll (rowsD r)) ≤ 3
    have := depth_rows r
    have e : PyData.depth (.list (xs.map PyData.int)) = 1 + PyData.depthAll (xs.map PyData.int) := by simp [PyData.depth, Nat.add_comm]
    have := depth_ints xs
    omega
theorem shaped_rows (xss : List (List Int)) : SeqAt.shaped (.list (rowsD xss)) = true := by
  unfold SeqAt.shaped
  have h1 : PyData.canLay0 (.list (rowsD xss)) = true := lay_rows xss
  have h2 : PyData.depth (.list (rowsD xss)) ≤ 64 := by
    have e : PyData.depth (.list (rowsD xss)) = 1 + PyData.depthAll (rowsD xss) := by simp [PyData.depth, Nat.add_comm]
    have := depth_rows xss
    omega
  rw [h1, decide_eq_true h2]
  rfl
theorem rv_neRows {a b : Addr} {A : List Addr} {vs ws : List V} {xss : List (List Int)} (h1 : SqL K H a vs) (h2 : SqL K H b ws) (r1 : RowsAt H A vs xss) (r2 : RowsAt H A ws xss) (hA : True) : ∀ Q : VK, Q (.bl false) H → rNeD K (.ref a) (.ref b) H Q := fun Q q =>
  ⟨_, _, .lst h1 r1.dp, .lst h2 r2.dp, shaped_rows _, shaped_rows _, by
    rw [SeqAt.eqv_refl _ (SeqAt.canLay_of_shaped (shaped_rows xss))]
    exact q⟩
theorem rv_eqRows {a b : Addr} {A : List Addr} {vs ws : List V} {xss : List (List Int)} (h1 : SqL K H a vs) (h2 : SqL K H b ws) (r1 : RowsAt H A vs xss) (r2 : RowsAt H A ws xss) : ∀ Q : VK, Q (.bl true) H → rEqD K (.ref a) (.ref b) H Q := fun Q q =>
  ⟨_, _, .lst h1 r1.dp, .lst h2 r2.dp, shaped_rows _, shaped_rows _, by
    rw [SeqAt.eqv_refl _ (SeqAt.canLay_of_shaped (shaped_rows xss))]
    exact q⟩
end
end Mk
namespace Mk
/-- a number of the script: of at most a million bits -/
def Few (z : Int) : Prop := z.natAbs < 2 ^ 1048576
theorem few_of {z : Int} (h : PySem.Builtin.Int.intBits z ≤ 1048576) : Few z := by
  unfold PySem.Builtin.Int.intBits at h
  split at h
  · next hz =>
    have e : z = 0 := by simpa using hz
    subst e
    exact Nat.two_pow_pos 1048576
  · next hz =>
    have hn : z.natAbs ≠ 0 := fun e => hz (by simpa using Int.natAbs_eq_zero.mp e)
    exact (Nat.log2_lt hn).mp h
theorem few_zero : Few 0 := Nat.two_pow_pos 1048576
theorem div6_le (c : Int) : (c / 6).natAbs ≤ c.natAbs := by omega
theorem div6_bits {c : Int} (h : Few c) : (c / 6).natAbs < 2 ^ 1048576 := Nat.lt_of_le_of_lt (div6_le c) h
end Mk
namespace Mk
open PySem L2 Evl
section
variable {K : PySem.W.Frag} {σ : L2.St} {H H0 : Hp} {te : TE} {D : Ends} {tz : TS}
/-- some such pair of which P holds -/
def EvPS (te : TE) (σ : L2.St) (H : Hp) (P : List Int → Int → Prop) : Prop := ∀ H1, Ex H H1 → ∀ Q : VK, (∀ ys z, P ys z → RetP (ys.map V.int) z H1 Q) → te σ H1 Q
theorem b_asgPS {i j : Nat} {P : List Int → Int → Prop} (e : Ex H0 H) (h : EvPS te σ H0 P) (k : ∀ ys z, P ys z → ∀ l H1, H0 l = none → Ex H0 H1 → H1 l = some (.lst (ys.map V.int)) → tz D ((σ.set i (some (.ref l))).set j (some (.int z))) H1) : tSeq (tAsg te (gTup K 2 (gCons (gName i) (gCons (gName j) gNil)))) tz D σ H :=
  h H e _ fun ys z hp p l H1 hl e1 h1 h2 => ⟨p, [.ref l, .int z], rfl, st_of h1, rfl, .ref l, [.int z], rfl, .int z, [], rfl, rfl, k ys z hp l H1 (fresh_back e hl) (e.trans e1) h2⟩
end
end Mk
namespace Mk
open PySem PySem.W PySem.Spec PySem.Calls PyProof.Rows
/-- isinstance with an own class, from the class's facts -/
theorem kit_own {K : Frag} {t : Value} {C : Addr} (h1 : hasDictIn K C = true) (h2 : typeIn K (.ref C) = some (.type "type")) (h3 : subIn K t (.ref C) = some true) : kitOne K t (.ref C) = some true := by
  unfold kitOne
  split
  · rfl
  · obtain ⟨cd, hc, _⟩ := any_some h1
    have e2 : ((clsIn K C).isSome && typeIn K (.ref C) == some (.type "type")) = true := by rw [hc, h2] <;> rfl
    show (if ((clsIn K C).isSome && typeIn K (.ref C) == some (.type "type")) = true then subIn K t (.ref C) else none) = some true
    rw [if_pos e2]
    exact h3
end Mk

namespace Mk
open PySem L2 Evl PyProof.Rows
/-! ### steps of the reading -/
local macro_rules | `(tactic| walk_at "rv") => `(tactic| first
  | (with_reducible exact rv_I0)
  | (with_reducible exact rv_eqI)
  | (with_reducible exact rv_neI)
  | (with_reducible refine rv_I (C := CMul) (cmul_r ?_ ?_) <;> omega)
  | (with_reducible refine rv_I (C := CMul) (cmul_l ?_ ?_) <;> omega)
  | (with_reducible refine rv_I (C := CDivW) (cdiv_small ?_ ?_) <;> omega)
  | (with_reducible refine rv_I (C := fun _ j => 0 < j) ?_ <;> omega)
  | (with_reducible exact rv_p12)
  | (with_reducible exact rv_c7)
  | (with_reducible exact rv_isN)
  | (with_reducible exact rv_notN)
  | ((with_reducible apply rv_eq); rfl)
  | ((with_reducible apply rv_ne); rfl))
local macro_rules | `(tactic| walk_at "ev") => `(tactic| first
  | (with_reducible exact ev_c)
  | ((with_reducible apply ev_var); rfl)
  | (with_reducible exact ea_nil)
  | ((with_reducible apply ea_cons); walk_at "ev"; walk_at "ev")
  | ((with_reducible apply et_test); walk_at "ev")
  | ((with_reducible apply et_B); walk_at "ev")
  | ((with_reducible apply et_not); walk_at "ev")
  | ((with_reducible apply et_or); walk_at "ev"; (intro _; walk_at "ev"))
  | ((with_reducible apply et_and); walk_at "ev"; (intro _; walk_at "ev"))
  | ((with_reducible apply ev_op); walk_at "ev"; walk_at "ev"; walk_at "rv")
  | ((with_reducible apply ev_chain); walk_at "ev"; walk_at "ev"; walk_at "rv"; (intro _; walk_at "ev"); (intro _; walk_at "rv"))
  | ((with_reducible apply ev_un0); walk_at "ev")
  | (with_reducible assumption))

/-! ### the text by places -/
def top (i : Nat) : Stmt := PySem.Challenge.pw_marksteps_k08_whole_walk.main.body.getD i (.Pass ⟨0, 0, 0, 0⟩)
abbrev s_Listing___init__ : Stmt := inClass (top 2) 0
abbrev N_Listing___init__ : List Str := ["self", "length", "size"]
abbrev P_Listing___init__ : List Str := ["self", "length", "size"]
abbrev s_power : Stmt := top 4
abbrev N_power : List Str := ["signs", "length", "many", "spot"]
abbrev P_power : List Str := ["signs", "length"]
abbrev s_Turning___init__ : Stmt := inClass (top 17) 0
abbrev N_Turning___init__ : List Str := ["self", "signs", "length"]
abbrev P_Turning___init__ : List Str := ["self", "signs", "length"]
abbrev s_choose : Stmt := top 5
abbrev N_choose : List Str := ["length", "ones", "many", "spot"]
abbrev P_choose : List Str := ["length", "ones"]
abbrev s_Choosing___init__ : Stmt := inClass (top 13) 0
abbrev N_Choosing___init__ : List Str := ["self", "length", "ones"]
abbrev P_Choosing___init__ : List Str := ["self", "length", "ones"]
abbrev s_Choosing_row_at : Stmt := inClass (top 13) 1
abbrev N_Choosing_row_at : List Str := ["self", "place", "row", "ones", "size", "spots", "without"]
abbrev P_Choosing_row_at : List Str := ["self", "place"]
abbrev s_Choosing_is_row : Stmt := inClass (top 13) 2
abbrev N_Choosing_is_row : List Str := ["self", "row", "mark"]
abbrev P_Choosing_is_row : List Str := ["self", "row"]
abbrev s_Choosing_place_of : Stmt := inClass (top 13) 3
abbrev N_Choosing_place_of : List Str := ["self", "row", "place", "ones", "size", "spot", "mark"]
abbrev P_Choosing_place_of : List Str := ["self", "row"]
abbrev s_Listing_leap : Stmt := inClass (top 2) 4
abbrev N_Listing_leap : List Str := ["self", "row", "steps"]
abbrev P_Listing_leap : List Str := ["self", "row", "steps"]
abbrev s_Listing_steps_to : Stmt := inClass (top 2) 7
abbrev N_Listing_steps_to : List Str := ["self", "row", "other"]
abbrev P_Listing_steps_to : List Str := ["self", "row", "other"]
abbrev s_law_whole : Stmt := top 20
abbrev N_law_whole : List Str := ["_law_found"]
abbrev P_law_whole : List Str := ["_law_found"]
abbrev s_law_has : Stmt := top 23
abbrev N_law_has : List Str := ["_law_found", "_law_way", "_law_many", "_law_length", "_law_k"]
abbrev P_law_has : List Str := ["_law_found", "_law_way", "_law_many", "_law_length"]
abbrev s_law_changed : Stmt := top 24
abbrev N_law_changed : List Str := ["_law_row", "_law_change", "_law_signs_here", "_law_ones", "_law_by", "_law_made", "_law_out", "_law_into"]
abbrev P_law_changed : List Str := ["_law_row", "_law_change", "_law_signs_here", "_law_ones", "_law_by"]
abbrev s_law_any : Stmt := top 25
abbrev N_law_any : List Str := ["_law_row", "_law_number", "_law_signs_here", "_law_ones", "_law_full", "_law_k", "_law_bare"]
abbrev P_law_any : List Str := ["_law_row", "_law_number", "_law_signs_here", "_law_ones"]
abbrev s_Listing_row_before : Stmt := inClass (top 2) 6
abbrev N_Listing_row_before : List Str := ["self", "row"]
abbrev P_Listing_row_before : List Str := ["self", "row"]
abbrev s_law_leapt : Stmt := top 26
abbrev N_law_leapt : List Str := ["_law_lot", "_law_row", "_law_steps", "_law_handed", "_law_found", "_law_kept", "_law_again"]
abbrev P_law_leapt : List Str := ["_law_lot", "_law_row", "_law_steps"]
abbrev s_law_is_row : Stmt := top 22
abbrev N_law_is_row : List Str := ["_law_found", "_law_length", "_law_signs_here", "_law_ones", "_law_mark"]
abbrev P_law_is_row : List Str := ["_law_found", "_law_length", "_law_signs_here", "_law_ones"]
abbrev s_Listing_next_row : Stmt := inClass (top 2) 5
abbrev N_Listing_next_row : List Str := ["self", "row"]
abbrev P_Listing_next_row : List Str := ["self", "row"]
abbrev s_Choosing_change : Stmt := inClass (top 13) 4
abbrev N_Choosing_change : List Str := ["self", "row", "other", "out", "into", "spot", "mark"]
abbrev P_Choosing_change : List Str := ["self", "row"]
abbrev s_law_deed : Stmt := top 27
abbrev N_law_deed : List Str := ["_law_lot", "_law_row", "_law_cell", "_law_many", "_law_signs_here", "_law_ones", "_law_way", "_law_number", "_law_before", "_law_made", "_law_handed", "_law_steps"]
abbrev P_law_deed : List Str := ["_law_lot", "_law_row", "_law_cell", "_law_many", "_law_signs_here", "_law_ones"]
abbrev s_law_stands : Stmt := top 28
abbrev N_law_stands : List Str := ["_law_lot", "_law_row", "_law_place", "_law_handed", "_law_found", "_law_told"]
abbrev P_law_stands : List Str := ["_law_lot", "_law_row", "_law_place"]
abbrev s_law_walked : Stmt := top 29
abbrev N_law_walked : List Str := ["_law_lot", "_law_many", "_law_first", "_law_cells", "_law_signs_here", "_law_ones", "_law_row", "_law_place", "_law_held", "_law_kept", "_law_places", "_law_cell", "_law_steps", "_law_back", "_law_on", "_law_found", "_law_k"]
abbrev P_law_walked : List Str := ["_law_lot", "_law_many", "_law_first", "_law_cells", "_law_signs_here", "_law_ones"]
abbrev s_law_signs : Stmt := top 21
abbrev N_law_signs : List Str := ["_law_cell"]
abbrev P_law_signs : List Str := ["_law_cell"]
abbrev s_Turning_row_at : Stmt := inClass (top 17) 1
abbrev N_Turning_row_at : List Str := ["self", "place", "row", "rest", "figure", "spot", "higher"]
abbrev P_Turning_row_at : List Str := ["self", "place"]
abbrev s_Turning_is_row : Stmt := inClass (top 17) 2
abbrev N_Turning_is_row : List Str := ["self", "row", "mark"]
abbrev P_Turning_is_row : List Str := ["self", "row"]
abbrev s_Turning_place_of : Stmt := inClass (top 17) 3
abbrev N_Turning_place_of : List Str := ["self", "row", "place", "figure", "mark"]
abbrev P_Turning_place_of : List Str := ["self", "row"]
abbrev s_Turning_change : Stmt := inClass (top 17) 4
abbrev N_Turning_change : List Str := ["self", "row", "place", "spot"]
abbrev P_Turning_change : List Str := ["self", "row"]
abbrev s_law_cell_at : Stmt := top 19
abbrev N_law_cell_at : List Str := ["_law_script", "_law_k"]
abbrev P_law_cell_at : List Str := ["_law_script", "_law_k"]
abbrev s_law : Stmt := top 30
abbrev N_law : List Str := ["_law_script", "_law_length", "_law_many", "_law_signs_here", "_law_k", "_law_ones", "_law_first"]
abbrev P_law : List Str := ["_law_script"]
/-! ### what the top has left -/
structure Txt (K : PySem.W.Frag) (mg : Str → Option Value) where
  a_Listing___init__ : Addr
  d_Listing___init__ : FuncData
  a_power : Addr
  d_power : FuncData
  a_Turning___init__ : Addr
  d_Turning___init__ : FuncData
  a_choose : Addr
  d_choose : FuncData
  a_Choosing___init__ : Addr
  d_Choosing___init__ : FuncData
  a_Choosing_row_at : Addr
  d_Choosing_row_at : FuncData
  a_Choosing_is_row : Addr
  d_Choosing_is_row : FuncData
  a_Choosing_place_of : Addr
  d_Choosing_place_of : FuncData
  a_Listing_leap : Addr
  d_Listing_leap : FuncData
  t_Listing_leap : Addr
  e_Listing_leap : List Value
  a_Listing_steps_to : Addr
  d_Listing_steps_to : FuncData
  a_law_whole : Addr
  d_law_whole : FuncData
  a_law_has : Addr
  d_law_has : FuncData
  a_law_changed : Addr
  d_law_changed : FuncData
  a_law_any : Addr
  d_law_any : FuncData
  a_Listing_row_before : Addr
  d_Listing_row_before : FuncData
  a_law_leapt : Addr
  d_law_leapt : FuncData
  a_law_is_row : Addr
  d_law_is_row : FuncData
  a_Listing_next_row : Addr
  d_Listing_next_row : FuncData
  a_Choosing_change : Addr
  d_Choosing_change : FuncData
  a_law_deed : Addr
  d_law_deed : FuncData
  a_law_stands : Addr
  d_law_stands : FuncData
  a_law_walked : Addr
  d_law_walked : FuncData
  a_law_signs : Addr
  d_law_signs : FuncData
  a_Turning_row_at : Addr
  d_Turning_row_at : FuncData
  a_Turning_is_row : Addr
  d_Turning_is_row : FuncData
  a_Turning_place_of : Addr
  d_Turning_place_of : FuncData
  a_Turning_change : Addr
  d_Turning_change : FuncData
  a_law_cell_at : Addr
  d_law_cell_at : FuncData
  a_law : Addr
  d_law : FuncData
  c_Listing : Addr
  c_NoForm : Addr
  c_NoPlace : Addr
  c_NoRow : Addr
  c_Choosing : Addr
  c_Turning : Addr
  t_MOST_SPOTS_choosing : Tok
  t_MOST_SIGNS : Tok
  t_MOST_SPOTS_turning : Tok
  g_all : mg "all" = none
  g_bool : mg "bool" = none
  g_divmod : mg "divmod" = none
  g_enumerate : mg "enumerate" = none
  g_int : mg "int" = none
  g_isinstance : mg "isinstance" = none
  g_len : mg "len" = none
  g_list : mg "list" = none
  g_min : mg "min" = none
  g_range : mg "range" = none
  g_reversed : mg "reversed" = none
  g_str : mg "str" = none
  g_sum : mg "sum" = none
  g_tuple : mg "tuple" = none
  m_MOST_SPOTS_choosing : mg "MOST_SPOTS_choosing" = some (.int 200 t_MOST_SPOTS_choosing)
  m_MOST_SIGNS : mg "MOST_SIGNS" = some (.int 1000000000000 t_MOST_SIGNS)
  m_MOST_SPOTS_turning : mg "MOST_SPOTS_turning" = some (.int 200 t_MOST_SPOTS_turning)
  F_Listing___init__ : Fun K "__init__" "Listing.__init__" s_Listing___init__ a_Listing___init__ d_Listing___init__
  b_Listing___init__ : Binds K d_Listing___init__ P_Listing___init__ []
  F_power : Fun K "power" "power" s_power a_power d_power
  b_power : Binds K d_power P_power []
  m_power : mg "power" = some (.ref a_power)
  F_Turning___init__ : Fun K "__init__" "Turning.__init__" s_Turning___init__ a_Turning___init__ d_Turning___init__
  b_Turning___init__ : Binds K d_Turning___init__ P_Turning___init__ []
  F_choose : Fun K "choose" "choose" s_choose a_choose d_choose
  b_choose : Binds K d_choose P_choose []
  m_choose : mg "choose" = some (.ref a_choose)
  F_Choosing___init__ : Fun K "__init__" "Choosing.__init__" s_Choosing___init__ a_Choosing___init__ d_Choosing___init__
  b_Choosing___init__ : Binds K d_Choosing___init__ P_Choosing___init__ []
  F_Choosing_row_at : Fun K "row_at" "Choosing.row_at" s_Choosing_row_at a_Choosing_row_at d_Choosing_row_at
  b_Choosing_row_at : Binds K d_Choosing_row_at P_Choosing_row_at []
  F_Choosing_is_row : Fun K "is_row" "Choosing.is_row" s_Choosing_is_row a_Choosing_is_row d_Choosing_is_row
  b_Choosing_is_row : Binds K d_Choosing_is_row P_Choosing_is_row []
  F_Choosing_place_of : Fun K "place_of" "Choosing.place_of" s_Choosing_place_of a_Choosing_place_of d_Choosing_place_of
  b_Choosing_place_of : Binds K d_Choosing_place_of P_Choosing_place_of []
  F_Listing_leap : FunD K "leap" "Listing.leap" (defArgs s_Listing_leap) (defBody s_Listing_leap) (defScope s_Listing_leap) [.int 1] [] a_Listing_leap d_Listing_leap
  b_Listing_leap : Binds K d_Listing_leap P_Listing_leap []
  ve_Listing_leap : Vals [.int 1] e_Listing_leap
  be_Listing_leap : Binds K d_Listing_leap P_Listing_leap e_Listing_leap
  F_Listing_steps_to : Fun K "steps_to" "Listing.steps_to" s_Listing_steps_to a_Listing_steps_to d_Listing_steps_to
  b_Listing_steps_to : Binds K d_Listing_steps_to P_Listing_steps_to []
  F_law_whole : Fun K "_law_whole" "_law_whole" s_law_whole a_law_whole d_law_whole
  b_law_whole : Binds K d_law_whole P_law_whole []
  m_law_whole : mg "_law_whole" = some (.ref a_law_whole)
  F_law_has : Fun K "_law_has" "_law_has" s_law_has a_law_has d_law_has
  b_law_has : Binds K d_law_has P_law_has []
  m_law_has : mg "_law_has" = some (.ref a_law_has)
  F_law_changed : Fun K "_law_changed" "_law_changed" s_law_changed a_law_changed d_law_changed
  b_law_changed : Binds K d_law_changed P_law_changed []
  m_law_changed : mg "_law_changed" = some (.ref a_law_changed)
  F_law_any : Fun K "_law_any" "_law_any" s_law_any a_law_any d_law_any
  b_law_any : Binds K d_law_any P_law_any []
  m_law_any : mg "_law_any" = some (.ref a_law_any)
  F_Listing_row_before : Fun K "row_before" "Listing.row_before" s_Listing_row_before a_Listing_row_before d_Listing_row_before
  b_Listing_row_before : Binds K d_Listing_row_before P_Listing_row_before []
  F_law_leapt : Fun K "_law_leapt" "_law_leapt" s_law_leapt a_law_leapt d_law_leapt
  b_law_leapt : Binds K d_law_leapt P_law_leapt []
  m_law_leapt : mg "_law_leapt" = some (.ref a_law_leapt)
  F_law_is_row : Fun K "_law_is_row" "_law_is_row" s_law_is_row a_law_is_row d_law_is_row
  b_law_is_row : Binds K d_law_is_row P_law_is_row []
  m_law_is_row : mg "_law_is_row" = some (.ref a_law_is_row)
  F_Listing_next_row : Fun K "next_row" "Listing.next_row" s_Listing_next_row a_Listing_next_row d_Listing_next_row
  b_Listing_next_row : Binds K d_Listing_next_row P_Listing_next_row []
  F_Choosing_change : Fun K "change" "Choosing.change" s_Choosing_change a_Choosing_change d_Choosing_change
  b_Choosing_change : Binds K d_Choosing_change P_Choosing_change []
  F_law_deed : Fun K "_law_deed" "_law_deed" s_law_deed a_law_deed d_law_deed
  b_law_deed : Binds K d_law_deed P_law_deed []
  m_law_deed : mg "_law_deed" = some (.ref a_law_deed)
  F_law_stands : Fun K "_law_stands" "_law_stands" s_law_stands a_law_stands d_law_stands
  b_law_stands : Binds K d_law_stands P_law_stands []
  m_law_stands : mg "_law_stands" = some (.ref a_law_stands)
  F_law_walked : Fun K "_law_walked" "_law_walked" s_law_walked a_law_walked d_law_walked
  b_law_walked : Binds K d_law_walked P_law_walked []
  m_law_walked : mg "_law_walked" = some (.ref a_law_walked)
  F_law_signs : Fun K "_law_signs" "_law_signs" s_law_signs a_law_signs d_law_signs
  b_law_signs : Binds K d_law_signs P_law_signs []
  m_law_signs : mg "_law_signs" = some (.ref a_law_signs)
  F_Turning_row_at : Fun K "row_at" "Turning.row_at" s_Turning_row_at a_Turning_row_at d_Turning_row_at
  b_Turning_row_at : Binds K d_Turning_row_at P_Turning_row_at []
  F_Turning_is_row : Fun K "is_row" "Turning.is_row" s_Turning_is_row a_Turning_is_row d_Turning_is_row
  b_Turning_is_row : Binds K d_Turning_is_row P_Turning_is_row []
  F_Turning_place_of : Fun K "place_of" "Turning.place_of" s_Turning_place_of a_Turning_place_of d_Turning_place_of
  b_Turning_place_of : Binds K d_Turning_place_of P_Turning_place_of []
  F_Turning_change : Fun K "change" "Turning.change" s_Turning_change a_Turning_change d_Turning_change
  b_Turning_change : Binds K d_Turning_change P_Turning_change []
  F_law_cell_at : Fun K "_law_cell_at" "_law_cell_at" s_law_cell_at a_law_cell_at d_law_cell_at
  b_law_cell_at : Binds K d_law_cell_at P_law_cell_at []
  m_law_cell_at : mg "_law_cell_at" = some (.ref a_law_cell_at)
  F_law : Fun K "law" "law" s_law a_law d_law
  b_law : Binds K d_law P_law []
  m_Listing : mg "Listing" = some (.ref c_Listing)
  cr_Listing : ClX.CRead K c_Listing (.type "type")
  at_Listing___init__ : PySem.W.findCls K (.ref c_Listing) (.type "type") "__init__" = some (.val (.ref a_Listing___init__))
  m_NoForm : mg "NoForm" = some (.ref c_NoForm)
  x_NoForm : PySem.W.excIn K c_NoForm [.type "ValueError", .type "Exception", .type "BaseException", .type "object"] "ValueError.__new__" = true
  k_NoForm : PySem.W.keepIn K (.ref c_NoForm) = true
  bE_NoForm : PySem.W.subIn K (.ref c_NoForm) (.type "BaseException") = some true
  tE_NoForm : PySem.W.typeIn K (.ref c_NoForm) = some (.type "type")
  m_NoPlace : mg "NoPlace" = some (.ref c_NoPlace)
  x_NoPlace : PySem.W.excIn K c_NoPlace [.type "ValueError", .type "Exception", .type "BaseException", .type "object"] "ValueError.__new__" = true
  k_NoPlace : PySem.W.keepIn K (.ref c_NoPlace) = true
  bE_NoPlace : PySem.W.subIn K (.ref c_NoPlace) (.type "BaseException") = some true
  tE_NoPlace : PySem.W.typeIn K (.ref c_NoPlace) = some (.type "type")
  m_NoRow : mg "NoRow" = some (.ref c_NoRow)
  x_NoRow : PySem.W.excIn K c_NoRow [.type "ValueError", .type "Exception", .type "BaseException", .type "object"] "ValueError.__new__" = true
  k_NoRow : PySem.W.keepIn K (.ref c_NoRow) = true
  bE_NoRow : PySem.W.subIn K (.ref c_NoRow) (.type "BaseException") = some true
  tE_NoRow : PySem.W.typeIn K (.ref c_NoRow) = some (.type "type")
  m_Choosing : mg "Choosing" = some (.ref c_Choosing)
  m_Turning : mg "Turning" = some (.ref c_Turning)
  cl_Turning : Cls K c_Turning
  mk_Turning : Mk K c_Turning a_Turning___init__
  no_Turning_length : NoAttr K c_Turning "length"
  no_Turning_size : NoAttr K c_Turning "size"
  no_Turning_signs : NoAttr K c_Turning "signs"
  me_Turning_change : Meth K c_Turning "change" a_Turning_change
  me_Turning_is_row : Meth K c_Turning "is_row" a_Turning_is_row
  me_Turning_leap : Meth K c_Turning "leap" a_Listing_leap
  me_Turning_next_row : Meth K c_Turning "next_row" a_Listing_next_row
  me_Turning_place_of : Meth K c_Turning "place_of" a_Turning_place_of
  me_Turning_row_at : Meth K c_Turning "row_at" a_Turning_row_at
  me_Turning_row_before : Meth K c_Turning "row_before" a_Listing_row_before
  me_Turning_steps_to : Meth K c_Turning "steps_to" a_Listing_steps_to
  cl_Choosing : Cls K c_Choosing
  mk_Choosing : Mk K c_Choosing a_Choosing___init__
  no_Choosing_length : NoAttr K c_Choosing "length"
  no_Choosing_size : NoAttr K c_Choosing "size"
  no_Choosing_ones : NoAttr K c_Choosing "ones"
  me_Choosing_change : Meth K c_Choosing "change" a_Choosing_change
  me_Choosing_is_row : Meth K c_Choosing "is_row" a_Choosing_is_row
  me_Choosing_leap : Meth K c_Choosing "leap" a_Listing_leap
  me_Choosing_next_row : Meth K c_Choosing "next_row" a_Listing_next_row
  me_Choosing_place_of : Meth K c_Choosing "place_of" a_Choosing_place_of
  me_Choosing_row_at : Meth K c_Choosing "row_at" a_Choosing_row_at
  me_Choosing_row_before : Meth K c_Choosing "row_before" a_Listing_row_before
  me_Choosing_steps_to : Meth K c_Choosing "steps_to" a_Listing_steps_to
  ca_Turning : PySem.W.findIn K (.ref c_Turning) "__class__" = some (some (.builtin "object.__class__"))
  mo_Turning : PySem.W.mroIn K c_Turning (.type "object") = some true
  ki_Turning : PySem.W.kitOne K (.ref c_Turning) (.ref c_Listing) = some true
  ca_Choosing : PySem.W.findIn K (.ref c_Choosing) "__class__" = some (some (.builtin "object.__class__"))
  mo_Choosing : PySem.W.mroIn K c_Choosing (.type "object") = some true
  ki_Choosing : PySem.W.kitOne K (.ref c_Choosing) (.ref c_Listing) = some true
  gd_class : PySem.W.specialIn K (.builtin "object.__class__") "__get__" = some (some (.builtin "getset_descriptor.__get__"))
  tk_class : PySem.W.takesIn K (.builtin "object.__class__") = some true

section
variable {P : Program} {w : World} {K : PySem.W.Frag} {mg : Str → Option Value} {base : Heap}
/-! #### Listing.__init__ -/
theorem sc_Listing___init__ : FnScope N_Listing___init__ P_Listing___init__ (defScope s_Listing___init__) := ⟨rfl, rfl, rfl, by decide +kernel, rfl, by decide +kernel, by decide +kernel⟩
def sp_Listing___init__ (_ : Txt K mg) : Sp := fun vs H Q _ => ∃ (x C dx : Addr) (n z : Int), vs = [.ref x, .int n, .int z] ∧ Cls K C ∧ NoAttr K C "length" ∧ NoAttr K C "size" ∧ H x = some (.ins C dx []) ∧ RetO C x dx (lF n z) H Q
theorem ok_Listing___init__ (T : Txt K mg) : FnOk P w K mg base CX0 1 T.a_Listing___init__ T.d_Listing___init__ P_Listing___init__ (sp_Listing___init__ T) := by
  refine (T.F_Listing___init__).ok sc_Listing___init__ (fun vs H Q E h => ?len) (fun cdv A outer s H vs Q E hr h => ⟨_, (pss_cons (ps_fld (pv 0) (pv 1) rfl)
    (pss_one (ps_fld (pv 0) (pv 2) rfl))), ?read⟩)
  case len =>
    obtain ⟨x, C, dx, n, z, rfl, _⟩ := h
    rfl
  case read =>
    obtain ⟨x, C, dx, n, z, rfl, hc, h1, h2, hx, q⟩ := h
    refine ⟨_, rfl, _, rfl, x, C, dx, [], rfl, hx, hc, h1, (by show 0 < 1000; decide), ?_⟩
    refine ⟨_, rfl, _, rfl, x, C, dx, _, rfl, upd_same, hc, h2, (Nat.lt_of_le_of_lt (len_putF _ _ _) (by show 1 < 1000; decide)), ?_⟩
    refine q _ (fun b o e hb => ?_) upd_same
    rw [upd_ne hb, upd_ne hb]
    exact e
/-! #### power -/
theorem sc_power : FnScope N_power P_power (defScope s_power) := ⟨rfl, rfl, rfl, by decide +kernel, rfl, by decide +kernel, by decide +kernel⟩
def sp_power (_ : Txt K mg) : Sp := fun vs H Q _ => ∃ (s : Int) (n : Nat), vs = [.int s, .int n] ∧ 0 ≤ s ∧ s ≤ 1000000000000 ∧ n ≤ 200 ∧ RetV (.int (s ^ n)) H Q
theorem ev_power {T : Txt K mg} {σ : L2.St} {H : Hp} {tg : TA} {E : XK} (s : Int) (n : Nat) (h0 : 0 ≤ s) (h1 : s ≤ 1000000000000) (hn : n ≤ 200) (ha : EvA tg σ H [.int s, .int n]) : Ev (tCall (sp_power T) [] E tg) σ H (.int (s ^ n)) :=
  ev_callF ha fun _ _ _ q => ⟨s, n, rfl, h0, h1, hn, q⟩
theorem ok_power (T : Txt K mg) : FnOk P w K mg base CX0 1 T.a_power T.d_power P_power (sp_power T) := by
  refine (T.F_power).ok sc_power (fun vs H Q E h => ?len) (fun cdv A outer s H vs Q E hr h => ⟨_, (pss_cons (ps_set (i := 2) sc_power.nd rfl (Or.inl rfl) pe_int)
    (pss_cons (ps_for PassesOwn.never rfl (pi_range1 rfl T.g_range (pa_cons (pv 1) pa_nil)) (pg_name (i := 3) sc_power.nd rfl (Or.inl rfl)) (pss_one (ps_set (i := 2) sc_power.nd rfl (Or.inl rfl) (pe_op op_mul (pv 2) (pv 0)))))
    (pss_one (ps_ret (pv 2))))), ?read⟩)
  case len =>
    obtain ⟨s, n, rfl, _⟩ := h
    rfl
  case read =>
    obtain ⟨s, n, rfl, h0, h1, hn, q⟩ := h
    show tSeq _ _ _ [some (.int s), some (.int n), none, none] H
    refine b_asg (Ex.refl H) (by walk_at "ev") fun H1 e => ?_
    refine b_forR1 (n := (n : Int)) e (by walk_at "ev") (by omega) (by omega) (fun i σ' H' => ∃ v, σ' = [some (.int s), some (.int n), some (.int (s ^ i)), v] ∧ Ex H H') (fun H3 e3 => ⟨none, by rw [Int.pow_zero]; rfl, e3⟩) ?_ ?_
    · rintro i σ' H' hi ⟨v, rfl, e3⟩
      refine l_asg e3 (v := .int (s ^ (i + 1))) ?_ fun H4 e4 => ⟨_, rfl, e4⟩
      rw [Int.pow_succ]
      show Ev _ [some (.int s), some (.int n), some (.int (s ^ i)), some (.int (i : Int))] H _
      walk_at "ev"
    · rintro σ' H' ⟨v, rfl, e3⟩
      exact b_ret e3 (ev_var rfl) q
/-! #### Turning.__init__ -/
theorem sc_Turning___init__ : FnScope N_Turning___init__ P_Turning___init__ (defScope s_Turning___init__) := ⟨rfl, rfl, rfl, by decide +kernel, rfl, by decide +kernel, by decide +kernel⟩
/-- the bounds of a turning list's form -/
def TForm (s n : Int) : Prop := 2 ≤ s ∧ s ≤ 1000000000000 ∧ 0 ≤ n ∧ n ≤ 200
/-- a turning list stands at o -/
def IsT (T : Txt K mg) (H : Hp) (o : Addr) (s : Int) (n : Nat) : Prop := ∃ dx, H o = some (.ins T.c_Turning dx (tF s n (s ^ n)))
theorem IsT.mono {T : Txt K mg} {H H' : Hp} {o : Addr} {s : Int} {n : Nat} (h : IsT T H o s n) (e : Ex H H') : IsT T H' o s n := let ⟨dx, h⟩ := h; ⟨dx, e _ _ h⟩
def sp_Turning___init__ (T : Txt K mg) : Sp := fun vs H Q E => ∃ (x dx : Addr) (s n : Int), vs = [.ref x, .int s, .int n] ∧ H x = some (.ins T.c_Turning dx []) ∧
  (TForm s n → RetO T.c_Turning x dx (tF s n (s ^ n.toNat)) H Q) ∧ (¬ TForm s n → RetX T.c_NoForm H E)
theorem eo_Turning {T : Txt K mg} {σ : L2.St} {H : Hp} {tg : TA} {E : XK} {s : Int} {n : Nat} (h : TForm s n) (ha : EvA tg σ H [.int s, .int n]) : EvO (tMake T.c_Turning (sp_Turning___init__ T) [] E tg) σ H T.c_Turning (tF s n (s ^ n)) :=
  eo_make ha fun H1 e x dx hx Q q => ⟨x, dx, s, n, rfl, hx, fun _ => q, fun z => absurd h z⟩
theorem ok_Turning___init__ (T : Txt K mg) : FnOk P w K mg base (L2.CX P w) 2 T.a_Turning___init__ T.d_Turning___init__ P_Turning___init__ (sp_Turning___init__ T) := by
  have G_Listing___init__ := ok_Listing___init__ (P := P) (w := w) (base := base) T
  have G_power := ok_power (P := P) (w := w) (base := base) T
  refine (T.F_Turning___init__).okX sc_Turning___init__ (fun vs H Q E h => ?len) (fun cdv A outer s H vs Q E hr h => ⟨_, (pss_cons (ps_if (PW.pt (pw_or (pt_not (pt_chain op_le op_le pe_int (pv 1) (pe_glob (v := .int 1000000000000) rfl T.m_MOST_SIGNS ⟨_, rfl⟩))) (pw_or1 (pt_not (pt_chain op_le op_le pe_int (pv 2) (pe_glob (v := .int 200) rfl T.m_MOST_SPOTS_turning ⟨_, rfl⟩)))))) (pss_one (ps_raise rfl (takes_of rfl rfl rfl rfl) (pmk_own PySem.F.excBase_ValueError T.x_NoForm T.m_NoForm T.k_NoForm (raises_own T.bE_NoForm T.tE_NoForm) rfl))) pss_nil)
    (pss_cons (ps_expr (pe_clsfn T.cr_Listing T.at_Listing___init__ T.F_Listing___init__.kp G_Listing___init__ (hr.mono (by decide)) (by rfl) T.m_Listing T.b_Listing___init__ .nil pass0 (pa_cons (pv 0) (pa_cons (pv 2) (pa_cons (pe_call G_power (hr.mono (by decide)) (by rfl) T.m_power T.F_power.kp T.b_power .nil pass0 (pa_cons (pv 1) (pa_cons (pv 2) pa_nil))) pa_nil)))))
    (pss_one (ps_fld (pv 0) (pv 1) rfl)))), ?read⟩)
  case len =>
    obtain ⟨x, dx, s, n, rfl, _⟩ := h
    rfl
  case read =>
    obtain ⟨x, dx, s, n, rfl, hx, q, qe⟩ := h
    show tSeq _ _ _ [some (.ref x), some (.int s), some (.int n)] H
    refine b_when (Ex.refl H) (by walk_at "ev") (fun hb H1 e1 => ?_) (fun hb H1 e1 => ?_)
    · refine qe ?_ H1 e1
      intro f
      unfold TForm at f
      simp at hb
      omega
    · have f : TForm s n := by
        unfold TForm
        simp at hb
        omega
      obtain ⟨m, rfl⟩ : ∃ m : Nat, n = m := ⟨n.toNat, by have := f.2.2.1; omega⟩
      have hp := ev_power (T := T) (σ := [some (.ref x), some (.int s), some (.int m)]) (H := H) (tg := tCons (tVar 1) (tCons (tVar 2) tNil)) (E := E0) s m (by have := f.1; omega) f.2.1 (by have := f.2.2.2; omega) (by walk_at "ev")
      have ha : EvA (tCons (tVar 0) (tCons (tVar 2) (tCons (tCall (sp_power T) [] E0 (tCons (tVar 1) (tCons (tVar 2) tNil))) tNil))) [some (.ref x), some (.int s), some (.int m)] H [.ref x, .int m, .int (s ^ m)] :=
        ea_cons (ev_var rfl) (ea_cons (ev_var rfl) (ea_cons hp ea_nil))
      refine b_dropCall e1 ha fun H2 e2 => ?_
      refine ⟨x, T.c_Turning, dx, m, s ^ m, rfl, T.cl_Turning, T.no_Turning_length, T.no_Turning_size, e2 _ _ hx, fun H3 k3 h3 => ?_⟩
      refine ⟨_, rfl, _, rfl, x, T.c_Turning, dx, _, rfl, h3, T.cl_Turning, T.no_Turning_signs, (Nat.lt_of_le_of_lt (lF_len _ _) (by decide)), ?_⟩
      refine q f _ (fun b o eb hb => ?_) upd_same
      rw [upd_ne hb]
      exact k3 b o (e2 _ _ eb) hb
/-! #### choose -/
theorem sc_choose : FnScope N_choose P_choose (defScope s_choose) := ⟨rfl, rfl, rfl, by decide +kernel, rfl, by decide +kernel, by decide +kernel⟩
/-- how many rows: n over k -/
def sp_choose (_ : Txt K mg) : Sp := fun vs H Q _ => ∃ (n k : Nat), vs = [.int n, .int k] ∧ n ≤ 200 ∧ k ≤ 200 ∧ RetV (.int (bin n k)) H Q
theorem ev_choose {T : Txt K mg} {σ : L2.St} {H : Hp} {tg : TA} {E : XK} (n k : Nat) (hn : n ≤ 200) (hk : k ≤ 200) (ha : EvA tg σ H [.int n, .int k]) : Ev (tCall (sp_choose T) [] E tg) σ H (.int (bin n k)) :=
  ev_callF ha fun _ _ _ q => ⟨n, k, rfl, hn, hk, q⟩
theorem ok_choose (T : Txt K mg) : FnOk P w K mg base CX0 1 T.a_choose T.d_choose P_choose (sp_choose T) := by
  refine (T.F_choose).ok sc_choose (fun vs H Q E h => ?len) (fun cdv A outer s H vs Q E hr h => ⟨_, (pss_cons (ps_if (pt_cmpR op_gt (pv 1) (pv 0) (nomark _)) (pss_one (ps_ret pe_int)) pss_nil)
    (pss_cons (ps_set (i := 2) sc_choose.nd rfl (Or.inl rfl) pe_int)
    (pss_cons (ps_for PassesOwn.never rfl (pi_range1 rfl T.g_range (pa_cons (pe_callB (call_min2 rfl) (by rfl) T.g_min boot_min (pa_cons (pv 1) (pa_cons (pe_op op_sub (pv 0) (pv 1)) pa_nil))) pa_nil)) (pg_name (i := 3) sc_choose.nd rfl (Or.inl rfl)) (pss_one (ps_set (i := 2) sc_choose.nd rfl (Or.inl rfl) (pe_op op_fdivW (pe_op op_mul (pv 2) (pe_op op_sub (pv 0) (pv 3))) (pe_op op_add (pv 3) pe_int)))))
    (pss_one (ps_ret (pv 2)))))), ?read⟩)
  case len =>
    obtain ⟨n, k, rfl, _⟩ := h
    rfl
  case read =>
    obtain ⟨n, k, rfl, hn, hk, q⟩ := h
    show tSeq _ _ _ [some (.int n), some (.int k), none, none] H
    refine b_when (Ex.refl H) (by walk_at "ev") (fun hb H1 e1 => ?_) (fun hb H1 e1 => ?_)
    · have h1 : (n : Int) < k := by simpa using hb
      refine s_ret (v := .int 0) ev_c fun H2 e2 => ?_
      have e : (0 : Int) = (bin n k : Int) := by rw [bin_over n k (by omega)]; rfl
      rw [e]
      exact q H2 (e1.trans e2)
    · have h1 : ¬ (n : Int) < k := by simpa using hb
      refine b_asg e1 ev_c fun H2 e2 => ?_
      obtain ⟨j, hj⟩ : ∃ j : Nat, (if (n : Int) - k < k then (n : Int) - k else k) = (j : Int) ∧ j ≤ n ∧ bin n j = bin n k := by
        split
        · exact ⟨n - k, by omega, by omega, bin_symm n k (by omega)⟩
        · exact ⟨k, rfl, by omega, rfl⟩
      refine b_forR1 (n := (j : Int)) e2 (ea_cons ?_ ea_nil) (by omega) (by omega) (fun i σ' H' => ∃ v, σ' = [some (.int n), some (.int k), some (.int (bin n i)), v] ∧ Ex H H') (fun H3 e3 => ⟨none, by rw [bin_zero]; rfl, e3⟩) ?_ ?_
      · rw [← hj.1]
        exact ev_cbv (vs := [.int k, .int ((n : Int) - k)]) (by walk_at "ev") fun H1 _ Q q => ⟨_, _, rfl, q⟩
      · rintro i σ' H' hi ⟨v, rfl, e3⟩
        refine l_asg e3 (v := .int (bin n (i + 1))) ?_ fun H4 e4 => ⟨_, rfl, e4⟩
        rw [← bin_up_div n i]
        show Ev _ [some (.int n), some (.int k), some (.int (bin n i)), some (.int (i : Int))] H _
        walk_at "ev"
      · rintro σ' H' ⟨v, rfl, e3⟩
        refine b_ret e3 (ev_var rfl) fun H4 e4 => ?_
        rw [show ((j : Int)).toNat = j from rfl, hj.2.2]
        exact q H4 e4
/-! #### Choosing.__init__ -/
theorem sc_Choosing___init__ : FnScope N_Choosing___init__ P_Choosing___init__ (defScope s_Choosing___init__) := ⟨rfl, rfl, rfl, by decide +kernel, rfl, by decide +kernel, by decide +kernel⟩
/-- the bounds of a choosing list's form -/
def CForm (n k : Int) : Prop := 0 ≤ n ∧ n ≤ 200 ∧ 0 ≤ k ∧ k ≤ n
/-- a choosing list stands at o -/
def IsC (T : Txt K mg) (H : Hp) (o : Addr) (n k : Nat) : Prop := ∃ dx, H o = some (.ins T.c_Choosing dx (cF n k (bin n k)))
theorem IsC.mono {T : Txt K mg} {H H' : Hp} {o : Addr} {n k : Nat} (h : IsC T H o n k) (e : Ex H H') : IsC T H' o n k := let ⟨dx, h⟩ := h; ⟨dx, e _ _ h⟩
def sp_Choosing___init__ (T : Txt K mg) : Sp := fun vs H Q E => ∃ (x dx : Addr) (n k : Int), vs = [.ref x, .int n, .int k] ∧ H x = some (.ins T.c_Choosing dx []) ∧
  (CForm n k → RetO T.c_Choosing x dx (cF n k (bin n.toNat k.toNat)) H Q) ∧ (¬ CForm n k → RetX T.c_NoForm H E)
theorem eo_Choosing {T : Txt K mg} {σ : L2.St} {H : Hp} {tg : TA} {E : XK} {n k : Nat} (h : CForm n k) (ha : EvA tg σ H [.int n, .int k]) : EvO (tMake T.c_Choosing (sp_Choosing___init__ T) [] E tg) σ H T.c_Choosing (cF n k (bin n k)) :=
  eo_make ha fun H1 e x dx hx Q q => ⟨x, dx, n, k, rfl, hx, fun _ => q, fun z => absurd h z⟩
theorem c_pos {n k : Nat} (f : CForm n k) : 0 < (bin n k : Int) := by
  have := bin_pos n k (by have := f.2.2.2; omega)
  omega
theorem ok_Choosing___init__ (T : Txt K mg) : FnOk P w K mg base (L2.CX P w) 2 T.a_Choosing___init__ T.d_Choosing___init__ P_Choosing___init__ (sp_Choosing___init__ T) := by
  have G_Listing___init__ := ok_Listing___init__ (P := P) (w := w) (base := base) T
  have G_choose := ok_choose (P := P) (w := w) (base := base) T
  refine (T.F_Choosing___init__).okX sc_Choosing___init__ (fun vs H Q E h => ?len) (fun cdv A outer s H vs Q E hr h => ⟨_, (pss_cons (ps_if (PW.pt (pw_or (pt_not (pt_chain op_le op_le pe_int (pv 1) (pe_glob (v := .int 200) rfl T.m_MOST_SPOTS_choosing ⟨_, rfl⟩))) (pw_or1 (pt_not (pt_chain op_le op_le pe_int (pv 2) (pv 1)))))) (pss_one (ps_raise rfl (takes_of rfl rfl rfl rfl) (pmk_own PySem.F.excBase_ValueError T.x_NoForm T.m_NoForm T.k_NoForm (raises_own T.bE_NoForm T.tE_NoForm) rfl))) pss_nil)
    (pss_cons (ps_expr (pe_clsfn T.cr_Listing T.at_Listing___init__ T.F_Listing___init__.kp G_Listing___init__ (hr.mono (by decide)) (by rfl) T.m_Listing T.b_Listing___init__ .nil pass0 (pa_cons (pv 0) (pa_cons (pv 1) (pa_cons (pe_call G_choose (hr.mono (by decide)) (by rfl) T.m_choose T.F_choose.kp T.b_choose .nil pass0 (pa_cons (pv 1) (pa_cons (pv 2) pa_nil))) pa_nil)))))
    (pss_one (ps_fld (pv 0) (pv 2) rfl)))), ?read⟩)
  case len =>
    obtain ⟨x, dx, n, k, rfl, _⟩ := h
    rfl
  case read =>
    obtain ⟨x, dx, n, k, rfl, hx, q, qe⟩ := h
    show tSeq _ _ _ [some (.ref x), some (.int n), some (.int k)] H
    refine b_when (Ex.refl H) (by walk_at "ev") (fun hb H1 e1 => ?_) (fun hb H1 e1 => ?_)
    · refine qe ?_ H1 e1
      intro f
      unfold CForm at f
      simp at hb
      omega
    · have f : CForm n k := by
        unfold CForm
        simp at hb
        omega
      obtain ⟨m, rfl⟩ : ∃ m : Nat, n = m := ⟨n.toNat, by have := f.1; omega⟩
      obtain ⟨j, rfl⟩ : ∃ j : Nat, k = j := ⟨k.toNat, by have := f.2.2.1; omega⟩
      obtain ⟨f1, f2, f3, f4⟩ := id f
      have hp := ev_choose (T := T) (σ := [some (.ref x), some (.int m), some (.int j)]) (H := H) (tg := tCons (tVar 1) (tCons (tVar 2) tNil)) (E := E0) m j (by omega) (by omega) (by walk_at "ev")
      have ha : EvA (tCons (tVar 0) (tCons (tVar 1) (tCons (tCall (sp_choose T) [] E0 (tCons (tVar 1) (tCons (tVar 2) tNil))) tNil))) [some (.ref x), some (.int m), some (.int j)] H [.ref x, .int m, .int (bin m j)] :=
        ea_cons (ev_var rfl) (ea_cons (ev_var rfl) (ea_cons hp ea_nil))
      refine b_dropCall e1 ha fun H2 e2 => ?_
      refine ⟨x, T.c_Choosing, dx, m, bin m j, rfl, T.cl_Choosing, T.no_Choosing_length, T.no_Choosing_size, e2 _ _ hx, fun H3 k3 h3 => ?_⟩
      refine ⟨_, rfl, _, rfl, x, T.c_Choosing, dx, _, rfl, h3, T.cl_Choosing, T.no_Choosing_ones, (Nat.lt_of_le_of_lt (lF_len _ _) (by decide)), ?_⟩
      refine q f _ (fun b o eb hb => ?_) upd_same
      rw [upd_ne hb]
      exact k3 b o (e2 _ _ eb) hb
/-! #### Choosing.row_at -/
theorem sc_Choosing_row_at : FnScope N_Choosing_row_at P_Choosing_row_at (defScope s_Choosing_row_at) := ⟨rfl, rfl, rfl, by decide +kernel, rfl, by decide +kernel, by decide +kernel⟩
theorem rep_set (m : Nat) (l : List Int) : (List.replicate (m + 1) (0 : Int) ++ l).set m 1 = List.replicate m 0 ++ 1 :: l := by
  rw [List.set_append_left _ _ (by rw [List.length_replicate]; omega), List.replicate_succ', List.set_append_right _ _ (by rw [List.length_replicate]; omega)]
  rw [List.length_replicate, Nat.sub_self, List.append_assoc]
  rfl
theorem rep_zero (m : Nat) (l : List Int) : List.replicate (m + 1) (0 : Int) ++ l = List.replicate m 0 ++ 0 :: l := by
  rw [List.replicate_succ', List.append_assoc]
  rfl
def sp_Choosing_row_at (T : Txt K mg) : Sp := fun vs H Q E => ∃ (o : Addr) (n k : Nat) (p : Int), vs = [.ref o, .int p] ∧ CForm n k ∧ IsC T H o n k ∧
  (0 ≤ p ∧ p < (bin n k : Int) → RetL ((crow n k p).map V.int) H Q) ∧ (¬ (0 ≤ p ∧ p < (bin n k : Int)) → RetX T.c_NoPlace H E)
theorem el_crow {T : Txt K mg} {σ : L2.St} {H : Hp} {ta : TE} {tg : TA} {E : XK} {o : Addr} {n k : Nat} {p : Int} (f : CForm n k) (ho : IsC T H o n k) (p0 : 0 ≤ p) (p1 : p < (bin n k : Int)) (hv : Ev ta σ H (.ref o)) (ha : EvA tg σ H [.int p]) :
    EvL (tMeth T.c_Choosing "row_at" (sp_Choosing_row_at T) [] E ta tg) σ H ((crow n k p).map V.int) := by
  obtain ⟨dx, h⟩ := ho
  exact el_meth hv h (cF_m _ _ _) ha fun H1 e Q q => ⟨o, n, k, p, rfl, f, ⟨dx, e _ _ h⟩, fun _ => q, fun z => absurd ⟨p0, p1⟩ z⟩
theorem ok_Choosing_row_at (T : Txt K mg) : FnOk P w K mg base (L2.CX P w) 1 T.a_Choosing_row_at T.d_Choosing_row_at P_Choosing_row_at (sp_Choosing_row_at T) := by
  refine (T.F_Choosing_row_at).okX sc_Choosing_row_at (fun vs H Q E h => ?len) (fun cdv A outer s H vs Q E hr h => ⟨_, (pss_cons (ps_if (pt_not (pt_chain op_le op_lt pe_int (pv 1) (pe_fld (pv 0) (by rfl)))) (pss_one (ps_raise rfl (takes_of rfl rfl rfl rfl) (pmk_own PySem.F.excBase_ValueError T.x_NoPlace T.m_NoPlace T.k_NoPlace (raises_own T.bE_NoPlace T.tE_NoPlace) rfl))) pss_nil)
    (pss_cons (ps_set (i := 2) sc_Choosing_row_at.nd rfl (Or.inl rfl) (pe_op op_rep (pe_lst (pa_cons pe_int pa_nil)) (pe_fld (pv 0) (by rfl))))
    (pss_cons (ps_set (i := 3) sc_Choosing_row_at.nd rfl (Or.inl rfl) (pe_fld (pv 0) (by rfl)))
    (pss_cons (ps_set (i := 4) sc_Choosing_row_at.nd rfl (Or.inl rfl) (pe_fld (pv 0) (by rfl)))
    (pss_cons (ps_for (passes_of rfl) rfl (pi_range3 rfl T.g_range (pa_cons (pe_fld (pv 0) (by rfl)) (pa_cons pe_int (pa_cons (pe_un un_neg pe_int) pa_nil)))) (pg_name (i := 5) sc_Choosing_row_at.nd rfl (Or.inl rfl)) (pss_cons (ps_set (i := 6) sc_Choosing_row_at.nd rfl (Or.inl rfl) (pe_op op_fdivW (pe_op op_mul (pv 4) (pe_op op_sub (pv 5) (pv 3))) (pv 5)))
    (pss_cons (ps_if (pt_cmpR op_lt (pv 1) (pv 6) (nomark _)) (pss_cons (ps_set (i := 4) sc_Choosing_row_at.nd rfl (Or.inl rfl) (pv 6))
    (pss_one ps_continue)) pss_nil)
    (pss_cons (ps_asg pe_int (pg_sub (pv 2) (pe_op op_sub (pv 5) pe_int) set_list))
    (pss_cons (ps_set (i := 1) sc_Choosing_row_at.nd rfl (Or.inl rfl) (pe_op op_sub (pe_op op_sub (pv 4) pe_int) (pv 1)))
    (pss_cons (ps_set (i := 4) sc_Choosing_row_at.nd rfl (Or.inl rfl) (pe_op op_sub (pv 4) (pv 6)))
    (pss_one (ps_set (i := 3) sc_Choosing_row_at.nd rfl (Or.inl rfl) (pe_op op_sub (pv 3) pe_int)))))))))
    (pss_one (ps_ret (pv 2)))))))), ?read⟩)
  case len =>
    obtain ⟨o, n, k, p, rfl, _⟩ := h
    rfl
  case read =>
    obtain ⟨o, n, k, p, rfl, f, ⟨dx, ho⟩, q, qe⟩ := h
    show tSeq _ _ _ [some (.ref o), some (.int p), none, none, none, none, none] H
    obtain ⟨f1, f2, f3, f4⟩ := id f
    have hsz : ∀ {σ : L2.St}, σ[0]? = some (some (V.ref o)) → Ev (tFld K (tVar 0) "size") σ H (.int (bin n k)) := fun h => ev_fld (ev_var h) ho T.cl_Choosing T.no_Choosing_size (cF_size _ _ _)
    have hln : ∀ {σ : L2.St} {H' : Hp}, Ex H H' → σ[0]? = some (some (V.ref o)) → Ev (tFld K (tVar 0) "length") σ H' (.int n) := fun e h => ev_fld (ev_var h) (e _ _ ho) T.cl_Choosing T.no_Choosing_length (cF_length _ _ _)
    have hon : ∀ {σ : L2.St} {H' : Hp}, Ex H H' → σ[0]? = some (some (V.ref o)) → Ev (tFld K (tVar 0) "ones") σ H' (.int k) := fun e h => ev_fld (ev_var h) (e _ _ ho) T.cl_Choosing T.no_Choosing_ones (cF_ones _ _ _)
    refine b_when (Ex.refl H) (et_not (et_test (ev_chain (by walk_at "ev") (by walk_at "ev") (by walk_at "rv") (fun _ => hsz rfl) fun _ => by walk_at "rv"))) (fun hb H1 e1 => ?_) (fun hb H1 e1 => ?_)
    · refine qe ?_ H1 e1
      simp at hb
      omega
    have hp : 0 ≤ p ∧ p < (bin n k : Int) := by simpa using hb
    refine b_asgL e1 (xs := (List.replicate n (0 : Int)).map V.int) ?_ fun l H2 nl e2 hl => ?_
    · have h := el_rep (tb := tFld K (tVar 0) "length") (σ := [some (.ref o), some (.int p), none, none, none, none, none]) (H := H) (n := (n : Int)) (el_lst (ea_cons (ev_c (v := .int 0)) ea_nil) (by simp)) (fun H1 e => hln e rfl) (by omega) (by omega) (by simp)
      rw [show ((n : Int)).toNat = n from rfl, flat_one] at h
      rw [List.map_replicate]
      exact h
    refine b_asg (Ex.refl H2) (hon e2 rfl) fun H3 e3 => ?_
    refine b_asg e3 (v := .int (bin n k)) (ev_fld (ev_var rfl) (e2 _ _ ho) T.cl_Choosing T.no_Choosing_size (cF_size _ _ _)) fun H4 e4 => ?_
    refine b_forDown (n := n) e4 (ea_cons (hln e2 rfl) (ea_cons ev_c (ea_cons (ev_un0 ev_c) ea_nil))) (by omega) (fun i σ' H' => ∃ (u v : Option V) (j : Nat) (y : Int) (pre : List Int), σ' = [some (.ref o), some (.int y), some (.ref l), some (.int j), some (.int (bin (n - i) j)), u, v] ∧ Ex H H' ∧
        i ≤ n ∧ j ≤ n - i ∧ pre.length = i ∧ 0 ≤ y ∧ y < (bin (n - i) j : Int) ∧ crev n k p = pre ++ crev (n - i) j y ∧ H' l = some (.lst ((List.replicate (n - i) 0 ++ pre.reverse).map V.int)))
      (fun H' e' => ⟨none, none, k, p, [], by rw [Nat.sub_zero]; rfl, e2.trans e', by omega, by omega, rfl, hp.1, hp.2, rfl, by rw [Nat.sub_zero]; simpa using e' _ _ hl⟩) ?_ ?_
    · rintro i σ' H' hi ⟨u, v, j, y, pre, rfl, e', hin, hj, hpre, y0, y1, hcr, hl'⟩
      obtain ⟨m, hm⟩ : ∃ m, n - i = m + 1 := ⟨n - i - 1, by omega⟩
      have hm2 : n - (i + 1) = m := by omega
      rw [hm] at hj y1 hcr hl' ⊢
      rw [hm2]
      show tSeq _ _ _ [some (.ref o), some (.int y), some (.ref l), some (.int j), some (.int (bin (m + 1) j)), some (.int ((n : Int) - i)), v] H'
      have hs : (n : Int) - i = (m : Int) + 1 := by omega
      rw [hs]
      refine b_asg (Ex.refl H') (v := .int (bin m j)) ?_ fun H5 e5 => ?_
      · rw [← bin_down_div m j]
        walk_at "ev"
      refine b_when e5 (by walk_at "ev") (fun hb H6 e6 => ?_) (fun hb H6 e6 => ?_)
      · have hy : y < (bin m j : Int) := by simpa using hb
        refine b_asg e6 (ev_var rfl) fun H7 e7 => ?_
        show tCont _ _ _
        refine ⟨_, _, j, y, pre ++ [0], rfl, e'.trans e7, by omega, ?_, by rw [List.length_append, hpre]; rfl, y0, hy, ?_, ?_⟩
        · rcases Nat.lt_or_ge m j with h | h
          · rw [bin_over m j h] at hy
            omega
          · exact h
        · rw [hcr, crev_low hy, List.append_assoc]
          rfl
        · rw [List.reverse_append]
          refine e7 _ _ ?_
          rw [hl', rep_zero]
          rfl
      · have hy : ¬ y < (bin m j : Int) := by simpa using hb
        obtain ⟨j', rfl⟩ := high_one hy y1
        have hb2 := bin_succ m j'
        refine q_setL (v := .int 1) (j := m) (e6 _ _ hl') ev_c (ev_var rfl) (ev_is (ev_op (ev_var rfl) ev_c rv_I0) (congrArg V.int (by omega))) (by rw [List.length_map, List.length_append, List.length_replicate]; omega) fun H7 e7 => ?_
        have hl7 : (upd H7 l (.lst (((List.replicate (m + 1) 0 ++ pre.reverse).map V.int).set m (.int 1)))) l = some (.lst ((List.replicate m 0 ++ 1 :: pre.reverse).map V.int)) := by
          rw [upd_same, ← List.map_set, rep_set]
        have e8 : Ex H (upd H7 l (.lst (((List.replicate (m + 1) 0 ++ pre.reverse).map V.int).set m (.int 1)))) := Ex.mut ((e'.trans e6).trans e7) nl
        generalize upd H7 l (.lst (((List.replicate (m + 1) 0 ++ pre.reverse).map V.int).set m (.int 1))) = H8 at hl7 e8
        refine b_asg (Ex.refl H8) (ev_op (ev_op (ev_var rfl) ev_c rv_I0) (ev_var rfl) rv_I0) fun H9 e9 => ?_
        refine b_asg e9 (v := .int (bin m j')) (ev_is (ev_op (ev_var rfl) (ev_var rfl) rv_I0) (congrArg V.int (by omega))) fun H10 e10 => ?_
        refine l_asg e10 (v := .int j') (ev_is (ev_op (ev_var rfl) ev_c rv_I0) (congrArg V.int (by omega))) fun H11 e11 => ⟨_, _, j', (bin (m + 1) (j' + 1) : Int) - 1 - y, pre ++ [1], rfl, e8.trans e11, by omega, by omega, by rw [List.length_append, hpre]; rfl, by omega, by omega, ?_, ?_⟩
        · rw [hcr, crev_high hy, List.append_assoc]
          rfl
        · rw [List.reverse_append]
          exact e11 _ _ hl7
    · rintro σ' H' ⟨u, v, j, y, pre, rfl, e', hin, hj, hpre, y0, y1, hcr, hl'⟩
      rw [Nat.sub_self] at hcr hl'
      refine s_ret (ev_var rfl) fun H5 e5 => q hp l H5 nl (e'.trans e5) (e5 _ _ ?_)
      rw [hl', crow, hcr]
      show some (HO.lst (([] ++ pre.reverse).map V.int)) = some (HO.lst ((pre ++ crev 0 j y).reverse.map V.int))
      rw [show crev 0 j y = [] from rfl, List.append_nil, List.nil_append]
/-! #### Choosing.is_row -/
theorem sc_Choosing_is_row : FnScope N_Choosing_is_row P_Choosing_is_row (defScope s_Choosing_is_row) := ⟨rfl, rfl, rfl, by decide +kernel, rfl, by decide +kernel, by decide +kernel⟩
def bitB (m : Int) : Bool := decide (m = 0) || decide (m = 1)
def isCrow (n k : Nat) (xs : List Int) : Bool := decide ((xs.length : Int) = n) && xs.all bitB && decide (xs.sum = k)
/-- a row with just so many ones -/
def CRow (n k : Nat) (xs : List Int) : Prop := xs.length = n ∧ Bits xs ∧ ones xs = k
theorem isCrow_iff (n k : Nat) (xs : List Int) : isCrow n k xs = true ↔ CRow n k xs := by
  unfold isCrow CRow
  have hb : xs.all bitB = true ↔ Bits xs := by
    unfold Bits
    simp [bitB]
  constructor
  · intro h
    have h1 : ((xs.length : Int) = n ∧ xs.all bitB = true) ∧ xs.sum = k := by simpa using h
    have h2 := hb.mp h1.1.2
    have h3 := bits_sum h2
    exact ⟨by omega, h2, by omega⟩
  · rintro ⟨h1, h2, h3⟩
    have h4 := bits_sum h2
    rw [hb.mpr h2, decide_eq_true (show (xs.length : Int) = n by omega), decide_eq_true (show xs.sum = (k : Int) by omega)]
    rfl
def sp_Choosing_is_row (T : Txt K mg) : Sp := fun vs H Q _ => ∃ (o a : Addr) (n k : Nat) (xs : List Int), vs = [.ref o, .ref a] ∧ IsC T H o n k ∧ SqL K H a (xs.map V.int) ∧ xs.length ≤ 10000 ∧ RetV (.bl (isCrow n k xs)) H Q
theorem ev_Cis_row {T : Txt K mg} {σ : L2.St} {H : Hp} {ta : TE} {tg : TA} {E : XK} {o a : Addr} {n k : Nat} {xs : List Int} (ho : IsC T H o n k) (hx : SqL K H a (xs.map V.int)) (hl : xs.length ≤ 10000) (hv : Ev ta σ H (.ref o)) (ha : EvA tg σ H [.ref a]) :
    Ev (tMeth T.c_Choosing "is_row" (sp_Choosing_is_row T) [] E ta tg) σ H (.bl (isCrow n k xs)) := by
  obtain ⟨dx, h⟩ := ho
  exact ev_meth hv h (cF_m _ _ _) ha fun H1 e Q q => ⟨o, a, n, k, xs, rfl, ⟨dx, e _ _ h⟩, ex_l e hx, hl, q⟩
theorem ok_Choosing_is_row (T : Txt K mg) : FnOk P w K mg base CX0 1 T.a_Choosing_is_row T.d_Choosing_is_row P_Choosing_is_row (sp_Choosing_is_row T) := by
  refine (T.F_Choosing_is_row).ok sc_Choosing_is_row (fun vs H Q E h => ?len) (fun cdv A outer s H vs Q E hr h => ⟨_, (pss_cons (ps_if (PW.pt (pw_or (pt_cmpR op_ne (pe_callB call_len_seq (by rfl) T.g_len boot_len (pa_cons (pv 1) pa_nil)) (pe_fld (pv 0) (by rfl)) (nomark _)) (pw_or1 (pt_not (pt_val (pe_callB (cr_all rfl) (by rfl) T.g_all boot_all (pa_cons (pe_lc (own := [("mark", 2)]) (g := (gName 2)) rfl sc_Choosing_is_row.nd (pi_list (pv 1)) (blkOk_by (N := N_Choosing_is_row) (sc := defScope s_Choosing_is_row) (by decide +kernel)) (fun _ _ _ _ _ => pg_name (i := 2) sc_Choosing_is_row.nd rfl (Or.inl rfl)) (fun _ _ _ _ _ => pts_nil) (fun _ _ _ _ _ => (pe_or (pe_cmpR op_eq (pv 2) pe_int (nomark _)) (pe_one (pe_cmpR op_eq (pv 2) pe_int (nomark _)))))) pa_nil))))))) (pss_one (ps_ret pe_bl)) pss_nil)
    (pss_one (ps_ret (pe_cmpR op_eq (pe_callB (cr_sum rfl) (by rfl) T.g_sum boot_sum (pa_cons (pv 1) pa_nil)) (pe_fld (pv 0) (by rfl)) (nomark _))))), ?read⟩)
  case len =>
    obtain ⟨o, a, n, k, xs, rfl, _⟩ := h
    rfl
  case read =>
    obtain ⟨o, a, n, k, xs, rfl, ⟨dx, ho⟩, hx, hl, q⟩ := h
    show tSeq _ _ _ [some (.ref o), some (.ref a), none] H
    refine b_when (b := !decide ((xs.length : Int) = n) || !(xs.all bitB)) (Ex.refl H) (et_or (et_test (ev_op (ev_is (ev_len (ev_var rfl) hx) (by rw [List.length_map])) (ev_fld (ev_var rfl) ho T.cl_Choosing T.no_Choosing_length (cF_length _ _ _)) rv_neI)) fun _ => et_not (et_B (ev_allI bitB (ev_var rfl) hx (by omega) (fun _ => rfl) fun m H1 e _ => ev_orV (by walk_at "ev") fun _ => by walk_at "ev"))) (fun hb H1 e => ?_) (fun hb H1 e => ?_)
    · refine b_ret e (v := .bl (isCrow n k xs)) ?_ q
      have h : isCrow n k xs = false := by
        unfold isCrow
        have h2 : (decide ((xs.length : Int) = n) && xs.all bitB) = false := by
          cases h1 : decide ((xs.length : Int) = n) <;> cases h3 : xs.all bitB <;> rw [h1, h3] at hb <;> first | rfl | cases hb
        rw [h2]
        rfl
      rw [h]
      exact ev_c
    · refine b_ret e (v := .bl (isCrow n k xs)) ?_ q
      have h : isCrow n k xs = decide (xs.sum = k) := by
        unfold isCrow
        have h2 : (decide ((xs.length : Int) = n) && xs.all bitB) = true := by
          cases h1 : decide ((xs.length : Int) = n) <;> cases h3 : xs.all bitB <;> rw [h1, h3] at hb <;> first | rfl | cases hb
        rw [h2]
        rfl
      rw [h]
      exact ev_op (ev_sum (ev_var rfl) hx) (ev_fld (ev_var rfl) ho T.cl_Choosing T.no_Choosing_ones (cF_ones _ _ _)) rv_eqI
/-! #### Choosing.place_of -/
theorem sc_Choosing_place_of : FnScope N_Choosing_place_of P_Choosing_place_of (defScope s_Choosing_place_of) := ⟨rfl, rfl, rfl, by decide +kernel, rfl, by decide +kernel, by decide +kernel⟩
theorem take_snoc {xs : List Int} {i : Nat} (hi : i < xs.length) : xs.take (i + 1) = xs.take i ++ [xs[i]] := by
  rw [List.take_add_one, List.getElem?_eq_getElem hi]
  rfl
def sp_Choosing_place_of (T : Txt K mg) : Sp := fun vs H Q E => ∃ (o a : Addr) (n k : Nat) (xs : List Int), vs = [.ref o, .ref a] ∧ CForm n k ∧ IsC T H o n k ∧ SqL K H a (xs.map V.int) ∧ xs.length ≤ 10000 ∧
  (CRow n k xs → RetV (.int (cplace xs)) H Q) ∧ (¬ CRow n k xs → RetX T.c_NoRow H E)
theorem ev_Cplace {T : Txt K mg} {σ : L2.St} {H : Hp} {ta : TE} {tg : TA} {E : XK} {o a : Addr} {n k : Nat} {xs : List Int} (f : CForm n k) (ho : IsC T H o n k) (hx : SqL K H a (xs.map V.int)) (hr : CRow n k xs) (hv : Ev ta σ H (.ref o)) (ha : EvA tg σ H [.ref a]) :
    Ev (tMeth T.c_Choosing "place_of" (sp_Choosing_place_of T) [] E ta tg) σ H (.int (cplace xs)) := by
  obtain ⟨dx, h⟩ := ho
  exact ev_meth hv h (cF_m _ _ _) ha fun H1 e Q q => ⟨o, a, n, k, xs, rfl, f, ⟨dx, e _ _ h⟩, ex_l e hx, by have := f.2.1; have := hr.1; omega, fun _ => q, fun z => absurd hr z⟩
theorem er_Cplace {T : Txt K mg} {σ : L2.St} {H : Hp} {ta : TE} {tg : TA} {E : XK} {o a : Addr} {n k : Nat} {xs : List Int} (f : CForm n k) (ho : IsC T H o n k) (hx : SqL K H a (xs.map V.int)) (hl : xs.length ≤ 10000) (hm : ¬ CRow n k xs) (he : RetX T.c_NoRow H E) (hv : Ev ta σ H (.ref o)) (ha : EvA tg σ H [.ref a]) :
    EvR (tMeth T.c_Choosing "place_of" (sp_Choosing_place_of T) [] E ta tg) σ H := by
  obtain ⟨dx, h⟩ := ho
  exact er_meth hv h (cF_m _ _ _) ha fun H1 e Q => ⟨o, a, n, k, xs, rfl, f, ⟨dx, e _ _ h⟩, ex_l e hx, hl, fun z => absurd z hm, fun _ => RetX.mono he e⟩
theorem ok_Choosing_place_of (T : Txt K mg) : FnOk P w K mg base (L2.CX P w) 2 T.a_Choosing_place_of T.d_Choosing_place_of P_Choosing_place_of (sp_Choosing_place_of T) := by
  have G_Choosing_is_row := ok_Choosing_is_row (P := P) (w := w) (base := base) T
  refine (T.F_Choosing_place_of).okX sc_Choosing_place_of (fun vs H Q E h => ?len) (fun cdv A outer s H vs Q E hr h => ⟨_, (pss_cons (ps_if (pt_not (pt_val (pe_meth (pv 0) T.cl_Choosing T.me_Choosing_is_row G_Choosing_is_row (hr.mono (by decide)) T.b_Choosing_is_row .nil pass0 (pa_cons (pv 1) pa_nil)))) (pss_one (ps_raise rfl (takes_of rfl rfl rfl rfl) (pmk_own PySem.F.excBase_ValueError T.x_NoRow T.m_NoRow T.k_NoRow (raises_own T.bE_NoRow T.tE_NoRow) rfl))) pss_nil)
    (pss_cons (ps_set (i := 2) sc_Choosing_place_of.nd rfl (Or.inl rfl) pe_int)
    (pss_cons (ps_set (i := 3) sc_Choosing_place_of.nd rfl (Or.inl rfl) pe_int)
    (pss_cons (ps_set (i := 4) sc_Choosing_place_of.nd rfl (Or.inl rfl) pe_int)
    (pss_cons (ps_for (passes_of rfl) rfl (pi_enum rfl T.g_enumerate (pa_cons (pv 1) pa_nil)) (pg_tup rfl (pgs_cons (pg_name (i := 5) sc_Choosing_place_of.nd rfl (Or.inl rfl)) (pgs_cons (pg_name (i := 6) sc_Choosing_place_of.nd rfl (Or.inl rfl)) pgs_nil))) (pss_cons (ps_if (pt_cmpR op_eq (pv 6) pe_int (nomark _)) (pss_cons (ps_set (i := 4) sc_Choosing_place_of.nd rfl (Or.inl rfl) (pe_op op_fdivW (pe_op op_mul (pv 4) (pe_op op_add (pv 5) pe_int)) (pe_op op_sub (pe_op op_add (pv 5) pe_int) (pv 3))))
    (pss_one ps_continue)) pss_nil)
    (pss_cons (ps_aug (i := 3) sc_Choosing_place_of.nd rfl (Or.inl rfl) pe_int ip_add)
    (pss_cons (ps_set (i := 4) sc_Choosing_place_of.nd rfl (Or.inl rfl) (pe_op op_fdivW (pe_op op_mul (pv 4) (pe_op op_add (pv 5) pe_int)) (pv 3)))
    (pss_one (ps_set (i := 2) sc_Choosing_place_of.nd rfl (Or.inl rfl) (pe_op op_sub (pe_op op_sub (pv 4) pe_int) (pv 2))))))))
    (pss_one (ps_ret (pv 2)))))))), ?read⟩)
  case len =>
    obtain ⟨o, a, n, k, xs, rfl, _⟩ := h
    rfl
  case read =>
    obtain ⟨o, a, n, k, xs, rfl, f, ho, hx, hl, q, qe⟩ := h
    show tSeq _ _ _ [some (.ref o), some (.ref a), none, none, none, none, none] H
    obtain ⟨f1, f2, f3, f4⟩ := id f
    refine b_when (Ex.refl H) (et_not (et_B (ev_Cis_row ho hx hl (ev_var rfl) (by walk_at "ev")))) (fun hb H1 e1 => ?_) (fun hb H1 e1 => ?_)
    · refine qe ?_ H1 e1
      intro z
      rw [(isCrow_iff n k xs).mpr z] at hb
      cases hb
    have hr : CRow n k xs := (isCrow_iff n k xs).mp (by simpa using hb)
    have hn : xs.length ≤ 200 := by have := hr.1; omega
    refine b_asg e1 ev_c fun H2 e => ?_
    refine b_asg e ev_c fun H3 e => ?_
    refine b_asg e ev_c fun H4 e => ?_
    refine b_forEnum e (by walk_at "ev") hx (fun i σ' H' => ∃ u v, σ' = [some (.ref o), some (.ref a), some (.int (cplace (xs.take i))), some (.int (ones (xs.take i))), some (.int (bin i (ones (xs.take i)))), u, v] ∧ i ≤ xs.length ∧ Ex H H')
      (fun H' e' => ⟨none, none, rfl, Nat.zero_le _, e'⟩) (fun i σ' H' ⟨_, _, _, _, e'⟩ => ex_l e' hx) ?_ ?_
    · rintro i x σ' H' H1 hxi ⟨u, v, rfl, hin, e0⟩ e1
      have e' := e0.trans e1
      obtain ⟨m, hi, rfl, hm⟩ := int_item hxi
      have tl : (xs.take i).length = i := by rw [List.length_take]; omega
      have tO := ones_le (xs.take i)
      rw [tl] at tO
      have ht := take_snoc hi
      rw [hm] at ht
      show tSeq _ _ _ [some (.ref o), some (.ref a), some (.int (cplace (xs.take i))), some (.int (ones (xs.take i))), some (.int (bin i (ones (xs.take i)))), some (.int (i : Int)), some (.int m)] H1
      rcases hr.2.1 m (by rw [← hm]; exact List.getElem_mem hi) with rfl | rfl
      · refine b_when (b := true) e' (ev_is (v := .bl (decide ((0 : Int) = 0))) (by walk_at "ev") rfl |> et_test) (fun _ H5 e5 => ?_) (fun hb => by cases hb)
        refine b_asg e5 (v := .int (bin (i + 1) (ones (xs.take i)))) ?_ fun H6 e6 => ?_
        · rw [← bin_zero_div i (ones (xs.take i)) tO]
          walk_at "ev"
        · show tCont _ _ _
          refine ⟨some (.int (i : Int)), some (.int 0), ?_, hi, e6⟩
          rw [ht, cplace_zero, ones_append]
          rfl
      · refine b_skip (b := decide ((1 : Int) = 0)) e' (by walk_at "ev") (fun H5 e5 => ?_)
        refine b_aug (a := (ones (xs.take i) : Int)) e5 rfl ev_c fun H6 e6 => ?_
        refine b_asg e6 (v := .int (bin (i + 1) (ones (xs.take i) + 1))) ?_ fun H7 e7 => ?_
        · rw [← bin_one_div i (ones (xs.take i))]
          walk_at "ev"
        refine l_asg e7 (v := .int ((bin (i + 1) (ones (xs.take i) + 1) : Int) - 1 - cplace (xs.take i))) (by walk_at "ev") fun H8 e8 => ⟨some (.int (i : Int)), some (.int 1), ?_, hi, e8⟩
        rw [ht, cplace_one, tl, ones_append]
        rfl
    · rintro σ' H' ⟨u, v, rfl, hin, e'⟩
      rw [List.length_map, List.take_length]
      exact b_ret e' (ev_var rfl) (q hr)
/-! #### Listing.leap -/
theorem sc_Listing_leap : FnScope N_Listing_leap P_Listing_leap (defScope s_Listing_leap) := ⟨rfl, rfl, rfl, by decide +kernel, rfl, by decide +kernel, by decide +kernel⟩
def sp_Listing_leap_C (T : Txt K mg) : Sp := fun vs H Q E => ∃ (o a : Addr) (n k : Nat) (xs : List Int) (d : Int), vs = [.ref o, .ref a, .int d] ∧ CForm n k ∧ IsC T H o n k ∧ SqL K H a (xs.map V.int) ∧ xs.length ≤ 10000 ∧
  (CRow n k xs → RetL ((crow n k ((cplace xs + d) % (bin n k : Int))).map V.int) H Q) ∧ (¬ CRow n k xs → RetX T.c_NoRow H E)
theorem el_Cleap {T : Txt K mg} {σ : L2.St} {H : Hp} {ta : TE} {tg : TA} {E : XK} {o a : Addr} {n k : Nat} {xs : List Int} {d : Int} {dvs ws : List V} (f : CForm n k) (ho : IsC T H o n k) (hx : SqL K H a (xs.map V.int)) (hr : CRow n k xs) (hv : Ev ta σ H (.ref o)) (ha : EvA tg σ H ws) (hw : ws ++ dvs = [.ref a, .int d]) :
    EvL (tMeth T.c_Choosing "leap" (sp_Listing_leap_C T) dvs E ta tg) σ H ((crow n k ((cplace xs + d) % (bin n k : Int))).map V.int) := by
  obtain ⟨dx, h⟩ := ho
  refine el_meth hv h (cF_m _ _ _) ha fun H1 e Q q => ?_
  rw [hw]
  exact ⟨o, a, n, k, xs, d, rfl, f, ⟨dx, e _ _ h⟩, ex_l e hx, by have := f.2.1; have := hr.1; omega, fun _ => q, fun z => absurd hr z⟩
theorem er_Cleap {T : Txt K mg} {σ : L2.St} {H : Hp} {ta : TE} {tg : TA} {E : XK} {o a : Addr} {n k : Nat} {xs : List Int} {d : Int} {dvs ws : List V} (f : CForm n k) (ho : IsC T H o n k) (hx : SqL K H a (xs.map V.int)) (hl : xs.length ≤ 10000) (hm : ¬ CRow n k xs) (he : RetX T.c_NoRow H E) (hv : Ev ta σ H (.ref o)) (ha : EvA tg σ H ws) (hw : ws ++ dvs = [.ref a, .int d]) :
    EvR (tMeth T.c_Choosing "leap" (sp_Listing_leap_C T) dvs E ta tg) σ H := by
  obtain ⟨dx, h⟩ := ho
  refine er_meth hv h (cF_m _ _ _) ha fun H1 e Q => ?_
  rw [hw]
  exact ⟨o, a, n, k, xs, d, rfl, f, ⟨dx, e _ _ h⟩, ex_l e hx, hl, fun z => absurd z hm, fun _ => RetX.mono he e⟩
theorem ok_Listing_leap_C (T : Txt K mg) : FnOk P w K mg base (L2.CX P w) 3 T.a_Listing_leap T.d_Listing_leap P_Listing_leap (sp_Listing_leap_C T) := by
  have G_Choosing_place_of := ok_Choosing_place_of (P := P) (w := w) (base := base) T
  have G_Choosing_row_at := ok_Choosing_row_at (P := P) (w := w) (base := base) T
  refine (T.F_Listing_leap).ok (CX := L2.CX P w) sc_Listing_leap (fun vs H Q E h => ?len) (fun cdv A outer s H vs Q E hr h => ⟨_, (pss_one (ps_ret (pe_meth (pv 0) T.cl_Choosing T.me_Choosing_row_at G_Choosing_row_at (hr.mono (by decide)) T.b_Choosing_row_at .nil (passes_call (W := fun cls d _ H => E cls d H) (E := E) (takes_of rfl rfl rfl rfl) (fun _ _ _ _ h => h)) (pa_cons (pe_op op_mod (pe_op op_add (pe_meth (pv 0) T.cl_Choosing T.me_Choosing_place_of G_Choosing_place_of (hr.mono (by decide)) T.b_Choosing_place_of .nil (passes_call (W := fun cls d _ H => E cls d H) (E := E) (takes_of rfl rfl rfl rfl) (fun _ _ _ _ h => h)) (pa_cons (pv 1) pa_nil)) (pv 2)) (pe_fld (pv 0) (by rfl))) pa_nil)))), ?read⟩)
  case len =>
    obtain ⟨o, a, n, k, xs, d, rfl, _⟩ := h
    rfl
  case read =>
    obtain ⟨o, a, n, k, xs, d, rfl, f, ho, hx, hl, q, qe⟩ := h
    obtain ⟨dx, hO⟩ := id ho
    show tRet _ _ [some (.ref o), some (.ref a), some (.int d)] H
    have m0 := c_pos f
    obtain ⟨r0, r1⟩ := mod_range (cplace xs + d) m0
    by_cases hr : CRow n k xs
    · refine b_retL (Ex.refl H) (el_crow f ho r0 r1 (ev_var rfl) (ea_cons (ev_op (ev_op (ev_Cplace f ho hx hr (ev_var rfl) (by walk_at "ev")) (ev_var rfl) rv_I0) (ev_fld (ev_var rfl) hO T.cl_Choosing T.no_Choosing_size (cF_size _ _ _)) (rv_I m0)) ea_nil)) (q hr)
    · exact b_retR (Ex.refl H) (er_methA (ev_var rfl) hO (cF_m _ _ _) (er_cons1 (er_op1 (er_op1 (er_Cplace f ho hx hl hr (qe hr) (ev_var rfl) (by walk_at "ev"))))))
/-! #### Listing.steps_to -/
theorem sc_Listing_steps_to : FnScope N_Listing_steps_to P_Listing_steps_to (defScope s_Listing_steps_to) := ⟨rfl, rfl, rfl, by decide +kernel, rfl, by decide +kernel, by decide +kernel⟩
def sp_Listing_steps_to_C (T : Txt K mg) : Sp := fun vs H Q E => ∃ (o a b : Addr) (n k : Nat) (xs ys : List Int), vs = [.ref o, .ref a, .ref b] ∧ CForm n k ∧ IsC T H o n k ∧ SqL K H a (xs.map V.int) ∧ SqL K H b (ys.map V.int) ∧ xs.length ≤ 10000 ∧ ys.length ≤ 10000 ∧
  ((CRow n k xs) ∧ (CRow n k ys) → RetV (.int ((cplace ys - cplace xs) % (bin n k : Int))) H Q) ∧ (¬ ((CRow n k xs) ∧ (CRow n k ys)) → RetX T.c_NoRow H E)
theorem ok_Listing_steps_to_C (T : Txt K mg) : FnOk P w K mg base (L2.CX P w) 3 T.a_Listing_steps_to T.d_Listing_steps_to P_Listing_steps_to (sp_Listing_steps_to_C T) := by
  have G_Choosing_place_of := ok_Choosing_place_of (P := P) (w := w) (base := base) T
  refine (T.F_Listing_steps_to).okX sc_Listing_steps_to (fun vs H Q E h => ?len) (fun cdv A outer s H vs Q E hr h => ⟨_, (pss_one (ps_ret (pe_op op_mod (pe_op op_sub (pe_meth (pv 0) T.cl_Choosing T.me_Choosing_place_of G_Choosing_place_of (hr.mono (by decide)) T.b_Choosing_place_of .nil (passes_call (W := fun cls d _ H => E cls d H) (E := E) (takes_of rfl rfl rfl rfl) (fun _ _ _ _ h => h)) (pa_cons (pv 2) pa_nil)) (pe_meth (pv 0) T.cl_Choosing T.me_Choosing_place_of G_Choosing_place_of (hr.mono (by decide)) T.b_Choosing_place_of .nil (passes_call (W := fun cls d _ H => E cls d H) (E := E) (takes_of rfl rfl rfl rfl) (fun _ _ _ _ h => h)) (pa_cons (pv 1) pa_nil))) (pe_fld (pv 0) (by rfl))))), ?read⟩)
  case len =>
    obtain ⟨o, a, b, n, k, xs, ys, rfl, _⟩ := h
    rfl
  case read =>
    obtain ⟨o, a, b, n, k, xs, ys, rfl, f, ho, hx, hy, lx, ly, q, qe⟩ := h
    obtain ⟨dx, hO⟩ := id ho
    show tRet _ _ [some (.ref o), some (.ref a), some (.ref b)] H
    have m0 := c_pos f
    by_cases hy1 : CRow n k ys
    · by_cases hx1 : CRow n k xs
      · exact b_ret (Ex.refl H) (ev_op (ev_op (ev_Cplace f ho hy hy1 (ev_var rfl) (by walk_at "ev")) (ev_Cplace f ho hx hx1 (ev_var rfl) (by walk_at "ev")) rv_I0) (ev_fld (ev_var rfl) hO T.cl_Choosing T.no_Choosing_size (cF_size _ _ _)) (rv_I m0)) (q ⟨hx1, hy1⟩)
      · exact b_retR (Ex.refl H) (er_op1 (er_op2 (ev_Cplace f ho hy hy1 (ev_var rfl) (by walk_at "ev")) (er_Cplace f ho hx lx hx1 (qe fun z => hx1 z.1) (ev_var rfl) (by walk_at "ev"))))
    · exact b_retR (Ex.refl H) (er_op1 (er_op1 (er_Cplace f ho hy ly hy1 (qe fun z => hy1 z.2) (ev_var rfl) (by walk_at "ev"))))
/-! #### _law_whole -/
theorem sc_law_whole : FnScope N_law_whole P_law_whole (defScope s_law_whole) := ⟨rfl, rfl, rfl, by decide +kernel, rfl, by decide +kernel, by decide +kernel⟩
/-- whether an int is found -/
def sp_law_whole (_ : Txt K mg) : Sp := fun vs H Q _ => ∃ (n : Int), vs = [.int n] ∧ RetV (.bl true) H Q
theorem ev_whole {T : Txt K mg} {σ : L2.St} {H : Hp} {tg : TA} {E : XK} {n : Int} (ha : EvA tg σ H [.int n]) : Ev (tCall (sp_law_whole T) [] E tg) σ H (.bl true) :=
  ev_callF ha fun _ _ _ q => ⟨n, rfl, q⟩
local macro_rules | `(tactic| walk_at "ev") => `(tactic| ((with_reducible apply ev_whole); walk_at "ev"))
theorem ok_law_whole (T : Txt K mg) : FnOk P w K mg base CX0 1 T.a_law_whole T.d_law_whole P_law_whole (sp_law_whole T) := by
  refine (T.F_law_whole).ok sc_law_whole (fun vs H Q E h => ?len) (fun cdv A outer s H vs Q E hr h => ⟨_, (pss_one (ps_ret (pe_and (pe_callB call_isi (by rfl) T.g_isinstance boot_isinstance (pa_cons (pv 0) (pa_cons (pe_bltn (v := .ty "int") rfl T.g_int boot_int rfl) pa_nil))) (pe_one (pe_not (pe_callB call_isi (by rfl) T.g_isinstance boot_isinstance (pa_cons (pv 0) (pa_cons (pe_bltn (v := .ty "bool") rfl T.g_bool boot_bool rfl) pa_nil)))))))), ?read⟩)
  case len =>
    obtain ⟨n, rfl, _⟩ := h
    rfl
  case read =>
    obtain ⟨n, rfl, q⟩ := h
    refine s_ret (v := .bl (true && !false)) ?_ q
    refine ev_andV (ev_isi (ea_cons (ev_var rfl) (ea_cons ev_c ea_nil)) (.int n) (kit_ty (by decide +kernel))) fun _ => ev_notV (ev_isi (ea_cons (ev_var rfl) (ea_cons ev_c ea_nil)) (.int n) (kit_ty (by decide +kernel)))
/-! #### _law_has -/
theorem sc_law_has : FnScope N_law_has P_law_has (defScope s_law_has) := ⟨rfl, rfl, rfl, by decide +kernel, rfl, by decide +kernel, by decide +kernel⟩
theorem given_true (m : Nat) : given m (fun _ => true) (fun _ => V.bl true) = (List.replicate m true).map V.bl := by
  unfold given
  rw [List.filter_eq_self.mpr (fun _ _ => rfl), List.map_replicate]
  apply List.ext_getElem?
  intro i
  rw [List.getElem?_map]
  by_cases h : i < m
  · rw [List.getElem?_range h, List.getElem?_replicate, if_pos h]
    rfl
  · rw [List.getElem?_eq_none (by simpa using h), List.getElem?_eq_none (by simpa using h)]
    rfl
def sp_law_has (_ : Txt K mg) : Sp := fun vs H Q _ => ∃ (t : Addr) (w : Str) (js : List Int) (n : Int), vs = [.ref t, .str w, .int ((js.length : Int) + 1), .int n] ∧ H t = some (.tup (.str w :: js.map V.int)) ∧ js.length ≤ 5 ∧ (∀ j ∈ js, 0 ≤ j ∧ j < n) ∧ RetV (.bl true) H Q
theorem ev_has {T : Txt K mg} {σ : L2.St} {H : Hp} {tg : TA} {E : XK} {t : Addr} {w : Str} {js : List Int} {n : Int} (ht : H t = some (.tup (.str w :: js.map V.int))) (hl : js.length ≤ 5) (hj : ∀ j ∈ js, 0 ≤ j ∧ j < n) (ha : EvA tg σ H [.ref t, .str w, .int ((js.length : Int) + 1), .int n]) : Ev (tCall (sp_law_has T) [] E tg) σ H (.bl true) :=
  ev_callF ha fun _ e _ q => ⟨t, w, js, n, rfl, e _ _ ht, hl, hj, q⟩
theorem ok_law_has (T : Txt K mg) : FnOk P w K mg base CX0 2 T.a_law_has T.d_law_has P_law_has (sp_law_has T) := by
  have G_law_whole := ok_law_whole (P := P) (w := w) (base := base) T
  refine (T.F_law_has).ok sc_law_has (fun vs H Q E h => ?len) (fun cdv A outer s H vs Q E hr h => ⟨_, (pss_cons (ps_if (PW.pt (pw_or (pt_not (pt_val (pe_callB call_isi (by rfl) T.g_isinstance boot_isinstance (pa_cons (pv 0) (pa_cons (pe_bltn (v := .ty "tuple") rfl T.g_tuple boot_tuple rfl) pa_nil))))) (pw_or (pt_cmpR op_ne (pe_callB call_len_seq (by rfl) T.g_len boot_len (pa_cons (pv 0) pa_nil)) (pv 2) (nomark _)) (pw_or (pt_not (pt_val (pe_callB call_isi (by rfl) T.g_isinstance boot_isinstance (pa_cons (pe_ix ix_tup (pv 0) pe_int (fun _ _ => rfl)) (pa_cons (pe_bltn (v := .ty "str") rfl T.g_str boot_str rfl) pa_nil))))) (pw_or1 (pt_cmpR op_ne (pe_ix ix_tup (pv 0) pe_int (fun _ _ => rfl)) (pv 1) (nomark _))))))) (pss_one (ps_ret pe_bl)) pss_nil)
    (pss_one (ps_ret (pe_callB (cr_all rfl) (by rfl) T.g_all boot_all (pa_cons (pe_lc (own := [("_law_k", 4)]) (g := (gName 4)) rfl sc_law_has.nd (pi_range2 rfl T.g_range (pa_cons pe_int (pa_cons (pv 2) pa_nil))) (blkOk_by (N := N_law_has) (sc := defScope s_law_has) (by decide +kernel)) (fun _ _ _ _ _ => pg_name (i := 4) sc_law_has.nd rfl (Or.inl rfl)) (fun _ _ _ _ _ => pts_nil) (fun _ _ _ _ _ => (pe_and (pe_call G_law_whole (hr.mono (by decide)) (by rfl) T.m_law_whole T.F_law_whole.kp T.b_law_whole .nil pass0 (pa_cons (pe_ix (ix_tupK (K := K)) (pv 0) (pv 4) (fun _ _ => rfl)) pa_nil)) (pe_and (pe_cmpR op_le pe_int (pe_ix (ix_tupK (K := K)) (pv 0) (pv 4) (fun _ _ => rfl)) (nomark _)) (pe_one (pe_cmpR op_lt (pe_ix (ix_tupK (K := K)) (pv 0) (pv 4) (fun _ _ => rfl)) (pv 3) (nomark _))))))) pa_nil))))), ?read⟩)
  case len =>
    obtain ⟨t, w, js, n, rfl, _⟩ := h
    rfl
  case read =>
    obtain ⟨t, w, js, n, rfl, ht, hl, hj, q⟩ := h
    show tSeq _ _ _ [some (.ref t), some (.str w), some (.int ((js.length : Int) + 1)), some (.int n), none] H
    have hs : SqT K H t (.str w :: js.map V.int) := st_of ht
    have i0 : Ev (tOp (rIxT K) (tVar 0) (tC (.int 0))) [some (.ref t), some (.str w), some (.int ((js.length : Int) + 1)), some (.int n), none] H (.str w) := ev_op (ev_var rfl) ev_c (rv_ixT hs (atI_nat (j := 0) rfl))
    refine b_skip (b := !true || (!decide ((js.length : Int) + 1 = (js.length : Int) + 1) || (!true || !decide (V.str w = V.str w)))) (Ex.refl H) (et_or (et_not (et_B (ev_isi (by walk_at "ev") (.tup ht) (kit_ty (by decide +kernel))))) fun _ => et_or (et_test (ev_op (ev_is (ev_lenT (ev_var rfl) hs) (by simp)) (ev_var rfl) rv_neI)) fun _ => et_or (et_not (et_B (ev_isi (ea_cons i0 (ea_cons ev_c ea_nil)) (.str _) (kit_ty (by decide +kernel))))) fun _ => et_test (ev_op i0 (ev_var rfl) (rv_ne rfl))) (fun H1 e => ?_) (by simp)
    have hlc := el_lcR2 (H := H) (σ := [some (.ref t), some (.str w), some (.int ((js.length : Int) + 1)), some (.int n), none]) (j := 4) (vs := [4]) (ta := tCons (tC (.int 1)) (tCons (tVar 2) tNil)) (t := tYes) (n := (js.length : Int) + 1) (fun _ => true) (fun _ => V.bl true)
      (te := tAndV (tCall (sp_law_whole T) [] E0 (tCons (tOp (rIxT K) (tVar 0) (tVar 4)) tNil)) (tAndV (tOp (rI0 fun i j => .bl (decide (i ≤ j))) (tC (.int 0)) (tOp (rIxT K) (tVar 0) (tVar 4))) (tOp (rI0 fun i j => .bl (decide (i < j))) (tOp (rIxT K) (tVar 0) (tVar 4)) (tVar 3))))
      (by walk_at "ev") ⟨by omega, by omega⟩ (fun _ => rfl) (fun i H1 _ _ => fun H2 _ Q q => q H2 (Ex.refl H2)) (fun i H1 e1 hi _ => by
        have hi' : i < js.length := by omega
        have hx : Ev (tOp (rIxT K) (tVar 0) (tVar 4)) ((wipe [some (.ref t), some (.str w), some (.int ((js.length : Int) + 1)), some (.int n), none] [4]).set 4 (some (V.int ((1 : Int) + i)))) H1 (.int js[i]) := ev_op (ev_var rfl) (ev_var rfl) (rv_ixT (ex_t e1 hs) (by
          rw [show (1 : Int) + i = ((i + 1 : Nat) : Int) by omega]
          exact atI_nat (by rw [List.getElem?_cons_succ]; exact int_at hi')))
        obtain ⟨j0, j1⟩ := hj js[i] (List.getElem_mem hi')
        refine ev_is (ev_andV (ev_whole (ea_cons hx ea_nil)) fun _ => ev_andV (ev_op ev_c hx rv_I0) fun _ => ev_op hx (ev_var rfl) rv_I0) ?_
        rw [decide_eq_true j0, decide_eq_true j1]
        rfl)
    rw [given_true] at hlc
    refine b_ret e (ev_is (ev_allL hlc) ?_) q
    congr 1
    simp
/-! #### _law_changed -/
theorem sc_law_changed : FnScope N_law_changed P_law_changed (defScope s_law_changed) := ⟨rfl, rfl, rfl, by decide +kernel, rfl, by decide +kernel, by decide +kernel⟩
def sp_law_changed (_ : Txt K mg) : Sp := fun vs H Q _ => ∃ (r : Addr) (v : V) (c : Ch) (d : Kd) (u : Int) (xs ys : List Int), vs = [.ref r, v, .int d.sg, onV d, .int u] ∧ d.ok ∧ H r = some (.lst (xs.map V.int)) ∧ xs.length ≤ 200 ∧ ChT H v c ∧ Mv d u c xs ys ∧ RetL (ys.map V.int) H Q
theorem el_changed {T : Txt K mg} {σ : L2.St} {H : Hp} {tr tc : TE} {tg : TA} {E : XK} {r : Addr} {d : Kd} {u : Int} {xs ys : List Int} {P : Ch → Prop} (hk : d.ok) (hr : H r = some (.lst (xs.map V.int))) (hl : xs.length ≤ 200) (hm : ∀ c, P c → Mv d u c xs ys) (h1 : Ev tr σ H (.ref r)) (h2 : EvCh tc σ H P) (h3 : ∀ H1, Ex H H1 → EvA tg σ H1 [.int d.sg, onV d, .int u]) :
    EvL (tCall (sp_law_changed T) [] E (tCons tr (tCons tc tg))) σ H (ys.map V.int) := fun H1 e Q q =>
  h1 H1 e _ fun H2 e2 => h2 H2 (e.trans e2) _ fun c hc v H3 e3 hv => h3 H3 ((e.trans e2).trans e3) H3 (Ex.refl H3) _ fun H4 e4 => ⟨r, v, c, d, u, xs, ys, rfl, hk, (((e.trans e2).trans e3).trans e4) _ _ hr, hl, hv.mono e4, hm c hc, fun p H5 hp e5 h5 => q p H5 (fresh_back ((e2.trans e3).trans e4) hp) (((e2.trans e3).trans e4).trans e5) h5⟩
theorem ok_law_changed (T : Txt K mg) : FnOk P w K mg base CX0 3 T.a_law_changed T.d_law_changed P_law_changed (sp_law_changed T) := by
  have G_law_has := ok_law_has (P := P) (w := w) (base := base) T
  refine (T.F_law_changed).ok sc_law_changed (fun vs H Q E h => ?len) (fun cdv A outer s H vs Q E hr h => ⟨_, (pss_cons (ps_set (i := 5) sc_law_changed.nd rfl (Or.inl rfl) (pe_callTy call_list_of (by rfl) T.g_list boot_list (pa_cons (pv 0) pa_nil)))
    (pss_cons (ps_if (pt_cmpR op_isN (pv 1) pe_non (nomark _)) (pss_one (ps_ret (pv 5))) pss_nil)
    (pss_cons (ps_if (pt_cmpR op_isN (pv 3) pe_non (nomark _)) (pss_cons (ps_if (pt_not (pt_val (pe_call G_law_has (hr.mono (by decide)) (by rfl) T.m_law_has T.F_law_has.kp T.b_law_has .nil pass0 (pa_cons (pv 1) (pa_cons pe_str (pa_cons pe_int (pa_cons (pe_callB call_len_seq (by rfl) T.g_len boot_len (pa_cons (pv 0) pa_nil)) pa_nil))))))) (pss_one (ps_ret pe_non)) pss_nil)
    (pss_cons (ps_asg (pe_op op_mod (pe_op op_add (pe_ix ix_list (pv 5) (pe_ix ix_tup (pv 1) pe_int (fun _ _ => rfl)) (fun _ _ => rfl)) (pv 4)) (pv 2)) (pg_sub (pv 5) (pe_ix ix_tup (pv 1) pe_int (fun _ _ => rfl)) set_list))
    (pss_one (ps_ret (pv 5))))) pss_nil)
    (pss_cons (ps_if (pt_not (pt_val (pe_call G_law_has (hr.mono (by decide)) (by rfl) T.m_law_has T.F_law_has.kp T.b_law_has .nil pass0 (pa_cons (pv 1) (pa_cons pe_str (pa_cons pe_int (pa_cons (pe_callB call_len_seq (by rfl) T.g_len boot_len (pa_cons (pv 0) pa_nil)) pa_nil))))))) (pss_one (ps_ret pe_non)) pss_nil)
    (pss_cons (ps_set (i := 6) sc_law_changed.nd rfl (Or.inl rfl) (pe_ix ix_tup (pv 1) pe_int (fun _ _ => rfl)))
    (pss_cons (ps_set (i := 7) sc_law_changed.nd rfl (Or.inl rfl) (pe_ix ix_tup (pv 1) pe_int (fun _ _ => rfl)))
    (pss_cons (ps_if (pt_cmpR op_lt (pv 4) pe_int (nomark _)) (pss_cons (ps_set (i := 6) sc_law_changed.nd rfl (Or.inl rfl) (pe_ix ix_tup (pv 1) pe_int (fun _ _ => rfl)))
    (pss_one (ps_set (i := 7) sc_law_changed.nd rfl (Or.inl rfl) (pe_ix ix_tup (pv 1) pe_int (fun _ _ => rfl))))) pss_nil)
    (pss_cons (ps_if (PW.pt (pw_or (pt_cmpR op_ne (pe_ix ix_list (pv 0) (pv 6) (fun _ _ => rfl)) pe_int (nomark _)) (pw_or1 (pt_cmpR op_ne (pe_ix ix_list (pv 0) (pv 7) (fun _ _ => rfl)) pe_int (nomark _))))) (pss_one (ps_ret pe_non)) pss_nil)
    (pss_cons (ps_asg pe_int (pg_sub (pv 5) (pv 6) set_list))
    (pss_cons (ps_asg pe_int (pg_sub (pv 5) (pv 7) set_list))
    (pss_one (ps_ret (pv 5))))))))))))), ?read⟩)
  case len =>
    obtain ⟨r, v, c, d, u, xs, ys, rfl, _⟩ := h
    rfl
  case read =>
    obtain ⟨r, v, c, d, u, xs, ys, rfl, hk, hr, hl, hc, hm, q⟩ := h
    show tSeq _ _ _ [some (.ref r), some v, some (.int d.sg), some (onV d), some (.int u), none, none, none] H
    refine b_asgL (Ex.refl H) (el_list (ev_var rfl) (sq_of hr)) fun l H1 nl e hlst => ?_
    have hc1 := hc.mono e
    have hr1 := e _ _ hr
    have hlen : ∀ {σ : L2.St} {H2 : Hp}, Ex H1 H2 → σ[0]? = some (some (V.ref r)) → Ev (tCB (rLenS K) (tCons (tVar 0) tNil)) σ H2 (.int xs.length) := fun e h => ev_is (ev_len (ev_var h) (sq_of (e _ _ hr1))) (by rw [List.length_map])
    cases c with
    | non =>
      obtain rfl : v = .non := hc
      have hy : ys = xs := by
        cases d <;> exact hm
      subst hy
      refine b_when (Ex.refl H1) (et_test (ev_op (ev_var rfl) ev_c (rv_isNb (b := true) rfl))) (fun _ H3 e3 => ?_) (fun hb => by cases hb)
      exact s_ret (ev_var rfl) fun H4 e4 => q l H4 nl ((e.trans e3).trans e4) (e4 _ _ (e3 _ _ hlst))
    | turn j =>
      obtain ⟨t, rfl, ht⟩ := hc1
      cases d with
      | C n k => exact absurd hm id
      | T s n =>
        obtain ⟨j', rfl, hj, rfl⟩ := hm
        have hs0 : 0 < s := by have := hk.1; omega
        have hs := st_of (K := K) ht
        have g1 : xs.getD j' 0 = xs[j'] := by simp [hj]
        rw [g1] at q
        refine b_skip (Ex.refl H1) (et_test (ev_op (ev_var rfl) ev_c (rv_isNb (b := false) rfl))) (fun H3 e3 => ?_)
        refine b_when e3 (et_test (ev_op (ev_var rfl) ev_c (rv_isNb (b := true) rfl))) (fun _ H4 e4 => ?_) (fun hb => by cases hb)
        refine b_skip (b := !true) e4 (et_not (et_B (ev_has (js := [(j' : Int)]) ht (by simp) (by intro z hz; rw [List.mem_singleton.mp hz]; exact ⟨by omega, show (j' : Int) < xs.length by omega⟩) (ea_cons (ev_var rfl) (ea_cons ev_c (ea_cons ev_c (ea_cons (hlen (Ex.refl H1) rfl) ea_nil))))))) (fun H5 e5 => ?_)
        have h1 : ∀ {σ : L2.St}, σ[1]? = some (some (V.ref t)) → Ev (tOp (rIxT K) (tVar 1) (tC (.int 1))) σ H1 (.int j') := fun h => ev_op (ev_var h) ev_c (rv_ixT hs (at_of (j := 1) rfl rfl))
        refine q_setL (v := .int ((xs[j'] + u) % s)) (j := j') (e5 _ _ hlst) (Ev.mono e5 (ev_op (ev_op (ev_op (ev_var rfl) (h1 rfl) (rv_ixL (sq_of hlst) (atI_nat (int_at hj)))) (ev_var rfl) rv_I0) (ev_var rfl) (rv_I hs0))) (ev_var rfl) ((h1 rfl).mono e5) (by rw [List.length_map]; exact hj) fun H6 e6 => ?_
        refine s_ret (ev_var rfl) fun H7 e7 => q l H7 nl ((Ex.mut ((e.trans e5).trans e6) nl).trans e7) (e7 _ _ ?_)
        rw [upd_same, List.map_set]
    | swap i j =>
      obtain ⟨t, rfl, ht⟩ := hc1
      cases d with
      | T s n => exact absurd hm id
      | C n k =>
        obtain ⟨i', j', rfl, rfl, hsw⟩ := hm
        have hs := st_of (K := K) ht
        have hb0 : i' < xs.length ∧ j' < xs.length := by
          by_cases hu : u < 0
          · rw [if_pos hu] at hsw
            exact ⟨hsw.lt.2, hsw.lt.1⟩
          · rw [if_neg hu] at hsw
            exact hsw.lt
        have h1 : ∀ {σ : L2.St}, σ[1]? = some (some (V.ref t)) → Ev (tOp (rIxT K) (tVar 1) (tC (.int 1))) σ H1 (.int i') := fun h => ev_op (ev_var h) ev_c (rv_ixT hs (at_of (j := 1) rfl rfl))
        have h2 : ∀ {σ : L2.St}, σ[1]? = some (some (V.ref t)) → Ev (tOp (rIxT K) (tVar 1) (tC (.int 2))) σ H1 (.int j') := fun h => ev_op (ev_var h) ev_c (rv_ixT hs (at_of (j := 2) rfl rfl))
        refine b_skip (Ex.refl H1) (et_test (ev_op (ev_var rfl) ev_c (rv_isNb (b := false) rfl))) (fun H3 e3 => ?_)
        refine b_skip e3 (et_test (ev_op (ev_var rfl) ev_c (rv_isNb (b := false) rfl))) (fun H4 e4 => ?_)
        refine b_skip (b := !true) e4 (et_not (et_B (ev_has (js := [(i' : Int), (j' : Int)]) ht (by simp) (by intro z hz; simp at hz; rcases hz with rfl | rfl <;> exact ⟨by omega, show _ < (xs.length : Int) by omega⟩) (ea_cons (ev_var rfl) (ea_cons ev_c (ea_cons ev_c (ea_cons (hlen (Ex.refl H1) rfl) ea_nil))))))) (fun H5 e5 => ?_)
        refine b_asg e5 (v := .int i') (h1 rfl) fun H5 e5 => ?_
        refine b_asg e5 (v := .int j') (h2 rfl) fun H6 e6 => ?_
        refine b_when (b := decide (u < 0)) e6 (by walk_at "ev") (fun hb H7 e7 => ?_) (fun hb H7 e7 => ?_)
        focus
          refine b_asg e7 (v := .int j') (h2 rfl) fun H8 e8 => ?_
          refine e_asg e8 (v := .int i') (h1 rfl) fun H7 e7 => ?_
          rw [if_pos (of_decide_eq_true hb)] at hsw
          show tSeq _ _ _ [some (.ref r), some (.ref t), some (.int 2), some (.int k), some (.int u), some (.ref l), some (.int j'), some (.int i')] H7
          clear h1 h2 hs ht hb0 hc
          generalize j' = a at hsw ⊢
          generalize i' = b at hsw ⊢
        rotate_left
        focus
          rw [if_neg (of_decide_eq_false hb)] at hsw
          show tSeq _ _ _ [some (.ref r), some (.ref t), some (.int 2), some (.int k), some (.int u), some (.ref l), some (.int i'), some (.int j')] H7
          clear h1 h2 hs ht hb0 hc
          generalize i' = a at hsw ⊢
          generalize j' = b at hsw ⊢
        all_goals
          refine b_skip (b := !decide ((1 : Int) = 1) || !decide ((0 : Int) = 0)) e7 (et_or (et_test (ev_op (ev_op (ev_var rfl) (ev_var rfl) (rv_ixL (sq_of hr1) (atI_nat (by rw [List.getElem?_map, hsw.i1]; rfl)))) ev_c rv_neI)) fun _ => et_test (ev_op (ev_op (ev_var rfl) (ev_var rfl) (rv_ixL (sq_of hr1) (atI_nat (by rw [List.getElem?_map, hsw.j0]; rfl)))) ev_c rv_neI)) (fun H8 e8 => ?_)
          refine q_setL (v := .int 0) (j := a) (e8 _ _ hlst) ev_c (ev_var rfl) (ev_var rfl) (by rw [List.length_map]; exact hsw.lt.1) fun H9 e9 => ?_
          refine q_setL (v := .int 1) (j := b) upd_same ev_c (ev_var rfl) (ev_var rfl) (by rw [List.length_set, List.length_map]; exact hsw.lt.2) fun H10 e10 => ?_
          refine s_ret (ev_var rfl) fun H11 e11 => q l H11 nl ((Ex.mut ((Ex.mut ((e.trans e8).trans e9) nl).trans e10) nl).trans e11) (e11 _ _ ?_)
          rw [upd_same, hsw.eq]
          unfold swapped
          rw [List.map_set, List.map_set]
/-! #### _law_any -/
theorem sc_law_any : FnScope N_law_any P_law_any (defScope s_law_any) := ⟨rfl, rfl, rfl, by decide +kernel, rfl, by decide +kernel, by decide +kernel⟩
theorem given_spot {l : List Int} {c : Int} {i n : Nat} (hl : l.length = n) (hi : i < l.countP fun m => decide (m = c)) : ∃ s : Nat, l[s]? = some c ∧ (given n (fun k => decide (l.getD k 0 = c)) (fun k => V.int (k : Int)))[i]? = some (V.int (s : Int)) := by
  obtain ⟨s, h1, h2⟩ := spot_of hi
  subst hl
  refine ⟨s, h1, ?_⟩
  unfold given
  rw [List.getElem?_map, h2]
  rfl
theorem given_many {l : List Int} {c : Int} {n : Nat} (hl : l.length = n) : (given n (fun k => decide (l.getD k 0 = c)) (fun k => V.int (k : Int))).length = l.countP fun m => decide (m = c) := by
  subst hl
  unfold given
  rw [List.length_map, spots_len (fun m => decide (m = c))]
def sp_law_any (_ : Txt K mg) : Sp := fun vs H Q _ => ∃ (r : Addr) (z : Int) (d : Kd) (xs : List Int), vs = [.ref r, .int z, .int d.sg, onV d] ∧ d.ok ∧ H r = some (.lst (xs.map V.int)) ∧ d.row xs ∧ ∀ ys, d.row ys → RetL (ys.map V.int) H Q
theorem els_any {T : Txt K mg} {σ : L2.St} {H : Hp} {tg : TA} {E : XK} {r : Addr} {z : Int} {d : Kd} {xs : List Int} (hk : d.ok) (hr : H r = some (.lst (xs.map V.int))) (hx : d.row xs) (ha : EvA tg σ H [.ref r, .int z, .int d.sg, onV d]) : EvLS (tCall (sp_law_any T) [] E tg) σ H d.row :=
  els_callF ha fun _ e _ q => ⟨r, z, d, xs, rfl, hk, e _ _ hr, hx, q⟩
theorem ok_law_any (T : Txt K mg) : FnOk P w K mg base CX0 4 T.a_law_any T.d_law_any P_law_any (sp_law_any T) := by
  have G_law_changed := ok_law_changed (P := P) (w := w) (base := base) T
  refine (T.F_law_any).ok sc_law_any (fun vs H Q E h => ?len) (fun cdv A outer s H vs Q E hr h => ⟨_, (pss_cons (ps_if (pt_cmpR op_isN (pv 3) pe_non (nomark _)) (pss_cons (ps_if (pt_cmpR op_eq (pe_callB call_len_seq (by rfl) T.g_len boot_len (pa_cons (pv 0) pa_nil)) pe_int (nomark _)) (pss_one (ps_ret (pe_callTy call_list_of (by rfl) T.g_list boot_list (pa_cons (pv 0) pa_nil)))) pss_nil)
    (pss_one (ps_ret (pe_call G_law_changed (hr.mono (by decide)) (by rfl) T.m_law_changed T.F_law_changed.kp T.b_law_changed .nil pass0 (pa_cons (pv 0) (pa_cons (pe_tup (pa_cons pe_str (pa_cons (pe_op op_mod (pv 1) (pe_callB call_len_seq (by rfl) T.g_len boot_len (pa_cons (pv 0) pa_nil))) pa_nil))) (pa_cons (pv 2) (pa_cons pe_non (pa_cons (pe_op op_add pe_int (pe_op op_mod (pe_op op_fdivW (pv 1) pe_int) (pv 2))) pa_nil))))))))) pss_nil)
    (pss_cons (ps_setLc (i := 4) (own := [("_law_k", 5)]) (g := (gName 5)) rfl sc_law_any.nd rfl rfl (sw_true rfl rfl rfl (by decide +kernel)) (pi_range1 rfl T.g_range (pa_cons (pe_callB call_len_seq (by rfl) T.g_len boot_len (pa_cons (pv 0) pa_nil)) pa_nil)) (blkOk_by (N := N_law_any) (sc := defScope s_law_any) (by decide +kernel)) (fun _ _ _ _ _ => pg_name (i := 5) sc_law_any.nd rfl (Or.inl rfl)) (fun _ _ _ _ _ => (pts_one (pt_cmpR op_eq (pe_ix (ix_listK (K := K)) (pv 0) (pv 5) (fun _ _ => rfl)) pe_int (nomark _)))) (fun _ _ _ _ _ => (pv 5)))
    (pss_cons (ps_setLc (i := 6) (own := [("_law_k", 5)]) (g := (gName 5)) rfl sc_law_any.nd rfl rfl (sw_true rfl rfl rfl (by decide +kernel)) (pi_range1 rfl T.g_range (pa_cons (pe_callB call_len_seq (by rfl) T.g_len boot_len (pa_cons (pv 0) pa_nil)) pa_nil)) (blkOk_by (N := N_law_any) (sc := defScope s_law_any) (by decide +kernel)) (fun _ _ _ _ _ => pg_name (i := 5) sc_law_any.nd rfl (Or.inl rfl)) (fun _ _ _ _ _ => (pts_one (pt_cmpR op_eq (pe_ix (ix_listK (K := K)) (pv 0) (pv 5) (fun _ _ => rfl)) pe_int (nomark _)))) (fun _ _ _ _ _ => (pv 5)))
    (pss_cons (ps_if (PW.pt (pw_or (pt_cmpR op_eq (pe_callB call_len_seq (by rfl) T.g_len boot_len (pa_cons (pv 4) pa_nil)) pe_int (nomark _)) (pw_or1 (pt_cmpR op_eq (pe_callB call_len_seq (by rfl) T.g_len boot_len (pa_cons (pv 6) pa_nil)) pe_int (nomark _))))) (pss_one (ps_ret (pe_callTy call_list_of (by rfl) T.g_list boot_list (pa_cons (pv 0) pa_nil)))) pss_nil)
    (pss_one (ps_ret (pe_call G_law_changed (hr.mono (by decide)) (by rfl) T.m_law_changed T.F_law_changed.kp T.b_law_changed .nil pass0 (pa_cons (pv 0) (pa_cons (pe_tup (pa_cons pe_str (pa_cons (pe_ix ix_list (pv 4) (pe_op op_mod (pv 1) (pe_callB call_len_seq (by rfl) T.g_len boot_len (pa_cons (pv 4) pa_nil))) (fun _ _ => rfl)) (pa_cons (pe_ix ix_list (pv 6) (pe_op op_mod (pe_op op_fdivW (pv 1) pe_int) (pe_callB call_len_seq (by rfl) T.g_len boot_len (pa_cons (pv 6) pa_nil))) (fun _ _ => rfl)) pa_nil)))) (pa_cons pe_int (pa_cons (pv 3) (pa_cons pe_int pa_nil)))))))))))), ?read⟩)
  case len =>
    obtain ⟨r, z, d, xs, rfl, _⟩ := h
    rfl
  case read =>
    obtain ⟨r, z, d, xs, rfl, hk, hr, hx, q⟩ := h
    show tSeq _ _ _ [some (.ref r), some (.int z), some (.int d.sg), some (onV d), none, none, none] H
    have hl := Kd.row_len hx
    have hn := Kd.len_le hk
    have hlen : ∀ {σ : L2.St} {H2 : Hp}, Ex H H2 → σ[0]? = some (some (V.ref r)) → Ev (tCB (rLenS K) (tCons (tVar 0) tNil)) σ H2 (.int xs.length) := fun e h => ev_is (ev_len (ev_var h) (sq_of (e _ _ hr))) (by rw [List.length_map])
    cases d with
    | T s n =>
      have hs0 : 0 < s := by have := hk.1; omega
      refine b_when (Ex.refl H) (et_test (ev_op (ev_var rfl) ev_c (rv_isNb (b := true) rfl))) (fun _ H1 e1 => ?_) (fun hb => by cases hb)
      refine b_when (b := decide ((xs.length : Int) = 0)) e1 (et_test (ev_op (hlen (Ex.refl H) rfl) ev_c rv_eqI)) (fun hb H2 e2 => b_retL e2 (el_list (ev_var rfl) (sq_of hr)) (q xs hx)) (fun hb H2 e2 => ?_)
      have h0 : 0 < (xs.length : Int) := by
        have := of_decide_eq_false hb
        omega
      obtain ⟨a0, a1⟩ := mod_range z h0
      obtain ⟨j, hj⟩ : ∃ j : Nat, z % (xs.length : Int) = j := ⟨(z % (xs.length : Int)).toNat, by omega⟩
      have hj' : j < xs.length := by omega
      obtain ⟨b0, b1⟩ := mod_range (z / 210) hs0
      have hr2 : (Kd.T s n).row (xs.set j ((xs.getD j 0 + (1 + z / 210 % s)) % s)) := ⟨by rw [List.length_set]; exact hx.1, fun m hm => by
        rcases List.mem_or_eq_of_mem_set hm with hm | rfl
        · exact hx.2 m hm
        · exact mod_range _ hs0⟩
      refine b_retL e2 (el_changed (d := .T s n) (u := 1 + z / 210 % s) (P := fun c => c = .turn (j : Int)) hk hr (by omega) (fun c hc => by subst hc; exact ⟨j, rfl, hj', rfl⟩) (ev_var rfl) (ech_turn (j := (j : Int)) (eu_tup (ea_cons ev_c (ea_cons (ev_is (ev_op (ev_var rfl) (hlen (Ex.refl H) rfl) (rv_I h0)) (congrArg V.int hj)) ea_nil)) (by simp)) rfl) fun H1 e => ea_cons (ev_var rfl) (ea_cons ev_c (ea_cons (ev_op ev_c (ev_op (by walk_at "ev") (ev_var rfl) (rv_I hs0)) rv_I0) ea_nil))) (q _ hr2)
    | C n k =>
      have g1 : ∀ {t : Nat}, (h : t < xs.length) → xs.getD t 0 = xs[t] := fun h => by simp [h]
      refine b_skip (Ex.refl H) (et_test (ev_op (ev_var rfl) ev_c (rv_isNb (b := false) rfl))) (fun H1 e1 => ?_)
      refine b_asgL e1 (xs := given xs.length (fun t => decide (xs.getD t 0 = 1)) (fun t => V.int (t : Int))) ?_ fun fl H2 nfl e2 hfl => ?_
      · refine el_lcR1 (n := (xs.length : Int)) (fun t => decide (xs.getD t 0 = 1)) (fun t => V.int (t : Int)) (ea_cons (hlen (Ex.refl H) rfl) ea_nil) ⟨by omega, by omega⟩ (fun _ => rfl) (fun t H1 e1 ht => ?_) (fun t H1 e1 ht _ => ev_var rfl)
        rw [g1 (by omega)]
        exact et_test (ev_op (ev_op (ev_var rfl) (ev_var rfl) (rv_ixL (sq_of (e1 _ _ hr)) (atI_nat (int_at (by omega))))) ev_c rv_eqI)
      have hr2 := e2 _ _ hr
      refine b_asgL (Ex.refl H2) (xs := given xs.length (fun t => decide (xs.getD t 0 = 0)) (fun t => V.int (t : Int))) ?_ fun ba H3 nba e3 hba => ?_
      · refine el_lcR1 (n := (xs.length : Int)) (fun t => decide (xs.getD t 0 = 0)) (fun t => V.int (t : Int)) (ea_cons (hlen e2 rfl) ea_nil) ⟨by omega, by omega⟩ (fun _ => rfl) (fun t H1 e1 ht => ?_) (fun t H1 e1 ht _ => ev_var rfl)
        rw [g1 (by omega)]
        exact et_test (ev_op (ev_op (ev_var rfl) (ev_var rfl) (rv_ixL (sq_of (e1 _ _ hr2)) (atI_nat (int_at (by omega))))) ev_c rv_eqI)
      have hr3 := e3 _ _ hr2
      have hfl3 := e3 _ _ hfl
      have lf := given_many (l := xs) (c := 1) rfl
      have lb := given_many (l := xs) (c := 0) rfl
      generalize hF : given xs.length (fun t => decide (xs.getD t 0 = 1)) (fun t => V.int (t : Int)) = F at *
      generalize hB : given xs.length (fun t => decide (xs.getD t 0 = 0)) (fun t => V.int (t : Int)) = B at *
      have lF' : ∀ {σ : L2.St} {H4 : Hp}, Ex H3 H4 → σ[4]? = some (some (V.ref fl)) → Ev (tCB (rLenS K) (tCons (tVar 4) tNil)) σ H4 (.int F.length) := fun e h => ev_len (ev_var h) (sq_of (e _ _ hfl3))
      have lB' : ∀ {σ : L2.St} {H4 : Hp}, Ex H3 H4 → σ[6]? = some (some (V.ref ba)) → Ev (tCB (rLenS K) (tCons (tVar 6) tNil)) σ H4 (.int B.length) := fun e h => ev_len (ev_var h) (sq_of (e _ _ hba))
      refine b_when (b := decide ((F.length : Int) = 0) || decide ((B.length : Int) = 0)) (Ex.refl H3) (et_or (et_test (ev_op (lF' (Ex.refl H3) rfl) ev_c rv_eqI)) fun _ => et_test (ev_op (lB' (Ex.refl H3) rfl) ev_c rv_eqI)) (fun hb H4 e4 => b_retL e4 (el_list (ev_var rfl) (sq_of hr3)) fun p H5 hp e5 h5 => q xs hx p H5 (fresh_back (e2.trans e3) hp) ((e2.trans e3).trans e5) h5) (fun hb H4 e4 => ?_)
      have hb2 : ¬ (F.length : Int) = 0 ∧ ¬ (B.length : Int) = 0 := by
        rw [Bool.or_eq_false_iff] at hb
        exact ⟨of_decide_eq_false hb.1, of_decide_eq_false hb.2⟩
      have f0 : 0 < (F.length : Int) := by omega
      have b0 : 0 < (B.length : Int) := by omega
      obtain ⟨a0, a1⟩ := mod_range z f0
      obtain ⟨i, hi⟩ : ∃ i : Nat, z % (F.length : Int) = i := ⟨(z % (F.length : Int)).toNat, by omega⟩
      obtain ⟨c0, c1⟩ := mod_range (z / 210) b0
      obtain ⟨j, hj⟩ : ∃ j : Nat, z / 210 % (B.length : Int) = j := ⟨(z / 210 % (B.length : Int)).toNat, by omega⟩
      obtain ⟨s, hs1, hs2⟩ := given_spot (l := xs) (c := 1) (i := i) rfl (by omega)
      obtain ⟨w, hw1, hw2⟩ := given_spot (l := xs) (c := 0) (i := j) rfl (by omega)
      rw [hF] at hs2
      rw [hB] at hw2
      have hsw : SwpAt xs (swapped xs s w) s w := ⟨hs1, hw1, rfl⟩
      have hr2' : (Kd.C n k).row (swapped xs s w) := ⟨by rw [swapped_len]; exact hx.1, hsw.bits hx.2.1, by rw [hsw.ones hx.2.1]; exact hx.2.2⟩
      refine b_retL e4 (el_changed (d := .C n k) (u := 1) (P := fun c => c = .swap (s : Int) (w : Int)) hk hr3 (by omega) (fun c hc => by subst hc; exact ⟨s, w, rfl, rfl, by rw [if_neg (by decide)]; exact hsw⟩) (ev_var rfl) (ech_swap (i := (s : Int)) (j := (w : Int)) (eu_tup (ea_cons ev_c (ea_cons (ev_op (ev_var rfl) (ev_is (ev_op (ev_var rfl) (lF' (Ex.refl H3) rfl) (rv_I f0)) (congrArg V.int hi)) (rv_ixL (sq_of hfl3) (atI_nat hs2))) (ea_cons (ev_op (ev_var rfl) (ev_is (ev_op (by walk_at "ev") (lB' (Ex.refl H3) rfl) (rv_I b0)) (congrArg V.int hj)) (rv_ixL (sq_of hba) (atI_nat hw2))) ea_nil))) (by simp)) rfl) fun H1 e => ea_cons ev_c (ea_cons (ev_var rfl) (ea_cons ev_c ea_nil))) fun p H5 hp e5 h5 => q _ hr2' p H5 (fresh_back (e2.trans e3) hp) ((e2.trans e3).trans e5) h5
/-! #### Listing.row_before -/
theorem sc_Listing_row_before : FnScope N_Listing_row_before P_Listing_row_before (defScope s_Listing_row_before) := ⟨rfl, rfl, rfl, by decide +kernel, rfl, by decide +kernel, by decide +kernel⟩
def sp_Listing_row_before_C (T : Txt K mg) : Sp := fun vs H Q E => ∃ (o a : Addr) (n k : Nat) (xs : List Int), vs = [.ref o, .ref a] ∧ CForm n k ∧ IsC T H o n k ∧ SqL K H a (xs.map V.int) ∧ xs.length ≤ 10000 ∧
  (CRow n k xs → RetL ((crow n k ((cplace xs + -1) % (bin n k : Int))).map V.int) H Q) ∧ (¬ CRow n k xs → RetX T.c_NoRow H E)
theorem el_Cbefore {T : Txt K mg} {σ : L2.St} {H : Hp} {ta : TE} {tg : TA} {E : XK} {o a : Addr} {n k : Nat} {xs : List Int} (f : CForm n k) (ho : IsC T H o n k) (hx : SqL K H a (xs.map V.int)) (hr : CRow n k xs) (hv : Ev ta σ H (.ref o)) (ha : EvA tg σ H [.ref a]) :
    EvL (tMeth T.c_Choosing "row_before" (sp_Listing_row_before_C T) [] E ta tg) σ H ((crow n k ((cplace xs + -1) % (bin n k : Int))).map V.int) := by
  obtain ⟨dx, h⟩ := ho
  exact el_meth hv h (cF_m _ _ _) ha fun H1 e Q q => ⟨o, a, n, k, xs, rfl, f, ⟨dx, e _ _ h⟩, ex_l e hx, by have := f.2.1; have := hr.1; omega, fun _ => q, fun z => absurd hr z⟩
theorem ok_Listing_row_before_C (T : Txt K mg) : FnOk P w K mg base (L2.CX P w) 4 T.a_Listing_row_before T.d_Listing_row_before P_Listing_row_before (sp_Listing_row_before_C T) := by
  have G_Listing_leap_C := ok_Listing_leap_C (P := P) (w := w) (base := base) T
  refine (T.F_Listing_row_before).okX sc_Listing_row_before (fun vs H Q E h => ?len) (fun cdv A outer s H vs Q E hr h => ⟨_, (pss_one (ps_ret (pe_meth (pv 0) T.cl_Choosing T.me_Choosing_leap G_Listing_leap_C (hr.mono (by decide)) T.b_Listing_leap .nil (passes_call (W := fun cls d _ H => E cls d H) (E := E) (takes_of rfl rfl rfl rfl) (fun _ _ _ _ h => h)) (pa_cons (pv 1) (pa_cons (pe_un un_neg pe_int) pa_nil))))), ?read⟩)
  case len =>
    obtain ⟨o, a, n, k, xs, rfl, _⟩ := h
    rfl
  case read =>
    obtain ⟨o, a, n, k, xs, rfl, f, ho, hx, hl, q, qe⟩ := h
    show tRet _ _ [some (.ref o), some (.ref a)] H
    by_cases hr : CRow n k xs
    · exact b_retL (Ex.refl H) (el_Cleap (d := -1) f ho hx hr (ev_var rfl) (by walk_at "ev") rfl) (q hr)
    · exact b_retR (Ex.refl H) (er_Cleap (d := -1) f ho hx hl hr (qe hr) (ev_var rfl) (by walk_at "ev") rfl)
/-! #### _law_leapt -/
theorem sc_law_leapt : FnScope N_law_leapt P_law_leapt (defScope s_law_leapt) := ⟨rfl, rfl, rfl, by decide +kernel, rfl, by decide +kernel, by decide +kernel⟩
theorem okF_C {n k : Nat} (f : CForm n k) : (Kd.C n k).ok := ⟨by have := f.2.2.2; omega, by have := f.2.1; omega⟩
def sp_law_leapt_C (T : Txt K mg) : Sp := fun vs H Q _ => ∃ (o r : Addr) (n k : Nat) (xs : List Int) (t : Int), vs = [.ref o, .ref r, .int t] ∧ CForm n k ∧ IsC T H o n k ∧ H r = some (.lst (xs.map V.int)) ∧ (Kd.C n k).row xs ∧ RetP (((Kd.C n k).on xs t).map V.int) t H Q
theorem ep_leapt_C {T : Txt K mg} {σ : L2.St} {H : Hp} {tg : TA} {E : XK} {o r : Addr} {n k : Nat} {xs : List Int} {t : Int} (f : CForm n k) (ho : IsC T H o n k) (hx : H r = some (.lst (xs.map V.int))) (hr : (Kd.C n k).row xs) (ha : EvA tg σ H [.ref o, .ref r, .int t]) : EvP (tCall (sp_law_leapt_C T) [] E tg) σ H (((Kd.C n k).on xs t).map V.int) t := fun H1 e Q q =>
  ha H1 e _ fun H2 e2 => ⟨o, r, n, k, xs, t, rfl, f, ho.mono (e.trans e2), (e.trans e2) _ _ hx, hr, fun p l H3 hl e3 h1 h2 => q p l H3 (fresh_back e2 hl) (e2.trans e3) h1 h2⟩
theorem ok_law_leapt_C (T : Txt K mg) : FnOk P w K mg base CX0 4 T.a_law_leapt T.d_law_leapt P_law_leapt (sp_law_leapt_C T) := by
  have G_Listing_leap_C := ok_Listing_leap_C (P := P) (w := w) (base := base) T
  refine (T.F_law_leapt).ok sc_law_leapt (fun vs H Q E h => ?len) (fun cdv A outer s H vs Q E hr h => ⟨_, (pss_cons (ps_set (i := 3) sc_law_leapt.nd rfl (Or.inl rfl) (pe_callTy call_list_of (by rfl) T.g_list boot_list (pa_cons (pv 1) pa_nil)))
    (pss_cons (ps_set (i := 4) sc_law_leapt.nd rfl (Or.inl rfl) (pe_meth (pv 0) T.cl_Choosing T.me_Choosing_leap G_Listing_leap_C (hr.mono (by decide)) T.b_Listing_leap .nil passL (pa_cons (pv 3) (pa_cons (pv 2) pa_nil))))
    (pss_cons (ps_if (PW.pt (pw_or (pt_not (pt_val (pe_callB call_isi (by rfl) T.g_isinstance boot_isinstance (pa_cons (pv 4) (pa_cons (pe_bltn (v := .ty "list") rfl T.g_list boot_list rfl) pa_nil))))) (pw_or1 (pt_cmpR (op_neD hr.units) (pv 3) (pv 1) (nomark _))))) (pss_one (ps_ret (pe_tup (pa_cons pe_non (pa_cons pe_int pa_nil))))) pss_nil)
    (pss_cons (ps_set (i := 5) sc_law_leapt.nd rfl (Or.inl rfl) (pe_callTy call_list_of (by rfl) T.g_list boot_list (pa_cons (pv 4) pa_nil)))
    (pss_cons (ps_expr (pe_bm PySem.F.plainAttrs_list PySem.F.slot_list_append PySem.F.type_list_append mt_append (pv 3) (pa_cons pe_int pa_nil)))
    (pss_cons (ps_set (i := 6) sc_law_leapt.nd rfl (Or.inl rfl) (pe_meth (pv 0) T.cl_Choosing T.me_Choosing_leap G_Listing_leap_C (hr.mono (by decide)) T.b_Listing_leap .nil passL (pa_cons (pe_callTy call_list_of (by rfl) T.g_list boot_list (pa_cons (pv 1) pa_nil)) (pa_cons (pv 2) pa_nil))))
    (pss_cons (ps_if (PW.pt (pw_or (pt_cmpR (op_neD hr.units) (pv 4) (pv 5) (nomark _)) (pw_or (pt_not (pt_val (pe_callB call_isi (by rfl) T.g_isinstance boot_isinstance (pa_cons (pv 6) (pa_cons (pe_bltn (v := .ty "list") rfl T.g_list boot_list rfl) pa_nil))))) (pw_or1 (pt_cmpR (op_neD hr.units) (pv 6) (pv 5) (nomark _)))))) (pss_one (ps_ret (pe_tup (pa_cons pe_non (pa_cons pe_int pa_nil))))) pss_nil)
    (pss_cons (ps_expr (pe_bm PySem.F.plainAttrs_list PySem.F.slot_list_append PySem.F.type_list_append mt_append (pv 6) (pa_cons pe_int pa_nil)))
    (pss_cons (ps_if (pt_cmpR (op_neD hr.units) (pv 4) (pv 5) (nomark _)) (pss_one (ps_ret (pe_tup (pa_cons pe_non (pa_cons pe_int pa_nil))))) pss_nil)
    (pss_one (ps_ret (pe_tup (pa_cons (pv 4) (pa_cons (pv 2) pa_nil)))))))))))))), ?read⟩)
  case len =>
    obtain ⟨o, r, n, k, xs, t, rfl, _⟩ := h
    rfl
  case read =>
    obtain ⟨o, r, n, k, xs, t, rfl, f, ho, hx, hr, q⟩ := h
    have hk := okF_C f
    have hlen := Kd.row_len hr
    have hn := Kd.len_le hk
    have hyl := Kd.row_len (Kd.on_row hk xs t)
    show tSeq _ _ _ [some (.ref o), some (.ref r), some (.int t), none, none, none, none] H
    refine b_asgL (Ex.refl H) (el_list (ev_var rfl) (sq_of hx)) fun l H1 nl e hl => ?_
    have ho1 := ho.mono e
    have hx1 := e _ _ hx
    refine b_asgL (Ex.refl H1) (xs := ((Kd.C n k).on xs t).map V.int) (el_Cleap f ho1 (sq_of hl) hr (ev_var rfl) (by walk_at "ev") rfl) fun g H2 ng e2 hg => ?_
    generalize hY : (Kd.C n k).on xs t = ys at *
    have hx2 := e2 _ _ hx1
    have hl2 := e2 _ _ hl
    refine b_skip (b := !true || !decide (xs = xs)) (Ex.refl H2) (et_or (et_not (et_B (ev_isi (by walk_at "ev") (.lst hg) (kit_ty (by decide +kernel))))) fun _ => et_test (ev_op (ev_var rfl) (ev_var rfl) (rv_neL (sq_of hl2) (sq_of hx2)))) (fun H3 e3 => ?_) (by simp)
    refine b_asgL e3 (el_list (ev_var rfl) (sq_of hg)) fun kk H4 nk e4 hkk => ?_
    have n1 : g ≠ l := (ne_of_none hl ng).symm
    have n2 : kk ≠ l := (ne_of_none hl2 nk).symm
    refine q_app (e4 _ _ hl2) (ev_var rfl) ev_c (by rw [List.length_map]; omega) fun H5 e5 => ?_
    have e6 : Ex H (upd H5 l (.lst (xs.map V.int ++ [V.int 1]))) := Ex.mut (((e.trans e2).trans e4).trans e5) nl
    have hg6 : (upd H5 l (.lst (xs.map V.int ++ [V.int 1]))) g = some (.lst (ys.map V.int)) := by
      rw [upd_ne n1]
      exact e5 _ _ (e4 _ _ hg)
    have hk6 : (upd H5 l (.lst (xs.map V.int ++ [V.int 1]))) kk = some (.lst (ys.map V.int)) := by
      rw [upd_ne n2]
      exact e5 _ _ hkk
    generalize upd H5 l (.lst (xs.map V.int ++ [V.int 1])) = H6 at *
    have ho6 := ho.mono e6
    have hx6 := e6 _ _ hx
    obtain ⟨dx6, hO6⟩ := id ho6
    have hag : EvL (tMeth T.c_Choosing "leap" (sp_Listing_leap_C T) [] E0 (tVar 0) (tCons (tCB (rListS K) (tCons (tVar 1) tNil)) (tCons (tVar 2) tNil))) [some (.ref o), some (.ref r), some (.int t), some (.ref l), some (.ref g), some (.ref kk), none] H6 (ys.map V.int) :=
      el_methN2 (ev_var rfl) hO6 (cF_m _ _ _) (el_list (ev_var rfl) (sq_of hx6)) (fun _ _ => ev_var rfl) fun p H1 e h1 Q q => ⟨o, p, n, k, xs, t, rfl, f, ho6.mono e, sq_of h1, by omega, fun _ => by
        rw [← hY] at q
        exact q, fun z => absurd hr z⟩
    refine b_asgL (Ex.refl H6) hag fun ag H7 na e7 hag7 => ?_
    have hg7 := e7 _ _ hg6
    have hk7 := e7 _ _ hk6
    refine b_skip (b := !decide (ys = ys) || (!true || !decide (ys = ys))) (Ex.refl H7) (et_or (et_test (ev_op (ev_var rfl) (ev_var rfl) (rv_neL (sq_of hg7) (sq_of hk7)))) fun _ => et_or (et_not (et_B (ev_isi (by walk_at "ev") (.lst hag7) (kit_ty (by decide +kernel))))) fun _ => et_test (ev_op (ev_var rfl) (ev_var rfl) (rv_neL (sq_of hag7) (sq_of hk7)))) (fun H8 e8 => ?_) (by simp)
    refine q_app (e8 _ _ hag7) (ev_var rfl) ev_c (by rw [List.length_map]; omega) fun H9 e9 => ?_
    have e10 : Ex H6 (upd H9 ag (.lst (ys.map V.int ++ [V.int 1]))) := Ex.mut ((e7.trans e8).trans e9) na
    generalize upd H9 ag (.lst (ys.map V.int ++ [V.int 1])) = H10 at *
    have hg10 := e10 _ _ hg6
    refine b_skip (b := !decide (ys = ys)) (Ex.refl H10) (et_test (ev_op (ev_var rfl) (ev_var rfl) (rv_neL (sq_of hg10) (sq_of (e10 _ _ hk6))))) (fun H11 e11 => ?_) (by simp)
    exact b_retQ ((e6.trans e10).trans e11) (fresh_back e ng) (e11 _ _ hg10) (ev_var rfl) (ev_var rfl) q
/-! #### _law_is_row -/
theorem sc_law_is_row : FnScope N_law_is_row P_law_is_row (defScope s_law_is_row) := ⟨rfl, rfl, rfl, by decide +kernel, rfl, by decide +kernel, by decide +kernel⟩
def sp_law_is_row (_ : Txt K mg) : Sp := fun vs H Q _ => ∃ (a : Addr) (d : Kd) (xs : List Int), vs = [.ref a, .int d.len, .int d.sg, onV d] ∧ d.ok ∧ H a = some (.lst (xs.map V.int)) ∧ d.row xs ∧ RetV (.bl true) H Q
theorem ev_is_row {T : Txt K mg} {σ : L2.St} {H : Hp} {tg : TA} {E : XK} {a : Addr} {d : Kd} {xs : List Int} (hk : d.ok) (hx : H a = some (.lst (xs.map V.int))) (hr : d.row xs) (ha : EvA tg σ H [.ref a, .int d.len, .int d.sg, onV d]) : Ev (tCall (sp_law_is_row T) [] E tg) σ H (.bl true) :=
  ev_callF ha fun _ e _ q => ⟨a, d, xs, rfl, hk, e _ _ hx, hr, q⟩
theorem ok_law_is_row (T : Txt K mg) : FnOk P w K mg base CX0 2 T.a_law_is_row T.d_law_is_row P_law_is_row (sp_law_is_row T) := by
  have G_law_whole := ok_law_whole (P := P) (w := w) (base := base) T
  refine (T.F_law_is_row).ok sc_law_is_row (fun vs H Q E h => ?len) (fun cdv A outer s H vs Q E hr h => ⟨_, (pss_cons (ps_if (PW.pt (pw_or (pt_not (pt_val (pe_callB call_isi (by rfl) T.g_isinstance boot_isinstance (pa_cons (pv 0) (pa_cons (pe_bltn (v := .ty "list") rfl T.g_list boot_list rfl) pa_nil))))) (pw_or1 (pt_cmpR op_ne (pe_callB call_len_seq (by rfl) T.g_len boot_len (pa_cons (pv 0) pa_nil)) (pv 1) (nomark _))))) (pss_one (ps_ret pe_bl)) pss_nil)
    (pss_cons (ps_if (pt_not (pt_val (pe_callB (cr_all rfl) (by rfl) T.g_all boot_all (pa_cons (pe_lc (own := [("_law_mark", 4)]) (g := (gName 4)) rfl sc_law_is_row.nd (pi_list (pv 0)) (blkOk_by (N := N_law_is_row) (sc := defScope s_law_is_row) (by decide +kernel)) (fun _ _ _ _ _ => pg_name (i := 4) sc_law_is_row.nd rfl (Or.inl rfl)) (fun _ _ _ _ _ => pts_nil) (fun _ _ _ _ _ => (pe_and (pe_call G_law_whole (hr.mono (by decide)) (by rfl) T.m_law_whole T.F_law_whole.kp T.b_law_whole .nil pass0 (pa_cons (pv 4) pa_nil)) (pe_and (pe_cmpR op_le pe_int (pv 4) (nomark _)) (pe_one (pe_cmpR op_lt (pv 4) (pv 2) (nomark _))))))) pa_nil)))) (pss_one (ps_ret pe_bl)) pss_nil)
    (pss_one (ps_ret (pe_or (pe_cmpR op_isN (pv 3) pe_non (nomark _)) (pe_one (pe_cmpR op_eq (pe_callB (cr_sum rfl) (by rfl) T.g_sum boot_sum (pa_cons (pv 0) pa_nil)) (pv 3) (nomark _)))))))), ?read⟩)
  case len =>
    obtain ⟨a, d, xs, rfl, _⟩ := h
    rfl
  case read =>
    obtain ⟨a, d, xs, rfl, hk, hx, hr, q⟩ := h
    show tSeq _ _ _ [some (.ref a), some (.int d.len), some (.int d.sg), some (onV d), none] H
    have hl := Kd.row_len hr
    have hM := Kd.row_mark hr
    have hn := Kd.len_le hk
    refine b_skip (b := !true || !decide ((xs.length : Int) = d.len)) (Ex.refl H) (et_or (et_not (et_B (ev_isi (by walk_at "ev") (.lst hx) (kit_ty (by decide +kernel))))) fun _ => et_test (ev_op (ev_is (ev_len (ev_var rfl) (sq_of hx)) (by rw [List.length_map])) (ev_var rfl) rv_neI)) (fun H1 e => ?_) (by simp; omega)
    have hall : (xs.all fun m => true && (decide (0 ≤ m) && decide (m < d.sg))) = true := by
      rw [List.all_eq_true]
      intro m hm
      simpa using hM m hm
    refine b_skip (b := !(xs.all fun m => true && (decide (0 ≤ m) && decide (m < d.sg)))) e (et_not (et_B (ev_allI _ (ev_var rfl) (sq_of hx) (by omega) (fun _ => rfl) fun m H2 e2 _ => ev_andV (ev_whole (by walk_at "ev")) fun _ => ev_andV (by walk_at "ev") fun _ => by walk_at "ev"))) (fun H3 e3 => ?_) (by rw [hall]; rfl)
    cases d with
    | T s n => exact b_ret e3 (v := .bl (true || true)) (ev_orV (ev_op (ev_var rfl) ev_c (rv_isNb (b := true) rfl)) fun z => by cases z) q
    | C n k =>
      refine b_ret e3 (v := .bl (false || decide (xs.sum = (k : Int)))) (ev_orV (ev_op (ev_var rfl) ev_c (rv_isNb (b := false) rfl)) fun _ => ev_op (ev_sum (ev_var rfl) (sq_of hx)) (ev_var rfl) rv_eqI) ?_
      have e2 : xs.sum = (k : Int) := by rw [bits_sum hr.2.1, hr.2.2]
      rw [decide_eq_true e2]
      exact q
/-! #### Listing.next_row -/
theorem sc_Listing_next_row : FnScope N_Listing_next_row P_Listing_next_row (defScope s_Listing_next_row) := ⟨rfl, rfl, rfl, by decide +kernel, rfl, by decide +kernel, by decide +kernel⟩
def sp_Listing_next_row_C (T : Txt K mg) : Sp := fun vs H Q E => ∃ (o a : Addr) (n k : Nat) (xs : List Int), vs = [.ref o, .ref a] ∧ CForm n k ∧ IsC T H o n k ∧ SqL K H a (xs.map V.int) ∧ xs.length ≤ 10000 ∧
  (CRow n k xs → RetL ((crow n k ((cplace xs + 1) % (bin n k : Int))).map V.int) H Q) ∧ (¬ CRow n k xs → RetX T.c_NoRow H E)
theorem el_Cnext {T : Txt K mg} {σ : L2.St} {H : Hp} {ta : TE} {tg : TA} {E : XK} {o a : Addr} {n k : Nat} {xs : List Int} (f : CForm n k) (ho : IsC T H o n k) (hx : SqL K H a (xs.map V.int)) (hr : CRow n k xs) (hv : Ev ta σ H (.ref o)) (ha : EvA tg σ H [.ref a]) :
    EvL (tMeth T.c_Choosing "next_row" (sp_Listing_next_row_C T) [] E ta tg) σ H ((crow n k ((cplace xs + 1) % (bin n k : Int))).map V.int) := by
  obtain ⟨dx, h⟩ := ho
  exact el_meth hv h (cF_m _ _ _) ha fun H1 e Q q => ⟨o, a, n, k, xs, rfl, f, ⟨dx, e _ _ h⟩, ex_l e hx, by have := f.2.1; have := hr.1; omega, fun _ => q, fun z => absurd hr z⟩
theorem ok_Listing_next_row_C (T : Txt K mg) : FnOk P w K mg base (L2.CX P w) 4 T.a_Listing_next_row T.d_Listing_next_row P_Listing_next_row (sp_Listing_next_row_C T) := by
  have G_Listing_leap_C := ok_Listing_leap_C (P := P) (w := w) (base := base) T
  refine (T.F_Listing_next_row).okX sc_Listing_next_row (fun vs H Q E h => ?len) (fun cdv A outer s H vs Q E hr h => ⟨_, (pss_one (ps_ret (pe_meth (pv 0) T.cl_Choosing T.me_Choosing_leap G_Listing_leap_C (hr.mono (by decide)) T.be_Listing_leap T.ve_Listing_leap (passes_call (W := fun cls d _ H => E cls d H) (E := E) (takes_of rfl rfl rfl rfl) (fun _ _ _ _ h => h)) (pa_cons (pv 1) pa_nil)))), ?read⟩)
  case len =>
    obtain ⟨o, a, n, k, xs, rfl, _⟩ := h
    rfl
  case read =>
    obtain ⟨o, a, n, k, xs, rfl, f, ho, hx, hl, q, qe⟩ := h
    show tRet _ _ [some (.ref o), some (.ref a)] H
    by_cases hr : CRow n k xs
    · exact b_retL (Ex.refl H) (el_Cleap (d := 1) f ho hx hr (ev_var rfl) (by walk_at "ev") rfl) (q hr)
    · exact b_retR (Ex.refl H) (er_Cleap (d := 1) f ho hx hl hr (qe hr) (ev_var rfl) (by walk_at "ev") rfl)
/-! #### Choosing.change -/
theorem sc_Choosing_change : FnScope N_Choosing_change P_Choosing_change (defScope s_Choosing_change) := ⟨rfl, rfl, rfl, by decide +kernel, rfl, by decide +kernel, by decide +kernel⟩
theorem crow_there {n k : Nat} {xs : List Int} (hr : CRow n k xs) (h1 : (bin n k : Int) ≠ 1) (h0 : 0 < (bin n k : Int)) : ∃ i j, SwpAt xs (crow n k ((cplace xs + 1) % (bin n k : Int))) i j := by
  obtain ⟨hl, hB, hO⟩ := hr
  have t0 := cplace_nonneg xs
  have t1 := cplace_lt xs
  have t2 := crow_cplace hB
  rw [hl, hO] at t1 t2
  have h := crow_next (n := n) (k := k) (p := cplace xs) (by omega) t0 t1
  rw [t2] at h
  exact h.at
def sp_Choosing_change (T : Txt K mg) : Sp := fun vs H Q E => ∃ (o a : Addr) (n k : Nat) (xs : List Int), vs = [.ref o, .ref a] ∧ CForm n k ∧ IsC T H o n k ∧ SqL K H a (xs.map V.int) ∧ xs.length ≤ 10000 ∧
  (CRow n k xs → ((bin n k : Int) = 1 → RetV .non H Q) ∧ (∀ i j : Nat, (bin n k : Int) ≠ 1 → SwpAt xs (crow n k ((cplace xs + 1) % (bin n k : Int))) i j → RetU [.str "swap", .int i, .int j] H Q)) ∧ (¬ CRow n k xs → RetX T.c_NoRow H E)
theorem SwpAt.same {l r : List Int} {i j i' j' : Nat} (h : SwpAt l r i j) (h' : SwpAt l r i' j') : i' = i ∧ j' = j :=
  ⟨(h.gone h'.lt.1).mp ((h'.gone h'.lt.1).mpr rfl), (h.made h'.lt.2).mp ((h'.made h'.lt.2).mpr rfl)⟩
theorem ev_Cchange {T : Txt K mg} {σ : L2.St} {H : Hp} {ta : TE} {tg : TA} {E : XK} {o a : Addr} {n k : Nat} {xs : List Int} (f : CForm n k) (ho : IsC T H o n k) (hx : SqL K H a (xs.map V.int)) (hr : CRow n k xs) (h1 : (bin n k : Int) = 1) (hv : Ev ta σ H (.ref o)) (ha : EvA tg σ H [.ref a]) :
    Ev (tMeth T.c_Choosing "change" (sp_Choosing_change T) [] E ta tg) σ H .non := by
  obtain ⟨dx, h⟩ := ho
  exact ev_meth hv h (cF_m _ _ _) ha fun H1 e Q q => ⟨o, a, n, k, xs, rfl, f, ⟨dx, e _ _ h⟩, ex_l e hx, by have := f.2.1; have := hr.1; omega, fun _ => ⟨fun _ => q, fun _ _ z => absurd h1 z⟩, fun z => absurd hr z⟩
theorem eu_Cchange {T : Txt K mg} {σ : L2.St} {H : Hp} {ta : TE} {tg : TA} {E : XK} {o a : Addr} {n k : Nat} {xs : List Int} {i j : Nat} (f : CForm n k) (ho : IsC T H o n k) (hx : SqL K H a (xs.map V.int)) (hr : CRow n k xs) (h1 : (bin n k : Int) ≠ 1) (hs : SwpAt xs (crow n k ((cplace xs + 1) % (bin n k : Int))) i j) (hv : Ev ta σ H (.ref o)) (ha : EvA tg σ H [.ref a]) :
    EvU (tMeth T.c_Choosing "change" (sp_Choosing_change T) [] E ta tg) σ H [.str "swap", .int i, .int j] := by
  obtain ⟨dx, h⟩ := ho
  refine eu_meth hv h (cF_m _ _ _) ha fun H1 e Q q => ⟨o, a, n, k, xs, rfl, f, ⟨dx, e _ _ h⟩, ex_l e hx, by have := f.2.1; have := hr.1; omega, fun _ => ⟨fun z => absurd z h1, fun i' j' _ hs' => ?_⟩, fun z => absurd hr z⟩
  obtain ⟨rfl, rfl⟩ := hs.same hs'
  exact q
theorem ok_Choosing_change (T : Txt K mg) : FnOk P w K mg base (L2.CX P w) 4 T.a_Choosing_change T.d_Choosing_change P_Choosing_change (sp_Choosing_change T) := by
  have G_Listing_leap_C := ok_Listing_leap_C (P := P) (w := w) (base := base) T
  refine (T.F_Choosing_change).okX sc_Choosing_change (fun vs H Q E h => ?len) (fun cdv A outer s H vs Q E hr h => ⟨_, (pss_cons (ps_set (i := 2) sc_Choosing_change.nd rfl (Or.inl rfl) (pe_meth (pv 0) T.cl_Choosing T.me_Choosing_leap G_Listing_leap_C (hr.mono (by decide)) T.be_Listing_leap T.ve_Listing_leap (passes_call (W := fun cls d _ H => E cls d H) (E := E) (takes_of rfl rfl rfl rfl) (fun _ _ _ _ h => h)) (pa_cons (pv 1) pa_nil)))
    (pss_cons (ps_if (pt_cmpR op_eq (pe_fld (pv 0) (by rfl)) pe_int (nomark _)) (pss_one (ps_ret pe_non)) pss_nil)
    (pss_cons (ps_set (i := 3) sc_Choosing_change.nd rfl (Or.inl rfl) pe_int)
    (pss_cons (ps_set (i := 4) sc_Choosing_change.nd rfl (Or.inl rfl) pe_int)
    (pss_cons (ps_for (passes_of rfl) rfl (pi_enum rfl T.g_enumerate (pa_cons (pv 1) pa_nil)) (pg_tup rfl (pgs_cons (pg_name (i := 5) sc_Choosing_change.nd rfl (Or.inl rfl)) (pgs_cons (pg_name (i := 6) sc_Choosing_change.nd rfl (Or.inl rfl)) pgs_nil))) (pss_cons (ps_if (pt_cmpR op_gt (pv 6) (pe_ix ix_list (pv 2) (pv 5) (fun _ _ => rfl)) (nomark _)) (pss_one (ps_set (i := 3) sc_Choosing_change.nd rfl (Or.inl rfl) (pv 5))) pss_nil)
    (pss_one (ps_if (pt_cmpR op_lt (pv 6) (pe_ix ix_list (pv 2) (pv 5) (fun _ _ => rfl)) (nomark _)) (pss_one (ps_set (i := 4) sc_Choosing_change.nd rfl (Or.inl rfl) (pv 5))) pss_nil))))
    (pss_one (ps_ret (pe_tup (pa_cons pe_str (pa_cons (pv 3) (pa_cons (pv 4) pa_nil))))))))))), ?read⟩)
  case len =>
    obtain ⟨o, a, n, k, xs, rfl, _⟩ := h
    rfl
  case read =>
    obtain ⟨o, a, n, k, xs, rfl, f, ho, hx, hl, q, qe⟩ := h
    obtain ⟨dx, hO⟩ := id ho
    show tSeq _ _ _ [some (.ref o), some (.ref a), none, none, none, none, none] H
    by_cases hr : CRow n k xs
    case neg => exact b_asgR (Ex.refl H) (er_Cleap (d := 1) f ho hx hl hr (qe hr) (ev_var rfl) (by walk_at "ev") rfl)
    obtain ⟨q1, q2⟩ := q hr
    have m0 := c_pos f
    refine b_asgL (Ex.refl H) (el_Cleap (d := 1) f ho hx hr (ev_var rfl) (by walk_at "ev") rfl) fun l H1 nl e hl1 => ?_
    have hx1 := ex_l e hx
    have hO1 := e _ _ hO
    refine b_when (Ex.refl H1) (et_test (ev_op (ev_fld (ev_var rfl) hO1 T.cl_Choosing T.no_Choosing_size (cF_size _ _ _)) ev_c rv_eqI)) (fun hb H2 e2 => b_ret e2 ev_c fun H3 e3 => q1 (by simpa using hb) H3 (e.trans e3)) (fun hb H2 e2 => ?_)
    have h1 : (bin n k : Int) ≠ 1 := by simpa using hb
    obtain ⟨i, j, hs⟩ := crow_there hr h1 m0
    have q3 := q2 i j h1 hs
    clear q q2
    generalize crow n k ((cplace xs + 1) % (bin n k : Int)) = ys at *
    have hlen : ys.length = xs.length := by rw [hs.eq, swapped_len]
    refine b_asg e2 ev_c fun H3 e3 => ?_
    refine b_asg e3 ev_c fun H4 e4 => ?_
    refine b_forEnum e4 (by walk_at "ev") hx1 (fun t σ' H' => ∃ u v, σ' = [some (.ref o), some (.ref a), some (.ref l), some (.int (if i < t then (i : Int) else 0)), some (.int (if j < t then (j : Int) else 0)), u, v] ∧ Ex H1 H')
      (fun H' e' => ⟨none, none, by rw [if_neg (Nat.not_lt_zero i), if_neg (Nat.not_lt_zero j)]; rfl, e'⟩) (fun i σ' H' ⟨_, _, _, e'⟩ => ex_l e' hx1) ?_ ?_
    · rintro t x σ' H' H5 hxi ⟨u, v, rfl, e0⟩ e5
      have e' := e0.trans e5
      obtain ⟨m, ht, rfl, hm⟩ := int_item hxi
      have hty : t < ys.length := by omega
      have hg := hs.gone ht
      have hd := hs.made ht
      have g1 : xs.getD t 0 = m := by simp [ht, hm]
      have g2 : ys.getD t 0 = ys[t] := by simp [hty]
      rw [g1, g2] at hg hd
      show tSeq _ _ _ [some (.ref o), some (.ref a), some (.ref l), some (.int (if i < t then (i : Int) else 0)), some (.int (if j < t then (j : Int) else 0)), some (.int (t : Int)), some (.int m)] H5
      refine b_ifAsg (b := decide (ys[t] < m)) (v := .int (if i < t + 1 then (i : Int) else 0)) e' (et_test (ev_op (ev_var rfl) (ev_op (ev_var rfl) (ev_var rfl) (rv_ixL (sq_of hl1) (atI_nat (int_at hty)))) rv_I0)) (fun hb => ?_) (fun hb => ?_) fun H6 e6 => ?_
      · have h := hg.mp (by simpa using hb)
        rw [← h, if_pos (Nat.lt_succ_self t)]
        exact ev_var rfl
      · have h : ¬ t = i := fun z => by
          have := hg.mpr z
          simp at hb
          omega
        have e : (if i < t + 1 then (i : Int) else 0) = if i < t then (i : Int) else 0 := by
          by_cases h2 : i < t
          · rw [if_pos h2, if_pos (by omega)]
          · rw [if_neg h2, if_neg (by omega)]
        rw [e]
        rfl
      refine l_ifAsg (b := decide (m < ys[t])) (v := .int (if j < t + 1 then (j : Int) else 0)) e6 (et_test (ev_op (ev_var rfl) (ev_op (ev_var rfl) (ev_var rfl) (rv_ixL (sq_of hl1) (atI_nat (int_at hty)))) rv_I0)) (fun hb => ?_) (fun hb => ?_) fun H7 e7 => ⟨_, _, rfl, e7⟩
      · have h := hd.mp (by simpa using hb)
        rw [← h, if_pos (Nat.lt_succ_self t)]
        exact ev_var rfl
      · have h : ¬ t = j := fun z => by
          have := hd.mpr z
          simp at hb
          omega
        have e : (if j < t + 1 then (j : Int) else 0) = if j < t then (j : Int) else 0 := by
          by_cases h2 : j < t
          · rw [if_pos h2, if_pos (by omega)]
          · rw [if_neg h2, if_neg (by omega)]
        rw [e]
        rfl
    · rintro σ' H' ⟨u, v, rfl, e'⟩
      rw [List.length_map, if_pos hs.lt.1, if_pos hs.lt.2]
      refine b_retU e' (eu_tup (by walk_at "ev") (by simp)) fun t H5 nt e5 h5 => ?_
      exact q3 t H5 (fresh_back e nt) (e.trans e5) h5
/-! #### _law_deed -/
theorem sc_law_deed : FnScope N_law_deed P_law_deed (defScope s_law_deed) := ⟨rfl, rfl, rfl, by decide +kernel, rfl, by decide +kernel, by decide +kernel⟩
theorem ech_change_C {T : Txt K mg} {σ : L2.St} {H : Hp} {ta te : TE} {E : XK} {o : Addr} {n k : Nat} {xs : List Int} (f : CForm n k) (ho : IsC T H o n k) (hr : (Kd.C n k).row xs) (hv : Ev ta σ H (.ref o)) (hL : EvL te σ H (xs.map V.int)) :
    EvCh (tMeth T.c_Choosing "change" (sp_Choosing_change T) [] E ta (tCons te tNil)) σ H (fun c => Mv (Kd.C n k) 1 c xs ((Kd.C n k).on xs 1)) := fun H1 e Q q => by
  obtain ⟨dx, h⟩ := id ho
  have hn := Kd.len_le (okF_C f)
  have hl := Kd.row_len hr
  refine hv H1 e _ fun H2 e2 => ⟨o, dx, _, rfl, e2 _ _ (e _ _ h), cF_m _ _ _, hL H2 (e.trans e2) _ fun p H3 hp e3 h3 => ?_⟩
  have e23 := e2.trans e3
  refine ⟨o, p, n, k, xs, rfl, f, ho.mono (e.trans e23), sq_of h3, by omega, fun _ => ?_, fun z => absurd hr z⟩
  refine ⟨fun h1 H4 e4 => q .non ?_ .non H4 (e23.trans e4) rfl, fun i j h1 hs t H4 nt e4 h4 => q (.swap (i : Int) (j : Int)) ⟨i, j, rfl, rfl, by rw [if_neg (by decide)]; exact hs⟩ (.ref t) H4 (e23.trans e4) ⟨t, rfl, h4⟩⟩
  have hz : (Kd.C n k).sz = 1 := h1
  have hR := Kd.on_row (okF_C f) xs 1
  refine Kd.pl_inj (okF_C f) hR hr ?_
  have a := Kd.pl_rng (okF_C f) hR
  have b := Kd.pl_rng (okF_C f) hr
  omega
def sp_law_deed_C (T : Txt K mg) : Sp := fun vs H Q _ => ∃ (o r : Addr) (c : Int) (n k : Nat) (xs : List Int), vs = [.ref o, .ref r, .int c, .int (Kd.C n k).sz, .int (Kd.C n k).sg, onV (Kd.C n k)] ∧ Few c ∧ CForm n k ∧ IsC T H o n k ∧ H r = some (.lst (xs.map V.int)) ∧ (Kd.C n k).row xs ∧ ∀ ys t, (Kd.C n k).row ys → (Kd.C n k).pl ys = ((Kd.C n k).pl xs + t) % (Kd.C n k).sz → (c % 6 = 5 → 0 ≤ t ∧ t < (Kd.C n k).sz) → RetP (ys.map V.int) t H Q
theorem ok_law_deed_C (T : Txt K mg) : FnOk P w K mg base CX0 5 T.a_law_deed T.d_law_deed P_law_deed (sp_law_deed_C T) := by
  have G_Choosing_change := ok_Choosing_change (P := P) (w := w) (base := base) T
  have G_Listing_leap_C := ok_Listing_leap_C (P := P) (w := w) (base := base) T
  have G_Listing_next_row_C := ok_Listing_next_row_C (P := P) (w := w) (base := base) T
  have G_Listing_row_before_C := ok_Listing_row_before_C (P := P) (w := w) (base := base) T
  have G_Listing_steps_to_C := ok_Listing_steps_to_C (P := P) (w := w) (base := base) T
  have G_law_any := ok_law_any (P := P) (w := w) (base := base) T
  have G_law_changed := ok_law_changed (P := P) (w := w) (base := base) T
  have G_law_is_row := ok_law_is_row (P := P) (w := w) (base := base) T
  have G_law_leapt_C := ok_law_leapt_C (P := P) (w := w) (base := base) T
  refine (T.F_law_deed).ok sc_law_deed (fun vs H Q E h => ?len) (fun cdv A outer s H vs Q E hr h => ⟨_, (pss_cons (ps_set (i := 6) sc_law_deed.nd rfl (Or.inl rfl) (pe_op op_mod (pv 2) pe_int))
    (pss_cons (ps_set (i := 7) sc_law_deed.nd rfl (Or.inl rfl) (pe_op op_fdivW (pv 2) pe_int))
    (pss_cons (ps_if (pt_cmpR op_eq (pv 6) pe_int (nomark _)) (pss_one (ps_ret (pe_tup (pa_cons (pe_call G_law_changed (hr.mono (by decide)) (by rfl) T.m_law_changed T.F_law_changed.kp T.b_law_changed .nil pass0 (pa_cons (pv 1) (pa_cons (pe_meth (pv 0) T.cl_Choosing T.me_Choosing_change G_Choosing_change (hr.mono (by decide)) T.b_Choosing_change .nil passL (pa_cons (pe_callTy call_list_of (by rfl) T.g_list boot_list (pa_cons (pv 1) pa_nil)) pa_nil)) (pa_cons (pv 4) (pa_cons (pv 5) (pa_cons pe_int pa_nil)))))) (pa_cons pe_int pa_nil))))) pss_nil)
    (pss_cons (ps_if (pt_cmpR op_eq (pv 6) pe_int (nomark _)) (pss_cons (ps_set (i := 8) sc_law_deed.nd rfl (Or.inl rfl) (pe_meth (pv 0) T.cl_Choosing T.me_Choosing_row_before G_Listing_row_before_C (hr.mono (by decide)) T.b_Listing_row_before .nil passL (pa_cons (pe_callTy call_list_of (by rfl) T.g_list boot_list (pa_cons (pv 1) pa_nil)) pa_nil)))
    (pss_cons (ps_if (pt_not (pt_val (pe_call G_law_is_row (hr.mono (by decide)) (by rfl) T.m_law_is_row T.F_law_is_row.kp T.b_law_is_row .nil pass0 (pa_cons (pv 8) (pa_cons (pe_callB call_len_seq (by rfl) T.g_len boot_len (pa_cons (pv 1) pa_nil)) (pa_cons (pv 4) (pa_cons (pv 5) pa_nil))))))) (pss_one (ps_ret (pe_tup (pa_cons pe_non (pa_cons pe_int pa_nil))))) pss_nil)
    (pss_cons (ps_if (pt_cmpR (op_neD hr.units) (pe_call G_law_changed (hr.mono (by decide)) (by rfl) T.m_law_changed T.F_law_changed.kp T.b_law_changed .nil pass0 (pa_cons (pv 1) (pa_cons (pe_meth (pv 0) T.cl_Choosing T.me_Choosing_change G_Choosing_change (hr.mono (by decide)) T.b_Choosing_change .nil passL (pa_cons (pe_callTy call_list_of (by rfl) T.g_list boot_list (pa_cons (pv 8) pa_nil)) pa_nil)) (pa_cons (pv 4) (pa_cons (pv 5) (pa_cons (pe_un un_neg pe_int) pa_nil)))))) (pv 8) (nomark _)) (pss_one (ps_ret (pe_tup (pa_cons pe_non (pa_cons pe_int pa_nil))))) pss_nil)
    (pss_one (ps_ret (pe_tup (pa_cons (pv 8) (pa_cons (pe_un un_neg pe_int) pa_nil)))))))) pss_nil)
    (pss_cons (ps_if (PW.pt (pw_and (pt_cmpR op_eq (pv 6) pe_int (nomark _)) (pw_and1 (pt_cmpR op_eq (pe_op op_mod (pv 7) pe_int) pe_int (nomark _))))) (pss_one (ps_ret (pe_call G_law_leapt_C (hr.mono (by decide)) (by rfl) T.m_law_leapt T.F_law_leapt.kp T.b_law_leapt .nil pass0 (pa_cons (pv 0) (pa_cons (pv 1) (pa_cons (pe_op op_sub (pe_op op_add (pe_op op_mul (pe_op op_sub (pe_op op_mod (pe_op op_fdivW (pv 7) pe_int) pe_int) pe_int) (pv 3)) (pe_op op_mod (pe_op op_fdivW (pv 7) pe_int) pe_int)) pe_int) pa_nil)))))) pss_nil)
    (pss_cons (ps_if (pt_cmpR op_eq (pv 6) pe_int (nomark _)) (pss_one (ps_ret (pe_call G_law_leapt_C (hr.mono (by decide)) (by rfl) T.m_law_leapt T.F_law_leapt.kp T.b_law_leapt .nil pass0 (pa_cons (pv 0) (pa_cons (pv 1) (pa_cons (pe_op op_sub (pe_op op_mod (pe_op op_mulX (pv 7) (pe_op op_pow pe_int pe_int)) (pe_op op_add (pe_op op_mul pe_int (pe_op op_pow pe_int pe_int)) pe_int)) (pe_op op_pow pe_int pe_int)) pa_nil)))))) pss_nil)
    (pss_cons (ps_if (pt_cmpR op_eq (pv 6) pe_int (nomark _)) (pss_one (ps_ret (pe_tup (pa_cons (pe_meth (pv 0) T.cl_Choosing T.me_Choosing_leap G_Listing_leap_C (hr.mono (by decide)) T.be_Listing_leap T.ve_Listing_leap passL (pa_cons (pe_callTy call_list_of (by rfl) T.g_list boot_list (pa_cons (pv 1) pa_nil)) pa_nil)) (pa_cons pe_int pa_nil))))) pss_nil)
    (pss_cons (ps_if (pt_cmpR op_eq (pv 6) pe_int (nomark _)) (pss_one (ps_ret (pe_tup (pa_cons (pe_meth (pv 0) T.cl_Choosing T.me_Choosing_next_row G_Listing_next_row_C (hr.mono (by decide)) T.b_Listing_next_row .nil passL (pa_cons (pe_callTy call_list_of (by rfl) T.g_list boot_list (pa_cons (pv 1) pa_nil)) pa_nil)) (pa_cons pe_int pa_nil))))) pss_nil)
    (pss_cons (ps_set (i := 9) sc_law_deed.nd rfl (Or.inl rfl) (pe_call G_law_any (hr.mono (by decide)) (by rfl) T.m_law_any T.F_law_any.kp T.b_law_any .nil pass0 (pa_cons (pv 1) (pa_cons (pv 7) (pa_cons (pv 4) (pa_cons (pv 5) pa_nil))))))
    (pss_cons (ps_set (i := 10) sc_law_deed.nd rfl (Or.inl rfl) (pe_lst (pa_cons (pe_callTy call_list_of (by rfl) T.g_list boot_list (pa_cons (pv 1) pa_nil)) (pa_cons (pe_callTy call_list_of (by rfl) T.g_list boot_list (pa_cons (pv 9) pa_nil)) pa_nil))))
    (pss_cons (ps_set (i := 11) sc_law_deed.nd rfl (Or.inl rfl) (pe_meth (pv 0) T.cl_Choosing T.me_Choosing_steps_to G_Listing_steps_to_C (hr.mono (by decide)) T.b_Listing_steps_to .nil passL (pa_cons (pe_ix ix_list (pv 10) pe_int (fun _ _ => rfl)) (pa_cons (pe_ix ix_list (pv 10) pe_int (fun _ _ => rfl)) pa_nil))))
    (pss_cons (ps_if (PW.pt (pw_or (pt_cmpR (op_neD hr.units) (pe_ix ix_list (pv 10) pe_int (fun _ _ => rfl)) (pv 1) (nomark _)) (pw_or1 (pt_cmpR (op_neD hr.units) (pe_ix ix_list (pv 10) pe_int (fun _ _ => rfl)) (pv 9) (nomark _))))) (pss_one (ps_ret (pe_tup (pa_cons pe_non (pa_cons pe_int pa_nil))))) pss_nil)
    (pss_one (ps_ret (pe_tup (pa_cons (pv 9) (pa_cons (pv 11) pa_nil))))))))))))))))), ?read⟩)
  case len =>
    obtain ⟨o, r, c, n, k, xs, rfl, _⟩ := h
    rfl
  case read =>
    obtain ⟨o, r, c, n, k, xs, rfl, hc, f, ho, hx, hr, q⟩ := h
    have hk := okF_C f
    have hlen := Kd.row_len hr
    have hn := Kd.len_le hk
    have m0 := Kd.sz_pos hk
    obtain ⟨dx, hO⟩ := id ho
    show tSeq _ _ _ [some (.ref o), some (.ref r), some (.int c), some (.int (Kd.C n k).sz), some (.int (Kd.C n k).sg), some (onV (Kd.C n k)), none, none, none, none, none, none] H
    refine b_asg (Ex.refl H) (v := .int (c % 6)) (by walk_at "ev") fun H1 e => ?_
    refine b_asg e (v := .int (c / 6)) (by walk_at "ev") fun H2 e => ?_
    show tSeq _ _ _ [some (.ref o), some (.ref r), some (.int c), some (.int (Kd.C n k).sz), some (.int (Kd.C n k).sg), some (onV (Kd.C n k)), some (.int (c % 6)), some (.int (c / 6)), none, none, none, none] H2
    -- a step on by the change told
    refine b_when e (by walk_at "ev") (fun hb H3 e => ?_) (fun hb H3 e => ?_)
    · have h0 : c % 6 = 0 := by simpa using hb
      exact b_retP e (ep_tup (el_changed (d := (Kd.C n k)) (u := 1) hk hx (by omega) (fun c h => h) (ev_var rfl) (ech_change_C f ho hr (ev_var rfl) (el_list (ev_var rfl) (sq_of hx))) fun _ _ => by walk_at "ev") fun _ _ => ev_c) (q _ _ (Kd.on_row hk xs 1) (Kd.on_pl hk xs 1) (by omega))
    have c0 : c % 6 ≠ 0 := by simpa using hb
    -- a step back
    refine b_when e (by walk_at "ev") (fun hb H3 e => ?_) (fun hb H3 e => ?_)
    · have h1 : c % 6 = 1 := by simpa using hb
      have hbf : EvL (tMeth T.c_Choosing "row_before" (sp_Listing_row_before_C T) [] E0 (tVar 0) (tCons (tCB (rListS K) (tCons (tVar 1) tNil)) tNil)) [some (.ref o), some (.ref r), some (.int c), some (.int (Kd.C n k).sz), some (.int (Kd.C n k).sg), some (onV (Kd.C n k)), some (.int (c % 6)), some (.int (c / 6)), none, none, none, none] H (((Kd.C n k).on xs (-1)).map V.int) :=
        el_methN (ev_var rfl) hO (cF_m _ _ _) (el_list (ev_var rfl) (sq_of hx)) fun p H1 e h1 Q q => ⟨o, p, n, k, xs, rfl, f, ho.mono e, sq_of h1, by omega, fun _ => q, fun z => absurd hr z⟩
      refine b_asgL e hbf fun b H4 nb e4 hb4 => ?_
      have bR := Kd.on_row hk xs (-1)
      have bN : (Kd.C n k).on ((Kd.C n k).on xs (-1)) 1 = xs := by
        rw [Kd.on_on hk, show (-1 : Int) + 1 = 0 by decide, Kd.on_zero hk hr]
      have bP := Kd.on_pl hk xs (-1)
      generalize (Kd.C n k).on xs (-1) = bs at *
      have hx4 := e4 _ _ hx
      have ho4 := ho.mono e4
      refine b_skip (b := !true) (Ex.refl H4) (et_not (et_B (ev_is_row hk hb4 bR (ea_cons (ev_var rfl) (ea_cons (ev_is (ev_len (ev_var rfl) (sq_of hx4)) (by rw [List.length_map, hlen])) (by walk_at "ev")))))) (fun H5 e5 => ?_)
      refine b_skip (b := !decide (bs = bs)) e5 (et_test (ev_opL1 (xs := bs.map V.int) (el_changed (d := (Kd.C n k)) (u := -1) (P := fun c => Mv (Kd.C n k) 1 c bs xs) hk hx4 (by omega) (fun c h => Mv.back hk bR h) (ev_var rfl) (by
          have h := ech_change_C (T := T) (E := E0) (ta := tVar 0) (te := tCB (rListS K) (tCons (tVar 8) tNil)) (σ := [some (.ref o), some (.ref r), some (.int c), some (.int (Kd.C n k).sz), some (.int (Kd.C n k).sg), some (onV (Kd.C n k)), some (.int (c % 6)), some (.int (c / 6)), some (.ref b), none, none, none]) f ho4 bR (ev_var rfl) (el_list (ev_var rfl) (sq_of hb4))
          rw [bN] at h
          exact h) fun _ _ => by walk_at "ev") (fun H1 _ => ev_var rfl) fun p' H1 hp' e1 => rv_neL (sq_of hp') (sq_of (e1 _ _ hb4)))) (fun H6 e6 => ?_) (by simp)
      exact b_retQ (e4.trans e6) nb (e6 _ _ hb4) (ev_var rfl) (by walk_at "ev") (q _ _ bR bP (by omega))
    have c1 : c % 6 ≠ 1 := by simpa using hb
    -- leaps
    refine b_when e (by walk_at "ev") (fun hb H3 e => ?_) (fun hb H3 e => ?_)
    · have h2 : c % 6 = 2 := by
        rw [Bool.and_eq_true] at hb
        simpa using hb.1
      exact b_retP e (ep_leapt_C f ho hx hr (t := (c / 6 / 3 % 5 - 2) * (Kd.C n k).sz + c / 6 / 15 % 3 - 1) (by walk_at "ev")) (q _ _ (Kd.on_row hk xs _) (Kd.on_pl hk xs _) (by omega))
    refine b_when e (by walk_at "ev") (fun hb H3 e => ?_) (fun hb H3 e => ?_)
    · have h2 : c % 6 = 2 := by simpa using hb
      exact b_retP e (ep_leapt_C f ho hx hr (t := c / 6 * c5 % (2 * 10 ^ 60 + 1) - 10 ^ 60) (ea_cons (ev_var rfl) (ea_cons (ev_var rfl) (ea_cons (ev_op (ev_op (ev_op (ev_var rfl) (ev_op ev_c ev_c rv_c5) (rv_mulX (div6_bits hc) c5_lt (by decide))) (ev_op (ev_op ev_c (ev_op ev_c ev_c rv_p60) (rv_I (cmul_l (by decide) (by decide)))) ev_c rv_I0) (rv_I (by decide))) (ev_op ev_c ev_c rv_p60) rv_I0) ea_nil)))) (q _ _ (Kd.on_row hk xs _) (Kd.on_pl hk xs _) (by omega))
    have c2 : c % 6 ≠ 2 := by simpa using hb
    refine b_when e (by walk_at "ev") (fun hb H3 e => ?_) (fun hb H3 e => ?_)
    · have h3 : c % 6 = 3 := by simpa using hb
      have hlp : EvL (tMeth T.c_Choosing "leap" (sp_Listing_leap_C T) [.int 1] E0 (tVar 0) (tCons (tCB (rListS K) (tCons (tVar 1) tNil)) tNil)) [some (.ref o), some (.ref r), some (.int c), some (.int (Kd.C n k).sz), some (.int (Kd.C n k).sg), some (onV (Kd.C n k)), some (.int (c % 6)), some (.int (c / 6)), none, none, none, none] H (((Kd.C n k).on xs 1).map V.int) :=
        el_methNd (ev_var rfl) hO (cF_m _ _ _) (el_list (ev_var rfl) (sq_of hx)) fun p H1 e h1 Q q => ⟨o, p, n, k, xs, 1, rfl, f, ho.mono e, sq_of h1, by omega, fun _ => q, fun z => absurd hr z⟩
      exact b_retP e (ep_tup hlp fun _ _ => ev_c) (q _ _ (Kd.on_row hk xs 1) (Kd.on_pl hk xs 1) (by omega))
    refine b_when e (by walk_at "ev") (fun hb H3 e => ?_) (fun hb H3 e => ?_)
    · have h4 : c % 6 = 4 := by simpa using hb
      have hnx : EvL (tMeth T.c_Choosing "next_row" (sp_Listing_next_row_C T) [] E0 (tVar 0) (tCons (tCB (rListS K) (tCons (tVar 1) tNil)) tNil)) [some (.ref o), some (.ref r), some (.int c), some (.int (Kd.C n k).sz), some (.int (Kd.C n k).sg), some (onV (Kd.C n k)), some (.int (c % 6)), some (.int (c / 6)), none, none, none, none] H (((Kd.C n k).on xs 1).map V.int) :=
        el_methN (ev_var rfl) hO (cF_m _ _ _) (el_list (ev_var rfl) (sq_of hx)) fun p H1 e h1 Q q => ⟨o, p, n, k, xs, rfl, f, ho.mono e, sq_of h1, by omega, fun _ => q, fun z => absurd hr z⟩
      exact b_retP e (ep_tup hnx fun _ _ => ev_c) (q _ _ (Kd.on_row hk xs 1) (Kd.on_pl hk xs 1) (by omega))
    -- any row, and the steps to it
    refine b_asgLS e (els_any hk hx hr (by walk_at "ev")) ?_
    rintro ys hy u H4 nu e4 hu
    have hx4 := e4 _ _ hx
    have hO4 := e4 _ _ hO
    refine b_asgLL (Ex.refl H4) (el_list (ev_var rfl) (sq_of hx4)) (el_list (ev_var rfl) (sq_of hu)) fun kp ka kb H5 nk e5 hkp hka hkb => ?_
    have hO5 := e5 _ _ hO4
    have hx5 := e5 _ _ hx4
    have hu5 := e5 _ _ hu
    have hyl := Kd.row_len hy
    have st : Ev (tMeth T.c_Choosing "steps_to" (sp_Listing_steps_to_C T) [] E0 (tVar 0) (tCons (tOp (rIxL K) (tVar 10) (tC (.int 0))) (tCons (tOp (rIxL K) (tVar 10) (tC (.int 1))) tNil))) [some (.ref o), some (.ref r), some (.int c), some (.int (Kd.C n k).sz), some (.int (Kd.C n k).sg), some (onV (Kd.C n k)), some (.int (c % 6)), some (.int (c / 6)), none, some (.ref u), some (.ref kp), none] H5 (.int (((Kd.C n k).pl ys - (Kd.C n k).pl xs) % (Kd.C n k).sz)) :=
      ev_meth (ev_var rfl) hO5 (cF_m _ _ _) (ea_cons (ev_op (ev_var rfl) ev_c (rv_ixL (sq_of hkp) (at_of (j := 0) rfl rfl))) (ea_cons (ev_op (ev_var rfl) ev_c (rv_ixL (sq_of hkp) (at_of (j := 1) rfl rfl))) ea_nil)) fun H1 e Q q => ⟨o, ka, kb, n, k, xs, ys, rfl, f, ((ho.mono e4).mono e5).mono e, sq_of (e _ _ hka), sq_of (e _ _ hkb), by omega, by omega, fun _ => q, fun z => absurd ⟨hr, hy⟩ z⟩
    refine b_asg (Ex.refl H5) st fun H6 e6 => ?_
    refine b_skip (b := !decide (xs = xs) || !decide (ys = ys)) e6 (et_or (et_test (ev_op (ev_op (ev_var rfl) ev_c (rv_ixL (sq_of hkp) (at_of (j := 0) rfl rfl))) (ev_var rfl) (rv_neL (sq_of hka) (sq_of hx5)))) fun _ => et_test (ev_op (ev_op (ev_var rfl) ev_c (rv_ixL (sq_of hkp) (at_of (j := 1) rfl rfl))) (ev_var rfl) (rv_neL (sq_of hkb) (sq_of hu5)))) (fun H7 e7 => ?_) (by simp)
    have py := Kd.pl_rng hk hy
    refine b_retQ ((e4.trans e5).trans e7) nu (e7 _ _ hu5) (ev_var rfl) (ev_var rfl) (q ys _ hy ?_ fun _ => mod_range _ m0)
    rw [Int.add_emod_emod, show (Kd.C n k).pl xs + ((Kd.C n k).pl ys - (Kd.C n k).pl xs) = (Kd.C n k).pl ys by omega, Int.emod_eq_of_lt py.1 py.2]
/-! #### _law_stands -/
theorem sc_law_stands : FnScope N_law_stands P_law_stands (defScope s_law_stands) := ⟨rfl, rfl, rfl, by decide +kernel, rfl, by decide +kernel, by decide +kernel⟩
def sp_law_stands_C (T : Txt K mg) : Sp := fun vs H Q _ => ∃ (o r : Addr) (n k : Nat) (xs : List Int), vs = [.ref o, .ref r, .int ((Kd.C n k).pl xs)] ∧ CForm n k ∧ IsC T H o n k ∧ H r = some (.lst (xs.map V.int)) ∧ (Kd.C n k).row xs ∧ RetV (.bl true) H Q
theorem ev_stands_C {T : Txt K mg} {σ : L2.St} {H : Hp} {tg : TA} {E : XK} {o r : Addr} {n k : Nat} {xs : List Int} (f : CForm n k) (ho : IsC T H o n k) (hx : H r = some (.lst (xs.map V.int))) (hr : (Kd.C n k).row xs) (ha : EvA tg σ H [.ref o, .ref r, .int ((Kd.C n k).pl xs)]) : Ev (tCall (sp_law_stands_C T) [] E tg) σ H (.bl true) :=
  ev_callF ha fun _ e _ q => ⟨o, r, n, k, xs, rfl, f, ho.mono e, e _ _ hx, hr, q⟩
theorem ok_law_stands_C (T : Txt K mg) : FnOk P w K mg base CX0 3 T.a_law_stands T.d_law_stands P_law_stands (sp_law_stands_C T) := by
  have G_Choosing_place_of := ok_Choosing_place_of (P := P) (w := w) (base := base) T
  have G_Choosing_row_at := ok_Choosing_row_at (P := P) (w := w) (base := base) T
  have G_law_whole := ok_law_whole (P := P) (w := w) (base := base) T
  refine (T.F_law_stands).ok sc_law_stands (fun vs H Q E h => ?len) (fun cdv A outer s H vs Q E hr h => ⟨_, (pss_cons (ps_set (i := 3) sc_law_stands.nd rfl (Or.inl rfl) (pe_callTy call_list_of (by rfl) T.g_list boot_list (pa_cons (pv 1) pa_nil)))
    (pss_cons (ps_set (i := 4) sc_law_stands.nd rfl (Or.inl rfl) (pe_meth (pv 0) T.cl_Choosing T.me_Choosing_place_of G_Choosing_place_of (hr.mono (by decide)) T.b_Choosing_place_of .nil passL (pa_cons (pv 3) pa_nil)))
    (pss_cons (ps_if (PW.pt (pw_or (pt_not (pt_val (pe_call G_law_whole (hr.mono (by decide)) (by rfl) T.m_law_whole T.F_law_whole.kp T.b_law_whole .nil pass0 (pa_cons (pv 4) pa_nil)))) (pw_or (pt_cmpR op_ne (pv 4) (pv 2) (nomark _)) (pw_or1 (pt_cmpR (op_neD hr.units) (pv 3) (pv 1) (nomark _)))))) (pss_one (ps_ret pe_bl)) pss_nil)
    (pss_cons (ps_set (i := 5) sc_law_stands.nd rfl (Or.inl rfl) (pe_meth (pv 0) T.cl_Choosing T.me_Choosing_row_at G_Choosing_row_at (hr.mono (by decide)) T.b_Choosing_row_at .nil passL (pa_cons (pv 2) pa_nil)))
    (pss_one (ps_ret (pe_and (pe_callB call_isi (by rfl) T.g_isinstance boot_isinstance (pa_cons (pv 5) (pa_cons (pe_bltn (v := .ty "list") rfl T.g_list boot_list rfl) pa_nil))) (pe_one (pe_cmpR (op_eqD hr.units) (pv 5) (pv 1) (nomark _)))))))))), ?read⟩)
  case len =>
    obtain ⟨o, r, n, k, xs, rfl, _⟩ := h
    rfl
  case read =>
    obtain ⟨o, r, n, k, xs, rfl, f, ho, hx, hr, q⟩ := h
    have hk := okF_C f
    obtain ⟨p0, p1⟩ := Kd.pl_rng hk hr
    have hat := Kd.at_pl hk hr
    show tSeq _ _ _ [some (.ref o), some (.ref r), some (.int ((Kd.C n k).pl xs)), none, none, none] H
    refine b_asgL (Ex.refl H) (el_list (ev_var rfl) (sq_of hx)) fun l H1 nl e hl => ?_
    have ho1 := ho.mono e
    have hx1 := e _ _ hx
    refine b_asg (Ex.refl H1) (v := .int ((Kd.C n k).pl xs)) (ev_Cplace f ho1 (sq_of hl) hr (ev_var rfl) (by walk_at "ev")) fun H2 e2 => ?_
    refine b_skip (b := !true || (!decide ((Kd.C n k).pl xs = (Kd.C n k).pl xs) || !decide (xs = xs))) e2 (et_or (et_not (et_B (ev_whole (by walk_at "ev")))) fun _ => et_or (et_test (ev_op (ev_var rfl) (ev_var rfl) rv_neI)) fun _ => et_test (ev_op (ev_var rfl) (ev_var rfl) (rv_neL (sq_of hl) (sq_of hx1)))) (fun H3 e3 => ?_) (by simp)
    have hrow := el_crow (T := T) (E := E0) (ta := tVar 0) (tg := tCons (tVar 2) tNil) (σ := [some (.ref o), some (.ref r), some (.int ((Kd.C n k).pl xs)), some (.ref l), some (.int ((Kd.C n k).pl xs)), none]) (p := (Kd.C n k).pl xs) f ho1 p0 p1 (ev_var rfl) (by walk_at "ev")
    refine b_asgL e3 (xs := ((Kd.C n k).at_ ((Kd.C n k).pl xs)).map V.int) hrow fun t H4 nt e4 ht => ?_
    rw [hat] at ht
    refine b_ret (Ex.refl H4) (v := .bl (true && decide (xs = xs))) (ev_andV (ev_isi (by walk_at "ev") (.lst ht) (kit_ty (by decide +kernel))) fun _ => ev_op (ev_var rfl) (ev_var rfl) (rv_eqL (sq_of ht) (sq_of (e4 _ _ hx1)))) ?_
    rw [decide_eq_true rfl]
    exact fun H5 e5 => q H5 ((e.trans e4).trans e5)
/-! #### _law_walked -/
theorem sc_law_walked : FnScope N_law_walked P_law_walked (defScope s_law_walked) := ⟨rfl, rfl, rfl, by decide +kernel, rfl, by decide +kernel, by decide +kernel⟩
theorem eps_deed_C {T : Txt K mg} {σ : L2.St} {H : Hp} {tg : TA} {E : XK} {o r : Addr} {c : Int} {n k : Nat} {xs : List Int} (hc : Few c) (f : CForm n k) (ho : IsC T H o n k) (hx : H r = some (.lst (xs.map V.int))) (hr : (Kd.C n k).row xs) (ha : EvA tg σ H [.ref o, .ref r, .int c, .int (Kd.C n k).sz, .int (Kd.C n k).sg, onV (Kd.C n k)]) :
    EvPS (tCall (sp_law_deed_C T) [] E tg) σ H (fun ys t => (Kd.C n k).row ys ∧ (Kd.C n k).pl ys = ((Kd.C n k).pl xs + t) % (Kd.C n k).sz ∧ (c % 6 = 5 → 0 ≤ t ∧ t < (Kd.C n k).sz)) := fun H1 e Q q =>
  ha H1 e _ fun H2 e2 => ⟨o, r, c, n, k, xs, rfl, hc, f, ho.mono (e.trans e2), (e.trans e2) _ _ hx, hr, fun ys t h1 h2 h3 p l H3 hl e3 h4 h5 => q ys t ⟨h1, h2, h3⟩ p l H3 (fresh_back e2 hl) (e2.trans e3) h4 h5⟩
def sp_law_walked_C (T : Txt K mg) : Sp := fun vs H Q _ => ∃ (o fr cr : Addr) (n k : Nat) (cs : List Int), vs = [.ref o, .int (Kd.C n k).sz, .ref fr, .ref cr, .int (Kd.C n k).sg, onV (Kd.C n k)] ∧ CForm n k ∧ IsC T H o n k ∧ H fr = some (.lst ((Kd.C n k).first.map V.int)) ∧ SqL K H cr (cs.map V.int) ∧ (∀ c ∈ cs, Few c) ∧ cs.length ≤ 1000 ∧ RetV (.bl true) H Q
theorem ok_law_walked_C (T : Txt K mg) : FnOk P w K mg base CX0 6 T.a_law_walked T.d_law_walked P_law_walked (sp_law_walked_C T) := by
  have G_Listing_leap_C := ok_Listing_leap_C (P := P) (w := w) (base := base) T
  have G_Listing_steps_to_C := ok_Listing_steps_to_C (P := P) (w := w) (base := base) T
  have G_law_deed_C := ok_law_deed_C (P := P) (w := w) (base := base) T
  have G_law_is_row := ok_law_is_row (P := P) (w := w) (base := base) T
  have G_law_stands_C := ok_law_stands_C (P := P) (w := w) (base := base) T
  have G_law_whole := ok_law_whole (P := P) (w := w) (base := base) T
  refine (T.F_law_walked).ok sc_law_walked (fun vs H Q E h => ?len) (fun cdv A outer s H vs Q E hr h => ⟨_, (pss_cons (ps_if (pt_not (pt_val (pe_callB call_isi (by rfl) T.g_isinstance boot_isinstance (pa_cons (pv 0) (pa_cons (pe_glob (v := .ref T.c_Listing) rfl T.m_Listing rfl) pa_nil))))) (pss_one (ps_ret pe_bl)) pss_nil)
    (pss_cons (ps_set (i := 6) sc_law_walked.nd rfl (Or.inl rfl) (pe_callTy call_list_of (by rfl) T.g_list boot_list (pa_cons (pv 2) pa_nil)))
    (pss_cons (ps_set (i := 7) sc_law_walked.nd rfl (Or.inl rfl) pe_int)
    (pss_cons (ps_set (i := 8) sc_law_walked.nd rfl (Or.inl rfl) (pe_lst pa_nil))
    (pss_cons (ps_set (i := 9) sc_law_walked.nd rfl (Or.inl rfl) (pe_lst pa_nil))
    (pss_cons (ps_set (i := 10) sc_law_walked.nd rfl (Or.inl rfl) (pe_lst pa_nil))
    (pss_cons (ps_for PassesOwn.never rfl (pi_list (pv 3)) (pg_name (i := 11) sc_law_walked.nd rfl (Or.inl rfl)) (pss_cons (ps_asg (pe_call G_law_deed_C (hr.mono (by decide)) (by rfl) T.m_law_deed T.F_law_deed.kp T.b_law_deed .nil pass0 (pa_cons (pv 0) (pa_cons (pv 6) (pa_cons (pv 11) (pa_cons (pv 1) (pa_cons (pv 4) (pa_cons (pv 5) pa_nil))))))) (pg_tup rfl (pgs_cons (pg_name (i := 6) sc_law_walked.nd rfl (Or.inl rfl)) (pgs_cons (pg_name (i := 12) sc_law_walked.nd rfl (Or.inl rfl)) pgs_nil))))
    (pss_cons (ps_if (PW.pt (pw_or (pt_cmpR op_isN (pv 6) pe_non (nomark _)) (pw_or (pt_not (pt_val (pe_call G_law_whole (hr.mono (by decide)) (by rfl) T.m_law_whole T.F_law_whole.kp T.b_law_whole .nil pass0 (pa_cons (pv 12) pa_nil)))) (pw_or1 (pt_not (pt_val (pe_call G_law_is_row (hr.mono (by decide)) (by rfl) T.m_law_is_row T.F_law_is_row.kp T.b_law_is_row .nil pass0 (pa_cons (pv 6) (pa_cons (pe_callB call_len_seq (by rfl) T.g_len boot_len (pa_cons (pv 2) pa_nil)) (pa_cons (pv 4) (pa_cons (pv 5) pa_nil))))))))))) (pss_one (ps_ret pe_bl)) pss_nil)
    (pss_cons (ps_if (PW.pt (pw_and (pt_cmpR op_eq (pe_op op_mod (pv 11) pe_int) pe_int (nomark _)) (pw_and1 (pt_not (pt_chain op_le op_lt pe_int (pv 12) (pv 1)))))) (pss_one (ps_ret pe_bl)) pss_nil)
    (pss_cons (ps_set (i := 7) sc_law_walked.nd rfl (Or.inl rfl) (pe_op op_mod (pe_op op_add (pv 7) (pv 12)) (pv 1)))
    (pss_cons (ps_expr (pe_bm PySem.F.plainAttrs_list PySem.F.slot_list_append PySem.F.type_list_append mt_append (pv 8) (pa_cons (pv 6) pa_nil)))
    (pss_cons (ps_expr (pe_bm PySem.F.plainAttrs_list PySem.F.slot_list_append PySem.F.type_list_append mt_append (pv 9) (pa_cons (pe_callTy call_list_of (by rfl) T.g_list boot_list (pa_cons (pv 6) pa_nil)) pa_nil)))
    (pss_cons (ps_expr (pe_bm PySem.F.plainAttrs_list PySem.F.slot_list_append PySem.F.type_list_append mt_append (pv 10) (pa_cons (pv 7) pa_nil)))
    (pss_one (ps_if (pt_not (pt_val (pe_call G_law_stands_C (hr.mono (by decide)) (by rfl) T.m_law_stands T.F_law_stands.kp T.b_law_stands .nil pass0 (pa_cons (pv 0) (pa_cons (pv 6) (pa_cons (pv 7) pa_nil)))))) (pss_one (ps_ret pe_bl)) pss_nil))))))))))
    (pss_cons (ps_set (i := 13) sc_law_walked.nd rfl (Or.inl rfl) (pe_meth (pv 0) T.cl_Choosing T.me_Choosing_leap G_Listing_leap_C (hr.mono (by decide)) T.b_Listing_leap .nil passL (pa_cons (pe_callTy call_list_of (by rfl) T.g_list boot_list (pa_cons (pv 6) pa_nil)) (pa_cons (pe_un un_neg (pv 7)) pa_nil))))
    (pss_cons (ps_set (i := 14) sc_law_walked.nd rfl (Or.inl rfl) (pe_meth (pv 0) T.cl_Choosing T.me_Choosing_leap G_Listing_leap_C (hr.mono (by decide)) T.b_Listing_leap .nil passL (pa_cons (pe_callTy call_list_of (by rfl) T.g_list boot_list (pa_cons (pv 2) pa_nil)) (pa_cons (pv 7) pa_nil))))
    (pss_cons (ps_if (PW.pt (pw_or (pt_not (pt_val (pe_callB call_isi (by rfl) T.g_isinstance boot_isinstance (pa_cons (pv 13) (pa_cons (pe_bltn (v := .ty "list") rfl T.g_list boot_list rfl) pa_nil))))) (pw_or (pt_not (pt_val (pe_callB call_isi (by rfl) T.g_isinstance boot_isinstance (pa_cons (pv 14) (pa_cons (pe_bltn (v := .ty "list") rfl T.g_list boot_list rfl) pa_nil))))) (pw_or (pt_cmpR (op_neD hr.units) (pv 13) (pv 2) (nomark _)) (pw_or1 (pt_cmpR (op_neD hr.units) (pv 14) (pv 6) (nomark _))))))) (pss_one (ps_ret pe_bl)) pss_nil)
    (pss_cons (ps_set (i := 15) sc_law_walked.nd rfl (Or.inl rfl) (pe_meth (pv 0) T.cl_Choosing T.me_Choosing_steps_to G_Listing_steps_to_C (hr.mono (by decide)) T.b_Listing_steps_to .nil passL (pa_cons (pe_callTy call_list_of (by rfl) T.g_list boot_list (pa_cons (pv 2) pa_nil)) (pa_cons (pe_callTy call_list_of (by rfl) T.g_list boot_list (pa_cons (pv 6) pa_nil)) pa_nil))))
    (pss_cons (ps_if (PW.pt (pw_or (pt_not (pt_val (pe_call G_law_whole (hr.mono (by decide)) (by rfl) T.m_law_whole T.F_law_whole.kp T.b_law_whole .nil pass0 (pa_cons (pv 15) pa_nil)))) (pw_or (pt_cmpR op_ne (pv 15) (pv 7) (nomark _)) (pw_or1 (pt_cmpR (op_neD hr.units) (pv 8) (pv 9) (nomark _)))))) (pss_one (ps_ret pe_bl)) pss_nil)
    (pss_cons (ps_for PassesOwn.never rfl (pi_range1 rfl T.g_range (pa_cons (pe_callB call_len_seq (by rfl) T.g_len boot_len (pa_cons (pv 9) pa_nil)) pa_nil)) (pg_name (i := 16) sc_law_walked.nd rfl (Or.inl rfl)) (pss_cons (ps_set (i := 15) sc_law_walked.nd rfl (Or.inl rfl) (pe_meth (pv 0) T.cl_Choosing T.me_Choosing_steps_to G_Listing_steps_to_C (hr.mono (by decide)) T.b_Listing_steps_to .nil passL (pa_cons (pe_callTy call_list_of (by rfl) T.g_list boot_list (pa_cons (pv 6) pa_nil)) (pa_cons (pe_callTy call_list_of (by rfl) T.g_list boot_list (pa_cons (pe_ix ix_list (pv 9) (pv 16) (fun _ _ => rfl)) pa_nil)) pa_nil))))
    (pss_one (ps_if (PW.pt (pw_or (pt_not (pt_val (pe_call G_law_whole (hr.mono (by decide)) (by rfl) T.m_law_whole T.F_law_whole.kp T.b_law_whole .nil pass0 (pa_cons (pv 15) pa_nil)))) (pw_or1 (pt_cmpR op_ne (pv 15) (pe_op op_mod (pe_op op_sub (pe_ix ix_list (pv 10) (pv 16) (fun _ _ => rfl)) (pv 7)) (pv 1)) (nomark _))))) (pss_one (ps_ret pe_bl)) pss_nil))))
    (pss_one (ps_ret (pe_cmpR (op_eqD hr.units) (pv 8) (pv 9) (nomark _))))))))))))))))), ?read⟩)
  case len =>
    obtain ⟨o, fr, cr, n, k, cs, rfl, _⟩ := h
    rfl
  case read =>
    obtain ⟨o, fr, cr, n, k, cs, rfl, f, ho, hf, hc, hfew, hcl, q⟩ := h
    have hk := okF_C f
    have fR := Kd.first_row hk
    have fP := Kd.first_pl hk
    have flen := Kd.row_len fR
    have hn := Kd.len_le hk
    have m0 := Kd.sz_pos hk
    obtain ⟨dx, hO⟩ := id ho
    show tSeq _ _ _ [some (.ref o), some (.int (Kd.C n k).sz), some (.ref fr), some (.ref cr), some (.int (Kd.C n k).sg), some (onV (Kd.C n k)), none, none, none, none, none, none, none, none, none, none, none] H
    refine b_skip (b := !true) (Ex.refl H) (et_not (et_B (ev_isiO (by walk_at "ev") (TyOf.ins hO T.cl_Choosing T.ca_Choosing T.gd_class T.tk_class T.mo_Choosing) T.ki_Choosing))) (fun H1 e1 => ?_)
    refine b_asgL e1 (el_list (ev_var rfl) (sq_of hf)) fun l0 H2 nl0 e2 hl0 => ?_
    refine b_asg (Ex.refl H2) (v := .int 0) ev_c fun H3 e3 => ?_
    refine b_asgL e3 (xs := []) (el_lst ea_nil (by simp)) fun hd H4 nhd e4 hhd => ?_
    refine b_asgL (Ex.refl H4) (xs := []) (el_lst ea_nil (by simp)) fun kp H5 nkp e5 hkp => ?_
    refine b_asgL (Ex.refl H5) (xs := []) (el_lst ea_nil (by simp)) fun pc H6 npc e6 hpc => ?_
    have n1 : hd ≠ kp := ne_of_none hhd nkp
    have n2 : hd ≠ pc := ne_of_none (e5 _ _ hhd) npc
    have n3 : kp ≠ pc := ne_of_none hkp npc
    have fkp : H2 kp = none := fresh_back e4 nkp
    have fpc : H2 pc = none := fresh_back (e4.trans e5) npc
    have ho2 := ho.mono e2
    have hf2 := e2 _ _ hf
    have hc2 := ex_l e2 hc
    have notA : ∀ {a : Addr}, a ≠ hd → a ≠ kp → a ≠ pc → a ∉ [hd, kp, pc] := fun h1 h2 h3 h => by
      simp at h
      rcases h with h | h | h
      · exact h1 h
      · exact h2 h
      · exact h3 h
    have isA : ∀ {a : Addr}, a ∉ [hd, kp, pc] → a ≠ hd ∧ a ≠ kp ∧ a ≠ pc := fun h => by
      simp at h
      exact h
    refine b_forLn (Ex.refl H6) (ev_var rfl) (ex_l ((e4.trans e5).trans e6) hc2) (fun i σ' H' => ∃ (l : Addr) (xs : List Int) (ls ms : List V) (xss : List (List Int)) (u1 u2 : Option V), σ' = [some (.ref o), some (.int (Kd.C n k).sz), some (.ref fr), some (.ref cr), some (.int (Kd.C n k).sg), some (onV (Kd.C n k)), some (.ref l), some (.int ((Kd.C n k).pl xs)), some (.ref hd), some (.ref kp), some (.ref pc), u1, u2, none, none, none, none] ∧ Ex H2 H' ∧ H' l = some (.lst (xs.map V.int)) ∧ l ∉ [hd, kp, pc] ∧ (Kd.C n k).row xs ∧
        H' hd = some (.lst ls) ∧ H' kp = some (.lst ms) ∧ H' pc = some (.lst ((xss.map (Kd.C n k).pl).map V.int)) ∧ RowsAt H' [hd, kp, pc] ls xss ∧ RowsAt H' [hd, kp, pc] ms xss ∧ (∀ ys ∈ xss, (Kd.C n k).row ys) ∧ xss.length = i)
      (fun H' e' => ⟨l0, (Kd.C n k).first, [], [], [], none, none, by rw [fP]; rfl, ((e4.trans e5).trans e6).trans e', e' _ _ (e6 _ _ (e5 _ _ (e4 _ _ hl0))), notA (ne_of_none hl0 nhd) (ne_of_none hl0 fkp) (ne_of_none hl0 fpc), fR, e' _ _ (e6 _ _ (e5 _ _ hhd)), e' _ _ (e6 _ _ hkp), e' _ _ hpc, trivial, trivial, (fun _ h => by cases h), rfl⟩)
      (fun i σ' H' _ ⟨_, _, _, _, _, _, _, _, e', _⟩ => ex_l e' hc2) ?_ ?_
    · rintro i x σ' H' hi ⟨l, xs, ls, ms, xss, u1, u2, rfl, e', hl, hlA, hr, hH, hM, hP, rH, rM, hall, hlen⟩
      obtain ⟨c, hic, rfl, hcc⟩ := int_item hi
      have hfc : Few c := hcc ▸ hfew _ (List.getElem_mem hic)
      show tSeq _ _ _ [some (.ref o), some (.int (Kd.C n k).sz), some (.ref fr), some (.ref cr), some (.int (Kd.C n k).sg), some (onV (Kd.C n k)), some (.ref l), some (.int ((Kd.C n k).pl xs)), some (.ref hd), some (.ref kp), some (.ref pc), some (.int c), u2, none, none, none, none] H'
      refine b_asgPS (Ex.refl H') (eps_deed_C hfc f (ho2.mono e') hl hr (by walk_at "ev")) ?_
      rintro ys t ⟨yR, yP, y5⟩ l2 H7 nl2 e7 hl2
      have l2A : l2 ≠ hd ∧ l2 ≠ kp ∧ l2 ≠ pc := ⟨(ne_of_none hH nl2).symm, (ne_of_none hM nl2).symm, (ne_of_none hP nl2).symm⟩
      have hf7 := e7 _ _ (e' _ _ hf2)
      refine b_skip (b := false || (!true || !true)) (Ex.refl H7) (et_or (et_test (ev_op (ev_var rfl) ev_c (rv_isNb (b := false) rfl))) fun _ => et_or (et_not (et_B (ev_whole (by walk_at "ev")))) fun _ => et_not (et_B (ev_is_row hk hl2 yR (ea_cons (ev_var rfl) (ea_cons (ev_is (ev_len (ev_var rfl) (sq_of hf7)) (by rw [List.length_map, flen])) (by walk_at "ev")))))) (fun H8 e8 => ?_)
      refine b_skip (b := decide (c % 6 = 5) && !(decide (0 ≤ t) && decide (t < (Kd.C n k).sz))) e8 (et_and (by walk_at "ev") fun _ => et_not (by walk_at "ev")) (fun H9 e9 => ?_) (by
        by_cases h : c % 6 = 5
        · obtain ⟨a, b⟩ := y5 h
          rw [decide_eq_true a, decide_eq_true b]
          simp
        · rw [decide_eq_false h]
          rfl)
      refine b_asg e9 (v := .int ((Kd.C n k).pl ys)) (ev_is (ev_op (ev_op (ev_var rfl) (ev_var rfl) rv_I0) (ev_var rfl) (rv_I m0)) (congrArg V.int yP.symm)) fun H9 e9 => ?_
      show tSeq _ _ _ [some (.ref o), some (.int (Kd.C n k).sz), some (.ref fr), some (.ref cr), some (.int (Kd.C n k).sg), some (onV (Kd.C n k)), some (.ref l2), some (.int ((Kd.C n k).pl ys)), some (.ref hd), some (.ref kp), some (.ref pc), some (.int c), some (.int t), none, none, none, none] H9
      have e79 := e7.trans e9
      have lH := rH.len
      have lM := rM.len
      refine q_app (e79 _ _ hH) (ev_var rfl) (ev_var rfl) (by omega) fun H10 e10 => ?_
      have pa : ∀ a u, a ≠ hd → H9 a = some u → (upd H10 hd (.lst (ls ++ [V.ref l2]))) a = some u := fun a u h1 h2 => by
        rw [upd_ne h1]
        exact e10 _ _ h2
      have ha : (upd H10 hd (.lst (ls ++ [V.ref l2]))) hd = some (.lst (ls ++ [V.ref l2])) := upd_same
      generalize upd H10 hd (.lst (ls ++ [V.ref l2])) = Ha at *
      refine q_appL (pa kp _ n1.symm (e79 _ _ hM)) (ev_var rfl) (el_list (ev_var rfl) (sq_of (pa l2 _ l2A.1 (e9 _ _ hl2)))) (by omega) fun p H11 np e11 hp => ?_
      have p1 : p ≠ hd := (ne_of_none ha np).symm
      have p2 : p ≠ kp := (ne_of_none (pa kp _ n1.symm (e79 _ _ hM)) np).symm
      have p3 : p ≠ pc := (ne_of_none (pa pc _ n2.symm (e79 _ _ hP)) np).symm
      have pb : ∀ a u, a ≠ kp → Ha a = some u → (upd H11 kp (.lst (ms ++ [V.ref p]))) a = some u := fun a u h1 h2 => by
        rw [upd_ne h1]
        exact e11 _ _ h2
      have hb : (upd H11 kp (.lst (ms ++ [V.ref p]))) kp = some (.lst (ms ++ [V.ref p])) := upd_same
      have hpb : (upd H11 kp (.lst (ms ++ [V.ref p]))) p = some (.lst (ys.map V.int)) := by
        rw [upd_ne p2]
        exact hp
      generalize upd H11 kp (.lst (ms ++ [V.ref p])) = Hb at *
      refine q_app (pb pc _ n3.symm (pa pc _ n2.symm (e79 _ _ hP))) (ev_var rfl) (ev_var rfl) (by simp; omega) fun H12 e12 => ?_
      have pd : ∀ a u, a ≠ pc → Hb a = some u → (upd H12 pc (.lst ((xss.map (Kd.C n k).pl).map V.int ++ [V.int ((Kd.C n k).pl ys)]))) a = some u := fun a u h1 h2 => by
        rw [upd_ne h1]
        exact e12 _ _ h2
      have hd' : (upd H12 pc (.lst ((xss.map (Kd.C n k).pl).map V.int ++ [V.int ((Kd.C n k).pl ys)]))) pc = some (.lst (((xss ++ [ys]).map (Kd.C n k).pl).map V.int)) := by
        rw [upd_same, List.map_append, List.map_append]
        rfl
      generalize upd H12 pc (.lst ((xss.map (Kd.C n k).pl).map V.int ++ [V.int ((Kd.C n k).pl ys)])) = Hc at *
      have all3 : ∀ a u, a ∉ [hd, kp, pc] → H' a = some u → Hc a = some u := fun a u h h2 => by
        obtain ⟨h3, h4, h5⟩ := isA h
        exact pd a u h5 (pb a u h4 (pa a u h3 (e79 _ _ h2)))
      have eC : Ex H2 Hc := fun a u h => all3 a u (notA (ne_of_none h nhd) (ne_of_none h fkp) (ne_of_none h fpc)) (e' _ _ h)
      have hl2C : Hc l2 = some (.lst (ys.map V.int)) := pd _ _ l2A.2.2 (pb _ _ l2A.2.1 (pa _ _ l2A.1 (e9 _ _ hl2)))
      refine l_when (b := !true) (Ex.refl Hc) (et_not (et_B (ev_stands_C f (ho2.mono eC) hl2C yR (by walk_at "ev")))) (fun hb => by cases hb) (fun _ H13 e13 => ⟨l2, ys, ls ++ [.ref l2], ms ++ [.ref p], xss ++ [ys], _, _, rfl, eC.trans e13, e13 _ _ hl2C, notA l2A.1 l2A.2.1 l2A.2.2, yR, e13 _ _ (pd _ _ n2 (pb _ _ n1 ha)), e13 _ _ (pd _ _ n3 hb), e13 _ _ hd', ?_, ?_, ?_, ?_⟩)
      · exact RowsAt.snoc (e13 _ _ hl2C) (notA l2A.1 l2A.2.1 l2A.2.2) (rH.mono fun a u h h2 => e13 _ _ (all3 a u h h2))
      · exact RowsAt.snoc (e13 _ _ (pd _ _ p3 hpb)) (notA p1 p2 p3) (rM.mono fun a u h h2 => e13 _ _ (all3 a u h h2))
      · intro zs hz
        rcases List.mem_append.mp hz with hz | hz
        · exact hall zs hz
        · rw [List.mem_singleton.mp hz]
          exact yR
      · rw [List.length_append, hlen]
        rfl
    · rintro σ' H' ⟨l, xs, ls, ms, xss, u1, u2, rfl, e', hl, hlA, hr, hH, hM, hP, rH, rM, hall, hlen⟩
      have ho3 := ho2.mono e'
      have hf3 := e' _ _ hf2
      obtain ⟨dx3, hO3⟩ := id ho3
      have xlen := Kd.row_len hr
      have xP := Kd.pl_rng hk hr
      have bk : (Kd.C n k).on xs (-(Kd.C n k).pl xs) = (Kd.C n k).first := by
        show (Kd.C n k).at_ (((Kd.C n k).pl xs + -(Kd.C n k).pl xs) % (Kd.C n k).sz) = _
        rw [Int.add_right_neg, Int.zero_emod, Kd.first_at hk]
      have fw : (Kd.C n k).on (Kd.C n k).first ((Kd.C n k).pl xs) = xs := by
        show (Kd.C n k).at_ (((Kd.C n k).pl (Kd.C n k).first + (Kd.C n k).pl xs) % (Kd.C n k).sz) = _
        rw [fP, Int.zero_add, Int.emod_eq_of_lt xP.1 xP.2, Kd.at_pl hk hr]
      have lM := rM.len
      have lH := rH.len
      rw [List.length_map] at hlen
      have hb1 : EvL (tMeth T.c_Choosing "leap" (sp_Listing_leap_C T) [] E0 (tVar 0) (tCons (tCB (rListS K) (tCons (tVar 6) tNil)) (tCons (tUn (rU fun i => .int (-i)) (tVar 7)) tNil))) [some (.ref o), some (.int (Kd.C n k).sz), some (.ref fr), some (.ref cr), some (.int (Kd.C n k).sg), some (onV (Kd.C n k)), some (.ref l), some (.int ((Kd.C n k).pl xs)), some (.ref hd), some (.ref kp), some (.ref pc), u1, u2, none, none, none, none] H' ((Kd.C n k).first.map V.int) :=
        el_methN2 (ev_var rfl) hO3 (cF_m _ _ _) (el_list (ev_var rfl) (sq_of hl)) (fun _ _ => ev_un0 (ev_var rfl)) fun p H1 e h1 Q q => ⟨o, p, n, k, xs, -(Kd.C n k).pl xs, rfl, f, ho3.mono e, sq_of h1, by omega, fun _ => by
          rw [← bk] at q
          exact q, fun z => absurd hr z⟩
      refine b_asgL (Ex.refl H') hb1 fun b1 H7 nb1 e7 hb7 => ?_
      have hb2 : EvL (tMeth T.c_Choosing "leap" (sp_Listing_leap_C T) [] E0 (tVar 0) (tCons (tCB (rListS K) (tCons (tVar 2) tNil)) (tCons (tVar 7) tNil))) [some (.ref o), some (.int (Kd.C n k).sz), some (.ref fr), some (.ref cr), some (.int (Kd.C n k).sg), some (onV (Kd.C n k)), some (.ref l), some (.int ((Kd.C n k).pl xs)), some (.ref hd), some (.ref kp), some (.ref pc), u1, u2, some (.ref b1), none, none, none] H7 (xs.map V.int) :=
        el_methN2 (ev_var rfl) (e7 _ _ hO3) (cF_m _ _ _) (el_list (ev_var rfl) (sq_of (e7 _ _ hf3))) (fun _ _ => ev_var rfl) fun p H1 e h1 Q q => ⟨o, p, n, k, (Kd.C n k).first, (Kd.C n k).pl xs, rfl, f, (ho3.mono e7).mono e, sq_of h1, by omega, fun _ => by
          rw [← fw] at q
          exact q, fun z => absurd fR z⟩
      refine b_asgL (Ex.refl H7) hb2 fun b2 H8 nb2 e8 hb8 => ?_
      have e78 := e7.trans e8
      have hf8 := e78 _ _ hf3
      have hl8 := e78 _ _ hl
      have ho8 := ho3.mono e78
      have hO8 := e78 _ _ hO3
      have hbb := e8 _ _ hb7
      refine b_skip (b := !true || (!true || (!decide ((Kd.C n k).first = (Kd.C n k).first) || !decide (xs = xs)))) (Ex.refl H8) (et_or (et_not (et_B (ev_isi (by walk_at "ev") (.lst hbb) (kit_ty (by decide +kernel))))) fun _ => et_or (et_not (et_B (ev_isi (by walk_at "ev") (.lst hb8) (kit_ty (by decide +kernel))))) fun _ => et_or (et_test (ev_op (ev_var rfl) (ev_var rfl) (rv_neL (sq_of hbb) (sq_of hf8)))) fun _ => et_test (ev_op (ev_var rfl) (ev_var rfl) (rv_neL (sq_of hb8) (sq_of hl8)))) (fun H9 e9 => ?_) (by simp)
      have hst : Ev (tMeth T.c_Choosing "steps_to" (sp_Listing_steps_to_C T) [] E0 (tVar 0) (tCons (tCB (rListS K) (tCons (tVar 2) tNil)) (tCons (tCB (rListS K) (tCons (tVar 6) tNil)) tNil))) [some (.ref o), some (.int (Kd.C n k).sz), some (.ref fr), some (.ref cr), some (.int (Kd.C n k).sg), some (onV (Kd.C n k)), some (.ref l), some (.int ((Kd.C n k).pl xs)), some (.ref hd), some (.ref kp), some (.ref pc), u1, u2, some (.ref b1), some (.ref b2), none, none] H8 (.int ((Kd.C n k).pl xs)) :=
        ev_methNN (ev_var rfl) hO8 (cF_m _ _ _) (el_list (ev_var rfl) (sq_of hf8)) (el_list (ev_var rfl) (sq_of hl8)) fun p v H1 e h1 h2 Q q => ⟨o, p, v, n, k, (Kd.C n k).first, xs, rfl, f, ho8.mono e, sq_of h1, sq_of h2, by omega, by omega, fun _ => by
          have e0 : ((Kd.C n k).pl xs - (Kd.C n k).pl (Kd.C n k).first) % (Kd.C n k).sz = (Kd.C n k).pl xs := by rw [fP, Int.sub_zero, Int.emod_eq_of_lt xP.1 xP.2]
          rw [← e0] at q
          exact q, fun z => absurd ⟨fR, hr⟩ z⟩
      refine b_asg e9 hst fun H10 e10 => ?_
      have hH8 := e78 _ _ hH
      have hM8 := e78 _ _ hM
      have hP8 := e78 _ _ hP
      have rH8 := rH.mono fun a u _ h => e78 a u h
      have rM8 := rM.mono fun a u _ h => e78 a u h
      have cmpN : ∀ {σ : L2.St}, σ[8]? = some (some (V.ref hd)) → σ[9]? = some (some (V.ref kp)) → Ev (tOp (rNeD K) (tVar 8) (tVar 9)) σ H8 (.bl false) := fun h1 h2 => ev_op (ev_var h1) (ev_var h2) fun H1 e Q q => rv_neRows (ex_l e (sq_of hH8)) (ex_l e (sq_of hM8)) (rH8.mono fun a u _ h => e a u h) (rM8.mono fun a u _ h => e a u h) trivial Q (q H1 (Ex.refl H1))
      refine b_skip (b := !true || (!decide ((Kd.C n k).pl xs = (Kd.C n k).pl xs) || false)) e10 (et_or (et_not (et_B (ev_whole (by walk_at "ev")))) fun _ => et_or (et_test (ev_op (ev_var rfl) (ev_var rfl) rv_neI)) fun _ => et_test (cmpN rfl rfl)) (fun H11 e11 => ?_) (by simp)
      refine b_forR1 (n := (ms.length : Int)) e11 (ea_cons (ev_len (ev_var rfl) (sq_of hM8)) ea_nil) (by omega) (by omega) (fun i σ' H'' => ∃ (v1 v2 : Option V), σ' = [some (.ref o), some (.int (Kd.C n k).sz), some (.ref fr), some (.ref cr), some (.int (Kd.C n k).sg), some (onV (Kd.C n k)), some (.ref l), some (.int ((Kd.C n k).pl xs)), some (.ref hd), some (.ref kp), some (.ref pc), u1, u2, some (.ref b1), some (.ref b2), v1, v2] ∧ Ex H8 H'') (fun H'' e'' => ⟨_, none, rfl, e''⟩) ?_ ?_
      · rintro i σ' H'' hi ⟨v1, v2, rfl, e''⟩
        show tSeq _ _ _ [some (.ref o), some (.int (Kd.C n k).sz), some (.ref fr), some (.ref cr), some (.int (Kd.C n k).sg), some (onV (Kd.C n k)), some (.ref l), some (.int ((Kd.C n k).pl xs)), some (.ref hd), some (.ref kp), some (.ref pc), u1, u2, some (.ref b1), some (.ref b2), v1, some (.int (i : Int))] H''
        have hix : i < xss.length := by omega
        obtain ⟨m, hm1, hm2⟩ := RowsAt.get rM8 (List.getElem?_eq_getElem hix)
        have yR := hall xss[i] (List.getElem_mem hix)
        have ylen := Kd.row_len yR
        have pi : ((xss.map (Kd.C n k).pl).map V.int)[i]? = some (V.int ((Kd.C n k).pl xss[i])) := by
          rw [List.getElem?_map, List.getElem?_map, List.getElem?_eq_getElem hix]
          rfl
        generalize xss[i] = ys at *
        have hst2 : Ev (tMeth T.c_Choosing "steps_to" (sp_Listing_steps_to_C T) [] E0 (tVar 0) (tCons (tCB (rListS K) (tCons (tVar 6) tNil)) (tCons (tCB (rListS K) (tCons (tOp (rIxL K) (tVar 9) (tVar 16)) tNil)) tNil))) [some (.ref o), some (.int (Kd.C n k).sz), some (.ref fr), some (.ref cr), some (.int (Kd.C n k).sg), some (onV (Kd.C n k)), some (.ref l), some (.int ((Kd.C n k).pl xs)), some (.ref hd), some (.ref kp), some (.ref pc), u1, u2, some (.ref b1), some (.ref b2), v1, some (.int (i : Int))] H8 (.int (((Kd.C n k).pl ys - (Kd.C n k).pl xs) % (Kd.C n k).sz)) :=
          ev_methNN (ev_var rfl) hO8 (cF_m _ _ _) (el_list (ev_var rfl) (sq_of hl8)) (el_list (ev_op (ev_var rfl) (ev_var rfl) (rv_ixL (sq_of hM8) (atI_nat hm1))) (sq_of hm2)) fun p v H1 e h1 h2 Q q => ⟨o, p, v, n, k, xs, ys, rfl, f, ho8.mono e, sq_of h1, sq_of h2, by omega, by omega, fun _ => q, fun z => absurd ⟨hr, yR⟩ z⟩
        refine b_asg e'' hst2 fun H12 e12 => ?_
        refine l_when (b := !true || !decide (((Kd.C n k).pl ys - (Kd.C n k).pl xs) % (Kd.C n k).sz = ((Kd.C n k).pl ys - (Kd.C n k).pl xs) % (Kd.C n k).sz)) e12 (et_or (et_not (et_B (ev_whole (by walk_at "ev")))) fun _ => et_test (ev_op (ev_var rfl) (ev_op (ev_op (ev_op (ev_var rfl) (ev_var rfl) (rv_ixL (sq_of hP8) (atI_nat pi))) (ev_var rfl) rv_I0) (ev_var rfl) (rv_I m0)) rv_neI)) (fun hb => by simp at hb) (fun _ H13 e13 => ⟨_, _, rfl, e13⟩)
      · rintro σ' H'' ⟨v1, v2, rfl, e''⟩
        refine b_ret e'' (v := .bl true) (ev_op (ev_var rfl) (ev_var rfl) fun H1 e Q q => rv_eqRows (ex_l e (sq_of hH8)) (ex_l e (sq_of hM8)) (rH8.mono fun a u _ h => e a u h) (rM8.mono fun a u _ h => e a u h) Q (q H1 (Ex.refl H1))) ?_
        exact fun H14 e14 => q H14 (((e2.trans e').trans e78).trans e14)
/-! #### _law_signs -/
theorem sc_law_signs : FnScope N_law_signs P_law_signs (defScope s_law_signs) := ⟨rfl, rfl, rfl, by decide +kernel, rfl, by decide +kernel, by decide +kernel⟩
def sp_law_signs (_ : Txt K mg) : Sp := fun vs H Q _ => ∃ (c : Int), vs = [.int c] ∧ RetS (fun v => ∃ s : Int, v = .int s ∧ 2 ≤ s ∧ s ≤ 1000000000000) H Q
theorem es_signs {T : Txt K mg} {σ : L2.St} {H : Hp} {tg : TA} {E : XK} {c : Int} (ha : EvA tg σ H [.int c]) : EvS (tCall (sp_law_signs T) [] E tg) σ H (fun v => ∃ s : Int, v = .int s ∧ 2 ≤ s ∧ s ≤ 1000000000000) :=
  es_callF ha fun _ _ _ q => ⟨c, rfl, q⟩
theorem ok_law_signs (T : Txt K mg) : FnOk P w K mg base CX0 1 T.a_law_signs T.d_law_signs P_law_signs (sp_law_signs T) := by
  refine (T.F_law_signs).ok sc_law_signs (fun vs H Q E h => ?len) (fun cdv A outer s H vs Q E hr h => ⟨_, (pss_cons (ps_if (pt_cmpR op_eq (pe_op op_mod (pv 0) pe_int) pe_int (nomark _)) (pss_one (ps_ret pe_int)) pss_nil)
    (pss_cons (ps_if (pt_cmpR op_eq (pe_op op_mod (pv 0) pe_int) pe_int (nomark _)) (pss_one (ps_ret (pe_op op_add pe_int (pe_op op_mod (pe_op op_fdivW (pv 0) pe_int) pe_int)))) pss_nil)
    (pss_one (ps_ret (pe_op op_add pe_int (pe_op op_mod (pe_op op_mul (pe_op op_fdivW (pv 0) pe_int) pe_int) (pe_op op_sub (pe_op op_pow pe_int pe_int) pe_int))))))), ?read⟩)
  case len =>
    obtain ⟨c, rfl, _⟩ := h
    rfl
  case read =>
    obtain ⟨c, rfl, q⟩ := h
    show tSeq _ _ _ [some (.int c)] H
    have done : ∀ z : Int, 2 ≤ z → z ≤ 1000000000000 → ∀ H2, Ex H H2 → Q (.int z) H2 := fun z h0 h1 H2 e => q (.int z) ⟨z, rfl, h0, h1⟩ H2 e
    refine b_when (Ex.refl H) (by walk_at "ev") (fun hb H1 e1 => ?_) (fun hb H1 e1 => ?_)
    · exact b_ret e1 ev_c (done _ (by omega) (by omega))
    refine b_when e1 (by walk_at "ev") (fun hb H1 e1 => ?_) (fun hb H1 e1 => ?_)
    · exact b_ret e1 (v := .int (3 + c / 3 % 9)) (by walk_at "ev") (done _ (by omega) (by omega))
    · refine b_ret e1 (v := .int (2 + c / 3 * 982451653 % (1000000000000 - 1))) ?_ (done _ (by omega) (by omega))
      exact ev_op ev_c (ev_op (by walk_at "ev") (ev_op (by walk_at "ev") ev_c rv_I0) (rv_I (by decide))) rv_I0
/-! #### Turning.row_at -/
theorem sc_Turning_row_at : FnScope N_Turning_row_at P_Turning_row_at (defScope s_Turning_row_at) := ⟨rfl, rfl, rfl, by decide +kernel, rfl, by decide +kernel, by decide +kernel⟩
def sp_Turning_row_at (T : Txt K mg) : Sp := fun vs H Q E => ∃ (o : Addr) (s : Int) (n : Nat) (p : Int), vs = [.ref o, .int p] ∧ TForm s n ∧ IsT T H o s n ∧
  (0 ≤ p ∧ p < s ^ n → RetL ((trow s n p).map V.int) H Q) ∧ (¬ (0 ≤ p ∧ p < s ^ n) → RetX T.c_NoPlace H E)
theorem el_trow {T : Txt K mg} {σ : L2.St} {H : Hp} {ta : TE} {tg : TA} {E : XK} {o : Addr} {s : Int} {n : Nat} {p : Int} (f : TForm s n) (ho : IsT T H o s n) (p0 : 0 ≤ p) (p1 : p < s ^ n) (hv : Ev ta σ H (.ref o)) (ha : EvA tg σ H [.int p]) :
    EvL (tMeth T.c_Turning "row_at" (sp_Turning_row_at T) [] E ta tg) σ H ((trow s n p).map V.int) := by
  obtain ⟨dx, h⟩ := ho
  exact el_meth hv h (tF_no _ _ _ (by decide +kernel) (by decide +kernel) (by decide +kernel)) ha fun H1 e Q q => ⟨o, s, n, p, rfl, f, ⟨dx, e _ _ h⟩, fun _ => q, fun z => absurd ⟨p0, p1⟩ z⟩
theorem ok_Turning_row_at (T : Txt K mg) : FnOk P w K mg base (L2.CX P w) 1 T.a_Turning_row_at T.d_Turning_row_at P_Turning_row_at (sp_Turning_row_at T) := by
  refine (T.F_Turning_row_at).okX sc_Turning_row_at (fun vs H Q E h => ?len) (fun cdv A outer s H vs Q E hr h => ⟨_, (pss_cons (ps_if (pt_not (pt_chain op_le op_lt pe_int (pv 1) (pe_fld (pv 0) (by rfl)))) (pss_one (ps_raise rfl (takes_of rfl rfl rfl rfl) (pmk_own PySem.F.excBase_ValueError T.x_NoPlace T.m_NoPlace T.k_NoPlace (raises_own T.bE_NoPlace T.tE_NoPlace) rfl))) pss_nil)
    (pss_cons (ps_set (i := 2) sc_Turning_row_at.nd rfl (Or.inl rfl) (pe_lst pa_nil))
    (pss_cons (ps_asg (pe_callB call_divmodW (by rfl) T.g_divmod boot_divmod (pa_cons (pv 1) (pa_cons (pe_fld (pv 0) (by rfl)) pa_nil))) (pg_tup rfl (pgs_cons (pg_name (i := 3) sc_Turning_row_at.nd rfl (Or.inl rfl)) (pgs_cons (pg_name (i := 4) sc_Turning_row_at.nd rfl (Or.inl rfl)) pgs_nil))))
    (pss_cons (ps_for (passes_of rfl) rfl (pi_range1 rfl T.g_range (pa_cons (pe_fld (pv 0) (by rfl)) pa_nil)) (pg_name (i := 5) sc_Turning_row_at.nd rfl (Or.inl rfl)) (pss_cons (ps_asg (pe_callB call_divmodW (by rfl) T.g_divmod boot_divmod (pa_cons (pv 3) (pa_cons (pe_fld (pv 0) (by rfl)) pa_nil))) (pg_tup rfl (pgs_cons (pg_name (i := 3) sc_Turning_row_at.nd rfl (Or.inl rfl)) (pgs_cons (pg_name (i := 6) sc_Turning_row_at.nd rfl (Or.inl rfl)) pgs_nil))))
    (pss_cons (ps_expr (pe_bm PySem.F.plainAttrs_list PySem.F.slot_list_append PySem.F.type_list_append mt_append (pv 2) (pa_cons (pe_op op_mod (pe_op op_sub (pv 4) (pv 6)) (pe_fld (pv 0) (by rfl))) pa_nil)))
    (pss_one (ps_set (i := 4) sc_Turning_row_at.nd rfl (Or.inl rfl) (pv 6))))))
    (pss_one (ps_ret (pv 2))))))), ?read⟩)
  case len =>
    obtain ⟨o, s, n, p, rfl, _⟩ := h
    rfl
  case read =>
    obtain ⟨o, s, n, p, rfl, f, ⟨dx, ho⟩, q, qe⟩ := h
    show tSeq _ _ _ [some (.ref o), some (.int p), none, none, none, none, none] H
    have hsz : ∀ {σ : L2.St}, σ[0]? = some (some (V.ref o)) → Ev (tFld K (tVar 0) "size") σ H (.int (s ^ n)) := fun h => ev_fld (ev_var h) ho T.cl_Turning T.no_Turning_size (tF_size _ _ _)
    refine b_when (Ex.refl H) (et_not (et_test (ev_chain (by walk_at "ev") (by walk_at "ev") (by walk_at "rv") (fun _ => hsz rfl) fun _ => by walk_at "rv"))) (fun hb H1 e1 => ?_) (fun hb H1 e1 => ?_)
    · refine qe ?_ H1 e1
      simp at hb
      omega
    have hp : 0 ≤ p ∧ p < s ^ n := by simpa using hb
    obtain ⟨f1, f2, f3, f4⟩ := id f
    refine b_asgL e1 (el_lst ea_nil (by simp)) fun l H2 nl e2 hl => ?_
    have hsg : ∀ {σ : L2.St} {H' : Hp}, Ex H H' → σ[0]? = some (some (V.ref o)) → Ev (tFld K (tVar 0) "signs") σ H' (.int s) := fun e h => ev_fld (ev_var h) (e _ _ ho) T.cl_Turning T.no_Turning_signs (tF_signs _ _ _)
    refine b_asg2 (Ex.refl H2) (eu_divmod (ea_cons (ev_var rfl) (ea_cons (hsg e2 rfl) ea_nil)) (cdivp_small (by omega) (by omega))) fun H3 e3 => ?_
    have hln : Ev (tFld K (tVar 0) "length") [some (.ref o), some (.int p), some (.ref l), some (.int (p / s)), some (.int (p % s)), none, none] H2 (.int n) := ev_fld (ev_var rfl) (e2 _ _ ho) T.cl_Turning T.no_Turning_length (tF_length _ _ _)
    refine b_forR1 (n := (n : Int)) e3 (ea_cons hln ea_nil) (by omega) (by omega) (fun i σ' H' => ∃ u v, σ' = [some (.ref o), some (.int p), some (.ref l), some (.int (p / s ^ (i + 1))), some (.int (p / s ^ i % s)), u, v] ∧ Ex H H' ∧ H' l = some (.lst (((trow s n p).take i).map V.int)))
      (fun H4 e4 => ⟨none, none, by rw [Int.pow_zero, Int.ediv_one, Int.pow_succ, Int.pow_zero, Int.one_mul]; rfl, e2.trans e4, e4 _ _ hl⟩) ?_ ?_
    · rintro i σ' H' hi ⟨u, v, rfl, e4, hl4⟩
      show tSeq _ _ _ [some (.ref o), some (.int p), some (.ref l), some (.int (p / s ^ (i + 1))), some (.int (p / s ^ i % s)), some (.int (i : Int)), v] H'
      have hi' : i < n := by omega
      refine b_asg2 (Ex.refl H') (eu_divmod (ea_cons (ev_var rfl) (ea_cons (hsg e4 rfl) ea_nil)) (cdivp_small (by omega) (by omega))) fun H5 e5 => ?_
      refine q_app (e5 _ _ hl4) (ev_var rfl) (ev_op (ev_op (ev_var rfl) (ev_var rfl) rv_I0) (hsg (e4.trans e5) rfl) (by walk_at "rv")) (by rw [List.length_map, List.length_take]; omega) fun H6 e6 => ?_
      refine l_asg (Ex.refl _) (ev_var rfl) fun H7 e7 => ⟨some (.int i), some (.int (p / s ^ (i + 1) % s)), ?_, ?_, ?_⟩
      · rw [Int.pow_succ s (i + 1), ← Int.ediv_ediv_of_nonneg (Int.le_of_lt (Int.pow_pos (by omega)))]
        rfl
      · exact (Ex.mut ((e4.trans e5).trans e6) nl).trans e7
      · refine e7 _ _ ?_
        rw [upd_same, List.take_add_one, trow_get (by omega) n p i hi', List.map_append]
        rfl
    · rintro σ' H' ⟨u, v, rfl, e4, hl4⟩
      refine s_ret (ev_var rfl) fun H5 e5 => q hp l H5 nl (e4.trans e5) ?_
      rw [show ((n : Int)).toNat = n from rfl, List.take_of_length_le (Nat.le_of_eq (trow_len s n p))] at hl4
      exact e5 _ _ hl4
/-! #### Turning.is_row -/
theorem sc_Turning_is_row : FnScope N_Turning_is_row P_Turning_is_row (defScope s_Turning_is_row) := ⟨rfl, rfl, rfl, by decide +kernel, rfl, by decide +kernel, by decide +kernel⟩
/-- the marks of a row -/
def markB (s m : Int) : Bool := decide (0 ≤ m) && decide (m < s)
def isTrow (s : Int) (n : Nat) (xs : List Int) : Bool := decide ((xs.length : Int) = n) && xs.all (markB s)
theorem isTrow_iff (s : Int) (n : Nat) (xs : List Int) : isTrow s n xs = true ↔ xs.length = n ∧ Marks s xs := by
  unfold isTrow Marks
  simp [markB]
  omega
def sp_Turning_is_row (T : Txt K mg) : Sp := fun vs H Q _ => ∃ (o a : Addr) (s : Int) (n : Nat) (xs : List Int), vs = [.ref o, .ref a] ∧ IsT T H o s n ∧ SqL K H a (xs.map V.int) ∧ xs.length ≤ 10000 ∧ RetV (.bl (isTrow s n xs)) H Q
theorem ev_Tis_row {T : Txt K mg} {σ : L2.St} {H : Hp} {ta : TE} {tg : TA} {E : XK} {o a : Addr} {s : Int} {n : Nat} {xs : List Int} (ho : IsT T H o s n) (hx : SqL K H a (xs.map V.int)) (hl : xs.length ≤ 10000) (hv : Ev ta σ H (.ref o)) (ha : EvA tg σ H [.ref a]) :
    Ev (tMeth T.c_Turning "is_row" (sp_Turning_is_row T) [] E ta tg) σ H (.bl (isTrow s n xs)) := by
  obtain ⟨dx, h⟩ := ho
  exact ev_meth hv h (tF_no _ _ _ (by decide +kernel) (by decide +kernel) (by decide +kernel)) ha fun H1 e Q q => ⟨o, a, s, n, xs, rfl, ⟨dx, e _ _ h⟩, ex_l e hx, hl, q⟩
theorem ok_Turning_is_row (T : Txt K mg) : FnOk P w K mg base CX0 1 T.a_Turning_is_row T.d_Turning_is_row P_Turning_is_row (sp_Turning_is_row T) := by
  refine (T.F_Turning_is_row).ok sc_Turning_is_row (fun vs H Q E h => ?len) (fun cdv A outer s H vs Q E hr h => ⟨_, (pss_one (ps_ret (pe_and (pe_cmpR op_eq (pe_callB call_len_seq (by rfl) T.g_len boot_len (pa_cons (pv 1) pa_nil)) (pe_fld (pv 0) (by rfl)) (nomark _)) (pe_one (pe_callB (cr_all rfl) (by rfl) T.g_all boot_all (pa_cons (pe_lc (own := [("mark", 2)]) (g := (gName 2)) rfl sc_Turning_is_row.nd (pi_list (pv 1)) (blkOk_by (N := N_Turning_is_row) (sc := defScope s_Turning_is_row) (by decide +kernel)) (fun _ _ _ _ _ => pg_name (i := 2) sc_Turning_is_row.nd rfl (Or.inl rfl)) (fun _ _ _ _ _ => pts_nil) (fun _ _ _ _ _ => (pe_chain op_le op_lt pe_int (pv 2) (pe_fldK (K := K) (pv 0) (by rfl))))) pa_nil)))))), ?read⟩)
  case len =>
    obtain ⟨o, a, s, n, xs, rfl, _⟩ := h
    rfl
  case read =>
    obtain ⟨o, a, s, n, xs, rfl, ⟨dx, ho⟩, hx, hl, q⟩ := h
    show tRet _ _ [some (.ref o), some (.ref a), none] H
    refine b_ret (Ex.refl H) (v := .bl (isTrow s n xs)) ?_ q
    refine ev_andV (ev_op (ev_is (ev_len (ev_var rfl) hx) (by rw [List.length_map])) (ev_fld (ev_var rfl) ho T.cl_Turning T.no_Turning_length (tF_length _ _ _)) rv_eqI) fun _ => ?_
    refine ev_allI (markB s) (ev_var rfl) hx (by omega) (fun _ => rfl) fun m H1 e _ => ?_
    exact ev_chain ev_c (ev_var rfl) rv_I0 (fun _ => ev_fld (ev_var rfl) (e _ _ ho) T.cl_Turning T.no_Turning_signs (tF_signs _ _ _)) fun _ => rv_I0
/-! #### Turning.place_of -/
theorem sc_Turning_place_of : FnScope N_Turning_place_of P_Turning_place_of (defScope s_Turning_place_of) := ⟨rfl, rfl, rfl, by decide +kernel, rfl, by decide +kernel, by decide +kernel⟩
theorem drop_turn {xs : List Int} {i : Nat} (hi : i < xs.length) : xs.drop (xs.length - (i + 1)) = xs[xs.length - 1 - i] :: xs.drop (xs.length - i) := by
  have h1 : xs.length - (i + 1) < xs.length := by omega
  rw [List.drop_eq_getElem_cons h1]
  have e : xs.length - (i + 1) + 1 = xs.length - i := by omega
  have e2 : xs.length - (i + 1) = xs.length - 1 - i := by omega
  rw [e]
  simp only [e2]
def sp_Turning_place_of (T : Txt K mg) : Sp := fun vs H Q E => ∃ (o a : Addr) (s : Int) (n : Nat) (xs : List Int), vs = [.ref o, .ref a] ∧ TForm s n ∧ IsT T H o s n ∧ SqL K H a (xs.map V.int) ∧ xs.length ≤ 10000 ∧
  (xs.length = n ∧ Marks s xs → RetV (.int (tplace s xs)) H Q) ∧ (¬ (xs.length = n ∧ Marks s xs) → RetX T.c_NoRow H E)
theorem ev_Tplace {T : Txt K mg} {σ : L2.St} {H : Hp} {ta : TE} {tg : TA} {E : XK} {o a : Addr} {s : Int} {n : Nat} {xs : List Int} (f : TForm s n) (ho : IsT T H o s n) (hx : SqL K H a (xs.map V.int)) (hl : xs.length = n) (hm : Marks s xs) (hv : Ev ta σ H (.ref o)) (ha : EvA tg σ H [.ref a]) :
    Ev (tMeth T.c_Turning "place_of" (sp_Turning_place_of T) [] E ta tg) σ H (.int (tplace s xs)) := by
  obtain ⟨dx, h⟩ := ho
  exact ev_meth hv h (tF_no _ _ _ (by decide +kernel) (by decide +kernel) (by decide +kernel)) ha fun H1 e Q q => ⟨o, a, s, n, xs, rfl, f, ⟨dx, e _ _ h⟩, ex_l e hx, by have := f.2.2.2; omega, fun _ => q, fun z => absurd ⟨hl, hm⟩ z⟩
theorem ok_Turning_place_of (T : Txt K mg) : FnOk P w K mg base (L2.CX P w) 2 T.a_Turning_place_of T.d_Turning_place_of P_Turning_place_of (sp_Turning_place_of T) := by
  have G_Turning_is_row := ok_Turning_is_row (P := P) (w := w) (base := base) T
  refine (T.F_Turning_place_of).okX sc_Turning_place_of (fun vs H Q E h => ?len) (fun cdv A outer s H vs Q E hr h => ⟨_, (pss_cons (ps_if (pt_not (pt_val (pe_meth (pv 0) T.cl_Turning T.me_Turning_is_row G_Turning_is_row (hr.mono (by decide)) T.b_Turning_is_row .nil pass0 (pa_cons (pv 1) pa_nil)))) (pss_one (ps_raise rfl (takes_of rfl rfl rfl rfl) (pmk_own PySem.F.excBase_ValueError T.x_NoRow T.m_NoRow T.k_NoRow (raises_own T.bE_NoRow T.tE_NoRow) rfl))) pss_nil)
    (pss_cons (ps_set (i := 2) sc_Turning_place_of.nd rfl (Or.inl rfl) pe_int)
    (pss_cons (ps_set (i := 3) sc_Turning_place_of.nd rfl (Or.inl rfl) pe_int)
    (pss_cons (ps_for (passes_of rfl) rfl (pi_reversed rfl T.g_reversed (pa_cons (pv 1) pa_nil)) (pg_name (i := 4) sc_Turning_place_of.nd rfl (Or.inl rfl)) (pss_cons (ps_set (i := 3) sc_Turning_place_of.nd rfl (Or.inl rfl) (pe_op op_mod (pe_op op_add (pv 3) (pv 4)) (pe_fld (pv 0) (by rfl))))
    (pss_one (ps_set (i := 2) sc_Turning_place_of.nd rfl (Or.inl rfl) (pe_op op_add (pe_op op_mul (pv 2) (pe_fld (pv 0) (by rfl))) (pv 3))))))
    (pss_one (ps_ret (pv 2))))))), ?read⟩)
  case len =>
    obtain ⟨o, a, s, n, xs, rfl, _⟩ := h
    rfl
  case read =>
    obtain ⟨o, a, s, n, xs, rfl, f, ⟨dx, ho⟩, hx, hl, q, qe⟩ := h
    show tSeq _ _ _ [some (.ref o), some (.ref a), none, none, none] H
    obtain ⟨f1, f2, f3, f4⟩ := id f
    have hs0 : 0 < s := by omega
    refine b_when (Ex.refl H) (et_not (et_B (ev_Tis_row ⟨dx, ho⟩ hx hl (ev_var rfl) (by walk_at "ev")))) (fun hb H1 e1 => ?_) (fun hb H1 e1 => ?_)
    · refine qe ?_ H1 e1
      intro z
      rw [(isTrow_iff s n xs).mpr z] at hb
      cases hb
    have hr : xs.length = n ∧ Marks s xs := (isTrow_iff s n xs).mp (by simpa using hb)
    refine b_asg e1 ev_c fun H2 e => ?_
    refine b_asg e ev_c fun H3 e => ?_
    have hsg : ∀ {σ : L2.St}, σ[0]? = some (some (V.ref o)) → Ev (tFld K (tVar 0) "signs") σ H (.int s) := fun h => ev_fld (ev_var h) ho T.cl_Turning T.no_Turning_signs (tF_signs _ _ _)
    refine b_forRev e (by walk_at "ev") hx (fun i σ' H' => ∃ u, σ' = [some (.ref o), some (.ref a), some (.int (tplace s (xs.drop (xs.length - i)))), some (.int (tplace s (xs.drop (xs.length - i)) % s)), u] ∧ Ex H H')
      (fun H' e' => ⟨none, by rw [Nat.sub_zero, List.drop_length]; rfl, e'⟩) (fun i σ' H' ⟨_, _, e'⟩ => ex_l e' hx) ?_ ?_
    · rintro i x σ' H' hi hxi ⟨u, rfl, e'⟩
      rw [List.length_map] at hi hxi
      obtain ⟨m, hj, rfl, hm⟩ := int_item hxi
      have dt := drop_turn hi
      rw [hm] at dt
      have e3 : tplace s (xs.drop (xs.length - (i + 1))) = tplace s (xs.drop (xs.length - i)) * s + (tplace s (xs.drop (xs.length - i)) % s + m) % s := by rw [dt]; rfl
      generalize hP : tplace s (xs.drop (xs.length - i)) = P at *
      obtain ⟨a0, a1⟩ := mod_range (P % s + m) hs0
      show tSeq _ _ _ [some (.ref o), some (.ref a), some (.int P), some (.int (P % s)), some (.int m)] H'
      refine b_asg e' (ev_op (ev_op (ev_var rfl) (ev_var rfl) rv_I0) (hsg rfl) (rv_I hs0)) fun H4 e4 => ?_
      refine l_asg e4 (ev_op (ev_op (ev_var rfl) (hsg rfl) (rv_I (cmul_r (by omega) (by omega)))) (ev_var rfl) rv_I0) fun H5 e5 => ⟨some (.int m), ?_, e5⟩
      rw [e3, mul_add_mod hs0 a0 a1]
      rfl
    · rintro σ' H' ⟨u, rfl, e'⟩
      rw [List.length_map, Nat.sub_self, List.drop_zero]
      exact b_ret e' (ev_var rfl) (q hr)
/-! #### Listing.leap -/
def sp_Listing_leap_T (T : Txt K mg) : Sp := fun vs H Q E => ∃ (o a : Addr) (s : Int) (n : Nat) (xs : List Int) (k : Int), vs = [.ref o, .ref a, .int k] ∧ TForm s n ∧ IsT T H o s n ∧ SqL K H a (xs.map V.int) ∧ xs.length ≤ 10000 ∧
  (xs.length = n ∧ Marks s xs → RetL ((trow s n ((tplace s xs + k) % s ^ n)).map V.int) H Q) ∧ (¬ (xs.length = n ∧ Marks s xs) → RetX T.c_NoRow H E)
theorem el_Tleap {T : Txt K mg} {σ : L2.St} {H : Hp} {ta : TE} {tg : TA} {E : XK} {o a : Addr} {s : Int} {n : Nat} {xs : List Int} {k : Int} {dvs ws : List V} (f : TForm s n) (ho : IsT T H o s n) (hx : SqL K H a (xs.map V.int)) (hl : xs.length = n) (hm : Marks s xs) (hv : Ev ta σ H (.ref o)) (ha : EvA tg σ H ws) (hw : ws ++ dvs = [.ref a, .int k]) :
    EvL (tMeth T.c_Turning "leap" (sp_Listing_leap_T T) dvs E ta tg) σ H ((trow s n ((tplace s xs + k) % s ^ n)).map V.int) := by
  obtain ⟨dx, h⟩ := ho
  refine el_meth hv h (tF_no _ _ _ (by decide +kernel) (by decide +kernel) (by decide +kernel)) ha fun H1 e Q q => ?_
  rw [hw]
  exact ⟨o, a, s, n, xs, k, rfl, f, ⟨dx, e _ _ h⟩, ex_l e hx, by have := f.2.2.2; omega, fun _ => q, fun z => absurd ⟨hl, hm⟩ z⟩
theorem er_Tplace {T : Txt K mg} {σ : L2.St} {H : Hp} {ta : TE} {tg : TA} {E : XK} {o a : Addr} {s : Int} {n : Nat} {xs : List Int} (f : TForm s n) (ho : IsT T H o s n) (hx : SqL K H a (xs.map V.int)) (hl : xs.length ≤ 10000) (hm : ¬ (xs.length = n ∧ Marks s xs)) (he : RetX T.c_NoRow H E) (hv : Ev ta σ H (.ref o)) (ha : EvA tg σ H [.ref a]) :
    EvR (tMeth T.c_Turning "place_of" (sp_Turning_place_of T) [] E ta tg) σ H := by
  obtain ⟨dx, h⟩ := ho
  exact er_meth hv h (tF_no _ _ _ (by decide +kernel) (by decide +kernel) (by decide +kernel)) ha fun H1 e Q => ⟨o, a, s, n, xs, rfl, f, ⟨dx, e _ _ h⟩, ex_l e hx, hl, fun z => absurd z hm, fun _ => RetX.mono he e⟩
theorem er_Tleap {T : Txt K mg} {σ : L2.St} {H : Hp} {ta : TE} {tg : TA} {E : XK} {o a : Addr} {s : Int} {n : Nat} {xs : List Int} {k : Int} {dvs ws : List V} (f : TForm s n) (ho : IsT T H o s n) (hx : SqL K H a (xs.map V.int)) (hl : xs.length ≤ 10000) (hm : ¬ (xs.length = n ∧ Marks s xs)) (he : RetX T.c_NoRow H E) (hv : Ev ta σ H (.ref o)) (ha : EvA tg σ H ws) (hw : ws ++ dvs = [.ref a, .int k]) :
    EvR (tMeth T.c_Turning "leap" (sp_Listing_leap_T T) dvs E ta tg) σ H := by
  obtain ⟨dx, h⟩ := ho
  refine er_meth hv h (tF_no _ _ _ (by decide +kernel) (by decide +kernel) (by decide +kernel)) ha fun H1 e Q => ?_
  rw [hw]
  exact ⟨o, a, s, n, xs, k, rfl, f, ⟨dx, e _ _ h⟩, ex_l e hx, hl, fun z => absurd z hm, fun _ => RetX.mono he e⟩
theorem ok_Listing_leap_T (T : Txt K mg) : FnOk P w K mg base (L2.CX P w) 3 T.a_Listing_leap T.d_Listing_leap P_Listing_leap (sp_Listing_leap_T T) := by
  have G_Turning_place_of := ok_Turning_place_of (P := P) (w := w) (base := base) T
  have G_Turning_row_at := ok_Turning_row_at (P := P) (w := w) (base := base) T
  refine (T.F_Listing_leap).ok (CX := L2.CX P w) sc_Listing_leap (fun vs H Q E h => ?len) (fun cdv A outer s H vs Q E hr h => ⟨_, (pss_one (ps_ret (pe_meth (pv 0) T.cl_Turning T.me_Turning_row_at G_Turning_row_at (hr.mono (by decide)) T.b_Turning_row_at .nil (passes_call (W := fun cls d _ H => E cls d H) (E := E) (takes_of rfl rfl rfl rfl) (fun _ _ _ _ h => h)) (pa_cons (pe_op op_mod (pe_op op_add (pe_meth (pv 0) T.cl_Turning T.me_Turning_place_of G_Turning_place_of (hr.mono (by decide)) T.b_Turning_place_of .nil (passes_call (W := fun cls d _ H => E cls d H) (E := E) (takes_of rfl rfl rfl rfl) (fun _ _ _ _ h => h)) (pa_cons (pv 1) pa_nil)) (pv 2)) (pe_fld (pv 0) (by rfl))) pa_nil)))), ?read⟩)
  case len =>
    obtain ⟨o, a, s, n, xs, k, rfl, _⟩ := h
    rfl
  case read =>
    obtain ⟨o, a, s, n, xs, k, rfl, f, ho, hx, hl, q, qe⟩ := h
    obtain ⟨dx, hO⟩ := id ho
    show tRet _ _ [some (.ref o), some (.ref a), some (.int k)] H
    have m0 : 0 < s ^ n := Int.pow_pos (by have := f.1; omega)
    obtain ⟨r0, r1⟩ := mod_range (tplace s xs + k) m0
    by_cases hr : xs.length = n ∧ Marks s xs
    · refine b_retL (Ex.refl H) (el_trow f ho r0 r1 (ev_var rfl) (ea_cons (ev_op (ev_op (ev_Tplace f ho hx hr.1 hr.2 (ev_var rfl) (by walk_at "ev")) (ev_var rfl) rv_I0) (ev_fld (ev_var rfl) hO T.cl_Turning T.no_Turning_size (tF_size _ _ _)) (rv_I m0)) ea_nil)) (q hr)
    · exact b_retR (Ex.refl H) (er_methA (ev_var rfl) hO (tF_no _ _ _ (by decide +kernel) (by decide +kernel) (by decide +kernel)) (er_cons1 (er_op1 (er_op1 (er_Tplace f ho hx hl hr (qe hr) (ev_var rfl) (by walk_at "ev"))))))
/-! #### Listing.steps_to -/
def sp_Listing_steps_to_T (T : Txt K mg) : Sp := fun vs H Q E => ∃ (o a b : Addr) (s : Int) (n : Nat) (xs ys : List Int), vs = [.ref o, .ref a, .ref b] ∧ TForm s n ∧ IsT T H o s n ∧ SqL K H a (xs.map V.int) ∧ SqL K H b (ys.map V.int) ∧ xs.length ≤ 10000 ∧ ys.length ≤ 10000 ∧
  ((xs.length = n ∧ Marks s xs) ∧ (ys.length = n ∧ Marks s ys) → RetV (.int ((tplace s ys - tplace s xs) % s ^ n)) H Q) ∧ (¬ ((xs.length = n ∧ Marks s xs) ∧ (ys.length = n ∧ Marks s ys)) → RetX T.c_NoRow H E)
theorem ok_Listing_steps_to_T (T : Txt K mg) : FnOk P w K mg base (L2.CX P w) 3 T.a_Listing_steps_to T.d_Listing_steps_to P_Listing_steps_to (sp_Listing_steps_to_T T) := by
  have G_Turning_place_of := ok_Turning_place_of (P := P) (w := w) (base := base) T
  refine (T.F_Listing_steps_to).okX sc_Listing_steps_to (fun vs H Q E h => ?len) (fun cdv A outer s H vs Q E hr h => ⟨_, (pss_one (ps_ret (pe_op op_mod (pe_op op_sub (pe_meth (pv 0) T.cl_Turning T.me_Turning_place_of G_Turning_place_of (hr.mono (by decide)) T.b_Turning_place_of .nil (passes_call (W := fun cls d _ H => E cls d H) (E := E) (takes_of rfl rfl rfl rfl) (fun _ _ _ _ h => h)) (pa_cons (pv 2) pa_nil)) (pe_meth (pv 0) T.cl_Turning T.me_Turning_place_of G_Turning_place_of (hr.mono (by decide)) T.b_Turning_place_of .nil (passes_call (W := fun cls d _ H => E cls d H) (E := E) (takes_of rfl rfl rfl rfl) (fun _ _ _ _ h => h)) (pa_cons (pv 1) pa_nil))) (pe_fld (pv 0) (by rfl))))), ?read⟩)
  case len =>
    obtain ⟨o, a, b, s, n, xs, ys, rfl, _⟩ := h
    rfl
  case read =>
    obtain ⟨o, a, b, s, n, xs, ys, rfl, f, ho, hx, hy, lx, ly, q, qe⟩ := h
    obtain ⟨dx, hO⟩ := id ho
    show tRet _ _ [some (.ref o), some (.ref a), some (.ref b)] H
    have m0 : 0 < s ^ n := Int.pow_pos (by have := f.1; omega)
    by_cases hy1 : ys.length = n ∧ Marks s ys
    · by_cases hx1 : xs.length = n ∧ Marks s xs
      · exact b_ret (Ex.refl H) (ev_op (ev_op (ev_Tplace f ho hy hy1.1 hy1.2 (ev_var rfl) (by walk_at "ev")) (ev_Tplace f ho hx hx1.1 hx1.2 (ev_var rfl) (by walk_at "ev")) rv_I0) (ev_fld (ev_var rfl) hO T.cl_Turning T.no_Turning_size (tF_size _ _ _)) (rv_I m0)) (q ⟨hx1, hy1⟩)
      · exact b_retR (Ex.refl H) (er_op1 (er_op2 (ev_Tplace f ho hy hy1.1 hy1.2 (ev_var rfl) (by walk_at "ev")) (er_Tplace f ho hx lx hx1 (qe fun z => hx1 z.1) (ev_var rfl) (by walk_at "ev"))))
    · exact b_retR (Ex.refl H) (er_op1 (er_op1 (er_Tplace f ho hy ly hy1 (qe fun z => hy1 z.2) (ev_var rfl) (by walk_at "ev"))))
/-! #### Listing.row_before -/
def sp_Listing_row_before_T (T : Txt K mg) : Sp := fun vs H Q E => ∃ (o a : Addr) (s : Int) (n : Nat) (xs : List Int), vs = [.ref o, .ref a] ∧ TForm s n ∧ IsT T H o s n ∧ SqL K H a (xs.map V.int) ∧ xs.length ≤ 10000 ∧
  (xs.length = n ∧ Marks s xs → RetL ((trow s n ((tplace s xs + -1) % s ^ n)).map V.int) H Q) ∧ (¬ (xs.length = n ∧ Marks s xs) → RetX T.c_NoRow H E)
theorem el_Tbefore {T : Txt K mg} {σ : L2.St} {H : Hp} {ta : TE} {tg : TA} {E : XK} {o a : Addr} {s : Int} {n : Nat} {xs : List Int} (f : TForm s n) (ho : IsT T H o s n) (hx : SqL K H a (xs.map V.int)) (hl : xs.length = n) (hm : Marks s xs) (hv : Ev ta σ H (.ref o)) (ha : EvA tg σ H [.ref a]) :
    EvL (tMeth T.c_Turning "row_before" (sp_Listing_row_before_T T) [] E ta tg) σ H ((trow s n ((tplace s xs + -1) % s ^ n)).map V.int) := by
  obtain ⟨dx, h⟩ := ho
  exact el_meth hv h (tF_no _ _ _ (by decide +kernel) (by decide +kernel) (by decide +kernel)) ha fun H1 e Q q => ⟨o, a, s, n, xs, rfl, f, ⟨dx, e _ _ h⟩, ex_l e hx, by have := f.2.2.2; omega, fun _ => q, fun z => absurd ⟨hl, hm⟩ z⟩
theorem ok_Listing_row_before_T (T : Txt K mg) : FnOk P w K mg base (L2.CX P w) 4 T.a_Listing_row_before T.d_Listing_row_before P_Listing_row_before (sp_Listing_row_before_T T) := by
  have G_Listing_leap_T := ok_Listing_leap_T (P := P) (w := w) (base := base) T
  refine (T.F_Listing_row_before).okX sc_Listing_row_before (fun vs H Q E h => ?len) (fun cdv A outer s H vs Q E hr h => ⟨_, (pss_one (ps_ret (pe_meth (pv 0) T.cl_Turning T.me_Turning_leap G_Listing_leap_T (hr.mono (by decide)) T.b_Listing_leap .nil (passes_call (W := fun cls d _ H => E cls d H) (E := E) (takes_of rfl rfl rfl rfl) (fun _ _ _ _ h => h)) (pa_cons (pv 1) (pa_cons (pe_un un_neg pe_int) pa_nil))))), ?read⟩)
  case len =>
    obtain ⟨o, a, s, n, xs, rfl, _⟩ := h
    rfl
  case read =>
    obtain ⟨o, a, s, n, xs, rfl, f, ho, hx, hl, q, qe⟩ := h
    show tRet _ _ [some (.ref o), some (.ref a)] H
    by_cases hr : xs.length = n ∧ Marks s xs
    · exact b_retL (Ex.refl H) (el_Tleap (k := -1) f ho hx hr.1 hr.2 (ev_var rfl) (by walk_at "ev") rfl) (q hr)
    · exact b_retR (Ex.refl H) (er_Tleap (k := -1) f ho hx hl hr (qe hr) (ev_var rfl) (by walk_at "ev") rfl)
/-! #### _law_leapt -/
theorem okF_T {s : Int} {n : Nat} (f : TForm s n) : (Kd.T s n).ok := ⟨f.1, f.2.1, by have := f.2.2.2; omega⟩
def sp_law_leapt_T (T : Txt K mg) : Sp := fun vs H Q _ => ∃ (o r : Addr) (s : Int) (n : Nat) (xs : List Int) (t : Int), vs = [.ref o, .ref r, .int t] ∧ TForm s n ∧ IsT T H o s n ∧ H r = some (.lst (xs.map V.int)) ∧ (Kd.T s n).row xs ∧ RetP (((Kd.T s n).on xs t).map V.int) t H Q
theorem ep_leapt_T {T : Txt K mg} {σ : L2.St} {H : Hp} {tg : TA} {E : XK} {o r : Addr} {s : Int} {n : Nat} {xs : List Int} {t : Int} (f : TForm s n) (ho : IsT T H o s n) (hx : H r = some (.lst (xs.map V.int))) (hr : (Kd.T s n).row xs) (ha : EvA tg σ H [.ref o, .ref r, .int t]) : EvP (tCall (sp_law_leapt_T T) [] E tg) σ H (((Kd.T s n).on xs t).map V.int) t := fun H1 e Q q =>
  ha H1 e _ fun H2 e2 => ⟨o, r, s, n, xs, t, rfl, f, ho.mono (e.trans e2), (e.trans e2) _ _ hx, hr, fun p l H3 hl e3 h1 h2 => q p l H3 (fresh_back e2 hl) (e2.trans e3) h1 h2⟩
theorem ok_law_leapt_T (T : Txt K mg) : FnOk P w K mg base CX0 4 T.a_law_leapt T.d_law_leapt P_law_leapt (sp_law_leapt_T T) := by
  have G_Listing_leap_T := ok_Listing_leap_T (P := P) (w := w) (base := base) T
  refine (T.F_law_leapt).ok sc_law_leapt (fun vs H Q E h => ?len) (fun cdv A outer s H vs Q E hr h => ⟨_, (pss_cons (ps_set (i := 3) sc_law_leapt.nd rfl (Or.inl rfl) (pe_callTy call_list_of (by rfl) T.g_list boot_list (pa_cons (pv 1) pa_nil)))
    (pss_cons (ps_set (i := 4) sc_law_leapt.nd rfl (Or.inl rfl) (pe_meth (pv 0) T.cl_Turning T.me_Turning_leap G_Listing_leap_T (hr.mono (by decide)) T.b_Listing_leap .nil passL (pa_cons (pv 3) (pa_cons (pv 2) pa_nil))))
    (pss_cons (ps_if (PW.pt (pw_or (pt_not (pt_val (pe_callB call_isi (by rfl) T.g_isinstance boot_isinstance (pa_cons (pv 4) (pa_cons (pe_bltn (v := .ty "list") rfl T.g_list boot_list rfl) pa_nil))))) (pw_or1 (pt_cmpR (op_neD hr.units) (pv 3) (pv 1) (nomark _))))) (pss_one (ps_ret (pe_tup (pa_cons pe_non (pa_cons pe_int pa_nil))))) pss_nil)
    (pss_cons (ps_set (i := 5) sc_law_leapt.nd rfl (Or.inl rfl) (pe_callTy call_list_of (by rfl) T.g_list boot_list (pa_cons (pv 4) pa_nil)))
    (pss_cons (ps_expr (pe_bm PySem.F.plainAttrs_list PySem.F.slot_list_append PySem.F.type_list_append mt_append (pv 3) (pa_cons pe_int pa_nil)))
    (pss_cons (ps_set (i := 6) sc_law_leapt.nd rfl (Or.inl rfl) (pe_meth (pv 0) T.cl_Turning T.me_Turning_leap G_Listing_leap_T (hr.mono (by decide)) T.b_Listing_leap .nil passL (pa_cons (pe_callTy call_list_of (by rfl) T.g_list boot_list (pa_cons (pv 1) pa_nil)) (pa_cons (pv 2) pa_nil))))
    (pss_cons (ps_if (PW.pt (pw_or (pt_cmpR (op_neD hr.units) (pv 4) (pv 5) (nomark _)) (pw_or (pt_not (pt_val (pe_callB call_isi (by rfl) T.g_isinstance boot_isinstance (pa_cons (pv 6) (pa_cons (pe_bltn (v := .ty "list") rfl T.g_list boot_list rfl) pa_nil))))) (pw_or1 (pt_cmpR (op_neD hr.units) (pv 6) (pv 5) (nomark _)))))) (pss_one (ps_ret (pe_tup (pa_cons pe_non (pa_cons pe_int pa_nil))))) pss_nil)
    (pss_cons (ps_expr (pe_bm PySem.F.plainAttrs_list PySem.F.slot_list_append PySem.F.type_list_append mt_append (pv 6) (pa_cons pe_int pa_nil)))
    (pss_cons (ps_if (pt_cmpR (op_neD hr.units) (pv 4) (pv 5) (nomark _)) (pss_one (ps_ret (pe_tup (pa_cons pe_non (pa_cons pe_int pa_nil))))) pss_nil)
    (pss_one (ps_ret (pe_tup (pa_cons (pv 4) (pa_cons (pv 2) pa_nil)))))))))))))), ?read⟩)
  case len =>
    obtain ⟨o, r, s, n, xs, t, rfl, _⟩ := h
    rfl
  case read =>
    obtain ⟨o, r, s, n, xs, t, rfl, f, ho, hx, hr, q⟩ := h
    have hk := okF_T f
    have hlen := Kd.row_len hr
    have hn := Kd.len_le hk
    have hyl := Kd.row_len (Kd.on_row hk xs t)
    show tSeq _ _ _ [some (.ref o), some (.ref r), some (.int t), none, none, none, none] H
    refine b_asgL (Ex.refl H) (el_list (ev_var rfl) (sq_of hx)) fun l H1 nl e hl => ?_
    have ho1 := ho.mono e
    have hx1 := e _ _ hx
    refine b_asgL (Ex.refl H1) (xs := ((Kd.T s n).on xs t).map V.int) (el_Tleap f ho1 (sq_of hl) hr.1 hr.2 (ev_var rfl) (by walk_at "ev") rfl) fun g H2 ng e2 hg => ?_
    generalize hY : (Kd.T s n).on xs t = ys at *
    have hx2 := e2 _ _ hx1
    have hl2 := e2 _ _ hl
    refine b_skip (b := !true || !decide (xs = xs)) (Ex.refl H2) (et_or (et_not (et_B (ev_isi (by walk_at "ev") (.lst hg) (kit_ty (by decide +kernel))))) fun _ => et_test (ev_op (ev_var rfl) (ev_var rfl) (rv_neL (sq_of hl2) (sq_of hx2)))) (fun H3 e3 => ?_) (by simp)
    refine b_asgL e3 (el_list (ev_var rfl) (sq_of hg)) fun kk H4 nk e4 hkk => ?_
    have n1 : g ≠ l := (ne_of_none hl ng).symm
    have n2 : kk ≠ l := (ne_of_none hl2 nk).symm
    refine q_app (e4 _ _ hl2) (ev_var rfl) ev_c (by rw [List.length_map]; omega) fun H5 e5 => ?_
    have e6 : Ex H (upd H5 l (.lst (xs.map V.int ++ [V.int 1]))) := Ex.mut (((e.trans e2).trans e4).trans e5) nl
    have hg6 : (upd H5 l (.lst (xs.map V.int ++ [V.int 1]))) g = some (.lst (ys.map V.int)) := by
      rw [upd_ne n1]
      exact e5 _ _ (e4 _ _ hg)
    have hk6 : (upd H5 l (.lst (xs.map V.int ++ [V.int 1]))) kk = some (.lst (ys.map V.int)) := by
      rw [upd_ne n2]
      exact e5 _ _ hkk
    generalize upd H5 l (.lst (xs.map V.int ++ [V.int 1])) = H6 at *
    have ho6 := ho.mono e6
    have hx6 := e6 _ _ hx
    obtain ⟨dx6, hO6⟩ := id ho6
    have hag : EvL (tMeth T.c_Turning "leap" (sp_Listing_leap_T T) [] E0 (tVar 0) (tCons (tCB (rListS K) (tCons (tVar 1) tNil)) (tCons (tVar 2) tNil))) [some (.ref o), some (.ref r), some (.int t), some (.ref l), some (.ref g), some (.ref kk), none] H6 (ys.map V.int) :=
      el_methN2 (ev_var rfl) hO6 (tF_m _ _ _) (el_list (ev_var rfl) (sq_of hx6)) (fun _ _ => ev_var rfl) fun p H1 e h1 Q q => ⟨o, p, s, n, xs, t, rfl, f, ho6.mono e, sq_of h1, by omega, fun _ => by
        rw [← hY] at q
        exact q, fun z => absurd hr z⟩
    refine b_asgL (Ex.refl H6) hag fun ag H7 na e7 hag7 => ?_
    have hg7 := e7 _ _ hg6
    have hk7 := e7 _ _ hk6
    refine b_skip (b := !decide (ys = ys) || (!true || !decide (ys = ys))) (Ex.refl H7) (et_or (et_test (ev_op (ev_var rfl) (ev_var rfl) (rv_neL (sq_of hg7) (sq_of hk7)))) fun _ => et_or (et_not (et_B (ev_isi (by walk_at "ev") (.lst hag7) (kit_ty (by decide +kernel))))) fun _ => et_test (ev_op (ev_var rfl) (ev_var rfl) (rv_neL (sq_of hag7) (sq_of hk7)))) (fun H8 e8 => ?_) (by simp)
    refine q_app (e8 _ _ hag7) (ev_var rfl) ev_c (by rw [List.length_map]; omega) fun H9 e9 => ?_
    have e10 : Ex H6 (upd H9 ag (.lst (ys.map V.int ++ [V.int 1]))) := Ex.mut ((e7.trans e8).trans e9) na
    generalize upd H9 ag (.lst (ys.map V.int ++ [V.int 1])) = H10 at *
    have hg10 := e10 _ _ hg6
    refine b_skip (b := !decide (ys = ys)) (Ex.refl H10) (et_test (ev_op (ev_var rfl) (ev_var rfl) (rv_neL (sq_of hg10) (sq_of (e10 _ _ hk6))))) (fun H11 e11 => ?_) (by simp)
    exact b_retQ ((e6.trans e10).trans e11) (fresh_back e ng) (e11 _ _ hg10) (ev_var rfl) (ev_var rfl) q
/-! #### Listing.next_row -/
def sp_Listing_next_row_T (T : Txt K mg) : Sp := fun vs H Q E => ∃ (o a : Addr) (s : Int) (n : Nat) (xs : List Int), vs = [.ref o, .ref a] ∧ TForm s n ∧ IsT T H o s n ∧ SqL K H a (xs.map V.int) ∧ xs.length ≤ 10000 ∧
  (xs.length = n ∧ Marks s xs → RetL ((trow s n ((tplace s xs + 1) % s ^ n)).map V.int) H Q) ∧ (¬ (xs.length = n ∧ Marks s xs) → RetX T.c_NoRow H E)
theorem el_Tnext {T : Txt K mg} {σ : L2.St} {H : Hp} {ta : TE} {tg : TA} {E : XK} {o a : Addr} {s : Int} {n : Nat} {xs : List Int} (f : TForm s n) (ho : IsT T H o s n) (hx : SqL K H a (xs.map V.int)) (hl : xs.length = n) (hm : Marks s xs) (hv : Ev ta σ H (.ref o)) (ha : EvA tg σ H [.ref a]) :
    EvL (tMeth T.c_Turning "next_row" (sp_Listing_next_row_T T) [] E ta tg) σ H ((trow s n ((tplace s xs + 1) % s ^ n)).map V.int) := by
  obtain ⟨dx, h⟩ := ho
  exact el_meth hv h (tF_no _ _ _ (by decide +kernel) (by decide +kernel) (by decide +kernel)) ha fun H1 e Q q => ⟨o, a, s, n, xs, rfl, f, ⟨dx, e _ _ h⟩, ex_l e hx, by have := f.2.2.2; omega, fun _ => q, fun z => absurd ⟨hl, hm⟩ z⟩
theorem ok_Listing_next_row_T (T : Txt K mg) : FnOk P w K mg base (L2.CX P w) 4 T.a_Listing_next_row T.d_Listing_next_row P_Listing_next_row (sp_Listing_next_row_T T) := by
  have G_Listing_leap_T := ok_Listing_leap_T (P := P) (w := w) (base := base) T
  refine (T.F_Listing_next_row).okX sc_Listing_next_row (fun vs H Q E h => ?len) (fun cdv A outer s H vs Q E hr h => ⟨_, (pss_one (ps_ret (pe_meth (pv 0) T.cl_Turning T.me_Turning_leap G_Listing_leap_T (hr.mono (by decide)) T.be_Listing_leap T.ve_Listing_leap (passes_call (W := fun cls d _ H => E cls d H) (E := E) (takes_of rfl rfl rfl rfl) (fun _ _ _ _ h => h)) (pa_cons (pv 1) pa_nil)))), ?read⟩)
  case len =>
    obtain ⟨o, a, s, n, xs, rfl, _⟩ := h
    rfl
  case read =>
    obtain ⟨o, a, s, n, xs, rfl, f, ho, hx, hl, q, qe⟩ := h
    show tRet _ _ [some (.ref o), some (.ref a)] H
    by_cases hr : xs.length = n ∧ Marks s xs
    · exact b_retL (Ex.refl H) (el_Tleap (k := 1) f ho hx hr.1 hr.2 (ev_var rfl) (by walk_at "ev") rfl) (q hr)
    · exact b_retR (Ex.refl H) (er_Tleap (k := 1) f ho hx hl hr (qe hr) (ev_var rfl) (by walk_at "ev") rfl)
/-! #### Turning.change -/
theorem sc_Turning_change : FnScope N_Turning_change P_Turning_change (defScope s_Turning_change) := ⟨rfl, rfl, rfl, by decide +kernel, rfl, by decide +kernel, by decide +kernel⟩
theorem tspot_step {s : Int} {n i : Nat} {p : Int} (hi : i + 1 < n) (h : p % s = s - 1) : tspot s (n - i) p = tspot s (n - (i + 1)) (p / s) + 1 := by
  obtain ⟨m, hm⟩ : ∃ m, n - i = m + 2 := ⟨n - i - 2, by omega⟩
  have e : n - (i + 1) = m + 1 := by omega
  rw [hm, e]
  exact if_pos h
theorem tspot_stop {s : Int} {n i : Nat} {p : Int} (hi : i < n) (h : ¬ (i + 1 < n ∧ p % s = s - 1)) : tspot s (n - i) p = 0 := by
  by_cases h1 : i + 1 < n
  · obtain ⟨m, hm⟩ : ∃ m, n - i = m + 2 := ⟨n - i - 2, by omega⟩
    rw [hm]
    exact if_neg fun z => h ⟨h1, z⟩
  · have e : n - i = 1 := by omega
    rw [e]
    rfl
/-- what a turning list tells as the change -/
def sp_Turning_change (T : Txt K mg) : Sp := fun vs H Q E => ∃ (o a : Addr) (s : Int) (n : Nat) (xs : List Int), vs = [.ref o, .ref a] ∧ TForm s n ∧ IsT T H o s n ∧ SqL K H a (xs.map V.int) ∧ xs.length ≤ 10000 ∧
  (xs.length = n ∧ Marks s xs → (s ^ n = 1 → RetV .non H Q) ∧ (s ^ n ≠ 1 → RetU [.str "turn", .int (tspot s n (tplace s xs))] H Q)) ∧ (¬ (xs.length = n ∧ Marks s xs) → RetX T.c_NoRow H E)
theorem ev_Tchange {T : Txt K mg} {σ : L2.St} {H : Hp} {ta : TE} {tg : TA} {E : XK} {o a : Addr} {s : Int} {n : Nat} {xs : List Int} (f : TForm s n) (ho : IsT T H o s n) (hx : SqL K H a (xs.map V.int)) (hl : xs.length = n) (hm : Marks s xs) (h1 : s ^ n = 1) (hv : Ev ta σ H (.ref o)) (ha : EvA tg σ H [.ref a]) :
    Ev (tMeth T.c_Turning "change" (sp_Turning_change T) [] E ta tg) σ H .non := by
  obtain ⟨dx, h⟩ := ho
  exact ev_meth hv h (tF_no _ _ _ (by decide +kernel) (by decide +kernel) (by decide +kernel)) ha fun H1 e Q q => ⟨o, a, s, n, xs, rfl, f, ⟨dx, e _ _ h⟩, ex_l e hx, by have := f.2.2.2; omega, fun _ => ⟨fun _ => q, fun z => absurd h1 z⟩, fun z => absurd ⟨hl, hm⟩ z⟩
theorem eu_Tchange {T : Txt K mg} {σ : L2.St} {H : Hp} {ta : TE} {tg : TA} {E : XK} {o a : Addr} {s : Int} {n : Nat} {xs : List Int} (f : TForm s n) (ho : IsT T H o s n) (hx : SqL K H a (xs.map V.int)) (hl : xs.length = n) (hm : Marks s xs) (h1 : s ^ n ≠ 1) (hv : Ev ta σ H (.ref o)) (ha : EvA tg σ H [.ref a]) :
    EvU (tMeth T.c_Turning "change" (sp_Turning_change T) [] E ta tg) σ H [.str "turn", .int (tspot s n (tplace s xs))] := by
  obtain ⟨dx, h⟩ := ho
  exact eu_meth hv h (tF_no _ _ _ (by decide +kernel) (by decide +kernel) (by decide +kernel)) ha fun H1 e Q q => ⟨o, a, s, n, xs, rfl, f, ⟨dx, e _ _ h⟩, ex_l e hx, by have := f.2.2.2; omega, fun _ => ⟨fun z => absurd z h1, fun _ => q⟩, fun z => absurd ⟨hl, hm⟩ z⟩
theorem ok_Turning_change (T : Txt K mg) : FnOk P w K mg base (L2.CX P w) 3 T.a_Turning_change T.d_Turning_change P_Turning_change (sp_Turning_change T) := by
  have G_Turning_place_of := ok_Turning_place_of (P := P) (w := w) (base := base) T
  refine (T.F_Turning_change).okX sc_Turning_change (fun vs H Q E h => ?len) (fun cdv A outer s H vs Q E hr h => ⟨_, (pss_cons (ps_set (i := 2) sc_Turning_change.nd rfl (Or.inl rfl) (pe_meth (pv 0) T.cl_Turning T.me_Turning_place_of G_Turning_place_of (hr.mono (by decide)) T.b_Turning_place_of .nil (passes_call (W := fun cls d _ H => E cls d H) (E := E) (takes_of rfl rfl rfl rfl) (fun _ _ _ _ h => h)) (pa_cons (pv 1) pa_nil)))
    (pss_cons (ps_if (pt_cmpR op_eq (pe_fld (pv 0) (by rfl)) pe_int (nomark _)) (pss_one (ps_ret pe_non)) pss_nil)
    (pss_cons (ps_set (i := 3) sc_Turning_change.nd rfl (Or.inl rfl) pe_int)
    (pss_cons (ps_while (passes_of rfl) (PW.pt (pw_and (pt_cmpR op_lt (pe_op op_add (pv 3) pe_int) (pe_fld (pv 0) (by rfl)) (nomark _)) (pw_and1 (pt_cmpR op_eq (pe_op op_mod (pv 2) (pe_fld (pv 0) (by rfl))) (pe_op op_sub (pe_fld (pv 0) (by rfl)) pe_int) (nomark _))))) (pss_cons (ps_set (i := 2) sc_Turning_change.nd rfl (Or.inl rfl) (pe_op op_fdivW (pv 2) (pe_fld (pv 0) (by rfl))))
    (pss_one (ps_aug (i := 3) sc_Turning_change.nd rfl (Or.inl rfl) pe_int ip_add))))
    (pss_one (ps_ret (pe_tup (pa_cons pe_str (pa_cons (pv 3) pa_nil))))))))), ?read⟩)
  case len =>
    obtain ⟨o, a, s, n, xs, rfl, _⟩ := h
    rfl
  case read =>
    obtain ⟨o, a, s, n, xs, rfl, f, ho, hx, hl, q, qe⟩ := h
    obtain ⟨dx, hO⟩ := id ho
    show tSeq _ _ _ [some (.ref o), some (.ref a), none, none] H
    obtain ⟨f1, f2, f3, f4⟩ := id f
    have hs0 : 0 < s := by omega
    by_cases hr : xs.length = n ∧ Marks s xs
    case neg => exact b_asgR (Ex.refl H) (er_Tplace f ho hx hl hr (qe hr) (ev_var rfl) (by walk_at "ev"))
    obtain ⟨q1, q2⟩ := q hr
    refine b_asg (Ex.refl H) (ev_Tplace f ho hx hr.1 hr.2 (ev_var rfl) (by walk_at "ev")) fun H1 e => ?_
    have hsz : ∀ {σ : L2.St}, σ[0]? = some (some (V.ref o)) → Ev (tFld K (tVar 0) "size") σ H (.int (s ^ n)) := fun h => ev_fld (ev_var h) hO T.cl_Turning T.no_Turning_size (tF_size _ _ _)
    have hsg : ∀ {σ : L2.St}, σ[0]? = some (some (V.ref o)) → Ev (tFld K (tVar 0) "signs") σ H (.int s) := fun h => ev_fld (ev_var h) hO T.cl_Turning T.no_Turning_signs (tF_signs _ _ _)
    have hln : ∀ {σ : L2.St}, σ[0]? = some (some (V.ref o)) → Ev (tFld K (tVar 0) "length") σ H (.int n) := fun h => ev_fld (ev_var h) hO T.cl_Turning T.no_Turning_length (tF_length _ _ _)
    refine b_when e (et_test (ev_op (hsz rfl) ev_c rv_eqI)) (fun hb H2 e2 => b_ret e2 ev_c (q1 (by simpa using hb))) (fun hb H2 e => ?_)
    have hne : s ^ n ≠ 1 := by simpa using hb
    have hn0 : 0 < n := by
      rcases Nat.eq_zero_or_pos n with h | h
      · subst h
        exact absurd (Int.pow_zero s) hne
      · exact h
    have q2 := q2 hne
    refine b_asg e ev_c fun H3 e => ?_
    generalize hP : tplace s xs = P at q2 ⊢
    refine q_while (fun m σ' H' => ∃ i : Nat, m = n - i ∧ i < n ∧ ∃ p : Int, σ' = [some (.ref o), some (.ref a), some (.int p), some (.int (i : Int))] ∧ tspot s n P = i + tspot s (n - i) p ∧ Ex H H') n ⟨0, rfl, hn0, P, rfl, by simp, e⟩ ?_
    rintro m σ' H' ⟨i, rfl, hi, p, rfl, ht, e'⟩
    refine ⟨decide ((i : Int) + 1 < n) && decide (p % s = s - 1), EvT.mono e' (et_and (et_test (ev_op (by walk_at "ev") (hln rfl) rv_I0)) fun _ => et_test (ev_op (ev_op (ev_var rfl) (hsg rfl) (rv_I hs0)) (ev_op (hsg rfl) ev_c rv_I0) rv_eqI)), fun hb H4 e4 => ?_, fun hb H4 e4 => ?_⟩
    · have hb2 : i + 1 < n ∧ p % s = s - 1 := by
        simp at hb
        omega
      refine ⟨fun σ' H' => ∃ i' : Nat, i' = i + 1 ∧ ∃ p' : Int, σ' = [some (.ref o), some (.ref a), some (.int p'), some (.int (i' : Int))] ∧ p' = p / s ∧ Ex H H', ?_, ?_⟩
      · rintro σ2 H2 ⟨_, rfl, _, rfl, rfl, e2⟩
        exact ⟨n - (i + 1), by omega, i + 1, rfl, hb2.1, _, rfl, by rw [ht, tspot_step hb2.1 hb2.2]; omega, e2⟩
      · refine b_asg (e'.trans e4) (v := .int (p / s)) (ev_op (ev_var rfl) (hsg rfl) (rv_I (cdiv_small hs0 (by omega)))) fun H5 e5 => ?_
        refine l_aug (a := (i : Int)) e5 rfl ev_c fun H6 e6 => ⟨i + 1, rfl, _, ?_, rfl, e6⟩
        rfl
    · have hb2 : ¬ (i + 1 < n ∧ p % s = s - 1) := by
        simp at hb
        omega
      rw [tspot_stop hi hb2] at ht
      refine b_retU (e'.trans e4) (eu_tup (by walk_at "ev") (by simp)) fun t H5 nt e5 h5 => ?_
      rw [ht] at q2
      exact q2 t H5 nt e5 h5
/-! #### _law_deed -/
theorem nx_T {s : Int} {n : Nat} {xs : List Int} (f : TForm s n) (hr : (Kd.T s n).row xs) (h1 : s ^ n ≠ 1) : Mv (Kd.T s n) 1 (.turn (tspot s n (tplace s xs) : Nat)) xs ((Kd.T s n).on xs 1) := by
  have hs0 : 0 < s := by have := f.1; omega
  have hn : 0 < n := by
    rcases Nat.eq_zero_or_pos n with h | h
    · subst h
      exact absurd (Int.pow_zero s) h1
    · exact h
  have p0 := tplace_nonneg hs0 xs
  have p1 := tplace_lt hs0 xs
  have hx := trow_tplace hs0 xs hr.2
  rw [hr.1] at p1 hx
  have hj := tspot_lt s n (tplace s xs) hn
  have hj' : tspot s n (tplace s xs) < xs.length := by rw [hr.1]; exact hj
  refine ⟨_, rfl, hj', ?_⟩
  show trow s n ((tplace s xs + 1) % s ^ n) = _
  rw [trow_next (by have := f.1; omega) n _ hn p0 p1, hx, modify_set hj']
theorem ech_change_T {T : Txt K mg} {σ : L2.St} {H : Hp} {ta te : TE} {E : XK} {o : Addr} {s : Int} {n : Nat} {xs : List Int} (f : TForm s n) (ho : IsT T H o s n) (hr : (Kd.T s n).row xs) (hv : Ev ta σ H (.ref o)) (hL : EvL te σ H (xs.map V.int)) :
    EvCh (tMeth T.c_Turning "change" (sp_Turning_change T) [] E ta (tCons te tNil)) σ H (fun c => Mv (Kd.T s n) 1 c xs ((Kd.T s n).on xs 1)) := fun H1 e Q q => by
  obtain ⟨dx, h⟩ := id ho
  have hn := Kd.len_le (okF_T f)
  have hl := Kd.row_len hr
  refine hv H1 e _ fun H2 e2 => ⟨o, dx, _, rfl, e2 _ _ (e _ _ h), tF_m _ _ _, hL H2 (e.trans e2) _ fun p H3 hp e3 h3 => ?_⟩
  have e23 := e2.trans e3
  refine ⟨o, p, s, n, xs, rfl, f, ho.mono (e.trans e23), sq_of h3, by omega, fun _ => ?_, fun z => absurd hr z⟩
  refine ⟨fun h1 H4 e4 => q .non ?_ .non H4 (e23.trans e4) rfl, fun h1 t H4 nt e4 h4 => q (.turn (tspot s n (tplace s xs) : Nat)) (nx_T f hr h1) (.ref t) H4 (e23.trans e4) ⟨t, rfl, h4⟩⟩
  have hz : (Kd.T s n).sz = 1 := h1
  have hR := Kd.on_row (okF_T f) xs 1
  refine Kd.pl_inj (okF_T f) hR hr ?_
  have a := Kd.pl_rng (okF_T f) hR
  have b := Kd.pl_rng (okF_T f) hr
  omega
def sp_law_deed_T (T : Txt K mg) : Sp := fun vs H Q _ => ∃ (o r : Addr) (c : Int) (s : Int) (n : Nat) (xs : List Int), vs = [.ref o, .ref r, .int c, .int (Kd.T s n).sz, .int (Kd.T s n).sg, onV (Kd.T s n)] ∧ Few c ∧ TForm s n ∧ IsT T H o s n ∧ H r = some (.lst (xs.map V.int)) ∧ (Kd.T s n).row xs ∧ ∀ ys t, (Kd.T s n).row ys → (Kd.T s n).pl ys = ((Kd.T s n).pl xs + t) % (Kd.T s n).sz → (c % 6 = 5 → 0 ≤ t ∧ t < (Kd.T s n).sz) → RetP (ys.map V.int) t H Q
theorem ok_law_deed_T (T : Txt K mg) : FnOk P w K mg base CX0 5 T.a_law_deed T.d_law_deed P_law_deed (sp_law_deed_T T) := by
  have G_Listing_leap_T := ok_Listing_leap_T (P := P) (w := w) (base := base) T
  have G_Listing_next_row_T := ok_Listing_next_row_T (P := P) (w := w) (base := base) T
  have G_Listing_row_before_T := ok_Listing_row_before_T (P := P) (w := w) (base := base) T
  have G_Listing_steps_to_T := ok_Listing_steps_to_T (P := P) (w := w) (base := base) T
  have G_Turning_change := ok_Turning_change (P := P) (w := w) (base := base) T
  have G_law_any := ok_law_any (P := P) (w := w) (base := base) T
  have G_law_changed := ok_law_changed (P := P) (w := w) (base := base) T
  have G_law_is_row := ok_law_is_row (P := P) (w := w) (base := base) T
  have G_law_leapt_T := ok_law_leapt_T (P := P) (w := w) (base := base) T
  refine (T.F_law_deed).ok sc_law_deed (fun vs H Q E h => ?len) (fun cdv A outer s H vs Q E hr h => ⟨_, (pss_cons (ps_set (i := 6) sc_law_deed.nd rfl (Or.inl rfl) (pe_op op_mod (pv 2) pe_int))
    (pss_cons (ps_set (i := 7) sc_law_deed.nd rfl (Or.inl rfl) (pe_op op_fdivW (pv 2) pe_int))
    (pss_cons (ps_if (pt_cmpR op_eq (pv 6) pe_int (nomark _)) (pss_one (ps_ret (pe_tup (pa_cons (pe_call G_law_changed (hr.mono (by decide)) (by rfl) T.m_law_changed T.F_law_changed.kp T.b_law_changed .nil pass0 (pa_cons (pv 1) (pa_cons (pe_meth (pv 0) T.cl_Turning T.me_Turning_change G_Turning_change (hr.mono (by decide)) T.b_Turning_change .nil passL (pa_cons (pe_callTy call_list_of (by rfl) T.g_list boot_list (pa_cons (pv 1) pa_nil)) pa_nil)) (pa_cons (pv 4) (pa_cons (pv 5) (pa_cons pe_int pa_nil)))))) (pa_cons pe_int pa_nil))))) pss_nil)
    (pss_cons (ps_if (pt_cmpR op_eq (pv 6) pe_int (nomark _)) (pss_cons (ps_set (i := 8) sc_law_deed.nd rfl (Or.inl rfl) (pe_meth (pv 0) T.cl_Turning T.me_Turning_row_before G_Listing_row_before_T (hr.mono (by decide)) T.b_Listing_row_before .nil passL (pa_cons (pe_callTy call_list_of (by rfl) T.g_list boot_list (pa_cons (pv 1) pa_nil)) pa_nil)))
    (pss_cons (ps_if (pt_not (pt_val (pe_call G_law_is_row (hr.mono (by decide)) (by rfl) T.m_law_is_row T.F_law_is_row.kp T.b_law_is_row .nil pass0 (pa_cons (pv 8) (pa_cons (pe_callB call_len_seq (by rfl) T.g_len boot_len (pa_cons (pv 1) pa_nil)) (pa_cons (pv 4) (pa_cons (pv 5) pa_nil))))))) (pss_one (ps_ret (pe_tup (pa_cons pe_non (pa_cons pe_int pa_nil))))) pss_nil)
    (pss_cons (ps_if (pt_cmpR (op_neD hr.units) (pe_call G_law_changed (hr.mono (by decide)) (by rfl) T.m_law_changed T.F_law_changed.kp T.b_law_changed .nil pass0 (pa_cons (pv 1) (pa_cons (pe_meth (pv 0) T.cl_Turning T.me_Turning_change G_Turning_change (hr.mono (by decide)) T.b_Turning_change .nil passL (pa_cons (pe_callTy call_list_of (by rfl) T.g_list boot_list (pa_cons (pv 8) pa_nil)) pa_nil)) (pa_cons (pv 4) (pa_cons (pv 5) (pa_cons (pe_un un_neg pe_int) pa_nil)))))) (pv 8) (nomark _)) (pss_one (ps_ret (pe_tup (pa_cons pe_non (pa_cons pe_int pa_nil))))) pss_nil)
    (pss_one (ps_ret (pe_tup (pa_cons (pv 8) (pa_cons (pe_un un_neg pe_int) pa_nil)))))))) pss_nil)
    (pss_cons (ps_if (PW.pt (pw_and (pt_cmpR op_eq (pv 6) pe_int (nomark _)) (pw_and1 (pt_cmpR op_eq (pe_op op_mod (pv 7) pe_int) pe_int (nomark _))))) (pss_one (ps_ret (pe_call G_law_leapt_T (hr.mono (by decide)) (by rfl) T.m_law_leapt T.F_law_leapt.kp T.b_law_leapt .nil pass0 (pa_cons (pv 0) (pa_cons (pv 1) (pa_cons (pe_op op_sub (pe_op op_add (pe_op op_mul (pe_op op_sub (pe_op op_mod (pe_op op_fdivW (pv 7) pe_int) pe_int) pe_int) (pv 3)) (pe_op op_mod (pe_op op_fdivW (pv 7) pe_int) pe_int)) pe_int) pa_nil)))))) pss_nil)
    (pss_cons (ps_if (pt_cmpR op_eq (pv 6) pe_int (nomark _)) (pss_one (ps_ret (pe_call G_law_leapt_T (hr.mono (by decide)) (by rfl) T.m_law_leapt T.F_law_leapt.kp T.b_law_leapt .nil pass0 (pa_cons (pv 0) (pa_cons (pv 1) (pa_cons (pe_op op_sub (pe_op op_mod (pe_op op_mulX (pv 7) (pe_op op_pow pe_int pe_int)) (pe_op op_add (pe_op op_mul pe_int (pe_op op_pow pe_int pe_int)) pe_int)) (pe_op op_pow pe_int pe_int)) pa_nil)))))) pss_nil)
    (pss_cons (ps_if (pt_cmpR op_eq (pv 6) pe_int (nomark _)) (pss_one (ps_ret (pe_tup (pa_cons (pe_meth (pv 0) T.cl_Turning T.me_Turning_leap G_Listing_leap_T (hr.mono (by decide)) T.be_Listing_leap T.ve_Listing_leap passL (pa_cons (pe_callTy call_list_of (by rfl) T.g_list boot_list (pa_cons (pv 1) pa_nil)) pa_nil)) (pa_cons pe_int pa_nil))))) pss_nil)
    (pss_cons (ps_if (pt_cmpR op_eq (pv 6) pe_int (nomark _)) (pss_one (ps_ret (pe_tup (pa_cons (pe_meth (pv 0) T.cl_Turning T.me_Turning_next_row G_Listing_next_row_T (hr.mono (by decide)) T.b_Listing_next_row .nil passL (pa_cons (pe_callTy call_list_of (by rfl) T.g_list boot_list (pa_cons (pv 1) pa_nil)) pa_nil)) (pa_cons pe_int pa_nil))))) pss_nil)
    (pss_cons (ps_set (i := 9) sc_law_deed.nd rfl (Or.inl rfl) (pe_call G_law_any (hr.mono (by decide)) (by rfl) T.m_law_any T.F_law_any.kp T.b_law_any .nil pass0 (pa_cons (pv 1) (pa_cons (pv 7) (pa_cons (pv 4) (pa_cons (pv 5) pa_nil))))))
    (pss_cons (ps_set (i := 10) sc_law_deed.nd rfl (Or.inl rfl) (pe_lst (pa_cons (pe_callTy call_list_of (by rfl) T.g_list boot_list (pa_cons (pv 1) pa_nil)) (pa_cons (pe_callTy call_list_of (by rfl) T.g_list boot_list (pa_cons (pv 9) pa_nil)) pa_nil))))
    (pss_cons (ps_set (i := 11) sc_law_deed.nd rfl (Or.inl rfl) (pe_meth (pv 0) T.cl_Turning T.me_Turning_steps_to G_Listing_steps_to_T (hr.mono (by decide)) T.b_Listing_steps_to .nil passL (pa_cons (pe_ix ix_list (pv 10) pe_int (fun _ _ => rfl)) (pa_cons (pe_ix ix_list (pv 10) pe_int (fun _ _ => rfl)) pa_nil))))
    (pss_cons (ps_if (PW.pt (pw_or (pt_cmpR (op_neD hr.units) (pe_ix ix_list (pv 10) pe_int (fun _ _ => rfl)) (pv 1) (nomark _)) (pw_or1 (pt_cmpR (op_neD hr.units) (pe_ix ix_list (pv 10) pe_int (fun _ _ => rfl)) (pv 9) (nomark _))))) (pss_one (ps_ret (pe_tup (pa_cons pe_non (pa_cons pe_int pa_nil))))) pss_nil)
    (pss_one (ps_ret (pe_tup (pa_cons (pv 9) (pa_cons (pv 11) pa_nil))))))))))))))))), ?read⟩)
  case len =>
    obtain ⟨o, r, c, s, n, xs, rfl, _⟩ := h
    rfl
  case read =>
    obtain ⟨o, r, c, s, n, xs, rfl, hc, f, ho, hx, hr, q⟩ := h
    have hk := okF_T f
    have hlen := Kd.row_len hr
    have hn := Kd.len_le hk
    have m0 := Kd.sz_pos hk
    obtain ⟨dx, hO⟩ := id ho
    show tSeq _ _ _ [some (.ref o), some (.ref r), some (.int c), some (.int (Kd.T s n).sz), some (.int (Kd.T s n).sg), some (onV (Kd.T s n)), none, none, none, none, none, none] H
    refine b_asg (Ex.refl H) (v := .int (c % 6)) (by walk_at "ev") fun H1 e => ?_
    refine b_asg e (v := .int (c / 6)) (by walk_at "ev") fun H2 e => ?_
    show tSeq _ _ _ [some (.ref o), some (.ref r), some (.int c), some (.int (Kd.T s n).sz), some (.int (Kd.T s n).sg), some (onV (Kd.T s n)), some (.int (c % 6)), some (.int (c / 6)), none, none, none, none] H2
    -- a step on by the change told
    refine b_when e (by walk_at "ev") (fun hb H3 e => ?_) (fun hb H3 e => ?_)
    · have h0 : c % 6 = 0 := by simpa using hb
      exact b_retP e (ep_tup (el_changed (d := (Kd.T s n)) (u := 1) hk hx (by omega) (fun c h => h) (ev_var rfl) (ech_change_T f ho hr (ev_var rfl) (el_list (ev_var rfl) (sq_of hx))) fun _ _ => by walk_at "ev") fun _ _ => ev_c) (q _ _ (Kd.on_row hk xs 1) (Kd.on_pl hk xs 1) (by omega))
    have c0 : c % 6 ≠ 0 := by simpa using hb
    -- a step back
    refine b_when e (by walk_at "ev") (fun hb H3 e => ?_) (fun hb H3 e => ?_)
    · have h1 : c % 6 = 1 := by simpa using hb
      have hbf : EvL (tMeth T.c_Turning "row_before" (sp_Listing_row_before_T T) [] E0 (tVar 0) (tCons (tCB (rListS K) (tCons (tVar 1) tNil)) tNil)) [some (.ref o), some (.ref r), some (.int c), some (.int (Kd.T s n).sz), some (.int (Kd.T s n).sg), some (onV (Kd.T s n)), some (.int (c % 6)), some (.int (c / 6)), none, none, none, none] H (((Kd.T s n).on xs (-1)).map V.int) :=
        el_methN (ev_var rfl) hO (tF_m _ _ _) (el_list (ev_var rfl) (sq_of hx)) fun p H1 e h1 Q q => ⟨o, p, s, n, xs, rfl, f, ho.mono e, sq_of h1, by omega, fun _ => q, fun z => absurd hr z⟩
      refine b_asgL e hbf fun b H4 nb e4 hb4 => ?_
      have bR := Kd.on_row hk xs (-1)
      have bN : (Kd.T s n).on ((Kd.T s n).on xs (-1)) 1 = xs := by
        rw [Kd.on_on hk, show (-1 : Int) + 1 = 0 by decide, Kd.on_zero hk hr]
      have bP := Kd.on_pl hk xs (-1)
      generalize (Kd.T s n).on xs (-1) = bs at *
      have hx4 := e4 _ _ hx
      have ho4 := ho.mono e4
      refine b_skip (b := !true) (Ex.refl H4) (et_not (et_B (ev_is_row hk hb4 bR (ea_cons (ev_var rfl) (ea_cons (ev_is (ev_len (ev_var rfl) (sq_of hx4)) (by rw [List.length_map, hlen])) (by walk_at "ev")))))) (fun H5 e5 => ?_)
      refine b_skip (b := !decide (bs = bs)) e5 (et_test (ev_opL1 (xs := bs.map V.int) (el_changed (d := (Kd.T s n)) (u := -1) (P := fun c => Mv (Kd.T s n) 1 c bs xs) hk hx4 (by omega) (fun c h => Mv.back hk bR h) (ev_var rfl) (by
          have h := ech_change_T (T := T) (E := E0) (ta := tVar 0) (te := tCB (rListS K) (tCons (tVar 8) tNil)) (σ := [some (.ref o), some (.ref r), some (.int c), some (.int (Kd.T s n).sz), some (.int (Kd.T s n).sg), some (onV (Kd.T s n)), some (.int (c % 6)), some (.int (c / 6)), some (.ref b), none, none, none]) f ho4 bR (ev_var rfl) (el_list (ev_var rfl) (sq_of hb4))
          rw [bN] at h
          exact h) fun _ _ => by walk_at "ev") (fun H1 _ => ev_var rfl) fun p' H1 hp' e1 => rv_neL (sq_of hp') (sq_of (e1 _ _ hb4)))) (fun H6 e6 => ?_) (by simp)
      exact b_retQ (e4.trans e6) nb (e6 _ _ hb4) (ev_var rfl) (by walk_at "ev") (q _ _ bR bP (by omega))
    have c1 : c % 6 ≠ 1 := by simpa using hb
    -- leaps
    refine b_when e (by walk_at "ev") (fun hb H3 e => ?_) (fun hb H3 e => ?_)
    · have h2 : c % 6 = 2 := by
        rw [Bool.and_eq_true] at hb
        simpa using hb.1
      exact b_retP e (ep_leapt_T f ho hx hr (t := (c / 6 / 3 % 5 - 2) * (Kd.T s n).sz + c / 6 / 15 % 3 - 1) (by walk_at "ev")) (q _ _ (Kd.on_row hk xs _) (Kd.on_pl hk xs _) (by omega))
    refine b_when e (by walk_at "ev") (fun hb H3 e => ?_) (fun hb H3 e => ?_)
    · have h2 : c % 6 = 2 := by simpa using hb
      exact b_retP e (ep_leapt_T f ho hx hr (t := c / 6 * c5 % (2 * 10 ^ 60 + 1) - 10 ^ 60) (ea_cons (ev_var rfl) (ea_cons (ev_var rfl) (ea_cons (ev_op (ev_op (ev_op (ev_var rfl) (ev_op ev_c ev_c rv_c5) (rv_mulX (div6_bits hc) c5_lt (by decide))) (ev_op (ev_op ev_c (ev_op ev_c ev_c rv_p60) (rv_I (cmul_l (by decide) (by decide)))) ev_c rv_I0) (rv_I (by decide))) (ev_op ev_c ev_c rv_p60) rv_I0) ea_nil)))) (q _ _ (Kd.on_row hk xs _) (Kd.on_pl hk xs _) (by omega))
    have c2 : c % 6 ≠ 2 := by simpa using hb
    refine b_when e (by walk_at "ev") (fun hb H3 e => ?_) (fun hb H3 e => ?_)
    · have h3 : c % 6 = 3 := by simpa using hb
      have hlp : EvL (tMeth T.c_Turning "leap" (sp_Listing_leap_T T) [.int 1] E0 (tVar 0) (tCons (tCB (rListS K) (tCons (tVar 1) tNil)) tNil)) [some (.ref o), some (.ref r), some (.int c), some (.int (Kd.T s n).sz), some (.int (Kd.T s n).sg), some (onV (Kd.T s n)), some (.int (c % 6)), some (.int (c / 6)), none, none, none, none] H (((Kd.T s n).on xs 1).map V.int) :=
        el_methNd (ev_var rfl) hO (tF_m _ _ _) (el_list (ev_var rfl) (sq_of hx)) fun p H1 e h1 Q q => ⟨o, p, s, n, xs, 1, rfl, f, ho.mono e, sq_of h1, by omega, fun _ => q, fun z => absurd hr z⟩
      exact b_retP e (ep_tup hlp fun _ _ => ev_c) (q _ _ (Kd.on_row hk xs 1) (Kd.on_pl hk xs 1) (by omega))
    refine b_when e (by walk_at "ev") (fun hb H3 e => ?_) (fun hb H3 e => ?_)
    · have h4 : c % 6 = 4 := by simpa using hb
      have hnx : EvL (tMeth T.c_Turning "next_row" (sp_Listing_next_row_T T) [] E0 (tVar 0) (tCons (tCB (rListS K) (tCons (tVar 1) tNil)) tNil)) [some (.ref o), some (.ref r), some (.int c), some (.int (Kd.T s n).sz), some (.int (Kd.T s n).sg), some (onV (Kd.T s n)), some (.int (c % 6)), some (.int (c / 6)), none, none, none, none] H (((Kd.T s n).on xs 1).map V.int) :=
        el_methN (ev_var rfl) hO (tF_m _ _ _) (el_list (ev_var rfl) (sq_of hx)) fun p H1 e h1 Q q => ⟨o, p, s, n, xs, rfl, f, ho.mono e, sq_of h1, by omega, fun _ => q, fun z => absurd hr z⟩
      exact b_retP e (ep_tup hnx fun _ _ => ev_c) (q _ _ (Kd.on_row hk xs 1) (Kd.on_pl hk xs 1) (by omega))
    -- any row, and the steps to it
    refine b_asgLS e (els_any hk hx hr (by walk_at "ev")) ?_
    rintro ys hy u H4 nu e4 hu
    have hx4 := e4 _ _ hx
    have hO4 := e4 _ _ hO
    refine b_asgLL (Ex.refl H4) (el_list (ev_var rfl) (sq_of hx4)) (el_list (ev_var rfl) (sq_of hu)) fun kp ka kb H5 nk e5 hkp hka hkb => ?_
    have hO5 := e5 _ _ hO4
    have hx5 := e5 _ _ hx4
    have hu5 := e5 _ _ hu
    have hyl := Kd.row_len hy
    have st : Ev (tMeth T.c_Turning "steps_to" (sp_Listing_steps_to_T T) [] E0 (tVar 0) (tCons (tOp (rIxL K) (tVar 10) (tC (.int 0))) (tCons (tOp (rIxL K) (tVar 10) (tC (.int 1))) tNil))) [some (.ref o), some (.ref r), some (.int c), some (.int (Kd.T s n).sz), some (.int (Kd.T s n).sg), some (onV (Kd.T s n)), some (.int (c % 6)), some (.int (c / 6)), none, some (.ref u), some (.ref kp), none] H5 (.int (((Kd.T s n).pl ys - (Kd.T s n).pl xs) % (Kd.T s n).sz)) :=
      ev_meth (ev_var rfl) hO5 (tF_m _ _ _) (ea_cons (ev_op (ev_var rfl) ev_c (rv_ixL (sq_of hkp) (at_of (j := 0) rfl rfl))) (ea_cons (ev_op (ev_var rfl) ev_c (rv_ixL (sq_of hkp) (at_of (j := 1) rfl rfl))) ea_nil)) fun H1 e Q q => ⟨o, ka, kb, s, n, xs, ys, rfl, f, ((ho.mono e4).mono e5).mono e, sq_of (e _ _ hka), sq_of (e _ _ hkb), by omega, by omega, fun _ => q, fun z => absurd ⟨hr, hy⟩ z⟩
    refine b_asg (Ex.refl H5) st fun H6 e6 => ?_
    refine b_skip (b := !decide (xs = xs) || !decide (ys = ys)) e6 (et_or (et_test (ev_op (ev_op (ev_var rfl) ev_c (rv_ixL (sq_of hkp) (at_of (j := 0) rfl rfl))) (ev_var rfl) (rv_neL (sq_of hka) (sq_of hx5)))) fun _ => et_test (ev_op (ev_op (ev_var rfl) ev_c (rv_ixL (sq_of hkp) (at_of (j := 1) rfl rfl))) (ev_var rfl) (rv_neL (sq_of hkb) (sq_of hu5)))) (fun H7 e7 => ?_) (by simp)
    have py := Kd.pl_rng hk hy
    refine b_retQ ((e4.trans e5).trans e7) nu (e7 _ _ hu5) (ev_var rfl) (ev_var rfl) (q ys _ hy ?_ fun _ => mod_range _ m0)
    rw [Int.add_emod_emod, show (Kd.T s n).pl xs + ((Kd.T s n).pl ys - (Kd.T s n).pl xs) = (Kd.T s n).pl ys by omega, Int.emod_eq_of_lt py.1 py.2]
/-! #### _law_stands -/
def sp_law_stands_T (T : Txt K mg) : Sp := fun vs H Q _ => ∃ (o r : Addr) (s : Int) (n : Nat) (xs : List Int), vs = [.ref o, .ref r, .int ((Kd.T s n).pl xs)] ∧ TForm s n ∧ IsT T H o s n ∧ H r = some (.lst (xs.map V.int)) ∧ (Kd.T s n).row xs ∧ RetV (.bl true) H Q
theorem ev_stands_T {T : Txt K mg} {σ : L2.St} {H : Hp} {tg : TA} {E : XK} {o r : Addr} {s : Int} {n : Nat} {xs : List Int} (f : TForm s n) (ho : IsT T H o s n) (hx : H r = some (.lst (xs.map V.int))) (hr : (Kd.T s n).row xs) (ha : EvA tg σ H [.ref o, .ref r, .int ((Kd.T s n).pl xs)]) : Ev (tCall (sp_law_stands_T T) [] E tg) σ H (.bl true) :=
  ev_callF ha fun _ e _ q => ⟨o, r, s, n, xs, rfl, f, ho.mono e, e _ _ hx, hr, q⟩
theorem ok_law_stands_T (T : Txt K mg) : FnOk P w K mg base CX0 3 T.a_law_stands T.d_law_stands P_law_stands (sp_law_stands_T T) := by
  have G_Turning_place_of := ok_Turning_place_of (P := P) (w := w) (base := base) T
  have G_Turning_row_at := ok_Turning_row_at (P := P) (w := w) (base := base) T
  have G_law_whole := ok_law_whole (P := P) (w := w) (base := base) T
  refine (T.F_law_stands).ok sc_law_stands (fun vs H Q E h => ?len) (fun cdv A outer s H vs Q E hr h => ⟨_, (pss_cons (ps_set (i := 3) sc_law_stands.nd rfl (Or.inl rfl) (pe_callTy call_list_of (by rfl) T.g_list boot_list (pa_cons (pv 1) pa_nil)))
    (pss_cons (ps_set (i := 4) sc_law_stands.nd rfl (Or.inl rfl) (pe_meth (pv 0) T.cl_Turning T.me_Turning_place_of G_Turning_place_of (hr.mono (by decide)) T.b_Turning_place_of .nil passL (pa_cons (pv 3) pa_nil)))
    (pss_cons (ps_if (PW.pt (pw_or (pt_not (pt_val (pe_call G_law_whole (hr.mono (by decide)) (by rfl) T.m_law_whole T.F_law_whole.kp T.b_law_whole .nil pass0 (pa_cons (pv 4) pa_nil)))) (pw_or (pt_cmpR op_ne (pv 4) (pv 2) (nomark _)) (pw_or1 (pt_cmpR (op_neD hr.units) (pv 3) (pv 1) (nomark _)))))) (pss_one (ps_ret pe_bl)) pss_nil)
    (pss_cons (ps_set (i := 5) sc_law_stands.nd rfl (Or.inl rfl) (pe_meth (pv 0) T.cl_Turning T.me_Turning_row_at G_Turning_row_at (hr.mono (by decide)) T.b_Turning_row_at .nil passL (pa_cons (pv 2) pa_nil)))
    (pss_one (ps_ret (pe_and (pe_callB call_isi (by rfl) T.g_isinstance boot_isinstance (pa_cons (pv 5) (pa_cons (pe_bltn (v := .ty "list") rfl T.g_list boot_list rfl) pa_nil))) (pe_one (pe_cmpR (op_eqD hr.units) (pv 5) (pv 1) (nomark _)))))))))), ?read⟩)
  case len =>
    obtain ⟨o, r, s, n, xs, rfl, _⟩ := h
    rfl
  case read =>
    obtain ⟨o, r, s, n, xs, rfl, f, ho, hx, hr, q⟩ := h
    have hk := okF_T f
    obtain ⟨p0, p1⟩ := Kd.pl_rng hk hr
    have hat := Kd.at_pl hk hr
    show tSeq _ _ _ [some (.ref o), some (.ref r), some (.int ((Kd.T s n).pl xs)), none, none, none] H
    refine b_asgL (Ex.refl H) (el_list (ev_var rfl) (sq_of hx)) fun l H1 nl e hl => ?_
    have ho1 := ho.mono e
    have hx1 := e _ _ hx
    refine b_asg (Ex.refl H1) (v := .int ((Kd.T s n).pl xs)) (ev_Tplace f ho1 (sq_of hl) hr.1 hr.2 (ev_var rfl) (by walk_at "ev")) fun H2 e2 => ?_
    refine b_skip (b := !true || (!decide ((Kd.T s n).pl xs = (Kd.T s n).pl xs) || !decide (xs = xs))) e2 (et_or (et_not (et_B (ev_whole (by walk_at "ev")))) fun _ => et_or (et_test (ev_op (ev_var rfl) (ev_var rfl) rv_neI)) fun _ => et_test (ev_op (ev_var rfl) (ev_var rfl) (rv_neL (sq_of hl) (sq_of hx1)))) (fun H3 e3 => ?_) (by simp)
    have hrow := el_trow (T := T) (E := E0) (ta := tVar 0) (tg := tCons (tVar 2) tNil) (σ := [some (.ref o), some (.ref r), some (.int ((Kd.T s n).pl xs)), some (.ref l), some (.int ((Kd.T s n).pl xs)), none]) (p := (Kd.T s n).pl xs) f ho1 p0 p1 (ev_var rfl) (by walk_at "ev")
    refine b_asgL e3 (xs := ((Kd.T s n).at_ ((Kd.T s n).pl xs)).map V.int) hrow fun t H4 nt e4 ht => ?_
    rw [hat] at ht
    refine b_ret (Ex.refl H4) (v := .bl (true && decide (xs = xs))) (ev_andV (ev_isi (by walk_at "ev") (.lst ht) (kit_ty (by decide +kernel))) fun _ => ev_op (ev_var rfl) (ev_var rfl) (rv_eqL (sq_of ht) (sq_of (e4 _ _ hx1)))) ?_
    rw [decide_eq_true rfl]
    exact fun H5 e5 => q H5 ((e.trans e4).trans e5)
/-! #### _law_walked -/
theorem eps_deed_T {T : Txt K mg} {σ : L2.St} {H : Hp} {tg : TA} {E : XK} {o r : Addr} {c : Int} {s : Int} {n : Nat} {xs : List Int} (hc : Few c) (f : TForm s n) (ho : IsT T H o s n) (hx : H r = some (.lst (xs.map V.int))) (hr : (Kd.T s n).row xs) (ha : EvA tg σ H [.ref o, .ref r, .int c, .int (Kd.T s n).sz, .int (Kd.T s n).sg, onV (Kd.T s n)]) :
    EvPS (tCall (sp_law_deed_T T) [] E tg) σ H (fun ys t => (Kd.T s n).row ys ∧ (Kd.T s n).pl ys = ((Kd.T s n).pl xs + t) % (Kd.T s n).sz ∧ (c % 6 = 5 → 0 ≤ t ∧ t < (Kd.T s n).sz)) := fun H1 e Q q =>
  ha H1 e _ fun H2 e2 => ⟨o, r, c, s, n, xs, rfl, hc, f, ho.mono (e.trans e2), (e.trans e2) _ _ hx, hr, fun ys t h1 h2 h3 p l H3 hl e3 h4 h5 => q ys t ⟨h1, h2, h3⟩ p l H3 (fresh_back e2 hl) (e2.trans e3) h4 h5⟩
def sp_law_walked_T (T : Txt K mg) : Sp := fun vs H Q _ => ∃ (o fr cr : Addr) (s : Int) (n : Nat) (cs : List Int), vs = [.ref o, .int (Kd.T s n).sz, .ref fr, .ref cr, .int (Kd.T s n).sg, onV (Kd.T s n)] ∧ TForm s n ∧ IsT T H o s n ∧ H fr = some (.lst ((Kd.T s n).first.map V.int)) ∧ SqL K H cr (cs.map V.int) ∧ (∀ c ∈ cs, Few c) ∧ cs.length ≤ 1000 ∧ RetV (.bl true) H Q
theorem ok_law_walked_T (T : Txt K mg) : FnOk P w K mg base CX0 6 T.a_law_walked T.d_law_walked P_law_walked (sp_law_walked_T T) := by
  have G_Listing_leap_T := ok_Listing_leap_T (P := P) (w := w) (base := base) T
  have G_Listing_steps_to_T := ok_Listing_steps_to_T (P := P) (w := w) (base := base) T
  have G_law_deed_T := ok_law_deed_T (P := P) (w := w) (base := base) T
  have G_law_is_row := ok_law_is_row (P := P) (w := w) (base := base) T
  have G_law_stands_T := ok_law_stands_T (P := P) (w := w) (base := base) T
  have G_law_whole := ok_law_whole (P := P) (w := w) (base := base) T
  refine (T.F_law_walked).ok sc_law_walked (fun vs H Q E h => ?len) (fun cdv A outer s H vs Q E hr h => ⟨_, (pss_cons (ps_if (pt_not (pt_val (pe_callB call_isi (by rfl) T.g_isinstance boot_isinstance (pa_cons (pv 0) (pa_cons (pe_glob (v := .ref T.c_Listing) rfl T.m_Listing rfl) pa_nil))))) (pss_one (ps_ret pe_bl)) pss_nil)
    (pss_cons (ps_set (i := 6) sc_law_walked.nd rfl (Or.inl rfl) (pe_callTy call_list_of (by rfl) T.g_list boot_list (pa_cons (pv 2) pa_nil)))
    (pss_cons (ps_set (i := 7) sc_law_walked.nd rfl (Or.inl rfl) pe_int)
    (pss_cons (ps_set (i := 8) sc_law_walked.nd rfl (Or.inl rfl) (pe_lst pa_nil))
    (pss_cons (ps_set (i := 9) sc_law_walked.nd rfl (Or.inl rfl) (pe_lst pa_nil))
    (pss_cons (ps_set (i := 10) sc_law_walked.nd rfl (Or.inl rfl) (pe_lst pa_nil))
    (pss_cons (ps_for PassesOwn.never rfl (pi_list (pv 3)) (pg_name (i := 11) sc_law_walked.nd rfl (Or.inl rfl)) (pss_cons (ps_asg (pe_call G_law_deed_T (hr.mono (by decide)) (by rfl) T.m_law_deed T.F_law_deed.kp T.b_law_deed .nil pass0 (pa_cons (pv 0) (pa_cons (pv 6) (pa_cons (pv 11) (pa_cons (pv 1) (pa_cons (pv 4) (pa_cons (pv 5) pa_nil))))))) (pg_tup rfl (pgs_cons (pg_name (i := 6) sc_law_walked.nd rfl (Or.inl rfl)) (pgs_cons (pg_name (i := 12) sc_law_walked.nd rfl (Or.inl rfl)) pgs_nil))))
    (pss_cons (ps_if (PW.pt (pw_or (pt_cmpR op_isN (pv 6) pe_non (nomark _)) (pw_or (pt_not (pt_val (pe_call G_law_whole (hr.mono (by decide)) (by rfl) T.m_law_whole T.F_law_whole.kp T.b_law_whole .nil pass0 (pa_cons (pv 12) pa_nil)))) (pw_or1 (pt_not (pt_val (pe_call G_law_is_row (hr.mono (by decide)) (by rfl) T.m_law_is_row T.F_law_is_row.kp T.b_law_is_row .nil pass0 (pa_cons (pv 6) (pa_cons (pe_callB call_len_seq (by rfl) T.g_len boot_len (pa_cons (pv 2) pa_nil)) (pa_cons (pv 4) (pa_cons (pv 5) pa_nil))))))))))) (pss_one (ps_ret pe_bl)) pss_nil)
    (pss_cons (ps_if (PW.pt (pw_and (pt_cmpR op_eq (pe_op op_mod (pv 11) pe_int) pe_int (nomark _)) (pw_and1 (pt_not (pt_chain op_le op_lt pe_int (pv 12) (pv 1)))))) (pss_one (ps_ret pe_bl)) pss_nil)
    (pss_cons (ps_set (i := 7) sc_law_walked.nd rfl (Or.inl rfl) (pe_op op_mod (pe_op op_add (pv 7) (pv 12)) (pv 1)))
    (pss_cons (ps_expr (pe_bm PySem.F.plainAttrs_list PySem.F.slot_list_append PySem.F.type_list_append mt_append (pv 8) (pa_cons (pv 6) pa_nil)))
    (pss_cons (ps_expr (pe_bm PySem.F.plainAttrs_list PySem.F.slot_list_append PySem.F.type_list_append mt_append (pv 9) (pa_cons (pe_callTy call_list_of (by rfl) T.g_list boot_list (pa_cons (pv 6) pa_nil)) pa_nil)))
    (pss_cons (ps_expr (pe_bm PySem.F.plainAttrs_list PySem.F.slot_list_append PySem.F.type_list_append mt_append (pv 10) (pa_cons (pv 7) pa_nil)))
    (pss_one (ps_if (pt_not (pt_val (pe_call G_law_stands_T (hr.mono (by decide)) (by rfl) T.m_law_stands T.F_law_stands.kp T.b_law_stands .nil pass0 (pa_cons (pv 0) (pa_cons (pv 6) (pa_cons (pv 7) pa_nil)))))) (pss_one (ps_ret pe_bl)) pss_nil))))))))))
    (pss_cons (ps_set (i := 13) sc_law_walked.nd rfl (Or.inl rfl) (pe_meth (pv 0) T.cl_Turning T.me_Turning_leap G_Listing_leap_T (hr.mono (by decide)) T.b_Listing_leap .nil passL (pa_cons (pe_callTy call_list_of (by rfl) T.g_list boot_list (pa_cons (pv 6) pa_nil)) (pa_cons (pe_un un_neg (pv 7)) pa_nil))))
    (pss_cons (ps_set (i := 14) sc_law_walked.nd rfl (Or.inl rfl) (pe_meth (pv 0) T.cl_Turning T.me_Turning_leap G_Listing_leap_T (hr.mono (by decide)) T.b_Listing_leap .nil passL (pa_cons (pe_callTy call_list_of (by rfl) T.g_list boot_list (pa_cons (pv 2) pa_nil)) (pa_cons (pv 7) pa_nil))))
    (pss_cons (ps_if (PW.pt (pw_or (pt_not (pt_val (pe_callB call_isi (by rfl) T.g_isinstance boot_isinstance (pa_cons (pv 13) (pa_cons (pe_bltn (v := .ty "list") rfl T.g_list boot_list rfl) pa_nil))))) (pw_or (pt_not (pt_val (pe_callB call_isi (by rfl) T.g_isinstance boot_isinstance (pa_cons (pv 14) (pa_cons (pe_bltn (v := .ty "list") rfl T.g_list boot_list rfl) pa_nil))))) (pw_or (pt_cmpR (op_neD hr.units) (pv 13) (pv 2) (nomark _)) (pw_or1 (pt_cmpR (op_neD hr.units) (pv 14) (pv 6) (nomark _))))))) (pss_one (ps_ret pe_bl)) pss_nil)
    (pss_cons (ps_set (i := 15) sc_law_walked.nd rfl (Or.inl rfl) (pe_meth (pv 0) T.cl_Turning T.me_Turning_steps_to G_Listing_steps_to_T (hr.mono (by decide)) T.b_Listing_steps_to .nil passL (pa_cons (pe_callTy call_list_of (by rfl) T.g_list boot_list (pa_cons (pv 2) pa_nil)) (pa_cons (pe_callTy call_list_of (by rfl) T.g_list boot_list (pa_cons (pv 6) pa_nil)) pa_nil))))
    (pss_cons (ps_if (PW.pt (pw_or (pt_not (pt_val (pe_call G_law_whole (hr.mono (by decide)) (by rfl) T.m_law_whole T.F_law_whole.kp T.b_law_whole .nil pass0 (pa_cons (pv 15) pa_nil)))) (pw_or (pt_cmpR op_ne (pv 15) (pv 7) (nomark _)) (pw_or1 (pt_cmpR (op_neD hr.units) (pv 8) (pv 9) (nomark _)))))) (pss_one (ps_ret pe_bl)) pss_nil)
    (pss_cons (ps_for PassesOwn.never rfl (pi_range1 rfl T.g_range (pa_cons (pe_callB call_len_seq (by rfl) T.g_len boot_len (pa_cons (pv 9) pa_nil)) pa_nil)) (pg_name (i := 16) sc_law_walked.nd rfl (Or.inl rfl)) (pss_cons (ps_set (i := 15) sc_law_walked.nd rfl (Or.inl rfl) (pe_meth (pv 0) T.cl_Turning T.me_Turning_steps_to G_Listing_steps_to_T (hr.mono (by decide)) T.b_Listing_steps_to .nil passL (pa_cons (pe_callTy call_list_of (by rfl) T.g_list boot_list (pa_cons (pv 6) pa_nil)) (pa_cons (pe_callTy call_list_of (by rfl) T.g_list boot_list (pa_cons (pe_ix ix_list (pv 9) (pv 16) (fun _ _ => rfl)) pa_nil)) pa_nil))))
    (pss_one (ps_if (PW.pt (pw_or (pt_not (pt_val (pe_call G_law_whole (hr.mono (by decide)) (by rfl) T.m_law_whole T.F_law_whole.kp T.b_law_whole .nil pass0 (pa_cons (pv 15) pa_nil)))) (pw_or1 (pt_cmpR op_ne (pv 15) (pe_op op_mod (pe_op op_sub (pe_ix ix_list (pv 10) (pv 16) (fun _ _ => rfl)) (pv 7)) (pv 1)) (nomark _))))) (pss_one (ps_ret pe_bl)) pss_nil))))
    (pss_one (ps_ret (pe_cmpR (op_eqD hr.units) (pv 8) (pv 9) (nomark _))))))))))))))))), ?read⟩)
  case len =>
    obtain ⟨o, fr, cr, s, n, cs, rfl, _⟩ := h
    rfl
  case read =>
    obtain ⟨o, fr, cr, s, n, cs, rfl, f, ho, hf, hc, hfew, hcl, q⟩ := h
    have hk := okF_T f
    have fR := Kd.first_row hk
    have fP := Kd.first_pl hk
    have flen := Kd.row_len fR
    have hn := Kd.len_le hk
    have m0 := Kd.sz_pos hk
    obtain ⟨dx, hO⟩ := id ho
    show tSeq _ _ _ [some (.ref o), some (.int (Kd.T s n).sz), some (.ref fr), some (.ref cr), some (.int (Kd.T s n).sg), some (onV (Kd.T s n)), none, none, none, none, none, none, none, none, none, none, none] H
    refine b_skip (b := !true) (Ex.refl H) (et_not (et_B (ev_isiO (by walk_at "ev") (TyOf.ins hO T.cl_Turning T.ca_Turning T.gd_class T.tk_class T.mo_Turning) T.ki_Turning))) (fun H1 e1 => ?_)
    refine b_asgL e1 (el_list (ev_var rfl) (sq_of hf)) fun l0 H2 nl0 e2 hl0 => ?_
    refine b_asg (Ex.refl H2) (v := .int 0) ev_c fun H3 e3 => ?_
    refine b_asgL e3 (xs := []) (el_lst ea_nil (by simp)) fun hd H4 nhd e4 hhd => ?_
    refine b_asgL (Ex.refl H4) (xs := []) (el_lst ea_nil (by simp)) fun kp H5 nkp e5 hkp => ?_
    refine b_asgL (Ex.refl H5) (xs := []) (el_lst ea_nil (by simp)) fun pc H6 npc e6 hpc => ?_
    have n1 : hd ≠ kp := ne_of_none hhd nkp
    have n2 : hd ≠ pc := ne_of_none (e5 _ _ hhd) npc
    have n3 : kp ≠ pc := ne_of_none hkp npc
    have fkp : H2 kp = none := fresh_back e4 nkp
    have fpc : H2 pc = none := fresh_back (e4.trans e5) npc
    have ho2 := ho.mono e2
    have hf2 := e2 _ _ hf
    have hc2 := ex_l e2 hc
    have notA : ∀ {a : Addr}, a ≠ hd → a ≠ kp → a ≠ pc → a ∉ [hd, kp, pc] := fun h1 h2 h3 h => by
      simp at h
      rcases h with h | h | h
      · exact h1 h
      · exact h2 h
      · exact h3 h
    have isA : ∀ {a : Addr}, a ∉ [hd, kp, pc] → a ≠ hd ∧ a ≠ kp ∧ a ≠ pc := fun h => by
      simp at h
      exact h
    refine b_forLn (Ex.refl H6) (ev_var rfl) (ex_l ((e4.trans e5).trans e6) hc2) (fun i σ' H' => ∃ (l : Addr) (xs : List Int) (ls ms : List V) (xss : List (List Int)) (u1 u2 : Option V), σ' = [some (.ref o), some (.int (Kd.T s n).sz), some (.ref fr), some (.ref cr), some (.int (Kd.T s n).sg), some (onV (Kd.T s n)), some (.ref l), some (.int ((Kd.T s n).pl xs)), some (.ref hd), some (.ref kp), some (.ref pc), u1, u2, none, none, none, none] ∧ Ex H2 H' ∧ H' l = some (.lst (xs.map V.int)) ∧ l ∉ [hd, kp, pc] ∧ (Kd.T s n).row xs ∧
        H' hd = some (.lst ls) ∧ H' kp = some (.lst ms) ∧ H' pc = some (.lst ((xss.map (Kd.T s n).pl).map V.int)) ∧ RowsAt H' [hd, kp, pc] ls xss ∧ RowsAt H' [hd, kp, pc] ms xss ∧ (∀ ys ∈ xss, (Kd.T s n).row ys) ∧ xss.length = i)
      (fun H' e' => ⟨l0, (Kd.T s n).first, [], [], [], none, none, by rw [fP]; rfl, ((e4.trans e5).trans e6).trans e', e' _ _ (e6 _ _ (e5 _ _ (e4 _ _ hl0))), notA (ne_of_none hl0 nhd) (ne_of_none hl0 fkp) (ne_of_none hl0 fpc), fR, e' _ _ (e6 _ _ (e5 _ _ hhd)), e' _ _ (e6 _ _ hkp), e' _ _ hpc, trivial, trivial, (fun _ h => by cases h), rfl⟩)
      (fun i σ' H' _ ⟨_, _, _, _, _, _, _, _, e', _⟩ => ex_l e' hc2) ?_ ?_
    · rintro i x σ' H' hi ⟨l, xs, ls, ms, xss, u1, u2, rfl, e', hl, hlA, hr, hH, hM, hP, rH, rM, hall, hlen⟩
      obtain ⟨c, hic, rfl, hcc⟩ := int_item hi
      have hfc : Few c := hcc ▸ hfew _ (List.getElem_mem hic)
      show tSeq _ _ _ [some (.ref o), some (.int (Kd.T s n).sz), some (.ref fr), some (.ref cr), some (.int (Kd.T s n).sg), some (onV (Kd.T s n)), some (.ref l), some (.int ((Kd.T s n).pl xs)), some (.ref hd), some (.ref kp), some (.ref pc), some (.int c), u2, none, none, none, none] H'
      refine b_asgPS (Ex.refl H') (eps_deed_T hfc f (ho2.mono e') hl hr (by walk_at "ev")) ?_
      rintro ys t ⟨yR, yP, y5⟩ l2 H7 nl2 e7 hl2
      have l2A : l2 ≠ hd ∧ l2 ≠ kp ∧ l2 ≠ pc := ⟨(ne_of_none hH nl2).symm, (ne_of_none hM nl2).symm, (ne_of_none hP nl2).symm⟩
      have hf7 := e7 _ _ (e' _ _ hf2)
      refine b_skip (b := false || (!true || !true)) (Ex.refl H7) (et_or (et_test (ev_op (ev_var rfl) ev_c (rv_isNb (b := false) rfl))) fun _ => et_or (et_not (et_B (ev_whole (by walk_at "ev")))) fun _ => et_not (et_B (ev_is_row hk hl2 yR (ea_cons (ev_var rfl) (ea_cons (ev_is (ev_len (ev_var rfl) (sq_of hf7)) (by rw [List.length_map, flen])) (by walk_at "ev")))))) (fun H8 e8 => ?_)
      refine b_skip (b := decide (c % 6 = 5) && !(decide (0 ≤ t) && decide (t < (Kd.T s n).sz))) e8 (et_and (by walk_at "ev") fun _ => et_not (by walk_at "ev")) (fun H9 e9 => ?_) (by
        by_cases h : c % 6 = 5
        · obtain ⟨a, b⟩ := y5 h
          rw [decide_eq_true a, decide_eq_true b]
          simp
        · rw [decide_eq_false h]
          rfl)
      refine b_asg e9 (v := .int ((Kd.T s n).pl ys)) (ev_is (ev_op (ev_op (ev_var rfl) (ev_var rfl) rv_I0) (ev_var rfl) (rv_I m0)) (congrArg V.int yP.symm)) fun H9 e9 => ?_
      show tSeq _ _ _ [some (.ref o), some (.int (Kd.T s n).sz), some (.ref fr), some (.ref cr), some (.int (Kd.T s n).sg), some (onV (Kd.T s n)), some (.ref l2), some (.int ((Kd.T s n).pl ys)), some (.ref hd), some (.ref kp), some (.ref pc), some (.int c), some (.int t), none, none, none, none] H9
      have e79 := e7.trans e9
      have lH := rH.len
      have lM := rM.len
      refine q_app (e79 _ _ hH) (ev_var rfl) (ev_var rfl) (by omega) fun H10 e10 => ?_
      have pa : ∀ a u, a ≠ hd → H9 a = some u → (upd H10 hd (.lst (ls ++ [V.ref l2]))) a = some u := fun a u h1 h2 => by
        rw [upd_ne h1]
        exact e10 _ _ h2
      have ha : (upd H10 hd (.lst (ls ++ [V.ref l2]))) hd = some (.lst (ls ++ [V.ref l2])) := upd_same
      generalize upd H10 hd (.lst (ls ++ [V.ref l2])) = Ha at *
      refine q_appL (pa kp _ n1.symm (e79 _ _ hM)) (ev_var rfl) (el_list (ev_var rfl) (sq_of (pa l2 _ l2A.1 (e9 _ _ hl2)))) (by omega) fun p H11 np e11 hp => ?_
      have p1 : p ≠ hd := (ne_of_none ha np).symm
      have p2 : p ≠ kp := (ne_of_none (pa kp _ n1.symm (e79 _ _ hM)) np).symm
      have p3 : p ≠ pc := (ne_of_none (pa pc _ n2.symm (e79 _ _ hP)) np).symm
      have pb : ∀ a u, a ≠ kp → Ha a = some u → (upd H11 kp (.lst (ms ++ [V.ref p]))) a = some u := fun a u h1 h2 => by
        rw [upd_ne h1]
        exact e11 _ _ h2
      have hb : (upd H11 kp (.lst (ms ++ [V.ref p]))) kp = some (.lst (ms ++ [V.ref p])) := upd_same
      have hpb : (upd H11 kp (.lst (ms ++ [V.ref p]))) p = some (.lst (ys.map V.int)) := by
        rw [upd_ne p2]
        exact hp
      generalize upd H11 kp (.lst (ms ++ [V.ref p])) = Hb at *
      refine q_app (pb pc _ n3.symm (pa pc _ n2.symm (e79 _ _ hP))) (ev_var rfl) (ev_var rfl) (by simp; omega) fun H12 e12 => ?_
      have pd : ∀ a u, a ≠ pc → Hb a = some u → (upd H12 pc (.lst ((xss.map (Kd.T s n).pl).map V.int ++ [V.int ((Kd.T s n).pl ys)]))) a = some u := fun a u h1 h2 => by
        rw [upd_ne h1]
        exact e12 _ _ h2
      have hd' : (upd H12 pc (.lst ((xss.map (Kd.T s n).pl).map V.int ++ [V.int ((Kd.T s n).pl ys)]))) pc = some (.lst (((xss ++ [ys]).map (Kd.T s n).pl).map V.int)) := by
        rw [upd_same, List.map_append, List.map_append]
        rfl
      generalize upd H12 pc (.lst ((xss.map (Kd.T s n).pl).map V.int ++ [V.int ((Kd.T s n).pl ys)])) = Hc at *
      have all3 : ∀ a u, a ∉ [hd, kp, pc] → H' a = some u → Hc a = some u := fun a u h h2 => by
        obtain ⟨h3, h4, h5⟩ := isA h
        exact pd a u h5 (pb a u h4 (pa a u h3 (e79 _ _ h2)))
      have eC : Ex H2 Hc := fun a u h => all3 a u (notA (ne_of_none h nhd) (ne_of_none h fkp) (ne_of_none h fpc)) (e' _ _ h)
      have hl2C : Hc l2 = some (.lst (ys.map V.int)) := pd _ _ l2A.2.2 (pb _ _ l2A.2.1 (pa _ _ l2A.1 (e9 _ _ hl2)))
      refine l_when (b := !true) (Ex.refl Hc) (et_not (et_B (ev_stands_T f (ho2.mono eC) hl2C yR (by walk_at "ev")))) (fun hb => by cases hb) (fun _ H13 e13 => ⟨l2, ys, ls ++ [.ref l2], ms ++ [.ref p], xss ++ [ys], _, _, rfl, eC.trans e13, e13 _ _ hl2C, notA l2A.1 l2A.2.1 l2A.2.2, yR, e13 _ _ (pd _ _ n2 (pb _ _ n1 ha)), e13 _ _ (pd _ _ n3 hb), e13 _ _ hd', ?_, ?_, ?_, ?_⟩)
      · exact RowsAt.snoc (e13 _ _ hl2C) (notA l2A.1 l2A.2.1 l2A.2.2) (rH.mono fun a u h h2 => e13 _ _ (all3 a u h h2))
      · exact RowsAt.snoc (e13 _ _ (pd _ _ p3 hpb)) (notA p1 p2 p3) (rM.mono fun a u h h2 => e13 _ _ (all3 a u h h2))
      · intro zs hz
        rcases List.mem_append.mp hz with hz | hz
        · exact hall zs hz
        · rw [List.mem_singleton.mp hz]
          exact yR
      · rw [List.length_append, hlen]
        rfl
    · rintro σ' H' ⟨l, xs, ls, ms, xss, u1, u2, rfl, e', hl, hlA, hr, hH, hM, hP, rH, rM, hall, hlen⟩
      have ho3 := ho2.mono e'
      have hf3 := e' _ _ hf2
      obtain ⟨dx3, hO3⟩ := id ho3
      have xlen := Kd.row_len hr
      have xP := Kd.pl_rng hk hr
      have bk : (Kd.T s n).on xs (-(Kd.T s n).pl xs) = (Kd.T s n).first := by
        show (Kd.T s n).at_ (((Kd.T s n).pl xs + -(Kd.T s n).pl xs) % (Kd.T s n).sz) = _
        rw [Int.add_right_neg, Int.zero_emod, Kd.first_at hk]
      have fw : (Kd.T s n).on (Kd.T s n).first ((Kd.T s n).pl xs) = xs := by
        show (Kd.T s n).at_ (((Kd.T s n).pl (Kd.T s n).first + (Kd.T s n).pl xs) % (Kd.T s n).sz) = _
        rw [fP, Int.zero_add, Int.emod_eq_of_lt xP.1 xP.2, Kd.at_pl hk hr]
      have lM := rM.len
      have lH := rH.len
      rw [List.length_map] at hlen
      have hb1 : EvL (tMeth T.c_Turning "leap" (sp_Listing_leap_T T) [] E0 (tVar 0) (tCons (tCB (rListS K) (tCons (tVar 6) tNil)) (tCons (tUn (rU fun i => .int (-i)) (tVar 7)) tNil))) [some (.ref o), some (.int (Kd.T s n).sz), some (.ref fr), some (.ref cr), some (.int (Kd.T s n).sg), some (onV (Kd.T s n)), some (.ref l), some (.int ((Kd.T s n).pl xs)), some (.ref hd), some (.ref kp), some (.ref pc), u1, u2, none, none, none, none] H' ((Kd.T s n).first.map V.int) :=
        el_methN2 (ev_var rfl) hO3 (tF_m _ _ _) (el_list (ev_var rfl) (sq_of hl)) (fun _ _ => ev_un0 (ev_var rfl)) fun p H1 e h1 Q q => ⟨o, p, s, n, xs, -(Kd.T s n).pl xs, rfl, f, ho3.mono e, sq_of h1, by omega, fun _ => by
          rw [← bk] at q
          exact q, fun z => absurd hr z⟩
      refine b_asgL (Ex.refl H') hb1 fun b1 H7 nb1 e7 hb7 => ?_
      have hb2 : EvL (tMeth T.c_Turning "leap" (sp_Listing_leap_T T) [] E0 (tVar 0) (tCons (tCB (rListS K) (tCons (tVar 2) tNil)) (tCons (tVar 7) tNil))) [some (.ref o), some (.int (Kd.T s n).sz), some (.ref fr), some (.ref cr), some (.int (Kd.T s n).sg), some (onV (Kd.T s n)), some (.ref l), some (.int ((Kd.T s n).pl xs)), some (.ref hd), some (.ref kp), some (.ref pc), u1, u2, some (.ref b1), none, none, none] H7 (xs.map V.int) :=
        el_methN2 (ev_var rfl) (e7 _ _ hO3) (tF_m _ _ _) (el_list (ev_var rfl) (sq_of (e7 _ _ hf3))) (fun _ _ => ev_var rfl) fun p H1 e h1 Q q => ⟨o, p, s, n, (Kd.T s n).first, (Kd.T s n).pl xs, rfl, f, (ho3.mono e7).mono e, sq_of h1, by omega, fun _ => by
          rw [← fw] at q
          exact q, fun z => absurd fR z⟩
      refine b_asgL (Ex.refl H7) hb2 fun b2 H8 nb2 e8 hb8 => ?_
      have e78 := e7.trans e8
      have hf8 := e78 _ _ hf3
      have hl8 := e78 _ _ hl
      have ho8 := ho3.mono e78
      have hO8 := e78 _ _ hO3
      have hbb := e8 _ _ hb7
      refine b_skip (b := !true || (!true || (!decide ((Kd.T s n).first = (Kd.T s n).first) || !decide (xs = xs)))) (Ex.refl H8) (et_or (et_not (et_B (ev_isi (by walk_at "ev") (.lst hbb) (kit_ty (by decide +kernel))))) fun _ => et_or (et_not (et_B (ev_isi (by walk_at "ev") (.lst hb8) (kit_ty (by decide +kernel))))) fun _ => et_or (et_test (ev_op (ev_var rfl) (ev_var rfl) (rv_neL (sq_of hbb) (sq_of hf8)))) fun _ => et_test (ev_op (ev_var rfl) (ev_var rfl) (rv_neL (sq_of hb8) (sq_of hl8)))) (fun H9 e9 => ?_) (by simp)
      have hst : Ev (tMeth T.c_Turning "steps_to" (sp_Listing_steps_to_T T) [] E0 (tVar 0) (tCons (tCB (rListS K) (tCons (tVar 2) tNil)) (tCons (tCB (rListS K) (tCons (tVar 6) tNil)) tNil))) [some (.ref o), some (.int (Kd.T s n).sz), some (.ref fr), some (.ref cr), some (.int (Kd.T s n).sg), some (onV (Kd.T s n)), some (.ref l), some (.int ((Kd.T s n).pl xs)), some (.ref hd), some (.ref kp), some (.ref pc), u1, u2, some (.ref b1), some (.ref b2), none, none] H8 (.int ((Kd.T s n).pl xs)) :=
        ev_methNN (ev_var rfl) hO8 (tF_m _ _ _) (el_list (ev_var rfl) (sq_of hf8)) (el_list (ev_var rfl) (sq_of hl8)) fun p v H1 e h1 h2 Q q => ⟨o, p, v, s, n, (Kd.T s n).first, xs, rfl, f, ho8.mono e, sq_of h1, sq_of h2, by omega, by omega, fun _ => by
          have e0 : ((Kd.T s n).pl xs - (Kd.T s n).pl (Kd.T s n).first) % (Kd.T s n).sz = (Kd.T s n).pl xs := by rw [fP, Int.sub_zero, Int.emod_eq_of_lt xP.1 xP.2]
          rw [← e0] at q
          exact q, fun z => absurd ⟨fR, hr⟩ z⟩
      refine b_asg e9 hst fun H10 e10 => ?_
      have hH8 := e78 _ _ hH
      have hM8 := e78 _ _ hM
      have hP8 := e78 _ _ hP
      have rH8 := rH.mono fun a u _ h => e78 a u h
      have rM8 := rM.mono fun a u _ h => e78 a u h
      have cmpN : ∀ {σ : L2.St}, σ[8]? = some (some (V.ref hd)) → σ[9]? = some (some (V.ref kp)) → Ev (tOp (rNeD K) (tVar 8) (tVar 9)) σ H8 (.bl false) := fun h1 h2 => ev_op (ev_var h1) (ev_var h2) fun H1 e Q q => rv_neRows (ex_l e (sq_of hH8)) (ex_l e (sq_of hM8)) (rH8.mono fun a u _ h => e a u h) (rM8.mono fun a u _ h => e a u h) trivial Q (q H1 (Ex.refl H1))
      refine b_skip (b := !true || (!decide ((Kd.T s n).pl xs = (Kd.T s n).pl xs) || false)) e10 (et_or (et_not (et_B (ev_whole (by walk_at "ev")))) fun _ => et_or (et_test (ev_op (ev_var rfl) (ev_var rfl) rv_neI)) fun _ => et_test (cmpN rfl rfl)) (fun H11 e11 => ?_) (by simp)
      refine b_forR1 (n := (ms.length : Int)) e11 (ea_cons (ev_len (ev_var rfl) (sq_of hM8)) ea_nil) (by omega) (by omega) (fun i σ' H'' => ∃ (v1 v2 : Option V), σ' = [some (.ref o), some (.int (Kd.T s n).sz), some (.ref fr), some (.ref cr), some (.int (Kd.T s n).sg), some (onV (Kd.T s n)), some (.ref l), some (.int ((Kd.T s n).pl xs)), some (.ref hd), some (.ref kp), some (.ref pc), u1, u2, some (.ref b1), some (.ref b2), v1, v2] ∧ Ex H8 H'') (fun H'' e'' => ⟨_, none, rfl, e''⟩) ?_ ?_
      · rintro i σ' H'' hi ⟨v1, v2, rfl, e''⟩
        show tSeq _ _ _ [some (.ref o), some (.int (Kd.T s n).sz), some (.ref fr), some (.ref cr), some (.int (Kd.T s n).sg), some (onV (Kd.T s n)), some (.ref l), some (.int ((Kd.T s n).pl xs)), some (.ref hd), some (.ref kp), some (.ref pc), u1, u2, some (.ref b1), some (.ref b2), v1, some (.int (i : Int))] H''
        have hix : i < xss.length := by omega
        obtain ⟨m, hm1, hm2⟩ := RowsAt.get rM8 (List.getElem?_eq_getElem hix)
        have yR := hall xss[i] (List.getElem_mem hix)
        have ylen := Kd.row_len yR
        have pi : ((xss.map (Kd.T s n).pl).map V.int)[i]? = some (V.int ((Kd.T s n).pl xss[i])) := by
          rw [List.getElem?_map, List.getElem?_map, List.getElem?_eq_getElem hix]
          rfl
        generalize xss[i] = ys at *
        have hst2 : Ev (tMeth T.c_Turning "steps_to" (sp_Listing_steps_to_T T) [] E0 (tVar 0) (tCons (tCB (rListS K) (tCons (tVar 6) tNil)) (tCons (tCB (rListS K) (tCons (tOp (rIxL K) (tVar 9) (tVar 16)) tNil)) tNil))) [some (.ref o), some (.int (Kd.T s n).sz), some (.ref fr), some (.ref cr), some (.int (Kd.T s n).sg), some (onV (Kd.T s n)), some (.ref l), some (.int ((Kd.T s n).pl xs)), some (.ref hd), some (.ref kp), some (.ref pc), u1, u2, some (.ref b1), some (.ref b2), v1, some (.int (i : Int))] H8 (.int (((Kd.T s n).pl ys - (Kd.T s n).pl xs) % (Kd.T s n).sz)) :=
          ev_methNN (ev_var rfl) hO8 (tF_m _ _ _) (el_list (ev_var rfl) (sq_of hl8)) (el_list (ev_op (ev_var rfl) (ev_var rfl) (rv_ixL (sq_of hM8) (atI_nat hm1))) (sq_of hm2)) fun p v H1 e h1 h2 Q q => ⟨o, p, v, s, n, xs, ys, rfl, f, ho8.mono e, sq_of h1, sq_of h2, by omega, by omega, fun _ => q, fun z => absurd ⟨hr, yR⟩ z⟩
        refine b_asg e'' hst2 fun H12 e12 => ?_
        refine l_when (b := !true || !decide (((Kd.T s n).pl ys - (Kd.T s n).pl xs) % (Kd.T s n).sz = ((Kd.T s n).pl ys - (Kd.T s n).pl xs) % (Kd.T s n).sz)) e12 (et_or (et_not (et_B (ev_whole (by walk_at "ev")))) fun _ => et_test (ev_op (ev_var rfl) (ev_op (ev_op (ev_op (ev_var rfl) (ev_var rfl) (rv_ixL (sq_of hP8) (atI_nat pi))) (ev_var rfl) rv_I0) (ev_var rfl) (rv_I m0)) rv_neI)) (fun hb => by simp at hb) (fun _ H13 e13 => ⟨_, _, rfl, e13⟩)
      · rintro σ' H'' ⟨v1, v2, rfl, e''⟩
        refine b_ret e'' (v := .bl true) (ev_op (ev_var rfl) (ev_var rfl) fun H1 e Q q => rv_eqRows (ex_l e (sq_of hH8)) (ex_l e (sq_of hM8)) (rH8.mono fun a u _ h => e a u h) (rM8.mono fun a u _ h => e a u h) Q (q H1 (Ex.refl H1))) ?_
        exact fun H14 e14 => q H14 (((e2.trans e').trans e78).trans e14)
/-! #### _law_cell_at -/
theorem sc_law_cell_at : FnScope N_law_cell_at P_law_cell_at (defScope s_law_cell_at) := ⟨rfl, rfl, rfl, by decide +kernel, rfl, by decide +kernel, by decide +kernel⟩
def sp_law_cell_at (_ : Txt K mg) : Sp := fun vs H Q _ => ∃ (a : Addr) (ns : List Int) (k : Int), vs = [.ref a, .int k] ∧ 0 ≤ k ∧ SqL K H a (ns.map V.int) ∧ RetV (.int (cell ns k)) H Q
theorem ev_cell {T : Txt K mg} {σ : L2.St} {H : Hp} {tg : TA} {E : XK} {a : Addr} {ns : List Int} {k : Int} (ha : EvA tg σ H [.ref a, .int k]) (hs : SqL K H a (ns.map V.int)) (h0 : 0 ≤ k) : Ev (tCall (sp_law_cell_at T) [] E tg) σ H (.int (cell ns k)) :=
  ev_callF ha fun _ e _ q => ⟨a, ns, k, rfl, h0, ex_l e hs, q⟩
local macro_rules | `(tactic| walk_at "ev") => `(tactic| ((with_reducible apply ev_cell); walk_at "ev"; assumption; omega))
theorem ok_law_cell_at (T : Txt K mg) : FnOk P w K mg base CX0 1 T.a_law_cell_at T.d_law_cell_at P_law_cell_at (sp_law_cell_at T) := by
  refine (T.F_law_cell_at).ok sc_law_cell_at (fun vs H Q E h => ?len) (fun cdv A outer s H vs Q E hr h => ⟨_, (pss_cons (ps_if (pt_cmpR op_lt (pv 1) (pe_callB call_len_seq (by rfl) T.g_len boot_len (pa_cons (pv 0) pa_nil)) (nomark _)) (pss_one (ps_ret (pe_ix ix_list (pv 0) (pv 1) (fun _ _ => rfl)))) pss_nil)
    (pss_one (ps_ret pe_int))), ?read⟩)
  case len =>
    obtain ⟨a, ns, k, rfl, _⟩ := h
    rfl
  case read =>
    obtain ⟨a, ns, k, rfl, h0, hs, q⟩ := h
    show tSeq _ _ _ [some (.ref a), some (.int k)] H
    obtain ⟨k, rfl⟩ : ∃ n : Nat, k = n := ⟨k.toNat, by omega⟩
    refine b_when (Ex.refl H) (et_test (ev_op (ev_var rfl) (ev_len (ev_var rfl) hs) rv_I0)) (fun hb H1 e1 => ?_) (fun hb H1 e1 => ?_)
    · have h1 : k < ns.length := by simpa using hb
      have e : cell ns k = ns[k] := by simp [cell, h1]
      refine b_ret e1 (v := .int (cell ns k)) ?_ q
      refine ev_op (ev_var rfl) (ev_var rfl) (rv_ixL hs (atI_nat ?_))
      rw [e]
      simp [h1]
    · have h1 : ns.length ≤ k := by simpa using hb
      have e : cell ns k = 0 := by simp [cell, h1]
      rw [e] at q
      exact b_ret e1 ev_c q
/-! #### law -/
theorem sc_law : FnScope N_law P_law (defScope s_law) := ⟨rfl, rfl, rfl, by decide +kernel, rfl, by decide +kernel, by decide +kernel⟩
theorem cut_mem (ns : List Int) (lo hi : Option Int) : ∃ ms : List Int, cutV (ns.map V.int) lo hi = ms.map V.int ∧ (∀ m ∈ ms, m ∈ ns) ∧ ms.length ≤ ns.length := by
  unfold cutV
  rw [← List.map_drop, ← List.map_take]
  exact ⟨_, rfl, fun m h => List.mem_of_mem_drop (List.mem_of_mem_take h), by rw [List.length_take, List.length_drop]; omega⟩
/-- [x] * n, n as it is reckoned -/
theorem el_repI {σ : L2.St} {H : Hp} {ta tb : TE} {x : Int} {n : Nat} (h : Ev ta σ H (.int x)) (hb : ∀ H1, Ex H H1 → Ev tb σ H1 (.int n)) (hn : n ≤ 1000) : EvL (tOp rRep (tLst (tCons ta tNil)) tb) σ H ((List.replicate n x).map V.int) := by
  have h := el_rep (n := (n : Int)) (el_lst (ea_cons h ea_nil) (by simp)) hb (by omega) (by omega) (by simp)
  rw [show ((n : Int)).toNat = n from rfl, flat_one] at h
  rw [List.map_replicate]
  exact h
theorem ev_walkedT {T : Txt K mg} {σ : L2.St} {H : Hp} {tO t2 t3 t4 : TE} {tg : TA} {E : XK} {s : Int} {n : Nat} {cs : List Int} (f : TForm s n) (hfew : ∀ c ∈ cs, Few c) (hcl : cs.length ≤ 1000) (hO : EvO tO σ H T.c_Turning (tF s n (s ^ n))) (h2 : ∀ H1, Ex H H1 → Ev t2 σ H1 (.int (s ^ n))) (h3 : EvL t3 σ H ((List.replicate n (0 : Int)).map V.int)) (h4 : EvL t4 σ H (cs.map V.int)) (h5 : ∀ H1, Ex H H1 → EvA tg σ H1 [.int s, .non]) :
    Ev (tCall (sp_law_walked_T T) [] E (tCons tO (tCons t2 (tCons t3 (tCons t4 tg))))) σ H (.bl true) := fun H1 e Q q =>
  hO H1 e _ fun o dx H2 no e2 ho => h2 H2 (e.trans e2) H2 (Ex.refl H2) _ fun H3 e3 => h3 H3 ((e.trans e2).trans e3) _ fun fr H4 _ e4 hf => h4 H4 (((e.trans e2).trans e3).trans e4) _ fun cr H5 _ e5 hc => h5 H5 ((((e.trans e2).trans e3).trans e4).trans e5) H5 (Ex.refl H5) _ fun H6 e6 =>
    ⟨o, fr, cr, s, n, cs, rfl, f, ⟨dx, e6 _ _ (e5 _ _ (e4 _ _ (e3 _ _ ho)))⟩, e6 _ _ (e5 _ _ hf), sq_of (e6 _ _ hc), hfew, hcl, fun H7 e7 => q H7 (((((e2.trans e3).trans e4).trans e5).trans e6).trans e7)⟩
theorem ev_walkedC {T : Txt K mg} {σ : L2.St} {H : Hp} {tO t2 t3 t4 : TE} {tg : TA} {E : XK} {n k : Nat} {cs : List Int} {fr : Addr} (f : CForm n k) (hfew : ∀ c ∈ cs, Few c) (hcl : cs.length ≤ 1000) (hO : EvO tO σ H T.c_Choosing (cF n k (bin n k))) (h2 : ∀ H1, Ex H H1 → Ev t2 σ H1 (.int (bin n k))) (hf : H fr = some (.lst ((List.replicate k (1 : Int) ++ List.replicate (n - k) 0).map V.int))) (h3 : ∀ H1, Ex H H1 → Ev t3 σ H1 (.ref fr)) (h4 : EvL t4 σ H (cs.map V.int)) (h5 : ∀ H1, Ex H H1 → EvA tg σ H1 [.int 2, .int k]) :
    Ev (tCall (sp_law_walked_C T) [] E (tCons tO (tCons t2 (tCons t3 (tCons t4 tg))))) σ H (.bl true) := fun H1 e Q q =>
  hO H1 e _ fun o dx H2 no e2 ho => h2 H2 (e.trans e2) H2 (Ex.refl H2) _ fun H3 e3 => h3 H3 ((e.trans e2).trans e3) H3 (Ex.refl H3) _ fun H4 e4 => h4 H4 (((e.trans e2).trans e3).trans e4) _ fun cr H5 _ e5 hc => h5 H5 ((((e.trans e2).trans e3).trans e4).trans e5) H5 (Ex.refl H5) _ fun H6 e6 =>
    ⟨o, fr, cr, n, k, cs, rfl, f, ⟨dx, e6 _ _ (e5 _ _ (e4 _ _ (e3 _ _ ho)))⟩, e6 _ _ (e5 _ _ (e4 _ _ (e3 _ _ (e2 _ _ (e _ _ hf))))), sq_of (e6 _ _ hc), hfew, hcl, fun H7 e7 => q H7 (((((e2.trans e3).trans e4).trans e5).trans e6).trans e7)⟩
def sp_law (_ : Txt K mg) : Sp := spLawK K
theorem ok_law (T : Txt K mg) : FnOk P w K mg base CX0 7 T.a_law T.d_law P_law (sp_law T) := by
  have G_Choosing___init__ := ok_Choosing___init__ (P := P) (w := w) (base := base) T
  have G_Turning___init__ := ok_Turning___init__ (P := P) (w := w) (base := base) T
  have G_law_cell_at := ok_law_cell_at (P := P) (w := w) (base := base) T
  have G_law_signs := ok_law_signs (P := P) (w := w) (base := base) T
  have G_law_walked_C := ok_law_walked_C (P := P) (w := w) (base := base) T
  have G_law_walked_T := ok_law_walked_T (P := P) (w := w) (base := base) T
  refine (T.F_law).ok sc_law (fun vs H Q E h => ?len) (fun cdv A outer s H vs Q E hr h => ⟨_, (pss_cons (ps_set (i := 1) sc_law.nd rfl (Or.inl rfl) (pe_op op_mod (pe_op op_fdivW (pe_call G_law_cell_at (hr.mono (by decide)) (by rfl) T.m_law_cell_at T.F_law_cell_at.kp T.b_law_cell_at .nil pass0 (pa_cons (pv 0) (pa_cons pe_int pa_nil))) pe_int) pe_int))
    (pss_cons (ps_if (pt_cmpR op_eq (pe_op op_mod (pe_call G_law_cell_at (hr.mono (by decide)) (by rfl) T.m_law_cell_at T.F_law_cell_at.kp T.b_law_cell_at .nil pass0 (pa_cons (pv 0) (pa_cons pe_int pa_nil))) pe_int) pe_int (nomark _)) (pss_one (ps_set (i := 1) sc_law.nd rfl (Or.inl rfl) (pe_op op_mod (pe_op op_fdivW (pe_call G_law_cell_at (hr.mono (by decide)) (by rfl) T.m_law_cell_at T.F_law_cell_at.kp T.b_law_cell_at .nil pass0 (pa_cons (pv 0) (pa_cons pe_int pa_nil))) pe_int) pe_int))) pss_nil)
    (pss_cons (ps_set (i := 2) sc_law.nd rfl (Or.inl rfl) pe_int)
    (pss_cons (ps_if (pt_cmpR op_eq (pe_op op_mod (pe_call G_law_cell_at (hr.mono (by decide)) (by rfl) T.m_law_cell_at T.F_law_cell_at.kp T.b_law_cell_at .nil pass0 (pa_cons (pv 0) (pa_cons pe_int pa_nil))) pe_int) pe_int (nomark _)) (pss_cons (ps_set (i := 3) sc_law.nd rfl (Or.inl rfl) (pe_call G_law_signs (hr.mono (by decide)) (by rfl) T.m_law_signs T.F_law_signs.kp T.b_law_signs .nil pass0 (pa_cons (pe_call G_law_cell_at (hr.mono (by decide)) (by rfl) T.m_law_cell_at T.F_law_cell_at.kp T.b_law_cell_at .nil pass0 (pa_cons (pv 0) (pa_cons pe_int pa_nil))) pa_nil)))
    (pss_cons (ps_for PassesOwn.never rfl (pi_range1 rfl T.g_range (pa_cons (pv 1) pa_nil)) (pg_name (i := 4) sc_law.nd rfl (Or.inl rfl)) (pss_one (ps_set (i := 2) sc_law.nd rfl (Or.inl rfl) (pe_op op_mul (pv 2) (pv 3)))))
    (pss_one (ps_ret (pe_call G_law_walked_T (hr.mono (by decide)) (by rfl) T.m_law_walked T.F_law_walked.kp T.b_law_walked .nil pass0 (pa_cons (pe_make T.mk_Turning G_Turning___init__ (hr.mono (by decide)) (by rfl) T.m_Turning T.b_Turning___init__ .nil passL (pa_cons (pv 3) (pa_cons (pv 1) pa_nil))) (pa_cons (pv 2) (pa_cons (pe_op op_rep (pe_lst (pa_cons pe_int pa_nil)) (pv 1)) (pa_cons (pe_slice sl_list (pv 0) (po_some pe_int) (po_some pe_int)) (pa_cons (pv 3) (pa_cons pe_non pa_nil))))))))))) pss_nil)
    (pss_cons (ps_set (i := 5) sc_law.nd rfl (Or.inl rfl) (pe_op op_mod (pe_call G_law_cell_at (hr.mono (by decide)) (by rfl) T.m_law_cell_at T.F_law_cell_at.kp T.b_law_cell_at .nil pass0 (pa_cons (pv 0) (pa_cons pe_int pa_nil))) (pe_op op_add (pv 1) pe_int)))
    (pss_cons (ps_for PassesOwn.never rfl (pi_range1 rfl T.g_range (pa_cons (pv 5) pa_nil)) (pg_name (i := 4) sc_law.nd rfl (Or.inl rfl)) (pss_one (ps_set (i := 2) sc_law.nd rfl (Or.inl rfl) (pe_op op_fdivW (pe_op op_mul (pv 2) (pe_op op_sub (pv 1) (pv 4))) (pe_op op_add (pv 4) pe_int)))))
    (pss_cons (ps_set (i := 6) sc_law.nd rfl (Or.inl rfl) (pe_op op_cat (pe_op op_rep (pe_lst (pa_cons pe_int pa_nil)) (pv 5)) (pe_op op_rep (pe_lst (pa_cons pe_int pa_nil)) (pe_op op_sub (pv 1) (pv 5)))))
    (pss_one (ps_ret (pe_call G_law_walked_C (hr.mono (by decide)) (by rfl) T.m_law_walked T.F_law_walked.kp T.b_law_walked .nil pass0 (pa_cons (pe_make T.mk_Choosing G_Choosing___init__ (hr.mono (by decide)) (by rfl) T.m_Choosing T.b_Choosing___init__ .nil passL (pa_cons (pv 1) (pa_cons (pv 5) pa_nil))) (pa_cons (pv 2) (pa_cons (pv 6) (pa_cons (pe_slice sl_list (pv 0) (po_some pe_int) (po_some pe_int)) (pa_cons pe_int (pa_cons (pv 5) pa_nil)))))))))))))))), ?read⟩)
  case len =>
    obtain ⟨a, ns, rfl, _⟩ := h
    rfl
  case read =>
    obtain ⟨a, ns, rfl, hS, hlen, hbits, kq⟩ := h
    show tSeq _ _ _ [some (.ref a), none, none, none, none, none, none] H
    obtain ⟨cs, hcs, hcm, hcl⟩ := cut_mem ns (some 3) (some 40)
    have hfew : ∀ c ∈ cs, Few c := fun c h => few_of (hbits c (hcm c h))
    clear hbits
    generalize hc : cell ns 1 = c
    obtain ⟨L, hL⟩ : ∃ L : Int, L = if c % 5 = 4 then c / 5 % 201 else c / 5 % 13 := ⟨_, rfl⟩
    refine b_asg (Ex.refl H) (v := .int (c / 5 % 13)) (by rw [← hc]; walk_at "ev") fun H1 e => ?_
    refine b_ifAsg (b := decide (c % 5 = 4)) (v := .int L) e (by rw [← hc]; walk_at "ev") (fun hb => ?_) (fun hb => ?_) fun H2 e => ?_
    · rw [hL, if_pos (of_decide_eq_true hb), ← hc]
      walk_at "ev"
    · rw [hL, if_neg (of_decide_eq_false hb)]
      rfl
    have hLr : 0 ≤ L ∧ L ≤ 200 := by
      rw [hL]
      split <;> omega
    clear hL
    obtain ⟨n, rfl⟩ : ∃ n : Nat, L = n := ⟨L.toNat, by omega⟩
    have hn : n ≤ 200 := by omega
    refine b_asg e ev_c fun H3 e => ?_
    show tSeq _ _ _ [some (.ref a), some (.int n), some (.int 1), none, none, none, none] H3
    have sl : ∀ {σ : L2.St}, σ[0]? = some (some (V.ref a)) → EvL (tSl (rSlL K) (tVar 0) (tPart (tC (.int 3))) (tPart (tC (.int 40)))) σ H (cs.map V.int) := fun h => by
      rw [← hcs]
      exact el_sl (ev_var h) (eo_some ev_c) (eo_some ev_c) hS
    refine b_when e (by walk_at "ev") (fun hb H4 e => ?_) (fun hb H4 e => ?_)
    · refine b_asgS e (es_signs (by walk_at "ev")) ?_
      rintro _ ⟨s, rfl, s2, s1⟩ H5 e
      have f : TForm s n := ⟨s2, s1, by omega, by omega⟩
      refine b_forR1 (n := (n : Int)) e (by walk_at "ev") (by omega) (by omega) (fun i σ' H' => ∃ u, σ' = [some (.ref a), some (.int n), some (.int (s ^ i)), some (.int s), u, none, none] ∧ Ex H H') (fun H' e' => ⟨none, by rw [Int.pow_zero]; rfl, e'⟩) ?_ ?_
      · rintro i σ' H' hi ⟨u, rfl, e'⟩
        refine l_asg e' (v := .int (s ^ (i + 1))) ?_ fun H6 e6 => ⟨_, rfl, e6⟩
        rw [Int.pow_succ]
        exact ev_op (ev_var rfl) (ev_var rfl) (rv_I (cmul_r (by omega) (by omega)))
      · rintro σ' H' ⟨u, rfl, e'⟩
        rw [show ((n : Int)).toNat = n from rfl]
        exact b_ret e' (ev_walkedT f hfew (by omega) (eo_Turning f (by walk_at "ev")) (fun _ _ => ev_var rfl) (el_repI ev_c (fun _ _ => ev_var rfl) (by omega)) (sl rfl) fun _ _ => by walk_at "ev") fun H7 _ => kq H7
    · obtain ⟨k, hk, hkn⟩ := mod_nat (cell ns 2) n
      refine b_asg e (v := .int (k : Int)) ?_ fun H5 e => ?_
      · rw [← hk]
        walk_at "ev"
      have f : CForm n k := ⟨by omega, by omega, by omega, by omega⟩
      refine b_forR1 (n := (k : Int)) e (by walk_at "ev") (by omega) (by omega) (fun i σ' H' => ∃ u, σ' = [some (.ref a), some (.int n), some (.int (bin n i)), none, u, some (.int k), none] ∧ Ex H H') (fun H' e' => ⟨none, by rw [bin_zero]; rfl, e'⟩) ?_ ?_
      · rintro i σ' H' hi ⟨u, rfl, e'⟩
        refine l_asg e' (v := .int (bin n (i + 1))) ?_ fun H6 e6 => ⟨_, rfl, e6⟩
        rw [← bin_up_div n i]
        show Ev _ [some (.ref a), some (.int n), some (.int (bin n i)), none, some (.int (i : Int)), some (.int k), none] H _
        walk_at "ev"
      · rintro σ' H' ⟨u, rfl, e'⟩
        rw [show ((k : Int)).toNat = k from rfl]
        have hcat : EvL (tOp rCat (tOp rRep (tLst (tCons (tC (.int 1)) tNil)) (tVar 5)) (tOp rRep (tLst (tCons (tC (.int 0)) tNil)) (tOp (rI0 fun i j => .int (i - j)) (tVar 1) (tVar 5)))) [some (.ref a), some (.int n), some (.int (bin n k)), none, u, some (.int k), none] H ((List.replicate k (1 : Int) ++ List.replicate (n - k) 0).map V.int) := by
          rw [List.map_append]
          exact el_cat (el_repI ev_c (fun _ _ => ev_var rfl) (by omega)) (el_repI ev_c (fun _ _ => ev_is (ev_op (ev_var rfl) (ev_var rfl) rv_I0) (congrArg V.int (by omega))) (by omega)) (by simp; omega)
        refine b_asgL e' hcat fun fr H6 nfr e6 hfr => ?_
        exact b_ret (Ex.refl H6) (ev_walkedC f hfew (by omega) (eo_Choosing f (by walk_at "ev")) (fun _ _ => ev_var rfl) hfr (fun _ _ => ev_var rfl) ((sl rfl).mono e6) fun _ _ => by walk_at "ev") fun H7 _ => kq H7
end
/-! ### the end -/
theorem all_mk {l : PySem.W.OpenLaw} {w : World} {K : PySem.W.Frag} {h : Heap} {mg : Str → Option Value} {fa : Addr} (X : K.In h) (G : h.Ns mainGlobals mg) (hfa : mg "law" = some (.ref fa))
    {a_Listing___init__ a_power a_Turning___init__ a_choose a_Choosing___init__ a_Choosing_row_at a_Choosing_is_row a_Choosing_place_of a_Listing_leap t_Listing_leap a_Listing_steps_to a_law_whole a_law_has a_law_changed a_law_any a_Listing_row_before a_law_leapt a_law_is_row a_Listing_next_row a_Choosing_change a_law_deed a_law_stands a_law_walked a_law_signs a_Turning_row_at a_Turning_is_row a_Turning_place_of a_Turning_change a_law_cell_at a_law c_Listing c_NoForm c_NoPlace c_NoRow c_Choosing c_Turning : Addr} {od_Listing___init__ an_Listing___init__ od_power an_power od_Turning___init__ an_Turning___init__ od_choose an_choose od_Choosing___init__ an_Choosing___init__ od_Choosing_row_at an_Choosing_row_at od_Choosing_is_row an_Choosing_is_row od_Choosing_place_of an_Choosing_place_of od_Listing_leap an_Listing_leap td_Listing_leap od_Listing_steps_to an_Listing_steps_to od_law_whole an_law_whole od_law_has an_law_has od_law_changed an_law_changed od_law_any an_law_any od_Listing_row_before an_Listing_row_before od_law_leapt an_law_leapt od_law_is_row an_law_is_row od_Listing_next_row an_Listing_next_row od_Choosing_change an_Choosing_change od_law_deed an_law_deed od_law_stands an_law_stands od_law_walked an_law_walked od_law_signs an_law_signs od_Turning_row_at an_Turning_row_at od_Turning_is_row an_Turning_is_row od_Turning_place_of an_Turning_place_of od_Turning_change an_Turning_change od_law_cell_at an_law_cell_at od_law an_law : Option Addr} {sl_Listing___init__ sl_power sl_Turning___init__ sl_choose sl_Choosing___init__ sl_Choosing_row_at sl_Choosing_is_row sl_Choosing_place_of sl_Listing_leap ts_Listing_leap sl_Listing_steps_to sl_law_whole sl_law_has sl_law_changed sl_law_any sl_Listing_row_before sl_law_leapt sl_law_is_row sl_Listing_next_row sl_Choosing_change sl_law_deed sl_law_stands sl_law_walked sl_law_signs sl_Turning_row_at sl_Turning_is_row sl_Turning_place_of sl_Turning_change sl_law_cell_at sl_law : Array (Option Value)} {oc_Listing___init__ kV_Listing___init__ dc_Listing___init__ pm_Listing___init__ cd_Listing___init__ ct_Listing___init__ oc_power kV_power dc_power pm_power cd_power ct_power oc_Turning___init__ kV_Turning___init__ dc_Turning___init__ pm_Turning___init__ cd_Turning___init__ ct_Turning___init__ oc_choose kV_choose dc_choose pm_choose cd_choose ct_choose oc_Choosing___init__ kV_Choosing___init__ dc_Choosing___init__ pm_Choosing___init__ cd_Choosing___init__ ct_Choosing___init__ oc_Choosing_row_at kV_Choosing_row_at dc_Choosing_row_at pm_Choosing_row_at cd_Choosing_row_at ct_Choosing_row_at oc_Choosing_is_row kV_Choosing_is_row dc_Choosing_is_row pm_Choosing_is_row cd_Choosing_is_row ct_Choosing_is_row oc_Choosing_place_of kV_Choosing_place_of dc_Choosing_place_of pm_Choosing_place_of cd_Choosing_place_of ct_Choosing_place_of oc_Listing_leap kV_Listing_leap dc_Listing_leap pm_Listing_leap cd_Listing_leap ct_Listing_leap oc_Listing_steps_to kV_Listing_steps_to dc_Listing_steps_to pm_Listing_steps_to cd_Listing_steps_to ct_Listing_steps_to oc_law_whole kV_law_whole dc_law_whole pm_law_whole cd_law_whole ct_law_whole oc_law_has kV_law_has dc_law_has pm_law_has cd_law_has ct_law_has oc_law_changed kV_law_changed dc_law_changed pm_law_changed cd_law_changed ct_law_changed oc_law_any kV_law_any dc_law_any pm_law_any cd_law_any ct_law_any oc_Listing_row_before kV_Listing_row_before dc_Listing_row_before pm_Listing_row_before cd_Listing_row_before ct_Listing_row_before oc_law_leapt kV_law_leapt dc_law_leapt pm_law_leapt cd_law_leapt ct_law_leapt oc_law_is_row kV_law_is_row dc_law_is_row pm_law_is_row cd_law_is_row ct_law_is_row oc_Listing_next_row kV_Listing_next_row dc_Listing_next_row pm_Listing_next_row cd_Listing_next_row ct_Listing_next_row oc_Choosing_change kV_Choosing_change dc_Choosing_change pm_Choosing_change cd_Choosing_change ct_Choosing_change oc_law_deed kV_law_deed dc_law_deed pm_law_deed cd_law_deed ct_law_deed oc_law_stands kV_law_stands dc_law_stands pm_law_stands cd_law_stands ct_law_stands oc_law_walked kV_law_walked dc_law_walked pm_law_walked cd_law_walked ct_law_walked oc_law_signs kV_law_signs dc_law_signs pm_law_signs cd_law_signs ct_law_signs oc_Turning_row_at kV_Turning_row_at dc_Turning_row_at pm_Turning_row_at cd_Turning_row_at ct_Turning_row_at oc_Turning_is_row kV_Turning_is_row dc_Turning_is_row pm_Turning_is_row cd_Turning_is_row ct_Turning_is_row oc_Turning_place_of kV_Turning_place_of dc_Turning_place_of pm_Turning_place_of cd_Turning_place_of ct_Turning_place_of oc_Turning_change kV_Turning_change dc_Turning_change pm_Turning_change cd_Turning_change ct_Turning_change oc_law_cell_at kV_law_cell_at dc_law_cell_at pm_law_cell_at cd_law_cell_at ct_law_cell_at oc_law kV_law dc_law pm_law cd_law ct_law : Value} {t_MOST_SPOTS_choosing t_MOST_SIGNS t_MOST_SPOTS_turning tk_Listing_leap : Tok} {tn_Listing_leap : Nat}
    (h_all : PySem.W.nsIn K mainGlobals "all" = some none)
    (h_bool : PySem.W.nsIn K mainGlobals "bool" = some none)
    (h_divmod : PySem.W.nsIn K mainGlobals "divmod" = some none)
    (h_enumerate : PySem.W.nsIn K mainGlobals "enumerate" = some none)
    (h_int : PySem.W.nsIn K mainGlobals "int" = some none)
    (h_isinstance : PySem.W.nsIn K mainGlobals "isinstance" = some none)
    (h_len : PySem.W.nsIn K mainGlobals "len" = some none)
    (h_list : PySem.W.nsIn K mainGlobals "list" = some none)
    (h_min : PySem.W.nsIn K mainGlobals "min" = some none)
    (h_range : PySem.W.nsIn K mainGlobals "range" = some none)
    (h_reversed : PySem.W.nsIn K mainGlobals "reversed" = some none)
    (h_str : PySem.W.nsIn K mainGlobals "str" = some none)
    (h_sum : PySem.W.nsIn K mainGlobals "sum" = some none)
    (h_tuple : PySem.W.nsIn K mainGlobals "tuple" = some none)
    (h_MOST_SPOTS_choosing : PySem.W.nsIn K mainGlobals "MOST_SPOTS_choosing" = some (some (.int 200 t_MOST_SPOTS_choosing)))
    (h_MOST_SIGNS : PySem.W.nsIn K mainGlobals "MOST_SIGNS" = some (some (.int 1000000000000 t_MOST_SIGNS)))
    (h_MOST_SPOTS_turning : PySem.W.nsIn K mainGlobals "MOST_SPOTS_turning" = some (some (.int 200 t_MOST_SPOTS_turning)))
    (n_power : PySem.W.nsIn K mainGlobals "power" = some (some (.ref a_power)))
    (n_choose : PySem.W.nsIn K mainGlobals "choose" = some (some (.ref a_choose)))
    (n_law_whole : PySem.W.nsIn K mainGlobals "_law_whole" = some (some (.ref a_law_whole)))
    (n_law_has : PySem.W.nsIn K mainGlobals "_law_has" = some (some (.ref a_law_has)))
    (n_law_changed : PySem.W.nsIn K mainGlobals "_law_changed" = some (some (.ref a_law_changed)))
    (n_law_any : PySem.W.nsIn K mainGlobals "_law_any" = some (some (.ref a_law_any)))
    (n_law_leapt : PySem.W.nsIn K mainGlobals "_law_leapt" = some (some (.ref a_law_leapt)))
    (n_law_is_row : PySem.W.nsIn K mainGlobals "_law_is_row" = some (some (.ref a_law_is_row)))
    (n_law_deed : PySem.W.nsIn K mainGlobals "_law_deed" = some (some (.ref a_law_deed)))
    (n_law_stands : PySem.W.nsIn K mainGlobals "_law_stands" = some (some (.ref a_law_stands)))
    (n_law_walked : PySem.W.nsIn K mainGlobals "_law_walked" = some (some (.ref a_law_walked)))
    (n_law_signs : PySem.W.nsIn K mainGlobals "_law_signs" = some (some (.ref a_law_signs)))
    (n_law_cell_at : PySem.W.nsIn K mainGlobals "_law_cell_at" = some (some (.ref a_law_cell_at)))
    (n_law : PySem.W.nsIn K mainGlobals "law" = some (some (.ref a_law)))
    (n_Listing : PySem.W.nsIn K mainGlobals "Listing" = some (some (.ref c_Listing)))
    (n_NoForm : PySem.W.nsIn K mainGlobals "NoForm" = some (some (.ref c_NoForm)))
    (n_NoPlace : PySem.W.nsIn K mainGlobals "NoPlace" = some (some (.ref c_NoPlace)))
    (n_NoRow : PySem.W.nsIn K mainGlobals "NoRow" = some (some (.ref c_NoRow)))
    (n_Choosing : PySem.W.nsIn K mainGlobals "Choosing" = some (some (.ref c_Choosing)))
    (n_Turning : PySem.W.nsIn K mainGlobals "Turning" = some (some (.ref c_Turning)))
    (rd_Listing : PySem.W.readsIn K c_Listing (.type "type") = true)
    (fi_Turning : PySem.W.findIn K (.ref c_Turning) "__init__" = some (some (.ref a_Turning___init__)))
    (fi_Turning_change : PySem.W.findIn K (.ref c_Turning) "change" = some (some (.ref a_Turning_change)))
    (fi_Turning_is_row : PySem.W.findIn K (.ref c_Turning) "is_row" = some (some (.ref a_Turning_is_row)))
    (fi_Turning_leap : PySem.W.findIn K (.ref c_Turning) "leap" = some (some (.ref a_Listing_leap)))
    (fi_Turning_next_row : PySem.W.findIn K (.ref c_Turning) "next_row" = some (some (.ref a_Listing_next_row)))
    (fi_Turning_place_of : PySem.W.findIn K (.ref c_Turning) "place_of" = some (some (.ref a_Turning_place_of)))
    (fi_Turning_row_at : PySem.W.findIn K (.ref c_Turning) "row_at" = some (some (.ref a_Turning_row_at)))
    (fi_Turning_row_before : PySem.W.findIn K (.ref c_Turning) "row_before" = some (some (.ref a_Listing_row_before)))
    (fi_Turning_steps_to : PySem.W.findIn K (.ref c_Turning) "steps_to" = some (some (.ref a_Listing_steps_to)))
    (fi_Choosing : PySem.W.findIn K (.ref c_Choosing) "__init__" = some (some (.ref a_Choosing___init__)))
    (fi_Choosing_change : PySem.W.findIn K (.ref c_Choosing) "change" = some (some (.ref a_Choosing_change)))
    (fi_Choosing_is_row : PySem.W.findIn K (.ref c_Choosing) "is_row" = some (some (.ref a_Choosing_is_row)))
    (fi_Choosing_leap : PySem.W.findIn K (.ref c_Choosing) "leap" = some (some (.ref a_Listing_leap)))
    (fi_Choosing_next_row : PySem.W.findIn K (.ref c_Choosing) "next_row" = some (some (.ref a_Listing_next_row)))
    (fi_Choosing_place_of : PySem.W.findIn K (.ref c_Choosing) "place_of" = some (some (.ref a_Choosing_place_of)))
    (fi_Choosing_row_at : PySem.W.findIn K (.ref c_Choosing) "row_at" = some (some (.ref a_Choosing_row_at)))
    (fi_Choosing_row_before : PySem.W.findIn K (.ref c_Choosing) "row_before" = some (some (.ref a_Listing_row_before)))
    (fi_Choosing_steps_to : PySem.W.findIn K (.ref c_Choosing) "steps_to" = some (some (.ref a_Listing_steps_to)))
    (at_Listing___init__ : PySem.W.findCls K (.ref c_Listing) (.type "type") "__init__" = some (.val (.ref a_Listing___init__)))
    (l_Listing___init__ : K.lookup a_Listing___init__ = some ⟨oc_Listing___init__, od_Listing___init__, .func (PySem.W.fnOf "__init__" "Listing.__init__" (defArgs s_Listing___init__) (defBody s_Listing___init__) (defScope s_Listing___init__) .none kV_Listing___init__ dc_Listing___init__ pm_Listing___init__ an_Listing___init__ cd_Listing___init__ ct_Listing___init__), sl_Listing___init__⟩)
    (cc_Listing___init__ : PySem.W.codeIn K cd_Listing___init__ "Listing.__init__" = true)
    (k_Listing___init__ : PySem.W.keepIn K (.ref a_Listing___init__) = true)
    (l_power : K.lookup a_power = some ⟨oc_power, od_power, .func (PySem.W.fnOf "power" "power" (defArgs s_power) (defBody s_power) (defScope s_power) .none kV_power dc_power pm_power an_power cd_power ct_power), sl_power⟩)
    (cc_power : PySem.W.codeIn K cd_power "power" = true)
    (k_power : PySem.W.keepIn K (.ref a_power) = true)
    (l_Turning___init__ : K.lookup a_Turning___init__ = some ⟨oc_Turning___init__, od_Turning___init__, .func (PySem.W.fnOf "__init__" "Turning.__init__" (defArgs s_Turning___init__) (defBody s_Turning___init__) (defScope s_Turning___init__) .none kV_Turning___init__ dc_Turning___init__ pm_Turning___init__ an_Turning___init__ cd_Turning___init__ ct_Turning___init__), sl_Turning___init__⟩)
    (cc_Turning___init__ : PySem.W.codeIn K cd_Turning___init__ "Turning.__init__" = true)
    (k_Turning___init__ : PySem.W.keepIn K (.ref a_Turning___init__) = true)
    (l_choose : K.lookup a_choose = some ⟨oc_choose, od_choose, .func (PySem.W.fnOf "choose" "choose" (defArgs s_choose) (defBody s_choose) (defScope s_choose) .none kV_choose dc_choose pm_choose an_choose cd_choose ct_choose), sl_choose⟩)
    (cc_choose : PySem.W.codeIn K cd_choose "choose" = true)
    (k_choose : PySem.W.keepIn K (.ref a_choose) = true)
    (l_Choosing___init__ : K.lookup a_Choosing___init__ = some ⟨oc_Choosing___init__, od_Choosing___init__, .func (PySem.W.fnOf "__init__" "Choosing.__init__" (defArgs s_Choosing___init__) (defBody s_Choosing___init__) (defScope s_Choosing___init__) .none kV_Choosing___init__ dc_Choosing___init__ pm_Choosing___init__ an_Choosing___init__ cd_Choosing___init__ ct_Choosing___init__), sl_Choosing___init__⟩)
    (cc_Choosing___init__ : PySem.W.codeIn K cd_Choosing___init__ "Choosing.__init__" = true)
    (k_Choosing___init__ : PySem.W.keepIn K (.ref a_Choosing___init__) = true)
    (l_Choosing_row_at : K.lookup a_Choosing_row_at = some ⟨oc_Choosing_row_at, od_Choosing_row_at, .func (PySem.W.fnOf "row_at" "Choosing.row_at" (defArgs s_Choosing_row_at) (defBody s_Choosing_row_at) (defScope s_Choosing_row_at) .none kV_Choosing_row_at dc_Choosing_row_at pm_Choosing_row_at an_Choosing_row_at cd_Choosing_row_at ct_Choosing_row_at), sl_Choosing_row_at⟩)
    (cc_Choosing_row_at : PySem.W.codeIn K cd_Choosing_row_at "Choosing.row_at" = true)
    (k_Choosing_row_at : PySem.W.keepIn K (.ref a_Choosing_row_at) = true)
    (l_Choosing_is_row : K.lookup a_Choosing_is_row = some ⟨oc_Choosing_is_row, od_Choosing_is_row, .func (PySem.W.fnOf "is_row" "Choosing.is_row" (defArgs s_Choosing_is_row) (defBody s_Choosing_is_row) (defScope s_Choosing_is_row) .none kV_Choosing_is_row dc_Choosing_is_row pm_Choosing_is_row an_Choosing_is_row cd_Choosing_is_row ct_Choosing_is_row), sl_Choosing_is_row⟩)
    (cc_Choosing_is_row : PySem.W.codeIn K cd_Choosing_is_row "Choosing.is_row" = true)
    (k_Choosing_is_row : PySem.W.keepIn K (.ref a_Choosing_is_row) = true)
    (l_Choosing_place_of : K.lookup a_Choosing_place_of = some ⟨oc_Choosing_place_of, od_Choosing_place_of, .func (PySem.W.fnOf "place_of" "Choosing.place_of" (defArgs s_Choosing_place_of) (defBody s_Choosing_place_of) (defScope s_Choosing_place_of) .none kV_Choosing_place_of dc_Choosing_place_of pm_Choosing_place_of an_Choosing_place_of cd_Choosing_place_of ct_Choosing_place_of), sl_Choosing_place_of⟩)
    (cc_Choosing_place_of : PySem.W.codeIn K cd_Choosing_place_of "Choosing.place_of" = true)
    (k_Choosing_place_of : PySem.W.keepIn K (.ref a_Choosing_place_of) = true)
    (l_Listing_leap : K.lookup a_Listing_leap = some ⟨oc_Listing_leap, od_Listing_leap, .func (PySem.W.fnOf "leap" "Listing.leap" (defArgs s_Listing_leap) (defBody s_Listing_leap) (defScope s_Listing_leap) (.ref t_Listing_leap) kV_Listing_leap dc_Listing_leap pm_Listing_leap an_Listing_leap cd_Listing_leap ct_Listing_leap), sl_Listing_leap⟩)
    (cc_Listing_leap : PySem.W.codeIn K cd_Listing_leap "Listing.leap" = true)
    (k_Listing_leap : PySem.W.keepIn K (.ref a_Listing_leap) = true)
    (lt_Listing_leap : K.lookup t_Listing_leap = some ⟨.type "tuple", td_Listing_leap, .seq #[.int 1 tk_Listing_leap] tn_Listing_leap, ts_Listing_leap⟩)
    (l_Listing_steps_to : K.lookup a_Listing_steps_to = some ⟨oc_Listing_steps_to, od_Listing_steps_to, .func (PySem.W.fnOf "steps_to" "Listing.steps_to" (defArgs s_Listing_steps_to) (defBody s_Listing_steps_to) (defScope s_Listing_steps_to) .none kV_Listing_steps_to dc_Listing_steps_to pm_Listing_steps_to an_Listing_steps_to cd_Listing_steps_to ct_Listing_steps_to), sl_Listing_steps_to⟩)
    (cc_Listing_steps_to : PySem.W.codeIn K cd_Listing_steps_to "Listing.steps_to" = true)
    (k_Listing_steps_to : PySem.W.keepIn K (.ref a_Listing_steps_to) = true)
    (l_law_whole : K.lookup a_law_whole = some ⟨oc_law_whole, od_law_whole, .func (PySem.W.fnOf "_law_whole" "_law_whole" (defArgs s_law_whole) (defBody s_law_whole) (defScope s_law_whole) .none kV_law_whole dc_law_whole pm_law_whole an_law_whole cd_law_whole ct_law_whole), sl_law_whole⟩)
    (cc_law_whole : PySem.W.codeIn K cd_law_whole "_law_whole" = true)
    (k_law_whole : PySem.W.keepIn K (.ref a_law_whole) = true)
    (l_law_has : K.lookup a_law_has = some ⟨oc_law_has, od_law_has, .func (PySem.W.fnOf "_law_has" "_law_has" (defArgs s_law_has) (defBody s_law_has) (defScope s_law_has) .none kV_law_has dc_law_has pm_law_has an_law_has cd_law_has ct_law_has), sl_law_has⟩)
    (cc_law_has : PySem.W.codeIn K cd_law_has "_law_has" = true)
    (k_law_has : PySem.W.keepIn K (.ref a_law_has) = true)
    (l_law_changed : K.lookup a_law_changed = some ⟨oc_law_changed, od_law_changed, .func (PySem.W.fnOf "_law_changed" "_law_changed" (defArgs s_law_changed) (defBody s_law_changed) (defScope s_law_changed) .none kV_law_changed dc_law_changed pm_law_changed an_law_changed cd_law_changed ct_law_changed), sl_law_changed⟩)
    (cc_law_changed : PySem.W.codeIn K cd_law_changed "_law_changed" = true)
    (k_law_changed : PySem.W.keepIn K (.ref a_law_changed) = true)
    (l_law_any : K.lookup a_law_any = some ⟨oc_law_any, od_law_any, .func (PySem.W.fnOf "_law_any" "_law_any" (defArgs s_law_any) (defBody s_law_any) (defScope s_law_any) .none kV_law_any dc_law_any pm_law_any an_law_any cd_law_any ct_law_any), sl_law_any⟩)
    (cc_law_any : PySem.W.codeIn K cd_law_any "_law_any" = true)
    (k_law_any : PySem.W.keepIn K (.ref a_law_any) = true)
    (l_Listing_row_before : K.lookup a_Listing_row_before = some ⟨oc_Listing_row_before, od_Listing_row_before, .func (PySem.W.fnOf "row_before" "Listing.row_before" (defArgs s_Listing_row_before) (defBody s_Listing_row_before) (defScope s_Listing_row_before) .none kV_Listing_row_before dc_Listing_row_before pm_Listing_row_before an_Listing_row_before cd_Listing_row_before ct_Listing_row_before), sl_Listing_row_before⟩)
    (cc_Listing_row_before : PySem.W.codeIn K cd_Listing_row_before "Listing.row_before" = true)
    (k_Listing_row_before : PySem.W.keepIn K (.ref a_Listing_row_before) = true)
    (l_law_leapt : K.lookup a_law_leapt = some ⟨oc_law_leapt, od_law_leapt, .func (PySem.W.fnOf "_law_leapt" "_law_leapt" (defArgs s_law_leapt) (defBody s_law_leapt) (defScope s_law_leapt) .none kV_law_leapt dc_law_leapt pm_law_leapt an_law_leapt cd_law_leapt ct_law_leapt), sl_law_leapt⟩)
    (cc_law_leapt : PySem.W.codeIn K cd_law_leapt "_law_leapt" = true)
    (k_law_leapt : PySem.W.keepIn K (.ref a_law_leapt) = true)
    (l_law_is_row : K.lookup a_law_is_row = some ⟨oc_law_is_row, od_law_is_row, .func (PySem.W.fnOf "_law_is_row" "_law_is_row" (defArgs s_law_is_row) (defBody s_law_is_row) (defScope s_law_is_row) .none kV_law_is_row dc_law_is_row pm_law_is_row an_law_is_row cd_law_is_row ct_law_is_row), sl_law_is_row⟩)
    (cc_law_is_row : PySem.W.codeIn K cd_law_is_row "_law_is_row" = true)
    (k_law_is_row : PySem.W.keepIn K (.ref a_law_is_row) = true)
    (l_Listing_next_row : K.lookup a_Listing_next_row = some ⟨oc_Listing_next_row, od_Listing_next_row, .func (PySem.W.fnOf "next_row" "Listing.next_row" (defArgs s_Listing_next_row) (defBody s_Listing_next_row) (defScope s_Listing_next_row) .none kV_Listing_next_row dc_Listing_next_row pm_Listing_next_row an_Listing_next_row cd_Listing_next_row ct_Listing_next_row), sl_Listing_next_row⟩)
    (cc_Listing_next_row : PySem.W.codeIn K cd_Listing_next_row "Listing.next_row" = true)
    (k_Listing_next_row : PySem.W.keepIn K (.ref a_Listing_next_row) = true)
    (l_Choosing_change : K.lookup a_Choosing_change = some ⟨oc_Choosing_change, od_Choosing_change, .func (PySem.W.fnOf "change" "Choosing.change" (defArgs s_Choosing_change) (defBody s_Choosing_change) (defScope s_Choosing_change) .none kV_Choosing_change dc_Choosing_change pm_Choosing_change an_Choosing_change cd_Choosing_change ct_Choosing_change), sl_Choosing_change⟩)
    (cc_Choosing_change : PySem.W.codeIn K cd_Choosing_change "Choosing.change" = true)
    (k_Choosing_change : PySem.W.keepIn K (.ref a_Choosing_change) = true)
    (l_law_deed : K.lookup a_law_deed = some ⟨oc_law_deed, od_law_deed, .func (PySem.W.fnOf "_law_deed" "_law_deed" (defArgs s_law_deed) (defBody s_law_deed) (defScope s_law_deed) .none kV_law_deed dc_law_deed pm_law_deed an_law_deed cd_law_deed ct_law_deed), sl_law_deed⟩)
    (cc_law_deed : PySem.W.codeIn K cd_law_deed "_law_deed" = true)
    (k_law_deed : PySem.W.keepIn K (.ref a_law_deed) = true)
    (l_law_stands : K.lookup a_law_stands = some ⟨oc_law_stands, od_law_stands, .func (PySem.W.fnOf "_law_stands" "_law_stands" (defArgs s_law_stands) (defBody s_law_stands) (defScope s_law_stands) .none kV_law_stands dc_law_stands pm_law_stands an_law_stands cd_law_stands ct_law_stands), sl_law_stands⟩)
    (cc_law_stands : PySem.W.codeIn K cd_law_stands "_law_stands" = true)
    (k_law_stands : PySem.W.keepIn K (.ref a_law_stands) = true)
    (l_law_walked : K.lookup a_law_walked = some ⟨oc_law_walked, od_law_walked, .func (PySem.W.fnOf "_law_walked" "_law_walked" (defArgs s_law_walked) (defBody s_law_walked) (defScope s_law_walked) .none kV_law_walked dc_law_walked pm_law_walked an_law_walked cd_law_walked ct_law_walked), sl_law_walked⟩)
    (cc_law_walked : PySem.W.codeIn K cd_law_walked "_law_walked" = true)
    (k_law_walked : PySem.W.keepIn K (.ref a_law_walked) = true)
    (l_law_signs : K.lookup a_law_signs = some ⟨oc_law_signs, od_law_signs, .func (PySem.W.fnOf "_law_signs" "_law_signs" (defArgs s_law_signs) (defBody s_law_signs) (defScope s_law_signs) .none kV_law_signs dc_law_signs pm_law_signs an_law_signs cd_law_signs ct_law_signs), sl_law_signs⟩)
    (cc_law_signs : PySem.W.codeIn K cd_law_signs "_law_signs" = true)
    (k_law_signs : PySem.W.keepIn K (.ref a_law_signs) = true)
    (l_Turning_row_at : K.lookup a_Turning_row_at = some ⟨oc_Turning_row_at, od_Turning_row_at, .func (PySem.W.fnOf "row_at" "Turning.row_at" (defArgs s_Turning_row_at) (defBody s_Turning_row_at) (defScope s_Turning_row_at) .none kV_Turning_row_at dc_Turning_row_at pm_Turning_row_at an_Turning_row_at cd_Turning_row_at ct_Turning_row_at), sl_Turning_row_at⟩)
    (cc_Turning_row_at : PySem.W.codeIn K cd_Turning_row_at "Turning.row_at" = true)
    (k_Turning_row_at : PySem.W.keepIn K (.ref a_Turning_row_at) = true)
    (l_Turning_is_row : K.lookup a_Turning_is_row = some ⟨oc_Turning_is_row, od_Turning_is_row, .func (PySem.W.fnOf "is_row" "Turning.is_row" (defArgs s_Turning_is_row) (defBody s_Turning_is_row) (defScope s_Turning_is_row) .none kV_Turning_is_row dc_Turning_is_row pm_Turning_is_row an_Turning_is_row cd_Turning_is_row ct_Turning_is_row), sl_Turning_is_row⟩)
    (cc_Turning_is_row : PySem.W.codeIn K cd_Turning_is_row "Turning.is_row" = true)
    (k_Turning_is_row : PySem.W.keepIn K (.ref a_Turning_is_row) = true)
    (l_Turning_place_of : K.lookup a_Turning_place_of = some ⟨oc_Turning_place_of, od_Turning_place_of, .func (PySem.W.fnOf "place_of" "Turning.place_of" (defArgs s_Turning_place_of) (defBody s_Turning_place_of) (defScope s_Turning_place_of) .none kV_Turning_place_of dc_Turning_place_of pm_Turning_place_of an_Turning_place_of cd_Turning_place_of ct_Turning_place_of), sl_Turning_place_of⟩)
    (cc_Turning_place_of : PySem.W.codeIn K cd_Turning_place_of "Turning.place_of" = true)
    (k_Turning_place_of : PySem.W.keepIn K (.ref a_Turning_place_of) = true)
    (l_Turning_change : K.lookup a_Turning_change = some ⟨oc_Turning_change, od_Turning_change, .func (PySem.W.fnOf "change" "Turning.change" (defArgs s_Turning_change) (defBody s_Turning_change) (defScope s_Turning_change) .none kV_Turning_change dc_Turning_change pm_Turning_change an_Turning_change cd_Turning_change ct_Turning_change), sl_Turning_change⟩)
    (cc_Turning_change : PySem.W.codeIn K cd_Turning_change "Turning.change" = true)
    (k_Turning_change : PySem.W.keepIn K (.ref a_Turning_change) = true)
    (l_law_cell_at : K.lookup a_law_cell_at = some ⟨oc_law_cell_at, od_law_cell_at, .func (PySem.W.fnOf "_law_cell_at" "_law_cell_at" (defArgs s_law_cell_at) (defBody s_law_cell_at) (defScope s_law_cell_at) .none kV_law_cell_at dc_law_cell_at pm_law_cell_at an_law_cell_at cd_law_cell_at ct_law_cell_at), sl_law_cell_at⟩)
    (cc_law_cell_at : PySem.W.codeIn K cd_law_cell_at "_law_cell_at" = true)
    (k_law_cell_at : PySem.W.keepIn K (.ref a_law_cell_at) = true)
    (l_law : K.lookup a_law = some ⟨oc_law, od_law, .func (PySem.W.fnOf "law" "law" (defArgs s_law) (defBody s_law) (defScope s_law) .none kV_law dc_law pm_law an_law cd_law ct_law), sl_law⟩)
    (cc_law : PySem.W.codeIn K cd_law "law" = true)
    (k_law : PySem.W.keepIn K (.ref a_law) = true)
    (ga_Listing : PySem.W.specialIn K (.ref c_Listing) "__getattribute__" = some (some (.builtin "type.__getattribute__")))
    (x_NoForm : PySem.W.excIn K c_NoForm [.type "ValueError", .type "Exception", .type "BaseException", .type "object"] "ValueError.__new__" = true)
    (k_NoForm : PySem.W.keepIn K (.ref c_NoForm) = true)
    (bE_NoForm : PySem.W.subIn K (.ref c_NoForm) (.type "BaseException") = some true)
    (tE_NoForm : PySem.W.typeIn K (.ref c_NoForm) = some (.type "type"))
    (x_NoPlace : PySem.W.excIn K c_NoPlace [.type "ValueError", .type "Exception", .type "BaseException", .type "object"] "ValueError.__new__" = true)
    (k_NoPlace : PySem.W.keepIn K (.ref c_NoPlace) = true)
    (bE_NoPlace : PySem.W.subIn K (.ref c_NoPlace) (.type "BaseException") = some true)
    (tE_NoPlace : PySem.W.typeIn K (.ref c_NoPlace) = some (.type "type"))
    (x_NoRow : PySem.W.excIn K c_NoRow [.type "ValueError", .type "Exception", .type "BaseException", .type "object"] "ValueError.__new__" = true)
    (k_NoRow : PySem.W.keepIn K (.ref c_NoRow) = true)
    (bE_NoRow : PySem.W.subIn K (.ref c_NoRow) (.type "BaseException") = some true)
    (tE_NoRow : PySem.W.typeIn K (.ref c_NoRow) = some (.type "type"))
    (pg_Turning : PySem.W.plainGet K c_Turning Str.empty = true)
    (hd_Turning : PySem.W.hasDictIn K c_Turning = true)
    (po_Turning : PySem.W.plainOver K c_Turning = true)
    (sa_Turning : PySem.W.findIn K (.ref c_Turning) "__setattr__" = some (some (.builtin "object.__setattr__")))
    (mm_Turning : PySem.W.makesIn K c_Turning = true)
    (kp_Turning : PySem.W.keepIn K (.ref c_Turning) = true)
    (if_Turning___init__ : PySem.W.isFn K (.ref a_Turning___init__) = true)
    (no_Turning_length : PySem.W.findIn K (.ref c_Turning) "length" = some none)
    (no_Turning_size : PySem.W.findIn K (.ref c_Turning) "size" = some none)
    (no_Turning_signs : PySem.W.findIn K (.ref c_Turning) "signs" = some none)
    (if_Turning_change : PySem.W.isFn K (.ref a_Turning_change) = true)
    (if_Turning_is_row : PySem.W.isFn K (.ref a_Turning_is_row) = true)
    (if_Listing_leap : PySem.W.isFn K (.ref a_Listing_leap) = true)
    (if_Listing_next_row : PySem.W.isFn K (.ref a_Listing_next_row) = true)
    (if_Turning_place_of : PySem.W.isFn K (.ref a_Turning_place_of) = true)
    (if_Turning_row_at : PySem.W.isFn K (.ref a_Turning_row_at) = true)
    (if_Listing_row_before : PySem.W.isFn K (.ref a_Listing_row_before) = true)
    (if_Listing_steps_to : PySem.W.isFn K (.ref a_Listing_steps_to) = true)
    (pg_Choosing : PySem.W.plainGet K c_Choosing Str.empty = true)
    (hd_Choosing : PySem.W.hasDictIn K c_Choosing = true)
    (po_Choosing : PySem.W.plainOver K c_Choosing = true)
    (sa_Choosing : PySem.W.findIn K (.ref c_Choosing) "__setattr__" = some (some (.builtin "object.__setattr__")))
    (mm_Choosing : PySem.W.makesIn K c_Choosing = true)
    (kp_Choosing : PySem.W.keepIn K (.ref c_Choosing) = true)
    (if_Choosing___init__ : PySem.W.isFn K (.ref a_Choosing___init__) = true)
    (no_Choosing_length : PySem.W.findIn K (.ref c_Choosing) "length" = some none)
    (no_Choosing_size : PySem.W.findIn K (.ref c_Choosing) "size" = some none)
    (no_Choosing_ones : PySem.W.findIn K (.ref c_Choosing) "ones" = some none)
    (if_Choosing_change : PySem.W.isFn K (.ref a_Choosing_change) = true)
    (if_Choosing_is_row : PySem.W.isFn K (.ref a_Choosing_is_row) = true)
    (if_Choosing_place_of : PySem.W.isFn K (.ref a_Choosing_place_of) = true)
    (if_Choosing_row_at : PySem.W.isFn K (.ref a_Choosing_row_at) = true)
    (ca_Turning : PySem.W.findIn K (.ref c_Turning) "__class__" = some (some (.builtin "object.__class__")))
    (mo_Turning : PySem.W.mroIn K c_Turning (.type "object") = some true)
    (sb_Turning : PySem.W.subIn K (.ref c_Turning) (.ref c_Listing) = some true)
    (ca_Choosing : PySem.W.findIn K (.ref c_Choosing) "__class__" = some (some (.builtin "object.__class__")))
    (mo_Choosing : PySem.W.mroIn K c_Choosing (.type "object") = some true)
    (sb_Choosing : PySem.W.subIn K (.ref c_Choosing) (.ref c_Listing) = some true)
    (hd_Listing : PySem.W.hasDictIn K c_Listing = true)
    (ty_Listing : PySem.W.typeIn K (.ref c_Listing) = some (.type "type"))
    (gd_class : PySem.W.specialIn K (.builtin "object.__class__") "__get__" = some (some (.builtin "getset_descriptor.__get__")))
    (tk_class : PySem.W.takesIn K (.builtin "object.__class__") = some true)
    : ∃ fd : FuncData, (∀ (s : Shared) (v : Value), BindsTo s fd ⟨[v], []⟩ [("_law_script", v)]) ∧ ∀ base : Heap, K.In base → base.Ns mainGlobals mg → FnOk l.prog w K mg base CX0 7 fa fd P_law (spLawK K) := by
  have e := hfa.symm.trans (PySem.W.mg_of X G n_law)
  cases e
  refine ⟨PySem.W.fnOf "law" "law" (defArgs s_law) (defBody s_law) (defScope s_law) .none kV_law dc_law pm_law an_law cd_law ct_law, fun s v => .of_eq rfl, fun base _ _ => ?_⟩
  have FD_Listing_leap : FunD K "leap" "Listing.leap" (defArgs s_Listing_leap) (defBody s_Listing_leap) (defScope s_Listing_leap) [.int 1] [] a_Listing_leap (PySem.W.fnOf "leap" "Listing.leap" (defArgs s_Listing_leap) (defBody s_Listing_leap) (defScope s_Listing_leap) (.ref t_Listing_leap) kV_Listing_leap dc_Listing_leap pm_Listing_leap an_Listing_leap cd_Listing_leap ct_Listing_leap) :=
    ⟨⟨_, _, _, _, _, _, _, _, _, _, rfl, l_Listing_leap, cc_Listing_leap, .inr ⟨by simp, t_Listing_leap, _, [.int 1 tk_Listing_leap], _, rfl, lt_Listing_leap, rfl, .cons ⟨_, rfl⟩ .nil⟩, .inl rfl⟩, k_Listing_leap⟩
  obtain ⟨e_Listing_leap, ve_Listing_leap, be_Listing_leap⟩ := FD_Listing_leap.binds1 (ps := P_Listing_leap) 2 0 (by simp) rfl fun _ _ _ _ _ _ _ us its hu hi => match us, its, hu, hi with | [_, _], [_], _, _ => ⟨_, rfl, rfl⟩
  obtain ⟨en_Listing_leap, vn_Listing_leap, bn_Listing_leap⟩ := FD_Listing_leap.binds1 (ps := P_Listing_leap) 3 1 (by simp) rfl fun _ _ _ _ _ _ _ us its hu hi => match us, its, hu, hi with | [_, _, _], [_], _, _ => ⟨_, rfl, rfl⟩
  cases vn_Listing_leap
  exact ok_law (T := {
    a_Listing___init__ := a_Listing___init__
    d_Listing___init__ := PySem.W.fnOf "__init__" "Listing.__init__" (defArgs s_Listing___init__) (defBody s_Listing___init__) (defScope s_Listing___init__) .none kV_Listing___init__ dc_Listing___init__ pm_Listing___init__ an_Listing___init__ cd_Listing___init__ ct_Listing___init__
    a_power := a_power
    d_power := PySem.W.fnOf "power" "power" (defArgs s_power) (defBody s_power) (defScope s_power) .none kV_power dc_power pm_power an_power cd_power ct_power
    a_Turning___init__ := a_Turning___init__
    d_Turning___init__ := PySem.W.fnOf "__init__" "Turning.__init__" (defArgs s_Turning___init__) (defBody s_Turning___init__) (defScope s_Turning___init__) .none kV_Turning___init__ dc_Turning___init__ pm_Turning___init__ an_Turning___init__ cd_Turning___init__ ct_Turning___init__
    a_choose := a_choose
    d_choose := PySem.W.fnOf "choose" "choose" (defArgs s_choose) (defBody s_choose) (defScope s_choose) .none kV_choose dc_choose pm_choose an_choose cd_choose ct_choose
    a_Choosing___init__ := a_Choosing___init__
    d_Choosing___init__ := PySem.W.fnOf "__init__" "Choosing.__init__" (defArgs s_Choosing___init__) (defBody s_Choosing___init__) (defScope s_Choosing___init__) .none kV_Choosing___init__ dc_Choosing___init__ pm_Choosing___init__ an_Choosing___init__ cd_Choosing___init__ ct_Choosing___init__
    a_Choosing_row_at := a_Choosing_row_at
    d_Choosing_row_at := PySem.W.fnOf "row_at" "Choosing.row_at" (defArgs s_Choosing_row_at) (defBody s_Choosing_row_at) (defScope s_Choosing_row_at) .none kV_Choosing_row_at dc_Choosing_row_at pm_Choosing_row_at an_Choosing_row_at cd_Choosing_row_at ct_Choosing_row_at
    a_Choosing_is_row := a_Choosing_is_row
    d_Choosing_is_row := PySem.W.fnOf "is_row" "Choosing.is_row" (defArgs s_Choosing_is_row) (defBody s_Choosing_is_row) (defScope s_Choosing_is_row) .none kV_Choosing_is_row dc_Choosing_is_row pm_Choosing_is_row an_Choosing_is_row cd_Choosing_is_row ct_Choosing_is_row
    a_Choosing_place_of := a_Choosing_place_of
    d_Choosing_place_of := PySem.W.fnOf "place_of" "Choosing.place_of" (defArgs s_Choosing_place_of) (defBody s_Choosing_place_of) (defScope s_Choosing_place_of) .none kV_Choosing_place_of dc_Choosing_place_of pm_Choosing_place_of an_Choosing_place_of cd_Choosing_place_of ct_Choosing_place_of
    a_Listing_leap := a_Listing_leap
    d_Listing_leap := PySem.W.fnOf "leap" "Listing.leap" (defArgs s_Listing_leap) (defBody s_Listing_leap) (defScope s_Listing_leap) (.ref t_Listing_leap) kV_Listing_leap dc_Listing_leap pm_Listing_leap an_Listing_leap cd_Listing_leap ct_Listing_leap
    t_Listing_leap := t_Listing_leap
    e_Listing_leap := e_Listing_leap
    a_Listing_steps_to := a_Listing_steps_to
    d_Listing_steps_to := PySem.W.fnOf "steps_to" "Listing.steps_to" (defArgs s_Listing_steps_to) (defBody s_Listing_steps_to) (defScope s_Listing_steps_to) .none kV_Listing_steps_to dc_Listing_steps_to pm_Listing_steps_to an_Listing_steps_to cd_Listing_steps_to ct_Listing_steps_to
    a_law_whole := a_law_whole
    d_law_whole := PySem.W.fnOf "_law_whole" "_law_whole" (defArgs s_law_whole) (defBody s_law_whole) (defScope s_law_whole) .none kV_law_whole dc_law_whole pm_law_whole an_law_whole cd_law_whole ct_law_whole
    a_law_has := a_law_has
    d_law_has := PySem.W.fnOf "_law_has" "_law_has" (defArgs s_law_has) (defBody s_law_has) (defScope s_law_has) .none kV_law_has dc_law_has pm_law_has an_law_has cd_law_has ct_law_has
    a_law_changed := a_law_changed
    d_law_changed := PySem.W.fnOf "_law_changed" "_law_changed" (defArgs s_law_changed) (defBody s_law_changed) (defScope s_law_changed) .none kV_law_changed dc_law_changed pm_law_changed an_law_changed cd_law_changed ct_law_changed
    a_law_any := a_law_any
    d_law_any := PySem.W.fnOf "_law_any" "_law_any" (defArgs s_law_any) (defBody s_law_any) (defScope s_law_any) .none kV_law_any dc_law_any pm_law_any an_law_any cd_law_any ct_law_any
    a_Listing_row_before := a_Listing_row_before
    d_Listing_row_before := PySem.W.fnOf "row_before" "Listing.row_before" (defArgs s_Listing_row_before) (defBody s_Listing_row_before) (defScope s_Listing_row_before) .none kV_Listing_row_before dc_Listing_row_before pm_Listing_row_before an_Listing_row_before cd_Listing_row_before ct_Listing_row_before
    a_law_leapt := a_law_leapt
    d_law_leapt := PySem.W.fnOf "_law_leapt" "_law_leapt" (defArgs s_law_leapt) (defBody s_law_leapt) (defScope s_law_leapt) .none kV_law_leapt dc_law_leapt pm_law_leapt an_law_leapt cd_law_leapt ct_law_leapt
    a_law_is_row := a_law_is_row
    d_law_is_row := PySem.W.fnOf "_law_is_row" "_law_is_row" (defArgs s_law_is_row) (defBody s_law_is_row) (defScope s_law_is_row) .none kV_law_is_row dc_law_is_row pm_law_is_row an_law_is_row cd_law_is_row ct_law_is_row
    a_Listing_next_row := a_Listing_next_row
    d_Listing_next_row := PySem.W.fnOf "next_row" "Listing.next_row" (defArgs s_Listing_next_row) (defBody s_Listing_next_row) (defScope s_Listing_next_row) .none kV_Listing_next_row dc_Listing_next_row pm_Listing_next_row an_Listing_next_row cd_Listing_next_row ct_Listing_next_row
    a_Choosing_change := a_Choosing_change
    d_Choosing_change := PySem.W.fnOf "change" "Choosing.change" (defArgs s_Choosing_change) (defBody s_Choosing_change) (defScope s_Choosing_change) .none kV_Choosing_change dc_Choosing_change pm_Choosing_change an_Choosing_change cd_Choosing_change ct_Choosing_change
    a_law_deed := a_law_deed
    d_law_deed := PySem.W.fnOf "_law_deed" "_law_deed" (defArgs s_law_deed) (defBody s_law_deed) (defScope s_law_deed) .none kV_law_deed dc_law_deed pm_law_deed an_law_deed cd_law_deed ct_law_deed
    a_law_stands := a_law_stands
    d_law_stands := PySem.W.fnOf "_law_stands" "_law_stands" (defArgs s_law_stands) (defBody s_law_stands) (defScope s_law_stands) .none kV_law_stands dc_law_stands pm_law_stands an_law_stands cd_law_stands ct_law_stands
    a_law_walked := a_law_walked
    d_law_walked := PySem.W.fnOf "_law_walked" "_law_walked" (defArgs s_law_walked) (defBody s_law_walked) (defScope s_law_walked) .none kV_law_walked dc_law_walked pm_law_walked an_law_walked cd_law_walked ct_law_walked
    a_law_signs := a_law_signs
    d_law_signs := PySem.W.fnOf "_law_signs" "_law_signs" (defArgs s_law_signs) (defBody s_law_signs) (defScope s_law_signs) .none kV_law_signs dc_law_signs pm_law_signs an_law_signs cd_law_signs ct_law_signs
    a_Turning_row_at := a_Turning_row_at
    d_Turning_row_at := PySem.W.fnOf "row_at" "Turning.row_at" (defArgs s_Turning_row_at) (defBody s_Turning_row_at) (defScope s_Turning_row_at) .none kV_Turning_row_at dc_Turning_row_at pm_Turning_row_at an_Turning_row_at cd_Turning_row_at ct_Turning_row_at
    a_Turning_is_row := a_Turning_is_row
    d_Turning_is_row := PySem.W.fnOf "is_row" "Turning.is_row" (defArgs s_Turning_is_row) (defBody s_Turning_is_row) (defScope s_Turning_is_row) .none kV_Turning_is_row dc_Turning_is_row pm_Turning_is_row an_Turning_is_row cd_Turning_is_row ct_Turning_is_row
    a_Turning_place_of := a_Turning_place_of
    d_Turning_place_of := PySem.W.fnOf "place_of" "Turning.place_of" (defArgs s_Turning_place_of) (defBody s_Turning_place_of) (defScope s_Turning_place_of) .none kV_Turning_place_of dc_Turning_place_of pm_Turning_place_of an_Turning_place_of cd_Turning_place_of ct_Turning_place_of
    a_Turning_change := a_Turning_change
    d_Turning_change := PySem.W.fnOf "change" "Turning.change" (defArgs s_Turning_change) (defBody s_Turning_change) (defScope s_Turning_change) .none kV_Turning_change dc_Turning_change pm_Turning_change an_Turning_change cd_Turning_change ct_Turning_change
    a_law_cell_at := a_law_cell_at
    d_law_cell_at := PySem.W.fnOf "_law_cell_at" "_law_cell_at" (defArgs s_law_cell_at) (defBody s_law_cell_at) (defScope s_law_cell_at) .none kV_law_cell_at dc_law_cell_at pm_law_cell_at an_law_cell_at cd_law_cell_at ct_law_cell_at
    a_law := fa
    d_law := PySem.W.fnOf "law" "law" (defArgs s_law) (defBody s_law) (defScope s_law) .none kV_law dc_law pm_law an_law cd_law ct_law
    c_Listing := c_Listing
    c_NoForm := c_NoForm
    c_NoPlace := c_NoPlace
    c_NoRow := c_NoRow
    c_Choosing := c_Choosing
    c_Turning := c_Turning
    t_MOST_SPOTS_choosing := t_MOST_SPOTS_choosing
    t_MOST_SIGNS := t_MOST_SIGNS
    t_MOST_SPOTS_turning := t_MOST_SPOTS_turning
    g_all := PySem.W.mg_none_of X G h_all
    g_bool := PySem.W.mg_none_of X G h_bool
    g_divmod := PySem.W.mg_none_of X G h_divmod
    g_enumerate := PySem.W.mg_none_of X G h_enumerate
    g_int := PySem.W.mg_none_of X G h_int
    g_isinstance := PySem.W.mg_none_of X G h_isinstance
    g_len := PySem.W.mg_none_of X G h_len
    g_list := PySem.W.mg_none_of X G h_list
    g_min := PySem.W.mg_none_of X G h_min
    g_range := PySem.W.mg_none_of X G h_range
    g_reversed := PySem.W.mg_none_of X G h_reversed
    g_str := PySem.W.mg_none_of X G h_str
    g_sum := PySem.W.mg_none_of X G h_sum
    g_tuple := PySem.W.mg_none_of X G h_tuple
    m_MOST_SPOTS_choosing := PySem.W.mg_of X G h_MOST_SPOTS_choosing
    m_MOST_SIGNS := PySem.W.mg_of X G h_MOST_SIGNS
    m_MOST_SPOTS_turning := PySem.W.mg_of X G h_MOST_SPOTS_turning
    F_Listing___init__ := fun_mk (st := s_Listing___init__) l_Listing___init__ cc_Listing___init__ k_Listing___init__
    b_Listing___init__ := (fun_mk (st := s_Listing___init__) l_Listing___init__ cc_Listing___init__ k_Listing___init__).binds (ps := P_Listing___init__) fun _ _ _ _ _ _ us hl => match us, hl with | [_, _, _], _ => rfl
    F_power := fun_mk (st := s_power) l_power cc_power k_power
    b_power := (fun_mk (st := s_power) l_power cc_power k_power).binds (ps := P_power) fun _ _ _ _ _ _ us hl => match us, hl with | [_, _], _ => rfl
    m_power := PySem.W.mg_of X G n_power
    F_Turning___init__ := fun_mk (st := s_Turning___init__) l_Turning___init__ cc_Turning___init__ k_Turning___init__
    b_Turning___init__ := (fun_mk (st := s_Turning___init__) l_Turning___init__ cc_Turning___init__ k_Turning___init__).binds (ps := P_Turning___init__) fun _ _ _ _ _ _ us hl => match us, hl with | [_, _, _], _ => rfl
    F_choose := fun_mk (st := s_choose) l_choose cc_choose k_choose
    b_choose := (fun_mk (st := s_choose) l_choose cc_choose k_choose).binds (ps := P_choose) fun _ _ _ _ _ _ us hl => match us, hl with | [_, _], _ => rfl
    m_choose := PySem.W.mg_of X G n_choose
    F_Choosing___init__ := fun_mk (st := s_Choosing___init__) l_Choosing___init__ cc_Choosing___init__ k_Choosing___init__
    b_Choosing___init__ := (fun_mk (st := s_Choosing___init__) l_Choosing___init__ cc_Choosing___init__ k_Choosing___init__).binds (ps := P_Choosing___init__) fun _ _ _ _ _ _ us hl => match us, hl with | [_, _, _], _ => rfl
    F_Choosing_row_at := fun_mk (st := s_Choosing_row_at) l_Choosing_row_at cc_Choosing_row_at k_Choosing_row_at
    b_Choosing_row_at := (fun_mk (st := s_Choosing_row_at) l_Choosing_row_at cc_Choosing_row_at k_Choosing_row_at).binds (ps := P_Choosing_row_at) fun _ _ _ _ _ _ us hl => match us, hl with | [_, _], _ => rfl
    F_Choosing_is_row := fun_mk (st := s_Choosing_is_row) l_Choosing_is_row cc_Choosing_is_row k_Choosing_is_row
    b_Choosing_is_row := (fun_mk (st := s_Choosing_is_row) l_Choosing_is_row cc_Choosing_is_row k_Choosing_is_row).binds (ps := P_Choosing_is_row) fun _ _ _ _ _ _ us hl => match us, hl with | [_, _], _ => rfl
    F_Choosing_place_of := fun_mk (st := s_Choosing_place_of) l_Choosing_place_of cc_Choosing_place_of k_Choosing_place_of
    b_Choosing_place_of := (fun_mk (st := s_Choosing_place_of) l_Choosing_place_of cc_Choosing_place_of k_Choosing_place_of).binds (ps := P_Choosing_place_of) fun _ _ _ _ _ _ us hl => match us, hl with | [_, _], _ => rfl
    F_Listing_leap := FD_Listing_leap
    b_Listing_leap := bn_Listing_leap
    ve_Listing_leap := ve_Listing_leap
    be_Listing_leap := be_Listing_leap
    F_Listing_steps_to := fun_mk (st := s_Listing_steps_to) l_Listing_steps_to cc_Listing_steps_to k_Listing_steps_to
    b_Listing_steps_to := (fun_mk (st := s_Listing_steps_to) l_Listing_steps_to cc_Listing_steps_to k_Listing_steps_to).binds (ps := P_Listing_steps_to) fun _ _ _ _ _ _ us hl => match us, hl with | [_, _, _], _ => rfl
    F_law_whole := fun_mk (st := s_law_whole) l_law_whole cc_law_whole k_law_whole
    b_law_whole := (fun_mk (st := s_law_whole) l_law_whole cc_law_whole k_law_whole).binds (ps := P_law_whole) fun _ _ _ _ _ _ us hl => match us, hl with | [_], _ => rfl
    m_law_whole := PySem.W.mg_of X G n_law_whole
    F_law_has := fun_mk (st := s_law_has) l_law_has cc_law_has k_law_has
    b_law_has := (fun_mk (st := s_law_has) l_law_has cc_law_has k_law_has).binds (ps := P_law_has) fun _ _ _ _ _ _ us hl => match us, hl with | [_, _, _, _], _ => rfl
    m_law_has := PySem.W.mg_of X G n_law_has
    F_law_changed := fun_mk (st := s_law_changed) l_law_changed cc_law_changed k_law_changed
    b_law_changed := (fun_mk (st := s_law_changed) l_law_changed cc_law_changed k_law_changed).binds (ps := P_law_changed) fun _ _ _ _ _ _ us hl => match us, hl with | [_, _, _, _, _], _ => rfl
    m_law_changed := PySem.W.mg_of X G n_law_changed
    F_law_any := fun_mk (st := s_law_any) l_law_any cc_law_any k_law_any
    b_law_any := (fun_mk (st := s_law_any) l_law_any cc_law_any k_law_any).binds (ps := P_law_any) fun _ _ _ _ _ _ us hl => match us, hl with | [_, _, _, _], _ => rfl
    m_law_any := PySem.W.mg_of X G n_law_any
    F_Listing_row_before := fun_mk (st := s_Listing_row_before) l_Listing_row_before cc_Listing_row_before k_Listing_row_before
    b_Listing_row_before := (fun_mk (st := s_Listing_row_before) l_Listing_row_before cc_Listing_row_before k_Listing_row_before).binds (ps := P_Listing_row_before) fun _ _ _ _ _ _ us hl => match us, hl with | [_, _], _ => rfl
    F_law_leapt := fun_mk (st := s_law_leapt) l_law_leapt cc_law_leapt k_law_leapt
    b_law_leapt := (fun_mk (st := s_law_leapt) l_law_leapt cc_law_leapt k_law_leapt).binds (ps := P_law_leapt) fun _ _ _ _ _ _ us hl => match us, hl with | [_, _, _], _ => rfl
    m_law_leapt := PySem.W.mg_of X G n_law_leapt
    F_law_is_row := fun_mk (st := s_law_is_row) l_law_is_row cc_law_is_row k_law_is_row
    b_law_is_row := (fun_mk (st := s_law_is_row) l_law_is_row cc_law_is_row k_law_is_row).binds (ps := P_law_is_row) fun _ _ _ _ _ _ us hl => match us, hl with | [_, _, _, _], _ => rfl
    m_law_is_row := PySem.W.mg_of X G n_law_is_row
    F_Listing_next_row := fun_mk (st := s_Listing_next_row) l_Listing_next_row cc_Listing_next_row k_Listing_next_row
    b_Listing_next_row := (fun_mk (st := s_Listing_next_row) l_Listing_next_row cc_Listing_next_row k_Listing_next_row).binds (ps := P_Listing_next_row) fun _ _ _ _ _ _ us hl => match us, hl with | [_, _], _ => rfl
    F_Choosing_change := fun_mk (st := s_Choosing_change) l_Choosing_change cc_Choosing_change k_Choosing_change
    b_Choosing_change := (fun_mk (st := s_Choosing_change) l_Choosing_change cc_Choosing_change k_Choosing_change).binds (ps := P_Choosing_change) fun _ _ _ _ _ _ us hl => match us, hl with | [_, _], _ => rfl
    F_law_deed := fun_mk (st := s_law_deed) l_law_deed cc_law_deed k_law_deed
    b_law_deed := (fun_mk (st := s_law_deed) l_law_deed cc_law_deed k_law_deed).binds (ps := P_law_deed) fun _ _ _ _ _ _ us hl => match us, hl with | [_, _, _, _, _, _], _ => rfl
    m_law_deed := PySem.W.mg_of X G n_law_deed
    F_law_stands := fun_mk (st := s_law_stands) l_law_stands cc_law_stands k_law_stands
    b_law_stands := (fun_mk (st := s_law_stands) l_law_stands cc_law_stands k_law_stands).binds (ps := P_law_stands) fun _ _ _ _ _ _ us hl => match us, hl with | [_, _, _], _ => rfl
    m_law_stands := PySem.W.mg_of X G n_law_stands
    F_law_walked := fun_mk (st := s_law_walked) l_law_walked cc_law_walked k_law_walked
    b_law_walked := (fun_mk (st := s_law_walked) l_law_walked cc_law_walked k_law_walked).binds (ps := P_law_walked) fun _ _ _ _ _ _ us hl => match us, hl with | [_, _, _, _, _, _], _ => rfl
    m_law_walked := PySem.W.mg_of X G n_law_walked
    F_law_signs := fun_mk (st := s_law_signs) l_law_signs cc_law_signs k_law_signs
    b_law_signs := (fun_mk (st := s_law_signs) l_law_signs cc_law_signs k_law_signs).binds (ps := P_law_signs) fun _ _ _ _ _ _ us hl => match us, hl with | [_], _ => rfl
    m_law_signs := PySem.W.mg_of X G n_law_signs
    F_Turning_row_at := fun_mk (st := s_Turning_row_at) l_Turning_row_at cc_Turning_row_at k_Turning_row_at
    b_Turning_row_at := (fun_mk (st := s_Turning_row_at) l_Turning_row_at cc_Turning_row_at k_Turning_row_at).binds (ps := P_Turning_row_at) fun _ _ _ _ _ _ us hl => match us, hl with | [_, _], _ => rfl
    F_Turning_is_row := fun_mk (st := s_Turning_is_row) l_Turning_is_row cc_Turning_is_row k_Turning_is_row
    b_Turning_is_row := (fun_mk (st := s_Turning_is_row) l_Turning_is_row cc_Turning_is_row k_Turning_is_row).binds (ps := P_Turning_is_row) fun _ _ _ _ _ _ us hl => match us, hl with | [_, _], _ => rfl
    F_Turning_place_of := fun_mk (st := s_Turning_place_of) l_Turning_place_of cc_Turning_place_of k_Turning_place_of
    b_Turning_place_of := (fun_mk (st := s_Turning_place_of) l_Turning_place_of cc_Turning_place_of k_Turning_place_of).binds (ps := P_Turning_place_of) fun _ _ _ _ _ _ us hl => match us, hl with | [_, _], _ => rfl
    F_Turning_change := fun_mk (st := s_Turning_change) l_Turning_change cc_Turning_change k_Turning_change
    b_Turning_change := (fun_mk (st := s_Turning_change) l_Turning_change cc_Turning_change k_Turning_change).binds (ps := P_Turning_change) fun _ _ _ _ _ _ us hl => match us, hl with | [_, _], _ => rfl
    F_law_cell_at := fun_mk (st := s_law_cell_at) l_law_cell_at cc_law_cell_at k_law_cell_at
    b_law_cell_at := (fun_mk (st := s_law_cell_at) l_law_cell_at cc_law_cell_at k_law_cell_at).binds (ps := P_law_cell_at) fun _ _ _ _ _ _ us hl => match us, hl with | [_, _], _ => rfl
    m_law_cell_at := PySem.W.mg_of X G n_law_cell_at
    F_law := fun_mk (st := s_law) l_law cc_law k_law
    b_law := (fun_mk (st := s_law) l_law cc_law k_law).binds (ps := P_law) fun _ _ _ _ _ _ us hl => match us, hl with | [_], _ => rfl
    m_Listing := PySem.W.mg_of X G n_Listing
    cr_Listing := ⟨rd_Listing, ga_Listing⟩
    at_Listing___init__ := at_Listing___init__
    m_NoForm := PySem.W.mg_of X G n_NoForm
    x_NoForm := x_NoForm
    k_NoForm := k_NoForm
    bE_NoForm := bE_NoForm
    tE_NoForm := tE_NoForm
    m_NoPlace := PySem.W.mg_of X G n_NoPlace
    x_NoPlace := x_NoPlace
    k_NoPlace := k_NoPlace
    bE_NoPlace := bE_NoPlace
    tE_NoPlace := tE_NoPlace
    m_NoRow := PySem.W.mg_of X G n_NoRow
    x_NoRow := x_NoRow
    k_NoRow := k_NoRow
    bE_NoRow := bE_NoRow
    tE_NoRow := tE_NoRow
    m_Choosing := PySem.W.mg_of X G n_Choosing
    m_Turning := PySem.W.mg_of X G n_Turning
    cl_Turning := ⟨pg_Turning, hd_Turning, po_Turning, sa_Turning⟩
    mk_Turning := ⟨mm_Turning, fi_Turning, if_Turning___init__, kp_Turning⟩
    no_Turning_length := no_Turning_length
    no_Turning_size := no_Turning_size
    no_Turning_signs := no_Turning_signs
    me_Turning_change := ⟨fi_Turning_change, if_Turning_change, k_Turning_change⟩
    me_Turning_is_row := ⟨fi_Turning_is_row, if_Turning_is_row, k_Turning_is_row⟩
    me_Turning_leap := ⟨fi_Turning_leap, if_Listing_leap, k_Listing_leap⟩
    me_Turning_next_row := ⟨fi_Turning_next_row, if_Listing_next_row, k_Listing_next_row⟩
    me_Turning_place_of := ⟨fi_Turning_place_of, if_Turning_place_of, k_Turning_place_of⟩
    me_Turning_row_at := ⟨fi_Turning_row_at, if_Turning_row_at, k_Turning_row_at⟩
    me_Turning_row_before := ⟨fi_Turning_row_before, if_Listing_row_before, k_Listing_row_before⟩
    me_Turning_steps_to := ⟨fi_Turning_steps_to, if_Listing_steps_to, k_Listing_steps_to⟩
    cl_Choosing := ⟨pg_Choosing, hd_Choosing, po_Choosing, sa_Choosing⟩
    mk_Choosing := ⟨mm_Choosing, fi_Choosing, if_Choosing___init__, kp_Choosing⟩
    no_Choosing_length := no_Choosing_length
    no_Choosing_size := no_Choosing_size
    no_Choosing_ones := no_Choosing_ones
    me_Choosing_change := ⟨fi_Choosing_change, if_Choosing_change, k_Choosing_change⟩
    me_Choosing_is_row := ⟨fi_Choosing_is_row, if_Choosing_is_row, k_Choosing_is_row⟩
    me_Choosing_leap := ⟨fi_Choosing_leap, if_Listing_leap, k_Listing_leap⟩
    me_Choosing_next_row := ⟨fi_Choosing_next_row, if_Listing_next_row, k_Listing_next_row⟩
    me_Choosing_place_of := ⟨fi_Choosing_place_of, if_Choosing_place_of, k_Choosing_place_of⟩
    me_Choosing_row_at := ⟨fi_Choosing_row_at, if_Choosing_row_at, k_Choosing_row_at⟩
    me_Choosing_row_before := ⟨fi_Choosing_row_before, if_Listing_row_before, k_Listing_row_before⟩
    me_Choosing_steps_to := ⟨fi_Choosing_steps_to, if_Listing_steps_to, k_Listing_steps_to⟩
    ca_Turning := ca_Turning
    mo_Turning := mo_Turning
    ki_Turning := kit_own hd_Listing ty_Listing sb_Turning
    ca_Choosing := ca_Choosing
    mo_Choosing := mo_Choosing
    ki_Choosing := kit_own hd_Listing ty_Listing sb_Choosing
    gd_class := gd_class
    tk_class := tk_class })
theorem walk {l : PySem.W.OpenLaw} {q : Program} {loose : List Str} {XP : (Str → Option Value) → Heap → Prop} {YP : World → Heap → Prop} {d : DefRec} {K : Params → PySem.W.Frag} (hn : l.most = some 63) (hdf : d.params.defaults = [])
    (hY : ∀ (w : World) (h : Heap), YP w h → (K w.params).In h)
    (F : ∀ (w : World) (mg : Str → Option Value) (fa : Addr) (h : Heap), (K w.params).In h → h.Ns mainGlobals mg → mg d.name = some (.ref fa) →
      ∃ fd : FuncData, (∀ (s : Shared) (u : Value), BindsTo s fd ⟨[u], []⟩ [("_law_script", u)]) ∧ ∀ base : Heap, (K w.params).In base → base.Ns mainGlobals mg → FnOk l.prog w (K w.params) mg base CX0 7 fa fd P_law (spLawK (K w.params))) :
    PySem.W.WalkO q loose XP YP l.row.toRowW d [] (fun f vs => PySem.call f vs) :=
  L2.walk_ofB (n := 63) (k := 7) (x := "_law_script") (CX := fun _ => CX0) (sp := fun w => spLawK (K w.params)) hn (by decide) hdf ⟨rfl, by decide, by decide⟩ hY F (fun _ _ a ns hl hb _ hS => ⟨a, ns, rfl, hS, hl, hb, fun _ => rfl⟩) fun _ _ _ _ _ z => z
end Mk
open PySem PySem.W PyProof.Rows in
set_option maxRecDepth 100000 in
set_option maxHeartbeats 0 in
theorem PySem.Challenge.cw_marksteps_k08_whole_walk_holds : PySem.Challenge.rw_marksteps_k08_whole_walk.Holds := by
  w_on; o_law; k_head; (case hw => w_witness2)
  k_fill
  refine Mk.walk (l := PySem.Challenge.rw_marksteps_k08_whole_walk) rfl rfl (fun w h Y => PySem.W.kIn_of Y) ?F
  case F =>
    intro w mg fa h KX G hmg
    refine' Mk.all_mk KX G hmg ?h_all ?h_bool ?h_divmod ?h_enumerate ?h_int ?h_isinstance ?h_len ?h_list ?h_min ?h_range ?h_reversed ?h_str ?h_sum ?h_tuple ?h_MOST_SPOTS_choosing ?h_MOST_SIGNS ?h_MOST_SPOTS_turning ?n_power ?n_choose ?n_law_whole ?n_law_has ?n_law_changed ?n_law_any ?n_law_leapt ?n_law_is_row ?n_law_deed ?n_law_stands ?n_law_walked ?n_law_signs ?n_law_cell_at ?n_law ?n_Listing ?n_NoForm ?n_NoPlace ?n_NoRow ?n_Choosing ?n_Turning ?rd_Listing ?fi_Turning ?fi_Turning_change ?fi_Turning_is_row ?fi_Turning_leap ?fi_Turning_next_row ?fi_Turning_place_of ?fi_Turning_row_at ?fi_Turning_row_before ?fi_Turning_steps_to ?fi_Choosing ?fi_Choosing_change ?fi_Choosing_is_row ?fi_Choosing_leap ?fi_Choosing_next_row ?fi_Choosing_place_of ?fi_Choosing_row_at ?fi_Choosing_row_before ?fi_Choosing_steps_to ?at_Listing___init__ ?l_Listing___init__ ?cc_Listing___init__ ?k_Listing___init__ ?l_power ?cc_power ?k_power ?l_Turning___init__ ?cc_Turning___init__ ?k_Turning___init__ ?l_choose ?cc_choose ?k_choose ?l_Choosing___init__ ?cc_Choosing___init__ ?k_Choosing___init__ ?l_Choosing_row_at ?cc_Choosing_row_at ?k_Choosing_row_at ?l_Choosing_is_row ?cc_Choosing_is_row ?k_Choosing_is_row ?l_Choosing_place_of ?cc_Choosing_place_of ?k_Choosing_place_of ?l_Listing_leap ?cc_Listing_leap ?k_Listing_leap ?lt_Listing_leap ?l_Listing_steps_to ?cc_Listing_steps_to ?k_Listing_steps_to ?l_law_whole ?cc_law_whole ?k_law_whole ?l_law_has ?cc_law_has ?k_law_has ?l_law_changed ?cc_law_changed ?k_law_changed ?l_law_any ?cc_law_any ?k_law_any ?l_Listing_row_before ?cc_Listing_row_before ?k_Listing_row_before ?l_law_leapt ?cc_law_leapt ?k_law_leapt ?l_law_is_row ?cc_law_is_row ?k_law_is_row ?l_Listing_next_row ?cc_Listing_next_row ?k_Listing_next_row ?l_Choosing_change ?cc_Choosing_change ?k_Choosing_change ?l_law_deed ?cc_law_deed ?k_law_deed ?l_law_stands ?cc_law_stands ?k_law_stands ?l_law_walked ?cc_law_walked ?k_law_walked ?l_law_signs ?cc_law_signs ?k_law_signs ?l_Turning_row_at ?cc_Turning_row_at ?k_Turning_row_at ?l_Turning_is_row ?cc_Turning_is_row ?k_Turning_is_row ?l_Turning_place_of ?cc_Turning_place_of ?k_Turning_place_of ?l_Turning_change ?cc_Turning_change ?k_Turning_change ?l_law_cell_at ?cc_law_cell_at ?k_law_cell_at ?l_law ?cc_law ?k_law ?ga_Listing ?x_NoForm ?k_NoForm ?bE_NoForm ?tE_NoForm ?x_NoPlace ?k_NoPlace ?bE_NoPlace ?tE_NoPlace ?x_NoRow ?k_NoRow ?bE_NoRow ?tE_NoRow ?pg_Turning ?hd_Turning ?po_Turning ?sa_Turning ?mm_Turning ?kp_Turning ?if_Turning___init__ ?no_Turning_length ?no_Turning_size ?no_Turning_signs ?if_Turning_change ?if_Turning_is_row ?if_Listing_leap ?if_Listing_next_row ?if_Turning_place_of ?if_Turning_row_at ?if_Listing_row_before ?if_Listing_steps_to ?pg_Choosing ?hd_Choosing ?po_Choosing ?sa_Choosing ?mm_Choosing ?kp_Choosing ?if_Choosing___init__ ?no_Choosing_length ?no_Choosing_size ?no_Choosing_ones ?if_Choosing_change ?if_Choosing_is_row ?if_Choosing_place_of ?if_Choosing_row_at ?ca_Turning ?mo_Turning ?sb_Turning ?ca_Choosing ?mo_Choosing ?sb_Choosing ?hd_Listing ?ty_Listing ?gd_class ?tk_class
    (case h_all => k_is)
    (case h_bool => k_is)
    (case h_divmod => k_is)
    (case h_enumerate => k_is)
    (case h_int => k_is)
    (case h_isinstance => k_is)
    (case h_len => k_is)
    (case h_list => k_is)
    (case h_min => k_is)
    (case h_range => k_is)
    (case h_reversed => k_is)
    (case h_str => k_is)
    (case h_sum => k_is)
    (case h_tuple => k_is)
    (case h_MOST_SPOTS_choosing => k_is)
    (case h_MOST_SIGNS => k_is)
    (case h_MOST_SPOTS_turning => k_is)
    (case n_power => k_is)
    (case n_choose => k_is)
    (case n_law_whole => k_is)
    (case n_law_has => k_is)
    (case n_law_changed => k_is)
    (case n_law_any => k_is)
    (case n_law_leapt => k_is)
    (case n_law_is_row => k_is)
    (case n_law_deed => k_is)
    (case n_law_stands => k_is)
    (case n_law_walked => k_is)
    (case n_law_signs => k_is)
    (case n_law_cell_at => k_is)
    (case n_law => k_is)
    (case n_Listing => k_is)
    (case n_NoForm => k_is)
    (case n_NoPlace => k_is)
    (case n_NoRow => k_is)
    (case n_Choosing => k_is)
    (case n_Turning => k_is)
    (case rd_Listing => k_is)
    (case fi_Turning => k_is)
    (case fi_Turning_change => k_is)
    (case fi_Turning_is_row => k_is)
    (case fi_Turning_leap => k_is)
    (case fi_Turning_next_row => k_is)
    (case fi_Turning_place_of => k_is)
    (case fi_Turning_row_at => k_is)
    (case fi_Turning_row_before => k_is)
    (case fi_Turning_steps_to => k_is)
    (case fi_Choosing => k_is)
    (case fi_Choosing_change => k_is)
    (case fi_Choosing_is_row => k_is)
    (case fi_Choosing_leap => k_is)
    (case fi_Choosing_next_row => k_is)
    (case fi_Choosing_place_of => k_is)
    (case fi_Choosing_row_at => k_is)
    (case fi_Choosing_row_before => k_is)
    (case fi_Choosing_steps_to => k_is)
    (case at_Listing___init__ => k_is)
    (case l_Listing___init__ => k_is)
    (case cc_Listing___init__ => k_is)
    (case k_Listing___init__ => k_is)
    (case l_power => k_is)
    (case cc_power => k_is)
    (case k_power => k_is)
    (case l_Turning___init__ => k_is)
    (case cc_Turning___init__ => k_is)
    (case k_Turning___init__ => k_is)
    (case l_choose => k_is)
    (case cc_choose => k_is)
    (case k_choose => k_is)
    (case l_Choosing___init__ => k_is)
    (case cc_Choosing___init__ => k_is)
    (case k_Choosing___init__ => k_is)
    (case l_Choosing_row_at => k_is)
    (case cc_Choosing_row_at => k_is)
    (case k_Choosing_row_at => k_is)
    (case l_Choosing_is_row => k_is)
    (case cc_Choosing_is_row => k_is)
    (case k_Choosing_is_row => k_is)
    (case l_Choosing_place_of => k_is)
    (case cc_Choosing_place_of => k_is)
    (case k_Choosing_place_of => k_is)
    (case l_Listing_leap => k_is)
    (case cc_Listing_leap => k_is)
    (case k_Listing_leap => k_is)
    (case lt_Listing_leap => k_is)
    (case l_Listing_steps_to => k_is)
    (case cc_Listing_steps_to => k_is)
    (case k_Listing_steps_to => k_is)
    (case l_law_whole => k_is)
    (case cc_law_whole => k_is)
    (case k_law_whole => k_is)
    (case l_law_has => k_is)
    (case cc_law_has => k_is)
    (case k_law_has => k_is)
    (case l_law_changed => k_is)
    (case cc_law_changed => k_is)
    (case k_law_changed => k_is)
    (case l_law_any => k_is)
    (case cc_law_any => k_is)
    (case k_law_any => k_is)
    (case l_Listing_row_before => k_is)
    (case cc_Listing_row_before => k_is)
    (case k_Listing_row_before => k_is)
    (case l_law_leapt => k_is)
    (case cc_law_leapt => k_is)
    (case k_law_leapt => k_is)
    (case l_law_is_row => k_is)
    (case cc_law_is_row => k_is)
    (case k_law_is_row => k_is)
    (case l_Listing_next_row => k_is)
    (case cc_Listing_next_row => k_is)
    (case k_Listing_next_row => k_is)
    (case l_Choosing_change => k_is)
    (case cc_Choosing_change => k_is)
    (case k_Choosing_change => k_is)
    (case l_law_deed => k_is)
    (case cc_law_deed => k_is)
    (case k_law_deed => k_is)
    (case l_law_stands => k_is)
    (case cc_law_stands => k_is)
    (case k_law_stands => k_is)
    (case l_law_walked => k_is)
    (case cc_law_walked => k_is)
    (case k_law_walked => k_is)
    (case l_law_signs => k_is)
    (case cc_law_signs => k_is)
    (case k_law_signs => k_is)
    (case l_Turning_row_at => k_is)
    (case cc_Turning_row_at => k_is)
    (case k_Turning_row_at => k_is)
    (case l_Turning_is_row => k_is)
    (case cc_Turning_is_row => k_is)
    (case k_Turning_is_row => k_is)
    (case l_Turning_place_of => k_is)
    (case cc_Turning_place_of => k_is)
    (case k_Turning_place_of => k_is)
    (case l_Turning_change => k_is)
    (case cc_Turning_change => k_is)
    (case k_Turning_change => k_is)
    (case l_law_cell_at => k_is)
    (case cc_law_cell_at => k_is)
    (case k_law_cell_at => k_is)
    (case l_law => k_is)
    (case cc_law => k_is)
    (case k_law => k_is)
    (case ga_Listing => k_is)
    (case x_NoForm => k_exc)
    (case k_NoForm => k_is)
    (case bE_NoForm => first | rfl | k_is)
    (case tE_NoForm => k_is)
    (case x_NoPlace => k_exc)
    (case k_NoPlace => k_is)
    (case bE_NoPlace => first | rfl | k_is)
    (case tE_NoPlace => k_is)
    (case x_NoRow => k_exc)
    (case k_NoRow => k_is)
    (case bE_NoRow => first | rfl | k_is)
    (case tE_NoRow => k_is)
    (case pg_Turning => k_is)
    (case hd_Turning => k_is)
    (case po_Turning => k_is)
    (case sa_Turning => k_is)
    (case mm_Turning => k_is)
    (case kp_Turning => k_is)
    (case if_Turning___init__ => k_is)
    (case no_Turning_length => k_is)
    (case no_Turning_size => k_is)
    (case no_Turning_signs => k_is)
    (case if_Turning_change => k_is)
    (case if_Turning_is_row => k_is)
    (case if_Listing_leap => k_is)
    (case if_Listing_next_row => k_is)
    (case if_Turning_place_of => k_is)
    (case if_Turning_row_at => k_is)
    (case if_Listing_row_before => k_is)
    (case if_Listing_steps_to => k_is)
    (case pg_Choosing => k_is)
    (case hd_Choosing => k_is)
    (case po_Choosing => k_is)
    (case sa_Choosing => k_is)
    (case mm_Choosing => k_is)
    (case kp_Choosing => k_is)
    (case if_Choosing___init__ => k_is)
    (case no_Choosing_length => k_is)
    (case no_Choosing_size => k_is)
    (case no_Choosing_ones => k_is)
    (case if_Choosing_change => k_is)
    (case if_Choosing_is_row => k_is)
    (case if_Choosing_place_of => k_is)
    (case if_Choosing_row_at => k_is)
    (case ca_Turning => k_is)
    (case mo_Turning => k_is)
    (case sb_Turning => first | rfl | k_is)
    (case ca_Choosing => k_is)
    (case mo_Choosing => k_is)
    (case sb_Choosing => first | rfl | k_is)
    (case hd_Listing => k_is)
    (case ty_Listing => k_is)
    (case gd_class => k_is)
    (case tk_class => k_is)
