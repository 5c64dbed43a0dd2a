import PyProof.Rows.All
import Wide.All
import OpenK.AllK
import Wide.FinOn
import HandS.ForMost
import HandS.Wide
import HandS.WideBits
import HandS.Style
import HandS.IsInst
import HandS.TupAny
import HandS.Defaults
import HandS.Zip
import HandS.TupMul
import KE.GoesEnum
import HandS.RaiseMore
import PySem.Challenge.RW_truebeat_k21_whole_rounds_that_shift
set_option Elab.async false
set_option linter.all false
set_option maxRecDepth 100000
set_option maxHeartbeats 4000000
namespace TB
/-! ### whole numbers -/
theorem two_pos (n : Nat) : (0 : Int) < 2 ^ n := Int.pow_pos (by decide)
theorem two_succ (n : Nat) : (2 : Int) ^ (n + 1) = 2 * 2 ^ n := by rw [Int.pow_succ, Int.mul_comm]
theorem two_add (a b : Nat) : (2 : Int) ^ (a + b) = 2 ^ a * 2 ^ b := Int.pow_add 2 a b
theorem two_mono {a b : Nat} (h : a ≤ b) : (2 : Int) ^ a ≤ 2 ^ b := by
  obtain ⟨c, rfl⟩ := Nat.exists_eq_add_of_le h
  rw [two_add]
  have := two_pos a
  have h2 : (1 : Int) ≤ 2 ^ c := two_pos c
  have := Int.mul_le_mul_of_nonneg_left h2 (Int.le_of_lt (two_pos a))
  omega
theorem two32 {w : Nat} (h : w ≤ 32) : (2 : Int) ^ w ≤ 4294967296 := Int.le_trans (two_mono h) (by decide)
theorem divmod_of {a b q r : Int} (hb : 0 < b) (e : r + b * q = a) (h0 : 0 ≤ r) (h1 : r < b) : a / b = q ∧ a % b = r := (Int.ediv_emod_unique hb).mpr ⟨e, h0, h1⟩
theorem mod_succ (x : Int) (i : Nat) : x % 2 ^ (i + 1) = x % 2 ^ i + 2 ^ i * (x / 2 ^ i % 2) := by
  have hd := two_pos i
  have e1 := Int.emod_add_mul_ediv x (2 ^ i)
  have e2 := Int.emod_add_mul_ediv (x / 2 ^ i) 2
  have l1 := Int.emod_nonneg x (Int.ne_of_gt hd)
  have l2 := Int.emod_lt_of_pos x hd
  rw [two_succ]
  refine (divmod_of (q := x / 2 ^ i / 2) (by omega) ?_ ?_ ?_).2
  · rw [Int.mul_comm 2 ((2 : Int) ^ i), Int.mul_assoc]
    have e3 : (2 : Int) ^ i * (x / 2 ^ i) = 2 ^ i * (x / 2 ^ i % 2) + 2 ^ i * (2 * (x / 2 ^ i / 2)) := by rw [← Int.mul_add, e2]
    omega
  · have := Int.mul_nonneg (Int.le_of_lt hd) (Int.emod_nonneg (x / 2 ^ i) (by decide : (2 : Int) ≠ 0))
    omega
  · have h3 : x / 2 ^ i % 2 ≤ 1 := by omega
    have := Int.mul_le_mul_of_nonneg_left h3 (Int.le_of_lt hd)
    omega
theorem div_div (x : Int) (a b : Nat) : x / 2 ^ a / 2 ^ b = x / 2 ^ (a + b) := by
  rw [two_add, Int.ediv_ediv_of_nonneg (Int.le_of_lt (two_pos a))]
/-! ### bits -/
def bitsI : Nat → Int → List Int
  | 0, _ => []
  | n + 1, x => (x % 2) :: bitsI n (x / 2)
def ofBits : List Int → Int
  | [] => 0
  | b :: r => 2 * ofBits r + b
theorem bitsI_length : ∀ (n : Nat) (x : Int), (bitsI n x).length = n
  | 0, _ => rfl
  | n + 1, x => by simp [bitsI, bitsI_length n (x / 2)]
theorem bitsI_get : ∀ (n : Nat) (x : Int) (i : Nat), i < n → (bitsI n x)[i]? = some (x / 2 ^ i % 2)
  | 0, _, _, h => by omega
  | n + 1, x, 0, _ => by simp [bitsI]
  | n + 1, x, i + 1, h => by
    have := bitsI_get n (x / 2) i (by omega)
    simp only [bitsI, List.getElem?_cons_succ]
    rw [this]
    have e := div_div x 1 i
    rw [show (2 : Int) ^ 1 = 2 from rfl] at e
    rw [e, Nat.add_comm 1 i]
theorem bitsI_range (n : Nat) (x : Int) : ∀ b ∈ bitsI n x, b = 0 ∨ b = 1 := by
  induction n generalizing x with
  | zero => intro b h; cases h
  | succ n ih =>
    intro b h
    rcases List.mem_cons.mp h with rfl | h
    · omega
    · exact ih _ b h
theorem bitsI_snoc (n : Nat) (x : Int) : bitsI (n + 1) x = bitsI n x ++ [x / 2 ^ n % 2] := by
  induction n generalizing x with
  | zero => simp [bitsI]
  | succ n ih =>
    show (x % 2) :: bitsI (n + 1) (x / 2) = (x % 2) :: bitsI n (x / 2) ++ [x / 2 ^ (n + 1) % 2]
    rw [ih (x / 2)]
    have e := div_div x 1 n
    rw [show (2 : Int) ^ 1 = 2 from rfl] at e
    rw [e, Nat.add_comm 1 n]
    rfl
theorem ofBits_bitsI : ∀ (n : Nat) (x : Int), ofBits (bitsI n x) = x % 2 ^ n
  | 0, x => by simp [bitsI, ofBits, Int.emod_one]
  | n + 1, x => by
    show 2 * ofBits (bitsI n (x / 2)) + x % 2 = x % 2 ^ (n + 1)
    rw [ofBits_bitsI n (x / 2)]
    have hd := two_pos n
    have e1 := Int.emod_add_mul_ediv (x / 2) (2 ^ n)
    have l1 := Int.emod_nonneg (x / 2) (Int.ne_of_gt hd)
    have l2 := Int.emod_lt_of_pos (x / 2) hd
    rw [two_succ]
    refine ((divmod_of (q := x / 2 / 2 ^ n) (by omega) ?_ (by omega) (by omega)).2).symm
    rw [Int.mul_assoc]
    omega
theorem bitsI_drop : ∀ (m n : Nat) (x : Int), (bitsI n x).drop m = bitsI (n - m) (x / 2 ^ m)
  | 0, n, x => by simp
  | m + 1, 0, x => by simp [bitsI]
  | m + 1, n + 1, x => by
    show (bitsI n (x / 2)).drop m = _
    rw [bitsI_drop m n (x / 2), Nat.add_sub_add_right]
    have e := div_div x 1 m
    rw [show (2 : Int) ^ 1 = 2 from rfl] at e
    rw [e, Nat.add_comm 1 m]
theorem bitsI_take : ∀ (m n : Nat) (x : Int), m ≤ n → (bitsI n x).take m = bitsI m x
  | 0, n, x, _ => by simp [bitsI]
  | m + 1, 0, x, h => by omega
  | m + 1, n + 1, x, h => by
    show (x % 2) :: (bitsI n (x / 2)).take m = (x % 2) :: bitsI m (x / 2)
    rw [bitsI_take m n (x / 2) (by omega)]
theorem ofBits_zeros : ∀ (p : Nat) (l : List Int), ofBits (List.replicate p 0 ++ l) = 2 ^ p * ofBits l
  | 0, l => by simp
  | p + 1, l => by
    show 2 * ofBits (List.replicate p 0 ++ l) + 0 = 2 ^ (p + 1) * ofBits l
    rw [ofBits_zeros p l, two_succ, Int.mul_assoc]
    omega
theorem mod_small {x : Int} {n : Nat} (h0 : 0 ≤ x) (h1 : x < 2 ^ n) : x % 2 ^ n = x := Int.emod_eq_of_lt h0 h1
theorem div_small {x : Int} {n : Nat} (h0 : 0 ≤ x) (h1 : x < 2 ^ n) : x / 2 ^ n = 0 := Int.ediv_eq_zero_of_lt h0 h1
/-- moved left: zeros come in -/
theorem ofBits_left (w p : Nat) (x : Int) : ofBits ((List.replicate p 0 ++ bitsI w x).take w) = x * 2 ^ p % 2 ^ w := by
  by_cases h : p ≤ w
  · have e : (List.replicate p (0 : Int) ++ bitsI w x).take w = List.replicate p 0 ++ bitsI (w - p) x := by
      rw [List.take_append, List.length_replicate, List.take_of_length_le (by simp; exact h), bitsI_take _ _ _ (by omega)]
    rw [e, ofBits_zeros, ofBits_bitsI]
    have e2 : (2 : Int) ^ w = 2 ^ p * 2 ^ (w - p) := by rw [← two_add, Nat.add_sub_cancel' h]
    rw [e2, Int.mul_comm x, Int.mul_emod_mul_of_pos _ _ (two_pos p)]
  · have e : (List.replicate p (0 : Int) ++ bitsI w x).take w = List.replicate w 0 ++ [] := by
      rw [List.take_append, List.length_replicate, List.take_replicate, Nat.min_eq_left (by omega), show w - p = 0 by omega]
      simp
    rw [e, ofBits_zeros]
    have e2 : (2 : Int) ^ p = 2 ^ w * 2 ^ (p - w) := by rw [← two_add, Nat.add_sub_cancel' (by omega)]
    rw [e2, ← Int.mul_assoc, Int.mul_comm x, Int.mul_assoc, Int.mul_emod_right]
    show 2 ^ w * (0 : Int) = 0
    omega
theorem ofBits_right {w : Nat} (p : Nat) {x : Int} (h0 : 0 ≤ x) (h1 : x < 2 ^ w) : ofBits ((bitsI w x).drop p) = x / 2 ^ p := by
  rw [bitsI_drop, ofBits_bitsI]
  by_cases h : p ≤ w
  · refine Int.emod_eq_of_lt (Int.ediv_nonneg h0 (Int.le_of_lt (two_pos p))) ?_
    refine Int.ediv_lt_of_lt_mul (two_pos p) ?_
    rw [← two_add, Nat.sub_add_cancel h]
    exact h1
  · rw [show w - p = 0 by omega, Int.pow_zero, Int.emod_one]
    exact (div_small h0 (Int.lt_of_lt_of_le h1 (two_mono (by omega)))).symm
theorem ofBits_rev (bs : List Int) (i : Nat) (b : Int) (h : bs.reverse[i]? = some b) : ofBits (bs.drop (bs.length - (i + 1))) = 2 * ofBits (bs.drop (bs.length - i)) + b := by
  have hi : i < bs.length := by
    have := (List.getElem?_eq_some_iff.mp h).1
    rw [List.length_reverse] at this
    exact this
  rw [List.getElem?_reverse hi] at h
  have hj : bs.length - 1 - i < bs.length := by omega
  rw [List.getElem?_eq_getElem hj] at h
  have e : bs.drop (bs.length - 1 - i) = bs[bs.length - 1 - i] :: bs.drop (bs.length - 1 - i + 1) := List.drop_eq_getElem_cons hj
  rw [show bs.length - (i + 1) = bs.length - 1 - i by omega, e, show bs.length - 1 - i + 1 = bs.length - i by omega, Option.some.inj h]
  rfl
/-! ### signed numbers -/
def sgn (w : Nat) (x : Int) : Int := if x / 2 ^ (w - 1) = 1 then x - 2 ^ w else x
theorem sgn_mod (w : Nat) (x : Int) : ∃ k : Int, sgn w x = x + 2 ^ w * k := by
  unfold sgn
  split
  · exact ⟨-1, by omega⟩
  · exact ⟨0, by omega⟩
/-! ### a quotient, bit by bit -/
theorem quot_step {N y b : Int} (hy : 0 < y) (hb : b = 0 ∨ b = 1) :
    (2 * N + b) / y = 2 * (N / y) + (if y ≤ 2 * (N % y) + b then 1 else 0) ∧ (2 * N + b) % y = (if y ≤ 2 * (N % y) + b then 2 * (N % y) + b - y else 2 * (N % y) + b) := by
  have e1 := Int.emod_add_mul_ediv N y
  have l1 := Int.emod_nonneg N (Int.ne_of_gt hy)
  have l2 := Int.emod_lt_of_pos N hy
  have e2 : y * (2 * (N / y)) = 2 * (y * (N / y)) := by rw [← Int.mul_assoc, Int.mul_comm y 2, Int.mul_assoc]
  have e3 : y * (2 * (N / y) + 1) = 2 * (y * (N / y)) + y := by rw [Int.mul_add, e2, Int.mul_one]
  split
  · refine divmod_of hy ?_ (by omega) (by omega)
    omega
  · have e4 : y * (2 * (N / y) + 0) = 2 * (y * (N / y)) := by rw [Int.add_zero, e2]
    refine divmod_of hy ?_ (by omega) (by omega)
    omega
theorem half_bit (x : Int) (k : Nat) : x / 2 ^ k = 2 * (x / 2 ^ (k + 1)) + x / 2 ^ k % 2 := by
  have e := div_div x k 1
  rw [show (2 : Int) ^ 1 = 2 from rfl] at e
  rw [← e]
  omega
/-! ### carries -/
def carry (x y c : Int) (i : Nat) : Int := (x % 2 ^ i + y % 2 ^ i + c) / 2 ^ i
def cars (n : Nat) (x y c : Int) : List Int := (List.range (n + 1)).map (carry x y c)
theorem cars_length (n : Nat) (x y c : Int) : (cars n x y c).length = n + 1 := by simp [cars]
theorem cars_get {n : Nat} {x y c : Int} {i : Nat} (h : i ≤ n) : (cars n x y c)[i]? = some (carry x y c i) := by
  unfold cars
  rw [List.getElem?_map, List.getElem?_range (by omega)]
  rfl
theorem cars_snoc (n : Nat) (x y c : Int) : cars (n + 1) x y c = cars n x y c ++ [carry x y c (n + 1)] := by
  unfold cars
  rw [List.range_succ, List.map_append]
  rfl
theorem carry_zero (x y c : Int) : carry x y c 0 = c := by simp [carry, Int.emod_one]
theorem carry_range {x y c : Int} (h0 : 0 ≤ c) (h1 : c ≤ 1) (i : Nat) : 0 ≤ carry x y c i ∧ carry x y c i ≤ 1 := by
  have hd := two_pos i
  have a0 := Int.emod_nonneg x (Int.ne_of_gt hd)
  have a1 := Int.emod_lt_of_pos x hd
  have b0 := Int.emod_nonneg y (Int.ne_of_gt hd)
  have b1 := Int.emod_lt_of_pos y hd
  unfold carry
  constructor
  · exact Int.ediv_nonneg (by omega) (Int.le_of_lt hd)
  · have := Int.ediv_lt_of_lt_mul (a := x % 2 ^ i + y % 2 ^ i + c) (b := 2) (c := 2 ^ i) hd (by omega)
    omega
theorem carry_succ (x y c : Int) (i : Nat) : carry x y c (i + 1) = (x / 2 ^ i % 2 + y / 2 ^ i % 2 + carry x y c i) / 2 := by
  have hd := two_pos i
  unfold carry
  rw [mod_succ x i, mod_succ y i, two_succ, Int.mul_comm 2, ← Int.ediv_ediv_of_nonneg (Int.le_of_lt hd)]
  have e : x % 2 ^ i + 2 ^ i * (x / 2 ^ i % 2) + (y % 2 ^ i + 2 ^ i * (y / 2 ^ i % 2)) + c = x % 2 ^ i + y % 2 ^ i + c + 2 ^ i * (x / 2 ^ i % 2 + y / 2 ^ i % 2) := by
    rw [Int.mul_add]
    omega
  rw [e, Int.add_mul_ediv_left _ _ (Int.ne_of_gt hd)]
  congr 1
  omega
theorem sum_bit (x y c : Int) (i : Nat) : (x + y + c) / 2 ^ i % 2 = (x / 2 ^ i % 2 + y / 2 ^ i % 2 + carry x y c i) % 2 := by
  have hd := two_pos i
  have e1 := Int.emod_add_mul_ediv x (2 ^ i)
  have e2 := Int.emod_add_mul_ediv y (2 ^ i)
  have e : x + y + c = x % 2 ^ i + y % 2 ^ i + c + 2 ^ i * (x / 2 ^ i + y / 2 ^ i) := by
    rw [Int.mul_add]
    omega
  unfold carry
  rw [e, Int.add_mul_ediv_left _ _ (Int.ne_of_gt hd)]
  omega
theorem carry_last {n : Nat} {x y c : Int} (hx0 : 0 ≤ x) (hx : x < 2 ^ n) (hy0 : 0 ≤ y) (hy : y < 2 ^ n) : carry x y c n = (x + y + c) / 2 ^ n := by
  unfold carry
  rw [mod_small hx0 hx, mod_small hy0 hy]
theorem half_int (b : Int) (h0 : 0 ≤ b) (h1 : b ≤ 3) : (if b > 1 then (1 : Int) else 0) = b / 2 := by
  split <;> omega
/-! ### signed numbers, once more -/
theorem sgn_eq {n : Nat} {x : Int} (hn : 1 ≤ n) (h0 : 0 ≤ x) (h1 : x < 2 ^ n) : sgn n x = if 2 ^ (n - 1) ≤ x then x - 2 ^ n else x := by
  have hd := two_pos (n - 1)
  have e : (2 : Int) ^ n = 2 * 2 ^ (n - 1) := by rw [← two_succ, Nat.sub_add_cancel hn]
  unfold sgn
  by_cases h : 2 ^ (n - 1) ≤ x
  · rw [if_pos h, if_pos]
    exact (divmod_of (q := 1) (r := x - 2 ^ (n - 1)) hd (by omega) (by omega) (by omega)).1
  · rw [if_neg h, if_neg]
    rw [Int.ediv_eq_zero_of_lt h0 (by omega)]
    decide
theorem sgn_less {n : Nat} {x y : Int} (hn : 1 ≤ n) (hx0 : 0 ≤ x) (hx : x < 2 ^ n) (hy0 : 0 ≤ y) (hy : y < 2 ^ n) : (sgn n x < sgn n y) ↔ (x + 2 ^ (n - 1)) % 2 ^ n < (y + 2 ^ (n - 1)) % 2 ^ n := by
  have hd := two_pos (n - 1)
  have e : (2 : Int) ^ n = 2 * 2 ^ (n - 1) := by rw [← two_succ, Nat.sub_add_cancel hn]
  have m : ∀ {z : Int}, 0 ≤ z → z < 2 ^ n → (z + 2 ^ (n - 1)) % 2 ^ n = if 2 ^ (n - 1) ≤ z then z - 2 ^ (n - 1) else z + 2 ^ (n - 1) := fun {z} z0 z1 => by
    split
    · exact (divmod_of (q := 1) (by omega) (by omega) (by omega) (by omega)).2
    · exact Int.emod_eq_of_lt (by omega) (by omega)
  rw [sgn_eq hn hx0 hx, sgn_eq hn hy0 hy, m hx0 hx, m hy0 hy]
  split <;> split <;> omega
theorem sgn_bound {n : Nat} {x : Int} (hn : n ≤ 32) (h0 : 0 ≤ x) (h1 : x < 2 ^ n) : (sgn n x).natAbs < 2 ^ 33 := by
  have hb := two32 hn
  have hp := two_pos n
  unfold sgn
  split <;> omega
theorem sgn_mul {n : Nat} {x y : Int} : (sgn n x * sgn n y) % 2 ^ n = x * y % 2 ^ n := by
  obtain ⟨k, e1⟩ := sgn_mod n x
  obtain ⟨l, e2⟩ := sgn_mod n y
  rw [e1, e2, Int.mul_emod, Int.add_mul_emod_self_left, Int.add_mul_emod_self_left, ← Int.mul_emod]
theorem sgn_add {n : Nat} {x y c : Int} : (sgn n x + sgn n y + c) % 2 ^ n = (x + y + c) % 2 ^ n := by
  obtain ⟨k, e1⟩ := sgn_mod n x
  obtain ⟨l, e2⟩ := sgn_mod n y
  have e : sgn n x + sgn n y + c = x + y + c + 2 ^ n * (k + l) := by
    rw [e1, e2, Int.mul_add]
    omega
  rw [e, Int.add_mul_emod_self_left]
/-- the difference, as a sum -/
theorem less_sum {n : Nat} {x y : Int} (hx0 : 0 ≤ x) (hx : x < 2 ^ n) (hy0 : 0 ≤ y) (hy : y < 2 ^ n) :
    (x + (2 ^ n - 1 - y) + 1) % 2 ^ n = (x - y) % 2 ^ n ∧ (x + (2 ^ n - 1 - y) + 1) / 2 ^ n = if y ≤ x then 1 else 0 := by
  have hd := two_pos n
  have e : x + (2 ^ n - 1 - y) + 1 = x - y + 2 ^ n * 1 := by omega
  refine ⟨by rw [e, Int.add_mul_emod_self_left], ?_⟩
  split
  · exact (divmod_of (r := x - y) hd (by omega) (by omega) (by omega)).1
  · exact Int.ediv_eq_zero_of_lt (by omega) (by omega)
/-! ### bits put together -/
theorem mod_add (x : Int) (a b : Nat) : x % 2 ^ (a + b) = x % 2 ^ a + 2 ^ a * (x / 2 ^ a % 2 ^ b) := by
  induction b with
  | zero => rw [Nat.add_zero, Int.pow_zero, Int.emod_one]; omega
  | succ b ih =>
    rw [← Nat.add_assoc, mod_succ x (a + b), ih, mod_succ (x / 2 ^ a) b, div_div, Int.mul_add, two_add, Int.mul_assoc]
    omega
theorem ofBits_append : ∀ (a b : List Int), ofBits (a ++ b) = ofBits a + 2 ^ a.length * ofBits b
  | [], b => by simp [ofBits]
  | x :: r, b => by
    show 2 * ofBits (r ++ b) + x = 2 * ofBits r + x + 2 ^ (r.length + 1) * ofBits b
    rw [ofBits_append r b, two_succ, Int.mul_add, Int.mul_assoc]
    omega
theorem ofBits_same (k : Nat) (t : Int) : ofBits (List.replicate k t) = t * (2 ^ k - 1) := by
  induction k with
  | zero => simp [ofBits]
  | succ k ih =>
    show 2 * ofBits (List.replicate k t) + t = t * (2 ^ (k + 1) - 1)
    rw [ih, two_succ, Int.mul_sub, Int.mul_sub, Int.mul_sub, Int.mul_one, ← Int.mul_assoc t 2, Int.mul_comm t 2, Int.mul_assoc 2 t]
    generalize t * 2 ^ k = u
    omega
theorem sgn_fit {m : Nat} {s : Int} (hm : 1 ≤ m) (h0 : -(2 ^ (m - 1)) ≤ s) (h1 : s < 2 ^ (m - 1)) : sgn m (s % 2 ^ m) = s := by
  have hd := two_pos (m - 1)
  have e : (2 : Int) ^ m = 2 * 2 ^ (m - 1) := by rw [← two_succ, Nat.sub_add_cancel hm]
  have hp := two_pos m
  rw [sgn_eq hm (Int.emod_nonneg _ (by omega)) (Int.emod_lt_of_pos _ hp)]
  by_cases h : 0 ≤ s
  · rw [Int.emod_eq_of_lt h (by omega), if_neg (by omega)]
  · have e2 : s % 2 ^ m = s + 2 ^ m := (divmod_of (q := -1) hp (by omega) (by omega) (by omega)).2
    rw [e2, if_pos (by omega)]
    omega
theorem sgn_range {n : Nat} {x : Int} (hn : 1 ≤ n) (h0 : 0 ≤ x) (h1 : x < 2 ^ n) : -(2 ^ (n - 1)) ≤ sgn n x ∧ sgn n x < 2 ^ (n - 1) := by
  have hd := two_pos (n - 1)
  have e : (2 : Int) ^ n = 2 * 2 ^ (n - 1) := by rw [← two_succ, Nat.sub_add_cancel hn]
  rw [sgn_eq hn h0 h1]
  split <;> omega
/-- lengthened: the top bit ahead -/
theorem ofBits_long {n : Nat} {x : Int} (k : Nat) (hn : 1 ≤ n) (h0 : 0 ≤ x) (h1 : x < 2 ^ n) :
    ofBits (bitsI n x ++ List.replicate k (x / 2 ^ (n - 1) % 2)) = sgn n x % 2 ^ (n + k) := by
  have hd := two_pos (n - 1)
  have e : (2 : Int) ^ n = 2 * 2 ^ (n - 1) := by rw [← two_succ, Nat.sub_add_cancel hn]
  have hp := two_pos n
  have hk := two_pos k
  have e2 := two_add n k
  have hk1 : (1 : Int) ≤ 2 ^ k := hk
  have hle : (2 : Int) ^ n * 1 ≤ 2 ^ n * 2 ^ k := Int.mul_le_mul_of_nonneg_left hk1 (Int.le_of_lt hp)
  rw [ofBits_append, ofBits_bitsI, mod_small h0 h1, bitsI_length, ofBits_same, sgn_eq hn h0 h1]
  by_cases h : 2 ^ (n - 1) ≤ x
  · have q := (divmod_of (a := x) (q := 1) (r := x - 2 ^ (n - 1)) hd (by omega) (by omega) (by omega)).1
    rw [if_pos h, q]
    show x + 2 ^ n * (1 * (2 ^ k - 1)) = (x - 2 ^ n) % 2 ^ (n + k)
    refine ((divmod_of (q := -1) (two_pos _) ?_ ?_ ?_).2).symm
    · rw [Int.one_mul, Int.mul_sub, ← e2]
      omega
    · rw [Int.one_mul, Int.mul_sub, ← e2]
      omega
    · rw [Int.one_mul, Int.mul_sub, ← e2]
      omega
  · have q : x / 2 ^ (n - 1) = 0 := Int.ediv_eq_zero_of_lt h0 (by omega)
    rw [if_neg h, q]
    show x + 2 ^ n * (0 * (2 ^ k - 1)) = x % 2 ^ (n + k)
    rw [Int.zero_mul, Int.mul_zero, Int.add_zero, Int.emod_eq_of_lt h0 (by omega)]
theorem sgn_low {n : Nat} {x : Int} (k : Nat) (h0 : 0 ≤ x) (h1 : x < 2 ^ n) : sgn n x % 2 ^ (n + k) % 2 ^ n = x := by
  rw [two_add, Int.emod_emod_of_dvd _ ⟨2 ^ k, rfl⟩]
  obtain ⟨j, e⟩ := sgn_mod n x
  rw [e, Int.add_mul_emod_self_left, mod_small h0 h1]
end TB
namespace TB
open PySem PySem.Spec PyProof.Rows L2
/-! ### where a def of the text stands; a module's constant -/
structure DefAt (K : PySem.W.Frag) (mg : Str → Option Value) (x : Str) (st : Stmt) (ps : List Str) where
  f : Addr
  fd : FuncData
  F : Fun K x x st f fd
  b : Binds K fd ps []
  g : mg x = some (.ref f)
structure ConAt (mg : Str → Option Value) (x : Str) (v : V) where
  u : Value
  g : mg x = some u
  r : RelV v u
def defAt {K : PySem.W.Frag} {h : Heap} {mg : Str → Option Value} {x : Str} {st : Stmt} {ps : List Str} (X : K.In h) (G : h.Ns mainGlobals mg) {f : Addr} {od an : Option Addr} {sl : Array (Option Value)} {oc kV dc pm cd ct : Value}
    (a : PySem.W.nsIn K mainGlobals x = some (some (.ref f))) (l : K.lookup f = some ⟨oc, od, .func (PySem.W.fnOf x x (defArgs st) (defBody st) (defScope st) .none kV dc pm an cd ct), sl⟩) (c : PySem.W.codeIn K cd x = true) (k : PySem.W.keepIn K (.ref f) = true)
    (hb : ∀ (kV doc pm : Value) (an : Option Addr) (cdv ct : Value) (us : List Value), us.length = ps.length → bindArgs (PySem.W.fnOf x x (defArgs st) (defBody st) (defScope st) .none kV doc pm an cdv ct) ⟨us, []⟩ = pure (ps.zip us)) : DefAt K mg x st ps :=
  ⟨f, _, fun_mk l c k, (fun_mk l c k).binds hb, PySem.W.mg_of X G a⟩

/-- a def with keyword-only parameters at its end, each with a default -/
structure DefKw (K : PySem.W.Frag) (mg : Str → Option Value) (x : Str) (st : Stmt) (ps : List Str) (n : Nat) (kws : List (Str × V)) where
  f : Addr
  fd : FuncData
  F : Fun K x x st f fd
  ds : List Value
  dv : Vals (kws.map (·.2)) ds
  b : Binds K fd ps ds
  kb : KBn K fd ps n (kws.map (·.1)) (fun us ws => us ++ ws) (fun vs zs => vs ++ zs)
  g : mg x = some (.ref f)
theorem defKw {K : PySem.W.Frag} {h : Heap} {mg : Str → Option Value} {x : Str} {st : Stmt} {ps : List Str} {n : Nat} {y : Str} {i : Int} {tk : Tok} (X : K.In h) (G : h.Ns mainGlobals mg) {f D : Addr} {od an : Option Addr} {sl : Array (Option Value)} {oc dc pm cd ct : Value}
    (a : PySem.W.nsIn K mainGlobals x = some (some (.ref f))) (l : K.lookup f = some ⟨oc, od, .func (PySem.W.fnOf x x (defArgs st) (defBody st) (defScope st) .none (.ref D) dc pm an cd ct), sl⟩) (c : PySem.W.codeIn K cd x = true) (k : PySem.W.keepIn K (.ref f) = true)
    (kd : PySem.W.nsIn K D y = some (some (.int i tk))) (hn : n + 1 = ps.length)
    (h1 : ∀ (D : Addr) (doc pm : Value) (an : Option Addr) (cdv ct : Value) (us ks : List Value), us.length = n → ks.length = 1 →
      KwChain D ([y].zip ks) (bindArgs (PySem.W.fnOf x x (defArgs st) (defBody st) (defScope st) .none (.ref D) doc pm an cdv ct) ⟨us, []⟩) (ps.zip (us ++ ks)))
    (h2 : ∀ (D : Addr) (doc pm : Value) (an : Option Addr) (cdv ct : Value) (us ks : List Value), us.length = n → ks.length = 1 →
      bindArgs (PySem.W.fnOf x x (defArgs st) (defBody st) (defScope st) .none (.ref D) doc pm an cdv ct) ⟨us, [y].zip ks⟩ = pure (ps.zip (us ++ ks))) : Nonempty (DefKw K mg x st ps n [(y, .int i)]) := by
  have FD : FunD K x x (defArgs st) (defBody st) (defScope st) [] [(y, .int i)] f (PySem.W.fnOf x x (defArgs st) (defBody st) (defScope st) .none (.ref D) dc pm an cd ct) :=
    ⟨⟨oc, od, .none, .ref D, dc, pm, an, cd, ct, sl, rfl, l, c, .inl ⟨rfl, rfl⟩, .inr ⟨D, rfl, fun q hq => by
      rcases List.mem_cons.mp hq with e | hq
      · rw [e]
        exact ⟨_, kd, _, rfl⟩
      · cases hq⟩⟩, k⟩
  obtain ⟨ds, dv, b⟩ := FD.binds0 n (by simp) hn fun D doc pm an cdv ct us ks l1 l2 => h1 D doc pm an cdv ct us ks l1 l2
  exact ⟨⟨f, _, fun_mk l c k, ds, dv, b, ⟨fun s us ws X l1 l2 => .of_eq (h2 D dc pm an cd ct us ws l1 l2), fun r1 r2 => r1.append r2⟩, PySem.W.mg_of X G a⟩⟩

/-! ### heaps -/
theorem same_new {H : Hp} {p : Addr} {o : HO} (h : H p = none) : Same H (upd H p o) := fun b x e => by
  rw [upd_ne (ne_of_none e h)]
  exact e
theorem seqT_same {K : PySem.W.Frag} {H H' : Hp} {a : Addr} {xs : List V} (e : Same H H') (h : SqT K H a xs) : SqT K H' a xs := by
  rcases h with (h | ⟨o, h⟩) | h
  · exact .inl (.inl (e _ _ h))
  · exact .inl (.inr ⟨o, e _ _ h⟩)
  · exact .inr h
theorem upd_comm {H : Hp} {a b : Addr} {o u : HO} (h : a ≠ b) : upd (upd H a o) b u = upd (upd H b u) a o := by
  funext c
  unfold upd
  by_cases h1 : c = b
  · subst h1
    rw [if_pos rfl, if_neg (Ne.symm h), if_pos rfl]
  · by_cases h2 : c = a
    · subst h2
      rw [if_neg h1, if_pos rfl, if_pos rfl]
    · rw [if_neg h1, if_neg h2, if_neg h2, if_neg h1]
/-! ### the dice: a list of three ints -/
abbrev dl (x y z : Int) : HO := .lst [.int x, .int y, .int z]
def Dice (H : Hp) (d : Addr) : Prop := ∃ x y z : Int, H d = some (dl x y z)
/-- all but the dice stays -/
structure Ext (d : Addr) (H H' : Hp) : Prop where
  s : ∀ b o, b ≠ d → H b = some o → H' b = some o
  d : Dice H' d
theorem Ext.refl {d : Addr} {H : Hp} (h : Dice H d) : Ext d H H := ⟨fun _ _ _ e => e, h⟩
theorem Ext.trans {d : Addr} {H H1 H2 : Hp} (a : Ext d H H1) (b : Ext d H1 H2) : Ext d H H2 := ⟨fun c o n e => b.s c o n (a.s c o n e), b.d⟩
theorem Ext.same {d : Addr} {H H1 H2 : Hp} (a : Ext d H H1) (b : Same H1 H2) : Ext d H H2 := ⟨fun c o n e => b c o (a.s c o n e), let ⟨x, y, z, e⟩ := a.d; ⟨x, y, z, b _ _ e⟩⟩
theorem Dice.same {d : Addr} {H H1 : Hp} (a : Dice H d) (b : Same H H1) : Dice H1 d := let ⟨x, y, z, e⟩ := a; ⟨x, y, z, b _ _ e⟩
theorem Dice.ne {d p : Addr} {H : Hp} (a : Dice H d) (h : H p = none) : p ≠ d := fun e => by
  obtain ⟨x, y, z, q⟩ := a
  rw [e, q] at h
  cases h
theorem Dice.neT {d p : Addr} {H : Hp} {xs : List V} (a : Dice H d) (h : H p = some (.tup xs)) : p ≠ d := fun e => by
  obtain ⟨x, y, z, q⟩ := a
  rw [e, q] at h
  cases h
theorem Ext.of {d : Addr} {H H' : Hp} (a : Dice H d) (b : Same H H') : Ext d H H' := (Ext.refl a).same b
theorem Ext.new {d p : Addr} {H : Hp} {o : HO} (a : Dice H d) (h : H p = none) : Ext d H (upd H p o) := .of a (same_new h)
theorem Ext.roll {d : Addr} {H : Hp} {x y z : Int} : Ext d H (upd H d (dl x y z)) := ⟨fun b o n e => by rw [upd_ne n]; exact e, x, y, z, upd_same⟩
theorem Ext.seqT {K : PySem.W.Frag} {d a : Addr} {H H' : Hp} {xs : List V} (e : Ext d H H') (hd : Dice H d) (h : SqT K H a xs) : SqT K H' a xs := by
  rcases h with (h | ⟨o, h⟩) | h
  · exact .inl (.inl (e.s _ _ (hd.neT h) h))
  · refine .inl (.inr ⟨o, e.s _ _ (fun z => ?_) h⟩)
    obtain ⟨x, y, w, q⟩ := hd
    rw [z, q] at h
    cases h
  · exact .inr h
theorem Ext.free {d p : Addr} {H H' : Hp} (e : Ext d H H') (hd : Dice H d) (h : H' p = none) : H p = none := by
  cases q : H p with
  | none => rfl
  | some o =>
    have n : p ≠ d := fun z => by
      obtain ⟨x, y, w, r⟩ := e.d
      rw [z, r] at h
      cases h
    rw [e.s _ _ n q] at h
    cases h
/-! ### all but one object stays -/
def But (l : Addr) (H H' : Hp) : Prop := ∀ b o, b ≠ l → H b = some o → H' b = some o
theorem But.refl (l : Addr) (H : Hp) : But l H H := fun _ _ _ e => e
theorem But.trans {l : Addr} {H H1 H2 : Hp} (a : But l H H1) (b : But l H1 H2) : But l H H2 := fun c o n e => b c o n (a c o n e)
theorem But.same {l : Addr} {H H1 H2 : Hp} (a : But l H H1) (b : Same H1 H2) : But l H H2 := fun c o n e => b c o (a c o n e)
theorem But.of {l : Addr} {H H1 : Hp} (b : Same H H1) : But l H H1 := fun c o _ e => b c o e
theorem But.mut {l : Addr} {H : Hp} {o : HO} : But l H (upd H l o) := fun c u n e => by
  rw [upd_ne n]
  exact e
/-- what stood ahead of the object's making -/
theorem But.back {l : Addr} {H0 H H' : Hp} {o : HO} (hn : H0 l = none) (s : Same (upd H0 l o) H) (a : But l H H') : Same H0 H' := fun c u e => by
  have n : c ≠ l := ne_of_none e hn
  exact a c u n (s c u (by rw [upd_ne n]; exact e))
theorem Ext.but {d : Addr} {H H' : Hp} (a : Ext d H H') : But d H H' := a.s
theorem But.seqT {K : PySem.W.Frag} {l a : Addr} {H H' : Hp} {xs ys : List V} (e : But l H H') (hl : H l = some (.lst ys)) (h : SqT K H a xs) : SqT K H' a xs := by
  rcases h with (h | ⟨o, h⟩) | h
  · exact .inl (.inl (e _ _ (ne_of h hl (by intro z; cases z)) h))
  · exact .inl (.inr ⟨o, e _ _ (ne_of h hl (by intro z; cases z)) h⟩)
  · exact .inr h
/-! ### a new object, its heap by a letter -/
theorem nw {H : Hp} {o : HO} {Q : V → Hp → Prop} (h : ∀ p H', Same H H' → H' p = some o → H p = none → Q (.ref p) H') : ∀ p, H p = none → Q (.ref p) (upd H p o) := fun p np => h p _ (same_new np) upd_same np
/-! ### rows of whole numbers as data -/
theorem dpI {K : PySem.W.Frag} {H : Hp} : ∀ ns : List Int, DpAll K H (ns.map V.int) (ns.map PyData.int)
  | [] => .nil
  | n :: r => .cons (.int n) (dpI r)
theorem canI : ∀ ns : List Int, PyData.canLayAll0 (ns.map PyData.int) = true
  | [] => rfl
  | n :: r => by
    show (PyData.canLay0 (.int n) && PyData.canLayAll0 (r.map PyData.int)) = true
    rw [canI r]
    rfl
theorem depthI : ∀ ns : List Int, PyData.depthAll (ns.map PyData.int) ≤ 1
  | [] => by decide
  | n :: r => by
    have := depthI r
    show max (PyData.depth (.int n)) (PyData.depthAll (r.map PyData.int)) ≤ 1
    have e : PyData.depth (.int n) = 0 := rfl
    omega
theorem shT (ns : List Int) : SeqAt.shaped (.tuple (ns.map PyData.int)) = true := by
  unfold SeqAt.shaped
  have e : PyData.canLay0 (.tuple (ns.map PyData.int)) = true := canI ns
  have d : PyData.depth (.tuple (ns.map PyData.int)) = PyData.depthAll (ns.map PyData.int) + 1 := rfl
  have := depthI ns
  rw [e, d, decide_eq_true (by omega)]
  rfl
theorem shL (ns : List Int) : SeqAt.shaped (.list (ns.map PyData.int)) = true := by
  unfold SeqAt.shaped
  have e : PyData.canLay0 (.list (ns.map PyData.int)) = true := canI ns
  have d : PyData.depth (.list (ns.map PyData.int)) = PyData.depthAll (ns.map PyData.int) + 1 := rfl
  have := depthI ns
  rw [e, d, decide_eq_true (by omega)]
  rfl
theorem eqvR {d : PyData} (h : SeqAt.shaped d = true) : PyData.eqv d d = true := SeqAt.eqv_refl d (SeqAt.canLay_of_shaped h)
theorem dp2 {K : PySem.W.Frag} {H : Hp} {a : Addr} {x y : Int} (h : SqT K H a [.int x, .int y]) : Dp K H (.ref a) (.tuple [.int x, .int y]) := .tup h (.cons (.int x) (.cons (.int y) .nil))
theorem eqv2 {x y x' y' : Int} (h1 : x = x') (h2 : y = y') : PyData.eqv (.tuple [.int x, .int y]) (.tuple [.int x', .int y']) = true := by
  subst h1 h2
  exact SeqAt.eqv_refl _ rfl
theorem neqv2 {x y x' y' : Int} (h1 : x = x') (h2 : y = y') : (!PyData.eqv (.tuple [.int x, .int y]) (.tuple [.int x', .int y'])) = false := by
  rw [eqv2 h1 h2]
  rfl
theorem neqvR {d : PyData} (h : SeqAt.shaped d = true) : (!PyData.eqv d d) = false := by
  rw [eqvR h]
  rfl
/-! ### tests -/
theorem iteB {A B : Prop} {b : Bool} (h : b = true) (q : A) : if b = true then A else B := by
  rw [h]
  exact iteT q
theorem iteBF {A B : Prop} {b : Bool} (h : b = false) (q : B) : if b = true then A else B := by
  rw [h]
  exact iteF q
theorem iteN {A B : Prop} {b : Bool} (h : b = true) (q : B) : if (!b) = true then A else B := by
  rw [h]
  exact iteF q
theorem iteNF {A B : Prop} {b : Bool} (h : b = false) (q : A) : if (!b) = true then A else B := by
  rw [h]
  exact iteT q
theorem ite3 {A B : Prop} {b : Bool} (h1 : b = true → A) (h2 : b = false → B) : if b = true then A else B := by
  cases b with
  | true => exact iteT (h1 rfl)
  | false => exact iteF (h2 rfl)
theorem neF {x y : V} (h : x = y) : (!decide (x = y)) = false := by
  rw [decide_eq_true h]
  rfl
theorem neT {x y : V} (h : x ≠ y) : (!decide (x = y)) = true := by
  rw [decide_eq_false h]
  rfl
theorem neFI {i j : Int} (h : i = j) : (!decide (V.int i = V.int j)) = false := neF (congrArg V.int h)
theorem eqTI {i j : Int} (h : i = j) : decide (V.int i = V.int j) = true := decide_eq_true (congrArg V.int h)
theorem eqFI {i j : Int} (h : i ≠ j) : decide (V.int i = V.int j) = false := decide_eq_false fun z => h (V.int.inj z)
theorem neTI {i j : Int} (h : i ≠ j) : (!decide (V.int i = V.int j)) = true := neT fun z => h (V.int.inj z)
/-! ### written numbers, sizes -/
theorem p0 {c : Int} (h : decide (0 < c) = true := by rfl) : 0 < c := of_decide_eq_true h
theorem cdiv {i j : Int} (h : decide (0 < j ∧ j < 1073741824) = true := by rfl) : CDiv i j := show 0 < j ∧ j < 1073741824 from of_decide_eq_true h
theorem cmulL {i j : Int} (h : decide (-(2 ^ 64) < i ∧ i < 2 ^ 64) = true := by rfl) : CMul i j := .inl (of_decide_eq_true h)
theorem cmulR {i j : Int} (h : decide (-(2 ^ 64) < j ∧ j < 2 ^ 64) = true := by rfl) : CMul i j := .inr (of_decide_eq_true h)
theorem sz {α : Type} {xs : List α} {n : Nat} (h : xs.length = n := by rfl) (h2 : decide (n ≤ 100000) = true := by rfl) : xs.length ≤ sizeLine := by
  rw [h]
  have := of_decide_eq_true h2
  rw [sizeLine_eq]
  omega
theorem szl {n : Nat} (h : n ≤ 100000) : n ≤ sizeLine := by
  rw [sizeLine_eq]
  omega
theorem szlt {n : Nat} (h : n ≤ 100000) : n < sizeLine := by
  rw [sizeLine_eq]
  omega
/-! ### slices -/
theorem cut_to (xs : List V) (k : Nat) : cutV xs none (some (k : Int)) = xs.take k := by
  unfold cutV
  rw [HT.sIx_nat, HT.sIx_none, List.drop_zero, Nat.sub_zero]
  by_cases h : k ≤ xs.length
  · rw [Nat.min_eq_left h]
  · rw [Nat.min_eq_right (by omega), List.take_length, List.take_of_length_le (by omega)]
theorem cut_from (xs : List V) (k : Nat) : cutV xs (some (k : Int)) none = xs.drop k := by
  unfold cutV
  rw [HT.sIx_nat, HT.sIx_none]
  by_cases h : k ≤ xs.length
  · rw [Nat.min_eq_left h, List.take_of_length_le (by rw [List.length_drop]; omega)]
  · rw [Nat.min_eq_right (by omega), List.drop_length, List.drop_of_length_le (by omega), List.take_nil]
theorem cut_mid (xs : List V) (a b : Nat) (h : a + b ≤ xs.length) : cutV xs (some (a : Int)) (some ((a : Int) + (b : Int))) = (xs.drop a).take b := by
  unfold cutV
  have e : (a : Int) + (b : Int) = ((a + b : Nat) : Int) := by omega
  rw [e, HT.sIx_nat, HT.sIx_nat, Nat.min_eq_left h, Nat.min_eq_left (show a ≤ xs.length by omega), Nat.add_sub_cancel_left]
/-! ### loops -/
/-- for .. in range(n), the turn's number a Nat -/
theorem for_rangeN {n : Nat} {g : TG} {tb : TS} {D : Ends} {σ : L2.St} {H : Hp} (Pv : Nat → L2.St → Hp → Prop) (h0 : Pv 0 σ H)
    (hs : ∀ i σ H, i < n → Pv i σ H → g (.int (i : Int)) σ H fun σ2 H2 => tb { D with nx := Pv (i + 1), ct := Pv (i + 1), bk := D.nx } σ2 H2) (hd : ∀ σ H, Pv n σ H → D.nx σ H) :
    ∃ W : Nat → Nat → L2.St → Hp → Prop, (∃ m, W 0 m σ H) ∧ ∀ i m σ H, W i m σ H → ((Itr 0 n).stop i H ∧ D.nx σ H) ∨ ((Itr 0 n).go i H ∧ ∃ N : L2.St → Hp → Prop, (∀ σ' H', N σ' H' → ∃ m', m' < m ∧ W (i + 1) m' σ' H') ∧ ∀ x H', (Itr 0 n).yld i H x H' → g x σ H' fun σ2 H2 => tb { D with nx := N, ct := N, bk := D.nx } σ2 H2) :=
  for_range (lo := 0) (n := n) Pv h0 (fun i σ H hi p => by
    have e0 : (0 : Int) + (i : Int) = (i : Int) := Int.zero_add _
    rw [e0]
    exact hs i σ H hi p) hd
/-- [.. for .. in range(n)], the turn's number a Nat -/
theorem lc_rangeN {n : Nat} {g : TG} {tt : TT} {te : TE} {vs : List Nat} {σ : L2.St} {H1 : Hp} {D : Addr} {Qd : Hp → Prop} (Pv : Nat → Hp → Prop) (h0 : Pv 0 (upd H1 D (.lst [])))
    (hs : ∀ i H, i < n → Pv i H → g (.int (i : Int)) (wipe σ vs) H fun σ2 H2 => wipe σ2 vs = wipe σ vs ∧ tt σ2 H2 fun b H3 =>
      if b = true then te σ2 H3 fun y H4 => ∃ acc, H4 D = some (.lst acc) ∧ acc.length < sizeLine ∧ Pv (i + 1) (upd H4 D (.lst (acc ++ [y]))) else Pv (i + 1) H3) (hd : ∀ H, Pv n H → Qd H) :
    ∃ W : Nat → Nat → Hp → Prop, (∃ m, W 0 m (upd H1 D (.lst []))) ∧ ∀ i m H, W i m H →
      ((Itr 0 n).stop i H ∧ Qd H) ∨ ((Itr 0 n).go i H ∧ ∃ Nx : Hp → Prop, (∀ H', Nx H' → ∃ m', m' < m ∧ W (i + 1) m' H') ∧ ∀ x H', (Itr 0 n).yld i H x H' → g x (wipe σ vs) H' fun σ2 H2 => wipe σ2 vs = wipe σ vs ∧ tt σ2 H2 fun b H3 =>
        if b = true then te σ2 H3 fun y H4 => ∃ acc, H4 D = some (.lst acc) ∧ acc.length < sizeLine ∧ Nx (upd H4 D (.lst (acc ++ [y]))) else Nx H3) :=
  lc_range (lo := 0) (n := n) Pv h0 (fun i H hi p => by
    have e0 : (0 : Int) + (i : Int) = (i : Int) := Int.zero_add _
    rw [e0]
    exact hs i H hi p) hd
/-- for i, x in enumerate(xs) -/
theorem for_enumL {K : PySem.W.Frag} {a : Addr} {xs : List V} {g : TG} {tb : TS} {D : Ends} {σ : L2.St} {H : Hp} (Pv : Nat → L2.St → Hp → Prop) (h0 : Pv 0 σ H) (hq : ∀ i σ H, Pv i σ H → SqL K H a xs)
    (hs : ∀ (i : Nat) (x : V) (T : Addr) (σ : L2.St) (H : Hp), xs[i]? = some x → Pv i σ H → H T = none → g (.ref T) σ (upd H T (.tup [.int (i : Int), x])) fun σ2 H2 => tb { D with nx := Pv (i + 1), ct := Pv (i + 1), bk := D.nx } σ2 H2) (hd : ∀ σ H, Pv xs.length σ H → D.nx σ H) :
    ∃ W : Nat → Nat → L2.St → Hp → Prop, (∃ m, W 0 m σ H) ∧ ∀ i m σ H, W i m σ H → ((Ite K a).stop i H ∧ D.nx σ H) ∨ ((Ite K a).go i H ∧ ∃ N : L2.St → Hp → Prop, (∀ σ' H', N σ' H' → ∃ m', m' < m ∧ W (i + 1) m' σ' H') ∧ ∀ v H', (Ite K a).yld i H v H' → g v σ H' fun σ2 H2 => tb { D with nx := N, ct := N, bk := D.nx } σ2 H2) := by
  refine ⟨fun i m σ H => m = xs.length - i ∧ i ≤ xs.length ∧ Pv i σ H, ⟨xs.length, rfl, Nat.zero_le _, h0⟩, ?_⟩
  rintro i m σ H ⟨rfl, hi, p⟩
  have qx := hq i σ H p
  by_cases hlt : i < xs.length
  · have hx : xs[i]? = some xs[i] := List.getElem?_eq_getElem hlt
    refine .inr ⟨⟨xs, xs[i], qx, hx⟩, Pv (i + 1), fun σ' H' p' => ⟨xs.length - (i + 1), by omega, rfl, hlt, p'⟩, fun v H' y => ?_⟩
    obtain ⟨T, x, rfl, nT, rfl, f⟩ := y
    exact hs i x T σ H (f xs qx) p nT
  · have e : i = xs.length := by omega
    subst e
    exact .inl ⟨⟨xs, qx, Nat.le_refl _⟩, hd σ H p⟩
/-! ### powers of great ints -/
def CPowW (i j : Int) : Prop := 0 ≤ j ∧ (Builtin.Int.intBits i : Int) * j ≤ 2 ^ 27
theorem op_powW {X : Cx} : OpR X (binaryOp .Pow) (rI CPowW fun i j => .int (i ^ j.toNat)) := opI fun _ _ _ _ _ _ _ hc q => pow_int hc.1 hc.2 q
end TB
namespace TB
open PySem PySem.Spec PyProof.Rows L2
/-! ### a rule by a stronger reading -/
section
variable {X : Cx}
theorem PE_imp {e : Expr} {t t' : TE} (h : PE X e t) (hi : ∀ σ H Q, t' σ H Q → t σ H Q) : PE X e t' := ⟨fun pins s σ H Q I hw => h.run pins s σ H Q I (hi σ H Q hw)⟩
/-- what follows may be less -/
def clA (t : TA) : TA := fun σ H Q => ∃ R, t σ H R ∧ ∀ vs H', R vs H' → Q vs H'
def clE (t : TE) : TE := fun σ H Q => ∃ R, t σ H R ∧ ∀ v H', R v H' → Q v H'
theorem PA_cl {es : List Expr} {t : TA} (h : PA X es t) : PA X es (clA t) := ⟨fun pos pins s σ H Q I hw => by
  obtain ⟨R, h1, h2⟩ := hw
  exact thn (h.run pos pins s σ H R I h1) fun us s' ⟨vs, H', I', r, q⟩ => ⟨vs, H', I', r, h2 _ _ q⟩⟩
theorem PE_cl {e : Expr} {t : TE} (h : PE X e t) : PE X e (clE t) := ⟨fun pins s σ H Q I hw => by
  obtain ⟨R, h1, h2⟩ := hw
  exact thn (h.run pins s σ H R I h1) fun us s' ⟨v, H', I', r, q⟩ => ⟨v, H', I', r, h2 _ _ q⟩⟩
theorem OpR_imp {f : Value → Value → Sem Value} {r r' : R2} (h : OpR X f r) (hi : ∀ x y H Q, r' x y H Q → r x y H Q) : OpR X f r' := fun pins s σ H x y v u Q I rx ry hw => h pins s σ H x y v u Q I rx ry (hi _ _ _ _ hw)
theorem CallR_imp {f : Value} {r r' : List V → Hp → VK → Prop} (h : CallR X f r) (hi : ∀ xs H Q, r' xs H Q → r xs H Q) : CallR X f r' := fun pins s σ H xs us Q I rx hw => h pins s σ H xs us Q I rx (hi _ _ _ hw)
theorem SlR_imp {r r' : V → Option Int → Option Int → Hp → VK → Prop} (h : L2.SlR X r) (hi : ∀ x lo hi' H Q, r' x lo hi' H Q → r x lo hi' H Q) : L2.SlR X r' := fun pins s σ H x v vl vu lo hi' sl Q I rx hs pl pu hw => h pins s σ H x v vl vu lo hi' sl Q I rx hs pl pu (hi _ _ _ _ _ hw)
/-! ### new tuples, new lists -/
def NewT (K : PySem.W.Frag) (xs : List V) (H : Hp) (Q : VK) : Prop := ∀ p H', Same H H' → SqT K H' p xs → Q (.ref p) H'
def NewL (xs : List V) (H : Hp) (Q : VK) : Prop := ∀ p H', Same H H' → H' p = some (.lst xs) → H p = none → Q (.ref p) H'
theorem newT {K : PySem.W.Frag} {xs : List V} {H : Hp} {Q : VK} (h : NewT K xs H Q) : ∀ p, H p = none → Q (.ref p) (upd H p (.tup xs)) := fun p np => h p _ (same_new np) (SqT.of upd_same)
theorem newL {xs : List V} {H : Hp} {Q : VK} (h : NewL xs H Q) : ∀ p, H p = none → Q (.ref p) (upd H p (.lst xs)) := fun p np => h p _ (same_new np) upd_same np
def tTupA (K : PySem.W.Frag) (t : TA) : TE := fun σ H Q => t σ H fun xs H1 => xs.length ≤ sizeLine ∧ NewT K xs H1 Q
def tLstA (t : TA) : TE := fun σ H Q => t σ H fun xs H1 => xs.length ≤ sizeLine ∧ NewL xs H1 Q
theorem pe_tupA {es : List Expr} {t : TA} {x1} {pos : Pos} (h : PA X es t) : PE X (.Tuple es x1 pos) (tTupA X.K t) := PE_imp (pe_tup (PA_cl h)) fun σ H Q hw => ⟨_, hw, fun xs H1 z => ⟨z.1, newT z.2⟩⟩
theorem pe_lstA {es : List Expr} {t : TA} {pos : Pos} (h : PA X es t) : PE X (.List es pos) (tLstA t) := PE_imp (pe_lst (PA_cl h)) fun σ H Q hw => ⟨_, hw, fun xs H1 z => ⟨z.1, newL z.2⟩⟩
theorem call_tupleA : CallR X (.type "tuple") (fun xs H Q => ∃ p ys, xs = [.ref p] ∧ (SqL X.K H p ys ∨ SqT X.K H p ys) ∧ NewT X.K ys H Q) := CallR_imp call_tuple_of fun xs H Q ⟨p, ys, e, h, q⟩ => ⟨p, ys, e, by
  rcases h with h | h
  · exact .inl ⟨h, newT q⟩
  · exact .inr ⟨h, q p H (Same.refl H) h⟩⟩
theorem call_listA : CallR X (.type "list") (fun xs H Q => ∃ p ys, xs = [.ref p] ∧ (SqL X.K H p ys ∨ SqT X.K H p ys) ∧ NewL ys H Q) := CallR_imp call_list_of fun xs H Q ⟨p, ys, e, h, q⟩ => ⟨p, ys, e, h, newL q⟩
theorem sl_listA : L2.SlR X (fun x lo hi H Q => ∃ a xs, x = .ref a ∧ SqL X.K H a xs ∧ NewL (cutV xs lo hi) H Q) := SlR_imp sl_list fun x lo hi H Q ⟨a, xs, e, h, q⟩ => ⟨a, xs, e, h, newL q⟩
theorem sl_tupleA : L2.SlR X (fun x lo hi H Q => ∃ a xs, x = .ref a ∧ SqT X.K H a xs ∧ NewT X.K (cutV xs lo hi) H Q) := SlR_imp sl_tupA fun x lo hi H Q ⟨a, xs, e, h, q⟩ => ⟨a, xs, e, h, fun z => by
    have e : cutV xs lo hi = xs := by
      unfold cutV
      rw [z.1, z.2, List.drop_zero, Nat.sub_zero, List.take_length]
    exact q a H (Same.refl H) (by rw [e]; exact h), fun _ => newT q⟩
theorem op_catL : OpR X (binaryOp .Add) (fun x y H Q => ∃ l b xs zs, x = .ref l ∧ y = .ref b ∧ H l = some (.lst xs) ∧ H b = some (.lst zs) ∧ xs.length + zs.length ≤ sizeLine ∧ NewL (xs ++ zs) H Q) := OpR_imp op_cat fun x y H Q ⟨l, b, xs, zs, e1, e2, h1, h2, z, q⟩ => ⟨l, b, xs, zs, e1, e2, h1, h2, z, newL q⟩
theorem op_repL : OpR X (binaryOp .Mult) (fun x y H Q => ∃ l k xs, x = .ref l ∧ y = .int k ∧ H l = some (.lst xs) ∧ -(2 ^ 63) ≤ k ∧ k < 2 ^ 63 ∧ xs.length * k.toNat ≤ sizeLine ∧ NewL (List.replicate k.toNat xs).flatten H Q) := OpR_imp op_rep fun x y H Q ⟨l, k, xs, e1, e2, h1, h2, h3, z, q⟩ => ⟨l, k, xs, e1, e2, h1, h2, h3, z, newL q⟩
theorem op_catU : OpR X (binaryOp .Add) (fun x y H Q => ∃ a b xs ys, x = .ref a ∧ y = .ref b ∧ SqT X.K H a xs ∧ SqT X.K H b ys ∧ xs.length + ys.length ≤ sizeLine ∧ NewT X.K (xs ++ ys) H Q) := OpR_imp op_catA fun x y H Q ⟨a, b, xs, ys, e1, e2, h1, h2, z, q⟩ => ⟨a, b, xs, ys, e1, e2, h1, h2, z,
  (fun e => q b H (Same.refl H) (by rw [e]; exact h2)), (fun _ e => q a H (Same.refl H) (by rw [e, List.append_nil]; exact h1)), (fun _ _ => newT q)⟩
theorem call_divmodA : CallR X (.builtin "divmod") (fun xs H Q => ∃ i j, xs = [.int i, .int j] ∧ CDivP i j ∧ NewT X.K [.int (i / j), .int (i % j)] H Q) := CallR_imp call_divmodW fun xs H Q ⟨i, j, e, h, q⟩ => ⟨i, j, e, h, newT q⟩
def tRevLA (K : PySem.W.Frag) (te : TE) : TE := fun σ H Q => te σ H fun x H1 => ∃ a xs, x = .ref a ∧ SqL K H1 a xs ∧ NewL xs.reverse H1 Q
theorem pe_revLA {e : Expr} {te : TE} {k : Nat} {p1 p2 p3 pos : Pos} (he : PE X e te) : PE X (.Subscript e (.Slice none none (some (.UnaryOp .USub (.Constant (.int 1) k p1) p2)) p3) pos) (tRevLA X.K te) :=
  PE_imp (pe_revL (PE_cl he)) fun σ H Q hw => ⟨_, hw, fun x H1 ⟨a, xs, e, h, q⟩ => ⟨a, xs, e, h, newL q⟩⟩
end
/-! ### what stands, through Same, Ext, But -/
section
variable {K : PySem.W.Frag} {H H' : Hp} {a d l : Addr} {xs ys : List V}
theorem sT (e : Same H H') (h : SqT K H a xs) : SqT K H' a xs := seqT_same e h
theorem sL (e : Same H H') (h : SqL K H a xs) : SqL K H' a xs := e.seq h
/-- a list that was made anew and then changed: what stood before stands -/
theorem Same.back {H0 H1 H2 : Hp} (hn : H0 l = none) (s : Same H0 H1) (b : But l H1 H2) : Same H0 H2 := fun c o e => b c o (ne_of_none e hn) (s c o e)
theorem Ext.list (e : Ext d H H') (n : a ≠ d) (h : H a = some (.lst xs)) : H' a = some (.lst xs) := e.s _ _ n h
theorem Ext.seqL (e : Ext d H H') (hd : Dice H d) (n : a ≠ d) (h : SqL K H a xs) : SqL K H' a xs := by
  rcases h with (h | ⟨o, h⟩) | h
  · exact .inl (.inl (e.s _ _ n h))
  · exact .inl (.inr ⟨o, e.s _ _ n h⟩)
  · exact .inr h
/-- what a dice is not -/
theorem Dice.neL (h : Dice H d) (e : H a = some (.lst xs)) (n : xs.length ≠ 3) : a ≠ d := fun z => by
  obtain ⟨x, y, w, q⟩ := h
  rw [z, q] at e
  cases e
  exact n rfl
theorem dp2s {x y : Int} (h : SqT K H a [.int x, .int y]) : Dp K H (.ref a) (.tuple [.int x, .int y]) := dp2 h
end
/-! ### lists of pure elements: f tells what each item gives, if anything -/
theorem range_snoc {α : Type} (f : Nat → Option α) (i : Nat) : (List.range (i + 1)).filterMap f = (List.range i).filterMap f ++ (f i).toList := by
  rw [List.range_succ, List.filterMap_append]
  cases h : f i <;> simp [h]
theorem take_snoc {α β : Type} (f : α → Option β) {xs : List α} {i : Nat} {x : α} (h : xs[i]? = some x) : (xs.take (i + 1)).filterMap f = (xs.take i).filterMap f ++ (f x).toList := by
  rw [List.take_add_one, h, List.filterMap_append]
  cases e : f x <;> simp [e]
theorem lc_rangeF {n : Nat} {g : TG} {tt : TT} {te : TE} {vs : List Nat} {σ : L2.St} {H1 : Hp} {Qd : Addr → Hp → Prop} (f : Nat → Option V) (hn : n ≤ 100000)
    (hs : ∀ i H, i < n → Same H1 H → ∀ (R : V → Hp → Prop) (N : Hp → Prop), (∀ v H', f i = some v → Same H H' → R v H') → (∀ H', f i = none → Same H H' → N H') →
      g (.int (i : Int)) (wipe σ vs) H fun σ2 H2 => wipe σ2 vs = wipe σ vs ∧ tt σ2 H2 fun b H3 => if b = true then te σ2 H3 R else N H3)
    (hd : ∀ D H', Same H1 H' → H' D = some (.lst ((List.range n).filterMap f)) → H1 D = none → Qd D H') :
    ∀ D, H1 D = none → ∃ W : Nat → Nat → Hp → Prop, (∃ m, W 0 m (upd H1 D (.lst []))) ∧ ∀ i m H, W i m H →
      ((Itr 0 n).stop i H ∧ Qd D H) ∨ ((Itr 0 n).go i H ∧ ∃ Nx : Hp → Prop, (∀ H', Nx H' → ∃ m', m' < m ∧ W (i + 1) m' H') ∧ ∀ x H', (Itr 0 n).yld i H x H' → g x (wipe σ vs) H' fun σ2 H2 => wipe σ2 vs = wipe σ vs ∧ tt σ2 H2 fun b H3 =>
        if b = true then te σ2 H3 fun y H4 => ∃ acc, H4 D = some (.lst acc) ∧ acc.length < sizeLine ∧ Nx (upd H4 D (.lst (acc ++ [y]))) else Nx H3) := fun D nD =>
  lc_rangeN (n := n) (fun i H => Same H1 H ∧ H D = some (.lst ((List.range i).filterMap f))) ⟨same_new nD, upd_same⟩ (fun i H hi ⟨sm, hD⟩ => by
    refine hs i H hi sm _ _ (fun v H' e s => ?_) (fun H' e s => ?_)
    · refine ⟨_, s _ _ hD, szlt ?_, fun b o hb => ?_, ?_⟩
      · have := List.length_filterMap_le f (List.range i)
        rw [List.length_range] at this
        omega
      · rw [upd_ne (ne_of_none hb nD)]
        exact s _ _ (sm _ _ hb)
      · rw [upd_same, range_snoc, e]
        rfl
    · refine ⟨sm.trans s, ?_⟩
      rw [range_snoc, e, s _ _ hD, Option.toList, List.append_nil]) fun H ⟨sm, hD⟩ => hd D H sm hD nD
theorem lc_listF {K : PySem.W.Frag} {a : Addr} {xs : List V} {g : TG} {tt : TT} {te : TE} {vs : List Nat} {σ : L2.St} {H1 : Hp} {Qd : Addr → Hp → Prop} (hl : SqL K H1 a xs) (f : V → Option V) (hn : xs.length ≤ 100000)
    (hs : ∀ (i : Nat) x H, xs[i]? = some x → Same H1 H → ∀ (R : V → Hp → Prop) (N : Hp → Prop), (∀ v H', f x = some v → Same H H' → R v H') → (∀ H', f x = none → Same H H' → N H') →
      g x (wipe σ vs) H fun σ2 H2 => wipe σ2 vs = wipe σ vs ∧ tt σ2 H2 fun b H3 => if b = true then te σ2 H3 R else N H3)
    (hd : ∀ D H', Same H1 H' → H' D = some (.lst (xs.filterMap f)) → H1 D = none → Qd D H') :
    ∀ D, H1 D = none → ∃ W : Nat → Nat → Hp → Prop, (∃ m, W 0 m (upd H1 D (.lst []))) ∧ ∀ i m H, W i m H →
      ((Itl K a).stop i H ∧ Qd D H) ∨ ((Itl K a).go i H ∧ ∃ Nx : Hp → Prop, (∀ H', Nx H' → ∃ m', m' < m ∧ W (i + 1) m' H') ∧ ∀ x H', (Itl K a).yld i H x H' → g x (wipe σ vs) H' fun σ2 H2 => wipe σ2 vs = wipe σ vs ∧ tt σ2 H2 fun b H3 =>
        if b = true then te σ2 H3 fun y H4 => ∃ acc, H4 D = some (.lst acc) ∧ acc.length < sizeLine ∧ Nx (upd H4 D (.lst (acc ++ [y]))) else Nx H3) := fun D nD =>
  lc_list (K := K) (a := a) (xs := xs) (fun i H => Same H1 H ∧ H D = some (.lst ((xs.take i).filterMap f))) ⟨same_new nD, upd_same⟩ (fun i H _ ⟨sm, _⟩ => sm.seq hl) (fun i x H hx ⟨sm, hD⟩ => by
    refine hs i x H hx sm _ _ (fun v H' e s => ?_) (fun H' e s => ?_)
    · refine ⟨_, s _ _ hD, szlt ?_, fun b o hb => ?_, ?_⟩
      · have := List.length_filterMap_le f (xs.take i)
        rw [List.length_take] at this
        omega
      · rw [upd_ne (ne_of_none hb nD)]
        exact s _ _ (sm _ _ hb)
      · rw [upd_same, take_snoc f hx, e]
        rfl
    · refine ⟨sm.trans s, ?_⟩
      rw [take_snoc f hx, e, s _ _ hD, Option.toList, List.append_nil]) fun H ⟨sm, hD⟩ => hd D H sm (by rw [hD, List.take_length]) nD
theorem lc_tupF {K : PySem.W.Frag} {a : Addr} {xs : List V} {g : TG} {tt : TT} {te : TE} {vs : List Nat} {σ : L2.St} {H1 : Hp} {Qd : Addr → Hp → Prop} (hl : SqT K H1 a xs) (f : V → Option V) (hn : xs.length ≤ 100000)
    (hs : ∀ (i : Nat) x H, xs[i]? = some x → Same H1 H → ∀ (R : V → Hp → Prop) (N : Hp → Prop), (∀ v H', f x = some v → Same H H' → R v H') → (∀ H', f x = none → Same H H' → N H') →
      g x (wipe σ vs) H fun σ2 H2 => wipe σ2 vs = wipe σ vs ∧ tt σ2 H2 fun b H3 => if b = true then te σ2 H3 R else N H3)
    (hd : ∀ D H', Same H1 H' → H' D = some (.lst (xs.filterMap f)) → H1 D = none → Qd D H') :
    ∀ D, H1 D = none → ∃ W : Nat → Nat → Hp → Prop, (∃ m, W 0 m (upd H1 D (.lst []))) ∧ ∀ i m H, W i m H →
      ((Itt K a).stop i H ∧ Qd D H) ∨ ((Itt K a).go i H ∧ ∃ Nx : Hp → Prop, (∀ H', Nx H' → ∃ m', m' < m ∧ W (i + 1) m' H') ∧ ∀ x H', (Itt K a).yld i H x H' → g x (wipe σ vs) H' fun σ2 H2 => wipe σ2 vs = wipe σ vs ∧ tt σ2 H2 fun b H3 =>
        if b = true then te σ2 H3 fun y H4 => ∃ acc, H4 D = some (.lst acc) ∧ acc.length < sizeLine ∧ Nx (upd H4 D (.lst (acc ++ [y]))) else Nx H3) := fun D nD =>
  lc_tup (K := K) (a := a) (xs := xs) (fun i H => Same H1 H ∧ H D = some (.lst ((xs.take i).filterMap f))) ⟨same_new nD, upd_same⟩ (fun i H _ ⟨sm, _⟩ => sT sm hl) (fun i x H hx ⟨sm, hD⟩ => by
    refine hs i x H hx sm _ _ (fun v H' e s => ?_) (fun H' e s => ?_)
    · refine ⟨_, s _ _ hD, szlt ?_, fun b o hb => ?_, ?_⟩
      · have := List.length_filterMap_le f (xs.take i)
        rw [List.length_take] at this
        omega
      · rw [upd_ne (ne_of_none hb nD)]
        exact s _ _ (sm _ _ hb)
      · rw [upd_same, take_snoc f hx, e]
        rfl
    · refine ⟨sm.trans s, ?_⟩
      rw [take_snoc f hx, e, s _ _ hD, Option.toList, List.append_nil]) fun H ⟨sm, hD⟩ => hd D H sm (by rw [hD, List.take_length]) nD
/-! ### lists of pure elements, told by the list that comes -/
theorem lc_tupY {K : PySem.W.Frag} {a : Addr} {xs ys : List V} {g : TG} {tt : TT} {te : TE} {vs : List Nat} {σ : L2.St} {H1 : Hp} {Qd : Addr → Hp → Prop} (hl : SqT K H1 a xs) (hlen : ys.length = xs.length) (hn : xs.length ≤ 100000)
    (hs : ∀ (i : Nat) x y H, xs[i]? = some x → ys[i]? = some y → Same H1 H → ∀ (R : V → Hp → Prop) (N : Hp → Prop), (∀ H', Same H H' → R y H') →
      g x (wipe σ vs) H fun σ2 H2 => wipe σ2 vs = wipe σ vs ∧ tt σ2 H2 fun b H3 => if b = true then te σ2 H3 R else N H3)
    (hd : ∀ D H', Same H1 H' → H' D = some (.lst ys) → H1 D = none → Qd D H') :
    ∀ D, H1 D = none → ∃ W : Nat → Nat → Hp → Prop, (∃ m, W 0 m (upd H1 D (.lst []))) ∧ ∀ i m H, W i m H →
      ((Itt K a).stop i H ∧ Qd D H) ∨ ((Itt K a).go i H ∧ ∃ Nx : Hp → Prop, (∀ H', Nx H' → ∃ m', m' < m ∧ W (i + 1) m' H') ∧ ∀ x H', (Itt K a).yld i H x H' → g x (wipe σ vs) H' fun σ2 H2 => wipe σ2 vs = wipe σ vs ∧ tt σ2 H2 fun b H3 =>
        if b = true then te σ2 H3 fun y H4 => ∃ acc, H4 D = some (.lst acc) ∧ acc.length < sizeLine ∧ Nx (upd H4 D (.lst (acc ++ [y]))) else Nx H3) := fun D nD =>
  lc_tup (K := K) (a := a) (xs := xs) (fun i H => Same H1 H ∧ H D = some (.lst (ys.take i))) ⟨same_new nD, upd_same⟩ (fun i H _ ⟨sm, _⟩ => sT sm hl) (fun i x H hx ⟨sm, hD⟩ => by
    have hi := (List.getElem?_eq_some_iff.mp hx).1
    have hy : ys[i]? = some ys[i] := List.getElem?_eq_getElem (by omega)
    refine hs i x ys[i] H hx hy sm _ _ (fun H' s => ?_)
    refine ⟨_, s _ _ hD, szlt ?_, fun b o hb => ?_, ?_⟩
    · rw [List.length_take]
      omega
    · rw [upd_ne (ne_of_none hb nD)]
      exact s _ _ (sm _ _ hb)
    · rw [upd_same, List.take_add_one, hy]
      rfl) fun H ⟨sm, hD⟩ => hd D H sm (by rw [hD, ← hlen, List.take_length]) nD
theorem lc_listY {K : PySem.W.Frag} {a : Addr} {xs ys : List V} {g : TG} {tt : TT} {te : TE} {vs : List Nat} {σ : L2.St} {H1 : Hp} {Qd : Addr → Hp → Prop} (hl : SqL K H1 a xs) (hlen : ys.length = xs.length) (hn : xs.length ≤ 100000)
    (hs : ∀ (i : Nat) x y H, xs[i]? = some x → ys[i]? = some y → Same H1 H → ∀ (R : V → Hp → Prop) (N : Hp → Prop), (∀ H', Same H H' → R y H') →
      g x (wipe σ vs) H fun σ2 H2 => wipe σ2 vs = wipe σ vs ∧ tt σ2 H2 fun b H3 => if b = true then te σ2 H3 R else N H3)
    (hd : ∀ D H', Same H1 H' → H' D = some (.lst ys) → H1 D = none → Qd D H') :
    ∀ D, H1 D = none → ∃ W : Nat → Nat → Hp → Prop, (∃ m, W 0 m (upd H1 D (.lst []))) ∧ ∀ i m H, W i m H →
      ((Itl K a).stop i H ∧ Qd D H) ∨ ((Itl K a).go i H ∧ ∃ Nx : Hp → Prop, (∀ H', Nx H' → ∃ m', m' < m ∧ W (i + 1) m' H') ∧ ∀ x H', (Itl K a).yld i H x H' → g x (wipe σ vs) H' fun σ2 H2 => wipe σ2 vs = wipe σ vs ∧ tt σ2 H2 fun b H3 =>
        if b = true then te σ2 H3 fun y H4 => ∃ acc, H4 D = some (.lst acc) ∧ acc.length < sizeLine ∧ Nx (upd H4 D (.lst (acc ++ [y]))) else Nx H3) := fun D nD =>
  lc_list (K := K) (a := a) (xs := xs) (fun i H => Same H1 H ∧ H D = some (.lst (ys.take i))) ⟨same_new nD, upd_same⟩ (fun i H _ ⟨sm, _⟩ => sm.seq hl) (fun i x H hx ⟨sm, hD⟩ => by
    have hi := (List.getElem?_eq_some_iff.mp hx).1
    have hy : ys[i]? = some ys[i] := List.getElem?_eq_getElem (by omega)
    refine hs i x ys[i] H hx hy sm _ _ (fun H' s => ?_)
    refine ⟨_, s _ _ hD, szlt ?_, fun b o hb => ?_, ?_⟩
    · rw [List.length_take]
      omega
    · rw [upd_ne (ne_of_none hb nD)]
      exact s _ _ (sm _ _ hb)
    · rw [upd_same, List.take_add_one, hy]
      rfl) fun H ⟨sm, hD⟩ => hd D H sm (by rw [hD, ← hlen, List.take_length]) nD
end TB
namespace TB
open PySem PySem.Spec PyProof.Rows L2
/-! ### enumerate(t), t a tuple -/
abbrev enumO (i : Nat) : Obj := { cls := .type "enumerate", data := .fields #[.none, .bool false, .ref i, rawInt 0, .none, .none] }
set_option maxHeartbeats 1000000 in
theorem enum_new {v : Value} {o : Obj} {G : Heap → Prop} (B : Begins v o G) : Meets (Builtin.«enumerate.__new__» ⟨[.type "enumerate", v], []⟩)
    (fun _ R z => G z.heap ∧ R (.ok (.ret (.ref (z.heap.push o).objs.size))) { z with heap := (z.heap.push o).push (enumO z.heap.objs.size) }) := .of_wp fun prog w A R z hz => by
  obtain ⟨hp, g, d, tk, os⟩ := z
  obtain ⟨h1, h⟩ := hz
  have hsub := sub_enumerate
  have it : ∀ {A' : Around} {E : Value → Shared → Prop} {Q : Value → Shared → Prop}, Q (.ref hp.objs.size) ⟨hp.push o, g, d, tk, os⟩ → wpAny (model prog w) A' (pyIter v) Q E ⟨hp, g, d, tk, os⟩ := fun q => B.iter prog w _ _ _ _ h1 q
  wp_walk using it
  refine wpAny_stack_any (fun st => wpAny_pure ?_)
  split
  · rename_i c _ _ _ _ _
    cases (c == Value.type "enumerate") <;> (wp_walk using it; exact ⟨_, rfl, h⟩)
  · wp_walk using it
    exact ⟨_, rfl, h⟩
theorem enum_call {prog : Program} {w : World} {A : Around} {E : Value → Shared → Prop} {s : Shared} {v : Value} {o : Obj} {G : Heap → Prop} {Q : Value → Shared → Prop} (B : Begins v o G) (h1 : G s.heap)
    (h : ∀ h', IsEnum h' (s.heap.objs.size + 1) s.heap.objs.size 0 .none → h'.get? s.heap.objs.size = some o → (∀ b u, s.heap.get? b = some u → h'.get? b = some u) → Q (.ref (s.heap.objs.size + 1)) { s with heap := h' }) :
    wpAny (model prog w) A (call (.type "enumerate") [v]) Q E s := by
  refine callType_new F.called_enumerate (by decide) (F.typeCall_enumerate_1 _) (F.newCall_enumerate_1 _) (fun obj => F.args_object_init_2 obj _) F.entry_enumerate_new (enum_new B) ⟨h1, ?_⟩
  have hz : (s.heap.push o).objs.size = s.heap.objs.size + 1 := Heap.size_push ..
  show _ ∧ _
  rw [hz]
  have he := Heap.get?_push_size (s.heap.push o) (o := enumO s.heap.objs.size) rfl
  rw [hz] at he
  exact ⟨⟨_, he, rfl⟩, h _ he (Heap.get?_push_of_some _ (Heap.get?_push_size _ B.free)) fun b u x => Heap.get?_push_of_some _ (Heap.get?_push_of_some _ x)⟩
/-- the tuple at a, of n items, each in a new pair -/
def IteT (K : PySem.W.Frag) (a : Addr) (n : Nat) : It :=
  ⟨fun i H => ∃ (xs : List V) (x : V), SqT K H a xs ∧ xs[i]? = some x ∧ xs.length = n,
    fun i H v H' => ∃ T x, v = .ref T ∧ H T = none ∧ H' = upd H T (.tup [.int (i : Nat), x]) ∧ ∀ xs, SqT K H a xs → xs[i]? = some x,
    fun i H => ∃ xs : List V, SqT K H a xs ∧ xs.length = n ∧ n ≤ i⟩
theorem enum_apart {h : Heap} {a e it : Addr} {i : Nat} {c : Int} {old : Value} {items : Array Value} (he : IsEnum h e it c old) (hi : h.IsTupleIter it a i) (p : IsTup h a items) : a ≠ it ∧ e ∉ [it, a] ∨ e = it := by
  obtain ⟨o1, g1, c1, _⟩ := hi
  obtain ⟨o2, g2, c2, _⟩ := p
  have n1 : a ≠ it := fun z => by
    rw [z, g1] at g2
    cases g2
    rw [c1] at c2
    exact absurd (Value.type.inj c2) (by decide)
  have n2 : e ≠ a := fun z => by
    have g3 : h.get? e = some _ := he
    rw [z, g2] at g3
    cases g3
    exact absurd (Value.type.inj c2) (by decide)
  by_cases q : e = it
  · exact .inr q
  · refine .inl ⟨n1, fun hm => ?_⟩
    rcases List.mem_cons.mp hm with z | hm
    · exact q z
    · exact n2 (List.mem_singleton.mp hm)
theorem turn_enumT {P : Program} {w : World} {K : PySem.W.Frag} {elts : List Expr} {kk : Nat} {tpos : Pos} (a e it : Addr) (n : Nat) :
    Turn P w K (.Tuple elts kk tpos) (IteT K a n) [e, it] e (fun i h => (∃ old, IsEnum h e it (i : Int) old) ∧ h.IsTupleIter it a i ∧ e ≠ it ∧ i ≤ n) where
  mem := List.mem_cons_self ..
  obj := fun i h st b hb => by
    obtain ⟨⟨old, he⟩, ⟨o, ho, hc, hd⟩, _⟩ := st
    rcases List.mem_cons.mp hb with z | hb
    · rw [z]
      exact ⟨_, he, fun v q => nomatch q⟩
    · rw [List.mem_singleton.mp hb]
      refine ⟨o, ho, fun v q => ?_⟩
      rw [hd] at q
      cases q
  keep := fun i h h' st k => let ⟨⟨old, he⟩, hi, hne, hn⟩ := st; ⟨⟨old, k e (by simp) _ he⟩, hi.at fun o q => k it (by simp) o q, hne, hn⟩
  item := by
    intro X hP hw hK hc i pins s σ H E I hf st hg
    subst hP hw hK
    obtain ⟨⟨old, he⟩, hit, hne, hn⟩ := st
    obtain ⟨xs, x, hq, hx, hl⟩ := hg
    obtain ⟨its, rv, p, hz⟩ := I.tuple hq
    obtain ⟨u, hu, ru⟩ := rv.get hx
    obtain ⟨nai, nef⟩ := (enum_apart he hit p).resolve_right hne
    have hel : e < s.heap.objs.size := Heap.lt_size he
    have hil : it < s.heap.objs.size := by
      obtain ⟨_, q, _⟩ := hit
      exact Heap.lt_size q
    have hin : i < n := by
      have := (List.getElem?_eq_some_iff.mp hx).1
      omega
    have len := rv.length
    refine wpAny_pyNext_enum_itemC (Draws.tuple (prog := X.prog) (w := X.w) (A := X.A.in1) (I.ok.hd hc) it a nai its.toArray) he ⟨hit, p⟩ (by simp; omega) hne nef fun x' h' tk hP ho hst hT hsz hk => ?_
    have ex : x' = u := by
      have h1 : its.toArray[i]? = some x' := hP
      rw [List.getElem?_toArray, hu] at h1
      exact (Option.some.inj h1).symm
    subst ex
    refine ⟨_, rfl, wpAny_letOwnedTupleGo_enum (s := { s with heap := h', toks := tk + 1 }) ho fun h'' he' sb => ?_⟩
    have hT2 := (sb.2 _ (Nat.ne_of_gt hel)).trans hT
    have new : ObjOk X.prog X.w (upd H s.heap.objs.size (.tup [.int (i : Nat), x])) h'' s.heap.objs.size (.tup [.int (i : Nat), x]) :=
      ⟨by show 2 ≤ sizeLine; decide, _, .cons ⟨tk, rfl⟩ (.cons ru .nil), ⟨_, hT2, rfl, _, rfl⟩⟩
    have I1 := I.turnedNew (t' := tk + 1) (ch := [e, it]) (fun b ob hb q => (sb.2 b (fun z => hb (by simp [z]))).trans (hk b ob (fun z => hb (by simp [z])) (fun z => hb (by simp [z])) q)) hf (Nat.le_refl _) new
    refine ⟨.ref s.heap.objs.size, _, I1, rfl, ⟨_, x, rfl, I.hok.fresh (Nat.le_refl _), rfl, fun ys hy => by rw [I.tuple_inj hy hq]; exact hx⟩, ⟨⟨x', ?_⟩, hst.1.at fun o q => (sb.2 it (Ne.symm hne)).trans q, hne, hin⟩, fun b hb => ?_⟩
    · have e1 : ((i + 1 : Nat) : Int) = (i : Int) + 1 := by omega
      rw [e1]
      exact he'
    · have hb' : b < s.heap.objs.size := by
        rcases List.mem_cons.mp hb with z | hb
        · rw [z]
          exact hel
        · rw [List.mem_singleton.mp hb]
          exact hil
      rw [upd_ne (Nat.ne_of_lt hb')]
      exact (hf b hb).1
  done := by
    intro X hP hw hK hc i pins s σ H E I hf st hg
    subst hP hw hK
    obtain ⟨⟨old, he⟩, hit, hne, hn⟩ := st
    obtain ⟨xs, hq, hl, hi⟩ := hg
    obtain ⟨its, rv, p, hz⟩ := I.tuple hq
    obtain ⟨nai, nef⟩ := (enum_apart he hit p).resolve_right hne
    obtain ⟨f0, f1, f2, f3, f4, f5⟩ := hf it (by simp)
    have len := rv.length
    have ei : i = its.toArray.size := by simp; omega
    rw [ei] at hit
    exact wpAny_pyNext_enum_endD (Draws.tuple (prog := X.prog) (w := X.w) (A := X.A.in1) (I.ok.hd hc) it a nai its.toArray) he ⟨hit, p⟩ fun h' eb => ⟨rfl, I.turned (t' := s.toks) (fun b o hb q => eb b o hb q) f0 f1 f3 f4 f5⟩
  self := fun A i s Q E st h => let ⟨⟨_, he⟩, _⟩ := st; wpAny_pyIter_enum he h
def iEnumT (K : PySem.W.Frag) (ta : TA) : TI := fun σ H R => ta σ H fun vs H1 => ∃ a xs, vs = [.ref a] ∧ SqT K H1 a xs ∧ R (IteT K a xs.length) H1
theorem pi_enumT {X : Cx} {e : Expr} {ta : TA} {p pos tpos : Pos} {elts : List Expr} {kk : Nat} (hg : Gl X "enumerate") (hm : X.mg "enumerate" = none) (ha : PA X [e] ta) (hs : starEach [e] X.env = [(false, eval e X.env)] := by rfl) :
    PI X (.Tuple elts kk tpos) (.Call (.Name "enumerate" p) [e] [] pos) (iEnumT X.K ta) := by
  refine ⟨fun pins s σ H R I h => Call_ (ld_blt I hg hm boot_enumerate (PyProof.Rows.callWith_type1 (thn (ha.run pos pins s σ H _ I h) fun us s1 ⟨vs, H1, I1, r1, q1⟩ => ?_) hs rfl))⟩
  obtain ⟨a, xs, ex, hq, q⟩ := q1
  subst ex
  obtain ⟨u1, e1, r⟩ := vals1 r1
  subst e1
  cases r
  obtain ⟨its, rv, p', hz⟩ := I1.tuple hq
  refine enum_call (begins_tuple a its.toArray) p' fun h' he hit hk => wpAny_pyIter_enum he ?_
  have I2 : Inv X pins σ H1 { s1 with heap := h' } := I1.kept (t' := s1.toks) hk
  refine ⟨s1.heap.objs.size + 1, [s1.heap.objs.size + 1, s1.heap.objs.size], _, _, H1, rfl, I2, turn_enumT a (s1.heap.objs.size + 1) s1.heap.objs.size xs.length, ⟨⟨.none, he⟩, ⟨_, hit, rfl, rfl⟩, Nat.succ_ne_self _, Nat.zero_le _⟩, fun b hb => ?_, q⟩
  have hle : s1.heap.objs.size ≤ b := by
    rcases List.mem_cons.mp hb with z | hb
    · rw [z]
      exact Nat.le_add_right _ _
    · rw [List.mem_singleton.mp hb]
      exact Nat.le_refl _
  exact I1.fpOk hle (I1.hok.fresh hle)
/-- for i, x in enumerate(t) -/
theorem for_enumT {K : PySem.W.Frag} {a : Addr} {xs : List V} {g : TG} {tb : TS} {D : Ends} {σ : L2.St} {H : Hp} (Pv : Nat → L2.St → Hp → Prop) (h0 : Pv 0 σ H) (hq : ∀ i σ H, Pv i σ H → SqT K H a xs)
    (hs : ∀ (i : Nat) (x : V) (T : Addr) (σ : L2.St) (H : Hp), xs[i]? = some x → Pv i σ H → H T = none → g (.ref T) σ (upd H T (.tup [.int (i : Int), x])) fun σ2 H2 => tb { D with nx := Pv (i + 1), ct := Pv (i + 1), bk := D.nx } σ2 H2) (hd : ∀ σ H, Pv xs.length σ H → D.nx σ H) :
    ∃ W : Nat → Nat → L2.St → Hp → Prop, (∃ m, W 0 m σ H) ∧ ∀ i m σ H, W i m σ H → ((IteT K a xs.length).stop i H ∧ D.nx σ H) ∨ ((IteT K a xs.length).go i H ∧ ∃ N : L2.St → Hp → Prop, (∀ σ' H', N σ' H' → ∃ m', m' < m ∧ W (i + 1) m' σ' H') ∧ ∀ v H', (IteT K a xs.length).yld i H v H' → g v σ H' fun σ2 H2 => tb { D with nx := N, ct := N, bk := D.nx } σ2 H2) := by
  refine ⟨fun i m σ H => m = xs.length - i ∧ i ≤ xs.length ∧ Pv i σ H, ⟨xs.length, rfl, Nat.zero_le _, h0⟩, ?_⟩
  rintro i m σ H ⟨rfl, hi, p⟩
  have qx := hq i σ H p
  by_cases hlt : i < xs.length
  · refine .inr ⟨⟨xs, xs[i], qx, List.getElem?_eq_getElem hlt, rfl⟩, Pv (i + 1), fun σ' H' p' => ⟨xs.length - (i + 1), by omega, rfl, hlt, p'⟩, fun v H' y => ?_⟩
    obtain ⟨T, x, rfl, nT, rfl, f⟩ := y
    exact hs i x T σ H (f xs qx) p nT
  · have e : i = xs.length := by omega
    subst e
    exact .inl ⟨⟨xs, qx, rfl, Nat.le_refl _⟩, hd σ H p⟩
/-- [.. for i, x in enumerate(t)], pure elements -/
theorem lc_enumTF {K : PySem.W.Frag} {a : Addr} {xs : List V} {g : TG} {tt : TT} {te : TE} {vs : List Nat} {σ : L2.St} {H1 : Hp} {Qd : Addr → Hp → Prop} (hl : SqT K H1 a xs) (f : Nat → V → Option V) (hn : xs.length ≤ 100000)
    (hs : ∀ (i : Nat) x T H, xs[i]? = some x → Same H1 H → H T = some (.tup [.int (i : Int), x]) → ∀ (R : V → Hp → Prop) (N : Hp → Prop), (∀ v H', f i x = some v → Same H H' → R v H') → (∀ H', f i x = none → Same H H' → N H') →
      g (.ref T) (wipe σ vs) H fun σ2 H2 => wipe σ2 vs = wipe σ vs ∧ tt σ2 H2 fun b H3 => if b = true then te σ2 H3 R else N H3)
    (hd : ∀ D H', Same H1 H' → H' D = some (.lst (xs.zipIdx.filterMap fun p => f p.2 p.1)) → H1 D = none → Qd D H') :
    ∀ D, H1 D = none → ∃ W : Nat → Nat → Hp → Prop, (∃ m, W 0 m (upd H1 D (.lst []))) ∧ ∀ i m H, W i m H →
      ((IteT K a xs.length).stop i H ∧ Qd D H) ∨ ((IteT K a xs.length).go i H ∧ ∃ Nx : Hp → Prop, (∀ H', Nx H' → ∃ m', m' < m ∧ W (i + 1) m' H') ∧ ∀ x H', (IteT K a xs.length).yld i H x H' → g x (wipe σ vs) H' fun σ2 H2 => wipe σ2 vs = wipe σ vs ∧ tt σ2 H2 fun b H3 =>
        if b = true then te σ2 H3 fun y H4 => ∃ acc, H4 D = some (.lst acc) ∧ acc.length < sizeLine ∧ Nx (upd H4 D (.lst (acc ++ [y]))) else Nx H3) := by
  intro D nD
  refine ⟨fun i m H => m = xs.length - i ∧ i ≤ xs.length ∧ Same H1 H ∧ H D = some (.lst ((xs.zipIdx.take i).filterMap fun p => f p.2 p.1)), ⟨xs.length, rfl, Nat.zero_le _, same_new nD, upd_same⟩, ?_⟩
  rintro i m H ⟨rfl, hi, sm, hD⟩
  have qx := sT sm hl
  by_cases hlt : i < xs.length
  · refine .inr ⟨⟨xs, xs[i], qx, List.getElem?_eq_getElem hlt, rfl⟩, fun H => i + 1 ≤ xs.length ∧ Same H1 H ∧ H D = some (.lst ((xs.zipIdx.take (i + 1)).filterMap fun p => f p.2 p.1)), fun H' p' => ⟨xs.length - (i + 1), by omega, rfl, p'.1, p'.2.1, p'.2.2⟩, fun v H' y => ?_⟩
    obtain ⟨T, x, rfl, nT, rfl, fx⟩ := y
    have hx := fx xs qx
    have hz : xs.zipIdx[i]? = some (x, i) := by
      rw [List.getElem?_zipIdx, hx]
      simp
    have sT' : Same H (upd H T (.tup [.int (i : Int), x])) := same_new nT
    refine hs i x T _ hx (sm.trans sT') upd_same _ _ (fun v H' e s => ?_) (fun H' e s => ?_)
    · refine ⟨_, s _ _ (sT' _ _ hD), szlt ?_, hlt, fun b o hb => ?_, ?_⟩
      · have := List.length_filterMap_le (fun p : V × Nat => f p.2 p.1) (xs.zipIdx.take i)
        rw [List.length_take, List.length_zipIdx] at this
        omega
      · rw [upd_ne (ne_of_none hb nD)]
        exact s _ _ (sT' _ _ (sm _ _ hb))
      · rw [upd_same, take_snoc _ hz]
        show some (HO.lst (_ ++ [v])) = some (HO.lst (_ ++ (f i x).toList))
        rw [e]
        rfl
    · refine ⟨hlt, sm.trans (sT'.trans s), ?_⟩
      rw [take_snoc _ hz]
      show H' D = some (HO.lst (_ ++ (f i x).toList))
      rw [e, s _ _ (sT' _ _ hD), Option.toList, List.append_nil]
  · have e : i = xs.length := by omega
    subst e
    refine .inl ⟨⟨xs, qx, rfl, Nat.le_refl _⟩, hd D H sm ?_ nD⟩
    rw [hD, ← List.length_zipIdx (l := xs), List.take_length]
end TB
namespace TB
open PySem PySem.Spec PyProof.Rows L2
/-! ### values of any kind: the kind of a value -/
def kinds : List String := ["NoneType", "bool", "int", "str", "list", "tuple", "dict"]
def Knd (K : PySem.W.Frag) (H : Hp) (v : V) (T : String) : Prop := TyX K H v (.type T) ∧ T ∈ kinds
def isK (T c : String) : Bool := T == c || (T == "bool" && c == "int")
theorem kitB_all : (kinds.all fun T => ["int", "bool", "str", "list", "tuple", "dict"].all fun c => kitB T c == some (isK T c)) = true := by decide +kernel
theorem kit_all {K : PySem.W.Frag} {T c : String} (h : T ∈ kinds) (hc : c ∈ ["int", "bool", "str", "list", "tuple", "dict"]) : PySem.W.kitOne K (.type T) (.type c) = some (isK T c) :=
  kit_ty (beq_iff_eq.mp (List.all_eq_true.mp (List.all_eq_true.mp kitB_all T h) c hc))
section
variable {K : PySem.W.Frag} {H H' : Hp} {a : Addr} {v : V} {T : String}
theorem Knd.n : Knd K H .non "NoneType" := ⟨.base .non, by decide⟩
theorem Knd.b (b : Bool) : Knd K H (.bl b) "bool" := ⟨.base (.bl b), by decide⟩
theorem Knd.i (i : Int) : Knd K H (.int i) "int" := ⟨.base (.int i), by decide⟩
theorem Knd.s (x : Str) : Knd K H (.str x) "str" := ⟨.base (.str x), by decide⟩
theorem Knd.l {xs : List V} (h : SqL K H a xs) : Knd K H (.ref a) "list" := by
  refine ⟨?_, by decide⟩
  rcases h with (h | ⟨o, h⟩) | ⟨o, its, n, h1, h2, _⟩
  · exact .base (.lst h)
  · exact .base (.frz h)
  · exact .kList h1 h2
theorem Knd.t {xs : List V} (h : SqT K H a xs) : Knd K H (.ref a) "tuple" := by
  refine ⟨?_, by decide⟩
  rcases h with (h | ⟨o, h⟩) | ⟨o, its, n, h1, h2, _⟩
  · exact .base (.tup h)
  · exact .fTuple h
  · exact .kTuple h1 h2
theorem Knd.d {kvs : List (Key × V)} (h : H a = some (.dK kvs)) : Knd K H (.ref a) "dict" := ⟨.base (.dK h), by decide⟩
/-- what is of the kind int is an int -/
def isIntV : V → Bool
  | .int _ => true
  | _ => false
theorem Knd.int_iff (h : Knd K H v T) : (T == "int") = isIntV v := by
  obtain ⟨h, m⟩ := h
  generalize e : Value.type T = t at h
  cases h with
  | base h =>
    cases h <;> first
      | (cases e; rfl)
      | (injection e with e; subst e; rfl)
      | exact nomatch e
  | byt b => injection e with e; subst e; rfl
  | set h => injection e with e; subst e; rfl
  | kList h1 h2 => injection e with e; subst e; rfl
  | kTuple h1 h2 => injection e with e; subst e; rfl
  | kDict h1 h2 => injection e with e; subst e; rfl
  | fTuple h => injection e with e; subst e; rfl
  | fDict h => injection e with e; subst e; rfl
theorem Knd.same (s : Same H H') (h : Knd K H v T) : Knd K H' v T := by
  obtain ⟨h, m⟩ := h
  refine ⟨?_, m⟩
  cases h with
  | base h =>
    refine .base ?_
    cases h with
    | non => exact .non
    | bl b => exact .bl b
    | int i => exact .int i
    | str x => exact .str x
    | flt x => exact .flt x
    | lst h => exact .lst (s _ _ h)
    | frz h => exact .frz (s _ _ h)
    | tup h => exact .tup (s _ _ h)
    | dK h => exact .dK (s _ _ h)
    | dT h => exact .dT (s _ _ h)
  | byt b => exact .byt b
  | set h => exact .set (s _ _ h)
  | kList h1 h2 => exact .kList h1 h2
  | kTuple h1 h2 => exact .kTuple h1 h2
  | kDict h1 h2 => exact .kDict h1 h2
  | fTuple h => exact .fTuple (s _ _ h)
  | fDict h => exact .fDict (s _ _ h)
end
/-- isinstance(v, c), c one of the built-in kinds -/
theorem call_isiK {X : Cx} : CallR X (.builtin "isinstance") (fun xs H Q => ∃ v T c, xs = [v, .ty c] ∧ Knd X.K H v T ∧ c ∈ ["int", "bool", "str", "list", "tuple", "dict"] ∧ Q (.bl (isK T c)) H) :=
  CallR_imp call_isi fun xs H Q ⟨v, T, c, e, k, hc, q⟩ => ⟨v, .ty c, .type T, .type c, isK T c, e, .ty c, k.1, kit_all k.2 hc, q⟩
/-- a whole number from lo to hi -/
def withinV (v : V) (lo hi : Int) : Bool := match v with
  | .int i => decide (lo ≤ i) && decide (i ≤ hi)
  | _ => false
theorem call_reprB {X : Cx} : CallR X (.builtin "repr") (fun xs H Q => ∃ b : Bool, xs = [.bl b] ∧ Q (.str (if b then "True" else "False")) H) := by
  intro pins s σ H xs us Q I r h
  obtain ⟨b, rfl, q⟩ := h
  obtain ⟨u, rfl, rx⟩ := vals1 r
  cases (show u = Value.bool b from rx)
  exact PySem.P.repr_of_bool ⟨.str (if b then "True" else "False"), H, I.tok _, ⟨_, rfl⟩, q⟩
/-! ### data that can be compared -/
structure OkD (n : Nat) (d : PyData) : Prop where
  c : d.canLay0 = true
  d : d.depth ≤ n
theorem OkD.int {n : Nat} (i : Int) : OkD n (.int i) := ⟨rfl, Nat.zero_le _⟩
theorem OkD.bool {n : Nat} (i : Bool) : OkD n (.bool i) := ⟨rfl, Nat.zero_le _⟩
theorem OkD.none {n : Nat} : OkD n .none := ⟨rfl, Nat.zero_le _⟩
theorem OkD.all {n : Nat} : ∀ {ds : List PyData}, (∀ x ∈ ds, OkD n x) → PyData.canLayAll0 ds = true ∧ PyData.depthAll ds ≤ n
  | [], _ => ⟨rfl, Nat.zero_le _⟩
  | x :: r, h => by
    have h1 := h x (List.mem_cons_self ..)
    obtain ⟨a, b⟩ := OkD.all (ds := r) fun y hy => h y (List.mem_cons_of_mem _ hy)
    refine ⟨?_, ?_⟩
    · show (PyData.canLay0 x && PyData.canLayAll0 r) = true
      rw [h1.c, a]
      rfl
    · show max (PyData.depth x) (PyData.depthAll r) ≤ n
      have := h1.d
      omega
theorem OkD.tup {n : Nat} {ds : List PyData} (h : ∀ x ∈ ds, OkD n x) : OkD (n + 1) (.tuple ds) := ⟨(OkD.all h).1, Nat.succ_le_succ (OkD.all h).2⟩
theorem OkD.list {n : Nat} {ds : List PyData} (h : ∀ x ∈ ds, OkD n x) : OkD (n + 1) (.list ds) := ⟨(OkD.all h).1, Nat.succ_le_succ (OkD.all h).2⟩
theorem OkD.sh {n : Nat} {d : PyData} (h : OkD n d) (hn : n ≤ 64 := by decide) : SeqAt.shaped d = true := by
  unfold SeqAt.shaped
  have := h.d
  rw [h.c, decide_eq_true (by omega)]
  rfl
theorem OkD.pair (x y : Int) : OkD 1 (.tuple [.int x, .int y]) := .tup fun z hz => by
  simp only [List.mem_cons, List.not_mem_nil, or_false] at hz
  rcases hz with rfl | rfl
  · exact .int _
  · exact .int _
/-! ### t * k for any k up to 1000 -/
theorem tuple_mul1 (l : Addr) (items : Array Value) (n : Nat) (dd : Option Addr) (sl : Array (Option Value)) (u : Tok) :
    Meets (Builtin.«tuple.__mul__» ⟨[.ref l, .int 1 u], []⟩) (fun _ R z => z.heap.get? l = some { cls := .type "tuple", dict := dd, data := .seq items n, slots := sl } ∧ R (.ok (.ret (.ref l))) z) :=
  .of_wp fun prog w A R z hz => by
    obtain ⟨hp, g, d, tk, os⟩ := z
    obtain ⟨hl, h⟩ := hz
    have f1 := AutoSeq1.idx_int
    wp_walk using wpAny_loadPart' hl
    exact ⟨_, rfl, h⟩
theorem tuple_mul0 (l : Addr) (items : Array Value) (n : Nat) (dd : Option Addr) (sl : Array (Option Value)) (u : Tok) (hi : items.isEmpty = false) :
    Meets (Builtin.«tuple.__mul__» ⟨[.ref l, .int 0 u], []⟩) (fun _ R z => z.heap.get? l = some { cls := .type "tuple", dict := dd, data := .seq items n, slots := sl } ∧
      R (.ok (.ret (.ref z.heap.objs.size))) { z with heap := z.heap.push { cls := .type "tuple", data := .seq #[] } }) :=
  .of_wp fun prog w A R z hz => by
    obtain ⟨hp, g, d, tk, os⟩ := z
    obtain ⟨hl, h⟩ := hz
    have f1 := AutoSeq1.idx_int
    wp_walk using wpAny_loadPart' hl
    exact ⟨_, rfl, h⟩
theorem op_repU {X : Cx} : OpR X (binaryOp .Mult) (fun x y H Q => ∃ l k xs, x = .ref l ∧ y = .int k ∧ SqT X.K H l xs ∧ xs ≠ [] ∧ 0 ≤ k ∧ k ≤ 1000 ∧ xs.length ≤ 1000 ∧ NewT X.K (List.replicate k.toNat xs).flatten H Q) := by
  intro pins s σ H x y v u Q I rx ry h
  obtain ⟨l, k, xs, e1, e2, hT, hne, h1, h2, hz, q⟩ := h
  by_cases hk : 2 ≤ k
  · exact op_repT pins s σ H x y v u Q I rx ry ⟨l, k, xs, e1, e2, hT, hne, hk, h2, hz, newT q⟩
  subst e1 e2
  cases rx
  obtain ⟨t, rfl⟩ := ry
  obtain ⟨its, r, ⟨⟨cls, dd, data, sl⟩, ho, hc, n, hd⟩, hs⟩ := I.tuple hT
  simp only at hc hd
  subst hc hd
  have hle : its.length = xs.length := r.length.symm
  have hi : its.toArray.isEmpty = false := by
    cases its with
    | nil => exact absurd (List.eq_nil_of_length_eq_zero hle.symm) hne
    | cons a b => rfl
  by_cases h0 : k = 0
  · subst h0
    refine wpAny_binaryOp_repeat_ref (T := "tuple") (U := "int") (by decide) ⟨_, ho, rfl⟩ (fun s' => typeIs_int s' 0 t) noFill_tuple_mul F.fills_int_mul F.slot_int_rmul repeat_tuple F.slot_int_index.lookup
      (call_meets F.slot_int_rmul (typeIs_int s 0 t) F.entry_int_rmul (F.args_int_rmul_2 _ _) (int_rmul_tuple 0 t l its.toArray n dd sl)
        ⟨ho, rfl, ⟨_, ho, rfl⟩, call_meets F.slot_tuple_mul ⟨_, ho, rfl⟩ F.entry_tuple_mul (F.args_tuple_mul_2 _ _) (tuple_mul0 l its.toArray n dd sl t hi) ⟨ho, ?_⟩⟩)
    have new : ObjOk X.prog X.w (upd H s.heap.objs.size (.tup [])) (s.heap.push { cls := .type "tuple", data := .seq #[] }) s.heap.objs.size (.tup []) := ⟨Nat.zero_le _, [], .nil, IsTup.new _ _⟩
    exact ⟨.ref s.heap.objs.size, _, I.laid (t' := s.toks) (o := .tup []) (fun b ob z => Heap.get?_push_of_some _ z) (Nat.le_refl _) new, rfl, q _ _ (same_new (I.hok.fresh (Nat.le_refl _))) (SqT.of upd_same)⟩
  · have e : k = 1 := by omega
    subst e
    refine wpAny_binaryOp_repeat_ref (T := "tuple") (U := "int") (by decide) ⟨_, ho, rfl⟩ (fun s' => typeIs_int s' 1 t) noFill_tuple_mul F.fills_int_mul F.slot_int_rmul repeat_tuple F.slot_int_index.lookup
      (call_meets F.slot_int_rmul (typeIs_int s 1 t) F.entry_int_rmul (F.args_int_rmul_2 _ _) (int_rmul_tuple 1 t l its.toArray n dd sl)
        ⟨ho, rfl, ⟨_, ho, rfl⟩, call_meets F.slot_tuple_mul ⟨_, ho, rfl⟩ F.entry_tuple_mul (F.args_tuple_mul_2 _ _) (tuple_mul1 l its.toArray n dd sl t) ⟨ho, ?_⟩⟩)
    have e1 : (List.replicate (1 : Int).toNat xs).flatten = xs := by
      show (List.replicate 1 xs).flatten = xs
      simp
    exact ⟨.ref l, H, I.tok _, rfl, q l H (Same.refl H) (by rw [e1]; exact hT)⟩
end TB
namespace TB
open PySem PySem.Spec PyProof.Rows L2
/-! ### a statement, then what it leads to told by one sentence (so that ways that part meet again) -/
def jS (t : TS) : TS := fun D σ H => ∃ Pn : L2.St → Hp → Prop, t { D with nx := Pn } σ H ∧ ∀ σ' H', Pn σ' H' → D.nx σ' H'
theorem ps_join {X : Cx} {st : Stmt} {t : TS} (h : PS X st t) : PS X st (jS t) := ⟨fun pins s σ H D I hw => by
  obtain ⟨Pn, h1, h2⟩ := hw
  refine thn (h.run pins s σ H _ I h1) fun f s' hf => ?_
  cases f with
  | next =>
    obtain ⟨σ', H', I', q⟩ := hf
    exact ⟨σ', H', I', h2 _ _ q⟩
  | ret v => exact hf
  | brk => exact hf
  | cont => exact hf⟩
/-! ### a module's constant that is a written tuple -/
structure ConT (K : PySem.W.Frag) (mg : Str → Option Value) (x : Str) (xs : List V) where
  a : Addr
  g : mg x = some (.ref a)
  t : ∀ H, SqT K H a xs
def conT {K : PySem.W.Frag} {h : Heap} {mg : Str → Option Value} {x : Str} {xs : List V} (X : K.In h) (G : h.Ns mainGlobals mg) {a : Addr} {od : Option Addr} {its : Array Value} {n : Nat} {sl : Array (Option Value)}
    (v : PySem.W.nsIn K mainGlobals x = some (some (.ref a))) (l : K.lookup a = some ⟨.type "tuple", od, .seq its n, sl⟩) (hz : its.size ≤ 1000) (r : Vals xs its.toList) : ConT K mg x xs :=
  ⟨a, PySem.W.mg_of X G v, fun H => .inr ⟨_, its, n, l, rfl, rfl, Nat.le_trans hz (by decide), r⟩⟩
/-! ### the same rules, the facts named apart: for use inside comprehensions -/
section
variable {X : Cx} {K : PySem.W.Frag}
theorem pe_tupAK (hK : X.K = K) {es : List Expr} {t : TA} {x1} {pos : Pos} (h : PA X es t) : PE X (.Tuple es x1 pos) (tTupA K t) := by
  subst hK
  exact pe_tupA h
theorem op_in_seqK (hK : X.K = K) : OpR X (compareOp .In) (rIn K false) := by
  subst hK
  exact op_in_seq
theorem op_notIn_seqK (hK : X.K = K) : OpR X (compareOp .NotIn) (rIn K true) := by
  subst hK
  exact op_notIn_seq
theorem sl_listAK (hK : X.K = K) : L2.SlR X (fun x lo hi H Q => ∃ a xs, x = .ref a ∧ SqL K H a xs ∧ NewL (cutV xs lo hi) H Q) := by
  subst hK
  exact sl_listA
theorem sl_tupleAK (hK : X.K = K) : L2.SlR X (fun x lo hi H Q => ∃ a xs, x = .ref a ∧ SqT K H a xs ∧ NewT K (cutV xs lo hi) H Q) := by
  subst hK
  exact sl_tupleA
theorem call_tupleAK (hK : X.K = K) : CallR X (.type "tuple") (fun xs H Q => ∃ p ys, xs = [.ref p] ∧ (SqL K H p ys ∨ SqT K H p ys) ∧ NewT K ys H Q) := by
  subst hK
  exact call_tupleA
theorem call_listAK (hK : X.K = K) : CallR X (.type "list") (fun xs H Q => ∃ p ys, xs = [.ref p] ∧ (SqL K H p ys ∨ SqT K H p ys) ∧ NewL ys H Q) := by
  subst hK
  exact call_listA
theorem call_len_seqK (hK : X.K = K) : CallR X (.builtin "len") (fun xs H Q => ∃ p ys, xs = [.ref p] ∧ (SqL K H p ys ∨ SqT K H p ys) ∧ Q (.int ys.length) H) := by
  subst hK
  exact call_len_seq
theorem call_isiKK (hK : X.K = K) : CallR X (.builtin "isinstance") (fun xs H Q => ∃ v T c, xs = [v, .ty c] ∧ Knd K H v T ∧ c ∈ ["int", "bool", "str", "list", "tuple", "dict"] ∧ Q (.bl (isK T c)) H) := by
  subst hK
  exact call_isiK
theorem op_catUK (hK : X.K = K) : OpR X (binaryOp .Add) (fun x y H Q => ∃ a b xs ys, x = .ref a ∧ y = .ref b ∧ SqT K H a xs ∧ SqT K H b ys ∧ xs.length + ys.length ≤ sizeLine ∧ NewT K (xs ++ ys) H Q) := by
  subst hK
  exact op_catU
theorem op_repUK (hK : X.K = K) : OpR X (binaryOp .Mult) (fun x y H Q => ∃ l k xs, x = .ref l ∧ y = .int k ∧ SqT K H l xs ∧ xs ≠ [] ∧ 0 ≤ k ∧ k ≤ 1000 ∧ xs.length ≤ 1000 ∧ NewT K (List.replicate k.toNat xs).flatten H Q) := by
  subst hK
  exact op_repU
end
end TB
namespace TB
open PySem PySem.Spec PyProof.Rows L2
/-! ### rows of pairs of ints, each its own tuple -/
def pairV (p : Int × Int) : List V := [.int p.1, .int p.2]
structure PairsL (K : PySem.W.Frag) (H : Hp) (rs : List V) (ps : List (Int × Int)) : Prop where
  len : rs.length = ps.length
  at' : ∀ (i : Nat) r p, rs[i]? = some r → ps[i]? = some p → ∃ a, r = .ref a ∧ SqT K H a (pairV p)
section
variable {K : PySem.W.Frag} {H H' : Hp} {rs : List V} {ps : List (Int × Int)}
theorem PairsL.nil : PairsL K H [] [] := ⟨rfl, fun i r p e _ => nomatch e⟩
theorem PairsL.get (h : PairsL K H rs ps) {i : Nat} {r : V} (e : rs[i]? = some r) : ∃ p a, ps[i]? = some p ∧ r = .ref a ∧ SqT K H a (pairV p) := by
  have hi := (List.getElem?_eq_some_iff.mp e).1
  rw [h.len] at hi
  obtain ⟨a, e1, e2⟩ := h.at' i r ps[i] e (List.getElem?_eq_getElem hi)
  exact ⟨_, a, List.getElem?_eq_getElem hi, e1, e2⟩
theorem PairsL.get' (h : PairsL K H rs ps) {i : Nat} {p : Int × Int} (e : ps[i]? = some p) : ∃ a, rs[i]? = some (.ref a) ∧ SqT K H a (pairV p) := by
  have hi := (List.getElem?_eq_some_iff.mp e).1
  rw [← h.len] at hi
  obtain ⟨a, e1, e2⟩ := h.at' i rs[i] p (List.getElem?_eq_getElem hi) e
  exact ⟨a, by rw [List.getElem?_eq_getElem hi, e1], e2⟩
theorem PairsL.map (f : ∀ a xs, SqT K H a xs → SqT K H' a xs) (h : PairsL K H rs ps) : PairsL K H' rs ps := ⟨h.len, fun i r p e1 e2 => let ⟨a, e, t⟩ := h.at' i r p e1 e2; ⟨a, e, f _ _ t⟩⟩
theorem PairsL.same (s : Same H H') (h : PairsL K H rs ps) : PairsL K H' rs ps := h.map fun _ _ t => sT s t
theorem PairsL.snoc {a : Addr} {p : Int × Int} (h : PairsL K H rs ps) (t : SqT K H a (pairV p)) : PairsL K H (rs ++ [.ref a]) (ps ++ [p]) := by
  refine ⟨by simp [h.len], fun i r q e1 e2 => ?_⟩
  by_cases hi : i < rs.length
  · rw [List.getElem?_append_left hi] at e1
    rw [List.getElem?_append_left (by rw [← h.len]; exact hi)] at e2
    exact h.at' i r q e1 e2
  · rw [List.getElem?_append_right (by omega)] at e1
    rw [List.getElem?_append_right (by rw [← h.len]; omega), ← h.len] at e2
    cases e : i - rs.length with
    | zero =>
      rw [e] at e1 e2
      cases e1
      cases e2
      exact ⟨a, rfl, t⟩
    | succ j =>
      rw [e] at e1
      cases e1
theorem PairsL.take (h : PairsL K H rs ps) (n : Nat) : PairsL K H (rs.take n) (ps.take n) := by
  refine ⟨by rw [List.length_take, List.length_take, h.len], fun i r p e1 e2 => ?_⟩
  rw [List.getElem?_take] at e1 e2
  split at e1
  · rename_i hi
    rw [if_pos hi] at e2
    exact h.at' i r p e1 e2
  · cases e1
theorem PairsL.drop (h : PairsL K H rs ps) (n : Nat) : PairsL K H (rs.drop n) (ps.drop n) := by
  refine ⟨by rw [List.length_drop, List.length_drop, h.len], fun i r p e1 e2 => ?_⟩
  rw [List.getElem?_drop] at e1 e2
  exact h.at' _ r p e1 e2
theorem PairsL.set (h : PairsL K H rs ps) {i : Nat} {a : Addr} {p : Int × Int} (t : SqT K H a (pairV p)) : PairsL K H (rs.set i (.ref a)) (ps.set i p) := by
  refine ⟨by rw [List.length_set, List.length_set, h.len], fun j r q e1 e2 => ?_⟩
  rw [List.getElem?_set] at e1 e2
  by_cases hj : i = j
  · rw [if_pos hj] at e1 e2
    split at e1
    · cases e1
      split at e2
      · cases e2
        exact ⟨a, rfl, t⟩
      · cases e2
    · cases e1
  · rw [if_neg hj] at e1 e2
    exact h.at' j r q e1 e2
end
def pairD (p : Int × Int) : PyData := .tuple [.int p.1, .int p.2]
theorem PairsL.dp {K : PySem.W.Frag} {H : Hp} : ∀ {rs : List V} {ps : List (Int × Int)}, PairsL K H rs ps → DpAll K H rs (ps.map pairD)
  | [], [], _ => .nil
  | [], _ :: _, h => by cases h.len
  | _ :: _, [], h => by cases h.len
  | r :: rs, p :: ps, h => by
    obtain ⟨a, rfl, t⟩ := h.at' 0 r p rfl rfl
    exact .cons (dp2 t) (PairsL.dp ⟨Nat.succ.inj h.len, fun i r p e1 e2 => h.at' (i + 1) r p e1 e2⟩)
theorem pairD_okT (ps : List (Int × Int)) : OkD 2 (.tuple (ps.map pairD)) := .tup fun d hd => by
  obtain ⟨p, _, rfl⟩ := List.mem_map.mp hd
  exact .pair _ _
theorem pairD_okL (ps : List (Int × Int)) : OkD 2 (.list (ps.map pairD)) := .list fun d hd => by
  obtain ⟨p, _, rfl⟩ := List.mem_map.mp hd
  exact .pair _ _
/-- left != []: is there any -/
theorem nilD {α : Type} (f : α → PyData) (ps : List α) : PyData.eqv (.list (ps.map f)) (.list []) = ps.isEmpty := by
  cases ps <;> rfl
theorem PairsL.eraseIdx {K : PySem.W.Frag} {H : Hp} {rs : List V} {ps : List (Int × Int)} (h : PairsL K H rs ps) (i : Nat) : PairsL K H (rs.eraseIdx i) (ps.eraseIdx i) := by
  have hl := h.len
  refine ⟨by rw [List.length_eraseIdx, List.length_eraseIdx, hl], fun j r p e1 e2 => ?_⟩
  rw [List.getElem?_eraseIdx] at e1 e2
  by_cases hj : j < i
  · rw [if_pos hj] at e1 e2
    exact h.at' j r p e1 e2
  · rw [if_neg hj] at e1 e2
    exact h.at' (j + 1) r p e1 e2
theorem take_succ_of {α : Type} {xs : List α} {i : Nat} {x : α} (h : xs[i]? = some x) : xs.take (i + 1) = xs.take i ++ [x] := by
  rw [List.take_add_one, h]
  rfl
theorem filterMap_some {α β : Type} (f : α → β) (xs : List α) : xs.filterMap (fun x => some (f x)) = xs.map f := by
  induction xs with
  | nil => rfl
  | cons x r ih => simp [ih]
/-- what comes of each place -/
theorem range_filterMap {α β : Type} (f : α → Option β) : ∀ xs : List α, (List.range xs.length).filterMap (fun i => xs[i]?.bind f) = xs.filterMap f := by
  intro xs
  suffices h : ∀ n, n ≤ xs.length → (List.range n).filterMap (fun i => xs[i]?.bind f) = (xs.take n).filterMap f by
    rw [h _ (Nat.le_refl _), List.take_length]
  intro n
  induction n with
  | zero => intro _; simp
  | succ n ih =>
    intro hn
    have e : xs[n]? = some xs[n] := List.getElem?_eq_getElem (by omega)
    rw [range_snoc, ih (by omega), take_succ_of e, List.filterMap_append, e]
    congr 1
/-- [.. for .. in a tuple if ..]: what comes of each place told -/
theorem lc_tupO {K : PySem.W.Frag} {a : Addr} {xs : List V} {g : TG} {tt : TT} {te : TE} {vs : List Nat} {σ : L2.St} {H1 : Hp} {Qd : Addr → Hp → Prop} (hl : SqT K H1 a xs) (f : Nat → Option V) (hn : xs.length ≤ 100000)
    (hs : ∀ (i : Nat) x H, xs[i]? = some x → Same H1 H → ∀ (R : V → Hp → Prop) (N : Hp → Prop), (∀ v H', f i = some v → Same H H' → R v H') → (∀ H', f i = none → Same H H' → N H') →
      g x (wipe σ vs) H fun σ2 H2 => wipe σ2 vs = wipe σ vs ∧ tt σ2 H2 fun b H3 => if b = true then te σ2 H3 R else N H3)
    (hd : ∀ D H', Same H1 H' → H' D = some (.lst ((List.range xs.length).filterMap f)) → H1 D = none → Qd D H') :
    ∀ D, H1 D = none → ∃ W : Nat → Nat → Hp → Prop, (∃ m, W 0 m (upd H1 D (.lst []))) ∧ ∀ i m H, W i m H →
      ((Itt K a).stop i H ∧ Qd D H) ∨ ((Itt K a).go i H ∧ ∃ Nx : Hp → Prop, (∀ H', Nx H' → ∃ m', m' < m ∧ W (i + 1) m' H') ∧ ∀ x H', (Itt K a).yld i H x H' → g x (wipe σ vs) H' fun σ2 H2 => wipe σ2 vs = wipe σ vs ∧ tt σ2 H2 fun b H3 =>
        if b = true then te σ2 H3 fun y H4 => ∃ acc, H4 D = some (.lst acc) ∧ acc.length < sizeLine ∧ Nx (upd H4 D (.lst (acc ++ [y]))) else Nx H3) := fun D nD =>
  lc_tup (K := K) (a := a) (xs := xs) (fun i H => Same H1 H ∧ i ≤ xs.length ∧ H D = some (.lst ((List.range i).filterMap f))) ⟨same_new nD, Nat.zero_le _, upd_same⟩ (fun i H _ ⟨sm, _⟩ => sT sm hl) (fun i x H hx ⟨sm, hi, hD⟩ => by
    have hi' := (List.getElem?_eq_some_iff.mp hx).1
    refine hs i x H hx sm _ _ (fun v H' e s => ?_) (fun H' e s => ?_)
    · refine ⟨_, s _ _ hD, szlt ?_, fun b o hb => ?_, hi', ?_⟩
      · have := List.length_filterMap_le f (List.range i)
        rw [List.length_range] at this
        omega
      · rw [upd_ne (ne_of_none hb nD)]
        exact s _ _ (sm _ _ hb)
      · rw [upd_same, range_snoc, e]
        rfl
    · refine ⟨sm.trans s, hi', ?_⟩
      rw [range_snoc, e, s _ _ hD, Option.toList, List.append_nil]) fun H ⟨sm, _, hD⟩ => hd D H sm hD nD
/-- [.. for .. in range(n)] of new things: what each is stands -/
theorem lc_rangeR {n : Nat} {g : TG} {tt : TT} {te : TE} {vs : List Nat} {σ : L2.St} {H1 : Hp} {Qd : Addr → Hp → Prop} (R : Nat → V → Hp → Prop) (st : ∀ i v H H', Same H H' → R i v H → R i v H')
    (sm : ∀ i v H D ys zs, H D = some (.lst ys) → R i v H → R i v (upd H D (.lst zs))) (hn : n ≤ 100000)
    (hs : ∀ i H, i < n → Same H1 H → ∀ (Rk : V → Hp → Prop) (N : Hp → Prop), (∀ v H', Same H H' → R i v H' → Rk v H') →
      g (.int (i : Int)) (wipe σ vs) H fun σ2 H2 => wipe σ2 vs = wipe σ vs ∧ tt σ2 H2 fun b H3 => if b = true then te σ2 H3 Rk else N H3)
    (hd : ∀ D H' xs, Same H1 H' → H' D = some (.lst xs) → xs.length = n → (∀ i v, xs[i]? = some v → R i v H') → H1 D = none → Qd D H') :
    ∀ D, H1 D = none → ∃ W : Nat → Nat → Hp → Prop, (∃ m, W 0 m (upd H1 D (.lst []))) ∧ ∀ i m H, W i m H →
      ((Itr 0 n).stop i H ∧ Qd D H) ∨ ((Itr 0 n).go i H ∧ ∃ Nx : Hp → Prop, (∀ H', Nx H' → ∃ m', m' < m ∧ W (i + 1) m' H') ∧ ∀ x H', (Itr 0 n).yld i H x H' → g x (wipe σ vs) H' fun σ2 H2 => wipe σ2 vs = wipe σ vs ∧ tt σ2 H2 fun b H3 =>
        if b = true then te σ2 H3 fun y H4 => ∃ acc, H4 D = some (.lst acc) ∧ acc.length < sizeLine ∧ Nx (upd H4 D (.lst (acc ++ [y]))) else Nx H3) := fun D nD =>
  lc_rangeN (n := n) (fun i H => Same H1 H ∧ ∃ xs, H D = some (.lst xs) ∧ xs.length = i ∧ ∀ j v, xs[j]? = some v → R j v H) ⟨same_new nD, [], upd_same, rfl, fun j v e => nomatch e⟩ (fun i H hi ⟨s1, xs, hD, hl, hR⟩ => by
    refine hs i H hi s1 _ _ (fun v H' s2 r => ?_)
    · refine ⟨xs, s2 _ _ hD, szlt (by omega), fun b o hb => ?_, xs ++ [v], upd_same, by simp [hl], fun j u e => ?_⟩
      · rw [upd_ne (ne_of_none hb nD)]
        exact s2 _ _ (s1 _ _ hb)
      · by_cases hj : j < xs.length
        · rw [List.getElem?_append_left hj] at e
          exact sm _ _ _ _ _ _ (s2 _ _ hD) (st _ _ _ _ s2 (hR j u e))
        · rw [List.getElem?_append_right (by omega)] at e
          have hj' : j = i := by
            have := (List.getElem?_eq_some_iff.mp e).1
            simp at this
            omega
          subst hj'
          rw [show j - xs.length = 0 by omega] at e
          cases e
          exact sm _ _ _ _ _ _ (s2 _ _ hD) r) fun H ⟨s1, xs, hD, hl, hR⟩ => hd D H xs s1 hD hl hR nD
end TB
namespace TB
open PySem PySem.Spec PyProof.Rows L2
/-! ### only what stands in lists may have changed -/
structure LMut (H H' : Hp) : Prop where
  k : ∀ b o, H b = some o → (∀ xs, o ≠ .lst xs) → H' b = some o
  l : ∀ b xs, H b = some (.lst xs) → ∃ ys, H' b = some (.lst ys)
theorem LMut.refl (H : Hp) : LMut H H := ⟨fun _ _ e _ => e, fun _ xs e => ⟨xs, e⟩⟩
theorem LMut.trans {H H1 H2 : Hp} (a : LMut H H1) (b : LMut H1 H2) : LMut H H2 := ⟨fun c o e n => b.k c o (a.k c o e n) n, fun c xs e => let ⟨ys, e'⟩ := a.l c xs e; b.l c ys e'⟩
theorem LMut.of {H H' : Hp} (s : Same H H') : LMut H H' := ⟨fun b o e _ => s b o e, fun b xs e => ⟨xs, s _ _ e⟩⟩
theorem Ext.lm {d : Addr} {H H' : Hp} (x : Ext d H H') (hd : Dice H d) : LMut H H' := by
  obtain ⟨a1, a2, a3, e⟩ := hd
  obtain ⟨b1, b2, b3, e'⟩ := x.d
  refine ⟨fun b o eb n => x.s b o (fun z => ?_) eb, fun b xs eb => ?_⟩
  · rw [z, e] at eb
    cases eb
    exact n _ rfl
  · by_cases hb : b = d
    · rw [hb]
      exact ⟨_, e'⟩
    · exact ⟨xs, x.s b _ hb eb⟩
theorem LMut.mut {H : Hp} {l : Addr} {ys : List V} (zs : List V) (h : H l = some (.lst ys)) : LMut H (upd H l (.lst zs)) := by
  refine ⟨fun b o eb n => ?_, fun b xs eb => ?_⟩
  · have nb : b ≠ l := fun z => by
      rw [z, h] at eb
      cases eb
      exact n _ rfl
    rw [upd_ne nb]
    exact eb
  · by_cases hb : b = l
    · rw [hb]
      exact ⟨zs, upd_same⟩
    · exact ⟨xs, by rw [upd_ne hb]; exact eb⟩
section
variable {K : PySem.W.Frag} {H H' : Hp} {a : Addr} {xs : List V} {v : V} {T : String}
theorem LMut.seqT (m : LMut H H') (h : SqT K H a xs) : SqT K H' a xs := by
  rcases h with (h | ⟨o, h⟩) | h
  · exact .inl (.inl (m.k _ _ h fun ys z => by cases z))
  · exact .inl (.inr ⟨o, m.k _ _ h fun ys z => by cases z⟩)
  · exact .inr h
theorem LMut.pairs {rs : List V} {ps : List (Int × Int)} (m : LMut H H') (h : PairsL K H rs ps) : PairsL K H' rs ps := h.map fun a xs t => m.seqT t
theorem LMut.knd (m : LMut H H') (h : Knd K H v T) : Knd K H' v T := by
  obtain ⟨h, hm⟩ := h
  refine ⟨?_, hm⟩
  cases h with
  | base h =>
    cases h with
    | non => exact .base .non
    | bl b => exact .base (.bl b)
    | int i => exact .base (.int i)
    | str x => exact .base (.str x)
    | flt x => exact .base (.flt x)
    | lst h =>
      obtain ⟨ys, e⟩ := m.l _ _ h
      exact .base (.lst e)
    | frz h => exact .base (.frz (m.k _ _ h fun ys z => by cases z))
    | tup h => exact .base (.tup (m.k _ _ h fun ys z => by cases z))
    | dK h => exact .base (.dK (m.k _ _ h fun ys z => by cases z))
    | dT h => exact .base (.dT (m.k _ _ h fun ys z => by cases z))
  | byt b => exact .byt b
  | set h => exact .set (m.k _ _ h fun ys z => by cases z)
  | kList h1 h2 => exact .kList h1 h2
  | kTuple h1 h2 => exact .kTuple h1 h2
  | kDict h1 h2 => exact .kDict h1 h2
  | fTuple h => exact .fTuple (m.k _ _ h fun ys z => by cases z)
  | fDict h => exact .fDict (m.k _ _ h fun ys z => by cases z)
end
/-- [.. for .. in a tuple] of new things: what each is stands -/
theorem lc_tupR {K : PySem.W.Frag} {a : Addr} {xs : List V} {g : TG} {tt : TT} {te : TE} {vs : List Nat} {σ : L2.St} {H1 : Hp} {Qd : Addr → Hp → Prop} (hl : SqT K H1 a xs) (R : Nat → V → Hp → Prop) (st : ∀ i v H H', LMut H H' → R i v H → R i v H') (hn : xs.length ≤ 100000)
    (hs : ∀ (i : Nat) x H, xs[i]? = some x → Same H1 H → ∀ (Rk : V → Hp → Prop) (N : Hp → Prop), (∀ v H', Same H H' → R i v H' → Rk v H') →
      g x (wipe σ vs) H fun σ2 H2 => wipe σ2 vs = wipe σ vs ∧ tt σ2 H2 fun b H3 => if b = true then te σ2 H3 Rk else N H3)
    (hd : ∀ D H' ys, Same H1 H' → H' D = some (.lst ys) → ys.length = xs.length → (∀ i v, ys[i]? = some v → R i v H') → H1 D = none → Qd D H') :
    ∀ D, H1 D = none → ∃ W : Nat → Nat → Hp → Prop, (∃ m, W 0 m (upd H1 D (.lst []))) ∧ ∀ i m H, W i m H →
      ((Itt K a).stop i H ∧ Qd D H) ∨ ((Itt K a).go i H ∧ ∃ Nx : Hp → Prop, (∀ H', Nx H' → ∃ m', m' < m ∧ W (i + 1) m' H') ∧ ∀ x H', (Itt K a).yld i H x H' → g x (wipe σ vs) H' fun σ2 H2 => wipe σ2 vs = wipe σ vs ∧ tt σ2 H2 fun b H3 =>
        if b = true then te σ2 H3 fun y H4 => ∃ acc, H4 D = some (.lst acc) ∧ acc.length < sizeLine ∧ Nx (upd H4 D (.lst (acc ++ [y]))) else Nx H3) := fun D nD =>
  lc_tup (K := K) (a := a) (xs := xs) (fun i H => Same H1 H ∧ ∃ ys, H D = some (.lst ys) ∧ ys.length = i ∧ ∀ j v, ys[j]? = some v → R j v H) ⟨same_new nD, [], upd_same, rfl, fun j v e => nomatch e⟩ (fun i H _ ⟨sm, _⟩ => sT sm hl) (fun i x H hx ⟨s1, ys, hD, hl, hR⟩ => by
    have hi := (List.getElem?_eq_some_iff.mp hx).1
    refine hs i x H hx s1 _ _ (fun v H' s2 r => ?_)
    refine ⟨ys, s2 _ _ hD, szlt (by omega), fun b o hb => ?_, ys ++ [v], upd_same, by simp [hl], fun j u e => ?_⟩
    · rw [upd_ne (ne_of_none hb nD)]
      exact s2 _ _ (s1 _ _ hb)
    · have lm := LMut.mut (ys ++ [v]) (s2 _ _ hD)
      by_cases hj : j < ys.length
      · rw [List.getElem?_append_left hj] at e
        exact st _ _ _ _ ((LMut.of s2).trans lm) (hR j u e)
      · rw [List.getElem?_append_right (by omega)] at e
        have hj' : j = i := by
          have := (List.getElem?_eq_some_iff.mp e).1
          simp at this
          omega
        subst hj'
        rw [show j - ys.length = 0 by omega] at e
        cases e
        exact st _ _ _ _ lm r) fun H ⟨s1, ys, hD, hl, hR⟩ => hd D H ys s1 hD hl hR nD
end TB
namespace TB
open PySem PySem.Spec PyProof.Rows L2
def topS (i : Nat) : Stmt := PySem.Challenge.pw_truebeat_k21_whole_rounds_that_shift.main.body.getD i (.Pass ⟨0, 0, 0, 0⟩)
abbrev s_is_integer : Stmt := topS 6
theorem sc_is_integer : FnScope ["value"] ["value"] (defScope s_is_integer) := ⟨rfl, rfl, rfl, by decide +kernel, rfl, by decide +kernel, by decide +kernel⟩
abbrev s_is_within : Stmt := topS 7
theorem sc_is_within : FnScope ["value", "least", "most"] ["value", "least", "most"] (defScope s_is_within) := ⟨rfl, rfl, rfl, by decide +kernel, rfl, by decide +kernel, by decide +kernel⟩
abbrev s_is_word_in : Stmt := topS 9
theorem sc_is_word_in : FnScope ["width", "value"] ["width", "value"] (defScope s_is_word_in) := ⟨rfl, rfl, rfl, by decide +kernel, rfl, by decide +kernel, by decide +kernel⟩
abbrev s_moved_word : Stmt := topS 17
theorem sc_moved_word : FnScope ["size", "side", "word", "places"] ["size", "side", "word", "places"] (defScope s_moved_word) := ⟨rfl, rfl, rfl, by decide +kernel, rfl, by decide +kernel, by decide +kernel⟩
abbrev s_through_rounds : Stmt := topS 18
theorem sc_through_rounds : FnScope ["size", "side", "rounds", "word", "amount", "bit", "by"] ["size", "side", "rounds", "word", "amount"] (defScope s_through_rounds) := ⟨rfl, rfl, rfl, by decide +kernel, rfl, by decide +kernel, by decide +kernel⟩
abbrev s_wrong_bit : Stmt := topS 19
theorem sc_wrong_bit : FnScope ["size", "many", "rounds", "number", "total", "bit", "by"] ["size", "many", "rounds"] (defScope s_wrong_bit) := ⟨rfl, rfl, rfl, by decide +kernel, rfl, by decide +kernel, by decide +kernel⟩
abbrev s_is_round : Stmt := topS 20
theorem sc_is_round : FnScope ["many", "value"] ["many", "value"] (defScope s_is_round) := ⟨rfl, rfl, rfl, by decide +kernel, rfl, by decide +kernel, by decide +kernel⟩
abbrev s_are_rounds : Stmt := topS 21
theorem sc_are_rounds : FnScope ["many", "value", "one"] ["many", "value"] (defScope s_are_rounds) := ⟨rfl, rfl, rfl, by decide +kernel, rfl, by decide +kernel, by decide +kernel⟩
abbrev s_require_rounds : Stmt := topS 22
theorem sc_require_rounds : FnScope ["size", "side", "many", "rounds"] ["size", "side", "many", "rounds"] (defScope s_require_rounds) := ⟨rfl, rfl, rfl, by decide +kernel, rfl, by decide +kernel, by decide +kernel⟩
abbrev s_plain_rounds : Stmt := topS 23
theorem sc_plain_rounds : FnScope ["many", "bit"] ["many"] (defScope s_plain_rounds) := ⟨rfl, rfl, rfl, by decide +kernel, rfl, by decide +kernel, by decide +kernel⟩
abbrev s_moved_by : Stmt := topS 24
theorem sc_moved_by : FnScope ["size", "side", "many", "rounds", "word", "amount"] ["size", "side", "many", "rounds", "word", "amount"] (defScope s_moved_by) := ⟨rfl, rfl, rfl, by decide +kernel, rfl, by decide +kernel, by decide +kernel⟩
abbrev s_rounds_paper : Stmt := topS 25
theorem sc_rounds_paper : FnScope ["size", "side", "many", "rounds", "bit"] ["size", "side", "many", "rounds"] (defScope s_rounds_paper) := ⟨rfl, rfl, rfl, by decide +kernel, rfl, by decide +kernel, by decide +kernel⟩
abbrev s_is_rounds_paper : Stmt := topS 26
theorem sc_is_rounds_paper : FnScope ["size", "side", "many", "rounds", "value", "word", "amount"] ["size", "side", "many", "rounds", "value"] (defScope s_is_rounds_paper) := ⟨rfl, rfl, rfl, by decide +kernel, rfl, by decide +kernel, by decide +kernel⟩
abbrev s__law_dice : Stmt := topS 28
theorem sc__law_dice : FnScope ["_law_script", "_law_at", "_law_cell", "_law_great", "_law_left", "_law_mixed_here"] ["_law_script", "_law_at"] (defScope s__law_dice) := ⟨rfl, rfl, rfl, by decide +kernel, rfl, by decide +kernel, by decide +kernel⟩
abbrev s__law_roll : Stmt := topS 29
theorem sc__law_roll : FnScope ["_law_dice_here", "_law_total", "_law_size", "_law_drawn", "_law_one", "_law_two"] ["_law_dice_here", "_law_total"] (defScope s__law_roll) := ⟨rfl, rfl, rfl, by decide +kernel, rfl, by decide +kernel, by decide +kernel⟩
abbrev s__law_one_of : Stmt := topS 30
theorem sc__law_one_of : FnScope ["_law_dice_here", "_law_items"] ["_law_dice_here", "_law_items"] (defScope s__law_one_of) := ⟨rfl, rfl, rfl, by decide +kernel, rfl, by decide +kernel, by decide +kernel⟩
abbrev s__law_two_to : Stmt := topS 31
theorem sc__law_two_to : FnScope ["_law_bits", "_law_found", "_law_turn"] ["_law_bits"] (defScope s__law_two_to) := ⟨rfl, rfl, rfl, by decide +kernel, rfl, by decide +kernel, by decide +kernel⟩
abbrev s__law_mixed : Stmt := topS 32
theorem sc__law_mixed : FnScope ["_law_dice_here", "_law_items", "_law_left", "_law_found"] ["_law_dice_here", "_law_items"] (defScope s__law_mixed) := ⟨rfl, rfl, rfl, by decide +kernel, rfl, by decide +kernel, by decide +kernel⟩
abbrev s__law_rounds_drawn : Stmt := topS 33
theorem sc__law_rounds_drawn : FnScope ["_law_dice_here", "_law_size", "_law_many", "_law_found", "_law_bit", "_law_by_here", "_law_some", "_law_at"] ["_law_dice_here", "_law_size", "_law_many"] (defScope s__law_rounds_drawn) := ⟨rfl, rfl, rfl, by decide +kernel, rfl, by decide +kernel, by decide +kernel⟩
abbrev s__law_moved : Stmt := topS 34
theorem sc__law_moved : FnScope ["_law_size", "_law_side", "_law_word", "_law_places", "_law_many"] ["_law_size", "_law_side", "_law_word", "_law_places"] (defScope s__law_moved) := ⟨rfl, rfl, rfl, by decide +kernel, rfl, by decide +kernel, by decide +kernel⟩
abbrev s__law_by : Stmt := topS 35
theorem sc__law_by : FnScope ["_law_rounds", "_law_amount", "_law_bit", "_law_by_here"] ["_law_rounds", "_law_amount"] (defScope s__law_by) := ⟨rfl, rfl, rfl, by decide +kernel, rfl, by decide +kernel, by decide +kernel⟩
abbrev s__law_is_paper : Stmt := topS 36
theorem sc__law_is_paper : FnScope ["_law_size", "_law_side", "_law_many", "_law_rounds", "_law_value", "_law_word", "_law_amount", "_law_one"] ["_law_size", "_law_side", "_law_many", "_law_rounds", "_law_value"] (defScope s__law_is_paper) := ⟨rfl, rfl, rfl, by decide +kernel, rfl, by decide +kernel, by decide +kernel⟩
abbrev s__law_right : Stmt := topS 37
theorem sc__law_right : FnScope ["_law_dice_here", "_law_size", "_law_side", "_law_many", "_law_rounds", "_law_told", "_law_wrong", "_law_bit", "_law_every", "_law_full", "_law_more", "_law_some", "_law_turn", "_law_value", "_law_word", "_law_amount", "_law_at"] ["_law_dice_here"] (defScope s__law_right) := ⟨rfl, rfl, rfl, by decide +kernel, rfl, by decide +kernel, by decide +kernel⟩
abbrev s_law : Stmt := topS 38
theorem sc_law : FnScope ["_law_script", "_law_at", "_law_dice_here", "_law_turn", "_law_some", "_law_many"] ["_law_script"] (defScope s_law) := ⟨rfl, rfl, rfl, by decide +kernel, rfl, by decide +kernel, by decide +kernel⟩
structure Txt (K : PySem.W.Frag) (mg : Str → Option Value) where
  is_integer : DefAt K mg "is_integer" s_is_integer ["value"]
  is_within : DefAt K mg "is_within" s_is_within ["value", "least", "most"]
  is_word_in : DefAt K mg "is_word_in" s_is_word_in ["width", "value"]
  moved_word : DefAt K mg "moved_word" s_moved_word ["size", "side", "word", "places"]
  through_rounds : DefAt K mg "through_rounds" s_through_rounds ["size", "side", "rounds", "word", "amount"]
  wrong_bit : DefAt K mg "wrong_bit" s_wrong_bit ["size", "many", "rounds"]
  is_round : DefAt K mg "is_round" s_is_round ["many", "value"]
  are_rounds : DefAt K mg "are_rounds" s_are_rounds ["many", "value"]
  require_rounds : DefAt K mg "require_rounds" s_require_rounds ["size", "side", "many", "rounds"]
  plain_rounds : DefAt K mg "plain_rounds" s_plain_rounds ["many"]
  moved_by : DefAt K mg "moved_by" s_moved_by ["size", "side", "many", "rounds", "word", "amount"]
  rounds_paper : DefAt K mg "rounds_paper" s_rounds_paper ["size", "side", "many", "rounds"]
  is_rounds_paper : DefAt K mg "is_rounds_paper" s_is_rounds_paper ["size", "side", "many", "rounds", "value"]
  _law_dice : DefAt K mg "_law_dice" s__law_dice ["_law_script", "_law_at"]
  _law_roll : DefAt K mg "_law_roll" s__law_roll ["_law_dice_here", "_law_total"]
  _law_one_of : DefAt K mg "_law_one_of" s__law_one_of ["_law_dice_here", "_law_items"]
  _law_two_to : DefAt K mg "_law_two_to" s__law_two_to ["_law_bits"]
  _law_mixed : DefAt K mg "_law_mixed" s__law_mixed ["_law_dice_here", "_law_items"]
  _law_rounds_drawn : DefAt K mg "_law_rounds_drawn" s__law_rounds_drawn ["_law_dice_here", "_law_size", "_law_many"]
  _law_moved : DefAt K mg "_law_moved" s__law_moved ["_law_size", "_law_side", "_law_word", "_law_places"]
  _law_by : DefAt K mg "_law_by" s__law_by ["_law_rounds", "_law_amount"]
  _law_is_paper : DefAt K mg "_law_is_paper" s__law_is_paper ["_law_size", "_law_side", "_law_many", "_law_rounds", "_law_value"]
  _law_right : DefAt K mg "_law_right" s__law_right ["_law_dice_here"]
  law : DefAt K mg "law" s_law ["_law_script"]
  SIDES : ConT K mg "SIDES" [(.str "left"), (.str "right")]
  MAX_SHIFTED : ConAt mg "MAX_SHIFTED" (.int 32)
  MAX_AMOUNT : ConAt mg "MAX_AMOUNT" (.int 6)
  MAX_ROUNDS : ConAt mg "MAX_ROUNDS" (.int 24)
  MAX_BY : ConAt mg "MAX_BY" (.int 64)
  PAIR : ConAt mg "PAIR" (.int 2)
  z_isinstance : mg "isinstance" = none
  z_int : mg "int" = none
  z_bool : mg "bool" = none
  z_range : mg "range" = none
  z_sum : mg "sum" = none
  z_min : mg "min" = none
  z_tuple : mg "tuple" = none
  z_len : mg "len" = none
  z_all : mg "all" = none
  z_str : mg "str" = none
  z_abs : mg "abs" = none
  z_list : mg "list" = none
  z_max : mg "max" = none
section
variable {P : Program} {w : World} {K : PySem.W.Frag} {mg : Str → Option Value} {base : Heap}
def sp_is_integer_g (K : PySem.W.Frag) : Sp := fun vs H Q _ => ∃ (v : V) (kd : String), vs = [v] ∧ Knd K H v kd ∧ Q (.bl (isIntV v)) H
theorem isK_int : (kinds.all fun T => (isK T "int" && !isK T "bool") == (T == "int")) = true := by decide +kernel
theorem ok_is_integer_g (T : Txt K mg) : FnOk P w K mg base CX0 1 T.is_integer.f T.is_integer.fd ["value"] (sp_is_integer_g K) := by
  refine T.is_integer.F.ok sc_is_integer (fun vs H Q E h => ?_) (fun cdv A outer s H vs Q E hr h => ?_)
  · obtain ⟨v, kd, rfl, _⟩ := h
    rfl
  · obtain ⟨v, kd, rfl, hk, q⟩ := h
    have e := beq_iff_eq.mp (List.all_eq_true.mp isK_int kd hk.2)
    rw [hk.int_iff] at e
    rw [← e] at q
    refine ⟨_, (pss_one (ps_ret (pe_and (pe_callB call_isiK (by rfl) T.z_isinstance (by decide +kernel) (pa_cons (pv 0) (pa_cons (pe_bltn (v := .ty "int") (by rfl) T.z_int (by decide +kernel) rfl) pa_nil))) (pe_one (pe_not (pe_callB call_isiK (by rfl) T.z_isinstance (by decide +kernel) (pa_cons (pv 0) (pa_cons (pe_bltn (v := .ty "bool") (by rfl) T.z_bool (by decide +kernel) rfl) pa_nil)))))))), ?_⟩
    refine ⟨_, rfl, v, kd, "int", rfl, hk, by decide, _, rfl, ite3 (fun h => ?_) (fun h => ?_)⟩
    · rw [h, Bool.true_and] at q
      exact ⟨_, rfl, v, kd, "bool", rfl, hk, by decide, _, rfl, q⟩
    · rw [h, Bool.false_and] at q
      exact q
def sp_is_integer (K : PySem.W.Frag) : Sp := fun vs H Q _ => ∃ i : Int, vs = [.int i] ∧ Q (.bl true) H
theorem ok_is_integer (T : Txt K mg) : FnOk P w K mg base CX0 1 T.is_integer.f T.is_integer.fd ["value"] (sp_is_integer K) := (ok_is_integer_g T).imp fun vs H Q E ⟨i, e, q⟩ => ⟨.int i, "int", e, .i i, q⟩
def sp_is_within_g (K : PySem.W.Frag) : Sp := fun vs H Q _ => ∃ (v : V) (kd : String) (lo hi : Int), vs = [v, .int lo, .int hi] ∧ Knd K H v kd ∧ Q (.bl (withinV v lo hi)) H
theorem ok_is_within_g (T : Txt K mg) : FnOk P w K mg base CX0 2 T.is_within.f T.is_within.fd ["value", "least", "most"] (sp_is_within_g K) := by
  refine T.is_within.F.ok sc_is_within (fun vs H Q E h => ?_) (fun cdv A outer s H vs Q E hr h => ?_)
  · obtain ⟨v, kd, lo, hi, rfl, _⟩ := h
    rfl
  · obtain ⟨v, kd, lo, hi, rfl, hk, q⟩ := h
    refine ⟨_, (pss_one (ps_ret (pe_and (pe_call (ok_is_integer_g T) (hr.mono (by decide)) (by rfl) T.is_integer.g T.is_integer.F.kp T.is_integer.b .nil pass0 (pa_cons (pv 0) pa_nil)) (pe_one (pe_chain op_le op_le (pv 1) (pv 0) (pv 2)))))), ?_⟩
    refine ⟨_, rfl, v, kd, rfl, hk, _, rfl, ?_⟩
    cases v with
    | int i =>
      refine iteT ⟨_, rfl, _, rfl, lo, i, rfl, rfl, _, rfl, ?_⟩
      have q : Q (.bl (decide (lo ≤ i) && decide (i ≤ hi))) H := q
      cases e : decide (lo ≤ i) with
      | true =>
        rw [e] at q
        exact iteT ⟨_, rfl, i, hi, rfl, rfl, q⟩
      | false =>
        rw [e] at q
        exact iteF q
    | _ => exact iteF q
def sp_is_within (K : PySem.W.Frag) : Sp := fun vs H Q _ => ∃ i lo hi : Int, vs = [.int i, .int lo, .int hi] ∧ Q (.bl (decide (lo ≤ i) && decide (i ≤ hi))) H
theorem ok_is_within (T : Txt K mg) : FnOk P w K mg base CX0 2 T.is_within.f T.is_within.fd ["value", "least", "most"] (sp_is_within K) := (ok_is_within_g T).imp fun vs H Q E ⟨i, lo, hi, e, q⟩ => ⟨.int i, "int", lo, hi, e, .i i, q⟩
def sp_is_word_in_g (K : PySem.W.Frag) : Sp := fun vs H Q _ => ∃ (n : Nat) (v : V) (kd : String), vs = [.int n, v] ∧ n ≤ 1000 ∧ Knd K H v kd ∧ Q (.bl (withinV v 0 (2 ^ n - 1))) H
theorem ok_is_word_in_g (T : Txt K mg) : FnOk P w K mg base CX0 3 T.is_word_in.f T.is_word_in.fd ["width", "value"] (sp_is_word_in_g K) := by
  refine T.is_word_in.F.ok sc_is_word_in (fun vs H Q E h => ?_) (fun cdv A outer s H vs Q E hr h => ?_)
  · obtain ⟨n, v, kd, rfl, _⟩ := h
    rfl
  · obtain ⟨n, v, kd, rfl, hn, hk, q⟩ := h
    refine ⟨_, (pss_one (ps_ret (pe_call (ok_is_within_g T) (hr.mono (by decide)) (by rfl) T.is_within.g T.is_within.F.kp T.is_within.b .nil pass0 (pa_cons (pv 1) (pa_cons pe_int (pa_cons (pe_op op_sub (pe_op op_oneShl pe_int (pv 0)) pe_int) pa_nil)))))), ?_⟩
    exact ⟨_, rfl, _, rfl, n, rfl, rfl, by omega, _, _, rfl, rfl, v, kd, 0, _, rfl, hk, q⟩
def sp_is_word_in (K : PySem.W.Frag) : Sp := fun vs H Q _ => ∃ (n : Nat) (x : Int), vs = [.int n, .int x] ∧ n ≤ 1000 ∧ Q (.bl (decide (0 ≤ x) && decide (x ≤ 2 ^ n - 1))) H
theorem ok_is_word_in (T : Txt K mg) : FnOk P w K mg base CX0 3 T.is_word_in.f T.is_word_in.fd ["width", "value"] (sp_is_word_in K) := (ok_is_word_in_g T).imp fun vs H Q E ⟨n, x, e, hn, q⟩ => ⟨n, .int x, "int", e, hn, .i x, q⟩
/-! ### the plain words -/
def sideS (lf : Bool) : Str := if lf then "left" else "right"
def mv (lf : Bool) (n : Nat) (w : Int) (p : Nat) : Int := if lf then w * 2 ^ p % 2 ^ n else w / 2 ^ p
def onB (a : Int) (b : Nat) : Bool := decide (a / 2 ^ b % 2 = 1)
abbrev Rd2 := List (Nat × Nat)
def byS (a : Int) : Rd2 → Nat
  | [] => 0
  | p :: r => (if onB a p.1 then p.2 else 0) + byS a r
def thr1 (lf : Bool) (n : Nat) (a : Int) (w : Int) (p : Nat × Nat) : Int := if onB a p.1 then mv lf n w p.2 else w
def thr (lf : Bool) (n : Nat) (a : Int) (rs : Rd2) (w : Int) : Int := rs.foldl (thr1 lf n a) w
def prI (p : Nat × Nat) : Int × Int := (p.1, p.2)
theorem mv_range {lf : Bool} {n : Nat} {x : Int} {p : Nat} (h0 : 0 ≤ x) (h1 : x < 2 ^ n) : 0 ≤ mv lf n x p ∧ mv lf n x p < 2 ^ n := by
  have hp := two_pos n
  cases lf with
  | true => exact ⟨Int.emod_nonneg _ (by omega), Int.emod_lt_of_pos _ hp⟩
  | false =>
    have h2 := two_pos p
    refine ⟨Int.ediv_nonneg h0 (by omega), ?_⟩
    show x / 2 ^ p < 2 ^ n
    exact Int.lt_of_le_of_lt (Int.ediv_le_self _ h0) h1
theorem mv_zero {lf : Bool} {n : Nat} {x : Int} (h0 : 0 ≤ x) (h1 : x < 2 ^ n) : mv lf n x 0 = x := by
  cases lf with
  | true =>
    show x * 2 ^ 0 % 2 ^ n = x
    rw [Int.pow_zero, Int.mul_one, Int.emod_eq_of_lt h0 h1]
  | false =>
    show x / 2 ^ 0 = x
    rw [Int.pow_zero, Int.ediv_one]
theorem mv_mv {lf : Bool} {n : Nat} {x : Int} {p q : Nat} : mv lf n (mv lf n x p) q = mv lf n x (p + q) := by
  cases lf with
  | true =>
    show x * 2 ^ p % 2 ^ n * 2 ^ q % 2 ^ n = x * 2 ^ (p + q) % 2 ^ n
    rw [Int.mul_emod, Int.emod_emod_of_dvd _ (Int.dvd_refl _), ← Int.mul_emod, Int.mul_assoc, ← two_add]
  | false =>
    show x / 2 ^ p / 2 ^ q = x / 2 ^ (p + q)
    rw [two_add, Int.ediv_ediv_of_nonneg (Int.le_of_lt (two_pos p))]
theorem thr_eq {lf : Bool} {n : Nat} {a : Int} : ∀ (rs : Rd2) {x : Int}, 0 ≤ x → x < 2 ^ n → thr lf n a rs x = mv lf n x (byS a rs)
  | [], x, h0, h1 => (mv_zero h0 h1).symm
  | p :: r, x, h0, h1 => by
    show thr lf n a r (thr1 lf n a x p) = mv lf n x ((if onB a p.1 then p.2 else 0) + byS a r)
    unfold thr1
    cases e : onB a p.1 with
    | true =>
      rw [if_pos rfl, if_pos rfl]
      have hm := mv_range (lf := lf) (p := p.2) h0 h1
      rw [thr_eq r hm.1 hm.2, mv_mv]
    | false =>
      rw [if_neg Bool.false_ne_true, if_neg Bool.false_ne_true, Nat.zero_add]
      exact thr_eq r h0 h1
/-- rounds in hand -/
structure RdAt (K : PySem.W.Frag) (H : Hp) (a : Addr) (m : Nat) (rs : Rd2) where
  xs : List V
  t : SqT K H a xs
  ps : PairsL K H xs (rs.map prI)
  len : rs.length ≤ 24
  ok : ∀ p ∈ rs, p.1 < m ∧ p.2 ≤ 64
def RdAt.same {H H' : Hp} {a : Addr} {m : Nat} {rs : Rd2} (s : Same H H') (h : RdAt K H a m rs) : RdAt K H' a m rs := ⟨h.xs, sT s h.t, h.ps.same s, h.len, h.ok⟩
theorem RdAt.ln {H : Hp} {a : Addr} {m : Nat} {rs : Rd2} (h : RdAt K H a m rs) : h.xs.length = rs.length := by rw [h.ps.len, List.length_map]
theorem RdAt.get {H : Hp} {a : Addr} {m : Nat} {rs : Rd2} (h : RdAt K H a m rs) {i : Nat} {x : V} (e : h.xs[i]? = some x) : ∃ p b, rs[i]? = some p ∧ x = .ref b ∧ SqT K H b [.int (p.1 : Nat), .int (p.2 : Nat)] ∧ p.1 < m ∧ p.2 ≤ 64 := by
  obtain ⟨q, b, e1, e2, t⟩ := h.ps.get e
  rw [List.getElem?_map] at e1
  cases e3 : rs[i]? with
  | none =>
    rw [e3] at e1
    cases e1
  | some p =>
    rw [e3] at e1
    cases e1
    exact ⟨p, b, rfl, e2, t, h.ok _ (List.mem_of_getElem? e3)⟩
/-! ### the package -/
def sp_moved_word (K : PySem.W.Frag) : Sp := fun vs H Q _ => ∃ (n : Nat) (lf : Bool) (x : Int) (p : Nat), vs = [.int n, .str (sideS lf), .int x, .int p] ∧ n ≤ 32 ∧ p ≤ 2000 ∧ 0 ≤ x ∧ x < 2 ^ n ∧ Q (.int (mv lf n x p)) H
theorem ok_moved_word (T : Txt K mg) : FnOk P w K mg base CX0 1 T.moved_word.f T.moved_word.fd ["size", "side", "word", "places"] (sp_moved_word K) := by
  refine T.moved_word.F.ok sc_moved_word (fun vs H Q E h => ?_) (fun cdv A outer s H vs Q E hr h => ?_)
  · obtain ⟨n, lf, x, p, rfl, _⟩ := h
    rfl
  · obtain ⟨n, lf, x, p, rfl, h1, h2, h3, h4, q⟩ := h
    have hb := two32 h1
    refine ⟨_, (pss_one (ps_ret (pe_ifExp (pt_cmpR op_eq (pv 1) pe_str (nomark _)) (pe_op op_mod (pe_op op_shlN (pv 2) (pv 3)) (pe_op op_oneShl pe_int (pv 0))) (pe_op op_shrN (pv 2) (pv 3))))), ?_⟩
    cases lf with
    | true =>
      refine ⟨_, rfl, rfl, true, congrArg V.bl (decide_eq_true rfl), iteT ?_⟩
      exact ⟨_, rfl, _, rfl, x, p, rfl, rfl, shl_ok (n := 32) (by omega) (by omega), _, rfl, n, rfl, rfl, by omega, _, _, rfl, rfl, two_pos n, q⟩
    | false =>
      refine ⟨_, rfl, rfl, false, congrArg V.bl (decide_eq_false (by decide)), iteF ?_⟩
      exact ⟨_, rfl, _, rfl, x, p, rfl, rfl, q⟩
def sp_through_rounds (K : PySem.W.Frag) : Sp := fun vs H Q _ => ∃ (n : Nat) (lf : Bool) (a : Addr) (m : Nat) (rs : Rd2) (x c : Int), vs = [.int n, .str (sideS lf), .ref a, .int x, .int c] ∧ Nonempty (RdAt K H a m rs) ∧ m ≤ 6 ∧ n ≤ 32 ∧ 0 ≤ x ∧ x < 2 ^ n ∧ Q (.int (mv lf n x (byS c rs))) H
theorem ok_through_rounds (T : Txt K mg) : FnOk P w K mg base CX0 2 T.through_rounds.f T.through_rounds.fd ["size", "side", "rounds", "word", "amount"] (sp_through_rounds K) := by
  refine T.through_rounds.F.ok sc_through_rounds (fun vs H Q E h => ?_) (fun cdv A outer s H vs Q E hr h => ?_)
  · obtain ⟨n, lf, a, m, rs, x, c, rfl, _⟩ := h
    rfl
  · obtain ⟨n, lf, a, m, rs, x, c, rfl, ⟨hR⟩, hm, hn, h0, h1, q⟩ := h
    refine ⟨_, (pss_cons (ps_for PassesOwn.never rfl (pi_tup (pv 2)) (pg_tup rfl (pgs_cons (pg_name (i := 5) sc_through_rounds.nd rfl (.inl rfl)) (pgs_cons (pg_name (i := 6) sc_through_rounds.nd rfl (.inl rfl)) pgs_nil))) 
        (pss_one (ps_if (pt_cmpR op_eq (pe_op op_andM (pe_op op_shrN (pv 4) (pv 5)) pe_int) pe_int (nomark _)) 
          (pss_one (ps_set (i := 3) sc_through_rounds.nd rfl (.inl rfl) (pe_call (ok_moved_word T) (hr.mono (by decide)) (by rfl) T.moved_word.g T.moved_word.F.kp T.moved_word.b .nil pass0 (pa_cons (pv 0) (pa_cons (pv 1) (pa_cons (pv 3) (pa_cons (pv 6) pa_nil))))))) pss_nil))) 
      (pss_one (ps_ret (pv 3)))), ?_⟩
    refine ⟨_, rfl, a, rfl, ⟨_, hR.t⟩, for_tup (K := K) (a := a) (xs := hR.xs) (fun i σ H' => ∃ u v, σ = [some (.int n), some (.str (sideS lf)), some (.ref a), some (.int (thr lf n c (rs.take i) x)), some (.int c), u, v] ∧ 0 ≤ thr lf n c (rs.take i) x ∧ thr lf n c (rs.take i) x < 2 ^ n ∧ H' = H) ⟨none, none, rfl, h0, h1, rfl⟩ ?_ ?_ ?_⟩
    · rintro i σ H' _ ⟨u, v, _, _, _, rfl⟩
      exact hR.t
    · rintro i r σ H' hx ⟨u, v, rfl, t0, t1, rfl⟩
      obtain ⟨p, b, hp, rfl, ht, p1, p2⟩ := hR.get hx
      have et : thr lf n c (rs.take (i + 1)) x = thr1 lf n c (thr lf n c (rs.take i) x) p := by
        unfold thr
        rw [take_succ_of hp, List.foldl_append]
        rfl
      refine ⟨b, _, rfl, ht, rfl, _, _, rfl, _, [], rfl, rfl, ?_⟩
      refine ⟨_, rfl, _, rfl, c, p.1, rfl, rfl, _, 1, rfl, rfl, rfl, _, rfl, ite3 (fun e => ?_) (fun e => ?_)⟩
      · have ho : onB c p.1 = true := by
          have := of_decide_eq_true e
          exact decide_eq_true (V.int.inj this)
        have e2 : thr1 lf n c (thr lf n c (rs.take i) x) p = mv lf n (thr lf n c (rs.take i) x) p.2 := by
          unfold thr1
          rw [ho, if_pos rfl]
        have hm := mv_range (lf := lf) (p := p.2) t0 t1
        refine ⟨_, rfl, _, rfl, _, rfl, _, rfl, n, lf, _, p.2, rfl, hn, by omega, t0, t1, ?_⟩
        rw [← e2, ← et] at hm ⊢
        exact ⟨_, _, rfl, hm.1, hm.2, rfl⟩
      · have ho : onB c p.1 = false := by
          have := of_decide_eq_false e
          exact decide_eq_false fun z => this (congrArg V.int z)
        have e2 : thr1 lf n c (thr lf n c (rs.take i) x) p = thr lf n c (rs.take i) x := by
          unfold thr1
          rw [ho, if_neg Bool.false_ne_true]
        rw [← e2, ← et] at t0 t1 ⊢
        exact ⟨_, _, rfl, t0, t1, rfl⟩
    · rintro σ H' ⟨u, v, rfl, _, _, rfl⟩
      rw [hR.ln, List.take_length]
      refine ⟨_, rfl, ?_⟩
      rw [thr_eq _ h0 h1]
      exact q
/-- the sum of all by of one bit -/
def sumB (b : Nat) (rs : Rd2) : Int := (rs.filterMap fun p => if p.1 = b then some (p.2 : Int) else none).sum
def okB (n : Nat) (rs : Rd2) (b : Nat) : Prop := min (sumB b rs) (n : Int) = min (2 ^ b) (n : Int)
theorem minI (i j : Int) : (if j < i then j else i) = min i j := by
  rw [Int.min_def]
  split <;> split <;> omega
theorem sum_filterMap_map (b : Nat) (rs : Rd2) : rs.filterMap (fun p => if p.1 = b then some (V.int (p.2 : Int)) else none) = (rs.filterMap fun p => if p.1 = b then some (p.2 : Int) else none).map V.int := by
  rw [List.map_filterMap]
  congr 1
  funext p
  by_cases h : p.1 = b
  · rw [if_pos h, if_pos h]
    rfl
  · rw [if_neg h, if_neg h]
    rfl
def sp_wrong_bit (K : PySem.W.Frag) : Sp := fun vs H Q _ => ∃ (n m : Nat) (a : Addr) (rs : Rd2), vs = [.int n, .int m, .ref a] ∧ Nonempty (RdAt K H a m rs) ∧ m ≤ 6 ∧ n ≤ 32 ∧
  ∀ H', Same H H' → ((∀ b, b < m → okB n rs b) → Q .non H') ∧ ∀ b : Nat, b < m → ¬ okB n rs b → Q (.int b) H'
theorem ok_wrong_bit (T : Txt K mg) : FnOk P w K mg base CX0 1 T.wrong_bit.f T.wrong_bit.fd ["size", "many", "rounds"] (sp_wrong_bit K) := by
  refine T.wrong_bit.F.ok sc_wrong_bit (fun vs H Q E h => ?_) (fun cdv A outer s H vs Q E hr h => ?_)
  · obtain ⟨n, m, a, rs, rfl, _⟩ := h
    rfl
  · obtain ⟨n, m, a, rs, rfl, ⟨hR⟩, hm, hn, q⟩ := h
    have hlen := hR.len
    have hln := hR.ln
    refine ⟨_, (pss_cons (ps_for PassesOwn.never rfl (pi_range1 (by rfl) T.z_range (pa_cons (pv 1) pa_nil)) (pg_name (i := 3) sc_wrong_bit.nd rfl (.inr rfl)) 
        (pss_cons (ps_set (i := 4) sc_wrong_bit.nd rfl (.inl rfl) (pe_callB (cr_sum rfl) (by rfl) T.z_sum (by decide +kernel) (pa_cons (pe_lc (own := [("bit", 5), ("by", 6)]) (g := gTup K 2 (gCons (gName 5) (gCons (gName 6) gNil))) (by rfl) sc_wrong_bit.nd (pi_tup (pv 2)) (blkOk_by (own := [("bit", 5), ("by", 6)]) (N := ["size", "many", "rounds", "number", "total", "bit", "by"]) (sc := defScope s_wrong_bit) (by decide +kernel)) (fun _ _ _ _ _ => (pg_tup rfl (pgs_cons (pg_name (i := 5) sc_wrong_bit.nd rfl (.inl rfl)) (pgs_cons (pg_name (i := 6) sc_wrong_bit.nd rfl (.inl rfl)) pgs_nil)))) (fun _ _ _ _ _ => (pts_one (pt_cmpR op_eq (pv 5) (pv 3) (nomark _)))) (fun _ _ _ _ _ => (pv 6))) pa_nil))) 
        (pss_one (ps_if (pt_cmpR op_ne (pe_callB (call_min2 rfl) (by rfl) T.z_min (by decide +kernel) (pa_cons (pv 4) (pa_cons (pv 0) pa_nil))) (pe_callB (call_min2 rfl) (by rfl) T.z_min (by decide +kernel) (pa_cons (pe_op op_oneShl pe_int (pv 3)) (pa_cons (pv 0) pa_nil))) (nomark _)) 
          (pss_one (ps_ret (pv 3))) pss_nil)))) 
      (pss_one (ps_ret pe_non))), ?_⟩
    refine ⟨_, rfl, _, rfl, by omega, by omega, for_rangeN (n := m) (fun i σ H' => ∃ u v, σ = [some (.int n), some (.int m), some (.ref a), u, v, none, none] ∧ Same H H' ∧ ∀ b, b < i → okB n rs b) ⟨none, none, rfl, Same.refl _, fun b hb => absurd hb (Nat.not_lt_zero b)⟩ ?_ ?_⟩
    · rintro b σ H1 hb ⟨u, v, rfl, sm, hok⟩
      refine ⟨_, rfl, a, rfl, ⟨_, (hR.same sm).t⟩, lc_tupO (hR.same sm).t (fun i => rs[i]?.bind fun p => if p.1 = b then some (V.int (p.2 : Int)) else none) (by show hR.xs.length ≤ 100000; omega) ?_ fun D H2 s2 e2 _ => ?_⟩
      · intro i x H' hx s3 R N hRr hN
        obtain ⟨p, t, hp, rfl, ht, p1, p2⟩ := hR.get hx
        rw [hp] at hRr hN
        refine ⟨t, _, rfl, sT (sm.trans s3) ht, rfl, _, _, rfl, _, [], rfl, rfl, rfl, ?_⟩
        refine ⟨_, rfl, _, rfl, rfl, _, rfl, ite3 (fun e => ?_) (fun e => ?_)⟩
        · have e' : p.1 = b := by
            have := V.int.inj (of_decide_eq_true e)
            omega
          exact ⟨_, rfl, hRr _ _ (by rw [Option.bind_some, if_pos e']) (Same.refl _)⟩
        · have e' : ¬ p.1 = b := fun z => of_decide_eq_false e (by rw [z])
          exact hN _ (by rw [Option.bind_some, if_neg e']) (Same.refl _)
      have e3 : H2 D = some (.lst ((rs.filterMap fun p => if p.1 = b then some (p.2 : Int) else none).map V.int)) := by
        rw [← sum_filterMap_map, ← range_filterMap, ← hR.ln]
        exact e2
      refine ⟨D, _, rfl, SqL.of e3, ?_⟩
      have sm2 := sm.trans s2
      refine ⟨_, rfl, _, rfl, _, _, rfl, ?_⟩
      refine ⟨_, rfl, b, rfl, rfl, by omega, _, rfl, _, _, rfl, rfl, _, rfl, ?_⟩
      rw [minI, minI]
      refine ite3 (fun e => ?_) (fun e => ?_)
      · refine ⟨_, rfl, (q _ sm2).2 b hb fun z => ?_⟩
        exact Bool.noConfusion (e.symm.trans (neFI z))
      · refine ⟨_, _, rfl, sm2, fun c hc => ?_⟩
        by_cases hcb : c = b
        · subst hcb
          refine Classical.byContradiction fun z => ?_
          exact Bool.noConfusion (e.symm.trans (neTI z))
        · exact hok c (by omega)
    · rintro σ H1 ⟨u, v, rfl, sm, hok⟩
      exact (q _ sm).1 hok
def sp_is_round (K : PySem.W.Frag) : Sp := fun vs H Q _ => ∃ (m : Nat) (a : Addr) (b y : Nat), vs = [.int m, .ref a] ∧ SqT K H a [.int b, .int y] ∧ b < m ∧ y ≤ 64 ∧ Q (.bl true) H
theorem ok_is_round (T : Txt K mg) : FnOk P w K mg base CX0 3 T.is_round.f T.is_round.fd ["many", "value"] (sp_is_round K) := by
  refine T.is_round.F.ok sc_is_round (fun vs H Q E h => ?_) (fun cdv A outer s H vs Q E hr h => ?_)
  · obtain ⟨m, a, b, y, rfl, _⟩ := h
    rfl
  · obtain ⟨m, a, b, y, rfl, hT, h1, h2, q⟩ := h
    refine ⟨_, (pss_cons (ps_if (PW.pt (pw_or (pt_not (pt_val (pe_callB call_isiK (by rfl) T.z_isinstance (by decide +kernel) (pa_cons (pv 1) (pa_cons (pe_bltn (v := .ty "tuple") (by rfl) T.z_tuple (by decide +kernel) rfl) pa_nil))))) (pw_or1 (pt_cmpR op_ne (pe_callB call_len_seq (by rfl) T.z_len PySem.boot_len (pa_cons (pv 1) pa_nil)) (pe_glob rfl T.PAIR.g T.PAIR.r) (nomark _))))) 
        (pss_one (ps_ret pe_bl)) pss_nil) 
      (pss_one (ps_ret (pe_and (pe_call (ok_is_within T) (hr.mono (by decide)) (by rfl) T.is_within.g T.is_within.F.kp T.is_within.b .nil pass0 (pa_cons (pe_ix ix_tup (pv 1) pe_int (fun _ _ => rfl)) (pa_cons pe_int (pa_cons (pe_op op_sub (pv 0) pe_int) pa_nil)))) (pe_one (pe_call (ok_is_within T) (hr.mono (by decide)) (by rfl) T.is_within.g T.is_within.F.kp T.is_within.b .nil pass0 (pa_cons (pe_ix ix_tup (pv 1) pe_int (fun _ _ => rfl)) (pa_cons pe_int (pa_cons (pe_glob rfl T.MAX_BY.g T.MAX_BY.r) pa_nil))))))))), ?_⟩
    refine ⟨_, rfl, _, _, _, rfl, .t hT, by decide, true, rfl, iteF ?_⟩
    refine ⟨_, rfl, a, _, rfl, .inr hT, rfl, _, rfl, iteBF (neFI rfl) ?_⟩
    refine ⟨_, rfl, a, _, 0, _, rfl, rfl, hT, atI_nat (j := 0) rfl, _, rfl, _, _, rfl, rfl, b, 0, _, rfl, ?_⟩
    rw [decide_eq_true (show (0 : Int) ≤ b by omega), decide_eq_true (show (b : Int) ≤ m - 1 by omega)]
    refine ⟨_, rfl, iteT ⟨_, rfl, a, _, 1, _, rfl, rfl, hT, atI_nat (j := 1) rfl, y, 0, 64, rfl, ?_⟩⟩
    rw [decide_eq_true (show (0 : Int) ≤ y by omega), decide_eq_true (show (y : Int) ≤ 64 by omega)]
    exact q
def sp_are_rounds (K : PySem.W.Frag) : Sp := fun vs H Q _ => ∃ (m : Nat) (a : Addr) (rs : Rd2), vs = [.int m, .ref a] ∧ Nonempty (RdAt K H a m rs) ∧ ∀ H', Same H H' → Q (.bl true) H'
theorem ok_are_rounds (T : Txt K mg) : FnOk P w K mg base CX0 4 T.are_rounds.f T.are_rounds.fd ["many", "value"] (sp_are_rounds K) := by
  refine T.are_rounds.F.ok sc_are_rounds (fun vs H Q E h => ?_) (fun cdv A outer s H vs Q E hr h => ?_)
  · obtain ⟨m, a, rs, rfl, _⟩ := h
    rfl
  · obtain ⟨m, a, rs, rfl, ⟨hR⟩, q⟩ := h
    have hlen := hR.len
    have hln := hR.ln
    refine ⟨_, (pss_one (ps_ret (pe_and (pe_callB call_isiK (by rfl) T.z_isinstance (by decide +kernel) (pa_cons (pv 1) (pa_cons (pe_bltn (v := .ty "tuple") (by rfl) T.z_tuple (by decide +kernel) rfl) pa_nil))) (pe_and (pe_cmpR op_le (pe_callB call_len_seq (by rfl) T.z_len PySem.boot_len (pa_cons (pv 1) pa_nil)) (pe_glob rfl T.MAX_ROUNDS.g T.MAX_ROUNDS.r) (nomark _)) (pe_one (pe_callB (cr_all rfl) (by rfl) T.z_all (by decide +kernel) (pa_cons (pe_lc (own := [("one", 2)]) (by rfl) sc_are_rounds.nd (pi_tup (pv 1)) (blkOk_by (own := [("one", 2)]) (N := ["many", "value", "one"]) (sc := defScope s_are_rounds) (by decide +kernel)) (fun _ _ _ _ _ => (pg_name (i := 2) sc_are_rounds.nd rfl (.inl rfl))) (fun _ _ _ _ _ => pts_nil) (fun _ _ _ _ _ => (pe_call (ok_is_round T) (hr.mono (by decide)) (by rfl) T.is_round.g T.is_round.F.kp T.is_round.b .nil pass0 (pa_cons (pv 0) (pa_cons (pv 2) pa_nil))))) pa_nil))))))), ?_⟩
    refine ⟨_, rfl, _, _, _, rfl, .t hR.t, by decide, true, rfl, iteT ?_⟩
    refine ⟨_, rfl, a, _, rfl, .inr hR.t, _, _, rfl, rfl, true, congrArg V.bl (decide_eq_true (by omega)), iteT ?_⟩
    refine ⟨_, rfl, a, rfl, ⟨_, hR.t⟩, lc_tupF hR.t (fun v => some (V.bl true)) (by omega) ?_ fun D H1 s1 e1 _ => ?_⟩
    · intro i x H' hx sm R N hRr _
      obtain ⟨p, b, hp, rfl, ht, p1, p2⟩ := hR.get hx
      exact ⟨rfl, _, rfl, _, rfl, m, b, p.1, p.2, rfl, sT sm ht, p1, p2, hRr _ _ rfl (Same.refl _)⟩
    rw [filterMap_some] at e1
    have ea : (hR.xs.map fun _ => true).all id = true := by
      rw [List.all_map, List.all_eq_true]
      intro x _
      rfl
    refine ⟨D, hR.xs.map fun _ => true, rfl, SqL.of (by rw [List.map_map]; exact e1), ?_⟩
    rw [ea]
    exact q _ s1
def sp_require_rounds (K : PySem.W.Frag) : Sp := fun vs H Q _ => ∃ (n : Nat) (lf : Bool) (m : Nat) (a : Addr) (rs : Rd2), vs = [.int n, .str (sideS lf), .int m, .ref a] ∧ 1 ≤ n ∧ n ≤ 32 ∧ 1 ≤ m ∧ m ≤ 6 ∧ Nonempty (RdAt K H a m rs) ∧ ∀ H', Same H H' → Q .non H'
theorem ok_require_rounds (T : Txt K mg) : FnOk P w K mg base CX0 5 T.require_rounds.f T.require_rounds.fd ["size", "side", "many", "rounds"] (sp_require_rounds K) := by
  refine T.require_rounds.F.ok sc_require_rounds (fun vs H Q E h => ?_) (fun cdv A outer s H vs Q E hr h => ?_)
  · obtain ⟨n, lf, m, a, rs, rfl, _⟩ := h
    rfl
  · obtain ⟨n, lf, m, a, rs, rfl, n1, n2, m1, m2, hR, q⟩ := h
    refine ⟨_, (pss_cons (ps_if (pt_not (pt_val (pe_call (ok_is_within T) (hr.mono (by decide)) (by rfl) T.is_within.g T.is_within.F.kp T.is_within.b .nil pass0 (pa_cons (pv 0) (pa_cons pe_int (pa_cons (pe_glob rfl T.MAX_SHIFTED.g T.MAX_SHIFTED.r) pa_nil)))))) 
        (pss_one ps_never) pss_nil) 
      (pss_cons (ps_if (PW.pt (pw_or (pt_not (pt_val (pe_callB call_isiK (by rfl) T.z_isinstance (by decide +kernel) (pa_cons (pv 1) (pa_cons (pe_bltn (v := .ty "str") (by rfl) T.z_str (by decide +kernel) rfl) pa_nil))))) (pw_or1 (pt_cmpR op_notIn_seq (pv 1) (pe_glob (v := .ref T.SIDES.a) rfl T.SIDES.g rfl) rfl)))) 
        (pss_one ps_never) pss_nil) 
      (pss_cons (ps_if (pt_not (pt_val (pe_call (ok_is_within T) (hr.mono (by decide)) (by rfl) T.is_within.g T.is_within.F.kp T.is_within.b .nil pass0 (pa_cons (pv 2) (pa_cons pe_int (pa_cons (pe_glob rfl T.MAX_AMOUNT.g T.MAX_AMOUNT.r) pa_nil)))))) 
        (pss_one ps_never) pss_nil) 
      (pss_one (ps_if (pt_not (pt_val (pe_call (ok_are_rounds T) (hr.mono (by decide)) (by rfl) T.are_rounds.g T.are_rounds.F.kp T.are_rounds.b .nil pass0 (pa_cons (pv 2) (pa_cons (pv 3) pa_nil))))) 
        (pss_one ps_never) pss_nil))))), ?_⟩
    refine ⟨_, rfl, n, 1, 32, rfl, _, rfl, iteN (by rw [decide_eq_true (show (1 : Int) ≤ n by omega), decide_eq_true (show (n : Int) ≤ 32 by omega)]; rfl) ?_⟩
    refine ⟨_, rfl, _, _, _, rfl, .s _, by decide, true, rfl, iteF ?_⟩
    refine ⟨_, rfl, _, _, rfl, .inr (T.SIDES.t _), rfl, rfl, _, rfl, iteBF (by cases lf <;> rfl) ?_⟩
    refine ⟨_, rfl, m, 1, 6, rfl, _, rfl, iteN (by rw [decide_eq_true (show (1 : Int) ≤ m by omega), decide_eq_true (show (m : Int) ≤ 6 by omega)]; rfl) ?_⟩
    exact ⟨_, rfl, _, rfl, m, a, rs, rfl, hR, fun H1 s1 => ⟨true, rfl, iteF (q _ s1)⟩⟩
end
end TB
namespace TB
open PySem PySem.Spec PyProof.Rows L2
section
variable {P : Program} {w : World} {K : PySem.W.Frag} {mg : Str → Option Value} {base : Heap}
def sp_plain_rounds (K : PySem.W.Frag) : Sp := fun vs H Q _ => ∃ m : Nat, vs = [.int m] ∧ 1 ≤ m ∧ m ≤ 6 ∧ ∀ p xs H', Same H H' → SqT K H' p xs → PairsL K H' xs ((List.range m).map fun b : Nat => ((b : Int), (2 : Int) ^ b)) → Q (.ref p) H'
theorem ok_plain_rounds (T : Txt K mg) : FnOk P w K mg base CX0 3 T.plain_rounds.f T.plain_rounds.fd ["many"] (sp_plain_rounds K) := by
  refine T.plain_rounds.F.ok sc_plain_rounds (fun vs H Q E h => ?_) (fun cdv A outer s H vs Q E hr h => ?_)
  · obtain ⟨m, rfl, _⟩ := h
    rfl
  · obtain ⟨m, rfl, h1, h2, q⟩ := h
    refine ⟨_, (pss_cons (ps_if (pt_not (pt_val (pe_call (ok_is_within T) (hr.mono (by decide)) (by rfl) T.is_within.g T.is_within.F.kp T.is_within.b .nil pass0 (pa_cons (pv 0) (pa_cons pe_int (pa_cons (pe_glob rfl T.MAX_AMOUNT.g T.MAX_AMOUNT.r) pa_nil)))))) 
        (pss_one ps_never) pss_nil) 
      (pss_one (ps_ret (pe_callTy call_tupleA (by rfl) T.z_tuple (by decide +kernel) (pa_cons (pe_lc (own := [("bit", 1)]) (by rfl) sc_plain_rounds.nd (pi_range1 (by rfl) T.z_range (pa_cons (pv 0) pa_nil)) (blkOk_by (own := [("bit", 1)]) (N := ["many", "bit"]) (sc := defScope s_plain_rounds) (by decide +kernel)) (fun _ _ _ _ _ => (pg_name (i := 1) sc_plain_rounds.nd rfl (.inl rfl))) (fun _ _ _ _ _ => pts_nil) (fun _ _ _ _ _ => (pe_tupAK (K := K) rfl (pa_cons (pv 1) (pa_cons (pe_op op_oneShl pe_int (pv 1)) pa_nil))))) pa_nil))))), ?_⟩
    refine ⟨_, rfl, m, 1, 6, rfl, _, rfl, iteN (by rw [decide_eq_true (show (1 : Int) ≤ m by omega), decide_eq_true (show (m : Int) ≤ 6 by omega)]; rfl) ?_⟩
    refine ⟨_, rfl, _, rfl, by omega, by omega, lc_rangeR (n := m) (fun i v H => ∃ a, v = .ref a ∧ SqT K H a [.int (i : Nat), .int (2 ^ i)]) ?_ ?_ (by omega) ?_ fun D H1 xs s1 e1 hl hR _ => ?_⟩
    · rintro i v H H' s ⟨a, rfl, t⟩
      exact ⟨a, rfl, sT s t⟩
    · rintro i v H D ys zs hD ⟨a, rfl, t⟩
      exact ⟨a, rfl, (But.mut (l := D)).seqT hD t⟩
    · intro i H1 hi s1 Rk N hRk
      refine ⟨rfl, _, rfl, _, rfl, i, rfl, rfl, by omega, sz, fun p H2 s2 e2 => hRk _ _ s2 ⟨p, rfl, e2⟩⟩
    · refine ⟨D, _, rfl, .inl (SqL.of e1), fun p H2 s2 e2 => q p xs H2 (s1.trans s2) e2 ⟨by simp [hl], fun i r p' f1 f2 => ?_⟩⟩
      obtain ⟨a, rfl, t⟩ := hR i r f1
      have hi := (List.getElem?_eq_some_iff.mp f1).1
      rw [List.getElem?_map, List.getElem?_range (by omega)] at f2
      cases f2
      exact ⟨a, rfl, sT s2 t⟩
def sp_moved_by (K : PySem.W.Frag) : Sp := fun vs H Q _ => ∃ (n : Nat) (lf : Bool) (m : Nat) (a : Addr) (rs : Rd2) (x c : Int), vs = [.int n, .str (sideS lf), .int m, .ref a, .int x, .int c] ∧ 1 ≤ n ∧ n ≤ 32 ∧ 1 ≤ m ∧ m ≤ 6 ∧ Nonempty (RdAt K H a m rs) ∧
  0 ≤ x ∧ x < 2 ^ n ∧ 0 ≤ c ∧ c < 2 ^ m ∧ ∀ H', Same H H' → Q (.int (mv lf n x (byS c rs))) H'
theorem ok_moved_by (T : Txt K mg) : FnOk P w K mg base CX0 6 T.moved_by.f T.moved_by.fd ["size", "side", "many", "rounds", "word", "amount"] (sp_moved_by K) := by
  refine T.moved_by.F.ok sc_moved_by (fun vs H Q E h => ?_) (fun cdv A outer s H vs Q E hr h => ?_)
  · obtain ⟨n, lf, m, a, rs, x, c, rfl, _⟩ := h
    rfl
  · obtain ⟨n, lf, m, a, rs, x, c, rfl, n1, n2, m1, m2, ⟨hR⟩, x0, x1, c0, c1, q⟩ := h
    refine ⟨_, (pss_cons (ps_expr (pe_call (ok_require_rounds T) (hr.mono (by decide)) (by rfl) T.require_rounds.g T.require_rounds.F.kp T.require_rounds.b .nil pass0 (pa_cons (pv 0) (pa_cons (pv 1) (pa_cons (pv 2) (pa_cons (pv 3) pa_nil)))))) 
      (pss_cons (ps_if (pt_not (pt_val (pe_call (ok_is_word_in T) (hr.mono (by decide)) (by rfl) T.is_word_in.g T.is_word_in.F.kp T.is_word_in.b .nil pass0 (pa_cons (pv 0) (pa_cons (pv 4) pa_nil))))) 
        (pss_one ps_never) pss_nil) 
      (pss_cons (ps_if (pt_not (pt_val (pe_call (ok_is_word_in T) (hr.mono (by decide)) (by rfl) T.is_word_in.g T.is_word_in.F.kp T.is_word_in.b .nil pass0 (pa_cons (pv 2) (pa_cons (pv 5) pa_nil))))) 
        (pss_one ps_never) pss_nil) 
      (pss_one (ps_ret (pe_call (ok_through_rounds T) (hr.mono (by decide)) (by rfl) T.through_rounds.g T.through_rounds.F.kp T.through_rounds.b .nil pass0 (pa_cons (pv 0) (pa_cons (pv 1) (pa_cons (pv 3) (pa_cons (pv 4) (pa_cons (pv 5) pa_nil))))))))))), ?_⟩
    refine ⟨_, rfl, _, rfl, _, rfl, _, rfl, n, lf, m, a, rs, rfl, n1, n2, m1, m2, ⟨hR⟩, fun H1 s1 => ?_⟩
    refine ⟨_, rfl, _, rfl, n, x, rfl, by omega, _, rfl, iteN (by rw [decide_eq_true x0, decide_eq_true (show x ≤ 2 ^ n - 1 by omega)]; rfl) ?_⟩
    refine ⟨_, rfl, _, rfl, m, c, rfl, by omega, _, rfl, iteN (by rw [decide_eq_true c0, decide_eq_true (show c ≤ 2 ^ m - 1 by omega)]; rfl) ?_⟩
    exact ⟨_, rfl, _, rfl, _, rfl, _, rfl, _, rfl, n, lf, a, m, rs, x, c, rfl, ⟨hR.same s1⟩, m2, n2, x0, x1, q _ s1⟩
def sp_rounds_paper (K : PySem.W.Frag) : Sp := fun vs H Q _ => ∃ (n : Nat) (lf : Bool) (m : Nat) (a : Addr) (rs : Rd2), vs = [.int n, .str (sideS lf), .int m, .ref a] ∧ 1 ≤ n ∧ n ≤ 32 ∧ 1 ≤ m ∧ m ≤ 6 ∧ Nonempty (RdAt K H a m rs) ∧
  ∀ H', Same H H' → ((∀ b, b < m → okB n rs b) → Q .non H') ∧ ∀ b : Nat, b < m → ¬ okB n rs b → ∀ p, SqT K H' p [.int (2 ^ n - 1), .int (2 ^ b)] → Q (.ref p) H'
theorem ok_rounds_paper (T : Txt K mg) : FnOk P w K mg base CX0 6 T.rounds_paper.f T.rounds_paper.fd ["size", "side", "many", "rounds"] (sp_rounds_paper K) := by
  refine T.rounds_paper.F.ok sc_rounds_paper (fun vs H Q E h => ?_) (fun cdv A outer s H vs Q E hr h => ?_)
  · obtain ⟨n, lf, m, a, rs, rfl, _⟩ := h
    rfl
  · obtain ⟨n, lf, m, a, rs, rfl, n1, n2, m1, m2, ⟨hR⟩, q⟩ := h
    refine ⟨_, (pss_cons (ps_expr (pe_call (ok_require_rounds T) (hr.mono (by decide)) (by rfl) T.require_rounds.g T.require_rounds.F.kp T.require_rounds.b .nil pass0 (pa_cons (pv 0) (pa_cons (pv 1) (pa_cons (pv 2) (pa_cons (pv 3) pa_nil)))))) 
      (pss_cons (ps_set (i := 4) sc_rounds_paper.nd rfl (.inl rfl) (pe_call (ok_wrong_bit T) (hr.mono (by decide)) (by rfl) T.wrong_bit.g T.wrong_bit.F.kp T.wrong_bit.b .nil pass0 (pa_cons (pv 0) (pa_cons (pv 2) (pa_cons (pv 3) pa_nil))))) 
      (pss_one (ps_ret (pe_ifExp (pt_cmpR op_isN (pv 4) pe_non (nomark _)) pe_non (pe_tupA (pa_cons (pe_op op_sub (pe_op op_oneShl pe_int (pv 0)) pe_int) (pa_cons (pe_op op_oneShl pe_int (pv 4)) pa_nil)))))))), ?_⟩
    refine ⟨_, rfl, _, rfl, _, rfl, _, rfl, n, lf, m, a, rs, rfl, n1, n2, m1, m2, ⟨hR⟩, fun H1 s1 => ?_⟩
    refine ⟨_, rfl, _, rfl, _, rfl, n, m, a, rs, rfl, ⟨hR.same s1⟩, m2, n2, fun H2 s2 => ⟨fun hok => ?_, fun b hb hno => ?_⟩⟩
    · exact ⟨_, rfl, rfl, _, rfl, iteT ((q _ (s1.trans s2)).1 hok)⟩
    · refine ⟨_, rfl, rfl, _, rfl, iteF ?_⟩
      refine ⟨_, rfl, n, rfl, rfl, by omega, _, _, rfl, rfl, _, rfl, b, rfl, rfl, by omega, sz, fun p H3 s3 e3 => ?_⟩
      exact (q _ ((s1.trans s2).trans s3)).2 b hb hno p e3
/-- a value that may be a paper: none where it is no tuple of two -/
inductive PapV (K : PySem.W.Frag) (H : Hp) : V → Option (V × V) → Prop
  | non {v : V} {kd : String} (h : Knd K H v kd) (n : kd ≠ "tuple") : PapV K H v none
  | len {a : Addr} {xs : List V} (h : SqT K H a xs) (n : xs.length ≠ 2) : PapV K H (.ref a) none
  | two {a : Addr} {x y : V} {kx ky : String} (h : SqT K H a [x, y]) (hx : Knd K H x kx) (hy : Knd K H y ky) : PapV K H (.ref a) (some (x, y))
theorem PapV.same {H H' : Hp} {v : V} {o : Option (V × V)} (s : Same H H') (h : PapV K H v o) : PapV K H' v o := by
  cases h with
  | non h n => exact .non (h.same s) n
  | len h n => exact .len (sT s h) n
  | two h hx hy => exact .two (sT s h) (hx.same s) (hy.same s)
def papR (lf : Bool) (n m : Nat) (rs : Rd2) : Option (V × V) → Bool
  | some (.int x, .int c) => (decide (0 ≤ x) && decide (x ≤ 2 ^ n - 1)) && ((decide (0 ≤ c) && decide (c ≤ 2 ^ m - 1)) && !decide (mv lf n x (byS c rs) = mv lf n x c.toNat))
  | _ => false
theorem papR_x {lf : Bool} {n m : Nat} {rs : Rd2} {x y : V} (h : withinV x 0 (2 ^ n - 1) = false) : papR lf n m rs (some (x, y)) = false := by
  cases x with
  | int x =>
    cases y with
    | int c =>
      have h' : (decide (0 ≤ x) && decide (x ≤ 2 ^ n - 1)) = false := h
      show ((decide (0 ≤ x) && decide (x ≤ 2 ^ n - 1)) && _) = false
      rw [h', Bool.false_and]
    | _ => rfl
  | _ => rfl
theorem papR_y {lf : Bool} {n m : Nat} {rs : Rd2} {x y : V} (h : withinV y 0 (2 ^ m - 1) = false) : papR lf n m rs (some (x, y)) = false := by
  cases x with
  | int x =>
    cases y with
    | int c =>
      have h' : (decide (0 ≤ c) && decide (c ≤ 2 ^ m - 1)) = false := h
      show (_ && ((decide (0 ≤ c) && decide (c ≤ 2 ^ m - 1)) && _)) = false
      rw [h', Bool.false_and, Bool.and_false]
    | _ => rfl
  | _ => rfl
theorem withinV_int {x : V} {lo hi : Int} (h : withinV x lo hi = true) : ∃ i : Int, x = .int i ∧ lo ≤ i ∧ i ≤ hi := by
  cases x with
  | int i =>
    have h' : (decide (lo ≤ i) && decide (i ≤ hi)) = true := h
    rw [Bool.and_eq_true] at h'
    exact ⟨i, rfl, of_decide_eq_true h'.1, of_decide_eq_true h'.2⟩
  | _ => cases h
theorem isK_tup {kd : String} (h : kd ≠ "tuple") : isK kd "tuple" = false := by
  show (kd == "tuple" || (kd == "bool" && "tuple" == "int")) = false
  rw [beq_eq_false_iff_ne.mpr h, Bool.false_or, show ("tuple" == "int") = false by decide, Bool.and_false]
def sp_is_rounds_paper (K : PySem.W.Frag) : Sp := fun vs H Q _ => ∃ (n : Nat) (lf : Bool) (m : Nat) (a : Addr) (rs : Rd2) (v : V) (o : Option (V × V)), vs = [.int n, .str (sideS lf), .int m, .ref a, v] ∧ 1 ≤ n ∧ n ≤ 32 ∧ 1 ≤ m ∧ m ≤ 6 ∧ Nonempty (RdAt K H a m rs) ∧
  PapV K H v o ∧ ∀ H', Same H H' → Q (.bl (papR lf n m rs o)) H'
theorem ok_is_rounds_paper (T : Txt K mg) : FnOk P w K mg base CX0 6 T.is_rounds_paper.f T.is_rounds_paper.fd ["size", "side", "many", "rounds", "value"] (sp_is_rounds_paper K) := by
  refine T.is_rounds_paper.F.ok sc_is_rounds_paper (fun vs H Q E h => ?_) (fun cdv A outer s H vs Q E hr h => ?_)
  · obtain ⟨n, lf, m, a, rs, v, o, rfl, _⟩ := h
    rfl
  · obtain ⟨n, lf, m, a, rs, v, o, rfl, n1, n2, m1, m2, ⟨hR⟩, hv, q⟩ := h
    refine ⟨_, (pss_cons (ps_expr (pe_call (ok_require_rounds T) (hr.mono (by decide)) (by rfl) T.require_rounds.g T.require_rounds.F.kp T.require_rounds.b .nil pass0 (pa_cons (pv 0) (pa_cons (pv 1) (pa_cons (pv 2) (pa_cons (pv 3) pa_nil)))))) 
      (pss_cons (ps_if (PW.pt (pw_or (pt_not (pt_val (pe_callB call_isiK (by rfl) T.z_isinstance (by decide +kernel) (pa_cons (pv 4) (pa_cons (pe_bltn (v := .ty "tuple") (by rfl) T.z_tuple (by decide +kernel) rfl) pa_nil))))) (pw_or1 (pt_cmpR op_ne (pe_callB call_len_seq (by rfl) T.z_len PySem.boot_len (pa_cons (pv 4) pa_nil)) (pe_glob rfl T.PAIR.g T.PAIR.r) (nomark _))))) 
        (pss_one (ps_ret pe_bl)) pss_nil) 
      (pss_cons (ps_asg (pv 4) (pg_tup rfl (pgs_cons (pg_name (i := 5) sc_is_rounds_paper.nd rfl (.inl rfl)) (pgs_cons (pg_name (i := 6) sc_is_rounds_paper.nd rfl (.inl rfl)) pgs_nil)))) 
      (pss_cons (ps_if (PW.pt (pw_or (pt_not (pt_val (pe_call (ok_is_word_in_g T) (hr.mono (by decide)) (by rfl) T.is_word_in.g T.is_word_in.F.kp T.is_word_in.b .nil pass0 (pa_cons (pv 0) (pa_cons (pv 5) pa_nil))))) (pw_or1 (pt_not (pt_val (pe_call (ok_is_word_in_g T) (hr.mono (by decide)) (by rfl) T.is_word_in.g T.is_word_in.F.kp T.is_word_in.b .nil pass0 (pa_cons (pv 2) (pa_cons (pv 6) pa_nil)))))))) 
        (pss_one (ps_ret pe_bl)) pss_nil) 
      (pss_one (ps_ret (pe_cmpR op_ne (pe_call (ok_through_rounds T) (hr.mono (by decide)) (by rfl) T.through_rounds.g T.through_rounds.F.kp T.through_rounds.b .nil pass0 (pa_cons (pv 0) (pa_cons (pv 1) (pa_cons (pv 3) (pa_cons (pv 5) (pa_cons (pv 6) pa_nil)))))) (pe_call (ok_moved_word T) (hr.mono (by decide)) (by rfl) T.moved_word.g T.moved_word.F.kp T.moved_word.b .nil pass0 (pa_cons (pv 0) (pa_cons (pv 1) (pa_cons (pv 5) (pa_cons (pv 6) pa_nil))))) (nomark _)))))))), ?_⟩
    refine ⟨_, rfl, _, rfl, _, rfl, _, rfl, n, lf, m, a, rs, rfl, n1, n2, m1, m2, ⟨hR⟩, fun H1 s1 => ?_⟩
    have hv1 := hv.same s1
    have q1 := q _ s1
    cases hv1 with
    | non h hn =>
      refine ⟨_, rfl, _, _, _, rfl, h, by decide, _, rfl, iteNF (isK_tup hn) ?_⟩
      exact q1
    | len h hn =>
      refine ⟨_, rfl, _, _, _, rfl, .t h, by decide, true, rfl, iteF ?_⟩
      refine ⟨_, rfl, _, _, rfl, .inr h, rfl, _, rfl, iteB (neTI (by omega)) ?_⟩
      exact q1
    | @two b x y kx ky h hx hy =>
      refine ⟨_, rfl, _, _, _, rfl, .t h, by decide, true, rfl, iteF ?_⟩
      refine ⟨_, rfl, _, _, rfl, .inr h, rfl, _, rfl, iteBF (neFI rfl) ?_⟩
      refine ⟨_, rfl, b, _, rfl, h, rfl, _, _, rfl, _, [], rfl, rfl, ?_⟩
      refine ⟨_, rfl, _, rfl, n, x, kx, rfl, by omega, hx, _, rfl, ?_⟩
      cases ex : withinV x 0 (2 ^ n - 1) with
      | false =>
        rw [papR_x ex] at q1
        exact iteT (iteT q1)
      | true =>
        obtain ⟨x, rfl, x0, x1⟩ := withinV_int ex
        refine iteF ⟨_, rfl, _, rfl, m, y, ky, rfl, by omega, hy, _, rfl, ?_⟩
        cases ey : withinV y 0 (2 ^ m - 1) with
        | false =>
          rw [papR_y ey] at q1
          exact iteT q1
        | true =>
          obtain ⟨c, rfl, c0, c1⟩ := withinV_int ey
          refine iteF ?_
          have hc : c = (c.toNat : Int) := by omega
          have hc64 : (2 : Int) ^ m ≤ 2 ^ 6 := two_mono m2
          refine ⟨_, rfl, _, rfl, _, rfl, _, rfl, _, rfl, n, lf, a, m, rs, x, c, rfl, ⟨hR.same s1⟩, m2, n2, x0, by omega, ?_⟩
          refine ⟨_, rfl, _, rfl, _, rfl, _, rfl, n, lf, x, c.toNat, (by rw [← hc]; rfl), n2, by omega, x0, by omega, rfl, ?_⟩
          have e : papR lf n m rs (some (.int x, .int c)) = !decide (V.int (mv lf n x (byS c rs)) = V.int (mv lf n x c.toNat)) := by
            show ((decide (0 ≤ x) && decide (x ≤ 2 ^ n - 1)) && ((decide (0 ≤ c) && decide (c ≤ 2 ^ m - 1)) && !decide (mv lf n x (byS c rs) = mv lf n x c.toNat))) = _
            rw [decide_eq_true x0, decide_eq_true x1, decide_eq_true c0, decide_eq_true c1]
            by_cases h : mv lf n x (byS c rs) = mv lf n x c.toNat
            · rw [decide_eq_true h, neFI h]
              rfl
            · rw [decide_eq_false h, neTI h]
              rfl
          rw [e] at q1
          exact q1
end
end TB
namespace TB
open PySem PySem.Spec PyProof.Rows L2
section
variable {P : Program} {w : World} {K : PySem.W.Frag} {mg : Str → Option Value} {base : Heap}
def sp__law_dice (K : PySem.W.Frag) : Sp := fun vs H Q _ => ∃ (a : Addr) (ns : List Int) (i : Nat), vs = [.ref a, .int i] ∧ SqL K H a (ns.map V.int) ∧ ∀ x y z : Int, NewL [.int x, .int y, .int z] H Q
theorem ok__law_dice (T : Txt K mg) : FnOk P w K mg base CX0 1 T._law_dice.f T._law_dice.fd ["_law_script", "_law_at"] (sp__law_dice K) := by
  refine T._law_dice.F.ok sc__law_dice (fun vs H Q E h => ?_) (fun cdv A outer s H vs Q E hr h => ?_)
  · obtain ⟨a, ns, i, rfl, _⟩ := h
    rfl
  · obtain ⟨a, ns, i, rfl, hS, q⟩ := h
    refine ⟨_, (pss_cons (ps_set (i := 2) sc__law_dice.nd rfl (.inl rfl) (pe_op op_add (pe_op op_mul pe_int (pv 1)) pe_int)) 
      (pss_cons (ps_if (pt_cmpR op_lt (pv 1) (pe_callB call_len_seq (by rfl) T.z_len PySem.boot_len (pa_cons (pv 0) pa_nil)) (nomark _)) 
        (pss_one (ps_set (i := 2) sc__law_dice.nd rfl (.inl rfl) (pe_ix ix_list (pv 0) (pv 1) (fun _ _ => rfl)))) pss_nil) 
      (pss_cons (ps_set (i := 3) sc__law_dice.nd rfl (.inl rfl) (pe_op op_mod (pe_callTy call_int1 (by rfl) T.z_int (by decide +kernel) (pa_cons (pe_callB call_abs (by rfl) T.z_abs (by decide +kernel) (pa_cons (pv 2) pa_nil)) pa_nil)) (pe_op op_powW (pe_op op_pow pe_int pe_int) pe_int))) 
      (pss_cons (ps_set (i := 4) sc__law_dice.nd rfl (.inl rfl) (pe_op op_fdivW (pv 3) (pe_op op_pow pe_int pe_int))) 
      (pss_cons (ps_set (i := 5) sc__law_dice.nd rfl (.inl rfl) (pe_op op_add (pe_op op_add (pe_op op_add (pe_op op_mul (pe_op op_mod (pv 3) pe_int) pe_int) (pe_op op_mul pe_int (pv 1))) (pe_op op_mul pe_int (pe_callTy call_int1 (by rfl) T.z_int (by decide +kernel) (pa_cons (pe_cmpR op_lt (pv 2) pe_int (nomark _)) pa_nil)))) pe_int)) 
      (pss_one (ps_ret (pe_lstA (pa_cons (pv 4) (pa_cons (pe_op op_mod (pv 5) pe_int) (pa_cons pe_int pa_nil))))))))))), ?_⟩
    refine ⟨_, rfl, 127, i, rfl, rfl, .inl (by decide), _, _, rfl, rfl, ?_⟩
    refine ⟨_, rfl, _, rfl, a, _, rfl, .inl hS, _, _, rfl, rfl, _, rfl, ite3 (fun e => ?_) (fun e => ?_)⟩
    · have hi : i < ns.length := by
        have := of_decide_eq_true e
        rw [List.length_map] at this
        omega
      refine ⟨_, rfl, _, rfl, a, _, i, .int ns[i], rfl, rfl, hS, atI_nat (by rw [List.getElem?_map, List.getElem?_eq_getElem hi]; rfl), ?_⟩
      refine ⟨_, rfl, _, rfl, .inl ⟨_, rfl, _, _, rfl, rfl, ⟨by decide, by decide, by decide⟩, _, _, rfl, rfl, ⟨by decide, by decide⟩, _, _, rfl, rfl, (show (0 : Int) < (10 ^ 62) ^ 10 by decide +kernel), ?_⟩⟩
      refine ⟨_, rfl, 10, 18, rfl, rfl, ⟨by decide, by decide, by decide⟩, _, _, rfl, rfl, ⟨by decide, by decide⟩, ?_⟩
      refine ⟨_, rfl, _, _, rfl, rfl, p0, _, _, rfl, rfl, cmulR, _, rfl, _, _, rfl, rfl, cmulL, _, _, rfl, rfl, _, rfl, _, _, rfl, rfl, .inr ⟨_, rfl, _, _, rfl, rfl, cmulL, _, _, rfl, rfl, _, _, rfl, rfl, ?_⟩⟩
      exact ⟨_, rfl, _, rfl, _, _, rfl, rfl, p0, sz, q _ _ _⟩
    · refine ⟨_, rfl, _, rfl, .inl ⟨_, rfl, _, _, rfl, rfl, ⟨by decide, by decide, by decide⟩, _, _, rfl, rfl, ⟨by decide, by decide⟩, _, _, rfl, rfl, (show (0 : Int) < (10 ^ 62) ^ 10 by decide +kernel), ?_⟩⟩
      refine ⟨_, rfl, 10, 18, rfl, rfl, ⟨by decide, by decide, by decide⟩, _, _, rfl, rfl, ⟨by decide, by decide⟩, ?_⟩
      refine ⟨_, rfl, _, _, rfl, rfl, p0, _, _, rfl, rfl, cmulR, _, rfl, _, _, rfl, rfl, cmulL, _, _, rfl, rfl, _, rfl, _, _, rfl, rfl, .inr ⟨_, rfl, _, _, rfl, rfl, cmulL, _, _, rfl, rfl, _, _, rfl, rfl, ?_⟩⟩
      exact ⟨_, rfl, _, rfl, _, _, rfl, rfl, p0, sz, q _ _ _⟩
def sp__law_roll (K : PySem.W.Frag) : Sp := fun vs H Q _ => ∃ (d : Addr) (n : Int), vs = [.ref d, .int n] ∧ Dice H d ∧ 0 < n ∧ n ≤ 2 ^ 64 ∧ ∀ r H', 0 ≤ r → r < n → Ext d H H' → Q (.int r) H'
theorem ok__law_roll (T : Txt K mg) : FnOk P w K mg base CX0 1 T._law_roll.f T._law_roll.fd ["_law_dice_here", "_law_total"] (sp__law_roll K) := by
  refine T._law_roll.F.ok sc__law_roll (fun vs H Q E h => ?_) (fun cdv A outer s H vs Q E hr h => ?_)
  · obtain ⟨d, n, rfl, _⟩ := h
    rfl
  · obtain ⟨d, n, rfl, ⟨x, y, z, hd⟩, h0, h1, q⟩ := h
    have sz : sizeLine = 16777216 := sizeLine_eq
    have f0 : ∀ {x y z : Int}, atI [V.int x, V.int y, V.int z] 0 = some (.int x) := rfl
    have f1 : ∀ {x y z : Int}, atI [V.int x, V.int y, V.int z] 1 = some (.int y) := rfl
    have f2 : ∀ {x y z : Int}, atI [V.int x, V.int y, V.int z] 2 = some (.int z) := rfl
    refine ⟨_, (pss_cons (ps_set (i := 2) sc__law_roll.nd rfl (.inl rfl) (pe_callTy call_int1 (by rfl) T.z_int (by decide +kernel) (pa_cons (pv 1) pa_nil))) 
      (pss_cons (ps_if (pt_cmpR op_gt (pe_ix ix_list (pv 0) pe_int (fun _ _ => rfl)) pe_int (nomark _)) 
        (pss_cons (ps_set (i := 3) sc__law_roll.nd rfl (.inl rfl) (pe_op op_mod (pe_ix ix_list (pv 0) pe_int (fun _ _ => rfl)) (pv 2))) 
        (pss_cons (ps_asg (pe_op op_fdivW (pe_ix ix_list (pv 0) pe_int (fun _ _ => rfl)) (pv 2)) (pg_sub (pv 0) pe_int set_list)) 
        (pss_one (ps_ret (pe_callTy call_int1 (by rfl) T.z_int (by decide +kernel) (pa_cons (pv 3) pa_nil)))))) pss_nil) 
      (pss_cons (ps_asg (pe_op op_add (pe_ix ix_list (pv 0) pe_int (fun _ _ => rfl)) pe_int) (pg_sub (pv 0) pe_int set_list)) 
      (pss_cons (ps_set (i := 4) sc__law_roll.nd rfl (.inl rfl) (pe_op op_mod (pe_op op_add (pe_ix ix_list (pv 0) pe_int (fun _ _ => rfl)) (pe_op op_mul pe_int (pe_ix ix_list (pv 0) pe_int (fun _ _ => rfl)))) pe_int)) 
      (pss_cons (ps_set (i := 5) sc__law_roll.nd rfl (.inl rfl) (pe_op op_add (pe_op op_mul (pe_op op_mod (pe_op op_mul (pv 4) (pv 4)) pe_int) (pv 4)) (pe_op op_mul pe_int (pe_ix ix_list (pv 0) pe_int (fun _ _ => rfl))))) 
      (pss_cons (ps_set (i := 5) sc__law_roll.nd rfl (.inl rfl) (pe_op op_mod (pv 5) pe_int)) 
      (pss_one (ps_ret (pe_callTy call_int1 (by rfl) T.z_int (by decide +kernel) (pa_cons (pe_op op_mod (pe_op op_fdiv (pv 5) pe_int) (pv 2)) pa_nil)))))))))), ?_⟩
    refine ⟨_, rfl, .inl ⟨_, rfl, ?_⟩⟩
    refine ⟨_, rfl, d, _, 0, _, rfl, rfl, SqL.of hd, f0, x, 0, rfl, rfl, _, rfl, ite3 (fun e => ?_) (fun e => ?_)⟩
    · have hw : CDivW x n := wide_div (b := 65) h0 (by omega) (by decide) (by decide)
      refine ⟨_, rfl, d, _, 0, _, rfl, rfl, SqL.of hd, f0, _, rfl, _, _, rfl, rfl, h0, ?_⟩
      refine ⟨_, rfl, d, _, 0, _, rfl, rfl, SqL.of hd, f0, _, rfl, _, _, rfl, rfl, hw, _, rfl, d, _, 0, 0, rfl, rfl, hd, rfl, ?_⟩
      exact ⟨_, rfl, .inl ⟨_, rfl, q _ _ (Int.emod_nonneg _ (by omega)) (Int.emod_lt_of_pos _ h0) Ext.roll⟩⟩
    · refine ⟨_, rfl, d, _, 2, _, rfl, rfl, SqL.of hd, f2, _, _, rfl, rfl, _, rfl, d, _, 2, 2, rfl, rfl, hd, rfl, ?_⟩
      have h2 : (upd H d (dl x y (z + 1))) d = some (dl x y (z + 1)) := upd_same
      refine ⟨_, rfl, d, _, 1, _, rfl, rfl, SqL.of h2, f1, _, rfl, d, _, 2, _, rfl, rfl, SqL.of h2, f2, 1000427, _, rfl, rfl, .inl (by decide), _, _, rfl, rfl, _, _, rfl, rfl, p0, ?_⟩
      have m0 := Int.emod_nonneg (y + 1000427 * (z + 1)) (by decide : (2305843009213693951 : Int) ≠ 0)
      have m1 := Int.emod_lt_of_pos (y + 1000427 * (z + 1)) (by decide : (0 : Int) < 2305843009213693951)
      refine ⟨_, rfl, _, rfl, _, _, rfl, rfl, .inl ⟨by omega, by omega⟩, _, _, rfl, rfl, p0, _, rfl, _, _, rfl, rfl, .inr ⟨by omega, by omega⟩, _, rfl, d, _, 2, _, rfl, rfl, SqL.of h2, f2, 9539, _, rfl, rfl, .inl (by decide), _, _, rfl, rfl, ?_⟩
      refine ⟨_, rfl, _, _, rfl, rfl, p0, ?_⟩
      exact ⟨_, rfl, _, _, rfl, rfl, cdiv, _, rfl, _, _, rfl, rfl, h0, .inl ⟨_, rfl, q _ _ (Int.emod_nonneg _ (by omega)) (Int.emod_lt_of_pos _ h0) Ext.roll⟩⟩
def sp__law_one_of (K : PySem.W.Frag) : Sp := fun vs H Q _ => ∃ (d a : Addr) (xs : List V), vs = [.ref d, .ref a] ∧ Dice H d ∧ a ≠ d ∧ H a = some (.lst xs) ∧ 0 < xs.length ∧ xs.length ≤ 100000 ∧ ∀ v H', v ∈ xs → Ext d H H' → Q v H'
theorem ok__law_one_of (T : Txt K mg) : FnOk P w K mg base CX0 2 T._law_one_of.f T._law_one_of.fd ["_law_dice_here", "_law_items"] (sp__law_one_of K) := by
  refine T._law_one_of.F.ok sc__law_one_of (fun vs H Q E h => ?_) (fun cdv A outer s H vs Q E hr h => ?_)
  · obtain ⟨d, a, xs, rfl, _⟩ := h
    rfl
  · obtain ⟨d, a, xs, rfl, hd, na, ha, h0, h1, q⟩ := h
    refine ⟨_, (pss_one (ps_ret (pe_ix ix_list (pv 1) (pe_call (ok__law_roll T) (hr.mono (by decide)) (by rfl) T._law_roll.g T._law_roll.F.kp T._law_roll.b .nil pass0 (pa_cons (pv 0) (pa_cons (pe_callB call_len_seq (by rfl) T.z_len PySem.boot_len (pa_cons (pv 1) pa_nil)) pa_nil))) (fun _ _ => rfl)))), ?_⟩
    refine ⟨_, rfl, _, rfl, _, rfl, a, _, rfl, .inl (SqL.of ha), d, xs.length, rfl, hd, by omega, by omega, fun r H1 r0 r1 x1 => ?_⟩
    have hi : r.toNat < xs.length := by omega
    have e : xs[r.toNat]? = some xs[r.toNat] := List.getElem?_eq_getElem hi
    exact ⟨a, xs, r, xs[r.toNat], rfl, rfl, SqL.of (x1.s _ _ na ha), at_of (by omega) e, q _ _ (List.getElem_mem hi) x1⟩
def sp__law_two_to (K : PySem.W.Frag) : Sp := fun vs H Q _ => ∃ n : Nat, vs = [.int n] ∧ n ≤ 1000000 ∧ Q (.int (2 ^ n)) H
theorem ok__law_two_to (T : Txt K mg) : FnOk P w K mg base CX0 1 T._law_two_to.f T._law_two_to.fd ["_law_bits"] (sp__law_two_to K) := by
  refine T._law_two_to.F.ok sc__law_two_to (fun vs H Q E h => ?_) (fun cdv A outer s H vs Q E hr h => ?_)
  · obtain ⟨n, rfl, _⟩ := h
    rfl
  · obtain ⟨n, rfl, hn, q⟩ := h
    refine ⟨_, (pss_cons (ps_set (i := 1) sc__law_two_to.nd rfl (.inl rfl) pe_int) 
      (pss_cons (ps_for PassesOwn.never rfl (pi_range1 (by rfl) T.z_range (pa_cons (pv 0) pa_nil)) (pg_name (i := 2) sc__law_two_to.nd rfl (.inl rfl)) 
        (pss_one (ps_set (i := 1) sc__law_two_to.nd rfl (.inl rfl) (pe_op op_mul pe_int (pv 1))))) 
      (pss_one (ps_ret (pv 1))))), ?_⟩
    refine ⟨_, rfl, _, rfl, by omega, by omega, for_rangeN (n := n) (fun i σ H' => ∃ y, σ = [some (.int n), some (.int (2 ^ i)), y] ∧ H' = H) ⟨none, rfl, rfl⟩ ?_ ?_⟩
    · rintro i σ H' hi ⟨y, rfl, rfl⟩
      exact ⟨_, rfl, 2, _, rfl, rfl, .inl (by decide), _, by rw [two_succ]; rfl, rfl⟩
    · rintro σ H' ⟨y, rfl, rfl⟩
      exact ⟨_, rfl, q⟩
def sp__law_mixed (K : PySem.W.Frag) : Sp := fun vs H Q _ => ∃ (d a : Addr) (xs : List V) (ps : List (Int × Int)), vs = [.ref d, .ref a] ∧ Dice H d ∧ a ≠ d ∧ H a = some (.lst xs) ∧ PairsL K H xs ps ∧ ps.length ≤ 1000 ∧
  ∀ D H' xs' ps', Ext d H H' → H' D = some (.lst xs') → PairsL K H' xs' ps' → D ≠ d → H D = none → ps'.length = ps.length → (∀ p ∈ ps', p ∈ ps) → Q (.ref D) H'
theorem ok__law_mixed (T : Txt K mg) : FnOk P w K mg base CX0 2 T._law_mixed.f T._law_mixed.fd ["_law_dice_here", "_law_items"] (sp__law_mixed K) := by
  refine T._law_mixed.F.ok sc__law_mixed (fun vs H Q E h => ?_) (fun cdv A outer s H vs Q E hr h => ?_)
  · obtain ⟨d, a, xs, ps, rfl, _⟩ := h
    rfl
  · obtain ⟨d, a, xs, ps, rfl, hd, nad, ha, hP, hz, q⟩ := h
    refine ⟨_, (pss_cons (ps_par (i := 2) (j := 3) rfl sc__law_mixed.nd rfl rfl (by decide) rfl rfl (pa_cons (pe_callTy call_listA (by rfl) T.z_list (by decide +kernel) (pa_cons (pv 1) pa_nil)) (pa_cons (pe_lstA pa_nil) pa_nil)) (by rfl)) 
      (pss_cons (ps_while PassesOwn.never (pt_cmpR (op_neD hr.units) (pv 2) (pe_lstA pa_nil) (nomark _)) 
        (pss_one (ps_expr (pe_bm PySem.F.plainAttrs_list PySem.F.slot_list_append PySem.F.type_list_append mt_append (pv 3) (pa_cons (pe_bm PySem.F.plainAttrs_list PySem.F.slot_list_pop PySem.F.type_list_pop mt_popAt (pv 2) (pa_cons (pe_call (ok__law_roll T) (hr.mono (by decide)) (by rfl) T._law_roll.g T._law_roll.F.kp T._law_roll.b .nil pass0 (pa_cons (pv 0) (pa_cons (pe_callB call_len_seq (by rfl) T.z_len PySem.boot_len (pa_cons (pv 2) pa_nil)) pa_nil))) pa_nil)) pa_nil))))) 
      (pss_one (ps_ret (pv 3))))), ?_⟩
    refine ⟨_, rfl, a, xs, rfl, .inl (SqL.of ha), fun l H0 s0 e0 nl => ⟨sz, fun D H1 s1 e1 nD => ⟨_, _, rfl, ?_⟩⟩⟩
    have nld : l ≠ d := hd.ne nl
    have nDd : D ≠ d := (hd.same s0).ne nD
    have nlD : l ≠ D := fun z => by
      rw [z] at e0
      rw [e0] at nD
      cases nD
    have nD0 : H D = none := by
      cases e : H D with
      | none => rfl
      | some o =>
        rw [s0 _ _ e] at nD
        cases nD
    refine ⟨fun m σ H' => ∃ (ls rs : List V) (lp rp : List (Int × Int)), m = lp.length ∧ σ = [some (.ref d), some (.ref a), some (.ref l), some (.ref D)] ∧
      (∀ b o, b ≠ l → b ≠ D → b ≠ d → H b = some o → H' b = some o) ∧ Dice H' d ∧ H' l = some (.lst ls) ∧ H' D = some (.lst rs) ∧ PairsL K H' ls lp ∧ PairsL K H' rs rp ∧ rp.length + lp.length = ps.length ∧ (∀ p ∈ lp, p ∈ ps) ∧ (∀ p ∈ rp, p ∈ ps),
      ⟨ps.length, xs, [], ps, [], rfl, rfl, fun b o _ _ _ e => s1 _ _ (s0 _ _ e), (hd.same s0).same s1, s1 _ _ e0, e1, (hP.same s0).same s1, .nil, by simp, fun p h => h, fun p h => nomatch h⟩, ?_⟩
    rintro m σ H2 ⟨ls, rs, lp, rp, rfl, rfl, bb, hd2, hl, hD, hL, hR, hlen, hm1, hm2⟩
    refine ⟨_, rfl, sz, fun e H3 s3 e3 _ => ?_⟩
    refine ⟨_, _, .lst (SqL.of (s3 _ _ hl)) (hL.same s3).dp, .lst (SqL.of e3) .nil, (pairD_okL lp).sh, rfl, _, rfl, ?_⟩
    rw [nilD]
    have hL3 := hL.same s3
    have hR3 := hR.same s3
    have hl3 := s3 _ _ hl
    have hD3 := s3 _ _ hD
    have hd3 := hd2.same s3
    have hll := hL.len
    have hrl := hR.len
    refine ite3 (fun e => ?_) (fun e => ?_)
    · have hpos : 0 < lp.length := by
        cases lp with
        | nil => cases e
        | cons p r => exact Nat.succ_pos _
      refine ⟨fun σ' H' => ∃ m', m' < lp.length ∧ _, fun σ' H' h => h, ?_⟩
      refine ⟨_, rfl, .inl ⟨rfl, _, SqL.of hD3⟩, _, rfl, .inl ⟨rfl, _, SqL.of hl3⟩, _, rfl, _, rfl, l, _, rfl, .inl (SqL.of hl3), d, ls.length, rfl, hd3, by omega, by omega, fun r H4 r0 r1 x4 => ?_⟩
      have hl4 := x4.s _ _ nld hl3
      have hD4 := x4.s _ _ nDd hD3
      have hL4 := hL3.map (fun a xs h => x4.seqT hd3 h)
      have hR4 := hR3.map (fun a xs h => x4.seqT hd3 h)
      have hk : r.toNat < ls.length := by omega
      have hkp : r.toNat < lp.length := by omega
      have eg : ls[r.toNat]? = some ls[r.toNat] := List.getElem?_eq_getElem hk
      have egp : lp[r.toNat]? = some lp[r.toNat] := List.getElem?_eq_getElem hkp
      obtain ⟨t, et, ht⟩ := hL4.get' egp
      have hsi : seqIndex? r ls.length = some r.toNat := (ixN_seq (by unfold ixN; rw [if_pos r0, if_pos (by omega)])).1
      refine ⟨l, ls, r, r.toNat, .ref t, rfl, rfl, hl4, by omega, by omega, hsi, et, ?_⟩
      have b5 : But l H4 (upd H4 l (.lst (ls.eraseIdx r.toNat))) := But.mut
      have hD5 : upd H4 l (.lst (ls.eraseIdx r.toNat)) D = some (.lst rs) := by rw [upd_ne (Ne.symm nlD)]; exact hD4
      refine ⟨D, rs, .ref t, rfl, rfl, hD5, szlt (by omega), ?_⟩
      have b6 : But D (upd H4 l (.lst (ls.eraseIdx r.toNat))) (upd (upd H4 l (.lst (ls.eraseIdx r.toNat))) D (.lst (rs ++ [.ref t]))) := But.mut
      have mp : ∀ a xs, SqT K H4 a xs → SqT K (upd (upd H4 l (.lst (ls.eraseIdx r.toNat))) D (.lst (rs ++ [.ref t]))) a xs := fun a xs h => b6.seqT hD5 (b5.seqT hl4 h)
      have hle : (lp.eraseIdx r.toNat).length + 1 = lp.length := by
        rw [List.length_eraseIdx, if_pos hkp]
        omega
      refine ⟨_, by omega, ls.eraseIdx r.toNat, rs ++ [.ref t], lp.eraseIdx r.toNat, rp ++ [lp[r.toNat]], rfl, rfl, fun b o n1 n2 n3 eb => ?_, ?_, ?_, upd_same, (hL4.eraseIdx _).map mp, (hR4.snoc ht).map mp, ?_, fun p hp => hm1 p (List.mem_of_mem_eraseIdx hp), fun p hp => ?_⟩
      · rw [upd_ne n2, upd_ne n1]
        exact x4.s _ _ n3 (s3 _ _ (bb _ _ n1 n2 n3 eb))
      · obtain ⟨a1, a2, a3, ea⟩ := x4.d
        exact ⟨a1, a2, a3, by rw [upd_ne (Ne.symm nDd), upd_ne (Ne.symm nld)]; exact ea⟩
      · rw [upd_ne nlD, upd_same]
      · rw [List.length_append]
        simp only [List.length_cons, List.length_nil]
        omega
      · rcases List.mem_append.mp hp with hp | hp
        · exact hm2 p hp
        · rw [List.mem_singleton.mp hp]
          exact hm1 _ (List.getElem_mem hkp)
    · have hnil : lp = [] := by
        cases lp with
        | nil => rfl
        | cons p r => cases e
      subst hnil
      refine ⟨_, rfl, q D H3 rs rp ⟨fun b o nb eb => s3 _ _ (bb _ _ (ne_of_none eb nl) (ne_of_none eb nD0) nb eb), hd3⟩ hD3 hR3 nDd nD0 (by simpa using hlen) hm2⟩
end
end TB
namespace TB
open PySem PySem.Spec PyProof.Rows L2
section
variable {P : Program} {w : World} {K : PySem.W.Frag} {mg : Str → Option Value} {base : Heap}
theorem mv_min {lf : Bool} {n : Nat} {x : Int} {p : Nat} (h0 : 0 ≤ x) (h1 : x < 2 ^ n) : mv lf n x (min p n) = mv lf n x p := by
  by_cases h : p ≤ n
  · rw [Nat.min_eq_left h]
  · rw [Nat.min_eq_right (by omega)]
    have e : p = n + (p - n) := by omega
    cases lf with
    | true =>
      show x * 2 ^ n % 2 ^ n = x * 2 ^ p % 2 ^ n
      rw [e, two_add, Int.mul_emod_left, ← Int.mul_assoc, Int.mul_right_comm, Int.mul_emod_left]
    | false =>
      show x / 2 ^ n = x / 2 ^ p
      have hle : (2 : Int) ^ n ≤ 2 ^ p := two_mono (by omega)
      rw [Int.ediv_eq_zero_of_lt h0 h1, Int.ediv_eq_zero_of_lt h0 (by omega)]
theorem minN (p n : Nat) : (if (n : Int) < (p : Int) then (n : Int) else (p : Int)) = ((min p n : Nat) : Int) := by
  split <;> omega
def sp__law_moved (K : PySem.W.Frag) : Sp := fun vs H Q _ => ∃ (n : Nat) (lf : Bool) (x : Int) (p : Nat), vs = [.int n, .str (sideS lf), .int x, .int p] ∧ n ≤ 32 ∧ 0 ≤ x ∧ x < 2 ^ n ∧ Q (.int (mv lf n x p)) H
theorem ok__law_moved (T : Txt K mg) : FnOk P w K mg base CX0 2 T._law_moved.f T._law_moved.fd ["_law_size", "_law_side", "_law_word", "_law_places"] (sp__law_moved K) := by
  refine T._law_moved.F.ok sc__law_moved (fun vs H Q E h => ?_) (fun cdv A outer s H vs Q E hr h => ?_)
  · obtain ⟨n, lf, x, p, rfl, _⟩ := h
    rfl
  · obtain ⟨n, lf, x, p, rfl, h1, h2, h3, q⟩ := h
    have hb := two32 h1
    rw [← mv_min h2 h3] at q
    refine ⟨_, (pss_cons (ps_set (i := 4) sc__law_moved.nd rfl (.inl rfl) (pe_call (ok__law_two_to T) (hr.mono (by decide)) (by rfl) T._law_two_to.g T._law_two_to.F.kp T._law_two_to.b .nil pass0 (pa_cons (pe_callB (call_min2 rfl) (by rfl) T.z_min (by decide +kernel) (pa_cons (pv 3) (pa_cons (pv 0) pa_nil))) pa_nil))) 
      (pss_one (ps_ret (pe_ifExp (pt_cmpR op_eq (pv 1) pe_str (nomark _)) (pe_op op_mod (pe_op op_mul (pv 2) (pv 4)) (pe_call (ok__law_two_to T) (hr.mono (by decide)) (by rfl) T._law_two_to.g T._law_two_to.F.kp T._law_two_to.b .nil pass0 (pa_cons (pv 0) pa_nil))) (pe_op op_fdivW (pv 2) (pv 4)))))), ?_⟩
    refine ⟨_, rfl, _, rfl, _, _, rfl, min p n, congrArg (fun z => [V.int z]) (minN p n), by omega, ?_⟩
    cases lf with
    | true =>
      refine ⟨_, rfl, rfl, true, congrArg V.bl (decide_eq_true rfl), iteT ?_⟩
      exact ⟨_, rfl, _, rfl, _, _, rfl, rfl, .inl ⟨by omega, by omega⟩, _, rfl, n, rfl, by omega, _, _, rfl, rfl, two_pos n, q⟩
    | false =>
      refine ⟨_, rfl, rfl, false, congrArg V.bl (decide_eq_false (by decide)), iteF ?_⟩
      have hk : (2 : Int) ^ min p n ≤ 2 ^ 32 := two_mono (by omega)
      have hk0 := two_pos (min p n)
      exact ⟨_, rfl, _, rfl, _, _, rfl, rfl, wide_div (b := 65) hk0 (by omega) (by decide) (by decide), q⟩
theorem byS_sum (c : Int) : ∀ rs : Rd2, (rs.filterMap fun p => if onB c p.1 then some (p.2 : Int) else none).sum = (byS c rs : Int)
  | [] => rfl
  | p :: r => by
    have ih := byS_sum c r
    show _ = (((if onB c p.1 then p.2 else 0) + byS c r : Nat) : Int)
    cases e : onB c p.1 with
    | true =>
      rw [List.filterMap_cons_some (by rw [e]; rfl), List.sum_cons, ih, if_pos rfl]
      omega
    | false =>
      rw [List.filterMap_cons_none (by rw [e]; rfl), ih, if_neg Bool.false_ne_true]
      omega
theorem by_filterMap_map (c : Int) (rs : Rd2) : rs.filterMap (fun p => if onB c p.1 then some (V.int (p.2 : Int)) else none) = (rs.filterMap fun p => if onB c p.1 then some (p.2 : Int) else none).map V.int := by
  rw [List.map_filterMap]
  congr 1
  funext p
  cases onB c p.1 <;> rfl
def sp__law_by (K : PySem.W.Frag) : Sp := fun vs H Q _ => ∃ (a : Addr) (m : Nat) (rs : Rd2) (c : Int), vs = [.ref a, .int c] ∧ Nonempty (RdAt K H a m rs) ∧ m ≤ 6 ∧ ∀ H', Same H H' → Q (.int (byS c rs : Nat)) H'
theorem ok__law_by (T : Txt K mg) : FnOk P w K mg base CX0 2 T._law_by.f T._law_by.fd ["_law_rounds", "_law_amount"] (sp__law_by K) := by
  refine T._law_by.F.ok sc__law_by (fun vs H Q E h => ?_) (fun cdv A outer s H vs Q E hr h => ?_)
  · obtain ⟨a, m, rs, c, rfl, _⟩ := h
    rfl
  · obtain ⟨a, m, rs, c, rfl, ⟨hR⟩, hm, q⟩ := h
    have hlen := hR.len
    have hln := hR.ln
    refine ⟨_, (pss_one (ps_ret (pe_callB (cr_sum rfl) (by rfl) T.z_sum (by decide +kernel) (pa_cons (pe_lc (own := [("_law_bit", 2), ("_law_by_here", 3)]) (g := gTup K 2 (gCons (gName 2) (gCons (gName 3) gNil))) (by rfl) sc__law_by.nd (pi_tup (pv 0)) (blkOk_by (own := [("_law_bit", 2), ("_law_by_here", 3)]) (N := ["_law_rounds", "_law_amount", "_law_bit", "_law_by_here"]) (sc := defScope s__law_by) (by decide +kernel)) (fun _ _ _ _ _ => (pg_tup rfl (pgs_cons (pg_name (i := 2) sc__law_by.nd rfl (.inl rfl)) (pgs_cons (pg_name (i := 3) sc__law_by.nd rfl (.inl rfl)) pgs_nil)))) (fun _ _ _ _ _ => (pts_one (pt_cmpR op_eq (pe_op op_mod (pe_op op_fdivW (pv 1) (pe_call (ok__law_two_to T) (hr.mono (by decide)) (by rfl) T._law_two_to.g T._law_two_to.F.kp T._law_two_to.b .nil pass0 (pa_cons (pv 2) pa_nil))) pe_int) pe_int (nomark _)))) (fun _ _ _ _ _ => (pv 3))) pa_nil)))), ?_⟩
    refine ⟨_, rfl, a, rfl, ⟨_, hR.t⟩, lc_tupO hR.t (fun i => rs[i]?.bind fun p => if onB c p.1 then some (V.int (p.2 : Int)) else none) (by omega) ?_ fun D H2 s2 e2 _ => ?_⟩
    · intro i x H' hx s3 R N hRr hN
      obtain ⟨p, t, hp, rfl, ht, p1, p2⟩ := hR.get hx
      rw [hp] at hRr hN
      refine ⟨t, _, rfl, sT s3 ht, rfl, _, _, rfl, _, [], rfl, rfl, rfl, ?_⟩
      have hk : (2 : Int) ^ p.1 ≤ 2 ^ 32 := two_mono (by omega)
      have hk0 := two_pos p.1
      refine ⟨_, rfl, _, rfl, p.1, rfl, by omega, _, _, rfl, rfl, wide_div (b := 65) hk0 (by omega) (by decide) (by decide), _, _, rfl, rfl, p0, rfl, _, rfl, ite3 (fun e => ?_) (fun e => ?_)⟩
      · have ho : onB c p.1 = true := decide_eq_true (V.int.inj (of_decide_eq_true e))
        exact ⟨_, rfl, hRr _ _ (by rw [Option.bind_some, ho]; rfl) (Same.refl _)⟩
      · have ho : onB c p.1 = false := decide_eq_false fun z => of_decide_eq_false e (congrArg V.int z)
        exact hN _ (by rw [Option.bind_some, ho]; rfl) (Same.refl _)
    · have e3 : H2 D = some (.lst ((rs.filterMap fun p => if onB c p.1 then some (p.2 : Int) else none).map V.int)) := by
        rw [← by_filterMap_map, ← range_filterMap, ← hR.ln]
        exact e2
      refine ⟨D, _, rfl, SqL.of e3, ?_⟩
      rw [byS_sum]
      exact q _ s2
theorem isK_ib : (kinds.all fun T => (isK T "bool" || !isK T "int") == !(T == "int")) = true := by decide +kernel
def sp__law_is_paper (K : PySem.W.Frag) : Sp := fun vs H Q _ => ∃ (n : Nat) (lf : Bool) (m : Nat) (a : Addr) (rs : Rd2) (v : V) (o : Option (V × V)), vs = [.int n, .str (sideS lf), .int m, .ref a, v] ∧ 1 ≤ n ∧ n ≤ 32 ∧ 1 ≤ m ∧ m ≤ 6 ∧ Nonempty (RdAt K H a m rs) ∧
  PapV K H v o ∧ ∀ H', Same H H' → Q (.bl (papR lf n m rs o)) H'
theorem ok__law_is_paper (T : Txt K mg) : FnOk P w K mg base CX0 3 T._law_is_paper.f T._law_is_paper.fd ["_law_size", "_law_side", "_law_many", "_law_rounds", "_law_value"] (sp__law_is_paper K) := by
  refine T._law_is_paper.F.ok sc__law_is_paper (fun vs H Q E h => ?_) (fun cdv A outer s H vs Q E hr h => ?_)
  · obtain ⟨n, lf, m, a, rs, v, o, rfl, _⟩ := h
    rfl
  · obtain ⟨n, lf, m, a, rs, v, o, rfl, n1, n2, m1, m2, ⟨hR⟩, hv, q⟩ := h
    refine ⟨_, (pss_cons (ps_if (PW.pt (pw_or (pt_not (pt_val (pe_callB call_isiK (by rfl) T.z_isinstance (by decide +kernel) (pa_cons (pv 4) (pa_cons (pe_bltn (v := .ty "tuple") (by rfl) T.z_tuple (by decide +kernel) rfl) pa_nil))))) (pw_or1 (pt_cmpR op_ne (pe_callB call_len_seq (by rfl) T.z_len PySem.boot_len (pa_cons (pv 4) pa_nil)) pe_int (nomark _))))) 
        (pss_one (ps_ret pe_bl)) pss_nil) 
      (pss_cons (ps_if (pt_cmpR (op_neD hr.units) (pe_lc (own := [("_law_one", 7)]) (by rfl) sc__law_is_paper.nd (pi_tup (pv 4)) (blkOk_by (own := [("_law_one", 7)]) (N := ["_law_size", "_law_side", "_law_many", "_law_rounds", "_law_value", "_law_word", "_law_amount", "_law_one"]) (sc := defScope s__law_is_paper) (by decide +kernel)) (fun _ _ _ _ _ => (pg_name (i := 7) sc__law_is_paper.nd rfl (.inl rfl))) (fun _ _ _ _ _ => (pts_one (PW.pt (pw_or (pt_val (pe_callB (call_isiKK (K := K) rfl) (by rfl) T.z_isinstance (by decide +kernel) (pa_cons (pv 7) (pa_cons (pe_bltn (v := .ty "bool") (by rfl) T.z_bool (by decide +kernel) rfl) pa_nil)))) (pw_or1 (pt_not (pt_val (pe_callB (call_isiKK (K := K) rfl) (by rfl) T.z_isinstance (by decide +kernel) (pa_cons (pv 7) (pa_cons (pe_bltn (v := .ty "int") (by rfl) T.z_int (by decide +kernel) rfl) pa_nil)))))))))) (fun _ _ _ _ _ => pe_int)) (pe_lstA pa_nil) (nomark _)) 
        (pss_one (ps_ret pe_bl)) pss_nil) 
      (pss_cons (ps_asg (pv 4) (pg_tup rfl (pgs_cons (pg_name (i := 5) sc__law_is_paper.nd rfl (.inl rfl)) (pgs_cons (pg_name (i := 6) sc__law_is_paper.nd rfl (.inl rfl)) pgs_nil)))) 
      (pss_cons (ps_if (PW.pt (pw_or (pt_not (pt_chain op_le op_lt pe_int (pv 5) (pe_call (ok__law_two_to T) (hr.mono (by decide)) (by rfl) T._law_two_to.g T._law_two_to.F.kp T._law_two_to.b .nil pass0 (pa_cons (pv 0) pa_nil)))) (pw_or1 (pt_not (pt_chain op_le op_lt pe_int (pv 6) (pe_call (ok__law_two_to T) (hr.mono (by decide)) (by rfl) T._law_two_to.g T._law_two_to.F.kp T._law_two_to.b .nil pass0 (pa_cons (pv 2) pa_nil))))))) 
        (pss_one (ps_ret pe_bl)) pss_nil) 
      (pss_one (ps_ret (pe_cmpR op_ne (pe_call (ok__law_moved T) (hr.mono (by decide)) (by rfl) T._law_moved.g T._law_moved.F.kp T._law_moved.b .nil pass0 (pa_cons (pv 0) (pa_cons (pv 1) (pa_cons (pv 5) (pa_cons (pe_call (ok__law_by T) (hr.mono (by decide)) (by rfl) T._law_by.g T._law_by.F.kp T._law_by.b .nil pass0 (pa_cons (pv 3) (pa_cons (pv 6) pa_nil))) pa_nil))))) (pe_call (ok__law_moved T) (hr.mono (by decide)) (by rfl) T._law_moved.g T._law_moved.F.kp T._law_moved.b .nil pass0 (pa_cons (pv 0) (pa_cons (pv 1) (pa_cons (pv 5) (pa_cons (pv 6) pa_nil))))) (nomark _)))))))), ?_⟩
    cases hv with
    | non h hn =>
      refine ⟨_, rfl, _, _, _, rfl, h, by decide, _, rfl, iteNF (isK_tup hn) ?_⟩
      exact q _ (Same.refl _)
    | len h hn =>
      refine ⟨_, rfl, _, _, _, rfl, .t h, by decide, true, rfl, iteF ?_⟩
      refine ⟨_, rfl, _, _, rfl, .inr h, rfl, _, rfl, iteB (neTI (by omega)) ?_⟩
      exact q _ (Same.refl _)
    | @two b x y kx ky h hx hy =>
      refine ⟨_, rfl, _, _, _, rfl, .t h, by decide, true, rfl, iteF ?_⟩
      refine ⟨_, rfl, _, _, rfl, .inr h, rfl, _, rfl, iteBF (neFI rfl) ?_⟩
      refine ⟨_, rfl, b, rfl, ⟨_, h⟩, lc_tupF h (fun v => if isIntV v then none else some (V.int 1)) (by show 2 ≤ 100000; decide) ?_ fun D H1 s1 e1 _ => ?_⟩
      · intro i z H' hz sm R N hRr hN
        obtain ⟨kd, hk⟩ : ∃ kd, Knd K H' z kd := by
          have hm := List.mem_of_getElem? hz
          simp only [List.mem_cons, List.not_mem_nil, or_false] at hm
          rcases hm with rfl | rfl
          · exact ⟨_, hx.same sm⟩
          · exact ⟨_, hy.same sm⟩
        have e := beq_iff_eq.mp (List.all_eq_true.mp isK_ib kd hk.2)
        rw [hk.int_iff] at e
        refine ⟨rfl, _, rfl, z, kd, _, rfl, hk, by decide, _, rfl, ite3 (fun e1 => ?_) (fun e1 => ?_)⟩
        · rw [e1, Bool.true_or] at e
          have ez : isIntV z = false := by
            cases h : isIntV z with
            | true =>
              rw [h] at e
              cases e
            | false => rfl
          exact iteT (hRr _ _ (by rw [ez]; rfl) (Same.refl _))
        · rw [e1, Bool.false_or] at e
          refine ⟨_, rfl, z, kd, _, rfl, hk, by decide, _, rfl, ite3 (fun e2 => ?_) (fun e2 => ?_)⟩
          · rw [e2] at e
            have ez : isIntV z = false := by
              cases h : isIntV z with
              | true =>
                rw [h] at e
                cases e
              | false => rfl
            exact hRr _ _ (by rw [ez]; rfl) (Same.refl _)
          · rw [e2] at e
            have ez : isIntV z = true := by
              cases h : isIntV z with
              | true => rfl
              | false =>
                rw [h] at e
                cases e
            exact hN _ (by rw [ez]; rfl) (Same.refl _)
      refine ⟨sz, fun l2 H2 s2 e2 _ => ?_⟩
      have s12 := s1.trans s2
      by_cases hi : isIntV x = true ∧ isIntV y = true
      · obtain ⟨hix, hiy⟩ := hi
        have e1' : H1 D = some (.lst []) := by
          rw [e1]
          simp only [List.filterMap, hix, hiy]
          rfl
        refine ⟨_, _, .lst (SqL.of (s2 _ _ e1')) .nil, .lst (SqL.of e2) .nil, rfl, rfl, _, rfl, iteBF rfl ?_⟩
        cases x with
        | int x =>
          cases y with
          | int c =>
            refine ⟨_, rfl, b, _, rfl, sT s12 h, rfl, _, _, rfl, _, [], rfl, rfl, ?_⟩
            have q1 := q _ s12
            have hpr : papR lf n m rs (some (.int x, .int c)) = ((decide (0 ≤ x) && decide (x ≤ 2 ^ n - 1)) && ((decide (0 ≤ c) && decide (c ≤ 2 ^ m - 1)) && !decide (mv lf n x (byS c rs) = mv lf n x c.toNat))) := rfl
            rw [hpr] at q1
            by_cases x0 : 0 ≤ x
            rotate_left
            · rw [decide_eq_false x0] at q1
              exact ⟨_, rfl, 0, x, rfl, rfl, _, rfl, iteBF (decide_eq_false x0) ⟨_, rfl, iteT (iteT q1)⟩⟩
            by_cases x1 : x < 2 ^ n
            rotate_left
            · rw [decide_eq_false (show ¬ x ≤ 2 ^ n - 1 by omega), Bool.and_false] at q1
              exact ⟨_, rfl, 0, x, rfl, rfl, _, rfl, iteB (decide_eq_true x0) ⟨_, rfl, n, rfl, by omega, _, _, rfl, rfl, _, rfl, iteNF (decide_eq_false x1) (iteT q1)⟩⟩
            rw [decide_eq_true x0, decide_eq_true (show x ≤ 2 ^ n - 1 by omega), Bool.true_and, Bool.true_and] at q1
            refine ⟨_, rfl, 0, x, rfl, rfl, _, rfl, iteB (decide_eq_true x0) ⟨_, rfl, n, rfl, by omega, _, _, rfl, rfl, _, rfl, iteN (decide_eq_true x1) ?_⟩⟩
            by_cases c0 : 0 ≤ c
            rotate_left
            · rw [decide_eq_false c0] at q1
              exact ⟨_, rfl, 0, c, rfl, rfl, _, rfl, iteBF (decide_eq_false c0) ⟨_, rfl, iteT q1⟩⟩
            by_cases c1 : c < 2 ^ m
            rotate_left
            · rw [decide_eq_false (show ¬ c ≤ 2 ^ m - 1 by omega), Bool.and_false, Bool.false_and] at q1
              exact ⟨_, rfl, 0, c, rfl, rfl, _, rfl, iteB (decide_eq_true c0) ⟨_, rfl, m, rfl, by omega, _, _, rfl, rfl, _, rfl, iteNF (decide_eq_false c1) q1⟩⟩
            rw [decide_eq_true c0, decide_eq_true (show c ≤ 2 ^ m - 1 by omega), Bool.true_and, Bool.true_and] at q1
            refine ⟨_, rfl, 0, c, rfl, rfl, _, rfl, iteB (decide_eq_true c0) ⟨_, rfl, m, rfl, by omega, _, _, rfl, rfl, _, rfl, iteN (decide_eq_true c1) ?_⟩⟩
            have hc : c = (c.toNat : Int) := by omega
            refine ⟨_, rfl, _, rfl, _, rfl, _, rfl, _, rfl, a, m, rs, c, rfl, ⟨hR.same s12⟩, m2, fun H3 s3 => ?_⟩
            refine ⟨n, lf, x, byS c rs, rfl, n2, x0, x1, _, rfl, _, rfl, _, rfl, _, rfl, n, lf, x, c.toNat, (by rw [← hc]; rfl), n2, x0, x1, rfl, ?_⟩
            have q3 := q _ (s12.trans s3)
            rw [hpr, decide_eq_true x0, decide_eq_true (show x ≤ 2 ^ n - 1 by omega), decide_eq_true c0, decide_eq_true (show c ≤ 2 ^ m - 1 by omega)] at q3
            by_cases h : mv lf n x (byS c rs) = mv lf n x c.toNat
            · rw [decide_eq_true h] at q3
              rw [neFI h]
              exact q3
            · rw [decide_eq_false h] at q3
              rw [neTI h]
              exact q3
          | _ => cases hiy
        | _ => cases hix
      · have hp : papR lf n m rs (some (x, y)) = false := by
          cases x with
          | int x =>
            cases y with
            | int c => exact absurd ⟨rfl, rfl⟩ hi
            | _ => rfl
          | _ => rfl
        obtain ⟨ns, e1', hne⟩ : ∃ ns : List Int, H1 D = some (.lst (ns.map V.int)) ∧ ns ≠ [] := by
          cases hx : isIntV x with
          | true =>
            cases hy : isIntV y with
            | true => exact absurd ⟨hx, hy⟩ hi
            | false => exact ⟨[1], by rw [e1]; simp only [List.filterMap, hx, hy]; rfl, by simp⟩
          | false =>
            cases hy : isIntV y with
            | true => exact ⟨[1], by rw [e1]; simp only [List.filterMap, hx, hy]; rfl, by simp⟩
            | false => exact ⟨[1, 1], by rw [e1]; simp only [List.filterMap, hx, hy]; rfl, by simp⟩
        refine ⟨_, _, .lst (SqL.of (s2 _ _ e1')) (dpI ns), .lst (SqL.of e2) .nil, shL _, rfl, _, rfl, iteB ?_ ?_⟩
        · cases ns with
          | nil => exact absurd rfl hne
          | cons a r => rfl
        · have q1 := q _ s12
          rw [hp] at q1
          exact q1
end
end TB
namespace TB
open PySem PySem.Spec PyProof.Rows L2
section
variable {P : Program} {w : World} {K : PySem.W.Frag} {mg : Str → Option Value} {base : Heap}
def GoodP (m : Nat) (ps : List (Int × Int)) : Prop := ∀ p ∈ ps, 0 ≤ p.1 ∧ p.1 < m ∧ 0 ≤ p.2 ∧ p.2 ≤ 64
theorem GoodP.snoc {m : Nat} {ps : List (Int × Int)} {p : Int × Int} (h : GoodP m ps) (h1 : 0 ≤ p.1) (h2 : p.1 < m) (h3 : 0 ≤ p.2) (h4 : p.2 ≤ 64) : GoodP m (ps ++ [p]) := by
  intro q hq
  rcases List.mem_append.mp hq with hq | hq
  · exact h q hq
  · rw [List.mem_singleton.mp hq]
    exact ⟨h1, h2, h3, h4⟩
theorem GoodP.set {m : Nat} {ps : List (Int × Int)} {p : Int × Int} (i : Nat) (h : GoodP m ps) (h1 : 0 ≤ p.1) (h2 : p.1 < m) (h3 : 0 ≤ p.2) (h4 : p.2 ≤ 64) : GoodP m (ps.set i p) := by
  intro q hq
  rcases List.mem_or_eq_of_mem_set hq with hq | hq
  · exact h q hq
  · rw [hq]
    exact ⟨h1, h2, h3, h4⟩
/-- good pairs are rounds -/
theorem GoodP.rounds {m : Nat} {ps : List (Int × Int)} (h : GoodP m ps) : ∃ rs : Rd2, rs.map prI = ps ∧ ∀ p ∈ rs, p.1 < m ∧ p.2 ≤ 64 := by
  refine ⟨ps.map fun p => (p.1.toNat, p.2.toNat), ?_, fun p hp => ?_⟩
  · rw [List.map_map]
    have e : ∀ p ∈ ps, (prI ∘ fun p : Int × Int => (p.1.toNat, p.2.toNat)) p = p := fun p hp => by
      obtain ⟨h1, h2, h3, h4⟩ := h p hp
      show ((p.1.toNat : Int), (p.2.toNat : Int)) = p
      rw [Int.toNat_of_nonneg h1, Int.toNat_of_nonneg h3]
    rw [List.map_congr_left e]
    exact List.map_id ps
  · obtain ⟨q, hq, rfl⟩ := List.mem_map.mp hp
    obtain ⟨h1, h2, h3, h4⟩ := h q hq
    exact ⟨by show q.1.toNat < m; omega, by show q.2.toNat ≤ 64; omega⟩
/-- the list of rounds while it is drawn -/
structure FSt (K : PySem.W.Frag) (H : Hp) (D : Addr) (m z : Nat) (ps : List (Int × Int)) (rs : List V) : Prop where
  l : H D = some (.lst rs)
  p : PairsL K H rs ps
  g : GoodP m ps
  z : ps.length ≤ z
theorem FSt.ext {H H' : Hp} {d D : Addr} {m z : Nat} {ps : List (Int × Int)} {rs : List V} (h : FSt K H D m z ps rs) (x : Ext d H H') (hd : Dice H d) (nD : D ≠ d) : FSt K H' D m z ps rs :=
  ⟨x.s _ _ nD h.l, h.p.map fun a xs t => x.seqT hd t, h.g, h.z⟩
theorem FSt.same {H H' : Hp} {D : Addr} {m z : Nat} {ps : List (Int × Int)} {rs : List V} (h : FSt K H D m z ps rs) (s : Same H H') : FSt K H' D m z ps rs := ⟨s _ _ h.l, h.p.same s, h.g, h.z⟩
theorem FSt.up {H : Hp} {D : Addr} {m z z' : Nat} {ps : List (Int × Int)} {rs : List V} (h : FSt K H D m z ps rs) (hz : z ≤ z') : FSt K H D m z' ps rs := ⟨h.l, h.p, h.g, Nat.le_trans h.z hz⟩
theorem FSt.app {H : Hp} {D t : Addr} {m z : Nat} {ps : List (Int × Int)} {rs : List V} {p : Int × Int} (h : FSt K H D m z ps rs) (ht : SqT K H t (pairV p)) (h1 : 0 ≤ p.1) (h2 : p.1 < m) (h3 : 0 ≤ p.2) (h4 : p.2 ≤ 64) :
    FSt K (upd H D (.lst (rs ++ [.ref t]))) D m (z + 1) (ps ++ [p]) (rs ++ [.ref t]) :=
  ⟨upd_same, (h.p.snoc ht).map fun a xs u => (But.mut (l := D)).seqT h.l u, h.g.snoc h1 h2 h3 h4, by rw [List.length_append]; have := h.z; simp only [List.length_cons, List.length_nil]; omega⟩
def clamp (a : Int) : Int := if (if a < 64 then a else 64) > 0 then (if a < 64 then a else 64) else 0
theorem clamp_in (a : Int) : 0 ≤ clamp a ∧ clamp a ≤ 64 := by
  unfold clamp
  split
  · split <;> omega
  · omega
def sp__law_rounds_drawn (K : PySem.W.Frag) : Sp := fun vs H Q _ => ∃ (d : Addr) (n m : Nat), vs = [.ref d, .int n, .int m] ∧ Dice H d ∧ 1 ≤ n ∧ n ≤ 32 ∧ 1 ≤ m ∧ m ≤ 6 ∧
  ∀ a H' rs, Ext d H H' → Nonempty (RdAt K H' a m rs) → Q (.ref a) H'
theorem ok__law_rounds_drawn (T : Txt K mg) : FnOk P w K mg base CX0 3 T._law_rounds_drawn.f T._law_rounds_drawn.fd ["_law_dice_here", "_law_size", "_law_many"] (sp__law_rounds_drawn K) := by
  refine T._law_rounds_drawn.F.ok sc__law_rounds_drawn (fun vs H Q E h => ?_) (fun cdv A outer s H vs Q E hr h => ?_)
  · obtain ⟨d, n, m, rfl, _⟩ := h
    rfl
  · obtain ⟨d, n, m, rfl, hd, n1, n2, m1, m2, q⟩ := h
    refine ⟨_, (pss_cons (ps_set (i := 3) sc__law_rounds_drawn.nd rfl (.inl rfl) (pe_lstA pa_nil)) 
      (pss_cons (ps_for PassesOwn.never rfl (pi_range1 (by rfl) T.z_range (pa_cons (pv 2) pa_nil)) (pg_name (i := 4) sc__law_rounds_drawn.nd rfl (.inl rfl)) 
        (pss_cons (ps_set (i := 5) sc__law_rounds_drawn.nd rfl (.inl rfl) (pe_call (ok__law_two_to T) (hr.mono (by decide)) (by rfl) T._law_two_to.g T._law_two_to.F.kp T._law_two_to.b .nil pass0 (pa_cons (pv 4) pa_nil))) 
        (pss_cons (ps_join (ps_if (PW.pt (pw_and (pt_cmpR op_ge (pv 5) (pv 1) (nomark _)) (pw_and1 (pt_cmpR op_eq (pe_call (ok__law_roll T) (hr.mono (by decide)) (by rfl) T._law_roll.g T._law_roll.F.kp T._law_roll.b .nil pass0 (pa_cons (pv 0) (pa_cons pe_int pa_nil))) pe_int (nomark _))))) 
          (pss_one (ps_set (i := 5) sc__law_rounds_drawn.nd rfl (.inl rfl) (pe_op op_add (pv 1) (pe_call (ok__law_roll T) (hr.mono (by decide)) (by rfl) T._law_roll.g T._law_roll.F.kp T._law_roll.b .nil pass0 (pa_cons (pv 0) (pa_cons pe_int pa_nil)))))) pss_nil)) 
        (pss_cons (ps_join (ps_while PassesOwn.never (pt_cmpR op_gt (pv 5) pe_int (nomark _)) 
          (pss_cons (ps_set (i := 6) sc__law_rounds_drawn.nd rfl (.inl rfl) (pe_call (ok__law_one_of T) (hr.mono (by decide)) (by rfl) T._law_one_of.g T._law_one_of.F.kp T._law_one_of.b .nil pass0 (pa_cons (pv 0) (pa_cons (pe_lstA (pa_cons (pv 5) (pa_cons (pv 5) (pa_cons (pe_op op_add pe_int (pe_call (ok__law_roll T) (hr.mono (by decide)) (by rfl) T._law_roll.g T._law_roll.F.kp T._law_roll.b .nil pass0 (pa_cons (pv 0) (pa_cons (pv 5) pa_nil)))) pa_nil)))) pa_nil)))) 
          (pss_cons (ps_expr (pe_bm PySem.F.plainAttrs_list PySem.F.slot_list_append PySem.F.type_list_append mt_append (pv 3) (pa_cons (pe_tupA (pa_cons (pv 4) (pa_cons (pv 6) pa_nil))) pa_nil))) 
          (pss_one (ps_set (i := 5) sc__law_rounds_drawn.nd rfl (.inl rfl) (pe_ifExp (pt_cmpR op_lt (pe_callB call_len_seq (by rfl) T.z_len PySem.boot_len (pa_cons (pv 3) pa_nil)) pe_int (nomark _)) (pe_op op_sub (pv 5) (pv 6)) pe_int))))))) 
        (pss_one (ps_join (ps_if (pt_cmpR op_eq (pe_call (ok__law_roll T) (hr.mono (by decide)) (by rfl) T._law_roll.g T._law_roll.F.kp T._law_roll.b .nil pass0 (pa_cons (pv 0) (pa_cons pe_int pa_nil))) pe_int (nomark _)) 
          (pss_one (ps_expr (pe_bm PySem.F.plainAttrs_list PySem.F.slot_list_append PySem.F.type_list_append mt_append (pv 3) (pa_cons (pe_tupA (pa_cons (pv 4) (pa_cons pe_int pa_nil))) pa_nil)))) pss_nil))))))) 
      (pss_cons (ps_set (i := 3) sc__law_rounds_drawn.nd rfl (.inl rfl) (pe_call (ok__law_mixed T) (hr.mono (by decide)) (by rfl) T._law_mixed.g T._law_mixed.F.kp T._law_mixed.b .nil pass0 (pa_cons (pv 0) (pa_cons (pv 3) pa_nil)))) 
      (pss_cons (ps_set (i := 7) sc__law_rounds_drawn.nd rfl (.inl rfl) (pe_call (ok__law_roll T) (hr.mono (by decide)) (by rfl) T._law_roll.g T._law_roll.F.kp T._law_roll.b .nil pass0 (pa_cons (pv 0) (pa_cons (pe_callB call_len_seq (by rfl) T.z_len PySem.boot_len (pa_cons (pv 3) pa_nil)) pa_nil)))) 
      (pss_cons (ps_join (ps_if (pt_cmpR op_eq (pe_call (ok__law_roll T) (hr.mono (by decide)) (by rfl) T._law_roll.g T._law_roll.F.kp T._law_roll.b .nil pass0 (pa_cons (pv 0) (pa_cons pe_int pa_nil))) pe_int (nomark _)) 
        (pss_one (ps_asg (pe_tupA (pa_cons (pe_ix ix_tup (pe_ix ix_list (pv 3) (pv 7) (fun _ _ => rfl)) pe_int (fun _ _ => rfl)) (pa_cons (pe_callB (call_max2 rfl) (by rfl) T.z_max (by decide +kernel) (pa_cons pe_int (pa_cons (pe_callB (call_min2 rfl) (by rfl) T.z_min (by decide +kernel) (pa_cons pe_int (pa_cons (pe_op op_add (pe_ix ix_tup (pe_ix ix_list (pv 3) (pv 7) (fun _ _ => rfl)) pe_int (fun _ _ => rfl)) (pe_call (ok__law_one_of T) (hr.mono (by decide)) (by rfl) T._law_one_of.g T._law_one_of.F.kp T._law_one_of.b .nil pass0 (pa_cons (pv 0) (pa_cons (pe_lstA (pa_cons pe_int (pa_cons (pe_un un_neg pe_int) (pa_cons pe_int (pa_cons pe_int pa_nil))))) pa_nil)))) pa_nil))) pa_nil))) pa_nil))) (pg_sub (pv 3) (pv 7) set_list))) pss_nil)) 
      (pss_cons (ps_join (ps_if (pt_cmpR op_eq (pe_call (ok__law_roll T) (hr.mono (by decide)) (by rfl) T._law_roll.g T._law_roll.F.kp T._law_roll.b .nil pass0 (pa_cons (pv 0) (pa_cons pe_int pa_nil))) pe_int (nomark _)) 
        (pss_one (ps_asg (pe_tupA (pa_cons (pe_call (ok__law_roll T) (hr.mono (by decide)) (by rfl) T._law_roll.g T._law_roll.F.kp T._law_roll.b .nil pass0 (pa_cons (pv 0) (pa_cons (pv 2) pa_nil))) (pa_cons (pe_ix ix_tup (pe_ix ix_list (pv 3) (pv 7) (fun _ _ => rfl)) pe_int (fun _ _ => rfl)) pa_nil))) (pg_sub (pv 3) (pv 7) set_list))) pss_nil)) 
      (pss_one (ps_ret (pe_ifExp (pt_cmpR op_eq (pe_call (ok__law_roll T) (hr.mono (by decide)) (by rfl) T._law_roll.g T._law_roll.F.kp T._law_roll.b .nil pass0 (pa_cons (pv 0) (pa_cons pe_int pa_nil))) pe_int (nomark _)) (pe_callTy call_tupleA (by rfl) T.z_tuple (by decide +kernel) (pa_cons (pe_slice sl_listA (pv 3) (po_some pe_int) po_none) pa_nil)) (pe_callTy call_tupleA (by rfl) T.z_tuple (by decide +kernel) (pa_cons (pv 3) pa_nil))))))))))), ?_⟩
    refine ⟨sz, fun D H0 s0 e0 nD => ?_⟩
    have nDd : D ≠ d := hd.ne nD
    refine ⟨_, rfl, _, rfl, by omega, by omega, for_rangeN (n := m) (fun i σ H' => ∃ (rs : List V) (ps : List (Int × Int)) (y1 y2 y3 : Option V), σ = [some (.ref d), some (.int n), some (.int m), some (.ref D), y1, y2, y3, none] ∧
      (∀ b o, b ≠ D → b ≠ d → H0 b = some o → H' b = some o) ∧ Dice H' d ∧ FSt K H' D m (12 + 2 * i) ps rs ∧ (1 ≤ i → 1 ≤ ps.length)) ⟨[], [], none, none, none, rfl, fun _ _ _ _ e => e, hd.same s0, ⟨e0, .nil, (fun p h => nomatch h), Nat.zero_le _⟩, fun z => absurd z (by decide)⟩ ?_ ?_⟩
    · rintro b σ H1 hb ⟨rs, ps, y1, y2, y3, rfl, bb, hd1, hF, _⟩
      refine ⟨_, rfl, b, rfl, by omega, ?_⟩
      have hb6 : (2 : Int) ^ b ≤ 2 ^ 5 := two_mono (by omega)
      have hb0 := two_pos b
      have bbx : ∀ {H2 H3 : Hp}, (∀ b o, b ≠ D → b ≠ d → H0 b = some o → H2 b = some o) → Ext d H2 H3 → ∀ b o, b ≠ D → b ≠ d → H0 b = some o → H3 b = some o := fun h x c o n1 n2 e => x.s _ _ n2 (h c o n1 n2 e)
      have bba : ∀ {H2 : Hp} {o : HO}, (∀ b o, b ≠ D → b ≠ d → H0 b = some o → H2 b = some o) → ∀ b o', b ≠ D → b ≠ d → H0 b = some o' → upd H2 D o b = some o' := fun h c o' n1 n2 e => by
        rw [upd_ne n1]
        exact h c o' n1 n2 e
      have dca : ∀ {H2 : Hp} {o : HO}, Dice H2 d → Dice (upd H2 D o) d := fun ⟨a1, a2, a3, e⟩ => ⟨a1, a2, a3, by rw [upd_ne (Ne.symm nDd)]; exact e⟩
      refine ⟨fun σ' H' => ∃ y : Int, σ' = [some (.ref d), some (.int n), some (.int m), some (.ref D), some (.int b), some (.int y), y3, none] ∧ 0 < y ∧ y ≤ 64 ∧ (∀ b o, b ≠ D → b ≠ d → H0 b = some o → H' b = some o) ∧ Dice H' d ∧ FSt K H' D m (12 + 2 * b) ps rs, ?_, ?_⟩
      · refine ⟨_, rfl, _, rfl, _, _, rfl, rfl, _, rfl, ite3 (fun e => ?_) (fun e => ?_)⟩
        · refine ⟨_, rfl, d, 2, rfl, hd1, by decide, by decide, fun r H2 r0 r1 x2 => ⟨rfl, _, rfl, ite3 (fun e2 => ?_) (fun e2 => ?_)⟩⟩
          · refine ⟨_, rfl, _, rfl, d, 5, rfl, x2.d, by decide, by decide, fun r3 H3 r30 r31 x3 => ⟨_, _, rfl, rfl, ?_⟩⟩
            exact ⟨_, rfl, by omega, by omega, bbx (bbx bb x2) x3, x3.d, (hF.ext x2 hd1 nDd).ext x3 x2.d nDd⟩
          · exact ⟨_, rfl, hb0, by omega, bbx bb x2, x2.d, hF.ext x2 hd1 nDd⟩
        · exact ⟨_, rfl, hb0, by omega, bb, hd1, hF⟩
      rintro σ' H2 ⟨y, rfl, y0, y64, bb2, hd2, hF2⟩
      refine ⟨fun σ' H' => ∃ (rs : List V) (ps : List (Int × Int)) (u v : Option V), σ' = [some (.ref d), some (.int n), some (.int m), some (.ref D), some (.int b), u, v, none] ∧ (∀ b o, b ≠ D → b ≠ d → H0 b = some o → H' b = some o) ∧ Dice H' d ∧ FSt K H' D m (12 + 2 * b + 1) ps rs ∧ 1 ≤ ps.length, ?_, ?_⟩
      · refine ⟨fun k σ' H' => ∃ (rs : List V) (ps : List (Int × Int)) (y : Int) (v : Option V), k = y.toNat ∧ σ' = [some (.ref d), some (.int n), some (.int m), some (.ref D), some (.int b), some (.int y), v, none] ∧ (∀ b o, b ≠ D → b ≠ d → H0 b = some o → H' b = some o) ∧ Dice H' d ∧
          FSt K H' D m (12 + 2 * b + 1) ps rs ∧ y ≤ 64 ∧ (0 < y → ps.length ≤ 12 + 2 * b) ∧ (y ≤ 0 → 1 ≤ ps.length), ⟨y.toNat, rs, ps, y, y3, rfl, rfl, bb2, hd2, hF2.up (Nat.le_succ _), y64, fun _ => hF2.z, fun z => by omega⟩, ?_⟩
        rintro k σ' H3 ⟨rs, ps, y, v, rfl, rfl, bb3, hd3, hF3, y64, hz1, hz2⟩
        refine ⟨_, rfl, _, _, rfl, rfl, _, rfl, ite3 (fun e => ?_) (fun e => ?_)⟩
        · have y0 : 0 < y := of_decide_eq_true e
          refine ⟨fun σ' H' => ∃ m', m' < y.toNat ∧ _, fun σ' H' h => h, ?_⟩
          refine ⟨_, rfl, _, rfl, _, rfl, _, rfl, _, rfl, d, y, rfl, hd3, y0, by omega, fun r H4 r0 r1 x4 => ⟨1, r, rfl, rfl, sz, fun l H5 s5 e5 nl => ?_⟩⟩
          have nld : l ≠ d := x4.d.ne nl
          refine ⟨d, l, _, rfl, x4.d.same s5, nld, e5, by show 0 < 3; decide, by show 3 ≤ 100000; decide, fun v6 H6 hv x6 => ?_⟩
          obtain ⟨k, rfl, k1, k2⟩ : ∃ k : Int, v6 = .int k ∧ 1 ≤ k ∧ k ≤ y := by
            simp only [List.mem_cons, List.not_mem_nil, or_false] at hv
            rcases hv with rfl | rfl | rfl
            · exact ⟨_, rfl, by omega, by omega⟩
            · exact ⟨_, rfl, by omega, by omega⟩
            · exact ⟨1 + r, rfl, by omega, by omega⟩
          have bb6 := bbx (fun b o n1 n2 e => s5 _ _ (bbx bb3 x4 b o n1 n2 e)) x6
          have hF6 := ((hF3.ext x4 hd3 nDd).same s5).ext x6 (x4.d.same s5) nDd
          refine ⟨_, rfl, .inl ⟨rfl, _, SqL.of hF6.l⟩, _, rfl, _, rfl, sz, fun t H7 s7 e7 => ?_⟩
          have hF7 := hF6.same s7
          have hlr := hF7.p.len
          have hzz := hF7.z
          refine ⟨D, _, _, rfl, rfl, hF7.l, szlt (by omega), ?_⟩
          have hF7' : FSt K H7 D m (12 + 2 * b) ps rs := ⟨hF7.l, hF7.p, hF7.g, hz1 y0⟩
          have hF8 := FSt.app (K := K) (p := ((b : Int), k)) hF7' e7 (by show (0 : Int) ≤ b; omega) (by show (b : Int) < m; omega) (by show 0 ≤ k; omega) (by show k ≤ 64; omega)
          have bb8 := bba (o := .lst (rs ++ [.ref t])) (fun b o n1 n2 e => s7 _ _ (bb6 b o n1 n2 e))
          have hd8 := dca (o := .lst (rs ++ [.ref t])) (x6.d.same s7)
          have hp1 : 1 ≤ (ps ++ [((b : Int), k)]).length := by simp
          refine ⟨_, rfl, D, _, rfl, .inl (SqL.of hF8.l), _, _, rfl, rfl, _, rfl, ite3 (fun e => ?_) (fun e => ?_)⟩
          · refine ⟨_, rfl, _, rfl, _, _, rfl, rfl, (y - k).toNat, by omega, _, _, y - k, _, rfl, rfl, bb8, hd8, hF8, by omega, fun _ => ?_, fun _ => hp1⟩
            have e' := of_decide_eq_true e
            rw [List.length_append] at e' ⊢
            simp only [List.length_cons, List.length_nil] at e' ⊢
            omega
          · exact ⟨0, by omega, _, _, 0, _, rfl, rfl, bb8, hd8, hF8, by omega, fun z => absurd z (by decide), fun _ => hp1⟩
        · have y0 : y ≤ 0 := by
            have := of_decide_eq_false e
            omega
          exact ⟨rs, ps, _, _, rfl, bb3, hd3, hF3, hz2 y0⟩
      rintro σ' H3 ⟨rs, ps, u, v, rfl, bb3, hd3, hF3, hp1⟩
      refine ⟨_, ?_, fun σ' H' h => h⟩
      refine ⟨_, rfl, d, 5, rfl, hd3, by decide, by decide, fun r H4 r0 r1 x4 => ⟨rfl, _, rfl, ite3 (fun e => ?_) (fun e => ?_)⟩⟩
      · have hF4 := hF3.ext x4 hd3 nDd
        refine ⟨_, rfl, .inl ⟨rfl, _, SqL.of hF4.l⟩, _, rfl, sz, fun t H5 s5 e5 => ?_⟩
        have hF5 := hF4.same s5
        have hlr := hF5.p.len
        have hzz := hF5.z
        refine ⟨D, _, _, rfl, rfl, hF5.l, szlt (by omega), ?_⟩
        have hF6 := FSt.app (K := K) (p := ((b : Int), 0)) hF5 e5 (by show (0 : Int) ≤ b; omega) (by show (b : Int) < m; omega) (by show (0 : Int) ≤ 0; decide) (by show (0 : Int) ≤ 64; decide)
        exact ⟨_, _, _, _, _, rfl, bba (o := .lst (rs ++ [.ref t])) (fun b o n1 n2 e => s5 _ _ (bbx bb3 x4 b o n1 n2 e)), dca (o := .lst (rs ++ [.ref t])) (x4.d.same s5), hF6.up (by omega), fun _ => by simp⟩
      · exact ⟨_, _, _, _, _, rfl, bbx bb3 x4, x4.d, (hF3.ext x4 hd3 nDd).up (by omega), fun _ => hp1⟩
    · rintro σ H1 ⟨rs, ps, y1, y2, y3, rfl, bb, hd1, hF, hp⟩
      have hz := hF.z
      have hp := hp m1
      refine ⟨_, rfl, _, rfl, d, D, rs, ps, rfl, hd1, nDd, hF.l, hF.p, by omega, fun D2 H2 rs2 ps2 x2 hl2 hP2 nD2d nD2 hlen hmem => ?_⟩
      have nDH : H D2 = none := by
        cases e : H D2 with
        | none => rfl
        | some o =>
          have := bb _ _ (ne_of_none e nD) nD2d (s0 _ _ e)
          rw [nD2] at this
          cases this
      have X2 : Ext d H H2 := ⟨fun b o nb eb => x2.s _ _ nb (bb _ _ (ne_of_none eb nD) nb (s0 _ _ eb)), x2.d⟩
      have Xu : ∀ {H' : Hp} {o : HO}, Ext d H H' → Ext d H (upd H' D2 o) := fun x => ⟨fun b o nb eb => by
        rw [upd_ne (ne_of_none eb nDH)]
        exact x.s _ _ nb eb, let ⟨a1, a2, a3, e⟩ := x.d; ⟨a1, a2, a3, by rw [upd_ne (Ne.symm nD2d)]; exact e⟩⟩
      have hF2 : FSt K H2 D2 m 24 ps2 rs2 := ⟨hl2, hP2, fun p hp => hF.g p (hmem p hp), by omega⟩
      have hlr2 := hP2.len
      refine ⟨_, rfl, _, rfl, D2, _, rfl, .inl (SqL.of hl2), d, rs2.length, rfl, x2.d, by omega, by omega, fun r H3 r0 r1 x3 => ?_⟩
      have hF3 := hF2.ext x3 x2.d nD2d
      refine ⟨fun σ' H' => ∃ (rs : List V) (ps : List (Int × Int)), σ' = [some (.ref d), some (.int n), some (.int m), some (.ref D2), y1, y2, y3, some (.int r)] ∧ Ext d H H' ∧ FSt K H' D2 m 24 ps rs ∧ rs.length = rs2.length, ?_, ?_⟩
      · refine ⟨_, rfl, d, 2, rfl, x3.d, by decide, by decide, fun ra H4 ra0 ra1 x4 => ⟨rfl, _, rfl, ite3 (fun e => ?_) (fun e => ?_)⟩⟩
        · have hF4 := hF3.ext x4 x3.d nD2d
          have hl4 := hF4.p.len
          have hi : r.toNat < rs2.length := by omega
          have eg : ps2[r.toNat]? = some ps2[r.toNat] := List.getElem?_eq_getElem (by omega)
          obtain ⟨t, et, ht⟩ := hF4.p.get' eg
          obtain ⟨g1, g2, g3, g4⟩ := hF4.g _ (List.mem_of_getElem? eg)
          refine ⟨_, rfl, _, rfl, D2, rs2, r, .ref t, rfl, rfl, SqL.of hF4.l, at_of (by omega) et, t, _, 0, _, rfl, rfl, ht, atI_nat (j := 0) rfl, ?_⟩
          refine ⟨_, rfl, _, rfl, D2, rs2, r, .ref t, rfl, rfl, SqL.of hF4.l, at_of (by omega) et, t, _, 1, _, rfl, rfl, ht, atI_nat (j := 1) rfl, ?_⟩
          refine ⟨_, rfl, _, rfl, sz, fun l H5 s5 e5 nl => ?_⟩
          have nld : l ≠ d := x4.d.ne nl
          refine ⟨d, l, _, rfl, x4.d.same s5, nld, e5, by show 0 < 4; decide, by show 4 ≤ 100000; decide, fun v6 H6 hv x6 => ?_⟩
          obtain ⟨k, rfl⟩ : ∃ k : Int, v6 = .int k := by
            simp only [List.mem_cons, List.not_mem_nil, or_false] at hv
            rcases hv with rfl | rfl | rfl | rfl <;> exact ⟨_, rfl⟩
          refine ⟨_, _, rfl, rfl, _, _, rfl, _, _, rfl, ?_⟩
          refine ⟨sz, fun t7 H7 s7 e7 => ?_⟩
          have e7 : SqT K H7 t7 [.int (ps2[r.toNat]).1, .int (clamp ((ps2[r.toNat]).2 + k))] := e7
          have hv01 := clamp_in ((ps2[r.toNat]).2 + k)
          have hF7 := ((hF4.same s5).ext x6 (x4.d.same s5) nD2d).same s7
          refine ⟨_, rfl, _, rfl, D2, rs2, r, r.toNat, rfl, rfl, hF7.l, by unfold ixN; rw [if_pos r0, if_pos (by omega)], ?_⟩
          have hP8 := (PairsL.set (K := K) (i := r.toNat) (p := ((ps2[r.toNat]).1, clamp ((ps2[r.toNat]).2 + k))) hF7.p e7).map fun a xs u => (But.mut (l := D2) (o := .lst (rs2.set r.toNat (.ref t7)))).seqT hF7.l u
          exact ⟨_, _, rfl, Xu ((((X2.trans x3).trans x4).same s5).trans x6 |>.same s7), ⟨upd_same, hP8, hF7.g.set _ g1 g2 hv01.1 hv01.2, by rw [List.length_set]; exact hF7.z⟩, by rw [List.length_set]⟩
        · exact ⟨_, _, rfl, (X2.trans x3).trans x4, hF3.ext x4 x3.d nD2d, rfl⟩
      rintro σ' H4 ⟨rs4, ps4, rfl, X4, hF4, hl4⟩
      refine ⟨fun σ' H' => ∃ (rs : List V) (ps : List (Int × Int)), σ' = [some (.ref d), some (.int n), some (.int m), some (.ref D2), y1, y2, y3, some (.int r)] ∧ Ext d H H' ∧ FSt K H' D2 m 24 ps rs ∧ rs.length = rs2.length, ?_, ?_⟩
      · refine ⟨_, rfl, d, 5, rfl, X4.d, by decide, by decide, fun ra H5 ra0 ra1 x5 => ⟨rfl, _, rfl, ite3 (fun e => ?_) (fun e => ?_)⟩⟩
        · have hF5 := hF4.ext x5 X4.d nD2d
          have hl5 := hF5.p.len
          refine ⟨_, rfl, _, rfl, d, m, rfl, x5.d, by omega, by omega, fun rb H6 rb0 rb1 x6 => ?_⟩
          have hF6 := hF5.ext x6 x5.d nD2d
          have eg : ps4[r.toNat]? = some ps4[r.toNat] := List.getElem?_eq_getElem (by omega)
          obtain ⟨t, et, ht⟩ := hF6.p.get' eg
          obtain ⟨g1, g2, g3, g4⟩ := hF6.g _ (List.mem_of_getElem? eg)
          refine ⟨_, rfl, _, rfl, D2, rs4, r, .ref t, rfl, rfl, SqL.of hF6.l, at_of (by omega) et, t, _, 1, _, rfl, rfl, ht, atI_nat (j := 1) rfl, ?_⟩
          refine ⟨sz, fun t7 H7 s7 e7 => ?_⟩
          have hF7 := hF6.same s7
          refine ⟨_, rfl, _, rfl, D2, rs4, r, r.toNat, rfl, rfl, hF7.l, by unfold ixN; rw [if_pos r0, if_pos (by omega)], ?_⟩
          have hP8 := (PairsL.set (K := K) (i := r.toNat) (p := (rb, (ps4[r.toNat]).2)) hF7.p e7).map fun a xs u => (But.mut (l := D2) (o := .lst (rs4.set r.toNat (.ref t7)))).seqT hF7.l u
          exact ⟨_, _, rfl, Xu (((X4.trans x5).trans x6).same s7), ⟨upd_same, hP8, hF7.g.set _ rb0 rb1 g3 g4, by rw [List.length_set]; exact hF7.z⟩, by rw [List.length_set]; exact hl4⟩
        · exact ⟨_, _, rfl, X4.trans x5, hF4.ext x5 X4.d nD2d, hl4⟩
      rintro σ' H5 ⟨rs5, ps5, rfl, X5, hF5, hl5⟩
      have fin : ∀ a H' xs ps, Ext d H H' → SqT K H' a xs → PairsL K H' xs ps → GoodP m ps → ps.length ≤ 24 → Q (.ref a) H' := fun a H' xs ps X t hP hg hz => by
        obtain ⟨rr, er, hr⟩ := hg.rounds
        subst er
        exact q a H' rr X ⟨⟨xs, t, hP, by rw [List.length_map] at hz; exact hz, hr⟩⟩
      refine ⟨_, rfl, d, 8, rfl, X5.d, by decide, by decide, fun ra H6 ra0 ra1 x6 => ⟨rfl, _, rfl, ite3 (fun e => ?_) (fun e => ?_)⟩⟩
      · have hF6 := hF5.ext x6 X5.d nD2d
        refine ⟨_, rfl, 1, rfl, D2, _, rfl, SqL.of hF6.l, fun l H7 s7 e7 _ => ⟨l, _, rfl, .inl (SqL.of e7), fun a H8 s8 e8 => ?_⟩⟩
        have ec : cutV rs5 (some 1) none = rs5.drop 1 := cut_from rs5 1
        rw [ec] at e8
        refine fin a H8 _ (ps5.drop 1) ((X5.trans x6).same (s7.trans s8)) e8 ((hF6.p.same (s7.trans s8)).drop 1) (fun p hp => hF6.g p (List.mem_of_mem_drop hp)) ?_
        have := hF6.z
        rw [List.length_drop]
        omega
      · have hF6 := hF5.ext x6 X5.d nD2d
        exact ⟨_, rfl, D2, _, rfl, .inl (SqL.of hF6.l), fun a H7 s7 e7 => fin a H7 _ ps5 ((X5.trans x6).same s7) e7 (hF6.p.same s7) hF6.g hF6.z⟩
end
end TB
namespace TB
open PySem PySem.Spec PyProof.Rows L2
/-! ### the plain law of rounds -/
theorem two_lt {p q : Nat} (h : p < q) : (2 : Int) ^ p < 2 ^ q := by
  have h1 := two_mono (a := p + 1) (b := q) h
  have h2 := two_pos p
  rw [two_succ] at h1
  omega
theorem mv_full {lf : Bool} {n p : Nat} (h : p ≤ n) : mv lf n (2 ^ n - 1) p = if lf then 2 ^ n - 2 ^ p else 2 ^ (n - p) - 1 := by
  have hn := two_pos n
  have hp := two_pos p
  have hle : (2 : Int) ^ p ≤ 2 ^ n := two_mono h
  cases lf with
  | true =>
    show (2 ^ n - 1) * 2 ^ p % 2 ^ n = 2 ^ n - 2 ^ p
    refine (divmod_of (q := 2 ^ p - 1) hn ?_ (by omega) (by omega)).2
    rw [Int.sub_mul, Int.one_mul, Int.mul_sub, Int.mul_one]
    omega
  | false =>
    show (2 ^ n - 1) / 2 ^ p = 2 ^ (n - p) - 1
    refine (divmod_of (r := 2 ^ p - 1) hp ?_ (by omega) (by omega)).1
    rw [Int.mul_sub, Int.mul_one, ← two_add, Nat.add_sub_cancel' h]
    omega
theorem mv_full_inj {lf : Bool} {n p q : Nat} (hp : p ≤ n) (hq : q ≤ n) (h : mv lf n (2 ^ n - 1) p = mv lf n (2 ^ n - 1) q) : p = q := by
  rw [mv_full hp, mv_full hq] at h
  rcases Nat.lt_trichotomy p q with z | z | z
  · cases lf with
    | true =>
      have h' : (2 : Int) ^ n - 2 ^ p = 2 ^ n - 2 ^ q := h
      have := two_lt z
      omega
    | false =>
      have h' : (2 : Int) ^ (n - p) - 1 = 2 ^ (n - q) - 1 := h
      have := two_lt (show n - q < n - p by omega)
      omega
  · exact z
  · cases lf with
    | true =>
      have h' : (2 : Int) ^ n - 2 ^ p = 2 ^ n - 2 ^ q := h
      have := two_lt z
      omega
    | false =>
      have h' : (2 : Int) ^ (n - p) - 1 = 2 ^ (n - q) - 1 := h
      have := two_lt (show n - p < n - q by omega)
      omega
theorem onB_two {b k : Nat} : onB (2 ^ b) k = decide (k = b) := by
  unfold onB
  rcases Nat.lt_trichotomy k b with h | h | h
  · rw [decide_eq_false (show ¬ k = b by omega)]
    have e : (2 : Int) ^ b = 2 ^ k * (2 * 2 ^ (b - k - 1)) := by
      rw [← two_succ, ← two_add]
      congr 1
      omega
    rw [e, Int.mul_ediv_cancel_left _ (by have := two_pos k; omega), Int.mul_emod_right]
    rfl
  · subst h
    rw [Int.ediv_self (by have := two_pos k; omega), decide_eq_true rfl]
    rfl
  · rw [decide_eq_false (show ¬ k = b by omega), Int.ediv_eq_zero_of_lt (Int.le_of_lt (two_pos b)) (two_lt h)]
    rfl
theorem sumB_by (b : Nat) (rs : Rd2) : sumB b rs = (byS (2 ^ b) rs : Int) := by
  rw [← byS_sum]
  unfold sumB
  congr 2
  funext p
  rw [onB_two]
  by_cases h : p.1 = b
  · rw [if_pos h, if_pos (decide_eq_true h)]
  · rw [if_neg h, if_neg (by rw [decide_eq_false h]; decide)]
/-- the sum of the first k -/
def Sm (f : Nat → Int) : Nat → Int
  | 0 => 0
  | k + 1 => Sm f k + f k
theorem Sm_congr {f g : Nat → Int} : ∀ {k : Nat}, (∀ b, b < k → f b = g b) → Sm f k = Sm g k
  | 0, _ => rfl
  | k + 1, h => by
    show Sm f k + f k = Sm g k + g k
    rw [Sm_congr fun b hb => h b (Nat.lt_succ_of_lt hb), h k (Nat.lt_succ_self k)]
theorem Sm_add (f g : Nat → Int) : ∀ k, Sm (fun b => f b + g b) k = Sm f k + Sm g k
  | 0 => rfl
  | k + 1 => by
    show Sm (fun b => f b + g b) k + (f k + g k) = Sm f k + f k + (Sm g k + g k)
    rw [Sm_add f g k]
    omega
theorem Sm_none {f : Nat → Int} : ∀ {k : Nat}, (∀ b, b < k → f b = 0) → Sm f k = 0
  | 0, _ => rfl
  | k + 1, h => by
    show Sm f k + f k = 0
    rw [Sm_none fun b hb => h b (Nat.lt_succ_of_lt hb), h k (Nat.lt_succ_self k)]
    rfl
theorem Sm_one (c : Nat → Int) (j : Nat) : ∀ {k : Nat}, j < k → Sm (fun b => if j = b then c b else 0) k = c j
  | 0, h => absurd h (Nat.not_lt_zero j)
  | k + 1, h => by
    show Sm (fun b => if j = b then c b else 0) k + (if j = k then c k else 0) = c j
    by_cases e : j = k
    · subst e
      rw [if_pos rfl, Sm_none fun b hb => if_neg (by omega)]
      omega
    · rw [if_neg e, Sm_one c j (show j < k by omega)]
      omega
theorem byS_bits (c : Int) {m : Nat} : ∀ {rs : Rd2}, (∀ p ∈ rs, p.1 < m) → (byS c rs : Int) = Sm (fun b => if onB c b then sumB b rs else 0) m
  | [], _ => by
    rw [Sm_none fun b _ => ?_]
    · rfl
    · show (if onB c b then sumB b [] else 0) = 0
      split <;> rfl
  | p :: r, h => by
    have ih := byS_bits c (rs := r) fun q hq => h q (List.mem_cons_of_mem _ hq)
    have hp := h p (List.mem_cons_self ..)
    have e : ∀ b, (if onB c b then sumB b (p :: r) else 0) = (if p.1 = b then (if onB c b then (p.2 : Int) else 0) else 0) + (if onB c b then sumB b r else 0) := fun b => by
      have es : sumB b (p :: r) = (if p.1 = b then (p.2 : Int) else 0) + sumB b r := by
        unfold sumB
        by_cases hb : p.1 = b
        · rw [List.filterMap_cons_some (by rw [if_pos hb]), List.sum_cons, if_pos hb]
        · rw [List.filterMap_cons_none (by rw [if_neg hb]), if_neg hb]
          omega
      rw [es]
      cases onB c b with
      | true => simp
      | false => simp
    rw [Sm_congr fun b _ => e b, Sm_add, ← ih, Sm_one (fun b => if onB c b then (p.2 : Int) else 0) p.1 hp]
    show (((if onB c p.1 then p.2 else 0) + byS c r : Nat) : Int) = _
    cases onB c p.1 with
    | true => simp
    | false => simp
theorem sumB_nonneg (b : Nat) (rs : Rd2) : 0 ≤ sumB b rs := by
  rw [sumB_by]
  omega
theorem bits_sum (c : Int) : ∀ k : Nat, Sm (fun b => if onB c b then (2 : Int) ^ b else 0) k = c % 2 ^ k
  | 0 => by
    rw [Int.pow_zero, Int.emod_one]
    rfl
  | k + 1 => by
    show Sm (fun b => if onB c b then (2 : Int) ^ b else 0) k + (if onB c k then (2 : Int) ^ k else 0) = c % 2 ^ (k + 1)
    rw [bits_sum c k, mod_add, Int.pow_succ 2 0, Int.pow_zero, Int.one_mul]
    have h2 : c / 2 ^ k % 2 = 0 ∨ c / 2 ^ k % 2 = 1 := by omega
    unfold onB
    rcases h2 with h | h
    · rw [h]
      simp
    · rw [h]
      simp
theorem sat {n x y x' y' : Int} (h1 : min x n = min x' n) (h2 : min y n = min y' n) (hx : 0 ≤ x) (hy : 0 ≤ y) (hx' : 0 ≤ x') (hy' : 0 ≤ y') : min (x + y) n = min (x' + y') n := by
  omega
theorem sm_sat {n : Int} {f g : Nat → Int} : ∀ {k : Nat}, (∀ b, b < k → min (f b) n = min (g b) n ∧ 0 ≤ f b ∧ 0 ≤ g b) → min (Sm f k) n = min (Sm g k) n ∧ 0 ≤ Sm f k ∧ 0 ≤ Sm g k
  | 0, _ => ⟨rfl, Int.le_refl _, Int.le_refl _⟩
  | k + 1, h => by
    obtain ⟨h1, h2, h3⟩ := sm_sat (n := n) (f := f) (g := g) (k := k) fun b hb => h b (Nat.lt_succ_of_lt hb)
    obtain ⟨h4, h5, h6⟩ := h k (Nat.lt_succ_self k)
    show min (Sm f k + f k) n = min (Sm g k + g k) n ∧ 0 ≤ Sm f k + f k ∧ 0 ≤ Sm g k + g k
    exact ⟨sat h1 h4 h2 h5 h3 h6, by omega, by omega⟩
/-- rounds right at each bit are right for all amounts -/
theorem every_ok {n m : Nat} {rs : Rd2} {c : Int} (hr : ∀ p ∈ rs, p.1 < m) (ok : ∀ b, b < m → okB n rs b) (c0 : 0 ≤ c) (c1 : c < 2 ^ m) : min (byS c rs : Int) n = min c n := by
  have h := (sm_sat (n := n) (f := fun b => if onB c b then sumB b rs else 0) (g := fun b => if onB c b then (2 : Int) ^ b else 0) (k := m) fun b hb => ?_).1
  · rw [← byS_bits c hr, bits_sum, mod_small c0 c1] at h
    exact h
  · have h1 := ok b hb
    have h2 := sumB_nonneg b rs
    have h3 := two_pos b
    show min (if onB c b then sumB b rs else 0) (n : Int) = min (if onB c b then (2 : Int) ^ b else 0) n ∧ 0 ≤ (if onB c b then sumB b rs else 0) ∧ 0 ≤ (if onB c b then (2 : Int) ^ b else 0)
    cases onB c b with
    | true => exact ⟨h1, h2, Int.le_of_lt h3⟩
    | false => exact ⟨rfl, Int.le_refl _, Int.le_refl _⟩
/-- a wrong bit's paper -/
theorem paper_ok {lf : Bool} {n m b : Nat} {rs : Rd2} (n1 : 1 ≤ n) (hb : b < m) (h : ¬ okB n rs b) : papR lf n m rs (some (.int (2 ^ n - 1), .int (2 ^ b))) = true := by
  have h1 := two_pos n
  have h2 := two_pos b
  have h3 := two_lt hb
  have e : ((2 : Int) ^ b).toNat = 2 ^ b := by
    have : (2 : Int) ^ b = ((2 ^ b : Nat) : Int) := by simp
    rw [this]
    rfl
  show ((decide ((0 : Int) ≤ 2 ^ n - 1) && decide ((2 : Int) ^ n - 1 ≤ 2 ^ n - 1)) && ((decide ((0 : Int) ≤ 2 ^ b) && decide ((2 : Int) ^ b ≤ 2 ^ m - 1)) && !decide (mv lf n (2 ^ n - 1) (byS (2 ^ b) rs) = mv lf n (2 ^ n - 1) ((2 : Int) ^ b).toNat))) = true
  rw [decide_eq_true (show (0 : Int) ≤ 2 ^ n - 1 by omega), decide_eq_true (show (2 : Int) ^ n - 1 ≤ 2 ^ n - 1 by omega), decide_eq_true (show (0 : Int) ≤ 2 ^ b by omega), decide_eq_true (show (2 : Int) ^ b ≤ 2 ^ m - 1 by omega), decide_eq_false ?_]
  · rfl
  · intro z
    rw [e, ← mv_min (by omega) (by omega), ← mv_min (p := 2 ^ b) (by omega) (by omega)] at z
    have z2 := mv_full_inj (Nat.min_le_right _ _) (Nat.min_le_right _ _) z
    apply h
    unfold okB
    rw [sumB_by]
    have e2 : (2 : Int) ^ b = ((2 ^ b : Nat) : Int) := by simp
    conv =>
      rhs
      rw [e2]
    omega
end TB
namespace TB
open PySem PySem.Spec PyProof.Rows L2
section
variable {P : Program} {w : World} {K : PySem.W.Frag} {mg : Str → Option Value} {base : Heap}
theorem PapV.lm {H H' : Hp} {v : V} {o : Option (V × V)} (m : LMut H H') (h : PapV K H v o) : PapV K H' v o := by
  cases h with
  | non h n => exact .non (m.knd h) n
  | len h n => exact .len (m.seqT h) n
  | two h hx hy => exact .two (m.seqT h) (m.knd hx) (m.knd hy)
def RdAt.lm {H H' : Hp} {a : Addr} {m : Nat} {rs : Rd2} (u : LMut H H') (h : RdAt K H a m rs) : RdAt K H' a m rs := ⟨h.xs, u.seqT h.t, u.pairs h.ps, h.len, h.ok⟩
theorem side_of {v : V} (h : v ∈ ([.str "left", .str "right"] : List V)) : ∃ lf, v = .str (sideS lf) := by
  simp only [List.mem_cons, List.not_mem_nil, or_false] at h
  rcases h with rfl | rfl
  · exact ⟨true, rfl⟩
  · exact ⟨false, rfl⟩
instance (n : Nat) (rs : Rd2) (b : Nat) : Decidable (okB n rs b) := inferInstanceAs (Decidable (_ = _))
def Told (K : PySem.W.Frag) (H : Hp) (n m : Nat) (rs : Rd2) (v : V) : Prop := ((∀ b, b < m → okB n rs b) ∧ v = .non) ∨ ∃ b p, b < m ∧ ¬ okB n rs b ∧ v = .ref p ∧ SqT K H p [.int (2 ^ n - 1), .int (2 ^ b)]
def wrongs (n : Nat) (rs : Rd2) (i : Nat) : List Int := ((List.range i).filter fun b => ! decide (okB n rs b)).map fun b : Nat => (b : Int)
theorem wrongs_succ (n : Nat) (rs : Rd2) (i : Nat) : wrongs n rs (i + 1) = wrongs n rs i ++ if okB n rs i then [] else [(i : Int)] := by
  unfold wrongs
  rw [List.range_succ, List.filter_append, List.map_append]
  congr 1
  by_cases h : okB n rs i
  · rw [if_pos h, List.filter_cons, decide_eq_true h]
    rfl
  · rw [if_neg h, List.filter_cons, decide_eq_false h]
    rfl
theorem okB_iff {n : Nat} {rs : Rd2} {b : Nat} : okB n rs b ↔ min (n : Int) (byS (2 ^ b) rs : Int) = min (n : Int) (2 ^ b) := by
  unfold okB
  rw [sumB_by, Int.min_comm, Int.min_comm (2 ^ b)]
theorem Told.lm {H H' : Hp} {n m : Nat} {rs : Rd2} {v : V} (u : LMut H H') (h : Told K H n m rs v) : Told K H' n m rs v := by
  rcases h with h | ⟨b, p, h1, h2, h3, h4⟩
  · exact .inl h
  · exact .inr ⟨b, p, h1, h2, h3, u.seqT h4⟩
theorem two_nat (m : Nat) : (2 : Int) ^ m = ((2 ^ m : Nat) : Int) := by simp
def evF (n : Nat) (rs : Rd2) (c : Nat) : Option Int := if min (n : Int) (byS c rs : Int) = min (n : Int) c then none else some (c : Int)
def evs (n m : Nat) (rs : Rd2) : List Int := (List.range (2 ^ m)).filterMap (evF n rs)
theorem evs_map (n m : Nat) (rs : Rd2) : (List.range (2 ^ m)).filterMap (fun c => (evF n rs c).map V.int) = (evs n m rs).map V.int := by
  unfold evs
  rw [List.map_filterMap]
theorem evs_nil {n m : Nat} {rs : Rd2} (hr : ∀ p ∈ rs, p.1 < m) (ok : ∀ b, b < m → okB n rs b) : evs n m rs = [] := by
  unfold evs
  rw [List.filterMap_eq_nil_iff]
  intro c hc
  have h := every_ok (c := (c : Int)) hr ok (by omega) (by rw [two_nat]; have := List.mem_range.mp hc; omega)
  unfold evF
  rw [if_pos (by rw [Int.min_comm, h, Int.min_comm])]
theorem evs_ne {n m b : Nat} {rs : Rd2} (hb : b < m) (h : ¬ okB n rs b) : evs n m rs ≠ [] := by
  intro z
  unfold evs at z
  rw [List.filterMap_eq_nil_iff] at z
  have hl := two_lt hb
  rw [two_nat, two_nat] at hl
  have z2 := z (2 ^ b) (List.mem_range.mpr (by omega))
  unfold evF at z2
  rw [if_neg (fun y => h (okB_iff.mpr (by rw [two_nat]; exact y)))] at z2
  cases z2
theorem wrongs_nil {n m : Nat} {rs : Rd2} (ok : ∀ b, b < m → okB n rs b) : wrongs n rs m = [] := by
  unfold wrongs
  rw [List.map_eq_nil_iff, List.filter_eq_nil_iff]
  intro b hb
  rw [decide_eq_true (ok b (List.mem_range.mp hb))]
  decide
theorem wrongs_ne {n m b : Nat} {rs : Rd2} (hb : b < m) (h : ¬ okB n rs b) : wrongs n rs m ≠ [] := by
  intro z
  unfold wrongs at z
  rw [List.map_eq_nil_iff, List.filter_eq_nil_iff] at z
  exact z b (List.mem_range.mpr hb) (by rw [decide_eq_false h]; rfl)
theorem eqv_nilI {ns : List Int} (h : ns ≠ []) : PyData.eqv (.list (ns.map PyData.int)) (.list []) = false := by
  cases ns with
  | nil => exact absurd rfl h
  | cons a r => rfl
def sp__law_right (K : PySem.W.Frag) : Sp := fun vs H Q _ => ∃ (d : Addr), vs = [.ref d] ∧ Dice H d ∧ ∀ H', Ext d H H' → Q (.bl true) H'
theorem ok__law_right (T : Txt K mg) : FnOk P w K mg base CX0 7 T._law_right.f T._law_right.fd ["_law_dice_here"] (sp__law_right K) := by
  refine T._law_right.F.ok sc__law_right (fun vs H Q E h => ?_) (fun cdv A outer s H vs Q E hr h => ?_)
  · obtain ⟨d, rfl, _⟩ := h
    rfl
  · obtain ⟨d, rfl, hd, q⟩ := h
    refine ⟨_, (pss_cons (ps_asg (pe_tupA (pa_cons (pe_op op_add pe_int (pe_call (ok__law_roll T) (hr.mono (by decide)) (by rfl) T._law_roll.g T._law_roll.F.kp T._law_roll.b .nil pass0 (pa_cons (pv 0) (pa_cons (pe_call (ok__law_one_of T) (hr.mono (by decide)) (by rfl) T._law_one_of.g T._law_one_of.F.kp T._law_one_of.b .nil pass0 (pa_cons (pv 0) (pa_cons (pe_lstA (pa_cons pe_int (pa_cons pe_int pa_nil))) pa_nil))) pa_nil)))) (pa_cons (pe_call (ok__law_one_of T) (hr.mono (by decide)) (by rfl) T._law_one_of.g T._law_one_of.F.kp T._law_one_of.b .nil pass0 (pa_cons (pv 0) (pa_cons (pe_lstA (pa_cons pe_str (pa_cons pe_str pa_nil))) pa_nil))) pa_nil))) (pg_tup rfl (pgs_cons (pg_name (i := 1) sc__law_right.nd rfl (.inr rfl)) (pgs_cons (pg_name (i := 2) sc__law_right.nd rfl (.inl rfl)) pgs_nil)))) 
      (pss_cons (ps_set (i := 3) sc__law_right.nd rfl (.inl rfl) (pe_op op_add pe_int (pe_call (ok__law_roll T) (hr.mono (by decide)) (by rfl) T._law_roll.g T._law_roll.F.kp T._law_roll.b .nil pass0 (pa_cons (pv 0) (pa_cons pe_int pa_nil))))) 
      (pss_cons (ps_set (i := 4) sc__law_right.nd rfl (.inr rfl) (pe_call (ok__law_rounds_drawn T) (hr.mono (by decide)) (by rfl) T._law_rounds_drawn.g T._law_rounds_drawn.F.kp T._law_rounds_drawn.b .nil pass0 (pa_cons (pv 0) (pa_cons (pv 1) (pa_cons (pv 3) pa_nil))))) 
      (pss_cons (ps_join (ps_par (i := 5) (j := 6) rfl sc__law_right.nd rfl rfl (by decide) rfl rfl (pa_cons (pe_call (ok_rounds_paper T) (hr.mono (by decide)) (by rfl) T.rounds_paper.g T.rounds_paper.F.kp T.rounds_paper.b .nil pass0 (pa_cons (pv 1) (pa_cons (pv 2) (pa_cons (pv 3) (pa_cons (pv 4) pa_nil))))) (pa_cons (pe_lstA pa_nil) pa_nil)) (by rfl))) 
      (pss_cons (ps_for PassesOwn.never rfl (pi_range1 (by rfl) T.z_range (pa_cons (pv 3) pa_nil)) (pg_name (i := 7) sc__law_right.nd rfl (.inl rfl)) 
        (pss_one (ps_if (pt_cmpR op_ne (pe_callB (call_min2 rfl) (by rfl) T.z_min (by decide +kernel) (pa_cons (pv 1) (pa_cons (pe_call (ok__law_by T) (hr.mono (by decide)) (by rfl) T._law_by.g T._law_by.F.kp T._law_by.b .nil pass0 (pa_cons (pv 4) (pa_cons (pe_call (ok__law_two_to T) (hr.mono (by decide)) (by rfl) T._law_two_to.g T._law_two_to.F.kp T._law_two_to.b .nil pass0 (pa_cons (pv 7) pa_nil)) pa_nil))) pa_nil))) (pe_callB (call_min2 rfl) (by rfl) T.z_min (by decide +kernel) (pa_cons (pv 1) (pa_cons (pe_call (ok__law_two_to T) (hr.mono (by decide)) (by rfl) T._law_two_to.g T._law_two_to.F.kp T._law_two_to.b .nil pass0 (pa_cons (pv 7) pa_nil)) pa_nil))) (nomark _)) 
          (pss_one (ps_expr (pe_bm PySem.F.plainAttrs_list PySem.F.slot_list_append PySem.F.type_list_append mt_append (pv 6) (pa_cons (pv 7) pa_nil)))) pss_nil))) 
      (pss_cons (ps_setLc (i := 8) (own := [("_law_at", 16)]) (by rfl) sc__law_right.nd rfl rfl (sw_true rfl rfl rfl (by decide +kernel)) (pi_range1 (by rfl) T.z_range (pa_cons (pe_call (ok__law_two_to T) (hr.mono (by decide)) (by rfl) T._law_two_to.g T._law_two_to.F.kp T._law_two_to.b .nil pass0 (pa_cons (pv 3) pa_nil)) pa_nil)) (blkOk_by (own := [("_law_at", 16)]) (N := ["_law_dice_here", "_law_size", "_law_side", "_law_many", "_law_rounds", "_law_told", "_law_wrong", "_law_bit", "_law_every", "_law_full", "_law_more", "_law_some", "_law_turn", "_law_value", "_law_word", "_law_amount", "_law_at"]) (sc := defScope s__law_right) (by decide +kernel)) (fun _ _ _ _ _ => (pg_name (i := 16) sc__law_right.nd rfl (.inl rfl))) (fun _ _ _ _ _ => (pts_one (pt_cmpR op_ne (pe_callB (call_min2 rfl) (by rfl) T.z_min (by decide +kernel) (pa_cons (pv 1) (pa_cons (pe_call (ok__law_by T) (hr.mono (by decide)) (by rfl) T._law_by.g T._law_by.F.kp T._law_by.b .nil pass0 (pa_cons (pv 4) (pa_cons (pv 16) pa_nil))) pa_nil))) (pe_callB (call_min2 rfl) (by rfl) T.z_min (by decide +kernel) (pa_cons (pv 1) (pa_cons (pv 16) pa_nil))) (nomark _)))) (fun _ _ _ _ _ => (pv 16))) 
      (pss_cons (ps_join (ps_if (PW.pt (pw_or (pt_cmpR op_ne (pe_cmpR op_isN (pv 5) pe_non (nomark _)) (pe_cmpR (op_eqD hr.units) (pv 6) (pe_lstA pa_nil) (nomark _)) (nomark _)) (pw_or1 (pt_cmpR op_ne (pe_cmpR op_isN (pv 5) pe_non (nomark _)) (pe_cmpR (op_eqD hr.units) (pv 8) (pe_lstA pa_nil) (nomark _)) (nomark _))))) 
        (pss_one (ps_ret pe_bl)) pss_nil)) 
      (pss_cons (ps_join (ps_if (PW.pt (pw_and (pt_cmpR op_notN (pv 5) pe_non (nomark _)) (pw_and1 (pt_not (pt_val (pe_call (ok__law_is_paper T) (hr.mono (by decide)) (by rfl) T._law_is_paper.g T._law_is_paper.F.kp T._law_is_paper.b .nil pass0 (pa_cons (pv 1) (pa_cons (pv 2) (pa_cons (pv 3) (pa_cons (pv 4) (pa_cons (pv 5) pa_nil))))))))))) 
        (pss_one (ps_ret pe_bl)) pss_nil)) 
      (pss_cons (ps_par (i := 9) (j := 10) rfl sc__law_right.nd rfl rfl (by decide) rfl rfl (pa_cons (pe_call (ok__law_two_to T) (hr.mono (by decide)) (by rfl) T._law_two_to.g T._law_two_to.F.kp T._law_two_to.b .nil pass0 (pa_cons (pv 1) pa_nil)) (pa_cons (pe_call (ok__law_two_to T) (hr.mono (by decide)) (by rfl) T._law_two_to.g T._law_two_to.F.kp T._law_two_to.b .nil pass0 (pa_cons (pv 3) pa_nil)) pa_nil)) (by rfl)) 
      (pss_cons (ps_set (i := 11) sc__law_right.nd rfl (.inl rfl) (pe_lstA (pa_cons (pv 5) (pa_cons pe_non (pa_cons (pe_tupA pa_nil) (pa_cons (pe_tupA (pa_cons (pv 9) (pa_cons pe_int pa_nil))) (pa_cons (pe_tupA (pa_cons pe_int (pa_cons (pv 10) pa_nil))) (pa_cons (pe_tupA (pa_cons (pe_un un_neg pe_int) (pa_cons pe_int pa_nil))) (pa_cons (pe_tupA (pa_cons (pe_op op_sub (pv 9) pe_int) (pa_cons pe_bl pa_nil))) (pa_cons (pe_lstA (pa_cons (pe_op op_sub (pv 9) pe_int) (pa_cons pe_int pa_nil))) (pa_cons (pe_tupA (pa_cons (pe_op op_sub (pv 9) pe_int) pa_nil)) (pa_cons (pe_tupA (pa_cons pe_int (pa_cons (pe_un un_neg pe_int) pa_nil))) pa_nil)))))))))))) 
      (pss_cons (ps_for PassesOwn.never rfl (pi_range1 (by rfl) T.z_range (pa_cons pe_int pa_nil)) (pg_name (i := 12) sc__law_right.nd rfl (.inl rfl)) 
        (pss_one (ps_expr (pe_bm PySem.F.plainAttrs_list PySem.F.slot_list_append PySem.F.type_list_append mt_append (pv 11) (pa_cons (pe_tupA (pa_cons (pe_call (ok__law_one_of T) (hr.mono (by decide)) (by rfl) T._law_one_of.g T._law_one_of.F.kp T._law_one_of.b .nil pass0 (pa_cons (pv 0) (pa_cons (pe_lstA (pa_cons (pe_op op_sub (pv 9) pe_int) (pa_cons (pe_call (ok__law_roll T) (hr.mono (by decide)) (by rfl) T._law_roll.g T._law_roll.F.kp T._law_roll.b .nil pass0 (pa_cons (pv 0) (pa_cons (pv 9) pa_nil))) pa_nil))) pa_nil))) (pa_cons (pe_call (ok__law_roll T) (hr.mono (by decide)) (by rfl) T._law_roll.g T._law_roll.F.kp T._law_roll.b .nil pass0 (pa_cons (pv 0) (pa_cons (pv 10) pa_nil))) pa_nil))) pa_nil))))) 
      (pss_cons (ps_for PassesOwn.never rfl (pi_list (pv 11)) (pg_name (i := 13) sc__law_right.nd rfl (.inl rfl)) 
        (pss_one (ps_if (pt_cmpR op_ne (pe_call (ok_is_rounds_paper T) (hr.mono (by decide)) (by rfl) T.is_rounds_paper.g T.is_rounds_paper.F.kp T.is_rounds_paper.b .nil pass0 (pa_cons (pv 1) (pa_cons (pv 2) (pa_cons (pv 3) (pa_cons (pv 4) (pa_cons (pv 13) pa_nil)))))) (pe_call (ok__law_is_paper T) (hr.mono (by decide)) (by rfl) T._law_is_paper.g T._law_is_paper.F.kp T._law_is_paper.b .nil pass0 (pa_cons (pv 1) (pa_cons (pv 2) (pa_cons (pv 3) (pa_cons (pv 4) (pa_cons (pv 13) pa_nil)))))) (nomark _)) 
          (pss_one (ps_ret pe_bl)) pss_nil))) 
      (pss_cons (ps_asg (pe_ix ix_list (pv 11) (pe_un un_neg pe_int) (fun _ _ => rfl)) (pg_tup rfl (pgs_cons (pg_name (i := 14) sc__law_right.nd rfl (.inl rfl)) (pgs_cons (pg_name (i := 15) sc__law_right.nd rfl (.inl rfl)) pgs_nil)))) 
      (pss_one (ps_ret (pe_cmpR op_eq (pe_call (ok_moved_by T) (hr.mono (by decide)) (by rfl) T.moved_by.g T.moved_by.F.kp T.moved_by.b .nil pass0 (pa_cons (pv 1) (pa_cons (pv 2) (pa_cons (pv 3) (pa_cons (pv 4) (pa_cons (pv 14) (pa_cons (pv 15) pa_nil))))))) (pe_call (ok__law_moved T) (hr.mono (by decide)) (by rfl) T._law_moved.g T._law_moved.F.kp T._law_moved.b .nil pass0 (pa_cons (pv 1) (pa_cons (pv 2) (pa_cons (pv 14) (pa_cons (pe_call (ok__law_by T) (hr.mono (by decide)) (by rfl) T._law_by.g T._law_by.F.kp T._law_by.b .nil pass0 (pa_cons (pv 4) (pa_cons (pv 15) pa_nil))) pa_nil))))) (nomark _))))))))))))))))), ?_⟩
    refine ⟨_, rfl, _, rfl, sz, fun l1 H1 s1 e1 nl1 => ?_⟩
    refine ⟨d, l1, _, rfl, hd.same s1, hd.ne nl1, e1, by decide, by decide, fun v H2 hv x2 => ?_⟩
    obtain ⟨t, rfl, t1, t2⟩ : ∃ t : Int, v = .int t ∧ 1 ≤ t ∧ t ≤ 32 := by
      simp only [List.mem_cons, List.not_mem_nil, or_false] at hv
      rcases hv with rfl | rfl
      · exact ⟨8, rfl, by decide, by decide⟩
      · exact ⟨32, rfl, by decide, by decide⟩
    refine ⟨d, t, rfl, x2.d, by omega, by omega, fun r H3 r0 r1 x3 => ⟨1, r, rfl, rfl, ?_⟩⟩
    obtain ⟨n, hn⟩ : ∃ n : Nat, 1 + r = (n : Int) := ⟨(1 + r).toNat, by omega⟩
    rw [show (fun i j => V.int (i + j)) 1 r = V.int (n : Int) from congrArg V.int hn]
    have n1 : 1 ≤ n := by omega
    have n2 : n ≤ 32 := by omega
    refine ⟨_, rfl, sz, fun l4 H4 s4 e4 nl4 => ?_⟩
    refine ⟨d, l4, _, rfl, x3.d.same s4, x3.d.ne nl4, e4, by decide, by decide, fun v5 H5 hv5 x5 => ?_⟩
    obtain ⟨lf, rfl⟩ := side_of hv5
    have X5 : Ext d H H5 := ((((Ext.of hd s1).trans x2).trans x3).same s4).trans x5
    refine ⟨sz, fun z6 H6 s6 e6 => ⟨z6, _, rfl, e6, rfl, _, _, rfl, _, [], rfl, rfl, ?_⟩⟩
    refine ⟨_, rfl, d, 6, rfl, (X5.same s6).d, by decide, by decide, fun r7 H7 r70 r71 x7 => ⟨1, r7, rfl, rfl, ?_⟩⟩
    obtain ⟨m, hm⟩ : ∃ m : Nat, 1 + r7 = (m : Int) := ⟨(1 + r7).toNat, by omega⟩
    rw [show (fun i j => V.int (i + j)) 1 r7 = V.int (m : Int) from congrArg V.int hm]
    have m1 : 1 ≤ m := by omega
    have m2 : m ≤ 6 := by omega
    have X7 := (X5.same s6).trans x7
    refine ⟨_, rfl, _, rfl, _, rfl, d, n, m, rfl, x7.d, n1, n2, m1, m2, fun R H8 rs x8 ⟨hR8⟩ => ?_⟩
    have X8 := X7.trans x8
    have hrm : ∀ p ∈ rs, p.1 < m := fun p hp => (hR8.ok p hp).1
    -- told, wrong
    refine ⟨fun σ H' => ∃ (v : V) (W : Addr), σ = [some (.ref d), some (.int n), some (.str (sideS lf)), some (.int m), some (.ref R), some v, some (.ref W), none, none, none, none, none, none, none, none, none, none] ∧ Same H8 H' ∧ Told K H' n m rs v ∧ H' W = some (.lst []) ∧ H8 W = none, ?_, ?_⟩
    · refine ⟨_, rfl, _, rfl, _, rfl, _, rfl, n, lf, m, R, rs, rfl, n1, n2, m1, m2, ⟨hR8⟩, fun H9 s9 => ⟨fun hok => ?_, fun b hb hno p hp => ?_⟩⟩
      · refine ⟨sz, fun W H10 s10 e10 nW => ⟨_, _, rfl, ?_⟩⟩
        refine ⟨.non, W, rfl, s9.trans s10, .inl ⟨hok, rfl⟩, e10, ?_⟩
        cases e : H8 W with
        | none => rfl
        | some o =>
          rw [s9 _ _ e] at nW
          cases nW
      · refine ⟨sz, fun W H10 s10 e10 nW => ⟨_, _, rfl, ?_⟩⟩
        refine ⟨.ref p, W, rfl, s9.trans s10, .inr ⟨b, p, hb, hno, rfl, sT s10 hp⟩, e10, ?_⟩
        cases e : H8 W with
        | none => rfl
        | some o =>
          rw [s9 _ _ e] at nW
          cases nW
    rintro σ H10 ⟨v, W, rfl, s10, ht, eW, nW⟩
    refine ⟨_, rfl, _, rfl, by omega, by omega, for_rangeN (n := m) (fun i σ H' => ∃ y : Option V, σ = [some (.ref d), some (.int n), some (.str (sideS lf)), some (.int m), some (.ref R), some v, some (.ref W), y, none, none, none, none, none, none, none, none, none] ∧ Same H8 H' ∧ Told K H' n m rs v ∧ H' W = some (.lst ((wrongs n rs i).map V.int))) ⟨none, rfl, s10, ht, eW⟩ ?_ ?_⟩
    · rintro b σ H11 hb ⟨y, rfl, s11, ht, eW⟩
      refine ⟨_, rfl, _, rfl, _, rfl, b, rfl, by omega, R, m, rs, _, rfl, ⟨hR8.same s11⟩, m2, fun H12 s12 => ⟨_, _, rfl, ?_⟩⟩
      refine ⟨_, rfl, _, rfl, b, rfl, by omega, _, _, rfl, rfl, _, rfl, ?_⟩
      rw [minI, minI]
      have hlw : (wrongs n rs b).length ≤ b := by
        unfold wrongs
        rw [List.length_map]
        have := List.length_filter_le (fun b => ! decide (okB n rs b)) (List.range b)
        rw [List.length_range] at this
        exact this
      refine ite3 (fun e => ?_) (fun e => ?_)
      · have hno : ¬ okB n rs b := fun z => Bool.noConfusion (e.symm.trans (neFI (okB_iff.mp z)))
        refine ⟨_, rfl, .inl ⟨rfl, _, SqL.of (s12 _ _ eW)⟩, _, rfl, W, _, _, rfl, rfl, s12 _ _ eW, szlt (by rw [List.length_map]; omega), ?_⟩
        refine ⟨_, rfl, Same.back nW (s11.trans s12) But.mut, ht.lm ((LMut.of s12).trans (LMut.mut _ (s12 _ _ eW))), ?_⟩
        rw [upd_same, wrongs_succ, if_neg hno, List.map_append]
        rfl
      · have hok : okB n rs b := okB_iff.mpr (Classical.byContradiction fun z => Bool.noConfusion (e.symm.trans (neTI z)))
        refine ⟨_, rfl, s11.trans s12, ht.lm (LMut.of s12), ?_⟩
        rw [wrongs_succ, if_pos hok, List.append_nil]
        exact s12 _ _ eW
    rintro σ H11 ⟨y, rfl, s11, ht, eW⟩
    refine ⟨_, rfl, m, rfl, by omega, ((2 ^ m : Nat) : Int), congrArg (fun z => [V.int z]) (two_nat m), ?_, ?_, lc_rangeF (n := 2 ^ m) (fun c => (evF n rs c).map V.int) ?_ ?_ fun D H12 s12 e12 _ => ?_⟩
    · have h2 := two_pos m
      rw [← two_nat]
      omega
    · have : (2 : Nat) ^ m ≤ 2 ^ 6 := Nat.pow_le_pow_right (by decide) m2
      omega
    · have : (2 : Nat) ^ m ≤ 2 ^ 6 := Nat.pow_le_pow_right (by decide) m2
      omega
    · intro c H' hc sm Rk N hR hN
      refine ⟨rfl, _, rfl, _, rfl, _, rfl, R, m, rs, _, rfl, ⟨hR8.same (s11.trans sm)⟩, m2, fun H12 s12 => ⟨_, _, rfl, ?_⟩⟩
      refine ⟨_, rfl, _, rfl, _, _, rfl, rfl, _, rfl, ?_⟩
      rw [minI, minI]
      unfold evF at hR hN
      refine ite3 (fun e => ?_) (fun e => ?_)
      · have hno : ¬ min (n : Int) (byS c rs : Int) = min (n : Int) c := fun z => Bool.noConfusion (e.symm.trans (neFI z))
        rw [if_neg hno] at hR
        exact ⟨_, rfl, hR _ _ rfl s12⟩
      · have hok : min (n : Int) (byS c rs : Int) = min (n : Int) c := Classical.byContradiction fun z => Bool.noConfusion (e.symm.trans (neTI z))
        rw [if_pos hok] at hN
        exact hN _ rfl s12
    rw [evs_map] at e12
    have s12' := s11.trans s12
    have ht12 := ht.lm (LMut.of s12)
    have eW12 := s12 _ _ eW
    -- the first if
    refine ⟨fun σ H' => σ = [some (.ref d), some (.int n), some (.str (sideS lf)), some (.int m), some (.ref R), some v, some (.ref W), y, some (.ref D), none, none, none, none, none, none, none, none] ∧ Same H8 H' ∧ Told K H' n m rs v, ?_, ?_⟩
    · rcases ht12 with ⟨ok, rfl⟩ | ⟨b, p, hb, hno, rfl, hp⟩
      · rw [wrongs_nil ok] at eW12
        rw [evs_nil hrm ok] at e12
        refine ⟨_, rfl, rfl, _, rfl, sz, fun l H13 s13 e13 _ => ⟨_, _, .lst (SqL.of (s13 _ _ eW12)) .nil, .lst (SqL.of e13) .nil, rfl, rfl, rfl, _, rfl, iteBF rfl ?_⟩⟩
        refine ⟨_, rfl, rfl, _, rfl, sz, fun l2 H14 s14 e14 _ => ⟨_, _, .lst (SqL.of (s14 _ _ (s13 _ _ e12))) .nil, .lst (SqL.of e14) .nil, rfl, rfl, rfl, _, rfl, iteBF rfl ?_⟩⟩
        exact ⟨rfl, (s12'.trans s13).trans s14, .inl ⟨ok, rfl⟩⟩
      · refine ⟨_, rfl, rfl, _, rfl, sz, fun l H13 s13 e13 _ => ⟨_, _, .lst (SqL.of (s13 _ _ eW12)) (dpI _), .lst (SqL.of e13) .nil, shL _, rfl, rfl, _, rfl, iteBF (by rw [eqv_nilI (wrongs_ne hb hno)]; rfl) ?_⟩⟩
        refine ⟨_, rfl, rfl, _, rfl, sz, fun l2 H14 s14 e14 _ => ⟨_, _, .lst (SqL.of (s14 _ _ (s13 _ _ e12))) (dpI _), .lst (SqL.of e14) .nil, shL _, rfl, rfl, _, rfl, iteBF (by rw [eqv_nilI (evs_ne hb hno)]; rfl) ?_⟩⟩
        exact ⟨rfl, (s12'.trans s13).trans s14, .inr ⟨b, p, hb, hno, rfl, sT (s13.trans s14) hp⟩⟩
    rintro σ H13 ⟨rfl, s13, ht13⟩
    -- the second if
    refine ⟨fun σ H' => σ = [some (.ref d), some (.int n), some (.str (sideS lf)), some (.int m), some (.ref R), some v, some (.ref W), y, some (.ref D), none, none, none, none, none, none, none, none] ∧ Same H8 H' ∧ Told K H' n m rs v, ?_, ?_⟩
    · rcases ht13 with ⟨ok, rfl⟩ | ⟨b, p, hb, hno, rfl, hp⟩
      · exact ⟨_, rfl, rfl, _, rfl, iteBF rfl ⟨rfl, s13, .inl ⟨ok, rfl⟩⟩⟩
      · refine ⟨_, rfl, rfl, _, rfl, iteB rfl ?_⟩
        refine ⟨_, rfl, _, rfl, _, rfl, _, rfl, _, rfl, n, lf, m, R, rs, .ref p, _, rfl, n1, n2, m1, m2, ⟨hR8.same s13⟩, .two hp (.i _) (.i _), fun H14 s14 => ⟨_, rfl, iteN (paper_ok n1 hb hno) ?_⟩⟩
        exact ⟨rfl, s13.trans s14, .inr ⟨b, p, hb, hno, rfl, sT s14 hp⟩⟩
    rintro σ H14 ⟨rfl, s14, ht14⟩
    refine ⟨_, rfl, n, rfl, by omega, _, rfl, m, rfl, by omega, _, _, rfl, ?_⟩
    -- some
    refine ⟨_, rfl, ?_⟩
    refine ⟨sz, fun t0 J0 j0 f0 => ?_⟩
    refine ⟨_, rfl, sz, fun t1 J1 j1 f1 => ?_⟩
    refine ⟨_, rfl, sz, fun t2 J2 j2 f2 => ?_⟩
    refine ⟨_, rfl, sz, fun t3 J3 j3 f3 => ?_⟩
    refine ⟨_, rfl, _, _, rfl, rfl, sz, fun t4 J4 j4 f4 => ?_⟩
    refine ⟨_, rfl, _, _, rfl, rfl, sz, fun t5 J5 j5 f5 nf5 => ?_⟩
    refine ⟨_, rfl, _, _, rfl, rfl, sz, fun t6 J6 j6 f6 => ?_⟩
    refine ⟨_, rfl, sz, fun t7 J7 j7 f7 => ⟨sz, fun S J8 j8 f8 nS => ?_⟩⟩
    have k8 := j8
    have k7 := j7.trans k8
    have k6 := j6.trans k7
    have k5 := j5.trans k6
    have k4 := j4.trans k5
    have k3 := j3.trans k4
    have k2 := j2.trans k3
    have k1 := j1.trans k2
    have k0 := j0.trans k1
    have c7 := j0.trans (j1.trans (j2.trans (j3.trans (j4.trans (j5.trans (j6.trans j7))))))
    have X7' : Ext d H J7 := (X8.same s14).same c7
    have nSd : S ≠ d := X7'.d.ne nS
    have nSH : H S = none := by
      cases e : H S with
      | none => rfl
      | some o =>
        have := X7'.s _ _ nSd e
        rw [nS] at this
        cases this
    have hn0 := two_pos n
    have hm0 := two_pos m
    have hb := two32 n2
    have hm6 : (2 : Int) ^ m ≤ 2 ^ 6 := two_mono m2
    have htold : ∃ o, PapV K J8 v o := by
      rcases ht14 with ⟨ok, rfl⟩ | ⟨b, p, hb, hno, rfl, hp⟩
      · exact ⟨none, .non .n (by decide)⟩
      · exact ⟨_, .two (sT k0 hp) (.i _) (.i _)⟩
    refine ⟨_, rfl, by decide, by decide, for_rangeN (n := 6) (fun i σ H' => ∃ (xs : List V) (yt : Option V), σ = [some (.ref d), some (.int n), some (.str (sideS lf)), some (.int m), some (.ref R), some v, some (.ref W), y, some (.ref D), some (.int (2 ^ n)), some (.int (2 ^ m)), some (.ref S), yt, none, none, none, none] ∧
      Dice H' d ∧ (∀ b o, b ≠ S → b ≠ d → J7 b = some o → H' b = some o) ∧ H' S = some (.lst xs) ∧ xs.length = 10 + i ∧ LMut H8 H' ∧ (∀ v ∈ xs, ∃ o, PapV K H' v o) ∧
      (1 ≤ i → ∃ ys t x c, xs = ys ++ [.ref t] ∧ SqT K H' t [.int x, .int c] ∧ 0 ≤ x ∧ x < 2 ^ n ∧ 0 ≤ c ∧ c < 2 ^ m)) ⟨_, none, rfl, X7'.d.same j8, fun b o _ _ e => j8 _ _ e, f8, rfl, LMut.of (s14.trans k0), ?_, fun z => absurd z (by decide)⟩ ?_ ?_⟩
    · intro v' hv'
      simp only [List.mem_cons, List.not_mem_nil, or_false] at hv'
      rcases hv' with rfl | rfl | rfl | rfl | rfl | rfl | rfl | rfl | rfl | rfl
      · exact htold
      · exact ⟨none, .non .n (by decide)⟩
      · exact ⟨none, .len (sT k1 f0) (by decide)⟩
      · exact ⟨_, .two (sT k2 f1) (.i _) (.i _)⟩
      · exact ⟨_, .two (sT k3 f2) (.i _) (.i _)⟩
      · exact ⟨_, .two (sT k4 f3) (.i _) (.i _)⟩
      · exact ⟨_, .two (sT k5 f4) (.i _) (.b _)⟩
      · exact ⟨none, .non (Knd.l (SqL.of (k6 _ _ f5))) (by decide)⟩
      · exact ⟨none, .len (sT k7 f6) (by simp)⟩
      · exact ⟨_, .two (sT k8 f7) (.i _) (.i _)⟩
    · rintro i σ H15 hi ⟨xs, yt, rfl, hd15, bb15, hS15, hl15, lm15, hp15, _⟩
      refine ⟨_, rfl, .inl ⟨rfl, _, SqL.of hS15⟩, _, rfl, _, rfl, _, _, rfl, rfl, _, rfl, _, rfl, d, _, rfl, hd15, hn0, by omega, fun r16 H16 r160 r161 x16 => ⟨sz, fun l H17 s17 e17 nl17 => ?_⟩⟩
      refine ⟨d, l, _, rfl, x16.d.same s17, x16.d.ne nl17, e17, by show 0 < 2; decide, by show 2 ≤ 100000; decide, fun v18 H18 hv18 x18 => ?_⟩
      obtain ⟨x, rfl, x0, x1⟩ : ∃ x : Int, v18 = .int x ∧ 0 ≤ x ∧ x < 2 ^ n := by
        simp only [List.mem_cons, List.not_mem_nil, or_false] at hv18
        rcases hv18 with rfl | rfl
        · exact ⟨2 ^ n - 1, rfl, by omega, by omega⟩
        · exact ⟨_, rfl, r160, r161⟩
      refine ⟨_, rfl, _, rfl, d, _, rfl, x18.d, hm0, by omega, fun c H19 c0 c1 x19 => ⟨sz, fun t H20 s20 e20 => ?_⟩⟩
      have dd17 := x16.d.same s17
      have lm20 : LMut H15 H20 := (((x16.lm hd15).trans (LMut.of s17)).trans (x18.lm dd17)).trans ((x19.lm x18.d).trans (LMut.of s20))
      have hS20 := s20 _ _ (x19.s _ _ nSd (x18.s _ _ nSd (s17 _ _ (x16.s _ _ nSd hS15))))
      refine ⟨S, _, _, rfl, rfl, hS20, szlt (by omega), ?_⟩
      have lm21 := LMut.mut (xs ++ [.ref t]) hS20
      have dd20 := x19.d.same s20
      refine ⟨xs ++ [.ref t], _, rfl, ?_, fun b o nb1 nb2 eb => ?_, upd_same, by rw [List.length_append, hl15]; rfl, lm15.trans (lm20.trans lm21), fun v' hv' => ?_, fun _ => ⟨xs, t, x, c, rfl, lm21.seqT e20, x0, x1, c0, c1⟩⟩
      · obtain ⟨a1, a2, a3, ea⟩ := dd20
        exact ⟨a1, a2, a3, by rw [upd_ne (Ne.symm nSd)]; exact ea⟩
      · rw [upd_ne nb1]
        exact s20 _ _ (x19.s _ _ nb2 (x18.s _ _ nb2 (s17 _ _ (x16.s _ _ nb2 (bb15 _ _ nb1 nb2 eb)))))
      · rcases List.mem_append.mp hv' with hv' | hv'
        · obtain ⟨o, ho⟩ := hp15 v' hv'
          exact ⟨o, ho.lm (lm20.trans lm21)⟩
        · rw [List.mem_singleton.mp hv']
          exact ⟨_, .two (lm21.seqT e20) (.i _) (.i _)⟩
    rintro σ H15 ⟨xs, yt, rfl, hd15, bb15, hS15, hl15, lm15, hp15, hlast⟩
    obtain ⟨ys, t, x, c, rfl, ht15, x0, x1, c0, c1⟩ := hlast (by decide)
    have X15 : Ext d H H15 := ⟨fun b o nb eb => bb15 _ _ (ne_of_none eb nSH) nb (X7'.s _ _ nb eb), hd15⟩
    have hR15 := hR8.lm lm15
    refine ⟨_, rfl, S, rfl, ⟨_, SqL.of hS15⟩, for_list (K := K) (a := S) (xs := ys ++ [.ref t]) (fun i σ H' => ∃ yv : Option V, σ = [some (.ref d), some (.int n), some (.str (sideS lf)), some (.int m), some (.ref R), some v, some (.ref W), y, some (.ref D), some (.int (2 ^ n)), some (.int (2 ^ m)), some (.ref S), yt, yv, none, none, none] ∧ Same H15 H') ⟨none, rfl, Same.refl _⟩ ?_ ?_ ?_⟩
    · rintro i σ H' _ ⟨yv, _, s⟩
      exact s.seq (SqL.of hS15)
    · rintro i v' σ H16 hv' ⟨yv, rfl, s16⟩
      obtain ⟨o, ho⟩ := hp15 v' (List.mem_of_getElem? hv')
      refine ⟨_, rfl, _, rfl, _, rfl, _, rfl, _, rfl, n, lf, m, R, rs, v', o, rfl, n1, n2, m1, m2, ⟨hR15.same s16⟩, ho.same s16, fun H17 s17 => ?_⟩
      refine ⟨_, rfl, _, rfl, _, rfl, _, rfl, _, rfl, n, lf, m, R, rs, v', o, rfl, n1, n2, m1, m2, ⟨hR15.same (s16.trans s17)⟩, ho.same (s16.trans s17), fun H18 s18 => ⟨rfl, _, rfl, iteBF (neF rfl) ?_⟩⟩
      exact ⟨_, rfl, (s16.trans s17).trans s18⟩
    rintro σ H16 ⟨yv, rfl, s16⟩
    refine ⟨_, rfl, 1, rfl, S, _, -1, _, rfl, rfl, SqL.of (s16 _ _ hS15), atI_last _ _, t, _, rfl, sT s16 ht15, rfl, _, _, rfl, _, [], rfl, rfl, ?_⟩
    refine ⟨_, rfl, _, rfl, _, rfl, _, rfl, _, rfl, _, rfl, n, lf, m, R, rs, x, c, rfl, n1, n2, m1, m2, ⟨hR15.same s16⟩, x0, x1, c0, c1, fun H17 s17 => ?_⟩
    refine ⟨_, rfl, _, rfl, _, rfl, _, rfl, _, rfl, R, m, rs, c, rfl, ⟨hR15.same (s16.trans s17)⟩, m2, fun H18 s18 => ?_⟩
    refine ⟨n, lf, x, byS c rs, rfl, n2, x0, x1, rfl, ?_⟩
    rw [decide_eq_true rfl]
    exact q _ (X15.same ((s16.trans s17).trans s18))
end
end TB
namespace TB
open PySem PySem.Spec PyProof.Rows L2
section
variable {P : Program} {w : World} {K : PySem.W.Frag} {mg : Str → Option Value} {base : Heap}
theorem PairsL.cons {H : Hp} {rs : List V} {ps : List (Int × Int)} {a : Addr} {p : Int × Int} (t : SqT K H a (pairV p)) (h : PairsL K H rs ps) : PairsL K H (.ref a :: rs) (p :: ps) := by
  refine ⟨congrArg Nat.succ h.len, fun i r q e1 e2 => ?_⟩
  cases i with
  | zero =>
    cases e1
    cases e2
    exact ⟨a, rfl, t⟩
  | succ i => exact h.at' i r q e1 e2
def lawRs : Rd2 := [(3, 5), (2, 64), (0, 1), (1, 1), (1, 1)]
theorem lawRs_ok : ∀ p ∈ lawRs, p.1 < 4 ∧ p.2 ≤ 64 := by
  intro p hp
  simp only [lawRs, List.mem_cons, List.not_mem_nil, or_false] at hp
  rcases hp with rfl | rfl | rfl | rfl | rfl <;> exact ⟨by decide, by decide⟩
theorem lawRs_bad : ¬ okB 5 lawRs 2 := by decide +kernel
theorem lawRs_good : ∀ b : Nat, b < 4 → okB 4 lawRs b
  | 0, _ => by decide +kernel
  | 1, _ => by decide +kernel
  | 2, _ => by decide +kernel
  | 3, _ => by decide +kernel
def sp_law (K : PySem.W.Frag) : Sp := fun vs H Q _ => ∃ (a : Addr) (ns : List Int), vs = [.ref a] ∧ SqL K H a (ns.map V.int) ∧ ns.length ≤ 63 ∧ ∀ H', Q (.bl true) H'
theorem ok_law (T : Txt K mg) : FnOk P w K mg base CX0 8 T.law.f T.law.fd ["_law_script"] (sp_law K) := by
  refine T.law.F.ok sc_law (fun vs H Q E h => ?_) (fun cdv A outer s H vs Q E hr h => ?_)
  · obtain ⟨a, ns, rfl, _⟩ := h
    rfl
  · obtain ⟨a, ns, rfl, hS, hlen, q⟩ := h
    refine ⟨_, (pss_cons (ps_for PassesOwn.never rfl (pi_range1 (by rfl) T.z_range (pa_cons (pe_callB (call_max2 rfl) (by rfl) T.z_max (by decide +kernel) (pa_cons pe_int (pa_cons (pe_callB (call_min2 rfl) (by rfl) T.z_min (by decide +kernel) (pa_cons pe_int (pa_cons (pe_callB call_len_seq (by rfl) T.z_len PySem.boot_len (pa_cons (pv 0) pa_nil)) pa_nil))) pa_nil))) pa_nil)) (pg_name (i := 1) sc_law.nd rfl (.inl rfl)) 
        (pss_cons (ps_set (i := 2) sc_law.nd rfl (.inl rfl) (pe_call (ok__law_dice T) (hr.mono (by decide)) (by rfl) T._law_dice.g T._law_dice.F.kp T._law_dice.b .nil pass0 (pa_cons (pv 0) (pa_cons (pv 1) pa_nil)))) 
        (pss_one (ps_for PassesOwn.never rfl (pi_range1 (by rfl) T.z_range (pa_cons pe_int pa_nil)) (pg_name (i := 3) sc_law.nd rfl (.inl rfl)) 
          (pss_one (ps_if (pt_not (pt_val (pe_call (ok__law_right T) (hr.mono (by decide)) (by rfl) T._law_right.g T._law_right.F.kp T._law_right.b .nil pass0 (pa_cons (pv 2) pa_nil)))) 
            (pss_one (ps_ret pe_bl)) pss_nil)))))) 
      (pss_cons (ps_if (pt_cmpR (op_neD hr.units) (pe_lc (own := [("_law_many", 5)]) (by rfl) sc_law.nd (pi_tup (pe_tupA (pa_cons pe_int (pa_cons pe_int pa_nil)))) (blkOk_by (own := [("_law_many", 5)]) (N := ["_law_script", "_law_at", "_law_dice_here", "_law_turn", "_law_some", "_law_many"]) (sc := defScope s_law) (by decide +kernel)) (fun _ _ _ _ _ => (pg_name (i := 5) sc_law.nd rfl (.inl rfl))) (fun _ _ _ _ _ => pts_nil) (fun _ _ _ _ _ => (pe_call (ok_plain_rounds T) (hr.mono (by decide)) (by rfl) T.plain_rounds.g T.plain_rounds.F.kp T.plain_rounds.b .nil pass0 (pa_cons (pv 5) pa_nil)))) (pe_lstA (pa_cons (pe_tupA (pa_cons (pe_tupA (pa_cons pe_int (pa_cons pe_int pa_nil))) pa_nil)) (pa_cons (pe_tupA (pa_cons (pe_tupA (pa_cons pe_int (pa_cons pe_int pa_nil))) (pa_cons (pe_tupA (pa_cons pe_int (pa_cons pe_int pa_nil))) (pa_cons (pe_tupA (pa_cons pe_int (pa_cons pe_int pa_nil))) pa_nil)))) pa_nil))) (nomark _)) 
        (pss_one (ps_ret pe_bl)) pss_nil) 
      (pss_cons (ps_set (i := 4) sc_law.nd rfl (.inl rfl) (pe_tupA (pa_cons (pe_tupA (pa_cons pe_int (pa_cons pe_int pa_nil))) (pa_cons (pe_tupA (pa_cons pe_int (pa_cons pe_int pa_nil))) (pa_cons (pe_tupA (pa_cons pe_int (pa_cons pe_int pa_nil))) (pa_cons (pe_tupA (pa_cons pe_int (pa_cons pe_int pa_nil))) (pa_cons (pe_tupA (pa_cons pe_int (pa_cons pe_int pa_nil))) pa_nil))))))) 
      (pss_one (ps_ret (pe_and (pe_cmpR op_notN (pe_call (ok_rounds_paper T) (hr.mono (by decide)) (by rfl) T.rounds_paper.g T.rounds_paper.F.kp T.rounds_paper.b .nil pass0 (pa_cons pe_int (pa_cons pe_str (pa_cons pe_int (pa_cons (pv 4) pa_nil))))) pe_non (nomark _)) (pe_one (pe_cmpR op_isN (pe_call (ok_rounds_paper T) (hr.mono (by decide)) (by rfl) T.rounds_paper.g T.rounds_paper.F.kp T.rounds_paper.b .nil pass0 (pa_cons pe_int (pa_cons pe_str (pa_cons pe_int (pa_cons (pv 4) pa_nil))))) pe_non (nomark _))))))))), ?_⟩
    refine ⟨_, rfl, a, _, rfl, .inl hS, _, _, rfl, _, _, rfl, _, rfl, ?_, ?_, ?_⟩
    · rw [List.length_map]
      split <;> split <;> omega
    · rw [List.length_map]
      split <;> split <;> omega
    refine for_rangeN (fun i σ H' => ∃ y1 y2 y3, σ = [some (.ref a), y1, y2, y3, none, none] ∧ Same H H') ⟨none, none, none, rfl, Same.refl H⟩ ?_ ?_
    · rintro i σ H' _ ⟨y1, y2, y3, rfl, sm⟩
      refine ⟨_, rfl, _, rfl, a, ns, i, rfl, sm.seq hS, fun x y z d H1 s1 e1 nd => ?_⟩
      have hd : Dice H1 d := ⟨x, y, z, e1⟩
      refine ⟨_, rfl, by decide, by decide, for_rangeN (n := 3) (fun j σ H2 => ∃ y3, σ = [some (.ref a), some (.int i), some (.ref d), y3, none, none] ∧ Ext d H1 H2) ⟨y3, rfl, Ext.refl hd⟩ ?_ ?_⟩
      · rintro j σ H2 _ ⟨y3, rfl, xx⟩
        refine ⟨_, rfl, d, rfl, xx.d, fun H3 x3 => ⟨true, rfl, iteF ?_⟩⟩
        exact ⟨_, rfl, xx.trans x3⟩
      · rintro σ H2 ⟨y3, rfl, xx⟩
        exact ⟨_, _, _, rfl, sm.trans (Same.back nd s1 xx.s)⟩
    · rintro σ H1 ⟨y1, y2, y3, rfl, sm⟩
      refine ⟨sz, fun t1 H2 s2 e2 => ⟨t1, rfl, ⟨_, e2⟩, lc_tupR e2 (fun i v H => ∃ p xs, v = .ref p ∧ SqT K H p xs ∧ PairsL K H xs ((List.range (if i = 0 then 1 else 3)).map fun b : Nat => ((b : Int), (2 : Int) ^ b))) ?_ (by show 2 ≤ 100000; decide) ?_ fun D H3 ys s3 e3 hl hR _ => ?_⟩⟩
      · rintro i v H H' u ⟨p, xs, rfl, t, hP⟩
        exact ⟨p, xs, rfl, u.seqT t, u.pairs hP⟩
      · intro i x H' hx s3 Rk N hRk
        match i, hx with
        | 0, hx =>
          cases hx
          exact ⟨rfl, _, rfl, 1, rfl, by decide, by decide, fun p xs H4 s4 t hP => hRk _ _ s4 ⟨p, xs, rfl, t, hP⟩⟩
        | 1, hx =>
          cases hx
          exact ⟨rfl, _, rfl, 3, rfl, by decide, by decide, fun p xs H4 s4 t hP => hRk _ _ s4 ⟨p, xs, rfl, t, hP⟩⟩
        | i + 2, hx => cases hx
      obtain ⟨v1, v2, rfl⟩ : ∃ v1 v2, ys = [v1, v2] := by
        match ys, hl with
        | [v1, v2], _ => exact ⟨v1, v2, rfl⟩
      obtain ⟨p1, xs1, rfl, u1, w1⟩ := hR 0 v1 rfl
      obtain ⟨p2, xs2, rfl, u2, w2⟩ := hR 1 v2 rfl
      refine ⟨sz, fun a1 K1 k1 f1 => ⟨sz, fun a2 K2 k2 f2 => ⟨sz, fun a3 K3 k3 f3 => ⟨sz, fun a4 K4 k4 f4 => ⟨sz, fun a5 K5 k5 f5 => ⟨sz, fun a6 K6 k6 f6 => ⟨sz, fun a7 K7 k7 f7 _ => ?_⟩⟩⟩⟩⟩⟩⟩
      have g6 := k7
      have g5 := k6.trans g6
      have g4 := k5.trans g5
      have g3 := k4.trans g4
      have g2 := k3.trans g3
      have g1 := k2.trans g2
      have g0 := k1.trans g1
      refine ⟨_, _, .lst (SqL.of (g0 _ _ e3)) (.cons (.tup (sT g0 u1) (w1.same g0).dp) (.cons (.tup (sT g0 u2) (w2.same g0).dp) .nil)),
        .lst (SqL.of f7) (.cons (.tup (sT g2 f2) (.cons (dp2 (sT g1 f1)) .nil)) (.cons (.tup (sT g6 f6) (.cons (dp2 (sT g3 f3)) (.cons (dp2 (sT g4 f4)) (.cons (dp2 (sT g5 f5)) .nil)))) .nil)), by decide +kernel, by decide +kernel, _, rfl, iteBF (by decide +kernel) ?_⟩
      refine ⟨sz, fun b1 L1 l1 h1 => ⟨sz, fun b2 L2 l2 h2 => ⟨sz, fun b3 L3 l3 h3 => ⟨sz, fun b4 L4 l4 h4 => ⟨sz, fun b5 L5 l5 h5 => ⟨sz, fun b6 L6 l6 h6 => ?_⟩⟩⟩⟩⟩⟩
      have m5 := l6
      have m4 := l5.trans m5
      have m3 := l4.trans m4
      have m2 := l3.trans m3
      have m1 := l2.trans m2
      have hP : PairsL K L6 [.ref b1, .ref b2, .ref b3, .ref b4, .ref b5] [(3, 5), (2, 64), (0, 1), (1, 1), (1, 1)] :=
        .cons (p := (3, 5)) (sT m1 h1) (.cons (p := (2, 64)) (sT m2 h2) (.cons (p := (0, 1)) (sT m3 h3) (.cons (p := (1, 1)) (sT m4 h4) (.cons (p := (1, 1)) (sT m5 h5) .nil))))
      have hR : RdAt K L6 b6 4 lawRs := ⟨_, h6, hP, by decide, lawRs_ok⟩
      refine ⟨_, rfl, 5, true, 4, b6, lawRs, rfl, by decide, by decide, by decide, by decide, ⟨hR⟩, fun M1 n1 => ⟨fun hok => absurd (hok 2 (by decide)) lawRs_bad, fun b hb hno p hp => ?_⟩⟩
      refine ⟨rfl, _, rfl, iteT ?_⟩
      refine ⟨_, rfl, 4, false, 4, b6, lawRs, rfl, by decide, by decide, by decide, by decide, ⟨hR.same n1⟩, fun M2 n2 => ⟨fun hok => ⟨rfl, q _⟩, fun b hb hno p hp => absurd (lawRs_good b hb) hno⟩⟩
end
end TB
namespace TB
open PySem PySem.Spec PyProof.Rows L2
/-! ### the end -/
noncomputable def txt_mk {K : PySem.W.Frag} {h : Heap} {mg : Str → Option Value} (X : K.In h) (G : h.Ns mainGlobals mg)
    {f0 f1 f2 f3 f4 f5 f6 f7 f8 f9 f10 f11 f12 f13 f14 f15 f16 f17 f18 f19 f20 f21 f22 f23 : Addr} {od0 an0 od1 an1 od2 an2 od3 an3 od4 an4 od5 an5 od6 an6 od7 an7 od8 an8 od9 an9 od10 an10 od11 an11 od12 an12 od13 an13 od14 an14 od15 an15 od16 an16 od17 an17 od18 an18 od19 an19 od20 an20 od21 an21 od22 an22 od23 an23 : Option Addr} {sl0 sl1 sl2 sl3 sl4 sl5 sl6 sl7 sl8 sl9 sl10 sl11 sl12 sl13 sl14 sl15 sl16 sl17 sl18 sl19 sl20 sl21 sl22 sl23 : Array (Option Value)} {oc0 dc0 pm0 cd0 ct0 kV0 oc1 dc1 pm1 cd1 ct1 kV1 oc2 dc2 pm2 cd2 ct2 kV2 oc3 dc3 pm3 cd3 ct3 kV3 oc4 dc4 pm4 cd4 ct4 kV4 oc5 dc5 pm5 cd5 ct5 kV5 oc6 dc6 pm6 cd6 ct6 kV6 oc7 dc7 pm7 cd7 ct7 kV7 oc8 dc8 pm8 cd8 ct8 kV8 oc9 dc9 pm9 cd9 ct9 kV9 oc10 dc10 pm10 cd10 ct10 kV10 oc11 dc11 pm11 cd11 ct11 kV11 oc12 dc12 pm12 cd12 ct12 kV12 oc13 dc13 pm13 cd13 ct13 kV13 oc14 dc14 pm14 cd14 ct14 kV14 oc15 dc15 pm15 cd15 ct15 kV15 oc16 dc16 pm16 cd16 ct16 kV16 oc17 dc17 pm17 cd17 ct17 kV17 oc18 dc18 pm18 cd18 ct18 kV18 oc19 dc19 pm19 cd19 ct19 kV19 oc20 dc20 pm20 cd20 ct20 kV20 oc21 dc21 pm21 cd21 ct21 kV21 oc22 dc22 pm22 cd22 ct22 kV22 oc23 dc23 pm23 cd23 ct23 kV23 : Value} {xa0 : Addr} {xd0 : Option Addr} {xn0 : Nat} {xs0 : Array (Option Value)} {xt0_0 xt0_1 : Tok} {tk0 tk1 tk2 tk3 tk5 : Tok}
    (a0 : PySem.W.nsIn K mainGlobals "is_integer" = some (some (.ref f0)))
    (l0 : K.lookup f0 = some ⟨oc0, od0, .func (PySem.W.fnOf "is_integer" "is_integer" (defArgs s_is_integer) (defBody s_is_integer) (defScope s_is_integer) .none kV0 dc0 pm0 an0 cd0 ct0), sl0⟩)
    (c0 : PySem.W.codeIn K cd0 "is_integer" = true)
    (k0 : PySem.W.keepIn K (.ref f0) = true)
    (a1 : PySem.W.nsIn K mainGlobals "is_within" = some (some (.ref f1)))
    (l1 : K.lookup f1 = some ⟨oc1, od1, .func (PySem.W.fnOf "is_within" "is_within" (defArgs s_is_within) (defBody s_is_within) (defScope s_is_within) .none kV1 dc1 pm1 an1 cd1 ct1), sl1⟩)
    (c1 : PySem.W.codeIn K cd1 "is_within" = true)
    (k1 : PySem.W.keepIn K (.ref f1) = true)
    (a2 : PySem.W.nsIn K mainGlobals "is_word_in" = some (some (.ref f2)))
    (l2 : K.lookup f2 = some ⟨oc2, od2, .func (PySem.W.fnOf "is_word_in" "is_word_in" (defArgs s_is_word_in) (defBody s_is_word_in) (defScope s_is_word_in) .none kV2 dc2 pm2 an2 cd2 ct2), sl2⟩)
    (c2 : PySem.W.codeIn K cd2 "is_word_in" = true)
    (k2 : PySem.W.keepIn K (.ref f2) = true)
    (a3 : PySem.W.nsIn K mainGlobals "moved_word" = some (some (.ref f3)))
    (l3 : K.lookup f3 = some ⟨oc3, od3, .func (PySem.W.fnOf "moved_word" "moved_word" (defArgs s_moved_word) (defBody s_moved_word) (defScope s_moved_word) .none kV3 dc3 pm3 an3 cd3 ct3), sl3⟩)
    (c3 : PySem.W.codeIn K cd3 "moved_word" = true)
    (k3 : PySem.W.keepIn K (.ref f3) = true)
    (a4 : PySem.W.nsIn K mainGlobals "through_rounds" = some (some (.ref f4)))
    (l4 : K.lookup f4 = some ⟨oc4, od4, .func (PySem.W.fnOf "through_rounds" "through_rounds" (defArgs s_through_rounds) (defBody s_through_rounds) (defScope s_through_rounds) .none kV4 dc4 pm4 an4 cd4 ct4), sl4⟩)
    (c4 : PySem.W.codeIn K cd4 "through_rounds" = true)
    (k4 : PySem.W.keepIn K (.ref f4) = true)
    (a5 : PySem.W.nsIn K mainGlobals "wrong_bit" = some (some (.ref f5)))
    (l5 : K.lookup f5 = some ⟨oc5, od5, .func (PySem.W.fnOf "wrong_bit" "wrong_bit" (defArgs s_wrong_bit) (defBody s_wrong_bit) (defScope s_wrong_bit) .none kV5 dc5 pm5 an5 cd5 ct5), sl5⟩)
    (c5 : PySem.W.codeIn K cd5 "wrong_bit" = true)
    (k5 : PySem.W.keepIn K (.ref f5) = true)
    (a6 : PySem.W.nsIn K mainGlobals "is_round" = some (some (.ref f6)))
    (l6 : K.lookup f6 = some ⟨oc6, od6, .func (PySem.W.fnOf "is_round" "is_round" (defArgs s_is_round) (defBody s_is_round) (defScope s_is_round) .none kV6 dc6 pm6 an6 cd6 ct6), sl6⟩)
    (c6 : PySem.W.codeIn K cd6 "is_round" = true)
    (k6 : PySem.W.keepIn K (.ref f6) = true)
    (a7 : PySem.W.nsIn K mainGlobals "are_rounds" = some (some (.ref f7)))
    (l7 : K.lookup f7 = some ⟨oc7, od7, .func (PySem.W.fnOf "are_rounds" "are_rounds" (defArgs s_are_rounds) (defBody s_are_rounds) (defScope s_are_rounds) .none kV7 dc7 pm7 an7 cd7 ct7), sl7⟩)
    (c7 : PySem.W.codeIn K cd7 "are_rounds" = true)
    (k7 : PySem.W.keepIn K (.ref f7) = true)
    (a8 : PySem.W.nsIn K mainGlobals "require_rounds" = some (some (.ref f8)))
    (l8 : K.lookup f8 = some ⟨oc8, od8, .func (PySem.W.fnOf "require_rounds" "require_rounds" (defArgs s_require_rounds) (defBody s_require_rounds) (defScope s_require_rounds) .none kV8 dc8 pm8 an8 cd8 ct8), sl8⟩)
    (c8 : PySem.W.codeIn K cd8 "require_rounds" = true)
    (k8 : PySem.W.keepIn K (.ref f8) = true)
    (a9 : PySem.W.nsIn K mainGlobals "plain_rounds" = some (some (.ref f9)))
    (l9 : K.lookup f9 = some ⟨oc9, od9, .func (PySem.W.fnOf "plain_rounds" "plain_rounds" (defArgs s_plain_rounds) (defBody s_plain_rounds) (defScope s_plain_rounds) .none kV9 dc9 pm9 an9 cd9 ct9), sl9⟩)
    (c9 : PySem.W.codeIn K cd9 "plain_rounds" = true)
    (k9 : PySem.W.keepIn K (.ref f9) = true)
    (a10 : PySem.W.nsIn K mainGlobals "moved_by" = some (some (.ref f10)))
    (l10 : K.lookup f10 = some ⟨oc10, od10, .func (PySem.W.fnOf "moved_by" "moved_by" (defArgs s_moved_by) (defBody s_moved_by) (defScope s_moved_by) .none kV10 dc10 pm10 an10 cd10 ct10), sl10⟩)
    (c10 : PySem.W.codeIn K cd10 "moved_by" = true)
    (k10 : PySem.W.keepIn K (.ref f10) = true)
    (a11 : PySem.W.nsIn K mainGlobals "rounds_paper" = some (some (.ref f11)))
    (l11 : K.lookup f11 = some ⟨oc11, od11, .func (PySem.W.fnOf "rounds_paper" "rounds_paper" (defArgs s_rounds_paper) (defBody s_rounds_paper) (defScope s_rounds_paper) .none kV11 dc11 pm11 an11 cd11 ct11), sl11⟩)
    (c11 : PySem.W.codeIn K cd11 "rounds_paper" = true)
    (k11 : PySem.W.keepIn K (.ref f11) = true)
    (a12 : PySem.W.nsIn K mainGlobals "is_rounds_paper" = some (some (.ref f12)))
    (l12 : K.lookup f12 = some ⟨oc12, od12, .func (PySem.W.fnOf "is_rounds_paper" "is_rounds_paper" (defArgs s_is_rounds_paper) (defBody s_is_rounds_paper) (defScope s_is_rounds_paper) .none kV12 dc12 pm12 an12 cd12 ct12), sl12⟩)
    (c12 : PySem.W.codeIn K cd12 "is_rounds_paper" = true)
    (k12 : PySem.W.keepIn K (.ref f12) = true)
    (a13 : PySem.W.nsIn K mainGlobals "_law_dice" = some (some (.ref f13)))
    (l13 : K.lookup f13 = some ⟨oc13, od13, .func (PySem.W.fnOf "_law_dice" "_law_dice" (defArgs s__law_dice) (defBody s__law_dice) (defScope s__law_dice) .none kV13 dc13 pm13 an13 cd13 ct13), sl13⟩)
    (c13 : PySem.W.codeIn K cd13 "_law_dice" = true)
    (k13 : PySem.W.keepIn K (.ref f13) = true)
    (a14 : PySem.W.nsIn K mainGlobals "_law_roll" = some (some (.ref f14)))
    (l14 : K.lookup f14 = some ⟨oc14, od14, .func (PySem.W.fnOf "_law_roll" "_law_roll" (defArgs s__law_roll) (defBody s__law_roll) (defScope s__law_roll) .none kV14 dc14 pm14 an14 cd14 ct14), sl14⟩)
    (c14 : PySem.W.codeIn K cd14 "_law_roll" = true)
    (k14 : PySem.W.keepIn K (.ref f14) = true)
    (a15 : PySem.W.nsIn K mainGlobals "_law_one_of" = some (some (.ref f15)))
    (l15 : K.lookup f15 = some ⟨oc15, od15, .func (PySem.W.fnOf "_law_one_of" "_law_one_of" (defArgs s__law_one_of) (defBody s__law_one_of) (defScope s__law_one_of) .none kV15 dc15 pm15 an15 cd15 ct15), sl15⟩)
    (c15 : PySem.W.codeIn K cd15 "_law_one_of" = true)
    (k15 : PySem.W.keepIn K (.ref f15) = true)
    (a16 : PySem.W.nsIn K mainGlobals "_law_two_to" = some (some (.ref f16)))
    (l16 : K.lookup f16 = some ⟨oc16, od16, .func (PySem.W.fnOf "_law_two_to" "_law_two_to" (defArgs s__law_two_to) (defBody s__law_two_to) (defScope s__law_two_to) .none kV16 dc16 pm16 an16 cd16 ct16), sl16⟩)
    (c16 : PySem.W.codeIn K cd16 "_law_two_to" = true)
    (k16 : PySem.W.keepIn K (.ref f16) = true)
    (a17 : PySem.W.nsIn K mainGlobals "_law_mixed" = some (some (.ref f17)))
    (l17 : K.lookup f17 = some ⟨oc17, od17, .func (PySem.W.fnOf "_law_mixed" "_law_mixed" (defArgs s__law_mixed) (defBody s__law_mixed) (defScope s__law_mixed) .none kV17 dc17 pm17 an17 cd17 ct17), sl17⟩)
    (c17 : PySem.W.codeIn K cd17 "_law_mixed" = true)
    (k17 : PySem.W.keepIn K (.ref f17) = true)
    (a18 : PySem.W.nsIn K mainGlobals "_law_rounds_drawn" = some (some (.ref f18)))
    (l18 : K.lookup f18 = some ⟨oc18, od18, .func (PySem.W.fnOf "_law_rounds_drawn" "_law_rounds_drawn" (defArgs s__law_rounds_drawn) (defBody s__law_rounds_drawn) (defScope s__law_rounds_drawn) .none kV18 dc18 pm18 an18 cd18 ct18), sl18⟩)
    (c18 : PySem.W.codeIn K cd18 "_law_rounds_drawn" = true)
    (k18 : PySem.W.keepIn K (.ref f18) = true)
    (a19 : PySem.W.nsIn K mainGlobals "_law_moved" = some (some (.ref f19)))
    (l19 : K.lookup f19 = some ⟨oc19, od19, .func (PySem.W.fnOf "_law_moved" "_law_moved" (defArgs s__law_moved) (defBody s__law_moved) (defScope s__law_moved) .none kV19 dc19 pm19 an19 cd19 ct19), sl19⟩)
    (c19 : PySem.W.codeIn K cd19 "_law_moved" = true)
    (k19 : PySem.W.keepIn K (.ref f19) = true)
    (a20 : PySem.W.nsIn K mainGlobals "_law_by" = some (some (.ref f20)))
    (l20 : K.lookup f20 = some ⟨oc20, od20, .func (PySem.W.fnOf "_law_by" "_law_by" (defArgs s__law_by) (defBody s__law_by) (defScope s__law_by) .none kV20 dc20 pm20 an20 cd20 ct20), sl20⟩)
    (c20 : PySem.W.codeIn K cd20 "_law_by" = true)
    (k20 : PySem.W.keepIn K (.ref f20) = true)
    (a21 : PySem.W.nsIn K mainGlobals "_law_is_paper" = some (some (.ref f21)))
    (l21 : K.lookup f21 = some ⟨oc21, od21, .func (PySem.W.fnOf "_law_is_paper" "_law_is_paper" (defArgs s__law_is_paper) (defBody s__law_is_paper) (defScope s__law_is_paper) .none kV21 dc21 pm21 an21 cd21 ct21), sl21⟩)
    (c21 : PySem.W.codeIn K cd21 "_law_is_paper" = true)
    (k21 : PySem.W.keepIn K (.ref f21) = true)
    (a22 : PySem.W.nsIn K mainGlobals "_law_right" = some (some (.ref f22)))
    (l22 : K.lookup f22 = some ⟨oc22, od22, .func (PySem.W.fnOf "_law_right" "_law_right" (defArgs s__law_right) (defBody s__law_right) (defScope s__law_right) .none kV22 dc22 pm22 an22 cd22 ct22), sl22⟩)
    (c22 : PySem.W.codeIn K cd22 "_law_right" = true)
    (k22 : PySem.W.keepIn K (.ref f22) = true)
    (a23 : PySem.W.nsIn K mainGlobals "law" = some (some (.ref f23)))
    (l23 : K.lookup f23 = some ⟨oc23, od23, .func (PySem.W.fnOf "law" "law" (defArgs s_law) (defBody s_law) (defScope s_law) .none kV23 dc23 pm23 an23 cd23 ct23), sl23⟩)
    (c23 : PySem.W.codeIn K cd23 "law" = true)
    (k23 : PySem.W.keepIn K (.ref f23) = true)
    (x0 : PySem.W.nsIn K mainGlobals "SIDES" = some (some (.ref xa0)))
    (y0 : K.lookup xa0 = some ⟨.type "tuple", xd0, .seq #[.str "left" xt0_0, .str "right" xt0_1] xn0, xs0⟩)
    (v0 : PySem.W.nsIn K mainGlobals "MAX_SHIFTED" = some (some (.int 32 tk0)))
    (v1 : PySem.W.nsIn K mainGlobals "MAX_AMOUNT" = some (some (.int 6 tk1)))
    (v2 : PySem.W.nsIn K mainGlobals "MAX_ROUNDS" = some (some (.int 24 tk2)))
    (v3 : PySem.W.nsIn K mainGlobals "MAX_BY" = some (some (.int 64 tk3)))
    (v5 : PySem.W.nsIn K mainGlobals "PAIR" = some (some (.int 2 tk5)))
    (z0 : PySem.W.nsIn K mainGlobals "isinstance" = some none)
    (z1 : PySem.W.nsIn K mainGlobals "int" = some none)
    (z2 : PySem.W.nsIn K mainGlobals "bool" = some none)
    (z3 : PySem.W.nsIn K mainGlobals "range" = some none)
    (z4 : PySem.W.nsIn K mainGlobals "sum" = some none)
    (z5 : PySem.W.nsIn K mainGlobals "min" = some none)
    (z6 : PySem.W.nsIn K mainGlobals "tuple" = some none)
    (z7 : PySem.W.nsIn K mainGlobals "len" = some none)
    (z8 : PySem.W.nsIn K mainGlobals "all" = some none)
    (z9 : PySem.W.nsIn K mainGlobals "str" = some none)
    (z10 : PySem.W.nsIn K mainGlobals "abs" = some none)
    (z11 : PySem.W.nsIn K mainGlobals "list" = some none)
    (z12 : PySem.W.nsIn K mainGlobals "max" = some none)
    : Txt K mg :=
  ⟨defAt X G a0 l0 c0 k0 (fun _ _ _ _ _ _ us hl => match us, hl with | [_], _ => rfl),
   defAt X G a1 l1 c1 k1 (fun _ _ _ _ _ _ us hl => match us, hl with | [_, _, _], _ => rfl),
   defAt X G a2 l2 c2 k2 (fun _ _ _ _ _ _ us hl => match us, hl with | [_, _], _ => rfl),
   defAt X G a3 l3 c3 k3 (fun _ _ _ _ _ _ us hl => match us, hl with | [_, _, _, _], _ => rfl),
   defAt X G a4 l4 c4 k4 (fun _ _ _ _ _ _ us hl => match us, hl with | [_, _, _, _, _], _ => rfl),
   defAt X G a5 l5 c5 k5 (fun _ _ _ _ _ _ us hl => match us, hl with | [_, _, _], _ => rfl),
   defAt X G a6 l6 c6 k6 (fun _ _ _ _ _ _ us hl => match us, hl with | [_, _], _ => rfl),
   defAt X G a7 l7 c7 k7 (fun _ _ _ _ _ _ us hl => match us, hl with | [_, _], _ => rfl),
   defAt X G a8 l8 c8 k8 (fun _ _ _ _ _ _ us hl => match us, hl with | [_, _, _, _], _ => rfl),
   defAt X G a9 l9 c9 k9 (fun _ _ _ _ _ _ us hl => match us, hl with | [_], _ => rfl),
   defAt X G a10 l10 c10 k10 (fun _ _ _ _ _ _ us hl => match us, hl with | [_, _, _, _, _, _], _ => rfl),
   defAt X G a11 l11 c11 k11 (fun _ _ _ _ _ _ us hl => match us, hl with | [_, _, _, _], _ => rfl),
   defAt X G a12 l12 c12 k12 (fun _ _ _ _ _ _ us hl => match us, hl with | [_, _, _, _, _], _ => rfl),
   defAt X G a13 l13 c13 k13 (fun _ _ _ _ _ _ us hl => match us, hl with | [_, _], _ => rfl),
   defAt X G a14 l14 c14 k14 (fun _ _ _ _ _ _ us hl => match us, hl with | [_, _], _ => rfl),
   defAt X G a15 l15 c15 k15 (fun _ _ _ _ _ _ us hl => match us, hl with | [_, _], _ => rfl),
   defAt X G a16 l16 c16 k16 (fun _ _ _ _ _ _ us hl => match us, hl with | [_], _ => rfl),
   defAt X G a17 l17 c17 k17 (fun _ _ _ _ _ _ us hl => match us, hl with | [_, _], _ => rfl),
   defAt X G a18 l18 c18 k18 (fun _ _ _ _ _ _ us hl => match us, hl with | [_, _, _], _ => rfl),
   defAt X G a19 l19 c19 k19 (fun _ _ _ _ _ _ us hl => match us, hl with | [_, _, _, _], _ => rfl),
   defAt X G a20 l20 c20 k20 (fun _ _ _ _ _ _ us hl => match us, hl with | [_, _], _ => rfl),
   defAt X G a21 l21 c21 k21 (fun _ _ _ _ _ _ us hl => match us, hl with | [_, _, _, _, _], _ => rfl),
   defAt X G a22 l22 c22 k22 (fun _ _ _ _ _ _ us hl => match us, hl with | [_], _ => rfl),
   defAt X G a23 l23 c23 k23 (fun _ _ _ _ _ _ us hl => match us, hl with | [_], _ => rfl),
   conT X G x0 y0 (by show 2 ≤ 1000; decide) (.cons ⟨_, rfl⟩ (.cons ⟨_, rfl⟩ .nil)),
   ⟨_, PySem.W.mg_of X G v0, ⟨_, rfl⟩⟩,
   ⟨_, PySem.W.mg_of X G v1, ⟨_, rfl⟩⟩,
   ⟨_, PySem.W.mg_of X G v2, ⟨_, rfl⟩⟩,
   ⟨_, PySem.W.mg_of X G v3, ⟨_, rfl⟩⟩,
   ⟨_, PySem.W.mg_of X G v5, ⟨_, rfl⟩⟩,
   PySem.W.mg_none_of X G z0,
   PySem.W.mg_none_of X G z1,
   PySem.W.mg_none_of X G z2,
   PySem.W.mg_none_of X G z3,
   PySem.W.mg_none_of X G z4,
   PySem.W.mg_none_of X G z5,
   PySem.W.mg_none_of X G z6,
   PySem.W.mg_none_of X G z7,
   PySem.W.mg_none_of X G z8,
   PySem.W.mg_none_of X G z9,
   PySem.W.mg_none_of X G z10,
   PySem.W.mg_none_of X G z11,
   PySem.W.mg_none_of X G z12⟩
theorem fin {l : PySem.W.OpenLaw} {w : World} {K : PySem.W.Frag} {h : Heap} {mg : Str → Option Value} {fa : Addr} (X : K.In h) (G : h.Ns mainGlobals mg) (hfa : mg "law" = some (.ref fa))
    {f0 f1 f2 f3 f4 f5 f6 f7 f8 f9 f10 f11 f12 f13 f14 f15 f16 f17 f18 f19 f20 f21 f22 f23 : Addr} {od0 an0 od1 an1 od2 an2 od3 an3 od4 an4 od5 an5 od6 an6 od7 an7 od8 an8 od9 an9 od10 an10 od11 an11 od12 an12 od13 an13 od14 an14 od15 an15 od16 an16 od17 an17 od18 an18 od19 an19 od20 an20 od21 an21 od22 an22 od23 an23 : Option Addr} {sl0 sl1 sl2 sl3 sl4 sl5 sl6 sl7 sl8 sl9 sl10 sl11 sl12 sl13 sl14 sl15 sl16 sl17 sl18 sl19 sl20 sl21 sl22 sl23 : Array (Option Value)} {oc0 dc0 pm0 cd0 ct0 kV0 oc1 dc1 pm1 cd1 ct1 kV1 oc2 dc2 pm2 cd2 ct2 kV2 oc3 dc3 pm3 cd3 ct3 kV3 oc4 dc4 pm4 cd4 ct4 kV4 oc5 dc5 pm5 cd5 ct5 kV5 oc6 dc6 pm6 cd6 ct6 kV6 oc7 dc7 pm7 cd7 ct7 kV7 oc8 dc8 pm8 cd8 ct8 kV8 oc9 dc9 pm9 cd9 ct9 kV9 oc10 dc10 pm10 cd10 ct10 kV10 oc11 dc11 pm11 cd11 ct11 kV11 oc12 dc12 pm12 cd12 ct12 kV12 oc13 dc13 pm13 cd13 ct13 kV13 oc14 dc14 pm14 cd14 ct14 kV14 oc15 dc15 pm15 cd15 ct15 kV15 oc16 dc16 pm16 cd16 ct16 kV16 oc17 dc17 pm17 cd17 ct17 kV17 oc18 dc18 pm18 cd18 ct18 kV18 oc19 dc19 pm19 cd19 ct19 kV19 oc20 dc20 pm20 cd20 ct20 kV20 oc21 dc21 pm21 cd21 ct21 kV21 oc22 dc22 pm22 cd22 ct22 kV22 oc23 dc23 pm23 cd23 ct23 kV23 : Value} {xa0 : Addr} {xd0 : Option Addr} {xn0 : Nat} {xs0 : Array (Option Value)} {xt0_0 xt0_1 : Tok} {tk0 tk1 tk2 tk3 tk5 : Tok}
    (a0 : PySem.W.nsIn K mainGlobals "is_integer" = some (some (.ref f0)))
    (l0 : K.lookup f0 = some ⟨oc0, od0, .func (PySem.W.fnOf "is_integer" "is_integer" (defArgs s_is_integer) (defBody s_is_integer) (defScope s_is_integer) .none kV0 dc0 pm0 an0 cd0 ct0), sl0⟩)
    (c0 : PySem.W.codeIn K cd0 "is_integer" = true)
    (k0 : PySem.W.keepIn K (.ref f0) = true)
    (a1 : PySem.W.nsIn K mainGlobals "is_within" = some (some (.ref f1)))
    (l1 : K.lookup f1 = some ⟨oc1, od1, .func (PySem.W.fnOf "is_within" "is_within" (defArgs s_is_within) (defBody s_is_within) (defScope s_is_within) .none kV1 dc1 pm1 an1 cd1 ct1), sl1⟩)
    (c1 : PySem.W.codeIn K cd1 "is_within" = true)
    (k1 : PySem.W.keepIn K (.ref f1) = true)
    (a2 : PySem.W.nsIn K mainGlobals "is_word_in" = some (some (.ref f2)))
    (l2 : K.lookup f2 = some ⟨oc2, od2, .func (PySem.W.fnOf "is_word_in" "is_word_in" (defArgs s_is_word_in) (defBody s_is_word_in) (defScope s_is_word_in) .none kV2 dc2 pm2 an2 cd2 ct2), sl2⟩)
    (c2 : PySem.W.codeIn K cd2 "is_word_in" = true)
    (k2 : PySem.W.keepIn K (.ref f2) = true)
    (a3 : PySem.W.nsIn K mainGlobals "moved_word" = some (some (.ref f3)))
    (l3 : K.lookup f3 = some ⟨oc3, od3, .func (PySem.W.fnOf "moved_word" "moved_word" (defArgs s_moved_word) (defBody s_moved_word) (defScope s_moved_word) .none kV3 dc3 pm3 an3 cd3 ct3), sl3⟩)
    (c3 : PySem.W.codeIn K cd3 "moved_word" = true)
    (k3 : PySem.W.keepIn K (.ref f3) = true)
    (a4 : PySem.W.nsIn K mainGlobals "through_rounds" = some (some (.ref f4)))
    (l4 : K.lookup f4 = some ⟨oc4, od4, .func (PySem.W.fnOf "through_rounds" "through_rounds" (defArgs s_through_rounds) (defBody s_through_rounds) (defScope s_through_rounds) .none kV4 dc4 pm4 an4 cd4 ct4), sl4⟩)
    (c4 : PySem.W.codeIn K cd4 "through_rounds" = true)
    (k4 : PySem.W.keepIn K (.ref f4) = true)
    (a5 : PySem.W.nsIn K mainGlobals "wrong_bit" = some (some (.ref f5)))
    (l5 : K.lookup f5 = some ⟨oc5, od5, .func (PySem.W.fnOf "wrong_bit" "wrong_bit" (defArgs s_wrong_bit) (defBody s_wrong_bit) (defScope s_wrong_bit) .none kV5 dc5 pm5 an5 cd5 ct5), sl5⟩)
    (c5 : PySem.W.codeIn K cd5 "wrong_bit" = true)
    (k5 : PySem.W.keepIn K (.ref f5) = true)
    (a6 : PySem.W.nsIn K mainGlobals "is_round" = some (some (.ref f6)))
    (l6 : K.lookup f6 = some ⟨oc6, od6, .func (PySem.W.fnOf "is_round" "is_round" (defArgs s_is_round) (defBody s_is_round) (defScope s_is_round) .none kV6 dc6 pm6 an6 cd6 ct6), sl6⟩)
    (c6 : PySem.W.codeIn K cd6 "is_round" = true)
    (k6 : PySem.W.keepIn K (.ref f6) = true)
    (a7 : PySem.W.nsIn K mainGlobals "are_rounds" = some (some (.ref f7)))
    (l7 : K.lookup f7 = some ⟨oc7, od7, .func (PySem.W.fnOf "are_rounds" "are_rounds" (defArgs s_are_rounds) (defBody s_are_rounds) (defScope s_are_rounds) .none kV7 dc7 pm7 an7 cd7 ct7), sl7⟩)
    (c7 : PySem.W.codeIn K cd7 "are_rounds" = true)
    (k7 : PySem.W.keepIn K (.ref f7) = true)
    (a8 : PySem.W.nsIn K mainGlobals "require_rounds" = some (some (.ref f8)))
    (l8 : K.lookup f8 = some ⟨oc8, od8, .func (PySem.W.fnOf "require_rounds" "require_rounds" (defArgs s_require_rounds) (defBody s_require_rounds) (defScope s_require_rounds) .none kV8 dc8 pm8 an8 cd8 ct8), sl8⟩)
    (c8 : PySem.W.codeIn K cd8 "require_rounds" = true)
    (k8 : PySem.W.keepIn K (.ref f8) = true)
    (a9 : PySem.W.nsIn K mainGlobals "plain_rounds" = some (some (.ref f9)))
    (l9 : K.lookup f9 = some ⟨oc9, od9, .func (PySem.W.fnOf "plain_rounds" "plain_rounds" (defArgs s_plain_rounds) (defBody s_plain_rounds) (defScope s_plain_rounds) .none kV9 dc9 pm9 an9 cd9 ct9), sl9⟩)
    (c9 : PySem.W.codeIn K cd9 "plain_rounds" = true)
    (k9 : PySem.W.keepIn K (.ref f9) = true)
    (a10 : PySem.W.nsIn K mainGlobals "moved_by" = some (some (.ref f10)))
    (l10 : K.lookup f10 = some ⟨oc10, od10, .func (PySem.W.fnOf "moved_by" "moved_by" (defArgs s_moved_by) (defBody s_moved_by) (defScope s_moved_by) .none kV10 dc10 pm10 an10 cd10 ct10), sl10⟩)
    (c10 : PySem.W.codeIn K cd10 "moved_by" = true)
    (k10 : PySem.W.keepIn K (.ref f10) = true)
    (a11 : PySem.W.nsIn K mainGlobals "rounds_paper" = some (some (.ref f11)))
    (l11 : K.lookup f11 = some ⟨oc11, od11, .func (PySem.W.fnOf "rounds_paper" "rounds_paper" (defArgs s_rounds_paper) (defBody s_rounds_paper) (defScope s_rounds_paper) .none kV11 dc11 pm11 an11 cd11 ct11), sl11⟩)
    (c11 : PySem.W.codeIn K cd11 "rounds_paper" = true)
    (k11 : PySem.W.keepIn K (.ref f11) = true)
    (a12 : PySem.W.nsIn K mainGlobals "is_rounds_paper" = some (some (.ref f12)))
    (l12 : K.lookup f12 = some ⟨oc12, od12, .func (PySem.W.fnOf "is_rounds_paper" "is_rounds_paper" (defArgs s_is_rounds_paper) (defBody s_is_rounds_paper) (defScope s_is_rounds_paper) .none kV12 dc12 pm12 an12 cd12 ct12), sl12⟩)
    (c12 : PySem.W.codeIn K cd12 "is_rounds_paper" = true)
    (k12 : PySem.W.keepIn K (.ref f12) = true)
    (a13 : PySem.W.nsIn K mainGlobals "_law_dice" = some (some (.ref f13)))
    (l13 : K.lookup f13 = some ⟨oc13, od13, .func (PySem.W.fnOf "_law_dice" "_law_dice" (defArgs s__law_dice) (defBody s__law_dice) (defScope s__law_dice) .none kV13 dc13 pm13 an13 cd13 ct13), sl13⟩)
    (c13 : PySem.W.codeIn K cd13 "_law_dice" = true)
    (k13 : PySem.W.keepIn K (.ref f13) = true)
    (a14 : PySem.W.nsIn K mainGlobals "_law_roll" = some (some (.ref f14)))
    (l14 : K.lookup f14 = some ⟨oc14, od14, .func (PySem.W.fnOf "_law_roll" "_law_roll" (defArgs s__law_roll) (defBody s__law_roll) (defScope s__law_roll) .none kV14 dc14 pm14 an14 cd14 ct14), sl14⟩)
    (c14 : PySem.W.codeIn K cd14 "_law_roll" = true)
    (k14 : PySem.W.keepIn K (.ref f14) = true)
    (a15 : PySem.W.nsIn K mainGlobals "_law_one_of" = some (some (.ref f15)))
    (l15 : K.lookup f15 = some ⟨oc15, od15, .func (PySem.W.fnOf "_law_one_of" "_law_one_of" (defArgs s__law_one_of) (defBody s__law_one_of) (defScope s__law_one_of) .none kV15 dc15 pm15 an15 cd15 ct15), sl15⟩)
    (c15 : PySem.W.codeIn K cd15 "_law_one_of" = true)
    (k15 : PySem.W.keepIn K (.ref f15) = true)
    (a16 : PySem.W.nsIn K mainGlobals "_law_two_to" = some (some (.ref f16)))
    (l16 : K.lookup f16 = some ⟨oc16, od16, .func (PySem.W.fnOf "_law_two_to" "_law_two_to" (defArgs s__law_two_to) (defBody s__law_two_to) (defScope s__law_two_to) .none kV16 dc16 pm16 an16 cd16 ct16), sl16⟩)
    (c16 : PySem.W.codeIn K cd16 "_law_two_to" = true)
    (k16 : PySem.W.keepIn K (.ref f16) = true)
    (a17 : PySem.W.nsIn K mainGlobals "_law_mixed" = some (some (.ref f17)))
    (l17 : K.lookup f17 = some ⟨oc17, od17, .func (PySem.W.fnOf "_law_mixed" "_law_mixed" (defArgs s__law_mixed) (defBody s__law_mixed) (defScope s__law_mixed) .none kV17 dc17 pm17 an17 cd17 ct17), sl17⟩)
    (c17 : PySem.W.codeIn K cd17 "_law_mixed" = true)
    (k17 : PySem.W.keepIn K (.ref f17) = true)
    (a18 : PySem.W.nsIn K mainGlobals "_law_rounds_drawn" = some (some (.ref f18)))
    (l18 : K.lookup f18 = some ⟨oc18, od18, .func (PySem.W.fnOf "_law_rounds_drawn" "_law_rounds_drawn" (defArgs s__law_rounds_drawn) (defBody s__law_rounds_drawn) (defScope s__law_rounds_drawn) .none kV18 dc18 pm18 an18 cd18 ct18), sl18⟩)
    (c18 : PySem.W.codeIn K cd18 "_law_rounds_drawn" = true)
    (k18 : PySem.W.keepIn K (.ref f18) = true)
    (a19 : PySem.W.nsIn K mainGlobals "_law_moved" = some (some (.ref f19)))
    (l19 : K.lookup f19 = some ⟨oc19, od19, .func (PySem.W.fnOf "_law_moved" "_law_moved" (defArgs s__law_moved) (defBody s__law_moved) (defScope s__law_moved) .none kV19 dc19 pm19 an19 cd19 ct19), sl19⟩)
    (c19 : PySem.W.codeIn K cd19 "_law_moved" = true)
    (k19 : PySem.W.keepIn K (.ref f19) = true)
    (a20 : PySem.W.nsIn K mainGlobals "_law_by" = some (some (.ref f20)))
    (l20 : K.lookup f20 = some ⟨oc20, od20, .func (PySem.W.fnOf "_law_by" "_law_by" (defArgs s__law_by) (defBody s__law_by) (defScope s__law_by) .none kV20 dc20 pm20 an20 cd20 ct20), sl20⟩)
    (c20 : PySem.W.codeIn K cd20 "_law_by" = true)
    (k20 : PySem.W.keepIn K (.ref f20) = true)
    (a21 : PySem.W.nsIn K mainGlobals "_law_is_paper" = some (some (.ref f21)))
    (l21 : K.lookup f21 = some ⟨oc21, od21, .func (PySem.W.fnOf "_law_is_paper" "_law_is_paper" (defArgs s__law_is_paper) (defBody s__law_is_paper) (defScope s__law_is_paper) .none kV21 dc21 pm21 an21 cd21 ct21), sl21⟩)
    (c21 : PySem.W.codeIn K cd21 "_law_is_paper" = true)
    (k21 : PySem.W.keepIn K (.ref f21) = true)
    (a22 : PySem.W.nsIn K mainGlobals "_law_right" = some (some (.ref f22)))
    (l22 : K.lookup f22 = some ⟨oc22, od22, .func (PySem.W.fnOf "_law_right" "_law_right" (defArgs s__law_right) (defBody s__law_right) (defScope s__law_right) .none kV22 dc22 pm22 an22 cd22 ct22), sl22⟩)
    (c22 : PySem.W.codeIn K cd22 "_law_right" = true)
    (k22 : PySem.W.keepIn K (.ref f22) = true)
    (a23 : PySem.W.nsIn K mainGlobals "law" = some (some (.ref f23)))
    (l23 : K.lookup f23 = some ⟨oc23, od23, .func (PySem.W.fnOf "law" "law" (defArgs s_law) (defBody s_law) (defScope s_law) .none kV23 dc23 pm23 an23 cd23 ct23), sl23⟩)
    (c23 : PySem.W.codeIn K cd23 "law" = true)
    (k23 : PySem.W.keepIn K (.ref f23) = true)
    (x0 : PySem.W.nsIn K mainGlobals "SIDES" = some (some (.ref xa0)))
    (y0 : K.lookup xa0 = some ⟨.type "tuple", xd0, .seq #[.str "left" xt0_0, .str "right" xt0_1] xn0, xs0⟩)
    (v0 : PySem.W.nsIn K mainGlobals "MAX_SHIFTED" = some (some (.int 32 tk0)))
    (v1 : PySem.W.nsIn K mainGlobals "MAX_AMOUNT" = some (some (.int 6 tk1)))
    (v2 : PySem.W.nsIn K mainGlobals "MAX_ROUNDS" = some (some (.int 24 tk2)))
    (v3 : PySem.W.nsIn K mainGlobals "MAX_BY" = some (some (.int 64 tk3)))
    (v5 : PySem.W.nsIn K mainGlobals "PAIR" = some (some (.int 2 tk5)))
    (z0 : PySem.W.nsIn K mainGlobals "isinstance" = some none)
    (z1 : PySem.W.nsIn K mainGlobals "int" = some none)
    (z2 : PySem.W.nsIn K mainGlobals "bool" = some none)
    (z3 : PySem.W.nsIn K mainGlobals "range" = some none)
    (z4 : PySem.W.nsIn K mainGlobals "sum" = some none)
    (z5 : PySem.W.nsIn K mainGlobals "min" = some none)
    (z6 : PySem.W.nsIn K mainGlobals "tuple" = some none)
    (z7 : PySem.W.nsIn K mainGlobals "len" = some none)
    (z8 : PySem.W.nsIn K mainGlobals "all" = some none)
    (z9 : PySem.W.nsIn K mainGlobals "str" = some none)
    (z10 : PySem.W.nsIn K mainGlobals "abs" = some none)
    (z11 : PySem.W.nsIn K mainGlobals "list" = some none)
    (z12 : PySem.W.nsIn K mainGlobals "max" = some none)
    : ∃ fd : FuncData, (∀ (s : Shared) (v : Value), BindsTo s fd ⟨[v], []⟩ [("_law_script", v)]) ∧ ∀ base : Heap, K.In base → base.Ns mainGlobals mg → FnOk l.prog w K mg base CX0 8 fa fd ["_law_script"] (sp_law K) := by
  have e := hfa.symm.trans (PySem.W.mg_of X G a23)
  cases e
  exact ⟨PySem.W.fnOf "law" "law" (defArgs s_law) (defBody s_law) (defScope s_law) .none kV23 dc23 pm23 an23 cd23 ct23, fun s v => .of_eq rfl, fun base _ _ => ok_law (txt_mk X G a0 l0 c0 k0 a1 l1 c1 k1 a2 l2 c2 k2 a3 l3 c3 k3 a4 l4 c4 k4 a5 l5 c5 k5 a6 l6 c6 k6 a7 l7 c7 k7 a8 l8 c8 k8 a9 l9 c9 k9 a10 l10 c10 k10 a11 l11 c11 k11 a12 l12 c12 k12 a13 l13 c13 k13 a14 l14 c14 k14 a15 l15 c15 k15 a16 l16 c16 k16 a17 l17 c17 k17 a18 l18 c18 k18 a19 l19 c19 k19 a20 l20 c20 k20 a21 l21 c21 k21 a22 l22 c22 k22 a23 l23 c23 k23 x0 y0 v0 v1 v2 v3 v5 z0 z1 z2 z3 z4 z5 z6 z7 z8 z9 z10 z11 z12)⟩
end TB
open PySem PySem.W PyProof.Rows
set_option maxRecDepth 100000 in
set_option maxHeartbeats 0 in
theorem PySem.Challenge.cw_truebeat_k21_whole_rounds_that_shift_holds : PySem.Challenge.rw_truebeat_k21_whole_rounds_that_shift.Holds := by
  w_on; o_law; k_head; (case hw => w_witness2)
  k_fill
  refine L2.walk_of (l := PySem.Challenge.rw_truebeat_k21_whole_rounds_that_shift) (n := 63) (k := 8) (x := "_law_script") (CX := fun _ => L2.CX0) (sp := fun w => TB.sp_law _) rfl (by decide) rfl ⟨rfl, by decide, by decide⟩ (fun w h Y => PySem.W.kIn_of Y) ?F (fun _ _ a ns hl _ hS => ⟨a, ns, rfl, hS, hl, fun _ => rfl⟩) (fun _ _ _ _ _ h => h)
  case F =>
    intro w mg fa h KX G hmg
    refine' TB.fin KX G hmg ?a0 ?l0 ?c0 ?k0 ?a1 ?l1 ?c1 ?k1 ?a2 ?l2 ?c2 ?k2 ?a3 ?l3 ?c3 ?k3 ?a4 ?l4 ?c4 ?k4 ?a5 ?l5 ?c5 ?k5 ?a6 ?l6 ?c6 ?k6 ?a7 ?l7 ?c7 ?k7 ?a8 ?l8 ?c8 ?k8 ?a9 ?l9 ?c9 ?k9 ?a10 ?l10 ?c10 ?k10 ?a11 ?l11 ?c11 ?k11 ?a12 ?l12 ?c12 ?k12 ?a13 ?l13 ?c13 ?k13 ?a14 ?l14 ?c14 ?k14 ?a15 ?l15 ?c15 ?k15 ?a16 ?l16 ?c16 ?k16 ?a17 ?l17 ?c17 ?k17 ?a18 ?l18 ?c18 ?k18 ?a19 ?l19 ?c19 ?k19 ?a20 ?l20 ?c20 ?k20 ?a21 ?l21 ?c21 ?k21 ?a22 ?l22 ?c22 ?k22 ?a23 ?l23 ?c23 ?k23 ?x0 ?y0 ?v0 ?v1 ?v2 ?v3 ?v5 ?z0 ?z1 ?z2 ?z3 ?z4 ?z5 ?z6 ?z7 ?z8 ?z9 ?z10 ?z11 ?z12
    (case a0 => k_is)
    (case l0 => k_is)
    (case c0 => k_is)
    (case k0 => k_is)
    (case a1 => k_is)
    (case l1 => k_is)
    (case c1 => k_is)
    (case k1 => k_is)
    (case a2 => k_is)
    (case l2 => k_is)
    (case c2 => k_is)
    (case k2 => k_is)
    (case a3 => k_is)
    (case l3 => k_is)
    (case c3 => k_is)
    (case k3 => k_is)
    (case a4 => k_is)
    (case l4 => k_is)
    (case c4 => k_is)
    (case k4 => k_is)
    (case a5 => k_is)
    (case l5 => k_is)
    (case c5 => k_is)
    (case k5 => k_is)
    (case a6 => k_is)
    (case l6 => k_is)
    (case c6 => k_is)
    (case k6 => k_is)
    (case a7 => k_is)
    (case l7 => k_is)
    (case c7 => k_is)
    (case k7 => k_is)
    (case a8 => k_is)
    (case l8 => k_is)
    (case c8 => k_is)
    (case k8 => k_is)
    (case a9 => k_is)
    (case l9 => k_is)
    (case c9 => k_is)
    (case k9 => k_is)
    (case a10 => k_is)
    (case l10 => k_is)
    (case c10 => k_is)
    (case k10 => k_is)
    (case a11 => k_is)
    (case l11 => k_is)
    (case c11 => k_is)
    (case k11 => k_is)
    (case a12 => k_is)
    (case l12 => k_is)
    (case c12 => k_is)
    (case k12 => k_is)
    (case a13 => k_is)
    (case l13 => k_is)
    (case c13 => k_is)
    (case k13 => k_is)
    (case a14 => k_is)
    (case l14 => k_is)
    (case c14 => k_is)
    (case k14 => k_is)
    (case a15 => k_is)
    (case l15 => k_is)
    (case c15 => k_is)
    (case k15 => k_is)
    (case a16 => k_is)
    (case l16 => k_is)
    (case c16 => k_is)
    (case k16 => k_is)
    (case a17 => k_is)
    (case l17 => k_is)
    (case c17 => k_is)
    (case k17 => k_is)
    (case a18 => k_is)
    (case l18 => k_is)
    (case c18 => k_is)
    (case k18 => k_is)
    (case a19 => k_is)
    (case l19 => k_is)
    (case c19 => k_is)
    (case k19 => k_is)
    (case a20 => k_is)
    (case l20 => k_is)
    (case c20 => k_is)
    (case k20 => k_is)
    (case a21 => k_is)
    (case l21 => k_is)
    (case c21 => k_is)
    (case k21 => k_is)
    (case a22 => k_is)
    (case l22 => k_is)
    (case c22 => k_is)
    (case k22 => k_is)
    (case a23 => k_is)
    (case l23 => k_is)
    (case c23 => k_is)
    (case k23 => k_is)
    (case x0 => k_is)
    (case y0 => k_is)
    (case v0 => k_is)
    (case v1 => k_is)
    (case v2 => k_is)
    (case v3 => k_is)
    (case v5 => k_is)
    (case z0 => k_is)
    (case z1 => k_is)
    (case z2 => k_is)
    (case z3 => k_is)
    (case z4 => k_is)
    (case z5 => k_is)
    (case z6 => k_is)
    (case z7 => k_is)
    (case z8 => k_is)
    (case z9 => k_is)
    (case z10 => k_is)
    (case z11 => k_is)
    (case z12 => k_is)
#print axioms PySem.Challenge.cw_truebeat_k21_whole_rounds_that_shift_holds
