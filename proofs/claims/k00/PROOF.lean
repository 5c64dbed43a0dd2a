import PyProof.Rows.All
import Wide.All
import OpenK.AllK
import Wide.FinOn
import HandS.ForMost
import HandS.Wide
import HandS.WideBits
import HandS.Style
import HandS.IsInst
import HandS.TupAny
import HandS.Defaults
import HandS.Zip
import HandS.TupMul
import KE.GoesEnum
import HandS.RaiseMore
import PySem.Challenge.RW_truebeat_k00_whole_bits_and_signed_numbe
set_option Elab.async false
set_option linter.all false
set_option maxRecDepth 100000
set_option maxHeartbeats 4000000
namespace TB
/-! ### whole numbers -/
theorem two_pos (n : Nat) : (0 : Int) < 2 ^ n := Int.pow_pos (by decide)
theorem two_succ (n : Nat) : (2 : Int) ^ (n + 1) = 2 * 2 ^ n := by rw [Int.pow_succ, Int.mul_comm]
theorem two_add (a b : Nat) : (2 : Int) ^ (a + b) = 2 ^ a * 2 ^ b := Int.pow_add 2 a b
theorem two_mono {a b : Nat} (h : a ≤ b) : (2 : Int) ^ a ≤ 2 ^ b := by
  obtain ⟨c, rfl⟩ := Nat.exists_eq_add_of_le h
  rw [two_add]
  have := two_pos a
  have h2 : (1 : Int) ≤ 2 ^ c := two_pos c
  have := Int.mul_le_mul_of_nonneg_left h2 (Int.le_of_lt (two_pos a))
  omega
theorem two32 {w : Nat} (h : w ≤ 32) : (2 : Int) ^ w ≤ 4294967296 := Int.le_trans (two_mono h) (by decide)
theorem divmod_of {a b q r : Int} (hb : 0 < b) (e : r + b * q = a) (h0 : 0 ≤ r) (h1 : r < b) : a / b = q ∧ a % b = r := (Int.ediv_emod_unique hb).mpr ⟨e, h0, h1⟩
theorem mod_succ (x : Int) (i : Nat) : x % 2 ^ (i + 1) = x % 2 ^ i + 2 ^ i * (x / 2 ^ i % 2) := by
  have hd := two_pos i
  have e1 := Int.emod_add_mul_ediv x (2 ^ i)
  have e2 := Int.emod_add_mul_ediv (x / 2 ^ i) 2
  have l1 := Int.emod_nonneg x (Int.ne_of_gt hd)
  have l2 := Int.emod_lt_of_pos x hd
  rw [two_succ]
  refine (divmod_of (q := x / 2 ^ i / 2) (by omega) ?_ ?_ ?_).2
  · rw [Int.mul_comm 2 ((2 : Int) ^ i), Int.mul_assoc]
    have e3 : (2 : Int) ^ i * (x / 2 ^ i) = 2 ^ i * (x / 2 ^ i % 2) + 2 ^ i * (2 * (x / 2 ^ i / 2)) := by rw [← Int.mul_add, e2]
    omega
  · have := Int.mul_nonneg (Int.le_of_lt hd) (Int.emod_nonneg (x / 2 ^ i) (by decide : (2 : Int) ≠ 0))
    omega
  · have h3 : x / 2 ^ i % 2 ≤ 1 := by omega
    have := Int.mul_le_mul_of_nonneg_left h3 (Int.le_of_lt hd)
    omega
theorem div_div (x : Int) (a b : Nat) : x / 2 ^ a / 2 ^ b = x / 2 ^ (a + b) := by
  rw [two_add, Int.ediv_ediv_of_nonneg (Int.le_of_lt (two_pos a))]
/-! ### bits -/
def bitsI : Nat → Int → List Int
  | 0, _ => []
  | n + 1, x => (x % 2) :: bitsI n (x / 2)
def ofBits : List Int → Int
  | [] => 0
  | b :: r => 2 * ofBits r + b
theorem bitsI_length : ∀ (n : Nat) (x : Int), (bitsI n x).length = n
  | 0, _ => rfl
  | n + 1, x => by simp [bitsI, bitsI_length n (x / 2)]
theorem bitsI_get : ∀ (n : Nat) (x : Int) (i : Nat), i < n → (bitsI n x)[i]? = some (x / 2 ^ i % 2)
  | 0, _, _, h => by omega
  | n + 1, x, 0, _ => by simp [bitsI]
  | n + 1, x, i + 1, h => by
    have := bitsI_get n (x / 2) i (by omega)
    simp only [bitsI, List.getElem?_cons_succ]
    rw [this]
    have e := div_div x 1 i
    rw [show (2 : Int) ^ 1 = 2 from rfl] at e
    rw [e, Nat.add_comm 1 i]
theorem bitsI_range (n : Nat) (x : Int) : ∀ b ∈ bitsI n x, b = 0 ∨ b = 1 := by
  induction n generalizing x with
  | zero => intro b h; cases h
  | succ n ih =>
    intro b h
    rcases List.mem_cons.mp h with rfl | h
    · omega
    · exact ih _ b h
theorem bitsI_snoc (n : Nat) (x : Int) : bitsI (n + 1) x = bitsI n x ++ [x / 2 ^ n % 2] := by
  induction n generalizing x with
  | zero => simp [bitsI]
  | succ n ih =>
    show (x % 2) :: bitsI (n + 1) (x / 2) = (x % 2) :: bitsI n (x / 2) ++ [x / 2 ^ (n + 1) % 2]
    rw [ih (x / 2)]
    have e := div_div x 1 n
    rw [show (2 : Int) ^ 1 = 2 from rfl] at e
    rw [e, Nat.add_comm 1 n]
    rfl
theorem ofBits_bitsI : ∀ (n : Nat) (x : Int), ofBits (bitsI n x) = x % 2 ^ n
  | 0, x => by simp [bitsI, ofBits, Int.emod_one]
  | n + 1, x => by
    show 2 * ofBits (bitsI n (x / 2)) + x % 2 = x % 2 ^ (n + 1)
    rw [ofBits_bitsI n (x / 2)]
    have hd := two_pos n
    have e1 := Int.emod_add_mul_ediv (x / 2) (2 ^ n)
    have l1 := Int.emod_nonneg (x / 2) (Int.ne_of_gt hd)
    have l2 := Int.emod_lt_of_pos (x / 2) hd
    rw [two_succ]
    refine ((divmod_of (q := x / 2 / 2 ^ n) (by omega) ?_ (by omega) (by omega)).2).symm
    rw [Int.mul_assoc]
    omega
theorem bitsI_drop : ∀ (m n : Nat) (x : Int), (bitsI n x).drop m = bitsI (n - m) (x / 2 ^ m)
  | 0, n, x => by simp
  | m + 1, 0, x => by simp [bitsI]
  | m + 1, n + 1, x => by
    show (bitsI n (x / 2)).drop m = _
    rw [bitsI_drop m n (x / 2), Nat.add_sub_add_right]
    have e := div_div x 1 m
    rw [show (2 : Int) ^ 1 = 2 from rfl] at e
    rw [e, Nat.add_comm 1 m]
theorem bitsI_take : ∀ (m n : Nat) (x : Int), m ≤ n → (bitsI n x).take m = bitsI m x
  | 0, n, x, _ => by simp [bitsI]
  | m + 1, 0, x, h => by omega
  | m + 1, n + 1, x, h => by
    show (x % 2) :: (bitsI n (x / 2)).take m = (x % 2) :: bitsI m (x / 2)
    rw [bitsI_take m n (x / 2) (by omega)]
theorem ofBits_zeros : ∀ (p : Nat) (l : List Int), ofBits (List.replicate p 0 ++ l) = 2 ^ p * ofBits l
  | 0, l => by simp
  | p + 1, l => by
    show 2 * ofBits (List.replicate p 0 ++ l) + 0 = 2 ^ (p + 1) * ofBits l
    rw [ofBits_zeros p l, two_succ, Int.mul_assoc]
    omega
theorem mod_small {x : Int} {n : Nat} (h0 : 0 ≤ x) (h1 : x < 2 ^ n) : x % 2 ^ n = x := Int.emod_eq_of_lt h0 h1
theorem div_small {x : Int} {n : Nat} (h0 : 0 ≤ x) (h1 : x < 2 ^ n) : x / 2 ^ n = 0 := Int.ediv_eq_zero_of_lt h0 h1
/-- moved left: zeros come in -/
theorem ofBits_left (w p : Nat) (x : Int) : ofBits ((List.replicate p 0 ++ bitsI w x).take w) = x * 2 ^ p % 2 ^ w := by
  by_cases h : p ≤ w
  · have e : (List.replicate p (0 : Int) ++ bitsI w x).take w = List.replicate p 0 ++ bitsI (w - p) x := by
      rw [List.take_append, List.length_replicate, List.take_of_length_le (by simp; exact h), bitsI_take _ _ _ (by omega)]
    rw [e, ofBits_zeros, ofBits_bitsI]
    have e2 : (2 : Int) ^ w = 2 ^ p * 2 ^ (w - p) := by rw [← two_add, Nat.add_sub_cancel' h]
    rw [e2, Int.mul_comm x, Int.mul_emod_mul_of_pos _ _ (two_pos p)]
  · have e : (List.replicate p (0 : Int) ++ bitsI w x).take w = List.replicate w 0 ++ [] := by
      rw [List.take_append, List.length_replicate, List.take_replicate, Nat.min_eq_left (by omega), show w - p = 0 by omega]
      simp
    rw [e, ofBits_zeros]
    have e2 : (2 : Int) ^ p = 2 ^ w * 2 ^ (p - w) := by rw [← two_add, Nat.add_sub_cancel' (by omega)]
    rw [e2, ← Int.mul_assoc, Int.mul_comm x, Int.mul_assoc, Int.mul_emod_right]
    show 2 ^ w * (0 : Int) = 0
    omega
theorem ofBits_right {w : Nat} (p : Nat) {x : Int} (h0 : 0 ≤ x) (h1 : x < 2 ^ w) : ofBits ((bitsI w x).drop p) = x / 2 ^ p := by
  rw [bitsI_drop, ofBits_bitsI]
  by_cases h : p ≤ w
  · refine Int.emod_eq_of_lt (Int.ediv_nonneg h0 (Int.le_of_lt (two_pos p))) ?_
    refine Int.ediv_lt_of_lt_mul (two_pos p) ?_
    rw [← two_add, Nat.sub_add_cancel h]
    exact h1
  · rw [show w - p = 0 by omega, Int.pow_zero, Int.emod_one]
    exact (div_small h0 (Int.lt_of_lt_of_le h1 (two_mono (by omega)))).symm
theorem ofBits_rev (bs : List Int) (i : Nat) (b : Int) (h : bs.reverse[i]? = some b) : ofBits (bs.drop (bs.length - (i + 1))) = 2 * ofBits (bs.drop (bs.length - i)) + b := by
  have hi : i < bs.length := by
    have := (List.getElem?_eq_some_iff.mp h).1
    rw [List.length_reverse] at this
    exact this
  rw [List.getElem?_reverse hi] at h
  have hj : bs.length - 1 - i < bs.length := by omega
  rw [List.getElem?_eq_getElem hj] at h
  have e : bs.drop (bs.length - 1 - i) = bs[bs.length - 1 - i] :: bs.drop (bs.length - 1 - i + 1) := List.drop_eq_getElem_cons hj
  rw [show bs.length - (i + 1) = bs.length - 1 - i by omega, e, show bs.length - 1 - i + 1 = bs.length - i by omega, Option.some.inj h]
  rfl
/-! ### signed numbers -/
def sgn (w : Nat) (x : Int) : Int := if x / 2 ^ (w - 1) = 1 then x - 2 ^ w else x
theorem sgn_mod (w : Nat) (x : Int) : ∃ k : Int, sgn w x = x + 2 ^ w * k := by
  unfold sgn
  split
  · exact ⟨-1, by omega⟩
  · exact ⟨0, by omega⟩
/-! ### a quotient, bit by bit -/
theorem quot_step {N y b : Int} (hy : 0 < y) (hb : b = 0 ∨ b = 1) :
    (2 * N + b) / y = 2 * (N / y) + (if y ≤ 2 * (N % y) + b then 1 else 0) ∧ (2 * N + b) % y = (if y ≤ 2 * (N % y) + b then 2 * (N % y) + b - y else 2 * (N % y) + b) := by
  have e1 := Int.emod_add_mul_ediv N y
  have l1 := Int.emod_nonneg N (Int.ne_of_gt hy)
  have l2 := Int.emod_lt_of_pos N hy
  have e2 : y * (2 * (N / y)) = 2 * (y * (N / y)) := by rw [← Int.mul_assoc, Int.mul_comm y 2, Int.mul_assoc]
  have e3 : y * (2 * (N / y) + 1) = 2 * (y * (N / y)) + y := by rw [Int.mul_add, e2, Int.mul_one]
  split
  · refine divmod_of hy ?_ (by omega) (by omega)
    omega
  · have e4 : y * (2 * (N / y) + 0) = 2 * (y * (N / y)) := by rw [Int.add_zero, e2]
    refine divmod_of hy ?_ (by omega) (by omega)
    omega
theorem half_bit (x : Int) (k : Nat) : x / 2 ^ k = 2 * (x / 2 ^ (k + 1)) + x / 2 ^ k % 2 := by
  have e := div_div x k 1
  rw [show (2 : Int) ^ 1 = 2 from rfl] at e
  rw [← e]
  omega
/-! ### carries -/
def carry (x y c : Int) (i : Nat) : Int := (x % 2 ^ i + y % 2 ^ i + c) / 2 ^ i
def cars (n : Nat) (x y c : Int) : List Int := (List.range (n + 1)).map (carry x y c)
theorem cars_length (n : Nat) (x y c : Int) : (cars n x y c).length = n + 1 := by simp [cars]
theorem cars_get {n : Nat} {x y c : Int} {i : Nat} (h : i ≤ n) : (cars n x y c)[i]? = some (carry x y c i) := by
  unfold cars
  rw [List.getElem?_map, List.getElem?_range (by omega)]
  rfl
theorem cars_snoc (n : Nat) (x y c : Int) : cars (n + 1) x y c = cars n x y c ++ [carry x y c (n + 1)] := by
  unfold cars
  rw [List.range_succ, List.map_append]
  rfl
theorem carry_zero (x y c : Int) : carry x y c 0 = c := by simp [carry, Int.emod_one]
theorem carry_range {x y c : Int} (h0 : 0 ≤ c) (h1 : c ≤ 1) (i : Nat) : 0 ≤ carry x y c i ∧ carry x y c i ≤ 1 := by
  have hd := two_pos i
  have a0 := Int.emod_nonneg x (Int.ne_of_gt hd)
  have a1 := Int.emod_lt_of_pos x hd
  have b0 := Int.emod_nonneg y (Int.ne_of_gt hd)
  have b1 := Int.emod_lt_of_pos y hd
  unfold carry
  constructor
  · exact Int.ediv_nonneg (by omega) (Int.le_of_lt hd)
  · have := Int.ediv_lt_of_lt_mul (a := x % 2 ^ i + y % 2 ^ i + c) (b := 2) (c := 2 ^ i) hd (by omega)
    omega
theorem carry_succ (x y c : Int) (i : Nat) : carry x y c (i + 1) = (x / 2 ^ i % 2 + y / 2 ^ i % 2 + carry x y c i) / 2 := by
  have hd := two_pos i
  unfold carry
  rw [mod_succ x i, mod_succ y i, two_succ, Int.mul_comm 2, ← Int.ediv_ediv_of_nonneg (Int.le_of_lt hd)]
  have e : x % 2 ^ i + 2 ^ i * (x / 2 ^ i % 2) + (y % 2 ^ i + 2 ^ i * (y / 2 ^ i % 2)) + c = x % 2 ^ i + y % 2 ^ i + c + 2 ^ i * (x / 2 ^ i % 2 + y / 2 ^ i % 2) := by
    rw [Int.mul_add]
    omega
  rw [e, Int.add_mul_ediv_left _ _ (Int.ne_of_gt hd)]
  congr 1
  omega
theorem sum_bit (x y c : Int) (i : Nat) : (x + y + c) / 2 ^ i % 2 = (x / 2 ^ i % 2 + y / 2 ^ i % 2 + carry x y c i) % 2 := by
  have hd := two_pos i
  have e1 := Int.emod_add_mul_ediv x (2 ^ i)
  have e2 := Int.emod_add_mul_ediv y (2 ^ i)
  have e : x + y + c = x % 2 ^ i + y % 2 ^ i + c + 2 ^ i * (x / 2 ^ i + y / 2 ^ i) := by
    rw [Int.mul_add]
    omega
  unfold carry
  rw [e, Int.add_mul_ediv_left _ _ (Int.ne_of_gt hd)]
  omega
theorem carry_last {n : Nat} {x y c : Int} (hx0 : 0 ≤ x) (hx : x < 2 ^ n) (hy0 : 0 ≤ y) (hy : y < 2 ^ n) : carry x y c n = (x + y + c) / 2 ^ n := by
  unfold carry
  rw [mod_small hx0 hx, mod_small hy0 hy]
theorem half_int (b : Int) (h0 : 0 ≤ b) (h1 : b ≤ 3) : (if b > 1 then (1 : Int) else 0) = b / 2 := by
  split <;> omega
/-! ### signed numbers, once more -/
theorem sgn_eq {n : Nat} {x : Int} (hn : 1 ≤ n) (h0 : 0 ≤ x) (h1 : x < 2 ^ n) : sgn n x = if 2 ^ (n - 1) ≤ x then x - 2 ^ n else x := by
  have hd := two_pos (n - 1)
  have e : (2 : Int) ^ n = 2 * 2 ^ (n - 1) := by rw [← two_succ, Nat.sub_add_cancel hn]
  unfold sgn
  by_cases h : 2 ^ (n - 1) ≤ x
  · rw [if_pos h, if_pos]
    exact (divmod_of (q := 1) (r := x - 2 ^ (n - 1)) hd (by omega) (by omega) (by omega)).1
  · rw [if_neg h, if_neg]
    rw [Int.ediv_eq_zero_of_lt h0 (by omega)]
    decide
theorem sgn_less {n : Nat} {x y : Int} (hn : 1 ≤ n) (hx0 : 0 ≤ x) (hx : x < 2 ^ n) (hy0 : 0 ≤ y) (hy : y < 2 ^ n) : (sgn n x < sgn n y) ↔ (x + 2 ^ (n - 1)) % 2 ^ n < (y + 2 ^ (n - 1)) % 2 ^ n := by
  have hd := two_pos (n - 1)
  have e : (2 : Int) ^ n = 2 * 2 ^ (n - 1) := by rw [← two_succ, Nat.sub_add_cancel hn]
  have m : ∀ {z : Int}, 0 ≤ z → z < 2 ^ n → (z + 2 ^ (n - 1)) % 2 ^ n = if 2 ^ (n - 1) ≤ z then z - 2 ^ (n - 1) else z + 2 ^ (n - 1) := fun {z} z0 z1 => by
    split
    · exact (divmod_of (q := 1) (by omega) (by omega) (by omega) (by omega)).2
    · exact Int.emod_eq_of_lt (by omega) (by omega)
  rw [sgn_eq hn hx0 hx, sgn_eq hn hy0 hy, m hx0 hx, m hy0 hy]
  split <;> split <;> omega
theorem sgn_bound {n : Nat} {x : Int} (hn : n ≤ 32) (h0 : 0 ≤ x) (h1 : x < 2 ^ n) : (sgn n x).natAbs < 2 ^ 33 := by
  have hb := two32 hn
  have hp := two_pos n
  unfold sgn
  split <;> omega
theorem sgn_mul {n : Nat} {x y : Int} : (sgn n x * sgn n y) % 2 ^ n = x * y % 2 ^ n := by
  obtain ⟨k, e1⟩ := sgn_mod n x
  obtain ⟨l, e2⟩ := sgn_mod n y
  rw [e1, e2, Int.mul_emod, Int.add_mul_emod_self_left, Int.add_mul_emod_self_left, ← Int.mul_emod]
theorem sgn_add {n : Nat} {x y c : Int} : (sgn n x + sgn n y + c) % 2 ^ n = (x + y + c) % 2 ^ n := by
  obtain ⟨k, e1⟩ := sgn_mod n x
  obtain ⟨l, e2⟩ := sgn_mod n y
  have e : sgn n x + sgn n y + c = x + y + c + 2 ^ n * (k + l) := by
    rw [e1, e2, Int.mul_add]
    omega
  rw [e, Int.add_mul_emod_self_left]
/-- the difference, as a sum -/
theorem less_sum {n : Nat} {x y : Int} (hx0 : 0 ≤ x) (hx : x < 2 ^ n) (hy0 : 0 ≤ y) (hy : y < 2 ^ n) :
    (x + (2 ^ n - 1 - y) + 1) % 2 ^ n = (x - y) % 2 ^ n ∧ (x + (2 ^ n - 1 - y) + 1) / 2 ^ n = if y ≤ x then 1 else 0 := by
  have hd := two_pos n
  have e : x + (2 ^ n - 1 - y) + 1 = x - y + 2 ^ n * 1 := by omega
  refine ⟨by rw [e, Int.add_mul_emod_self_left], ?_⟩
  split
  · exact (divmod_of (r := x - y) hd (by omega) (by omega) (by omega)).1
  · exact Int.ediv_eq_zero_of_lt (by omega) (by omega)
/-! ### bits put together -/
theorem mod_add (x : Int) (a b : Nat) : x % 2 ^ (a + b) = x % 2 ^ a + 2 ^ a * (x / 2 ^ a % 2 ^ b) := by
  induction b with
  | zero => rw [Nat.add_zero, Int.pow_zero, Int.emod_one]; omega
  | succ b ih =>
    rw [← Nat.add_assoc, mod_succ x (a + b), ih, mod_succ (x / 2 ^ a) b, div_div, Int.mul_add, two_add, Int.mul_assoc]
    omega
theorem ofBits_append : ∀ (a b : List Int), ofBits (a ++ b) = ofBits a + 2 ^ a.length * ofBits b
  | [], b => by simp [ofBits]
  | x :: r, b => by
    show 2 * ofBits (r ++ b) + x = 2 * ofBits r + x + 2 ^ (r.length + 1) * ofBits b
    rw [ofBits_append r b, two_succ, Int.mul_add, Int.mul_assoc]
    omega
theorem ofBits_same (k : Nat) (t : Int) : ofBits (List.replicate k t) = t * (2 ^ k - 1) := by
  induction k with
  | zero => simp [ofBits]
  | succ k ih =>
    show 2 * ofBits (List.replicate k t) + t = t * (2 ^ (k + 1) - 1)
    rw [ih, two_succ, Int.mul_sub, Int.mul_sub, Int.mul_sub, Int.mul_one, ← Int.mul_assoc t 2, Int.mul_comm t 2, Int.mul_assoc 2 t]
    generalize t * 2 ^ k = u
    omega
theorem sgn_fit {m : Nat} {s : Int} (hm : 1 ≤ m) (h0 : -(2 ^ (m - 1)) ≤ s) (h1 : s < 2 ^ (m - 1)) : sgn m (s % 2 ^ m) = s := by
  have hd := two_pos (m - 1)
  have e : (2 : Int) ^ m = 2 * 2 ^ (m - 1) := by rw [← two_succ, Nat.sub_add_cancel hm]
  have hp := two_pos m
  rw [sgn_eq hm (Int.emod_nonneg _ (by omega)) (Int.emod_lt_of_pos _ hp)]
  by_cases h : 0 ≤ s
  · rw [Int.emod_eq_of_lt h (by omega), if_neg (by omega)]
  · have e2 : s % 2 ^ m = s + 2 ^ m := (divmod_of (q := -1) hp (by omega) (by omega) (by omega)).2
    rw [e2, if_pos (by omega)]
    omega
theorem sgn_range {n : Nat} {x : Int} (hn : 1 ≤ n) (h0 : 0 ≤ x) (h1 : x < 2 ^ n) : -(2 ^ (n - 1)) ≤ sgn n x ∧ sgn n x < 2 ^ (n - 1) := by
  have hd := two_pos (n - 1)
  have e : (2 : Int) ^ n = 2 * 2 ^ (n - 1) := by rw [← two_succ, Nat.sub_add_cancel hn]
  rw [sgn_eq hn h0 h1]
  split <;> omega
/-- lengthened: the top bit ahead -/
theorem ofBits_long {n : Nat} {x : Int} (k : Nat) (hn : 1 ≤ n) (h0 : 0 ≤ x) (h1 : x < 2 ^ n) :
    ofBits (bitsI n x ++ List.replicate k (x / 2 ^ (n - 1) % 2)) = sgn n x % 2 ^ (n + k) := by
  have hd := two_pos (n - 1)
  have e : (2 : Int) ^ n = 2 * 2 ^ (n - 1) := by rw [← two_succ, Nat.sub_add_cancel hn]
  have hp := two_pos n
  have hk := two_pos k
  have e2 := two_add n k
  have hk1 : (1 : Int) ≤ 2 ^ k := hk
  have hle : (2 : Int) ^ n * 1 ≤ 2 ^ n * 2 ^ k := Int.mul_le_mul_of_nonneg_left hk1 (Int.le_of_lt hp)
  rw [ofBits_append, ofBits_bitsI, mod_small h0 h1, bitsI_length, ofBits_same, sgn_eq hn h0 h1]
  by_cases h : 2 ^ (n - 1) ≤ x
  · have q := (divmod_of (a := x) (q := 1) (r := x - 2 ^ (n - 1)) hd (by omega) (by omega) (by omega)).1
    rw [if_pos h, q]
    show x + 2 ^ n * (1 * (2 ^ k - 1)) = (x - 2 ^ n) % 2 ^ (n + k)
    refine ((divmod_of (q := -1) (two_pos _) ?_ ?_ ?_).2).symm
    · rw [Int.one_mul, Int.mul_sub, ← e2]
      omega
    · rw [Int.one_mul, Int.mul_sub, ← e2]
      omega
    · rw [Int.one_mul, Int.mul_sub, ← e2]
      omega
  · have q : x / 2 ^ (n - 1) = 0 := Int.ediv_eq_zero_of_lt h0 (by omega)
    rw [if_neg h, q]
    show x + 2 ^ n * (0 * (2 ^ k - 1)) = x % 2 ^ (n + k)
    rw [Int.zero_mul, Int.mul_zero, Int.add_zero, Int.emod_eq_of_lt h0 (by omega)]
theorem sgn_low {n : Nat} {x : Int} (k : Nat) (h0 : 0 ≤ x) (h1 : x < 2 ^ n) : sgn n x % 2 ^ (n + k) % 2 ^ n = x := by
  rw [two_add, Int.emod_emod_of_dvd _ ⟨2 ^ k, rfl⟩]
  obtain ⟨j, e⟩ := sgn_mod n x
  rw [e, Int.add_mul_emod_self_left, mod_small h0 h1]
end TB
namespace TB
open PySem PySem.Spec PyProof.Rows L2
/-! ### where a def of the text stands; a module's constant -/
structure DefAt (K : PySem.W.Frag) (mg : Str → Option Value) (x : Str) (st : Stmt) (ps : List Str) where
  f : Addr
  fd : FuncData
  F : Fun K x x st f fd
  b : Binds K fd ps []
  g : mg x = some (.ref f)
structure ConAt (mg : Str → Option Value) (x : Str) (v : V) where
  u : Value
  g : mg x = some u
  r : RelV v u
def defAt {K : PySem.W.Frag} {h : Heap} {mg : Str → Option Value} {x : Str} {st : Stmt} {ps : List Str} (X : K.In h) (G : h.Ns mainGlobals mg) {f : Addr} {od an : Option Addr} {sl : Array (Option Value)} {oc kV dc pm cd ct : Value}
    (a : PySem.W.nsIn K mainGlobals x = some (some (.ref f))) (l : K.lookup f = some ⟨oc, od, .func (PySem.W.fnOf x x (defArgs st) (defBody st) (defScope st) .none kV dc pm an cd ct), sl⟩) (c : PySem.W.codeIn K cd x = true) (k : PySem.W.keepIn K (.ref f) = true)
    (hb : ∀ (kV doc pm : Value) (an : Option Addr) (cdv ct : Value) (us : List Value), us.length = ps.length → bindArgs (PySem.W.fnOf x x (defArgs st) (defBody st) (defScope st) .none kV doc pm an cdv ct) ⟨us, []⟩ = pure (ps.zip us)) : DefAt K mg x st ps :=
  ⟨f, _, fun_mk l c k, (fun_mk l c k).binds hb, PySem.W.mg_of X G a⟩

/-- a def with keyword-only parameters at its end, each with a default -/
structure DefKw (K : PySem.W.Frag) (mg : Str → Option Value) (x : Str) (st : Stmt) (ps : List Str) (n : Nat) (kws : List (Str × V)) where
  f : Addr
  fd : FuncData
  F : Fun K x x st f fd
  ds : List Value
  dv : Vals (kws.map (·.2)) ds
  b : Binds K fd ps ds
  kb : KBn K fd ps n (kws.map (·.1)) (fun us ws => us ++ ws) (fun vs zs => vs ++ zs)
  g : mg x = some (.ref f)
theorem defKw {K : PySem.W.Frag} {h : Heap} {mg : Str → Option Value} {x : Str} {st : Stmt} {ps : List Str} {n : Nat} {y : Str} {i : Int} {tk : Tok} (X : K.In h) (G : h.Ns mainGlobals mg) {f D : Addr} {od an : Option Addr} {sl : Array (Option Value)} {oc dc pm cd ct : Value}
    (a : PySem.W.nsIn K mainGlobals x = some (some (.ref f))) (l : K.lookup f = some ⟨oc, od, .func (PySem.W.fnOf x x (defArgs st) (defBody st) (defScope st) .none (.ref D) dc pm an cd ct), sl⟩) (c : PySem.W.codeIn K cd x = true) (k : PySem.W.keepIn K (.ref f) = true)
    (kd : PySem.W.nsIn K D y = some (some (.int i tk))) (hn : n + 1 = ps.length)
    (h1 : ∀ (D : Addr) (doc pm : Value) (an : Option Addr) (cdv ct : Value) (us ks : List Value), us.length = n → ks.length = 1 →
      KwChain D ([y].zip ks) (bindArgs (PySem.W.fnOf x x (defArgs st) (defBody st) (defScope st) .none (.ref D) doc pm an cdv ct) ⟨us, []⟩) (ps.zip (us ++ ks)))
    (h2 : ∀ (D : Addr) (doc pm : Value) (an : Option Addr) (cdv ct : Value) (us ks : List Value), us.length = n → ks.length = 1 →
      bindArgs (PySem.W.fnOf x x (defArgs st) (defBody st) (defScope st) .none (.ref D) doc pm an cdv ct) ⟨us, [y].zip ks⟩ = pure (ps.zip (us ++ ks))) : Nonempty (DefKw K mg x st ps n [(y, .int i)]) := by
  have FD : FunD K x x (defArgs st) (defBody st) (defScope st) [] [(y, .int i)] f (PySem.W.fnOf x x (defArgs st) (defBody st) (defScope st) .none (.ref D) dc pm an cd ct) :=
    ⟨⟨oc, od, .none, .ref D, dc, pm, an, cd, ct, sl, rfl, l, c, .inl ⟨rfl, rfl⟩, .inr ⟨D, rfl, fun q hq => by
      rcases List.mem_cons.mp hq with e | hq
      · rw [e]
        exact ⟨_, kd, _, rfl⟩
      · cases hq⟩⟩, k⟩
  obtain ⟨ds, dv, b⟩ := FD.binds0 n (by simp) hn fun D doc pm an cdv ct us ks l1 l2 => h1 D doc pm an cdv ct us ks l1 l2
  exact ⟨⟨f, _, fun_mk l c k, ds, dv, b, ⟨fun s us ws X l1 l2 => .of_eq (h2 D dc pm an cd ct us ws l1 l2), fun r1 r2 => r1.append r2⟩, PySem.W.mg_of X G a⟩⟩

/-! ### heaps -/
theorem same_new {H : Hp} {p : Addr} {o : HO} (h : H p = none) : Same H (upd H p o) := fun b x e => by
  rw [upd_ne (ne_of_none e h)]
  exact e
theorem seqT_same {K : PySem.W.Frag} {H H' : Hp} {a : Addr} {xs : List V} (e : Same H H') (h : SqT K H a xs) : SqT K H' a xs := by
  rcases h with (h | ⟨o, h⟩) | h
  · exact .inl (.inl (e _ _ h))
  · exact .inl (.inr ⟨o, e _ _ h⟩)
  · exact .inr h
theorem upd_comm {H : Hp} {a b : Addr} {o u : HO} (h : a ≠ b) : upd (upd H a o) b u = upd (upd H b u) a o := by
  funext c
  unfold upd
  by_cases h1 : c = b
  · subst h1
    rw [if_pos rfl, if_neg (Ne.symm h), if_pos rfl]
  · by_cases h2 : c = a
    · subst h2
      rw [if_neg h1, if_pos rfl, if_pos rfl]
    · rw [if_neg h1, if_neg h2, if_neg h2, if_neg h1]
/-! ### the dice: a list of three ints -/
abbrev dl (x y z : Int) : HO := .lst [.int x, .int y, .int z]
def Dice (H : Hp) (d : Addr) : Prop := ∃ x y z : Int, H d = some (dl x y z)
/-- all but the dice stays -/
structure Ext (d : Addr) (H H' : Hp) : Prop where
  s : ∀ b o, b ≠ d → H b = some o → H' b = some o
  d : Dice H' d
theorem Ext.refl {d : Addr} {H : Hp} (h : Dice H d) : Ext d H H := ⟨fun _ _ _ e => e, h⟩
theorem Ext.trans {d : Addr} {H H1 H2 : Hp} (a : Ext d H H1) (b : Ext d H1 H2) : Ext d H H2 := ⟨fun c o n e => b.s c o n (a.s c o n e), b.d⟩
theorem Ext.same {d : Addr} {H H1 H2 : Hp} (a : Ext d H H1) (b : Same H1 H2) : Ext d H H2 := ⟨fun c o n e => b c o (a.s c o n e), let ⟨x, y, z, e⟩ := a.d; ⟨x, y, z, b _ _ e⟩⟩
theorem Dice.same {d : Addr} {H H1 : Hp} (a : Dice H d) (b : Same H H1) : Dice H1 d := let ⟨x, y, z, e⟩ := a; ⟨x, y, z, b _ _ e⟩
theorem Dice.ne {d p : Addr} {H : Hp} (a : Dice H d) (h : H p = none) : p ≠ d := fun e => by
  obtain ⟨x, y, z, q⟩ := a
  rw [e, q] at h
  cases h
theorem Dice.neT {d p : Addr} {H : Hp} {xs : List V} (a : Dice H d) (h : H p = some (.tup xs)) : p ≠ d := fun e => by
  obtain ⟨x, y, z, q⟩ := a
  rw [e, q] at h
  cases h
theorem Ext.of {d : Addr} {H H' : Hp} (a : Dice H d) (b : Same H H') : Ext d H H' := (Ext.refl a).same b
theorem Ext.new {d p : Addr} {H : Hp} {o : HO} (a : Dice H d) (h : H p = none) : Ext d H (upd H p o) := .of a (same_new h)
theorem Ext.roll {d : Addr} {H : Hp} {x y z : Int} : Ext d H (upd H d (dl x y z)) := ⟨fun b o n e => by rw [upd_ne n]; exact e, x, y, z, upd_same⟩
theorem Ext.seqT {K : PySem.W.Frag} {d a : Addr} {H H' : Hp} {xs : List V} (e : Ext d H H') (hd : Dice H d) (h : SqT K H a xs) : SqT K H' a xs := by
  rcases h with (h | ⟨o, h⟩) | h
  · exact .inl (.inl (e.s _ _ (hd.neT h) h))
  · refine .inl (.inr ⟨o, e.s _ _ (fun z => ?_) h⟩)
    obtain ⟨x, y, w, q⟩ := hd
    rw [z, q] at h
    cases h
  · exact .inr h
theorem Ext.free {d p : Addr} {H H' : Hp} (e : Ext d H H') (hd : Dice H d) (h : H' p = none) : H p = none := by
  cases q : H p with
  | none => rfl
  | some o =>
    have n : p ≠ d := fun z => by
      obtain ⟨x, y, w, r⟩ := e.d
      rw [z, r] at h
      cases h
    rw [e.s _ _ n q] at h
    cases h
/-! ### all but one object stays -/
def But (l : Addr) (H H' : Hp) : Prop := ∀ b o, b ≠ l → H b = some o → H' b = some o
theorem But.refl (l : Addr) (H : Hp) : But l H H := fun _ _ _ e => e
theorem But.trans {l : Addr} {H H1 H2 : Hp} (a : But l H H1) (b : But l H1 H2) : But l H H2 := fun c o n e => b c o n (a c o n e)
theorem But.same {l : Addr} {H H1 H2 : Hp} (a : But l H H1) (b : Same H1 H2) : But l H H2 := fun c o n e => b c o (a c o n e)
theorem But.of {l : Addr} {H H1 : Hp} (b : Same H H1) : But l H H1 := fun c o _ e => b c o e
theorem But.mut {l : Addr} {H : Hp} {o : HO} : But l H (upd H l o) := fun c u n e => by
  rw [upd_ne n]
  exact e
/-- what stood ahead of the object's making -/
theorem But.back {l : Addr} {H0 H H' : Hp} {o : HO} (hn : H0 l = none) (s : Same (upd H0 l o) H) (a : But l H H') : Same H0 H' := fun c u e => by
  have n : c ≠ l := ne_of_none e hn
  exact a c u n (s c u (by rw [upd_ne n]; exact e))
theorem Ext.but {d : Addr} {H H' : Hp} (a : Ext d H H') : But d H H' := a.s
theorem But.seqT {K : PySem.W.Frag} {l a : Addr} {H H' : Hp} {xs ys : List V} (e : But l H H') (hl : H l = some (.lst ys)) (h : SqT K H a xs) : SqT K H' a xs := by
  rcases h with (h | ⟨o, h⟩) | h
  · exact .inl (.inl (e _ _ (ne_of h hl (by intro z; cases z)) h))
  · exact .inl (.inr ⟨o, e _ _ (ne_of h hl (by intro z; cases z)) h⟩)
  · exact .inr h
/-! ### a new object, its heap by a letter -/
theorem nw {H : Hp} {o : HO} {Q : V → Hp → Prop} (h : ∀ p H', Same H H' → H' p = some o → H p = none → Q (.ref p) H') : ∀ p, H p = none → Q (.ref p) (upd H p o) := fun p np => h p _ (same_new np) upd_same np
/-! ### rows of whole numbers as data -/
theorem dpI {K : PySem.W.Frag} {H : Hp} : ∀ ns : List Int, DpAll K H (ns.map V.int) (ns.map PyData.int)
  | [] => .nil
  | n :: r => .cons (.int n) (dpI r)
theorem canI : ∀ ns : List Int, PyData.canLayAll0 (ns.map PyData.int) = true
  | [] => rfl
  | n :: r => by
    show (PyData.canLay0 (.int n) && PyData.canLayAll0 (r.map PyData.int)) = true
    rw [canI r]
    rfl
theorem depthI : ∀ ns : List Int, PyData.depthAll (ns.map PyData.int) ≤ 1
  | [] => by decide
  | n :: r => by
    have := depthI r
    show max (PyData.depth (.int n)) (PyData.depthAll (r.map PyData.int)) ≤ 1
    have e : PyData.depth (.int n) = 0 := rfl
    omega
theorem shT (ns : List Int) : SeqAt.shaped (.tuple (ns.map PyData.int)) = true := by
  unfold SeqAt.shaped
  have e : PyData.canLay0 (.tuple (ns.map PyData.int)) = true := canI ns
  have d : PyData.depth (.tuple (ns.map PyData.int)) = PyData.depthAll (ns.map PyData.int) + 1 := rfl
  have := depthI ns
  rw [e, d, decide_eq_true (by omega)]
  rfl
theorem shL (ns : List Int) : SeqAt.shaped (.list (ns.map PyData.int)) = true := by
  unfold SeqAt.shaped
  have e : PyData.canLay0 (.list (ns.map PyData.int)) = true := canI ns
  have d : PyData.depth (.list (ns.map PyData.int)) = PyData.depthAll (ns.map PyData.int) + 1 := rfl
  have := depthI ns
  rw [e, d, decide_eq_true (by omega)]
  rfl
theorem eqvR {d : PyData} (h : SeqAt.shaped d = true) : PyData.eqv d d = true := SeqAt.eqv_refl d (SeqAt.canLay_of_shaped h)
theorem dp2 {K : PySem.W.Frag} {H : Hp} {a : Addr} {x y : Int} (h : SqT K H a [.int x, .int y]) : Dp K H (.ref a) (.tuple [.int x, .int y]) := .tup h (.cons (.int x) (.cons (.int y) .nil))
theorem eqv2 {x y x' y' : Int} (h1 : x = x') (h2 : y = y') : PyData.eqv (.tuple [.int x, .int y]) (.tuple [.int x', .int y']) = true := by
  subst h1 h2
  exact SeqAt.eqv_refl _ rfl
theorem neqv2 {x y x' y' : Int} (h1 : x = x') (h2 : y = y') : (!PyData.eqv (.tuple [.int x, .int y]) (.tuple [.int x', .int y'])) = false := by
  rw [eqv2 h1 h2]
  rfl
theorem neqvR {d : PyData} (h : SeqAt.shaped d = true) : (!PyData.eqv d d) = false := by
  rw [eqvR h]
  rfl
/-! ### tests -/
theorem iteB {A B : Prop} {b : Bool} (h : b = true) (q : A) : if b = true then A else B := by
  rw [h]
  exact iteT q
theorem iteBF {A B : Prop} {b : Bool} (h : b = false) (q : B) : if b = true then A else B := by
  rw [h]
  exact iteF q
theorem iteN {A B : Prop} {b : Bool} (h : b = true) (q : B) : if (!b) = true then A else B := by
  rw [h]
  exact iteF q
theorem iteNF {A B : Prop} {b : Bool} (h : b = false) (q : A) : if (!b) = true then A else B := by
  rw [h]
  exact iteT q
theorem ite3 {A B : Prop} {b : Bool} (h1 : b = true → A) (h2 : b = false → B) : if b = true then A else B := by
  cases b with
  | true => exact iteT (h1 rfl)
  | false => exact iteF (h2 rfl)
theorem neF {x y : V} (h : x = y) : (!decide (x = y)) = false := by
  rw [decide_eq_true h]
  rfl
theorem neT {x y : V} (h : x ≠ y) : (!decide (x = y)) = true := by
  rw [decide_eq_false h]
  rfl
theorem neFI {i j : Int} (h : i = j) : (!decide (V.int i = V.int j)) = false := neF (congrArg V.int h)
theorem eqTI {i j : Int} (h : i = j) : decide (V.int i = V.int j) = true := decide_eq_true (congrArg V.int h)
theorem eqFI {i j : Int} (h : i ≠ j) : decide (V.int i = V.int j) = false := decide_eq_false fun z => h (V.int.inj z)
theorem neTI {i j : Int} (h : i ≠ j) : (!decide (V.int i = V.int j)) = true := neT fun z => h (V.int.inj z)
/-! ### written numbers, sizes -/
theorem p0 {c : Int} (h : decide (0 < c) = true := by rfl) : 0 < c := of_decide_eq_true h
theorem cdiv {i j : Int} (h : decide (0 < j ∧ j < 1073741824) = true := by rfl) : CDiv i j := show 0 < j ∧ j < 1073741824 from of_decide_eq_true h
theorem cmulL {i j : Int} (h : decide (-(2 ^ 64) < i ∧ i < 2 ^ 64) = true := by rfl) : CMul i j := .inl (of_decide_eq_true h)
theorem cmulR {i j : Int} (h : decide (-(2 ^ 64) < j ∧ j < 2 ^ 64) = true := by rfl) : CMul i j := .inr (of_decide_eq_true h)
theorem sz {α : Type} {xs : List α} {n : Nat} (h : xs.length = n := by rfl) (h2 : decide (n ≤ 100000) = true := by rfl) : xs.length ≤ sizeLine := by
  rw [h]
  have := of_decide_eq_true h2
  rw [sizeLine_eq]
  omega
theorem szl {n : Nat} (h : n ≤ 100000) : n ≤ sizeLine := by
  rw [sizeLine_eq]
  omega
theorem szlt {n : Nat} (h : n ≤ 100000) : n < sizeLine := by
  rw [sizeLine_eq]
  omega
/-! ### slices -/
theorem cut_to (xs : List V) (k : Nat) : cutV xs none (some (k : Int)) = xs.take k := by
  unfold cutV
  rw [HT.sIx_nat, HT.sIx_none, List.drop_zero, Nat.sub_zero]
  by_cases h : k ≤ xs.length
  · rw [Nat.min_eq_left h]
  · rw [Nat.min_eq_right (by omega), List.take_length, List.take_of_length_le (by omega)]
theorem cut_from (xs : List V) (k : Nat) : cutV xs (some (k : Int)) none = xs.drop k := by
  unfold cutV
  rw [HT.sIx_nat, HT.sIx_none]
  by_cases h : k ≤ xs.length
  · rw [Nat.min_eq_left h, List.take_of_length_le (by rw [List.length_drop]; omega)]
  · rw [Nat.min_eq_right (by omega), List.drop_length, List.drop_of_length_le (by omega), List.take_nil]
theorem cut_mid (xs : List V) (a b : Nat) (h : a + b ≤ xs.length) : cutV xs (some (a : Int)) (some ((a : Int) + (b : Int))) = (xs.drop a).take b := by
  unfold cutV
  have e : (a : Int) + (b : Int) = ((a + b : Nat) : Int) := by omega
  rw [e, HT.sIx_nat, HT.sIx_nat, Nat.min_eq_left h, Nat.min_eq_left (show a ≤ xs.length by omega), Nat.add_sub_cancel_left]
/-! ### loops -/
/-- for .. in range(n), the turn's number a Nat -/
theorem for_rangeN {n : Nat} {g : TG} {tb : TS} {D : Ends} {σ : L2.St} {H : Hp} (Pv : Nat → L2.St → Hp → Prop) (h0 : Pv 0 σ H)
    (hs : ∀ i σ H, i < n → Pv i σ H → g (.int (i : Int)) σ H fun σ2 H2 => tb { D with nx := Pv (i + 1), ct := Pv (i + 1), bk := D.nx } σ2 H2) (hd : ∀ σ H, Pv n σ H → D.nx σ H) :
    ∃ W : Nat → Nat → L2.St → Hp → Prop, (∃ m, W 0 m σ H) ∧ ∀ i m σ H, W i m σ H → ((Itr 0 n).stop i H ∧ D.nx σ H) ∨ ((Itr 0 n).go i H ∧ ∃ N : L2.St → Hp → Prop, (∀ σ' H', N σ' H' → ∃ m', m' < m ∧ W (i + 1) m' σ' H') ∧ ∀ x H', (Itr 0 n).yld i H x H' → g x σ H' fun σ2 H2 => tb { D with nx := N, ct := N, bk := D.nx } σ2 H2) :=
  for_range (lo := 0) (n := n) Pv h0 (fun i σ H hi p => by
    have e0 : (0 : Int) + (i : Int) = (i : Int) := Int.zero_add _
    rw [e0]
    exact hs i σ H hi p) hd
/-- [.. for .. in range(n)], the turn's number a Nat -/
theorem lc_rangeN {n : Nat} {g : TG} {tt : TT} {te : TE} {vs : List Nat} {σ : L2.St} {H1 : Hp} {D : Addr} {Qd : Hp → Prop} (Pv : Nat → Hp → Prop) (h0 : Pv 0 (upd H1 D (.lst [])))
    (hs : ∀ i H, i < n → Pv i H → g (.int (i : Int)) (wipe σ vs) H fun σ2 H2 => wipe σ2 vs = wipe σ vs ∧ tt σ2 H2 fun b H3 =>
      if b = true then te σ2 H3 fun y H4 => ∃ acc, H4 D = some (.lst acc) ∧ acc.length < sizeLine ∧ Pv (i + 1) (upd H4 D (.lst (acc ++ [y]))) else Pv (i + 1) H3) (hd : ∀ H, Pv n H → Qd H) :
    ∃ W : Nat → Nat → Hp → Prop, (∃ m, W 0 m (upd H1 D (.lst []))) ∧ ∀ i m H, W i m H →
      ((Itr 0 n).stop i H ∧ Qd H) ∨ ((Itr 0 n).go i H ∧ ∃ Nx : Hp → Prop, (∀ H', Nx H' → ∃ m', m' < m ∧ W (i + 1) m' H') ∧ ∀ x H', (Itr 0 n).yld i H x H' → g x (wipe σ vs) H' fun σ2 H2 => wipe σ2 vs = wipe σ vs ∧ tt σ2 H2 fun b H3 =>
        if b = true then te σ2 H3 fun y H4 => ∃ acc, H4 D = some (.lst acc) ∧ acc.length < sizeLine ∧ Nx (upd H4 D (.lst (acc ++ [y]))) else Nx H3) :=
  lc_range (lo := 0) (n := n) Pv h0 (fun i H hi p => by
    have e0 : (0 : Int) + (i : Int) = (i : Int) := Int.zero_add _
    rw [e0]
    exact hs i H hi p) hd
/-- for i, x in enumerate(xs) -/
theorem for_enumL {K : PySem.W.Frag} {a : Addr} {xs : List V} {g : TG} {tb : TS} {D : Ends} {σ : L2.St} {H : Hp} (Pv : Nat → L2.St → Hp → Prop) (h0 : Pv 0 σ H) (hq : ∀ i σ H, Pv i σ H → SqL K H a xs)
    (hs : ∀ (i : Nat) (x : V) (T : Addr) (σ : L2.St) (H : Hp), xs[i]? = some x → Pv i σ H → H T = none → g (.ref T) σ (upd H T (.tup [.int (i : Int), x])) fun σ2 H2 => tb { D with nx := Pv (i + 1), ct := Pv (i + 1), bk := D.nx } σ2 H2) (hd : ∀ σ H, Pv xs.length σ H → D.nx σ H) :
    ∃ W : Nat → Nat → L2.St → Hp → Prop, (∃ m, W 0 m σ H) ∧ ∀ i m σ H, W i m σ H → ((Ite K a).stop i H ∧ D.nx σ H) ∨ ((Ite K a).go i H ∧ ∃ N : L2.St → Hp → Prop, (∀ σ' H', N σ' H' → ∃ m', m' < m ∧ W (i + 1) m' σ' H') ∧ ∀ v H', (Ite K a).yld i H v H' → g v σ H' fun σ2 H2 => tb { D with nx := N, ct := N, bk := D.nx } σ2 H2) := by
  refine ⟨fun i m σ H => m = xs.length - i ∧ i ≤ xs.length ∧ Pv i σ H, ⟨xs.length, rfl, Nat.zero_le _, h0⟩, ?_⟩
  rintro i m σ H ⟨rfl, hi, p⟩
  have qx := hq i σ H p
  by_cases hlt : i < xs.length
  · have hx : xs[i]? = some xs[i] := List.getElem?_eq_getElem hlt
    refine .inr ⟨⟨xs, xs[i], qx, hx⟩, Pv (i + 1), fun σ' H' p' => ⟨xs.length - (i + 1), by omega, rfl, hlt, p'⟩, fun v H' y => ?_⟩
    obtain ⟨T, x, rfl, nT, rfl, f⟩ := y
    exact hs i x T σ H (f xs qx) p nT
  · have e : i = xs.length := by omega
    subst e
    exact .inl ⟨⟨xs, qx, Nat.le_refl _⟩, hd σ H p⟩
/-! ### powers of great ints -/
def CPowW (i j : Int) : Prop := 0 ≤ j ∧ (Builtin.Int.intBits i : Int) * j ≤ 2 ^ 27
theorem op_powW {X : Cx} : OpR X (binaryOp .Pow) (rI CPowW fun i j => .int (i ^ j.toNat)) := opI fun _ _ _ _ _ _ _ hc q => pow_int hc.1 hc.2 q
end TB
namespace TB
open PySem PySem.Spec PyProof.Rows L2
/-! ### a rule by a stronger reading -/
section
variable {X : Cx}
theorem PE_imp {e : Expr} {t t' : TE} (h : PE X e t) (hi : ∀ σ H Q, t' σ H Q → t σ H Q) : PE X e t' := ⟨fun pins s σ H Q I hw => h.run pins s σ H Q I (hi σ H Q hw)⟩
/-- what follows may be less -/
def clA (t : TA) : TA := fun σ H Q => ∃ R, t σ H R ∧ ∀ vs H', R vs H' → Q vs H'
def clE (t : TE) : TE := fun σ H Q => ∃ R, t σ H R ∧ ∀ v H', R v H' → Q v H'
theorem PA_cl {es : List Expr} {t : TA} (h : PA X es t) : PA X es (clA t) := ⟨fun pos pins s σ H Q I hw => by
  obtain ⟨R, h1, h2⟩ := hw
  exact thn (h.run pos pins s σ H R I h1) fun us s' ⟨vs, H', I', r, q⟩ => ⟨vs, H', I', r, h2 _ _ q⟩⟩
theorem PE_cl {e : Expr} {t : TE} (h : PE X e t) : PE X e (clE t) := ⟨fun pins s σ H Q I hw => by
  obtain ⟨R, h1, h2⟩ := hw
  exact thn (h.run pins s σ H R I h1) fun us s' ⟨v, H', I', r, q⟩ => ⟨v, H', I', r, h2 _ _ q⟩⟩
theorem OpR_imp {f : Value → Value → Sem Value} {r r' : R2} (h : OpR X f r) (hi : ∀ x y H Q, r' x y H Q → r x y H Q) : OpR X f r' := fun pins s σ H x y v u Q I rx ry hw => h pins s σ H x y v u Q I rx ry (hi _ _ _ _ hw)
theorem CallR_imp {f : Value} {r r' : List V → Hp → VK → Prop} (h : CallR X f r) (hi : ∀ xs H Q, r' xs H Q → r xs H Q) : CallR X f r' := fun pins s σ H xs us Q I rx hw => h pins s σ H xs us Q I rx (hi _ _ _ hw)
theorem SlR_imp {r r' : V → Option Int → Option Int → Hp → VK → Prop} (h : L2.SlR X r) (hi : ∀ x lo hi' H Q, r' x lo hi' H Q → r x lo hi' H Q) : L2.SlR X r' := fun pins s σ H x v vl vu lo hi' sl Q I rx hs pl pu hw => h pins s σ H x v vl vu lo hi' sl Q I rx hs pl pu (hi _ _ _ _ _ hw)
/-! ### new tuples, new lists -/
def NewT (K : PySem.W.Frag) (xs : List V) (H : Hp) (Q : VK) : Prop := ∀ p H', Same H H' → SqT K H' p xs → Q (.ref p) H'
def NewL (xs : List V) (H : Hp) (Q : VK) : Prop := ∀ p H', Same H H' → H' p = some (.lst xs) → H p = none → Q (.ref p) H'
theorem newT {K : PySem.W.Frag} {xs : List V} {H : Hp} {Q : VK} (h : NewT K xs H Q) : ∀ p, H p = none → Q (.ref p) (upd H p (.tup xs)) := fun p np => h p _ (same_new np) (SqT.of upd_same)
theorem newL {xs : List V} {H : Hp} {Q : VK} (h : NewL xs H Q) : ∀ p, H p = none → Q (.ref p) (upd H p (.lst xs)) := fun p np => h p _ (same_new np) upd_same np
def tTupA (K : PySem.W.Frag) (t : TA) : TE := fun σ H Q => t σ H fun xs H1 => xs.length ≤ sizeLine ∧ NewT K xs H1 Q
def tLstA (t : TA) : TE := fun σ H Q => t σ H fun xs H1 => xs.length ≤ sizeLine ∧ NewL xs H1 Q
theorem pe_tupA {es : List Expr} {t : TA} {x1} {pos : Pos} (h : PA X es t) : PE X (.Tuple es x1 pos) (tTupA X.K t) := PE_imp (pe_tup (PA_cl h)) fun σ H Q hw => ⟨_, hw, fun xs H1 z => ⟨z.1, newT z.2⟩⟩
theorem pe_lstA {es : List Expr} {t : TA} {pos : Pos} (h : PA X es t) : PE X (.List es pos) (tLstA t) := PE_imp (pe_lst (PA_cl h)) fun σ H Q hw => ⟨_, hw, fun xs H1 z => ⟨z.1, newL z.2⟩⟩
theorem call_tupleA : CallR X (.type "tuple") (fun xs H Q => ∃ p ys, xs = [.ref p] ∧ (SqL X.K H p ys ∨ SqT X.K H p ys) ∧ NewT X.K ys H Q) := CallR_imp call_tuple_of fun xs H Q ⟨p, ys, e, h, q⟩ => ⟨p, ys, e, by
  rcases h with h | h
  · exact .inl ⟨h, newT q⟩
  · exact .inr ⟨h, q p H (Same.refl H) h⟩⟩
theorem call_listA : CallR X (.type "list") (fun xs H Q => ∃ p ys, xs = [.ref p] ∧ (SqL X.K H p ys ∨ SqT X.K H p ys) ∧ NewL ys H Q) := CallR_imp call_list_of fun xs H Q ⟨p, ys, e, h, q⟩ => ⟨p, ys, e, h, newL q⟩
theorem sl_listA : L2.SlR X (fun x lo hi H Q => ∃ a xs, x = .ref a ∧ SqL X.K H a xs ∧ NewL (cutV xs lo hi) H Q) := SlR_imp sl_list fun x lo hi H Q ⟨a, xs, e, h, q⟩ => ⟨a, xs, e, h, newL q⟩
theorem sl_tupleA : L2.SlR X (fun x lo hi H Q => ∃ a xs, x = .ref a ∧ SqT X.K H a xs ∧ NewT X.K (cutV xs lo hi) H Q) := SlR_imp sl_tupA fun x lo hi H Q ⟨a, xs, e, h, q⟩ => ⟨a, xs, e, h, fun z => by
    have e : cutV xs lo hi = xs := by
      unfold cutV
      rw [z.1, z.2, List.drop_zero, Nat.sub_zero, List.take_length]
    exact q a H (Same.refl H) (by rw [e]; exact h), fun _ => newT q⟩
theorem op_catL : OpR X (binaryOp .Add) (fun x y H Q => ∃ l b xs zs, x = .ref l ∧ y = .ref b ∧ H l = some (.lst xs) ∧ H b = some (.lst zs) ∧ xs.length + zs.length ≤ sizeLine ∧ NewL (xs ++ zs) H Q) := OpR_imp op_cat fun x y H Q ⟨l, b, xs, zs, e1, e2, h1, h2, z, q⟩ => ⟨l, b, xs, zs, e1, e2, h1, h2, z, newL q⟩
theorem op_repL : OpR X (binaryOp .Mult) (fun x y H Q => ∃ l k xs, x = .ref l ∧ y = .int k ∧ H l = some (.lst xs) ∧ -(2 ^ 63) ≤ k ∧ k < 2 ^ 63 ∧ xs.length * k.toNat ≤ sizeLine ∧ NewL (List.replicate k.toNat xs).flatten H Q) := OpR_imp op_rep fun x y H Q ⟨l, k, xs, e1, e2, h1, h2, h3, z, q⟩ => ⟨l, k, xs, e1, e2, h1, h2, h3, z, newL q⟩
theorem op_catU : OpR X (binaryOp .Add) (fun x y H Q => ∃ a b xs ys, x = .ref a ∧ y = .ref b ∧ SqT X.K H a xs ∧ SqT X.K H b ys ∧ xs.length + ys.length ≤ sizeLine ∧ NewT X.K (xs ++ ys) H Q) := OpR_imp op_catA fun x y H Q ⟨a, b, xs, ys, e1, e2, h1, h2, z, q⟩ => ⟨a, b, xs, ys, e1, e2, h1, h2, z,
  (fun e => q b H (Same.refl H) (by rw [e]; exact h2)), (fun _ e => q a H (Same.refl H) (by rw [e, List.append_nil]; exact h1)), (fun _ _ => newT q)⟩
theorem call_divmodA : CallR X (.builtin "divmod") (fun xs H Q => ∃ i j, xs = [.int i, .int j] ∧ CDivP i j ∧ NewT X.K [.int (i / j), .int (i % j)] H Q) := CallR_imp call_divmodW fun xs H Q ⟨i, j, e, h, q⟩ => ⟨i, j, e, h, newT q⟩
def tRevLA (K : PySem.W.Frag) (te : TE) : TE := fun σ H Q => te σ H fun x H1 => ∃ a xs, x = .ref a ∧ SqL K H1 a xs ∧ NewL xs.reverse H1 Q
theorem pe_revLA {e : Expr} {te : TE} {k : Nat} {p1 p2 p3 pos : Pos} (he : PE X e te) : PE X (.Subscript e (.Slice none none (some (.UnaryOp .USub (.Constant (.int 1) k p1) p2)) p3) pos) (tRevLA X.K te) :=
  PE_imp (pe_revL (PE_cl he)) fun σ H Q hw => ⟨_, hw, fun x H1 ⟨a, xs, e, h, q⟩ => ⟨a, xs, e, h, newL q⟩⟩
end
/-! ### what stands, through Same, Ext, But -/
section
variable {K : PySem.W.Frag} {H H' : Hp} {a d l : Addr} {xs ys : List V}
theorem sT (e : Same H H') (h : SqT K H a xs) : SqT K H' a xs := seqT_same e h
theorem sL (e : Same H H') (h : SqL K H a xs) : SqL K H' a xs := e.seq h
/-- a list that was made anew and then changed: what stood before stands -/
theorem Same.back {H0 H1 H2 : Hp} (hn : H0 l = none) (s : Same H0 H1) (b : But l H1 H2) : Same H0 H2 := fun c o e => b c o (ne_of_none e hn) (s c o e)
theorem Ext.list (e : Ext d H H') (n : a ≠ d) (h : H a = some (.lst xs)) : H' a = some (.lst xs) := e.s _ _ n h
theorem Ext.seqL (e : Ext d H H') (hd : Dice H d) (n : a ≠ d) (h : SqL K H a xs) : SqL K H' a xs := by
  rcases h with (h | ⟨o, h⟩) | h
  · exact .inl (.inl (e.s _ _ n h))
  · exact .inl (.inr ⟨o, e.s _ _ n h⟩)
  · exact .inr h
/-- what a dice is not -/
theorem Dice.neL (h : Dice H d) (e : H a = some (.lst xs)) (n : xs.length ≠ 3) : a ≠ d := fun z => by
  obtain ⟨x, y, w, q⟩ := h
  rw [z, q] at e
  cases e
  exact n rfl
theorem dp2s {x y : Int} (h : SqT K H a [.int x, .int y]) : Dp K H (.ref a) (.tuple [.int x, .int y]) := dp2 h
end
/-! ### lists of pure elements: f tells what each item gives, if anything -/
theorem range_snoc {α : Type} (f : Nat → Option α) (i : Nat) : (List.range (i + 1)).filterMap f = (List.range i).filterMap f ++ (f i).toList := by
  rw [List.range_succ, List.filterMap_append]
  cases h : f i <;> simp [h]
theorem take_snoc {α β : Type} (f : α → Option β) {xs : List α} {i : Nat} {x : α} (h : xs[i]? = some x) : (xs.take (i + 1)).filterMap f = (xs.take i).filterMap f ++ (f x).toList := by
  rw [List.take_add_one, h, List.filterMap_append]
  cases e : f x <;> simp [e]
theorem lc_rangeF {n : Nat} {g : TG} {tt : TT} {te : TE} {vs : List Nat} {σ : L2.St} {H1 : Hp} {Qd : Addr → Hp → Prop} (f : Nat → Option V) (hn : n ≤ 100000)
    (hs : ∀ i H, i < n → Same H1 H → ∀ (R : V → Hp → Prop) (N : Hp → Prop), (∀ v H', f i = some v → Same H H' → R v H') → (∀ H', f i = none → Same H H' → N H') →
      g (.int (i : Int)) (wipe σ vs) H fun σ2 H2 => wipe σ2 vs = wipe σ vs ∧ tt σ2 H2 fun b H3 => if b = true then te σ2 H3 R else N H3)
    (hd : ∀ D H', Same H1 H' → H' D = some (.lst ((List.range n).filterMap f)) → H1 D = none → Qd D H') :
    ∀ D, H1 D = none → ∃ W : Nat → Nat → Hp → Prop, (∃ m, W 0 m (upd H1 D (.lst []))) ∧ ∀ i m H, W i m H →
      ((Itr 0 n).stop i H ∧ Qd D H) ∨ ((Itr 0 n).go i H ∧ ∃ Nx : Hp → Prop, (∀ H', Nx H' → ∃ m', m' < m ∧ W (i + 1) m' H') ∧ ∀ x H', (Itr 0 n).yld i H x H' → g x (wipe σ vs) H' fun σ2 H2 => wipe σ2 vs = wipe σ vs ∧ tt σ2 H2 fun b H3 =>
        if b = true then te σ2 H3 fun y H4 => ∃ acc, H4 D = some (.lst acc) ∧ acc.length < sizeLine ∧ Nx (upd H4 D (.lst (acc ++ [y]))) else Nx H3) := fun D nD =>
  lc_rangeN (n := n) (fun i H => Same H1 H ∧ H D = some (.lst ((List.range i).filterMap f))) ⟨same_new nD, upd_same⟩ (fun i H hi ⟨sm, hD⟩ => by
    refine hs i H hi sm _ _ (fun v H' e s => ?_) (fun H' e s => ?_)
    · refine ⟨_, s _ _ hD, szlt ?_, fun b o hb => ?_, ?_⟩
      · have := List.length_filterMap_le f (List.range i)
        rw [List.length_range] at this
        omega
      · rw [upd_ne (ne_of_none hb nD)]
        exact s _ _ (sm _ _ hb)
      · rw [upd_same, range_snoc, e]
        rfl
    · refine ⟨sm.trans s, ?_⟩
      rw [range_snoc, e, s _ _ hD, Option.toList, List.append_nil]) fun H ⟨sm, hD⟩ => hd D H sm hD nD
theorem lc_listF {K : PySem.W.Frag} {a : Addr} {xs : List V} {g : TG} {tt : TT} {te : TE} {vs : List Nat} {σ : L2.St} {H1 : Hp} {Qd : Addr → Hp → Prop} (hl : SqL K H1 a xs) (f : V → Option V) (hn : xs.length ≤ 100000)
    (hs : ∀ (i : Nat) x H, xs[i]? = some x → Same H1 H → ∀ (R : V → Hp → Prop) (N : Hp → Prop), (∀ v H', f x = some v → Same H H' → R v H') → (∀ H', f x = none → Same H H' → N H') →
      g x (wipe σ vs) H fun σ2 H2 => wipe σ2 vs = wipe σ vs ∧ tt σ2 H2 fun b H3 => if b = true then te σ2 H3 R else N H3)
    (hd : ∀ D H', Same H1 H' → H' D = some (.lst (xs.filterMap f)) → H1 D = none → Qd D H') :
    ∀ D, H1 D = none → ∃ W : Nat → Nat → Hp → Prop, (∃ m, W 0 m (upd H1 D (.lst []))) ∧ ∀ i m H, W i m H →
      ((Itl K a).stop i H ∧ Qd D H) ∨ ((Itl K a).go i H ∧ ∃ Nx : Hp → Prop, (∀ H', Nx H' → ∃ m', m' < m ∧ W (i + 1) m' H') ∧ ∀ x H', (Itl K a).yld i H x H' → g x (wipe σ vs) H' fun σ2 H2 => wipe σ2 vs = wipe σ vs ∧ tt σ2 H2 fun b H3 =>
        if b = true then te σ2 H3 fun y H4 => ∃ acc, H4 D = some (.lst acc) ∧ acc.length < sizeLine ∧ Nx (upd H4 D (.lst (acc ++ [y]))) else Nx H3) := fun D nD =>
  lc_list (K := K) (a := a) (xs := xs) (fun i H => Same H1 H ∧ H D = some (.lst ((xs.take i).filterMap f))) ⟨same_new nD, upd_same⟩ (fun i H _ ⟨sm, _⟩ => sm.seq hl) (fun i x H hx ⟨sm, hD⟩ => by
    refine hs i x H hx sm _ _ (fun v H' e s => ?_) (fun H' e s => ?_)
    · refine ⟨_, s _ _ hD, szlt ?_, fun b o hb => ?_, ?_⟩
      · have := List.length_filterMap_le f (xs.take i)
        rw [List.length_take] at this
        omega
      · rw [upd_ne (ne_of_none hb nD)]
        exact s _ _ (sm _ _ hb)
      · rw [upd_same, take_snoc f hx, e]
        rfl
    · refine ⟨sm.trans s, ?_⟩
      rw [take_snoc f hx, e, s _ _ hD, Option.toList, List.append_nil]) fun H ⟨sm, hD⟩ => hd D H sm (by rw [hD, List.take_length]) nD
theorem lc_tupF {K : PySem.W.Frag} {a : Addr} {xs : List V} {g : TG} {tt : TT} {te : TE} {vs : List Nat} {σ : L2.St} {H1 : Hp} {Qd : Addr → Hp → Prop} (hl : SqT K H1 a xs) (f : V → Option V) (hn : xs.length ≤ 100000)
    (hs : ∀ (i : Nat) x H, xs[i]? = some x → Same H1 H → ∀ (R : V → Hp → Prop) (N : Hp → Prop), (∀ v H', f x = some v → Same H H' → R v H') → (∀ H', f x = none → Same H H' → N H') →
      g x (wipe σ vs) H fun σ2 H2 => wipe σ2 vs = wipe σ vs ∧ tt σ2 H2 fun b H3 => if b = true then te σ2 H3 R else N H3)
    (hd : ∀ D H', Same H1 H' → H' D = some (.lst (xs.filterMap f)) → H1 D = none → Qd D H') :
    ∀ D, H1 D = none → ∃ W : Nat → Nat → Hp → Prop, (∃ m, W 0 m (upd H1 D (.lst []))) ∧ ∀ i m H, W i m H →
      ((Itt K a).stop i H ∧ Qd D H) ∨ ((Itt K a).go i H ∧ ∃ Nx : Hp → Prop, (∀ H', Nx H' → ∃ m', m' < m ∧ W (i + 1) m' H') ∧ ∀ x H', (Itt K a).yld i H x H' → g x (wipe σ vs) H' fun σ2 H2 => wipe σ2 vs = wipe σ vs ∧ tt σ2 H2 fun b H3 =>
        if b = true then te σ2 H3 fun y H4 => ∃ acc, H4 D = some (.lst acc) ∧ acc.length < sizeLine ∧ Nx (upd H4 D (.lst (acc ++ [y]))) else Nx H3) := fun D nD =>
  lc_tup (K := K) (a := a) (xs := xs) (fun i H => Same H1 H ∧ H D = some (.lst ((xs.take i).filterMap f))) ⟨same_new nD, upd_same⟩ (fun i H _ ⟨sm, _⟩ => sT sm hl) (fun i x H hx ⟨sm, hD⟩ => by
    refine hs i x H hx sm _ _ (fun v H' e s => ?_) (fun H' e s => ?_)
    · refine ⟨_, s _ _ hD, szlt ?_, fun b o hb => ?_, ?_⟩
      · have := List.length_filterMap_le f (xs.take i)
        rw [List.length_take] at this
        omega
      · rw [upd_ne (ne_of_none hb nD)]
        exact s _ _ (sm _ _ hb)
      · rw [upd_same, take_snoc f hx, e]
        rfl
    · refine ⟨sm.trans s, ?_⟩
      rw [take_snoc f hx, e, s _ _ hD, Option.toList, List.append_nil]) fun H ⟨sm, hD⟩ => hd D H sm (by rw [hD, List.take_length]) nD
/-! ### lists of pure elements, told by the list that comes -/
theorem lc_tupY {K : PySem.W.Frag} {a : Addr} {xs ys : List V} {g : TG} {tt : TT} {te : TE} {vs : List Nat} {σ : L2.St} {H1 : Hp} {Qd : Addr → Hp → Prop} (hl : SqT K H1 a xs) (hlen : ys.length = xs.length) (hn : xs.length ≤ 100000)
    (hs : ∀ (i : Nat) x y H, xs[i]? = some x → ys[i]? = some y → Same H1 H → ∀ (R : V → Hp → Prop) (N : Hp → Prop), (∀ H', Same H H' → R y H') →
      g x (wipe σ vs) H fun σ2 H2 => wipe σ2 vs = wipe σ vs ∧ tt σ2 H2 fun b H3 => if b = true then te σ2 H3 R else N H3)
    (hd : ∀ D H', Same H1 H' → H' D = some (.lst ys) → H1 D = none → Qd D H') :
    ∀ D, H1 D = none → ∃ W : Nat → Nat → Hp → Prop, (∃ m, W 0 m (upd H1 D (.lst []))) ∧ ∀ i m H, W i m H →
      ((Itt K a).stop i H ∧ Qd D H) ∨ ((Itt K a).go i H ∧ ∃ Nx : Hp → Prop, (∀ H', Nx H' → ∃ m', m' < m ∧ W (i + 1) m' H') ∧ ∀ x H', (Itt K a).yld i H x H' → g x (wipe σ vs) H' fun σ2 H2 => wipe σ2 vs = wipe σ vs ∧ tt σ2 H2 fun b H3 =>
        if b = true then te σ2 H3 fun y H4 => ∃ acc, H4 D = some (.lst acc) ∧ acc.length < sizeLine ∧ Nx (upd H4 D (.lst (acc ++ [y]))) else Nx H3) := fun D nD =>
  lc_tup (K := K) (a := a) (xs := xs) (fun i H => Same H1 H ∧ H D = some (.lst (ys.take i))) ⟨same_new nD, upd_same⟩ (fun i H _ ⟨sm, _⟩ => sT sm hl) (fun i x H hx ⟨sm, hD⟩ => by
    have hi := (List.getElem?_eq_some_iff.mp hx).1
    have hy : ys[i]? = some ys[i] := List.getElem?_eq_getElem (by omega)
    refine hs i x ys[i] H hx hy sm _ _ (fun H' s => ?_)
    refine ⟨_, s _ _ hD, szlt ?_, fun b o hb => ?_, ?_⟩
    · rw [List.length_take]
      omega
    · rw [upd_ne (ne_of_none hb nD)]
      exact s _ _ (sm _ _ hb)
    · rw [upd_same, List.take_add_one, hy]
      rfl) fun H ⟨sm, hD⟩ => hd D H sm (by rw [hD, ← hlen, List.take_length]) nD
theorem lc_listY {K : PySem.W.Frag} {a : Addr} {xs ys : List V} {g : TG} {tt : TT} {te : TE} {vs : List Nat} {σ : L2.St} {H1 : Hp} {Qd : Addr → Hp → Prop} (hl : SqL K H1 a xs) (hlen : ys.length = xs.length) (hn : xs.length ≤ 100000)
    (hs : ∀ (i : Nat) x y H, xs[i]? = some x → ys[i]? = some y → Same H1 H → ∀ (R : V → Hp → Prop) (N : Hp → Prop), (∀ H', Same H H' → R y H') →
      g x (wipe σ vs) H fun σ2 H2 => wipe σ2 vs = wipe σ vs ∧ tt σ2 H2 fun b H3 => if b = true then te σ2 H3 R else N H3)
    (hd : ∀ D H', Same H1 H' → H' D = some (.lst ys) → H1 D = none → Qd D H') :
    ∀ D, H1 D = none → ∃ W : Nat → Nat → Hp → Prop, (∃ m, W 0 m (upd H1 D (.lst []))) ∧ ∀ i m H, W i m H →
      ((Itl K a).stop i H ∧ Qd D H) ∨ ((Itl K a).go i H ∧ ∃ Nx : Hp → Prop, (∀ H', Nx H' → ∃ m', m' < m ∧ W (i + 1) m' H') ∧ ∀ x H', (Itl K a).yld i H x H' → g x (wipe σ vs) H' fun σ2 H2 => wipe σ2 vs = wipe σ vs ∧ tt σ2 H2 fun b H3 =>
        if b = true then te σ2 H3 fun y H4 => ∃ acc, H4 D = some (.lst acc) ∧ acc.length < sizeLine ∧ Nx (upd H4 D (.lst (acc ++ [y]))) else Nx H3) := fun D nD =>
  lc_list (K := K) (a := a) (xs := xs) (fun i H => Same H1 H ∧ H D = some (.lst (ys.take i))) ⟨same_new nD, upd_same⟩ (fun i H _ ⟨sm, _⟩ => sm.seq hl) (fun i x H hx ⟨sm, hD⟩ => by
    have hi := (List.getElem?_eq_some_iff.mp hx).1
    have hy : ys[i]? = some ys[i] := List.getElem?_eq_getElem (by omega)
    refine hs i x ys[i] H hx hy sm _ _ (fun H' s => ?_)
    refine ⟨_, s _ _ hD, szlt ?_, fun b o hb => ?_, ?_⟩
    · rw [List.length_take]
      omega
    · rw [upd_ne (ne_of_none hb nD)]
      exact s _ _ (sm _ _ hb)
    · rw [upd_same, List.take_add_one, hy]
      rfl) fun H ⟨sm, hD⟩ => hd D H sm (by rw [hD, ← hlen, List.take_length]) nD
end TB
namespace TB
open PySem PySem.Spec PyProof.Rows L2
/-! ### enumerate(t), t a tuple -/
abbrev enumO (i : Nat) : Obj := { cls := .type "enumerate", data := .fields #[.none, .bool false, .ref i, rawInt 0, .none, .none] }
set_option maxHeartbeats 1000000 in
theorem enum_new {v : Value} {o : Obj} {G : Heap → Prop} (B : Begins v o G) : Meets (Builtin.«enumerate.__new__» ⟨[.type "enumerate", v], []⟩)
    (fun _ R z => G z.heap ∧ R (.ok (.ret (.ref (z.heap.push o).objs.size))) { z with heap := (z.heap.push o).push (enumO z.heap.objs.size) }) := .of_wp fun prog w A R z hz => by
  obtain ⟨hp, g, d, tk, os⟩ := z
  obtain ⟨h1, h⟩ := hz
  have hsub := sub_enumerate
  have it : ∀ {A' : Around} {E : Value → Shared → Prop} {Q : Value → Shared → Prop}, Q (.ref hp.objs.size) ⟨hp.push o, g, d, tk, os⟩ → wpAny (model prog w) A' (pyIter v) Q E ⟨hp, g, d, tk, os⟩ := fun q => B.iter prog w _ _ _ _ h1 q
  wp_walk using it
  refine wpAny_stack_any (fun st => wpAny_pure ?_)
  split
  · rename_i c _ _ _ _ _
    cases (c == Value.type "enumerate") <;> (wp_walk using it; exact ⟨_, rfl, h⟩)
  · wp_walk using it
    exact ⟨_, rfl, h⟩
theorem enum_call {prog : Program} {w : World} {A : Around} {E : Value → Shared → Prop} {s : Shared} {v : Value} {o : Obj} {G : Heap → Prop} {Q : Value → Shared → Prop} (B : Begins v o G) (h1 : G s.heap)
    (h : ∀ h', IsEnum h' (s.heap.objs.size + 1) s.heap.objs.size 0 .none → h'.get? s.heap.objs.size = some o → (∀ b u, s.heap.get? b = some u → h'.get? b = some u) → Q (.ref (s.heap.objs.size + 1)) { s with heap := h' }) :
    wpAny (model prog w) A (call (.type "enumerate") [v]) Q E s := by
  refine callType_new F.called_enumerate (by decide) (F.typeCall_enumerate_1 _) (F.newCall_enumerate_1 _) (fun obj => F.args_object_init_2 obj _) F.entry_enumerate_new (enum_new B) ⟨h1, ?_⟩
  have hz : (s.heap.push o).objs.size = s.heap.objs.size + 1 := Heap.size_push ..
  show _ ∧ _
  rw [hz]
  have he := Heap.get?_push_size (s.heap.push o) (o := enumO s.heap.objs.size) rfl
  rw [hz] at he
  exact ⟨⟨_, he, rfl⟩, h _ he (Heap.get?_push_of_some _ (Heap.get?_push_size _ B.free)) fun b u x => Heap.get?_push_of_some _ (Heap.get?_push_of_some _ x)⟩
/-- the tuple at a, of n items, each in a new pair -/
def IteT (K : PySem.W.Frag) (a : Addr) (n : Nat) : It :=
  ⟨fun i H => ∃ (xs : List V) (x : V), SqT K H a xs ∧ xs[i]? = some x ∧ xs.length = n,
    fun i H v H' => ∃ T x, v = .ref T ∧ H T = none ∧ H' = upd H T (.tup [.int (i : Nat), x]) ∧ ∀ xs, SqT K H a xs → xs[i]? = some x,
    fun i H => ∃ xs : List V, SqT K H a xs ∧ xs.length = n ∧ n ≤ i⟩
theorem enum_apart {h : Heap} {a e it : Addr} {i : Nat} {c : Int} {old : Value} {items : Array Value} (he : IsEnum h e it c old) (hi : h.IsTupleIter it a i) (p : IsTup h a items) : a ≠ it ∧ e ∉ [it, a] ∨ e = it := by
  obtain ⟨o1, g1, c1, _⟩ := hi
  obtain ⟨o2, g2, c2, _⟩ := p
  have n1 : a ≠ it := fun z => by
    rw [z, g1] at g2
    cases g2
    rw [c1] at c2
    exact absurd (Value.type.inj c2) (by decide)
  have n2 : e ≠ a := fun z => by
    have g3 : h.get? e = some _ := he
    rw [z, g2] at g3
    cases g3
    exact absurd (Value.type.inj c2) (by decide)
  by_cases q : e = it
  · exact .inr q
  · refine .inl ⟨n1, fun hm => ?_⟩
    rcases List.mem_cons.mp hm with z | hm
    · exact q z
    · exact n2 (List.mem_singleton.mp hm)
theorem turn_enumT {P : Program} {w : World} {K : PySem.W.Frag} {elts : List Expr} {kk : Nat} {tpos : Pos} (a e it : Addr) (n : Nat) :
    Turn P w K (.Tuple elts kk tpos) (IteT K a n) [e, it] e (fun i h => (∃ old, IsEnum h e it (i : Int) old) ∧ h.IsTupleIter it a i ∧ e ≠ it ∧ i ≤ n) where
  mem := List.mem_cons_self ..
  obj := fun i h st b hb => by
    obtain ⟨⟨old, he⟩, ⟨o, ho, hc, hd⟩, _⟩ := st
    rcases List.mem_cons.mp hb with z | hb
    · rw [z]
      exact ⟨_, he, fun v q => nomatch q⟩
    · rw [List.mem_singleton.mp hb]
      refine ⟨o, ho, fun v q => ?_⟩
      rw [hd] at q
      cases q
  keep := fun i h h' st k => let ⟨⟨old, he⟩, hi, hne, hn⟩ := st; ⟨⟨old, k e (by simp) _ he⟩, hi.at fun o q => k it (by simp) o q, hne, hn⟩
  item := by
    intro X hP hw hK hc i pins s σ H E I hf st hg
    subst hP hw hK
    obtain ⟨⟨old, he⟩, hit, hne, hn⟩ := st
    obtain ⟨xs, x, hq, hx, hl⟩ := hg
    obtain ⟨its, rv, p, hz⟩ := I.tuple hq
    obtain ⟨u, hu, ru⟩ := rv.get hx
    obtain ⟨nai, nef⟩ := (enum_apart he hit p).resolve_right hne
    have hel : e < s.heap.objs.size := Heap.lt_size he
    have hil : it < s.heap.objs.size := by
      obtain ⟨_, q, _⟩ := hit
      exact Heap.lt_size q
    have hin : i < n := by
      have := (List.getElem?_eq_some_iff.mp hx).1
      omega
    have len := rv.length
    refine wpAny_pyNext_enum_itemC (Draws.tuple (prog := X.prog) (w := X.w) (A := X.A.in1) (I.ok.hd hc) it a nai its.toArray) he ⟨hit, p⟩ (by simp; omega) hne nef fun x' h' tk hP ho hst hT hsz hk => ?_
    have ex : x' = u := by
      have h1 : its.toArray[i]? = some x' := hP
      rw [List.getElem?_toArray, hu] at h1
      exact (Option.some.inj h1).symm
    subst ex
    refine ⟨_, rfl, wpAny_letOwnedTupleGo_enum (s := { s with heap := h', toks := tk + 1 }) ho fun h'' he' sb => ?_⟩
    have hT2 := (sb.2 _ (Nat.ne_of_gt hel)).trans hT
    have new : ObjOk X.prog X.w (upd H s.heap.objs.size (.tup [.int (i : Nat), x])) h'' s.heap.objs.size (.tup [.int (i : Nat), x]) :=
      ⟨by show 2 ≤ sizeLine; decide, _, .cons ⟨tk, rfl⟩ (.cons ru .nil), ⟨_, hT2, rfl, _, rfl⟩⟩
    have I1 := I.turnedNew (t' := tk + 1) (ch := [e, it]) (fun b ob hb q => (sb.2 b (fun z => hb (by simp [z]))).trans (hk b ob (fun z => hb (by simp [z])) (fun z => hb (by simp [z])) q)) hf (Nat.le_refl _) new
    refine ⟨.ref s.heap.objs.size, _, I1, rfl, ⟨_, x, rfl, I.hok.fresh (Nat.le_refl _), rfl, fun ys hy => by rw [I.tuple_inj hy hq]; exact hx⟩, ⟨⟨x', ?_⟩, hst.1.at fun o q => (sb.2 it (Ne.symm hne)).trans q, hne, hin⟩, fun b hb => ?_⟩
    · have e1 : ((i + 1 : Nat) : Int) = (i : Int) + 1 := by omega
      rw [e1]
      exact he'
    · have hb' : b < s.heap.objs.size := by
        rcases List.mem_cons.mp hb with z | hb
        · rw [z]
          exact hel
        · rw [List.mem_singleton.mp hb]
          exact hil
      rw [upd_ne (Nat.ne_of_lt hb')]
      exact (hf b hb).1
  done := by
    intro X hP hw hK hc i pins s σ H E I hf st hg
    subst hP hw hK
    obtain ⟨⟨old, he⟩, hit, hne, hn⟩ := st
    obtain ⟨xs, hq, hl, hi⟩ := hg
    obtain ⟨its, rv, p, hz⟩ := I.tuple hq
    obtain ⟨nai, nef⟩ := (enum_apart he hit p).resolve_right hne
    obtain ⟨f0, f1, f2, f3, f4, f5⟩ := hf it (by simp)
    have len := rv.length
    have ei : i = its.toArray.size := by simp; omega
    rw [ei] at hit
    exact wpAny_pyNext_enum_endD (Draws.tuple (prog := X.prog) (w := X.w) (A := X.A.in1) (I.ok.hd hc) it a nai its.toArray) he ⟨hit, p⟩ fun h' eb => ⟨rfl, I.turned (t' := s.toks) (fun b o hb q => eb b o hb q) f0 f1 f3 f4 f5⟩
  self := fun A i s Q E st h => let ⟨⟨_, he⟩, _⟩ := st; wpAny_pyIter_enum he h
def iEnumT (K : PySem.W.Frag) (ta : TA) : TI := fun σ H R => ta σ H fun vs H1 => ∃ a xs, vs = [.ref a] ∧ SqT K H1 a xs ∧ R (IteT K a xs.length) H1
theorem pi_enumT {X : Cx} {e : Expr} {ta : TA} {p pos tpos : Pos} {elts : List Expr} {kk : Nat} (hg : Gl X "enumerate") (hm : X.mg "enumerate" = none) (ha : PA X [e] ta) (hs : starEach [e] X.env = [(false, eval e X.env)] := by rfl) :
    PI X (.Tuple elts kk tpos) (.Call (.Name "enumerate" p) [e] [] pos) (iEnumT X.K ta) := by
  refine ⟨fun pins s σ H R I h => Call_ (ld_blt I hg hm boot_enumerate (PyProof.Rows.callWith_type1 (thn (ha.run pos pins s σ H _ I h) fun us s1 ⟨vs, H1, I1, r1, q1⟩ => ?_) hs rfl))⟩
  obtain ⟨a, xs, ex, hq, q⟩ := q1
  subst ex
  obtain ⟨u1, e1, r⟩ := vals1 r1
  subst e1
  cases r
  obtain ⟨its, rv, p', hz⟩ := I1.tuple hq
  refine enum_call (begins_tuple a its.toArray) p' fun h' he hit hk => wpAny_pyIter_enum he ?_
  have I2 : Inv X pins σ H1 { s1 with heap := h' } := I1.kept (t' := s1.toks) hk
  refine ⟨s1.heap.objs.size + 1, [s1.heap.objs.size + 1, s1.heap.objs.size], _, _, H1, rfl, I2, turn_enumT a (s1.heap.objs.size + 1) s1.heap.objs.size xs.length, ⟨⟨.none, he⟩, ⟨_, hit, rfl, rfl⟩, Nat.succ_ne_self _, Nat.zero_le _⟩, fun b hb => ?_, q⟩
  have hle : s1.heap.objs.size ≤ b := by
    rcases List.mem_cons.mp hb with z | hb
    · rw [z]
      exact Nat.le_add_right _ _
    · rw [List.mem_singleton.mp hb]
      exact Nat.le_refl _
  exact I1.fpOk hle (I1.hok.fresh hle)
/-- for i, x in enumerate(t) -/
theorem for_enumT {K : PySem.W.Frag} {a : Addr} {xs : List V} {g : TG} {tb : TS} {D : Ends} {σ : L2.St} {H : Hp} (Pv : Nat → L2.St → Hp → Prop) (h0 : Pv 0 σ H) (hq : ∀ i σ H, Pv i σ H → SqT K H a xs)
    (hs : ∀ (i : Nat) (x : V) (T : Addr) (σ : L2.St) (H : Hp), xs[i]? = some x → Pv i σ H → H T = none → g (.ref T) σ (upd H T (.tup [.int (i : Int), x])) fun σ2 H2 => tb { D with nx := Pv (i + 1), ct := Pv (i + 1), bk := D.nx } σ2 H2) (hd : ∀ σ H, Pv xs.length σ H → D.nx σ H) :
    ∃ W : Nat → Nat → L2.St → Hp → Prop, (∃ m, W 0 m σ H) ∧ ∀ i m σ H, W i m σ H → ((IteT K a xs.length).stop i H ∧ D.nx σ H) ∨ ((IteT K a xs.length).go i H ∧ ∃ N : L2.St → Hp → Prop, (∀ σ' H', N σ' H' → ∃ m', m' < m ∧ W (i + 1) m' σ' H') ∧ ∀ v H', (IteT K a xs.length).yld i H v H' → g v σ H' fun σ2 H2 => tb { D with nx := N, ct := N, bk := D.nx } σ2 H2) := by
  refine ⟨fun i m σ H => m = xs.length - i ∧ i ≤ xs.length ∧ Pv i σ H, ⟨xs.length, rfl, Nat.zero_le _, h0⟩, ?_⟩
  rintro i m σ H ⟨rfl, hi, p⟩
  have qx := hq i σ H p
  by_cases hlt : i < xs.length
  · refine .inr ⟨⟨xs, xs[i], qx, List.getElem?_eq_getElem hlt, rfl⟩, Pv (i + 1), fun σ' H' p' => ⟨xs.length - (i + 1), by omega, rfl, hlt, p'⟩, fun v H' y => ?_⟩
    obtain ⟨T, x, rfl, nT, rfl, f⟩ := y
    exact hs i x T σ H (f xs qx) p nT
  · have e : i = xs.length := by omega
    subst e
    exact .inl ⟨⟨xs, qx, rfl, Nat.le_refl _⟩, hd σ H p⟩
/-- [.. for i, x in enumerate(t)], pure elements -/
theorem lc_enumTF {K : PySem.W.Frag} {a : Addr} {xs : List V} {g : TG} {tt : TT} {te : TE} {vs : List Nat} {σ : L2.St} {H1 : Hp} {Qd : Addr → Hp → Prop} (hl : SqT K H1 a xs) (f : Nat → V → Option V) (hn : xs.length ≤ 100000)
    (hs : ∀ (i : Nat) x T H, xs[i]? = some x → Same H1 H → H T = some (.tup [.int (i : Int), x]) → ∀ (R : V → Hp → Prop) (N : Hp → Prop), (∀ v H', f i x = some v → Same H H' → R v H') → (∀ H', f i x = none → Same H H' → N H') →
      g (.ref T) (wipe σ vs) H fun σ2 H2 => wipe σ2 vs = wipe σ vs ∧ tt σ2 H2 fun b H3 => if b = true then te σ2 H3 R else N H3)
    (hd : ∀ D H', Same H1 H' → H' D = some (.lst (xs.zipIdx.filterMap fun p => f p.2 p.1)) → H1 D = none → Qd D H') :
    ∀ D, H1 D = none → ∃ W : Nat → Nat → Hp → Prop, (∃ m, W 0 m (upd H1 D (.lst []))) ∧ ∀ i m H, W i m H →
      ((IteT K a xs.length).stop i H ∧ Qd D H) ∨ ((IteT K a xs.length).go i H ∧ ∃ Nx : Hp → Prop, (∀ H', Nx H' → ∃ m', m' < m ∧ W (i + 1) m' H') ∧ ∀ x H', (IteT K a xs.length).yld i H x H' → g x (wipe σ vs) H' fun σ2 H2 => wipe σ2 vs = wipe σ vs ∧ tt σ2 H2 fun b H3 =>
        if b = true then te σ2 H3 fun y H4 => ∃ acc, H4 D = some (.lst acc) ∧ acc.length < sizeLine ∧ Nx (upd H4 D (.lst (acc ++ [y]))) else Nx H3) := by
  intro D nD
  refine ⟨fun i m H => m = xs.length - i ∧ i ≤ xs.length ∧ Same H1 H ∧ H D = some (.lst ((xs.zipIdx.take i).filterMap fun p => f p.2 p.1)), ⟨xs.length, rfl, Nat.zero_le _, same_new nD, upd_same⟩, ?_⟩
  rintro i m H ⟨rfl, hi, sm, hD⟩
  have qx := sT sm hl
  by_cases hlt : i < xs.length
  · refine .inr ⟨⟨xs, xs[i], qx, List.getElem?_eq_getElem hlt, rfl⟩, fun H => i + 1 ≤ xs.length ∧ Same H1 H ∧ H D = some (.lst ((xs.zipIdx.take (i + 1)).filterMap fun p => f p.2 p.1)), fun H' p' => ⟨xs.length - (i + 1), by omega, rfl, p'.1, p'.2.1, p'.2.2⟩, fun v H' y => ?_⟩
    obtain ⟨T, x, rfl, nT, rfl, fx⟩ := y
    have hx := fx xs qx
    have hz : xs.zipIdx[i]? = some (x, i) := by
      rw [List.getElem?_zipIdx, hx]
      simp
    have sT' : Same H (upd H T (.tup [.int (i : Int), x])) := same_new nT
    refine hs i x T _ hx (sm.trans sT') upd_same _ _ (fun v H' e s => ?_) (fun H' e s => ?_)
    · refine ⟨_, s _ _ (sT' _ _ hD), szlt ?_, hlt, fun b o hb => ?_, ?_⟩
      · have := List.length_filterMap_le (fun p : V × Nat => f p.2 p.1) (xs.zipIdx.take i)
        rw [List.length_take, List.length_zipIdx] at this
        omega
      · rw [upd_ne (ne_of_none hb nD)]
        exact s _ _ (sT' _ _ (sm _ _ hb))
      · rw [upd_same, take_snoc _ hz]
        show some (HO.lst (_ ++ [v])) = some (HO.lst (_ ++ (f i x).toList))
        rw [e]
        rfl
    · refine ⟨hlt, sm.trans (sT'.trans s), ?_⟩
      rw [take_snoc _ hz]
      show H' D = some (HO.lst (_ ++ (f i x).toList))
      rw [e, s _ _ (sT' _ _ hD), Option.toList, List.append_nil]
  · have e : i = xs.length := by omega
    subst e
    refine .inl ⟨⟨xs, qx, rfl, Nat.le_refl _⟩, hd D H sm ?_ nD⟩
    rw [hD, ← List.length_zipIdx (l := xs), List.take_length]
end TB
namespace TB
open PySem PySem.Spec PyProof.Rows L2
/-! ### values of any kind: the kind of a value -/
def kinds : List String := ["NoneType", "bool", "int", "str", "list", "tuple", "dict"]
def Knd (K : PySem.W.Frag) (H : Hp) (v : V) (T : String) : Prop := TyX K H v (.type T) ∧ T ∈ kinds
def isK (T c : String) : Bool := T == c || (T == "bool" && c == "int")
theorem kitB_all : (kinds.all fun T => ["int", "bool", "str", "list", "tuple", "dict"].all fun c => kitB T c == some (isK T c)) = true := by decide +kernel
theorem kit_all {K : PySem.W.Frag} {T c : String} (h : T ∈ kinds) (hc : c ∈ ["int", "bool", "str", "list", "tuple", "dict"]) : PySem.W.kitOne K (.type T) (.type c) = some (isK T c) :=
  kit_ty (beq_iff_eq.mp (List.all_eq_true.mp (List.all_eq_true.mp kitB_all T h) c hc))
section
variable {K : PySem.W.Frag} {H H' : Hp} {a : Addr} {v : V} {T : String}
theorem Knd.n : Knd K H .non "NoneType" := ⟨.base .non, by decide⟩
theorem Knd.b (b : Bool) : Knd K H (.bl b) "bool" := ⟨.base (.bl b), by decide⟩
theorem Knd.i (i : Int) : Knd K H (.int i) "int" := ⟨.base (.int i), by decide⟩
theorem Knd.s (x : Str) : Knd K H (.str x) "str" := ⟨.base (.str x), by decide⟩
theorem Knd.l {xs : List V} (h : SqL K H a xs) : Knd K H (.ref a) "list" := by
  refine ⟨?_, by decide⟩
  rcases h with (h | ⟨o, h⟩) | ⟨o, its, n, h1, h2, _⟩
  · exact .base (.lst h)
  · exact .base (.frz h)
  · exact .kList h1 h2
theorem Knd.t {xs : List V} (h : SqT K H a xs) : Knd K H (.ref a) "tuple" := by
  refine ⟨?_, by decide⟩
  rcases h with (h | ⟨o, h⟩) | ⟨o, its, n, h1, h2, _⟩
  · exact .base (.tup h)
  · exact .fTuple h
  · exact .kTuple h1 h2
theorem Knd.d {kvs : List (Key × V)} (h : H a = some (.dK kvs)) : Knd K H (.ref a) "dict" := ⟨.base (.dK h), by decide⟩
/-- what is of the kind int is an int -/
def isIntV : V → Bool
  | .int _ => true
  | _ => false
theorem Knd.int_iff (h : Knd K H v T) : (T == "int") = isIntV v := by
  obtain ⟨h, m⟩ := h
  generalize e : Value.type T = t at h
  cases h with
  | base h =>
    cases h <;> first
      | (cases e; rfl)
      | (injection e with e; subst e; rfl)
      | exact nomatch e
  | byt b => injection e with e; subst e; rfl
  | set h => injection e with e; subst e; rfl
  | kList h1 h2 => injection e with e; subst e; rfl
  | kTuple h1 h2 => injection e with e; subst e; rfl
  | kDict h1 h2 => injection e with e; subst e; rfl
  | fTuple h => injection e with e; subst e; rfl
  | fDict h => injection e with e; subst e; rfl
theorem Knd.same (s : Same H H') (h : Knd K H v T) : Knd K H' v T := by
  obtain ⟨h, m⟩ := h
  refine ⟨?_, m⟩
  cases h with
  | base h =>
    refine .base ?_
    cases h with
    | non => exact .non
    | bl b => exact .bl b
    | int i => exact .int i
    | str x => exact .str x
    | flt x => exact .flt x
    | lst h => exact .lst (s _ _ h)
    | frz h => exact .frz (s _ _ h)
    | tup h => exact .tup (s _ _ h)
    | dK h => exact .dK (s _ _ h)
    | dT h => exact .dT (s _ _ h)
  | byt b => exact .byt b
  | set h => exact .set (s _ _ h)
  | kList h1 h2 => exact .kList h1 h2
  | kTuple h1 h2 => exact .kTuple h1 h2
  | kDict h1 h2 => exact .kDict h1 h2
  | fTuple h => exact .fTuple (s _ _ h)
  | fDict h => exact .fDict (s _ _ h)
end
/-- isinstance(v, c), c one of the built-in kinds -/
theorem call_isiK {X : Cx} : CallR X (.builtin "isinstance") (fun xs H Q => ∃ v T c, xs = [v, .ty c] ∧ Knd X.K H v T ∧ c ∈ ["int", "bool", "str", "list", "tuple", "dict"] ∧ Q (.bl (isK T c)) H) :=
  CallR_imp call_isi fun xs H Q ⟨v, T, c, e, k, hc, q⟩ => ⟨v, .ty c, .type T, .type c, isK T c, e, .ty c, k.1, kit_all k.2 hc, q⟩
/-- a whole number from lo to hi -/
def withinV (v : V) (lo hi : Int) : Bool := match v with
  | .int i => decide (lo ≤ i) && decide (i ≤ hi)
  | _ => false
theorem call_reprB {X : Cx} : CallR X (.builtin "repr") (fun xs H Q => ∃ b : Bool, xs = [.bl b] ∧ Q (.str (if b then "True" else "False")) H) := by
  intro pins s σ H xs us Q I r h
  obtain ⟨b, rfl, q⟩ := h
  obtain ⟨u, rfl, rx⟩ := vals1 r
  cases (show u = Value.bool b from rx)
  exact PySem.P.repr_of_bool ⟨.str (if b then "True" else "False"), H, I.tok _, ⟨_, rfl⟩, q⟩
/-! ### data that can be compared -/
structure OkD (n : Nat) (d : PyData) : Prop where
  c : d.canLay0 = true
  d : d.depth ≤ n
theorem OkD.int {n : Nat} (i : Int) : OkD n (.int i) := ⟨rfl, Nat.zero_le _⟩
theorem OkD.bool {n : Nat} (i : Bool) : OkD n (.bool i) := ⟨rfl, Nat.zero_le _⟩
theorem OkD.none {n : Nat} : OkD n .none := ⟨rfl, Nat.zero_le _⟩
theorem OkD.all {n : Nat} : ∀ {ds : List PyData}, (∀ x ∈ ds, OkD n x) → PyData.canLayAll0 ds = true ∧ PyData.depthAll ds ≤ n
  | [], _ => ⟨rfl, Nat.zero_le _⟩
  | x :: r, h => by
    have h1 := h x (List.mem_cons_self ..)
    obtain ⟨a, b⟩ := OkD.all (ds := r) fun y hy => h y (List.mem_cons_of_mem _ hy)
    refine ⟨?_, ?_⟩
    · show (PyData.canLay0 x && PyData.canLayAll0 r) = true
      rw [h1.c, a]
      rfl
    · show max (PyData.depth x) (PyData.depthAll r) ≤ n
      have := h1.d
      omega
theorem OkD.tup {n : Nat} {ds : List PyData} (h : ∀ x ∈ ds, OkD n x) : OkD (n + 1) (.tuple ds) := ⟨(OkD.all h).1, Nat.succ_le_succ (OkD.all h).2⟩
theorem OkD.list {n : Nat} {ds : List PyData} (h : ∀ x ∈ ds, OkD n x) : OkD (n + 1) (.list ds) := ⟨(OkD.all h).1, Nat.succ_le_succ (OkD.all h).2⟩
theorem OkD.sh {n : Nat} {d : PyData} (h : OkD n d) (hn : n ≤ 64 := by decide) : SeqAt.shaped d = true := by
  unfold SeqAt.shaped
  have := h.d
  rw [h.c, decide_eq_true (by omega)]
  rfl
theorem OkD.pair (x y : Int) : OkD 1 (.tuple [.int x, .int y]) := .tup fun z hz => by
  simp only [List.mem_cons, List.not_mem_nil, or_false] at hz
  rcases hz with rfl | rfl
  · exact .int _
  · exact .int _
/-! ### t * k for any k up to 1000 -/
theorem tuple_mul1 (l : Addr) (items : Array Value) (n : Nat) (dd : Option Addr) (sl : Array (Option Value)) (u : Tok) :
    Meets (Builtin.«tuple.__mul__» ⟨[.ref l, .int 1 u], []⟩) (fun _ R z => z.heap.get? l = some { cls := .type "tuple", dict := dd, data := .seq items n, slots := sl } ∧ R (.ok (.ret (.ref l))) z) :=
  .of_wp fun prog w A R z hz => by
    obtain ⟨hp, g, d, tk, os⟩ := z
    obtain ⟨hl, h⟩ := hz
    have f1 := AutoSeq1.idx_int
    wp_walk using wpAny_loadPart' hl
    exact ⟨_, rfl, h⟩
theorem tuple_mul0 (l : Addr) (items : Array Value) (n : Nat) (dd : Option Addr) (sl : Array (Option Value)) (u : Tok) (hi : items.isEmpty = false) :
    Meets (Builtin.«tuple.__mul__» ⟨[.ref l, .int 0 u], []⟩) (fun _ R z => z.heap.get? l = some { cls := .type "tuple", dict := dd, data := .seq items n, slots := sl } ∧
      R (.ok (.ret (.ref z.heap.objs.size))) { z with heap := z.heap.push { cls := .type "tuple", data := .seq #[] } }) :=
  .of_wp fun prog w A R z hz => by
    obtain ⟨hp, g, d, tk, os⟩ := z
    obtain ⟨hl, h⟩ := hz
    have f1 := AutoSeq1.idx_int
    wp_walk using wpAny_loadPart' hl
    exact ⟨_, rfl, h⟩
theorem op_repU {X : Cx} : OpR X (binaryOp .Mult) (fun x y H Q => ∃ l k xs, x = .ref l ∧ y = .int k ∧ SqT X.K H l xs ∧ xs ≠ [] ∧ 0 ≤ k ∧ k ≤ 1000 ∧ xs.length ≤ 1000 ∧ NewT X.K (List.replicate k.toNat xs).flatten H Q) := by
  intro pins s σ H x y v u Q I rx ry h
  obtain ⟨l, k, xs, e1, e2, hT, hne, h1, h2, hz, q⟩ := h
  by_cases hk : 2 ≤ k
  · exact op_repT pins s σ H x y v u Q I rx ry ⟨l, k, xs, e1, e2, hT, hne, hk, h2, hz, newT q⟩
  subst e1 e2
  cases rx
  obtain ⟨t, rfl⟩ := ry
  obtain ⟨its, r, ⟨⟨cls, dd, data, sl⟩, ho, hc, n, hd⟩, hs⟩ := I.tuple hT
  simp only at hc hd
  subst hc hd
  have hle : its.length = xs.length := r.length.symm
  have hi : its.toArray.isEmpty = false := by
    cases its with
    | nil => exact absurd (List.eq_nil_of_length_eq_zero hle.symm) hne
    | cons a b => rfl
  by_cases h0 : k = 0
  · subst h0
    refine wpAny_binaryOp_repeat_ref (T := "tuple") (U := "int") (by decide) ⟨_, ho, rfl⟩ (fun s' => typeIs_int s' 0 t) noFill_tuple_mul F.fills_int_mul F.slot_int_rmul repeat_tuple F.slot_int_index.lookup
      (call_meets F.slot_int_rmul (typeIs_int s 0 t) F.entry_int_rmul (F.args_int_rmul_2 _ _) (int_rmul_tuple 0 t l its.toArray n dd sl)
        ⟨ho, rfl, ⟨_, ho, rfl⟩, call_meets F.slot_tuple_mul ⟨_, ho, rfl⟩ F.entry_tuple_mul (F.args_tuple_mul_2 _ _) (tuple_mul0 l its.toArray n dd sl t hi) ⟨ho, ?_⟩⟩)
    have new : ObjOk X.prog X.w (upd H s.heap.objs.size (.tup [])) (s.heap.push { cls := .type "tuple", data := .seq #[] }) s.heap.objs.size (.tup []) := ⟨Nat.zero_le _, [], .nil, IsTup.new _ _⟩
    exact ⟨.ref s.heap.objs.size, _, I.laid (t' := s.toks) (o := .tup []) (fun b ob z => Heap.get?_push_of_some _ z) (Nat.le_refl _) new, rfl, q _ _ (same_new (I.hok.fresh (Nat.le_refl _))) (SqT.of upd_same)⟩
  · have e : k = 1 := by omega
    subst e
    refine wpAny_binaryOp_repeat_ref (T := "tuple") (U := "int") (by decide) ⟨_, ho, rfl⟩ (fun s' => typeIs_int s' 1 t) noFill_tuple_mul F.fills_int_mul F.slot_int_rmul repeat_tuple F.slot_int_index.lookup
      (call_meets F.slot_int_rmul (typeIs_int s 1 t) F.entry_int_rmul (F.args_int_rmul_2 _ _) (int_rmul_tuple 1 t l its.toArray n dd sl)
        ⟨ho, rfl, ⟨_, ho, rfl⟩, call_meets F.slot_tuple_mul ⟨_, ho, rfl⟩ F.entry_tuple_mul (F.args_tuple_mul_2 _ _) (tuple_mul1 l its.toArray n dd sl t) ⟨ho, ?_⟩⟩)
    have e1 : (List.replicate (1 : Int).toNat xs).flatten = xs := by
      show (List.replicate 1 xs).flatten = xs
      simp
    exact ⟨.ref l, H, I.tok _, rfl, q l H (Same.refl H) (by rw [e1]; exact hT)⟩
end TB
namespace TB
open PySem PySem.Spec PyProof.Rows L2
/-! ### the same rules, the facts named apart: for use inside comprehensions -/
section
variable {X : Cx} {K : PySem.W.Frag}
theorem pe_tupAK (hK : X.K = K) {es : List Expr} {t : TA} {x1} {pos : Pos} (h : PA X es t) : PE X (.Tuple es x1 pos) (tTupA K t) := by
  subst hK
  exact pe_tupA h
theorem op_in_seqK (hK : X.K = K) : OpR X (compareOp .In) (rIn K false) := by
  subst hK
  exact op_in_seq
theorem op_notIn_seqK (hK : X.K = K) : OpR X (compareOp .NotIn) (rIn K true) := by
  subst hK
  exact op_notIn_seq
theorem sl_listAK (hK : X.K = K) : L2.SlR X (fun x lo hi H Q => ∃ a xs, x = .ref a ∧ SqL K H a xs ∧ NewL (cutV xs lo hi) H Q) := by
  subst hK
  exact sl_listA
theorem sl_tupleAK (hK : X.K = K) : L2.SlR X (fun x lo hi H Q => ∃ a xs, x = .ref a ∧ SqT K H a xs ∧ NewT K (cutV xs lo hi) H Q) := by
  subst hK
  exact sl_tupleA
theorem call_tupleAK (hK : X.K = K) : CallR X (.type "tuple") (fun xs H Q => ∃ p ys, xs = [.ref p] ∧ (SqL K H p ys ∨ SqT K H p ys) ∧ NewT K ys H Q) := by
  subst hK
  exact call_tupleA
theorem call_listAK (hK : X.K = K) : CallR X (.type "list") (fun xs H Q => ∃ p ys, xs = [.ref p] ∧ (SqL K H p ys ∨ SqT K H p ys) ∧ NewL ys H Q) := by
  subst hK
  exact call_listA
theorem call_len_seqK (hK : X.K = K) : CallR X (.builtin "len") (fun xs H Q => ∃ p ys, xs = [.ref p] ∧ (SqL K H p ys ∨ SqT K H p ys) ∧ Q (.int ys.length) H) := by
  subst hK
  exact call_len_seq
theorem call_isiKK (hK : X.K = K) : CallR X (.builtin "isinstance") (fun xs H Q => ∃ v T c, xs = [v, .ty c] ∧ Knd K H v T ∧ c ∈ ["int", "bool", "str", "list", "tuple", "dict"] ∧ Q (.bl (isK T c)) H) := by
  subst hK
  exact call_isiK
theorem op_catUK (hK : X.K = K) : OpR X (binaryOp .Add) (fun x y H Q => ∃ a b xs ys, x = .ref a ∧ y = .ref b ∧ SqT K H a xs ∧ SqT K H b ys ∧ xs.length + ys.length ≤ sizeLine ∧ NewT K (xs ++ ys) H Q) := by
  subst hK
  exact op_catU
theorem op_repUK (hK : X.K = K) : OpR X (binaryOp .Mult) (fun x y H Q => ∃ l k xs, x = .ref l ∧ y = .int k ∧ SqT K H l xs ∧ xs ≠ [] ∧ 0 ≤ k ∧ k ≤ 1000 ∧ xs.length ≤ 1000 ∧ NewT K (List.replicate k.toNat xs).flatten H Q) := by
  subst hK
  exact op_repU
end
end TB
namespace TB
open PySem PySem.Spec PyProof.Rows L2
def topS (i : Nat) : Stmt := PySem.Challenge.pw_truebeat_k00_whole_bits_and_signed_numbe.main.body.getD i (.Pass ⟨0, 0, 0, 0⟩)
abbrev s_is_integer : Stmt := topS 7
theorem sc_is_integer : FnScope ["value"] ["value"] (defScope s_is_integer) := ⟨rfl, rfl, rfl, by decide +kernel, rfl, by decide +kernel, by decide +kernel⟩
abbrev s_is_short : Stmt := topS 8
theorem sc_is_short : FnScope ["value"] ["value"] (defScope s_is_short) := ⟨rfl, rfl, rfl, by decide +kernel, rfl, by decide +kernel, by decide +kernel⟩
abbrev s_is_within : Stmt := topS 9
theorem sc_is_within : FnScope ["value", "least", "most"] ["value", "least", "most"] (defScope s_is_within) := ⟨rfl, rfl, rfl, by decide +kernel, rfl, by decide +kernel, by decide +kernel⟩
abbrev s_is_bit : Stmt := topS 10
theorem sc_is_bit : FnScope ["value"] ["value"] (defScope s_is_bit) := ⟨rfl, rfl, rfl, by decide +kernel, rfl, by decide +kernel, by decide +kernel⟩
abbrev s_are_bits : Stmt := topS 11
theorem sc_are_bits : FnScope ["value", "many", "bit"] ["value", "many"] (defScope s_are_bits) := ⟨rfl, rfl, rfl, by decide +kernel, rfl, by decide +kernel, by decide +kernel⟩
abbrev s_require_within : Stmt := topS 12
theorem sc_require_within : FnScope ["value", "least", "most"] ["value", "least", "most"] (defScope s_require_within) := ⟨rfl, rfl, rfl, by decide +kernel, rfl, by decide +kernel, by decide +kernel⟩
abbrev s_is_word_in : Stmt := topS 17
theorem sc_is_word_in : FnScope ["width", "value"] ["width", "value"] (defScope s_is_word_in) := ⟨rfl, rfl, rfl, by decide +kernel, rfl, by decide +kernel, by decide +kernel⟩
abbrev s_require_width : Stmt := topS 18
theorem sc_require_width : FnScope ["width"] ["width"] (defScope s_require_width) := ⟨rfl, rfl, rfl, by decide +kernel, rfl, by decide +kernel, by decide +kernel⟩
abbrev s_require_word : Stmt := topS 19
theorem sc_require_word : FnScope ["width", "word"] ["width", "word"] (defScope s_require_word) := ⟨rfl, rfl, rfl, by decide +kernel, rfl, by decide +kernel, by decide +kernel⟩
abbrev s_require_one_word : Stmt := topS 20
theorem sc_require_one_word : FnScope ["width", "word"] ["width", "word"] (defScope s_require_one_word) := ⟨rfl, rfl, rfl, by decide +kernel, rfl, by decide +kernel, by decide +kernel⟩
abbrev s_is_part : Stmt := topS 21
theorem sc_is_part : FnScope ["value"] ["value"] (defScope s_is_part) := ⟨rfl, rfl, rfl, by decide +kernel, rfl, by decide +kernel, by decide +kernel⟩
abbrev s_bits_in : Stmt := topS 22
theorem sc_bits_in : FnScope ["width", "word", "place"] ["width", "word"] (defScope s_bits_in) := ⟨rfl, rfl, rfl, by decide +kernel, rfl, by decide +kernel, by decide +kernel⟩
abbrev s_word_in : Stmt := topS 23
theorem sc_word_in : FnScope ["bits", "place", "bit"] ["bits"] (defScope s_word_in) := ⟨rfl, rfl, rfl, by decide +kernel, rfl, by decide +kernel, by decide +kernel⟩
abbrev s_signed_in : Stmt := topS 24
theorem sc_signed_in : FnScope ["width", "word"] ["width", "word"] (defScope s_signed_in) := ⟨rfl, rfl, rfl, by decide +kernel, rfl, by decide +kernel, by decide +kernel⟩
abbrev s_cut_in : Stmt := topS 25
theorem sc_cut_in : FnScope ["word", "low", "many"] ["word", "low", "many"] (defScope s_cut_in) := ⟨rfl, rfl, rfl, by decide +kernel, rfl, by decide +kernel, by decide +kernel⟩
abbrev s_put_together_in : Stmt := topS 26
theorem sc_put_together_in : FnScope ["parts", "width", "found", "many", "word"] ["parts"] (defScope s_put_together_in) := ⟨rfl, rfl, rfl, by decide +kernel, rfl, by decide +kernel, by decide +kernel⟩
abbrev s_lengthened_in : Stmt := topS 27
theorem sc_lengthened_in : FnScope ["width", "word", "wider"] ["width", "word", "wider"] (defScope s_lengthened_in) := ⟨rfl, rfl, rfl, by decide +kernel, rfl, by decide +kernel, by decide +kernel⟩
abbrev s_is_word : Stmt := topS 28
theorem sc_is_word : FnScope ["width", "value"] ["width", "value"] (defScope s_is_word) := ⟨rfl, rfl, rfl, by decide +kernel, rfl, by decide +kernel, by decide +kernel⟩
abbrev s_bits_of_word : Stmt := topS 29
theorem sc_bits_of_word : FnScope ["width", "word"] ["width", "word"] (defScope s_bits_of_word) := ⟨rfl, rfl, rfl, by decide +kernel, rfl, by decide +kernel, by decide +kernel⟩
abbrev s_word_of_bits : Stmt := topS 30
theorem sc_word_of_bits : FnScope ["bits"] ["bits"] (defScope s_word_of_bits) := ⟨rfl, rfl, rfl, by decide +kernel, rfl, by decide +kernel, by decide +kernel⟩
abbrev s_wrapped : Stmt := topS 31
theorem sc_wrapped : FnScope ["width", "number"] ["width", "number"] (defScope s_wrapped) := ⟨rfl, rfl, rfl, by decide +kernel, rfl, by decide +kernel, by decide +kernel⟩
abbrev s_signed : Stmt := topS 32
theorem sc_signed : FnScope ["width", "word"] ["width", "word"] (defScope s_signed) := ⟨rfl, rfl, rfl, by decide +kernel, rfl, by decide +kernel, by decide +kernel⟩
abbrev s_cut : Stmt := topS 33
theorem sc_cut : FnScope ["width", "word", "low", "many"] ["width", "word", "low", "many"] (defScope s_cut) := ⟨rfl, rfl, rfl, by decide +kernel, rfl, by decide +kernel, by decide +kernel⟩
abbrev s_put_together : Stmt := topS 34
theorem sc_put_together : FnScope ["parts", "many", "word", "part"] ["parts"] (defScope s_put_together) := ⟨rfl, rfl, rfl, by decide +kernel, rfl, by decide +kernel, by decide +kernel⟩
abbrev s_widened : Stmt := topS 35
theorem sc_widened : FnScope ["width", "word", "wider"] ["width", "word", "wider"] (defScope s_widened) := ⟨rfl, rfl, rfl, by decide +kernel, rfl, by decide +kernel, by decide +kernel⟩
abbrev s_lengthened : Stmt := topS 36
theorem sc_lengthened : FnScope ["width", "word", "wider"] ["width", "word", "wider"] (defScope s_lengthened) := ⟨rfl, rfl, rfl, by decide +kernel, rfl, by decide +kernel, by decide +kernel⟩
abbrev s__law_dice : Stmt := topS 38
theorem sc__law_dice : FnScope ["_law_script", "_law_at", "_law_cell", "_law_great", "_law_left", "_law_mixed"] ["_law_script", "_law_at"] (defScope s__law_dice) := ⟨rfl, rfl, rfl, by decide +kernel, rfl, by decide +kernel, by decide +kernel⟩
abbrev s__law_roll : Stmt := topS 39
theorem sc__law_roll : FnScope ["_law_dice_here", "_law_total", "_law_size", "_law_drawn", "_law_one", "_law_two"] ["_law_dice_here", "_law_total"] (defScope s__law_roll) := ⟨rfl, rfl, rfl, by decide +kernel, rfl, by decide +kernel, by decide +kernel⟩
abbrev s__law_one_of : Stmt := topS 40
theorem sc__law_one_of : FnScope ["_law_dice_here", "_law_items"] ["_law_dice_here", "_law_items"] (defScope s__law_one_of) := ⟨rfl, rfl, rfl, by decide +kernel, rfl, by decide +kernel, by decide +kernel⟩
abbrev s__law_two_to : Stmt := topS 41
theorem sc__law_two_to : FnScope ["_law_bits_here", "_law_found", "_law_turn"] ["_law_bits_here"] (defScope s__law_two_to) := ⟨rfl, rfl, rfl, by decide +kernel, rfl, by decide +kernel, by decide +kernel⟩
abbrev s__law_word_drawn : Stmt := topS 42
theorem sc__law_word_drawn : FnScope ["_law_dice_here", "_law_width", "_law_size"] ["_law_dice_here", "_law_width"] (defScope s__law_word_drawn) := ⟨rfl, rfl, rfl, by decide +kernel, rfl, by decide +kernel, by decide +kernel⟩
abbrev s__law_bits : Stmt := topS 43
theorem sc__law_bits : FnScope ["_law_width", "_law_word", "_law_found", "_law_left", "_law_place"] ["_law_width", "_law_word"] (defScope s__law_bits) := ⟨rfl, rfl, rfl, by decide +kernel, rfl, by decide +kernel, by decide +kernel⟩
abbrev s__law_of_bits : Stmt := topS 44
theorem sc__law_of_bits : FnScope ["_law_bits_here", "_law_found", "_law_bit"] ["_law_bits_here"] (defScope s__law_of_bits) := ⟨rfl, rfl, rfl, by decide +kernel, rfl, by decide +kernel, by decide +kernel⟩
abbrev s__law_width_drawn : Stmt := topS 45
theorem sc__law_width_drawn : FnScope ["_law_dice_here"] ["_law_dice_here"] (defScope s__law_width_drawn) := ⟨rfl, rfl, rfl, by decide +kernel, rfl, by decide +kernel, by decide +kernel⟩
abbrev s__law_parts_right : Stmt := topS 46
theorem sc__law_parts_right : FnScope ["_law_dice_here", "_law_width", "_law_word", "_law_low", "_law_parts", "_law_many", "_law_due"] ["_law_dice_here", "_law_width", "_law_word"] (defScope s__law_parts_right) := ⟨rfl, rfl, rfl, by decide +kernel, rfl, by decide +kernel, by decide +kernel⟩
abbrev s__law_wider_right : Stmt := topS 47
theorem sc__law_wider_right : FnScope ["_law_dice_here", "_law_width", "_law_word", "_law_number", "_law_wider", "_law_bits_here", "_law_longer"] ["_law_dice_here", "_law_width", "_law_word", "_law_number"] (defScope s__law_wider_right) := ⟨rfl, rfl, rfl, by decide +kernel, rfl, by decide +kernel, by decide +kernel⟩
abbrev s__law_right : Stmt := topS 48
theorem sc__law_right : FnScope ["_law_dice_here", "_law_width", "_law_word", "_law_size", "_law_bits_here", "_law_number", "_law_some", "_law_values", "_law_one", "_law_value", "_law_at"] ["_law_dice_here"] (defScope s__law_right) := ⟨rfl, rfl, rfl, by decide +kernel, rfl, by decide +kernel, by decide +kernel⟩
abbrev s_law : Stmt := topS 49
theorem sc_law : FnScope ["_law_script", "_law_at", "_law_dice_here", "_law_turn"] ["_law_script"] (defScope s_law) := ⟨rfl, rfl, rfl, by decide +kernel, rfl, by decide +kernel, by decide +kernel⟩
structure Txt (K : PySem.W.Frag) (mg : Str → Option Value) where
  is_integer : DefAt K mg "is_integer" s_is_integer ["value"]
  is_short : DefAt K mg "is_short" s_is_short ["value"]
  is_within : DefAt K mg "is_within" s_is_within ["value", "least", "most"]
  is_bit : DefAt K mg "is_bit" s_is_bit ["value"]
  are_bits : DefAt K mg "are_bits" s_are_bits ["value", "many"]
  require_within : DefAt K mg "require_within" s_require_within ["value", "least", "most"]
  is_word_in : DefAt K mg "is_word_in" s_is_word_in ["width", "value"]
  require_width : DefAt K mg "require_width" s_require_width ["width"]
  require_word : DefAt K mg "require_word" s_require_word ["width", "word"]
  require_one_word : DefAt K mg "require_one_word" s_require_one_word ["width", "word"]
  is_part : DefAt K mg "is_part" s_is_part ["value"]
  bits_in : DefAt K mg "bits_in" s_bits_in ["width", "word"]
  word_in : DefAt K mg "word_in" s_word_in ["bits"]
  signed_in : DefAt K mg "signed_in" s_signed_in ["width", "word"]
  cut_in : DefAt K mg "cut_in" s_cut_in ["word", "low", "many"]
  put_together_in : DefAt K mg "put_together_in" s_put_together_in ["parts"]
  lengthened_in : DefAt K mg "lengthened_in" s_lengthened_in ["width", "word", "wider"]
  is_word : DefAt K mg "is_word" s_is_word ["width", "value"]
  bits_of_word : DefAt K mg "bits_of_word" s_bits_of_word ["width", "word"]
  word_of_bits : DefAt K mg "word_of_bits" s_word_of_bits ["bits"]
  wrapped : DefAt K mg "wrapped" s_wrapped ["width", "number"]
  signed : DefAt K mg "signed" s_signed ["width", "word"]
  cut : DefAt K mg "cut" s_cut ["width", "word", "low", "many"]
  put_together : DefAt K mg "put_together" s_put_together ["parts"]
  widened : DefAt K mg "widened" s_widened ["width", "word", "wider"]
  lengthened : DefAt K mg "lengthened" s_lengthened ["width", "word", "wider"]
  _law_dice : DefAt K mg "_law_dice" s__law_dice ["_law_script", "_law_at"]
  _law_roll : DefAt K mg "_law_roll" s__law_roll ["_law_dice_here", "_law_total"]
  _law_one_of : DefAt K mg "_law_one_of" s__law_one_of ["_law_dice_here", "_law_items"]
  _law_two_to : DefAt K mg "_law_two_to" s__law_two_to ["_law_bits_here"]
  _law_word_drawn : DefAt K mg "_law_word_drawn" s__law_word_drawn ["_law_dice_here", "_law_width"]
  _law_bits : DefAt K mg "_law_bits" s__law_bits ["_law_width", "_law_word"]
  _law_of_bits : DefAt K mg "_law_of_bits" s__law_of_bits ["_law_bits_here"]
  _law_width_drawn : DefAt K mg "_law_width_drawn" s__law_width_drawn ["_law_dice_here"]
  _law_parts_right : DefAt K mg "_law_parts_right" s__law_parts_right ["_law_dice_here", "_law_width", "_law_word"]
  _law_wider_right : DefAt K mg "_law_wider_right" s__law_wider_right ["_law_dice_here", "_law_width", "_law_word", "_law_number"]
  _law_right : DefAt K mg "_law_right" s__law_right ["_law_dice_here"]
  law : DefAt K mg "law" s_law ["_law_script"]
  SIXTY : ConAt mg "SIXTY" (.int (10 ^ 60))
  MAX_WIDTH : ConAt mg "MAX_WIDTH" (.int 32)
  MAX_PLACES : ConAt mg "MAX_PLACES" (.int 63)
  PART_SIZE : ConAt mg "PART_SIZE" (.int 2)
  z_isinstance : mg "isinstance" = none
  z_int : mg "int" = none
  z_bool : mg "bool" = none
  z_tuple : mg "tuple" = none
  z_all : mg "all" = none
  z_len : mg "len" = none
  z_range : mg "range" = none
  z_sum : mg "sum" = none
  z_enumerate : mg "enumerate" = none
  z_abs : mg "abs" = none
  z_list : mg "list" = none
  z_repr : mg "repr" = none
  z_max : mg "max" = none
  z_min : mg "min" = none
section
variable {P : Program} {w : World} {K : PySem.W.Frag} {mg : Str → Option Value} {base : Heap}
def sp_is_integer_g (K : PySem.W.Frag) : Sp := fun vs H Q _ => ∃ (v : V) (kd : String), vs = [v] ∧ Knd K H v kd ∧ Q (.bl (isIntV v)) H
theorem isK_int : (kinds.all fun T => (isK T "int" && !isK T "bool") == (T == "int")) = true := by decide +kernel
theorem ok_is_integer_g (T : Txt K mg) : FnOk P w K mg base CX0 1 T.is_integer.f T.is_integer.fd ["value"] (sp_is_integer_g K) := by
  refine T.is_integer.F.ok sc_is_integer (fun vs H Q E h => ?_) (fun cdv A outer s H vs Q E hr h => ?_)
  · obtain ⟨v, kd, rfl, _⟩ := h
    rfl
  · obtain ⟨v, kd, rfl, hk, q⟩ := h
    have e := beq_iff_eq.mp (List.all_eq_true.mp isK_int kd hk.2)
    rw [hk.int_iff] at e
    rw [← e] at q
    refine ⟨_, (pss_one (ps_ret (pe_and (pe_callB call_isiK (by rfl) T.z_isinstance (by decide +kernel) (pa_cons (pv 0) (pa_cons (pe_bltn (v := .ty "int") (by rfl) T.z_int (by decide +kernel) rfl) pa_nil))) (pe_one (pe_not (pe_callB call_isiK (by rfl) T.z_isinstance (by decide +kernel) (pa_cons (pv 0) (pa_cons (pe_bltn (v := .ty "bool") (by rfl) T.z_bool (by decide +kernel) rfl) pa_nil)))))))), ?_⟩
    refine ⟨_, rfl, v, kd, "int", rfl, hk, by decide, _, rfl, ite3 (fun h => ?_) (fun h => ?_)⟩
    · rw [h, Bool.true_and] at q
      exact ⟨_, rfl, v, kd, "bool", rfl, hk, by decide, _, rfl, q⟩
    · rw [h, Bool.false_and] at q
      exact q
def sp_is_integer (K : PySem.W.Frag) : Sp := fun vs H Q _ => ∃ i : Int, vs = [.int i] ∧ Q (.bl true) H
theorem ok_is_integer (T : Txt K mg) : FnOk P w K mg base CX0 1 T.is_integer.f T.is_integer.fd ["value"] (sp_is_integer K) := (ok_is_integer_g T).imp fun vs H Q E ⟨i, e, q⟩ => ⟨.int i, "int", e, .i i, q⟩
def sp_is_within_g (K : PySem.W.Frag) : Sp := fun vs H Q _ => ∃ (v : V) (kd : String) (lo hi : Int), vs = [v, .int lo, .int hi] ∧ Knd K H v kd ∧ Q (.bl (withinV v lo hi)) H
theorem ok_is_within_g (T : Txt K mg) : FnOk P w K mg base CX0 2 T.is_within.f T.is_within.fd ["value", "least", "most"] (sp_is_within_g K) := by
  refine T.is_within.F.ok sc_is_within (fun vs H Q E h => ?_) (fun cdv A outer s H vs Q E hr h => ?_)
  · obtain ⟨v, kd, lo, hi, rfl, _⟩ := h
    rfl
  · obtain ⟨v, kd, lo, hi, rfl, hk, q⟩ := h
    refine ⟨_, (pss_one (ps_ret (pe_and (pe_call (ok_is_integer_g T) (hr.mono (by decide)) (by rfl) T.is_integer.g T.is_integer.F.kp T.is_integer.b .nil pass0 (pa_cons (pv 0) pa_nil)) (pe_one (pe_chain op_le op_le (pv 1) (pv 0) (pv 2)))))), ?_⟩
    refine ⟨_, rfl, v, kd, rfl, hk, _, rfl, ?_⟩
    cases v with
    | int i =>
      refine iteT ⟨_, rfl, _, rfl, lo, i, rfl, rfl, _, rfl, ?_⟩
      have q : Q (.bl (decide (lo ≤ i) && decide (i ≤ hi))) H := q
      cases e : decide (lo ≤ i) with
      | true =>
        rw [e] at q
        exact iteT ⟨_, rfl, i, hi, rfl, rfl, q⟩
      | false =>
        rw [e] at q
        exact iteF q
    | _ => exact iteF q
def sp_is_within (K : PySem.W.Frag) : Sp := fun vs H Q _ => ∃ i lo hi : Int, vs = [.int i, .int lo, .int hi] ∧ Q (.bl (decide (lo ≤ i) && decide (i ≤ hi))) H
theorem ok_is_within (T : Txt K mg) : FnOk P w K mg base CX0 2 T.is_within.f T.is_within.fd ["value", "least", "most"] (sp_is_within K) := (ok_is_within_g T).imp fun vs H Q E ⟨i, lo, hi, e, q⟩ => ⟨.int i, "int", lo, hi, e, .i i, q⟩
def sp_is_short (K : PySem.W.Frag) : Sp := fun vs H Q _ => ∃ i : Int, vs = [.int i] ∧ -(10 ^ 60) < i ∧ i < 10 ^ 60 ∧ Q (.bl true) H
theorem ok_is_short (T : Txt K mg) : FnOk P w K mg base CX0 2 T.is_short.f T.is_short.fd ["value"] (sp_is_short K) := by
  refine T.is_short.F.ok sc_is_short (fun vs H Q E h => ?_) (fun cdv A outer s H vs Q E hr h => ?_)
  · obtain ⟨i, rfl, _⟩ := h
    rfl
  · obtain ⟨i, rfl, h1, h2, q⟩ := h
    refine ⟨_, (pss_one (ps_ret (pe_and (pe_call (ok_is_integer T) (hr.mono (by decide)) (by rfl) T.is_integer.g T.is_integer.F.kp T.is_integer.b .nil pass0 (pa_cons (pv 0) pa_nil)) (pe_one (pe_chain op_lt op_lt (pe_un un_neg (pe_glob rfl T.SIXTY.g T.SIXTY.r)) (pv 0) (pe_glob rfl T.SIXTY.g T.SIXTY.r)))))), ?_⟩
    refine ⟨_, rfl, i, rfl, true, rfl, iteT ?_⟩
    refine ⟨_, rfl, _, rfl, _, i, rfl, rfl, _, rfl, iteB (decide_eq_true h1) ?_⟩
    refine ⟨i, _, rfl, rfl, ?_⟩
    show Q (.bl (decide (i < 10 ^ 60))) H
    rw [decide_eq_true h2]
    exact q
def sp_require_within (K : PySem.W.Frag) : Sp := fun vs H Q _ => ∃ i lo hi : Int, vs = [.int i, .int lo, .int hi] ∧ lo ≤ i ∧ i ≤ hi ∧ Q .non H
theorem ok_require_within (T : Txt K mg) : FnOk P w K mg base CX0 3 T.require_within.f T.require_within.fd ["value", "least", "most"] (sp_require_within K) := by
  refine T.require_within.F.ok sc_require_within (fun vs H Q E h => ?_) (fun cdv A outer s H vs Q E hr h => ?_)
  · obtain ⟨i, lo, hi, rfl, _⟩ := h
    rfl
  · obtain ⟨i, lo, hi, rfl, h1, h2, q⟩ := h
    refine ⟨_, (pss_one (ps_if (pt_not (pt_val (pe_call (ok_is_within T) (hr.mono (by decide)) (by rfl) T.is_within.g T.is_within.F.kp T.is_within.b .nil pass0 (pa_cons (pv 0) (pa_cons (pv 1) (pa_cons (pv 2) pa_nil)))))) 
        (pss_one ps_never) pss_nil)), ?_⟩
    exact ⟨_, rfl, _, rfl, _, rfl, i, lo, hi, rfl, _, rfl, iteN (by rw [decide_eq_true h1, decide_eq_true h2]; rfl) q⟩
def sp_is_word_in_g (K : PySem.W.Frag) : Sp := fun vs H Q _ => ∃ (n : Nat) (v : V) (kd : String), vs = [.int n, v] ∧ n ≤ 1000 ∧ Knd K H v kd ∧ Q (.bl (withinV v 0 (2 ^ n - 1))) H
theorem ok_is_word_in_g (T : Txt K mg) : FnOk P w K mg base CX0 3 T.is_word_in.f T.is_word_in.fd ["width", "value"] (sp_is_word_in_g K) := by
  refine T.is_word_in.F.ok sc_is_word_in (fun vs H Q E h => ?_) (fun cdv A outer s H vs Q E hr h => ?_)
  · obtain ⟨n, v, kd, rfl, _⟩ := h
    rfl
  · obtain ⟨n, v, kd, rfl, hn, hk, q⟩ := h
    refine ⟨_, (pss_one (ps_ret (pe_call (ok_is_within_g T) (hr.mono (by decide)) (by rfl) T.is_within.g T.is_within.F.kp T.is_within.b .nil pass0 (pa_cons (pv 1) (pa_cons pe_int (pa_cons (pe_op op_sub (pe_op op_oneShl pe_int (pv 0)) pe_int) pa_nil)))))), ?_⟩
    exact ⟨_, rfl, _, rfl, n, rfl, rfl, by omega, _, _, rfl, rfl, v, kd, 0, _, rfl, hk, q⟩
def sp_is_word_in (K : PySem.W.Frag) : Sp := fun vs H Q _ => ∃ (n : Nat) (x : Int), vs = [.int n, .int x] ∧ n ≤ 1000 ∧ Q (.bl (decide (0 ≤ x) && decide (x ≤ 2 ^ n - 1))) H
theorem ok_is_word_in (T : Txt K mg) : FnOk P w K mg base CX0 3 T.is_word_in.f T.is_word_in.fd ["width", "value"] (sp_is_word_in K) := (ok_is_word_in_g T).imp fun vs H Q E ⟨n, x, e, hn, q⟩ => ⟨n, .int x, "int", e, hn, .i x, q⟩
def sp_require_width (K : PySem.W.Frag) : Sp := fun vs H Q _ => ∃ n : Nat, vs = [.int n] ∧ 1 ≤ n ∧ n ≤ 32 ∧ Q .non H
theorem ok_require_width (T : Txt K mg) : FnOk P w K mg base CX0 4 T.require_width.f T.require_width.fd ["width"] (sp_require_width K) := by
  refine T.require_width.F.ok sc_require_width (fun vs H Q E h => ?_) (fun cdv A outer s H vs Q E hr h => ?_)
  · obtain ⟨n, rfl, _⟩ := h
    rfl
  · obtain ⟨n, rfl, h1, h2, q⟩ := h
    refine ⟨_, (pss_one (ps_expr (pe_call (ok_require_within T) (hr.mono (by decide)) (by rfl) T.require_within.g T.require_within.F.kp T.require_within.b .nil pass0 (pa_cons (pv 0) (pa_cons pe_int (pa_cons (pe_glob rfl T.MAX_WIDTH.g T.MAX_WIDTH.r) pa_nil)))))), ?_⟩
    exact ⟨_, rfl, n, 1, 32, rfl, by omega, by omega, q⟩
def sp_require_word (K : PySem.W.Frag) : Sp := fun vs H Q _ => ∃ (n : Nat) (x : Int), vs = [.int n, .int x] ∧ n ≤ 1000 ∧ 0 ≤ x ∧ x < 2 ^ n ∧ Q .non H
theorem ok_require_word (T : Txt K mg) : FnOk P w K mg base CX0 4 T.require_word.f T.require_word.fd ["width", "word"] (sp_require_word K) := by
  refine T.require_word.F.ok sc_require_word (fun vs H Q E h => ?_) (fun cdv A outer s H vs Q E hr h => ?_)
  · obtain ⟨n, x, rfl, _⟩ := h
    rfl
  · obtain ⟨n, x, rfl, hn, h1, h2, q⟩ := h
    refine ⟨_, (pss_one (ps_if (pt_not (pt_val (pe_call (ok_is_word_in T) (hr.mono (by decide)) (by rfl) T.is_word_in.g T.is_word_in.F.kp T.is_word_in.b .nil pass0 (pa_cons (pv 0) (pa_cons (pv 1) pa_nil))))) 
        (pss_one ps_never) pss_nil)), ?_⟩
    exact ⟨_, rfl, _, rfl, n, x, rfl, hn, _, rfl, iteN (by rw [decide_eq_true h1, decide_eq_true (show x ≤ 2 ^ n - 1 by omega)]; rfl) q⟩
def sp_require_one_word (K : PySem.W.Frag) : Sp := fun vs H Q _ => ∃ (n : Nat) (x : Int), vs = [.int n, .int x] ∧ 1 ≤ n ∧ n ≤ 32 ∧ 0 ≤ x ∧ x < 2 ^ n ∧ Q .non H
theorem ok_require_one_word (T : Txt K mg) : FnOk P w K mg base CX0 5 T.require_one_word.f T.require_one_word.fd ["width", "word"] (sp_require_one_word K) := by
  refine T.require_one_word.F.ok sc_require_one_word (fun vs H Q E h => ?_) (fun cdv A outer s H vs Q E hr h => ?_)
  · obtain ⟨n, x, rfl, _⟩ := h
    rfl
  · obtain ⟨n, x, rfl, h1, h2, h3, h4, q⟩ := h
    refine ⟨_, (pss_cons (ps_expr (pe_call (ok_require_width T) (hr.mono (by decide)) (by rfl) T.require_width.g T.require_width.F.kp T.require_width.b .nil pass0 (pa_cons (pv 0) pa_nil))) 
      (pss_one (ps_expr (pe_call (ok_require_word T) (hr.mono (by decide)) (by rfl) T.require_word.g T.require_word.F.kp T.require_word.b .nil pass0 (pa_cons (pv 0) (pa_cons (pv 1) pa_nil)))))), ?_⟩
    exact ⟨_, rfl, n, rfl, h1, h2, _, rfl, _, rfl, n, x, rfl, by omega, h3, h4, q⟩
def sp_signed_in (K : PySem.W.Frag) : Sp := fun vs H Q _ => ∃ (n : Nat) (x : Int), vs = [.int n, .int x] ∧ 1 ≤ n ∧ n ≤ 1000 ∧ Q (.int (sgn n x)) H
theorem ok_signed_in (T : Txt K mg) : FnOk P w K mg base CX0 1 T.signed_in.f T.signed_in.fd ["width", "word"] (sp_signed_in K) := by
  refine T.signed_in.F.ok sc_signed_in (fun vs H Q E h => ?_) (fun cdv A outer s H vs Q E hr h => ?_)
  · obtain ⟨n, x, rfl, _⟩ := h
    rfl
  · obtain ⟨n, x, rfl, h1, h2, q⟩ := h
    refine ⟨_, (pss_one (ps_ret (pe_ifExp (pt_cmpR op_eq (pe_op op_shrN (pv 1) (pe_op op_sub (pv 0) pe_int)) pe_int (nomark _)) (pe_op op_sub (pv 1) (pe_op op_oneShl pe_int (pv 0))) (pv 1)))), ?_⟩
    refine ⟨_, rfl, _, rfl, n, 1, rfl, rfl, x, n - 1, rfl, congrArg V.int (by omega), rfl, _, rfl, ?_⟩
    unfold sgn at q
    refine ite2 (fun e => ?_) (fun e => ?_)
    · have e1 : x / 2 ^ (n - 1) = 1 := V.int.inj (of_decide_eq_true e)
      rw [if_pos e1] at q
      exact ⟨_, rfl, _, rfl, n, rfl, rfl, by omega, _, _, rfl, rfl, q⟩
    · have e1 : ¬ x / 2 ^ (n - 1) = 1 := fun z => e (decide_eq_true (congrArg V.int z))
      rw [if_neg e1] at q
      exact ⟨_, rfl, q⟩
def sp_wrapped (K : PySem.W.Frag) : Sp := fun vs H Q _ => ∃ (n : Nat) (x : Int), vs = [.int n, .int x] ∧ 1 ≤ n ∧ n ≤ 32 ∧ -(10 ^ 60) < x ∧ x < 10 ^ 60 ∧ Q (.int (x % 2 ^ n)) H
theorem ok_wrapped (T : Txt K mg) : FnOk P w K mg base CX0 5 T.wrapped.f T.wrapped.fd ["width", "number"] (sp_wrapped K) := by
  refine T.wrapped.F.ok sc_wrapped (fun vs H Q E h => ?_) (fun cdv A outer s H vs Q E hr h => ?_)
  · obtain ⟨n, x, rfl, _⟩ := h
    rfl
  · obtain ⟨n, x, rfl, h1, h2, h3, h4, q⟩ := h
    refine ⟨_, (pss_cons (ps_expr (pe_call (ok_require_width T) (hr.mono (by decide)) (by rfl) T.require_width.g T.require_width.F.kp T.require_width.b .nil pass0 (pa_cons (pv 0) pa_nil))) 
      (pss_cons (ps_if (pt_not (pt_val (pe_call (ok_is_short T) (hr.mono (by decide)) (by rfl) T.is_short.g T.is_short.F.kp T.is_short.b .nil pass0 (pa_cons (pv 1) pa_nil)))) 
        (pss_one ps_never) pss_nil) 
      (pss_one (ps_ret (pe_op op_mod (pv 1) (pe_op op_oneShl pe_int (pv 0))))))), ?_⟩
    exact ⟨_, rfl, n, rfl, h1, h2, _, rfl, x, rfl, h3, h4, _, rfl, iteF ⟨_, rfl, _, rfl, n, rfl, rfl, by omega, _, _, rfl, rfl, two_pos n, q⟩⟩
def sp_signed (K : PySem.W.Frag) : Sp := fun vs H Q _ => ∃ (n : Nat) (x : Int), vs = [.int n, .int x] ∧ 1 ≤ n ∧ n ≤ 32 ∧ 0 ≤ x ∧ x < 2 ^ n ∧ Q (.int (sgn n x)) H
theorem ok_signed (T : Txt K mg) : FnOk P w K mg base CX0 6 T.signed.f T.signed.fd ["width", "word"] (sp_signed K) := by
  refine T.signed.F.ok sc_signed (fun vs H Q E h => ?_) (fun cdv A outer s H vs Q E hr h => ?_)
  · obtain ⟨n, x, rfl, _⟩ := h
    rfl
  · obtain ⟨n, x, rfl, h1, h2, h3, h4, q⟩ := h
    refine ⟨_, (pss_cons (ps_expr (pe_call (ok_require_one_word T) (hr.mono (by decide)) (by rfl) T.require_one_word.g T.require_one_word.F.kp T.require_one_word.b .nil pass0 (pa_cons (pv 0) (pa_cons (pv 1) pa_nil)))) 
      (pss_one (ps_ret (pe_call (ok_signed_in T) (hr.mono (by decide)) (by rfl) T.signed_in.g T.signed_in.F.kp T.signed_in.b .nil pass0 (pa_cons (pv 0) (pa_cons (pv 1) pa_nil)))))), ?_⟩
    exact ⟨_, rfl, _, rfl, n, x, rfl, h1, h2, h3, h4, _, rfl, _, rfl, n, x, rfl, h1, by omega, q⟩
def sp_bits_in (K : PySem.W.Frag) : Sp := fun vs H Q _ => ∃ (n : Nat) (x : Int), vs = [.int n, .int x] ∧ n ≤ 1000 ∧ NewT K ((bitsI n x).map V.int) H Q
theorem bitsI_rangeF (n : Nat) (x : Int) : (List.range n).filterMap (fun i => some (V.int (x / 2 ^ i % 2))) = (bitsI n x).map V.int := by
  induction n with
  | zero => rfl
  | succ n ih =>
    rw [range_snoc, ih, bitsI_snoc, List.map_append]
    rfl
theorem ok_bits_in (T : Txt K mg) : FnOk P w K mg base CX0 1 T.bits_in.f T.bits_in.fd ["width", "word"] (sp_bits_in K) := by
  refine T.bits_in.F.ok sc_bits_in (fun vs H Q E h => ?_) (fun cdv A outer s H vs Q E hr h => ?_)
  · obtain ⟨n, x, rfl, _⟩ := h
    rfl
  · obtain ⟨n, x, rfl, hn, q⟩ := h
    refine ⟨_, (pss_one (ps_ret (pe_callTy call_tupleA (by rfl) T.z_tuple (by decide +kernel) (pa_cons (pe_lc (own := [("place", 2)]) (by rfl) sc_bits_in.nd (pi_range1 (by rfl) T.z_range (pa_cons (pv 0) pa_nil)) (blkOk_by (own := [("place", 2)]) (N := ["width", "word", "place"]) (sc := defScope s_bits_in) (by decide +kernel)) (fun _ _ _ _ _ => (pg_name (i := 2) sc_bits_in.nd rfl (.inl rfl))) (fun _ _ _ _ _ => pts_nil) (fun _ _ _ _ _ => (pe_op op_andM (pe_op op_shrN (pv 1) (pv 2)) pe_int))) pa_nil)))), ?_⟩
    refine ⟨_, rfl, _, rfl, by omega, by omega, lc_rangeF (n := n) (fun i => some (V.int (x / 2 ^ i % 2))) (by omega) ?_ fun D H1 s1 e1 _ => ?_⟩
    · intro i H' hi sm R N hR _
      exact ⟨rfl, _, rfl, _, rfl, x, i, rfl, rfl, _, 1, rfl, rfl, hR _ _ rfl (Same.refl _)⟩
    · rw [bitsI_rangeF] at e1
      exact ⟨D, _, rfl, .inl (SqL.of e1), fun p H2 s2 e2 => q p _ (s1.trans s2) e2⟩
theorem cars_last (i : Nat) (x y c : Int) : (cars i x y c).map V.int = ((List.range i).map (carry x y c)).map V.int ++ [V.int (carry x y c i)] := by
  unfold cars
  rw [List.range_succ, List.map_append, List.map_append]
  rfl
def sp_cut_in (K : PySem.W.Frag) : Sp := fun vs H Q _ => ∃ (x : Int) (k m : Nat), vs = [.int x, .int k, .int m] ∧ m ≤ 1000 ∧ Q (.int (x / 2 ^ k % 2 ^ m)) H
theorem ok_cut_in (T : Txt K mg) : FnOk P w K mg base CX0 1 T.cut_in.f T.cut_in.fd ["word", "low", "many"] (sp_cut_in K) := by
  refine T.cut_in.F.ok sc_cut_in (fun vs H Q E h => ?_) (fun cdv A outer s H vs Q E hr h => ?_)
  · obtain ⟨x, k, m, rfl, _⟩ := h
    rfl
  · obtain ⟨x, k, m, rfl, hm, q⟩ := h
    refine ⟨_, (pss_one (ps_ret (pe_op op_mod (pe_op op_shrN (pv 0) (pv 1)) (pe_op op_oneShl pe_int (pv 2))))), ?_⟩
    exact ⟨_, rfl, _, rfl, x, k, rfl, rfl, _, rfl, m, rfl, rfl, by omega, _, _, rfl, rfl, two_pos m, q⟩
def sp_cut (K : PySem.W.Frag) : Sp := fun vs H Q _ => ∃ (n : Nat) (x : Int) (k m : Nat), vs = [.int n, .int x, .int k, .int m] ∧ 1 ≤ n ∧ n ≤ 32 ∧ 0 ≤ x ∧ x < 2 ^ n ∧ 1 ≤ m ∧ k + m ≤ n ∧ Q (.int (x / 2 ^ k % 2 ^ m)) H
theorem ok_cut (T : Txt K mg) : FnOk P w K mg base CX0 6 T.cut.f T.cut.fd ["width", "word", "low", "many"] (sp_cut K) := by
  refine T.cut.F.ok sc_cut (fun vs H Q E h => ?_) (fun cdv A outer s H vs Q E hr h => ?_)
  · obtain ⟨n, x, k, m, rfl, _⟩ := h
    rfl
  · obtain ⟨n, x, k, m, rfl, h1, h2, h3, h4, h5, h6, q⟩ := h
    refine ⟨_, (pss_cons (ps_expr (pe_call (ok_require_one_word T) (hr.mono (by decide)) (by rfl) T.require_one_word.g T.require_one_word.F.kp T.require_one_word.b .nil pass0 (pa_cons (pv 0) (pa_cons (pv 1) pa_nil)))) 
      (pss_cons (ps_expr (pe_call (ok_require_within T) (hr.mono (by decide)) (by rfl) T.require_within.g T.require_within.F.kp T.require_within.b .nil pass0 (pa_cons (pv 2) (pa_cons pe_int (pa_cons (pe_op op_sub (pv 0) pe_int) pa_nil))))) 
      (pss_cons (ps_expr (pe_call (ok_require_within T) (hr.mono (by decide)) (by rfl) T.require_within.g T.require_within.F.kp T.require_within.b .nil pass0 (pa_cons (pv 3) (pa_cons pe_int (pa_cons (pe_op op_sub (pv 0) (pv 2)) pa_nil))))) 
      (pss_one (ps_ret (pe_call (ok_cut_in T) (hr.mono (by decide)) (by rfl) T.cut_in.g T.cut_in.F.kp T.cut_in.b .nil pass0 (pa_cons (pv 1) (pa_cons (pv 2) (pa_cons (pv 3) pa_nil))))))))), ?_⟩
    refine ⟨_, rfl, _, rfl, n, x, rfl, h1, h2, h3, h4, ?_⟩
    refine ⟨_, rfl, _, rfl, _, _, rfl, rfl, k, 0, _, rfl, by omega, by omega, ?_⟩
    refine ⟨_, rfl, _, rfl, _, rfl, _, _, rfl, rfl, m, 1, _, rfl, by omega, by omega, ?_⟩
    exact ⟨_, rfl, _, rfl, _, rfl, x, k, m, rfl, by omega, q⟩
def sp_is_bit (K : PySem.W.Frag) : Sp := fun vs H Q _ => ∃ c : Int, vs = [.int c] ∧ Q (.bl (decide (0 ≤ c) && decide (c ≤ 1))) H
theorem ok_is_bit (T : Txt K mg) : FnOk P w K mg base CX0 3 T.is_bit.f T.is_bit.fd ["value"] (sp_is_bit K) := by
  refine T.is_bit.F.ok sc_is_bit (fun vs H Q E h => ?_) (fun cdv A outer s H vs Q E hr h => ?_)
  · obtain ⟨c, rfl, _⟩ := h
    rfl
  · obtain ⟨c, rfl, q⟩ := h
    refine ⟨_, (pss_one (ps_ret (pe_call (ok_is_within T) (hr.mono (by decide)) (by rfl) T.is_within.g T.is_within.F.kp T.is_within.b .nil pass0 (pa_cons (pv 0) (pa_cons pe_int (pa_cons pe_int pa_nil)))))), ?_⟩
    exact ⟨_, rfl, c, 0, 1, rfl, q⟩
theorem filterMap_some {α β : Type} (f : α → β) (xs : List α) : xs.filterMap (fun x => some (f x)) = xs.map f := by
  induction xs with
  | nil => rfl
  | cons x r ih => simp [ih]
def isBitV : V → Bool
  | .int c => decide (0 ≤ c) && decide (c ≤ 1)
  | _ => false
/-- bits: a tuple of 0 and 1 -/
def sp_are_bits (K : PySem.W.Frag) : Sp := fun vs H Q _ => ∃ (a : Addr) (bs : List Int) (n : Nat), vs = [.ref a, .int n] ∧ SqT K H a (bs.map V.int) ∧ bs.length = n ∧ n ≤ 1000 ∧ (∀ b ∈ bs, b = 0 ∨ b = 1) ∧ ∀ H', Same H H' → Q (.bl true) H'
theorem ok_are_bits (T : Txt K mg) : FnOk P w K mg base CX0 4 T.are_bits.f T.are_bits.fd ["value", "many"] (sp_are_bits K) := by
  refine T.are_bits.F.ok sc_are_bits (fun vs H Q E h => ?_) (fun cdv A outer s H vs Q E hr h => ?_)
  · obtain ⟨a, bs, n, rfl, _⟩ := h
    rfl
  · obtain ⟨a, bs, n, rfl, hT, hn, hm, hb, q⟩ := h
    refine ⟨_, (pss_one (ps_ret (pe_and (pe_callB call_isiK (by rfl) T.z_isinstance (by decide +kernel) (pa_cons (pv 0) (pa_cons (pe_bltn (v := .ty "tuple") (by rfl) T.z_tuple (by decide +kernel) rfl) pa_nil))) (pe_and (pe_cmpR op_eq (pe_callB call_len_seq (by rfl) T.z_len PySem.boot_len (pa_cons (pv 0) pa_nil)) (pv 1) (nomark _)) (pe_one (pe_callB (cr_all rfl) (by rfl) T.z_all (by decide +kernel) (pa_cons (pe_lc (own := [("bit", 2)]) (by rfl) sc_are_bits.nd (pi_tup (pv 0)) (blkOk_by (own := [("bit", 2)]) (N := ["value", "many", "bit"]) (sc := defScope s_are_bits) (by decide +kernel)) (fun _ _ _ _ _ => (pg_name (i := 2) sc_are_bits.nd rfl (.inl rfl))) (fun _ _ _ _ _ => pts_nil) (fun _ _ _ _ _ => (pe_call (ok_is_bit T) (hr.mono (by decide)) (by rfl) T.is_bit.g T.is_bit.F.kp T.is_bit.b .nil pass0 (pa_cons (pv 2) pa_nil)))) pa_nil))))))), ?_⟩
    refine ⟨_, rfl, _, _, _, rfl, .t hT, by decide, true, rfl, iteT ?_⟩
    refine ⟨_, rfl, a, _, rfl, .inr hT, _, rfl, rfl, true, congrArg V.bl (decide_eq_true (by rw [List.length_map, hn])), iteT ?_⟩
    refine ⟨_, rfl, a, rfl, ⟨_, hT⟩, lc_tupF hT (fun v => some (V.bl (isBitV v))) (by rw [List.length_map]; omega) ?_ fun D H1 s1 e1 _ => ?_⟩
    · intro i x H' hx sm R N hR _
      rw [List.getElem?_map] at hx
      cases e : bs[i]? with
      | none =>
        rw [e] at hx
        cases hx
      | some b =>
        rw [e] at hx
        cases hx
        exact ⟨rfl, _, rfl, b, rfl, hR _ _ rfl (Same.refl _)⟩
    · rw [filterMap_some, List.map_map] at e1
      have eb : (bs.map fun b => decide (0 ≤ b) && decide (b ≤ 1)).all id = true := by
        rw [List.all_map, List.all_eq_true]
        intro b h
        rcases hb b h with rfl | rfl <;> rfl
      refine ⟨D, bs.map fun b => decide (0 ≤ b) && decide (b ≤ 1), rfl, SqL.of ?_, ?_⟩
      · rw [List.map_map]
        exact e1
      · rw [eb]
        exact q _ s1
def sp_word_in (K : PySem.W.Frag) : Sp := fun vs H Q _ => ∃ (a : Addr) (bs : List Int), vs = [.ref a] ∧ SqT K H a (bs.map V.int) ∧ bs.length ≤ 1000 ∧ (∀ b ∈ bs, b = 0 ∨ b = 1) ∧ ∀ H', Same H H' → Q (.int (ofBits bs)) H'
theorem ofBits_sum : ∀ (bs : List Int) (k : Nat), ((bs.zipIdx k).map fun p => p.1 * 2 ^ p.2).sum = 2 ^ k * ofBits bs
  | [], k => by simp [ofBits]
  | b :: r, k => by
    rw [List.zipIdx_cons, List.map_cons, List.sum_cons, ofBits_sum r (k + 1), two_succ]
    show b * 2 ^ k + 2 * 2 ^ k * ofBits r = 2 ^ k * (2 * ofBits r + b)
    rw [Int.mul_add, ← Int.mul_assoc, Int.mul_comm (2 ^ k) 2, Int.mul_comm (2 ^ k) b]
    omega
theorem ok_word_in (T : Txt K mg) : FnOk P w K mg base CX0 1 T.word_in.f T.word_in.fd ["bits"] (sp_word_in K) := by
  refine T.word_in.F.ok sc_word_in (fun vs H Q E h => ?_) (fun cdv A outer s H vs Q E hr h => ?_)
  · obtain ⟨a, bs, rfl, _⟩ := h
    rfl
  · obtain ⟨a, bs, rfl, hT, hn, hb, q⟩ := h
    refine ⟨_, (pss_one (ps_ret (pe_callB (cr_sum rfl) (by rfl) T.z_sum (by decide +kernel) (pa_cons (pe_lc (own := [("place", 1), ("bit", 2)]) (g := gTup K 2 (gCons (gName 1) (gCons (gName 2) gNil))) (by rfl) sc_word_in.nd (pi_enumT (by rfl) T.z_enumerate (pa_cons (pv 0) pa_nil)) (blkOk_by (own := [("place", 1), ("bit", 2)]) (N := ["bits", "place", "bit"]) (sc := defScope s_word_in) (by decide +kernel)) (fun _ _ _ _ _ => (pg_tup rfl (pgs_cons (pg_name (i := 1) sc_word_in.nd rfl (.inl rfl)) (pgs_cons (pg_name (i := 2) sc_word_in.nd rfl (.inl rfl)) pgs_nil)))) (fun _ _ _ _ _ => pts_nil) (fun _ _ _ _ _ => (pe_op op_shlN (pv 2) (pv 1)))) pa_nil)))), ?_⟩
    refine ⟨_, rfl, a, _, rfl, hT, lc_enumTF hT (fun i v => match v with | .int b => some (V.int (b * 2 ^ i)) | _ => none) (by rw [List.length_map]; omega) ?_ fun D H1 s1 e1 _ => ?_⟩
    · intro i x t H' hx sm ht R N hR _
      rw [List.getElem?_map] at hx
      cases e : bs[i]? with
      | none =>
        rw [e] at hx
        cases hx
      | some b =>
        rw [e] at hx
        cases hx
        have hmem := List.mem_of_getElem? e
        have hi := (List.getElem?_eq_some_iff.mp e).1
        refine ⟨t, _, rfl, SqT.of ht, rfl, _, _, rfl, _, [], rfl, rfl, rfl, ?_⟩
        exact ⟨_, rfl, _, rfl, b, i, rfl, rfl, shl_ok (n := 1) (by rcases hb b hmem with rfl | rfl <;> decide) (by omega), hR _ _ rfl (Same.refl _)⟩
    · have e2 : ((bs.map V.int).zipIdx.filterMap fun p => match p.1 with | .int b => some (V.int (b * 2 ^ p.2)) | _ => none) = (bs.zipIdx.map fun p => p.1 * 2 ^ p.2).map V.int := by
        rw [List.zipIdx_map, List.filterMap_map, List.map_map]
        exact filterMap_some _ _
      refine ⟨D, bs.zipIdx.map fun p => p.1 * 2 ^ p.2, rfl, SqL.of (e1.trans (by rw [← e2])), ?_⟩
      rw [ofBits_sum bs 0, Int.pow_zero, Int.one_mul]
      exact q _ s1
/-- parts: pairs of a width and a word -/
def PartOk (p : Nat × Int) : Prop := 1 ≤ p.1 ∧ p.1 ≤ 32 ∧ 0 ≤ p.2 ∧ p.2 < 2 ^ p.1
def partV (p : Nat × Int) : List V := [.int p.1, .int p.2]
structure Parts (K : PySem.W.Frag) (H : Hp) (rs : List V) (ps : List (Nat × Int)) : Prop where
  len : rs.length = ps.length
  at' : ∀ (i : Nat) r p, rs[i]? = some r → ps[i]? = some p → ∃ a, r = .ref a ∧ SqT K H a (partV p)
theorem Parts.get {H : Hp} {rs : List V} {ps : List (Nat × Int)} (h : Parts K H rs ps) {i : Nat} {r : V} (e : rs[i]? = some r) : ∃ p a, ps[i]? = some p ∧ r = .ref a ∧ SqT K H a (partV p) := by
  have hi := (List.getElem?_eq_some_iff.mp e).1
  rw [h.len] at hi
  obtain ⟨a, e1, e2⟩ := h.at' i r ps[i] e (List.getElem?_eq_getElem hi)
  exact ⟨_, a, List.getElem?_eq_getElem hi, e1, e2⟩
theorem Parts.same {H H' : Hp} {rs : List V} {ps : List (Nat × Int)} (s : Same H H') (h : Parts K H rs ps) : Parts K H' rs ps := ⟨h.len, fun i r p e1 e2 => let ⟨a, e, t⟩ := h.at' i r p e1 e2; ⟨a, e, sT s t⟩⟩
def sp_is_part (K : PySem.W.Frag) : Sp := fun vs H Q _ => ∃ (a : Addr) (p : Nat × Int), vs = [.ref a] ∧ SqT K H a (partV p) ∧ PartOk p ∧ Q (.bl true) H
theorem ok_is_part (T : Txt K mg) : FnOk P w K mg base CX0 4 T.is_part.f T.is_part.fd ["value"] (sp_is_part K) := by
  refine T.is_part.F.ok sc_is_part (fun vs H Q E h => ?_) (fun cdv A outer s H vs Q E hr h => ?_)
  · obtain ⟨a, p, rfl, _⟩ := h
    rfl
  · obtain ⟨a, ⟨m, x⟩, rfl, hT, ⟨p1, p2, p3, p4⟩, q⟩ := h
    simp only at p1 p2 p3 p4
    refine ⟨_, (pss_cons (ps_if (PW.pt (pw_or (pt_not (pt_val (pe_callB call_isiK (by rfl) T.z_isinstance (by decide +kernel) (pa_cons (pv 0) (pa_cons (pe_bltn (v := .ty "tuple") (by rfl) T.z_tuple (by decide +kernel) rfl) pa_nil))))) (pw_or (pt_cmpR op_ne (pe_callB call_len_seq (by rfl) T.z_len PySem.boot_len (pa_cons (pv 0) pa_nil)) (pe_glob rfl T.PART_SIZE.g T.PART_SIZE.r) (nomark _)) (pw_or1 (pt_not (pt_val (pe_call (ok_is_within T) (hr.mono (by decide)) (by rfl) T.is_within.g T.is_within.F.kp T.is_within.b .nil pass0 (pa_cons (pe_ix ix_tup (pv 0) pe_int (fun _ _ => rfl)) (pa_cons pe_int (pa_cons (pe_glob rfl T.MAX_WIDTH.g T.MAX_WIDTH.r) pa_nil)))))))))) 
        (pss_one (ps_ret pe_bl)) pss_nil) 
      (pss_one (ps_ret (pe_call (ok_is_word_in T) (hr.mono (by decide)) (by rfl) T.is_word_in.g T.is_word_in.F.kp T.is_word_in.b .nil pass0 (pa_cons (pe_ix ix_tup (pv 0) pe_int (fun _ _ => rfl)) (pa_cons (pe_ix ix_tup (pv 0) pe_int (fun _ _ => rfl)) pa_nil)))))), ?_⟩
    refine ⟨_, rfl, _, _, _, rfl, .t hT, by decide, true, rfl, iteF ?_⟩
    refine ⟨_, rfl, a, _, rfl, .inr hT, rfl, _, rfl, iteBF (neFI rfl) ?_⟩
    refine ⟨_, rfl, a, _, 0, _, rfl, rfl, hT, atI_nat (j := 0) rfl, m, 1, 32, rfl, _, rfl, iteN (by rw [decide_eq_true (show (1 : Int) ≤ m by omega), decide_eq_true (show (m : Int) ≤ 32 by omega)]; rfl) ?_⟩
    refine ⟨_, rfl, a, _, 0, _, rfl, rfl, hT, atI_nat (j := 0) rfl, _, rfl, a, _, 1, _, rfl, rfl, hT, atI_nat (j := 1) rfl, m, x, rfl, by omega, ?_⟩
    rw [decide_eq_true p3, decide_eq_true (show x ≤ 2 ^ m - 1 by omega)]
    exact q
/-- widths and words put together -/
def wid : List (Nat × Int) → Nat
  | [] => 0
  | p :: r => p.1 + wid r
def put : List (Nat × Int) → Int
  | [] => 0
  | p :: r => p.2 + 2 ^ p.1 * put r
theorem wid_snoc (ps : List (Nat × Int)) (p : Nat × Int) : wid (ps ++ [p]) = wid ps + p.1 := by
  induction ps with
  | nil => simp [wid]
  | cons a r ih => simp [wid, ih]; omega
theorem put_snoc (ps : List (Nat × Int)) (p : Nat × Int) : put (ps ++ [p]) = put ps + p.2 * 2 ^ wid ps := by
  induction ps with
  | nil => simp [put, wid]
  | cons a r ih =>
    show a.2 + 2 ^ a.1 * put (r ++ [p]) = a.2 + 2 ^ a.1 * put r + p.2 * 2 ^ (a.1 + wid r)
    rw [ih, Int.mul_add, two_add, Int.add_assoc, ← Int.mul_assoc, ← Int.mul_assoc, Int.mul_comm (2 ^ a.1) p.2, Int.mul_assoc p.2]
theorem wid_sum (ps : List (Nat × Int)) : (ps.map fun p => (p.1 : Int)).sum = (wid ps : Int) := by
  induction ps with
  | nil => rfl
  | cons a r ih =>
    rw [List.map_cons, List.sum_cons, ih]
    show (a.1 : Int) + (wid r : Int) = ((a.1 + wid r : Nat) : Int)
    omega
theorem take_succ_of {α : Type} {xs : List α} {i : Nat} {x : α} (h : xs[i]? = some x) : xs.take (i + 1) = xs.take i ++ [x] := by
  rw [List.take_add_one, h]
  rfl
theorem wid_take (ps : List (Nat × Int)) (i : Nat) : wid (ps.take i) ≤ wid ps := by
  induction ps generalizing i with
  | nil => simp [wid]
  | cons a r ih =>
    cases i with
    | zero => simp [wid]
    | succ i =>
      have := ih i
      show a.1 + wid (r.take i) ≤ a.1 + wid r
      omega
def sp_put_together_in (K : PySem.W.Frag) : Sp := fun vs H Q _ => ∃ (a : Addr) (rs : List V) (ps : List (Nat × Int)), vs = [.ref a] ∧ SqT K H a rs ∧ Parts K H rs ps ∧ (∀ p ∈ ps, PartOk p) ∧ wid ps ≤ 1000 ∧ NewT K [.int (wid ps), .int (put ps)] H Q
theorem ok_put_together_in (T : Txt K mg) : FnOk P w K mg base CX0 1 T.put_together_in.f T.put_together_in.fd ["parts"] (sp_put_together_in K) := by
  refine T.put_together_in.F.ok sc_put_together_in (fun vs H Q E h => ?_) (fun cdv A outer s H vs Q E hr h => ?_)
  · obtain ⟨a, rs, ps, rfl, _⟩ := h
    rfl
  · obtain ⟨a, rs, ps, rfl, hT, hP, hok, hw, q⟩ := h
    refine ⟨_, (pss_cons (ps_asg (pe_tupA (pa_cons pe_int (pa_cons pe_int pa_nil))) (pg_tup rfl (pgs_cons (pg_name (i := 1) sc_put_together_in.nd rfl (.inl rfl)) (pgs_cons (pg_name (i := 2) sc_put_together_in.nd rfl (.inl rfl)) pgs_nil)))) 
      (pss_cons (ps_for PassesOwn.never rfl (pi_tup (pv 0)) (pg_tup rfl (pgs_cons (pg_name (i := 3) sc_put_together_in.nd rfl (.inl rfl)) (pgs_cons (pg_name (i := 4) sc_put_together_in.nd rfl (.inl rfl)) pgs_nil))) 
        (pss_one (ps_par (i := 1) (j := 2) rfl sc_put_together_in.nd rfl rfl (by decide) rfl rfl (pa_cons (pe_op op_add (pv 1) (pv 3)) (pa_cons (pe_op op_add (pv 2) (pe_op op_shlN (pv 4) (pv 1))) pa_nil)) (by rfl)))) 
      (pss_one (ps_ret (pe_tupA (pa_cons (pv 1) (pa_cons (pv 2) pa_nil))))))), ?_⟩
    refine ⟨sz, fun z0 H0 s0 e0 => ⟨z0, _, rfl, e0, rfl, _, _, rfl, _, [], rfl, rfl, ?_⟩⟩
    refine ⟨_, rfl, a, rfl, ⟨_, sT s0 hT⟩, for_tup (K := K) (a := a) (xs := rs) (fun i σ H' => ∃ u v, σ = [some (.ref a), some (.int (wid (ps.take i))), some (.int (put (ps.take i))), u, v] ∧ H' = H0) ⟨none, none, rfl, rfl⟩ ?_ ?_ ?_⟩
    · rintro i σ H' _ ⟨u, v, _, rfl⟩
      exact sT s0 hT
    · rintro i r σ H' hx ⟨u, v, rfl, rfl⟩
      obtain ⟨⟨m, x⟩, b, hp, rfl, ht⟩ := hP.get hx
      have pk := hok _ (List.mem_of_getElem? hp)
      obtain ⟨p1, p2, p3, p4⟩ := pk
      simp only at p1 p2 p3 p4
      have hb := two32 p2
      have hwt := wid_take ps i
      refine ⟨b, _, rfl, sT s0 ht, rfl, _, _, rfl, _, [], rfl, rfl, ?_⟩
      refine ⟨_, rfl, _, rfl, _, _, rfl, rfl, _, rfl, _, rfl, _, rfl, x, wid (ps.take i), rfl, rfl, shl_ok (n := 32) (by omega) (by omega), _, _, rfl, rfl, _, _, rfl, ?_⟩
      refine ⟨some (.int m), some (.int x), ?_, rfl⟩
      rw [take_succ_of hp, wid_snoc, put_snoc]
      rfl
    · rintro σ H' ⟨u, v, rfl, rfl⟩
      rw [hP.len, List.take_length]
      exact ⟨_, rfl, _, rfl, sz, fun p H1 s1 e1 => q p H1 (s0.trans s1) e1⟩
def sp_lengthened_in (K : PySem.W.Frag) : Sp := fun vs H Q _ => ∃ (n : Nat) (x : Int) (m : Nat), vs = [.int n, .int x, .int m] ∧ 1 ≤ n ∧ n ≤ 1000 ∧ m ≤ 1000 ∧ Q (.int (sgn n x % 2 ^ m)) H
theorem ok_lengthened_in (T : Txt K mg) : FnOk P w K mg base CX0 2 T.lengthened_in.f T.lengthened_in.fd ["width", "word", "wider"] (sp_lengthened_in K) := by
  refine T.lengthened_in.F.ok sc_lengthened_in (fun vs H Q E h => ?_) (fun cdv A outer s H vs Q E hr h => ?_)
  · obtain ⟨n, x, m, rfl, _⟩ := h
    rfl
  · obtain ⟨n, x, m, rfl, h1, h2, h3, q⟩ := h
    refine ⟨_, (pss_one (ps_ret (pe_op op_mod (pe_call (ok_signed_in T) (hr.mono (by decide)) (by rfl) T.signed_in.g T.signed_in.F.kp T.signed_in.b .nil pass0 (pa_cons (pv 0) (pa_cons (pv 1) pa_nil))) (pe_op op_oneShl pe_int (pv 2))))), ?_⟩
    exact ⟨_, rfl, _, rfl, n, x, rfl, h1, h2, _, rfl, m, rfl, rfl, by omega, _, _, rfl, rfl, two_pos m, q⟩
def sp_is_word (K : PySem.W.Frag) : Sp := fun vs H Q _ => ∃ (n : Nat) (v : V) (kd : String), vs = [.int n, v] ∧ 1 ≤ n ∧ n ≤ 32 ∧ Knd K H v kd ∧ Q (.bl (withinV v 0 (2 ^ n - 1))) H
theorem ok_is_word (T : Txt K mg) : FnOk P w K mg base CX0 5 T.is_word.f T.is_word.fd ["width", "value"] (sp_is_word K) := by
  refine T.is_word.F.ok sc_is_word (fun vs H Q E h => ?_) (fun cdv A outer s H vs Q E hr h => ?_)
  · obtain ⟨n, v, kd, rfl, _⟩ := h
    rfl
  · obtain ⟨n, v, kd, rfl, h1, h2, hk, q⟩ := h
    refine ⟨_, (pss_cons (ps_expr (pe_call (ok_require_width T) (hr.mono (by decide)) (by rfl) T.require_width.g T.require_width.F.kp T.require_width.b .nil pass0 (pa_cons (pv 0) pa_nil))) 
      (pss_one (ps_ret (pe_call (ok_is_word_in_g T) (hr.mono (by decide)) (by rfl) T.is_word_in.g T.is_word_in.F.kp T.is_word_in.b .nil pass0 (pa_cons (pv 0) (pa_cons (pv 1) pa_nil)))))), ?_⟩
    exact ⟨_, rfl, n, rfl, h1, h2, _, rfl, _, rfl, n, v, kd, rfl, by omega, hk, q⟩
def sp_bits_of_word (K : PySem.W.Frag) : Sp := fun vs H Q _ => ∃ (n : Nat) (x : Int), vs = [.int n, .int x] ∧ 1 ≤ n ∧ n ≤ 32 ∧ 0 ≤ x ∧ x < 2 ^ n ∧ NewT K ((bitsI n x).map V.int) H Q
theorem ok_bits_of_word (T : Txt K mg) : FnOk P w K mg base CX0 6 T.bits_of_word.f T.bits_of_word.fd ["width", "word"] (sp_bits_of_word K) := by
  refine T.bits_of_word.F.ok sc_bits_of_word (fun vs H Q E h => ?_) (fun cdv A outer s H vs Q E hr h => ?_)
  · obtain ⟨n, x, rfl, _⟩ := h
    rfl
  · obtain ⟨n, x, rfl, h1, h2, h3, h4, q⟩ := h
    refine ⟨_, (pss_cons (ps_expr (pe_call (ok_require_one_word T) (hr.mono (by decide)) (by rfl) T.require_one_word.g T.require_one_word.F.kp T.require_one_word.b .nil pass0 (pa_cons (pv 0) (pa_cons (pv 1) pa_nil)))) 
      (pss_one (ps_ret (pe_call (ok_bits_in T) (hr.mono (by decide)) (by rfl) T.bits_in.g T.bits_in.F.kp T.bits_in.b .nil pass0 (pa_cons (pv 0) (pa_cons (pv 1) pa_nil)))))), ?_⟩
    exact ⟨_, rfl, _, rfl, n, x, rfl, h1, h2, h3, h4, _, rfl, _, rfl, n, x, rfl, by omega, q⟩
def sp_word_of_bits (K : PySem.W.Frag) : Sp := fun vs H Q _ => ∃ (a : Addr) (bs : List Int), vs = [.ref a] ∧ SqT K H a (bs.map V.int) ∧ 1 ≤ bs.length ∧ bs.length ≤ 32 ∧ (∀ b ∈ bs, b = 0 ∨ b = 1) ∧ ∀ H', Same H H' → Q (.int (ofBits bs)) H'
theorem ok_word_of_bits (T : Txt K mg) : FnOk P w K mg base CX0 5 T.word_of_bits.f T.word_of_bits.fd ["bits"] (sp_word_of_bits K) := by
  refine T.word_of_bits.F.ok sc_word_of_bits (fun vs H Q E h => ?_) (fun cdv A outer s H vs Q E hr h => ?_)
  · obtain ⟨a, bs, rfl, _⟩ := h
    rfl
  · obtain ⟨a, bs, rfl, hT, h1, h2, hb, q⟩ := h
    refine ⟨_, (pss_cons (ps_if (PW.pt (pw_or (pt_not (pt_val (pe_callB call_isiK (by rfl) T.z_isinstance (by decide +kernel) (pa_cons (pv 0) (pa_cons (pe_bltn (v := .ty "tuple") (by rfl) T.z_tuple (by decide +kernel) rfl) pa_nil))))) (pw_or (pt_not (pt_chain op_le op_le pe_int (pe_callB call_len_seq (by rfl) T.z_len PySem.boot_len (pa_cons (pv 0) pa_nil)) (pe_glob rfl T.MAX_WIDTH.g T.MAX_WIDTH.r))) (pw_or1 (pt_not (pt_val (pe_call (ok_are_bits T) (hr.mono (by decide)) (by rfl) T.are_bits.g T.are_bits.F.kp T.are_bits.b .nil pass0 (pa_cons (pv 0) (pa_cons (pe_callB call_len_seq (by rfl) T.z_len PySem.boot_len (pa_cons (pv 0) pa_nil)) pa_nil))))))))) 
        (pss_one ps_never) pss_nil) 
      (pss_one (ps_ret (pe_call (ok_word_in T) (hr.mono (by decide)) (by rfl) T.word_in.g T.word_in.F.kp T.word_in.b .nil pass0 (pa_cons (pv 0) pa_nil))))), ?_⟩
    refine ⟨_, rfl, _, _, _, rfl, .t hT, by decide, true, rfl, iteF ?_⟩
    have l1 : ((bs.map V.int).length : Int) = bs.length := by rw [List.length_map]
    refine ⟨_, rfl, a, _, rfl, .inr hT, 1, _, rfl, rfl, _, rfl, iteB (decide_eq_true (by omega)) ⟨_, _, rfl, rfl, _, rfl, iteN (decide_eq_true (by omega)) ?_⟩⟩
    refine ⟨_, rfl, _, rfl, a, _, rfl, .inr hT, a, bs, bs.length, by rw [List.length_map]; rfl, hT, rfl, by omega, hb, fun H1 s1 => ⟨true, rfl, iteF ?_⟩⟩
    exact ⟨_, rfl, a, bs, rfl, sT s1 hT, by omega, hb, fun H2 s2 => q H2 (s1.trans s2)⟩
def sp_put_together (K : PySem.W.Frag) : Sp := fun vs H Q _ => ∃ (a : Addr) (rs : List V) (ps : List (Nat × Int)), vs = [.ref a] ∧ SqT K H a rs ∧ Parts K H rs ps ∧ (∀ p ∈ ps, PartOk p) ∧ 1 ≤ ps.length ∧ wid ps ≤ 32 ∧ NewT K [.int (wid ps), .int (put ps)] H Q
def partD (p : Nat × Int) : PyData := .tuple [.int p.1, .int p.2]
theorem Parts.dp {H : Hp} : ∀ {rs : List V} {ps : List (Nat × Int)}, Parts K H rs ps → DpAll K H rs (ps.map partD)
  | [], [], _ => .nil
  | [], _ :: _, h => by cases h.len
  | _ :: _, [], h => by cases h.len
  | r :: rs, p :: ps, h => by
    obtain ⟨a, rfl, t⟩ := h.at' 0 r p rfl rfl
    exact .cons (dp2 t) (Parts.dp ⟨Nat.succ.inj h.len, fun i r p e1 e2 => h.at' (i + 1) r p e1 e2⟩)
theorem partD_ok (ps : List (Nat × Int)) : OkD 2 (.tuple (ps.map partD)) := .tup fun d hd => by
  obtain ⟨p, _, rfl⟩ := List.mem_map.mp hd
  exact .pair _ _
theorem wid_len {ps : List (Nat × Int)} (h : ∀ p ∈ ps, PartOk p) : ps.length ≤ wid ps := by
  induction ps with
  | nil => exact Nat.zero_le _
  | cons p r ih =>
    have h1 := (h p (List.mem_cons_self ..)).1
    have h2 := ih fun q hq => h q (List.mem_cons_of_mem _ hq)
    show r.length + 1 ≤ p.1 + wid r
    omega
theorem ok_put_together (T : Txt K mg) : FnOk P w K mg base CX0 5 T.put_together.f T.put_together.fd ["parts"] (sp_put_together K) := by
  refine T.put_together.F.ok sc_put_together (fun vs H Q E h => ?_) (fun cdv A outer s H vs Q E hr h => ?_)
  · obtain ⟨a, rs, ps, rfl, _⟩ := h
    rfl
  · obtain ⟨a, rs, ps, rfl, hT, hP, hok, h1, h2, q⟩ := h
    have hlen := wid_len hok
    have hrl := hP.len
    refine ⟨_, (pss_cons (ps_if (PW.pt (pw_or (pt_not (pt_val (pe_callB call_isiK (by rfl) T.z_isinstance (by decide +kernel) (pa_cons (pv 0) (pa_cons (pe_bltn (v := .ty "tuple") (by rfl) T.z_tuple (by decide +kernel) rfl) pa_nil))))) (pw_or (pt_cmpR (op_eqD hr.units) (pv 0) (pe_tupA pa_nil) (nomark _)) (pw_or1 (pt_not (pt_val (pe_callB (cr_all rfl) (by rfl) T.z_all (by decide +kernel) (pa_cons (pe_lc (own := [("part", 3)]) (by rfl) sc_put_together.nd (pi_tup (pv 0)) (blkOk_by (own := [("part", 3)]) (N := ["parts", "many", "word", "part"]) (sc := defScope s_put_together) (by decide +kernel)) (fun _ _ _ _ _ => (pg_name (i := 3) sc_put_together.nd rfl (.inl rfl))) (fun _ _ _ _ _ => pts_nil) (fun _ _ _ _ _ => (pe_call (ok_is_part T) (hr.mono (by decide)) (by rfl) T.is_part.g T.is_part.F.kp T.is_part.b .nil pass0 (pa_cons (pv 3) pa_nil)))) pa_nil)))))))) 
        (pss_one ps_never) pss_nil) 
      (pss_cons (ps_if (pt_cmpR op_gt (pe_callB (cr_sum rfl) (by rfl) T.z_sum (by decide +kernel) (pa_cons (pe_lc (own := [("many", 1), ("word", 2)]) (g := gTup K 2 (gCons (gName 1) (gCons (gName 2) gNil))) (by rfl) sc_put_together.nd (pi_tup (pv 0)) (blkOk_by (own := [("many", 1), ("word", 2)]) (N := ["parts", "many", "word", "part"]) (sc := defScope s_put_together) (by decide +kernel)) (fun _ _ _ _ _ => (pg_tup rfl (pgs_cons (pg_name (i := 1) sc_put_together.nd rfl (.inl rfl)) (pgs_cons (pg_name (i := 2) sc_put_together.nd rfl (.inl rfl)) pgs_nil)))) (fun _ _ _ _ _ => pts_nil) (fun _ _ _ _ _ => (pv 1))) pa_nil)) (pe_glob rfl T.MAX_WIDTH.g T.MAX_WIDTH.r) (nomark _)) 
        (pss_one ps_never) pss_nil) 
      (pss_one (ps_ret (pe_call (ok_put_together_in T) (hr.mono (by decide)) (by rfl) T.put_together_in.g T.put_together_in.F.kp T.put_together_in.b .nil pass0 (pa_cons (pv 0) pa_nil)))))), ?_⟩
    refine ⟨_, rfl, _, _, _, rfl, .t hT, by decide, true, rfl, iteF ?_⟩
    refine ⟨_, rfl, sz, fun e H0 s0 e0 => ⟨.tuple (ps.map partD), .tuple [], .tup (sT s0 hT) (hP.same s0).dp, .tup e0 .nil, (partD_ok ps).sh, rfl, _, rfl, ?_⟩⟩
    have ne : PyData.eqv (.tuple (ps.map partD)) (.tuple []) = false := by
      cases ps with
      | nil => simp at h1
      | cons p r => rfl
    refine iteBF ne ?_
    refine ⟨_, rfl, a, rfl, ⟨_, sT s0 hT⟩, lc_tupF (sT s0 hT) (fun v => some (V.bl true)) (by omega) ?_ fun D H1 s1 e1 _ => ?_⟩
    · intro i x H' hx sm R N hR _
      obtain ⟨p, b, hp, rfl, ht⟩ := hP.get hx
      exact ⟨rfl, _, rfl, b, p, rfl, sT sm (sT s0 ht), hok _ (List.mem_of_getElem? hp), hR _ _ rfl (Same.refl _)⟩
    rw [filterMap_some] at e1
    have ea : (rs.map fun _ => true).all id = true := by
      rw [List.all_map, List.all_eq_true]
      intro x _
      rfl
    refine ⟨D, rs.map fun _ => true, rfl, SqL.of (by rw [List.map_map]; exact e1), _, rfl, iteN ea ?_⟩
    have s01 := s0.trans s1
    -- the sum
    refine ⟨_, rfl, a, rfl, ⟨_, sT s01 hT⟩, lc_tupY (ys := (ps.map fun p => (p.1 : Int)).map V.int) (sT s01 hT) (by rw [List.length_map, List.length_map, hrl]) (by omega) ?_ fun D2 H2 s2 e2 _ => ?_⟩
    · intro i x y H' hx hy sm R N hR
      obtain ⟨p, b, hp, rfl, ht⟩ := hP.get hx
      rw [List.map_map, List.getElem?_map, hp] at hy
      cases hy
      exact ⟨b, _, rfl, sT sm (sT s01 ht), rfl, _, _, rfl, _, [], rfl, rfl, rfl, _, rfl, hR _ (Same.refl _)⟩
    refine ⟨D2, _, rfl, SqL.of e2, _, _, rfl, rfl, _, rfl, iteBF (decide_eq_false ?_) ?_⟩
    · rw [wid_sum]
      omega
    exact ⟨_, rfl, a, rs, ps, rfl, sT (s01.trans s2) hT, hP.same (s01.trans s2), hok, by omega, fun p H3 s3 e3 => q p H3 ((s01.trans s2).trans s3) e3⟩
def sp_widened (K : PySem.W.Frag) : Sp := fun vs H Q _ => ∃ (n : Nat) (x : Int) (m : Nat), vs = [.int n, .int x, .int m] ∧ 1 ≤ n ∧ n ≤ m ∧ m ≤ 32 ∧ 0 ≤ x ∧ x < 2 ^ n ∧ Q (.int x) H
theorem ok_widened (T : Txt K mg) : FnOk P w K mg base CX0 6 T.widened.f T.widened.fd ["width", "word", "wider"] (sp_widened K) := by
  refine T.widened.F.ok sc_widened (fun vs H Q E h => ?_) (fun cdv A outer s H vs Q E hr h => ?_)
  · obtain ⟨n, x, m, rfl, _⟩ := h
    rfl
  · obtain ⟨n, x, m, rfl, h1, h2, h3, h4, h5, q⟩ := h
    refine ⟨_, (pss_cons (ps_expr (pe_call (ok_require_one_word T) (hr.mono (by decide)) (by rfl) T.require_one_word.g T.require_one_word.F.kp T.require_one_word.b .nil pass0 (pa_cons (pv 0) (pa_cons (pv 1) pa_nil)))) 
      (pss_cons (ps_expr (pe_call (ok_require_within T) (hr.mono (by decide)) (by rfl) T.require_within.g T.require_within.F.kp T.require_within.b .nil pass0 (pa_cons (pv 2) (pa_cons (pv 0) (pa_cons (pe_glob rfl T.MAX_WIDTH.g T.MAX_WIDTH.r) pa_nil))))) 
      (pss_one (ps_ret (pv 1))))), ?_⟩
    exact ⟨_, rfl, _, rfl, n, x, rfl, h1, by omega, h4, h5, _, rfl, _, rfl, m, n, 32, rfl, by omega, by omega, _, rfl, q⟩
def sp_lengthened (K : PySem.W.Frag) : Sp := fun vs H Q _ => ∃ (n : Nat) (x : Int) (m : Nat), vs = [.int n, .int x, .int m] ∧ 1 ≤ n ∧ n ≤ m ∧ m ≤ 32 ∧ 0 ≤ x ∧ x < 2 ^ n ∧ Q (.int (sgn n x % 2 ^ m)) H
theorem ok_lengthened (T : Txt K mg) : FnOk P w K mg base CX0 6 T.lengthened.f T.lengthened.fd ["width", "word", "wider"] (sp_lengthened K) := by
  refine T.lengthened.F.ok sc_lengthened (fun vs H Q E h => ?_) (fun cdv A outer s H vs Q E hr h => ?_)
  · obtain ⟨n, x, m, rfl, _⟩ := h
    rfl
  · obtain ⟨n, x, m, rfl, h1, h2, h3, h4, h5, q⟩ := h
    refine ⟨_, (pss_cons (ps_expr (pe_call (ok_require_one_word T) (hr.mono (by decide)) (by rfl) T.require_one_word.g T.require_one_word.F.kp T.require_one_word.b .nil pass0 (pa_cons (pv 0) (pa_cons (pv 1) pa_nil)))) 
      (pss_cons (ps_expr (pe_call (ok_require_within T) (hr.mono (by decide)) (by rfl) T.require_within.g T.require_within.F.kp T.require_within.b .nil pass0 (pa_cons (pv 2) (pa_cons (pv 0) (pa_cons (pe_glob rfl T.MAX_WIDTH.g T.MAX_WIDTH.r) pa_nil))))) 
      (pss_one (ps_ret (pe_call (ok_lengthened_in T) (hr.mono (by decide)) (by rfl) T.lengthened_in.g T.lengthened_in.F.kp T.lengthened_in.b .nil pass0 (pa_cons (pv 0) (pa_cons (pv 1) (pa_cons (pv 2) pa_nil)))))))), ?_⟩
    exact ⟨_, rfl, _, rfl, n, x, rfl, h1, by omega, h4, h5, _, rfl, _, rfl, m, n, 32, rfl, by omega, by omega, _, rfl, _, rfl, _, rfl, n, x, m, rfl, h1, by omega, by omega, q⟩
end
end TB
namespace TB
open PySem PySem.Spec PyProof.Rows L2
section
variable {P : Program} {w : World} {K : PySem.W.Frag} {mg : Str → Option Value} {base : Heap}
def sp__law_dice (K : PySem.W.Frag) : Sp := fun vs H Q _ => ∃ (a : Addr) (ns : List Int) (i : Nat), vs = [.ref a, .int i] ∧ SqL K H a (ns.map V.int) ∧ ∀ x y z : Int, NewL [.int x, .int y, .int z] H Q
theorem ok__law_dice (T : Txt K mg) : FnOk P w K mg base CX0 1 T._law_dice.f T._law_dice.fd ["_law_script", "_law_at"] (sp__law_dice K) := by
  refine T._law_dice.F.ok sc__law_dice (fun vs H Q E h => ?_) (fun cdv A outer s H vs Q E hr h => ?_)
  · obtain ⟨a, ns, i, rfl, _⟩ := h
    rfl
  · obtain ⟨a, ns, i, rfl, hS, q⟩ := h
    refine ⟨_, (pss_cons (ps_set (i := 2) sc__law_dice.nd rfl (.inl rfl) (pe_op op_add (pe_op op_mul pe_int (pv 1)) pe_int)) 
      (pss_cons (ps_if (pt_cmpR op_lt (pv 1) (pe_callB call_len_seq (by rfl) T.z_len PySem.boot_len (pa_cons (pv 0) pa_nil)) (nomark _)) 
        (pss_one (ps_set (i := 2) sc__law_dice.nd rfl (.inl rfl) (pe_ix ix_list (pv 0) (pv 1) (fun _ _ => rfl)))) pss_nil) 
      (pss_cons (ps_set (i := 3) sc__law_dice.nd rfl (.inl rfl) (pe_op op_mod (pe_callTy call_int1 (by rfl) T.z_int (by decide +kernel) (pa_cons (pe_callB call_abs (by rfl) T.z_abs (by decide +kernel) (pa_cons (pv 2) pa_nil)) pa_nil)) (pe_op op_powW (pe_op op_pow pe_int pe_int) pe_int))) 
      (pss_cons (ps_set (i := 4) sc__law_dice.nd rfl (.inl rfl) (pe_op op_fdivW (pv 3) (pe_op op_pow pe_int pe_int))) 
      (pss_cons (ps_set (i := 5) sc__law_dice.nd rfl (.inl rfl) (pe_op op_add (pe_op op_add (pe_op op_add (pe_op op_mul (pe_op op_mod (pv 3) pe_int) pe_int) (pe_op op_mul pe_int (pv 1))) (pe_op op_mul pe_int (pe_callTy call_int1 (by rfl) T.z_int (by decide +kernel) (pa_cons (pe_cmpR op_lt (pv 2) pe_int (nomark _)) pa_nil)))) pe_int)) 
      (pss_one (ps_ret (pe_lstA (pa_cons (pv 4) (pa_cons (pe_op op_mod (pv 5) pe_int) (pa_cons pe_int pa_nil))))))))))), ?_⟩
    refine ⟨_, rfl, 127, i, rfl, rfl, .inl (by decide), _, _, rfl, rfl, ?_⟩
    refine ⟨_, rfl, _, rfl, a, _, rfl, .inl hS, _, _, rfl, rfl, _, rfl, ite3 (fun e => ?_) (fun e => ?_)⟩
    · have hi : i < ns.length := by
        have := of_decide_eq_true e
        rw [List.length_map] at this
        omega
      refine ⟨_, rfl, _, rfl, a, _, i, .int ns[i], rfl, rfl, hS, atI_nat (by rw [List.getElem?_map, List.getElem?_eq_getElem hi]; rfl), ?_⟩
      refine ⟨_, rfl, _, rfl, .inl ⟨_, rfl, _, _, rfl, rfl, ⟨by decide, by decide, by decide⟩, _, _, rfl, rfl, ⟨by decide, by decide⟩, _, _, rfl, rfl, (show (0 : Int) < (10 ^ 62) ^ 10 by decide +kernel), ?_⟩⟩
      refine ⟨_, rfl, 10, 18, rfl, rfl, ⟨by decide, by decide, by decide⟩, _, _, rfl, rfl, ⟨by decide, by decide⟩, ?_⟩
      refine ⟨_, rfl, _, _, rfl, rfl, p0, _, _, rfl, rfl, cmulR, _, rfl, _, _, rfl, rfl, cmulL, _, _, rfl, rfl, _, rfl, _, _, rfl, rfl, .inr ⟨_, rfl, _, _, rfl, rfl, cmulL, _, _, rfl, rfl, _, _, rfl, rfl, ?_⟩⟩
      exact ⟨_, rfl, _, rfl, _, _, rfl, rfl, p0, sz, q _ _ _⟩
    · refine ⟨_, rfl, _, rfl, .inl ⟨_, rfl, _, _, rfl, rfl, ⟨by decide, by decide, by decide⟩, _, _, rfl, rfl, ⟨by decide, by decide⟩, _, _, rfl, rfl, (show (0 : Int) < (10 ^ 62) ^ 10 by decide +kernel), ?_⟩⟩
      refine ⟨_, rfl, 10, 18, rfl, rfl, ⟨by decide, by decide, by decide⟩, _, _, rfl, rfl, ⟨by decide, by decide⟩, ?_⟩
      refine ⟨_, rfl, _, _, rfl, rfl, p0, _, _, rfl, rfl, cmulR, _, rfl, _, _, rfl, rfl, cmulL, _, _, rfl, rfl, _, rfl, _, _, rfl, rfl, .inr ⟨_, rfl, _, _, rfl, rfl, cmulL, _, _, rfl, rfl, _, _, rfl, rfl, ?_⟩⟩
      exact ⟨_, rfl, _, rfl, _, _, rfl, rfl, p0, sz, q _ _ _⟩
def sp__law_roll (K : PySem.W.Frag) : Sp := fun vs H Q _ => ∃ (d : Addr) (n : Int), vs = [.ref d, .int n] ∧ Dice H d ∧ 0 < n ∧ n ≤ 2 ^ 64 ∧ ∀ r H', 0 ≤ r → r < n → Ext d H H' → Q (.int r) H'
theorem ok__law_roll (T : Txt K mg) : FnOk P w K mg base CX0 1 T._law_roll.f T._law_roll.fd ["_law_dice_here", "_law_total"] (sp__law_roll K) := by
  refine T._law_roll.F.ok sc__law_roll (fun vs H Q E h => ?_) (fun cdv A outer s H vs Q E hr h => ?_)
  · obtain ⟨d, n, rfl, _⟩ := h
    rfl
  · obtain ⟨d, n, rfl, ⟨x, y, z, hd⟩, h0, h1, q⟩ := h
    have sz : sizeLine = 16777216 := sizeLine_eq
    have f0 : ∀ {x y z : Int}, atI [V.int x, V.int y, V.int z] 0 = some (.int x) := rfl
    have f1 : ∀ {x y z : Int}, atI [V.int x, V.int y, V.int z] 1 = some (.int y) := rfl
    have f2 : ∀ {x y z : Int}, atI [V.int x, V.int y, V.int z] 2 = some (.int z) := rfl
    refine ⟨_, (pss_cons (ps_set (i := 2) sc__law_roll.nd rfl (.inl rfl) (pe_callTy call_int1 (by rfl) T.z_int (by decide +kernel) (pa_cons (pv 1) pa_nil))) 
      (pss_cons (ps_if (pt_cmpR op_gt (pe_ix ix_list (pv 0) pe_int (fun _ _ => rfl)) pe_int (nomark _)) 
        (pss_cons (ps_set (i := 3) sc__law_roll.nd rfl (.inl rfl) (pe_op op_mod (pe_ix ix_list (pv 0) pe_int (fun _ _ => rfl)) (pv 2))) 
        (pss_cons (ps_asg (pe_op op_fdivW (pe_ix ix_list (pv 0) pe_int (fun _ _ => rfl)) (pv 2)) (pg_sub (pv 0) pe_int set_list)) 
        (pss_one (ps_ret (pe_callTy call_int1 (by rfl) T.z_int (by decide +kernel) (pa_cons (pv 3) pa_nil)))))) pss_nil) 
      (pss_cons (ps_asg (pe_op op_add (pe_ix ix_list (pv 0) pe_int (fun _ _ => rfl)) pe_int) (pg_sub (pv 0) pe_int set_list)) 
      (pss_cons (ps_set (i := 4) sc__law_roll.nd rfl (.inl rfl) (pe_op op_mod (pe_op op_add (pe_ix ix_list (pv 0) pe_int (fun _ _ => rfl)) (pe_op op_mul pe_int (pe_ix ix_list (pv 0) pe_int (fun _ _ => rfl)))) pe_int)) 
      (pss_cons (ps_set (i := 5) sc__law_roll.nd rfl (.inl rfl) (pe_op op_add (pe_op op_mul (pe_op op_mod (pe_op op_mul (pv 4) (pv 4)) pe_int) (pv 4)) (pe_op op_mul pe_int (pe_ix ix_list (pv 0) pe_int (fun _ _ => rfl))))) 
      (pss_cons (ps_set (i := 5) sc__law_roll.nd rfl (.inl rfl) (pe_op op_mod (pv 5) pe_int)) 
      (pss_one (ps_ret (pe_callTy call_int1 (by rfl) T.z_int (by decide +kernel) (pa_cons (pe_op op_mod (pe_op op_fdiv (pv 5) pe_int) (pv 2)) pa_nil)))))))))), ?_⟩
    refine ⟨_, rfl, .inl ⟨_, rfl, ?_⟩⟩
    refine ⟨_, rfl, d, _, 0, _, rfl, rfl, SqL.of hd, f0, x, 0, rfl, rfl, _, rfl, ite3 (fun e => ?_) (fun e => ?_)⟩
    · have hw : CDivW x n := wide_div (b := 65) h0 (by omega) (by decide) (by decide)
      refine ⟨_, rfl, d, _, 0, _, rfl, rfl, SqL.of hd, f0, _, rfl, _, _, rfl, rfl, h0, ?_⟩
      refine ⟨_, rfl, d, _, 0, _, rfl, rfl, SqL.of hd, f0, _, rfl, _, _, rfl, rfl, hw, _, rfl, d, _, 0, 0, rfl, rfl, hd, rfl, ?_⟩
      exact ⟨_, rfl, .inl ⟨_, rfl, q _ _ (Int.emod_nonneg _ (by omega)) (Int.emod_lt_of_pos _ h0) Ext.roll⟩⟩
    · refine ⟨_, rfl, d, _, 2, _, rfl, rfl, SqL.of hd, f2, _, _, rfl, rfl, _, rfl, d, _, 2, 2, rfl, rfl, hd, rfl, ?_⟩
      have h2 : (upd H d (dl x y (z + 1))) d = some (dl x y (z + 1)) := upd_same
      refine ⟨_, rfl, d, _, 1, _, rfl, rfl, SqL.of h2, f1, _, rfl, d, _, 2, _, rfl, rfl, SqL.of h2, f2, 1000427, _, rfl, rfl, .inl (by decide), _, _, rfl, rfl, _, _, rfl, rfl, p0, ?_⟩
      have m0 := Int.emod_nonneg (y + 1000427 * (z + 1)) (by decide : (2305843009213693951 : Int) ≠ 0)
      have m1 := Int.emod_lt_of_pos (y + 1000427 * (z + 1)) (by decide : (0 : Int) < 2305843009213693951)
      refine ⟨_, rfl, _, rfl, _, _, rfl, rfl, .inl ⟨by omega, by omega⟩, _, _, rfl, rfl, p0, _, rfl, _, _, rfl, rfl, .inr ⟨by omega, by omega⟩, _, rfl, d, _, 2, _, rfl, rfl, SqL.of h2, f2, 9539, _, rfl, rfl, .inl (by decide), _, _, rfl, rfl, ?_⟩
      refine ⟨_, rfl, _, _, rfl, rfl, p0, ?_⟩
      exact ⟨_, rfl, _, _, rfl, rfl, cdiv, _, rfl, _, _, rfl, rfl, h0, .inl ⟨_, rfl, q _ _ (Int.emod_nonneg _ (by omega)) (Int.emod_lt_of_pos _ h0) Ext.roll⟩⟩
def sp__law_one_of (K : PySem.W.Frag) : Sp := fun vs H Q _ => ∃ (d a : Addr) (xs : List V), vs = [.ref d, .ref a] ∧ Dice H d ∧ a ≠ d ∧ H a = some (.lst xs) ∧ 0 < xs.length ∧ xs.length ≤ 100000 ∧ ∀ v H', v ∈ xs → Ext d H H' → Q v H'
theorem ok__law_one_of (T : Txt K mg) : FnOk P w K mg base CX0 2 T._law_one_of.f T._law_one_of.fd ["_law_dice_here", "_law_items"] (sp__law_one_of K) := by
  refine T._law_one_of.F.ok sc__law_one_of (fun vs H Q E h => ?_) (fun cdv A outer s H vs Q E hr h => ?_)
  · obtain ⟨d, a, xs, rfl, _⟩ := h
    rfl
  · obtain ⟨d, a, xs, rfl, hd, na, ha, h0, h1, q⟩ := h
    refine ⟨_, (pss_one (ps_ret (pe_ix ix_list (pv 1) (pe_call (ok__law_roll T) (hr.mono (by decide)) (by rfl) T._law_roll.g T._law_roll.F.kp T._law_roll.b .nil pass0 (pa_cons (pv 0) (pa_cons (pe_callB call_len_seq (by rfl) T.z_len PySem.boot_len (pa_cons (pv 1) pa_nil)) pa_nil))) (fun _ _ => rfl)))), ?_⟩
    refine ⟨_, rfl, _, rfl, _, rfl, a, _, rfl, .inl (SqL.of ha), d, xs.length, rfl, hd, by omega, by omega, fun r H1 r0 r1 x1 => ?_⟩
    have hi : r.toNat < xs.length := by omega
    have e : xs[r.toNat]? = some xs[r.toNat] := List.getElem?_eq_getElem hi
    exact ⟨a, xs, r, xs[r.toNat], rfl, rfl, SqL.of (x1.s _ _ na ha), at_of (by omega) e, q _ _ (List.getElem_mem hi) x1⟩
def sp__law_two_to (K : PySem.W.Frag) : Sp := fun vs H Q _ => ∃ n : Nat, vs = [.int n] ∧ n ≤ 1000000 ∧ Q (.int (2 ^ n)) H
theorem ok__law_two_to (T : Txt K mg) : FnOk P w K mg base CX0 1 T._law_two_to.f T._law_two_to.fd ["_law_bits_here"] (sp__law_two_to K) := by
  refine T._law_two_to.F.ok sc__law_two_to (fun vs H Q E h => ?_) (fun cdv A outer s H vs Q E hr h => ?_)
  · obtain ⟨n, rfl, _⟩ := h
    rfl
  · obtain ⟨n, rfl, hn, q⟩ := h
    refine ⟨_, (pss_cons (ps_set (i := 1) sc__law_two_to.nd rfl (.inl rfl) pe_int) 
      (pss_cons (ps_for PassesOwn.never rfl (pi_range1 (by rfl) T.z_range (pa_cons (pv 0) pa_nil)) (pg_name (i := 2) sc__law_two_to.nd rfl (.inl rfl)) 
        (pss_one (ps_set (i := 1) sc__law_two_to.nd rfl (.inl rfl) (pe_op op_mul pe_int (pv 1))))) 
      (pss_one (ps_ret (pv 1))))), ?_⟩
    refine ⟨_, rfl, _, rfl, by omega, by omega, for_rangeN (n := n) (fun i σ H' => ∃ y, σ = [some (.int n), some (.int (2 ^ i)), y] ∧ H' = H) ⟨none, rfl, rfl⟩ ?_ ?_⟩
    · rintro i σ H' hi ⟨y, rfl, rfl⟩
      exact ⟨_, rfl, 2, _, rfl, rfl, .inl (by decide), _, by rw [two_succ]; rfl, rfl⟩
    · rintro σ H' ⟨y, rfl, rfl⟩
      exact ⟨_, rfl, q⟩
def sp__law_word_drawn (K : PySem.W.Frag) : Sp := fun vs H Q _ => ∃ (d : Addr) (n : Nat), vs = [.ref d, .int n] ∧ Dice H d ∧ 1 ≤ n ∧ n ≤ 32 ∧ ∀ r H', 0 ≤ r → r < 2 ^ n → Ext d H H' → Q (.int r) H'
theorem ok__law_word_drawn (T : Txt K mg) : FnOk P w K mg base CX0 3 T._law_word_drawn.f T._law_word_drawn.fd ["_law_dice_here", "_law_width"] (sp__law_word_drawn K) := by
  refine T._law_word_drawn.F.ok sc__law_word_drawn (fun vs H Q E h => ?_) (fun cdv A outer s H vs Q E hr h => ?_)
  · obtain ⟨d, n, rfl, _⟩ := h
    rfl
  · obtain ⟨d, n, rfl, hd, h1, h2, q⟩ := h
    have hb := two32 h2
    have h0 : (2 : Int) ≤ 2 ^ n := two_mono (a := 1) h1
    refine ⟨_, (pss_cons (ps_set (i := 2) sc__law_word_drawn.nd rfl (.inl rfl) (pe_call (ok__law_two_to T) (hr.mono (by decide)) (by rfl) T._law_two_to.g T._law_two_to.F.kp T._law_two_to.b .nil pass0 (pa_cons (pv 1) pa_nil))) 
      (pss_cons (ps_if (pt_cmpR op_eq (pe_call (ok__law_roll T) (hr.mono (by decide)) (by rfl) T._law_roll.g T._law_roll.F.kp T._law_roll.b .nil pass0 (pa_cons (pv 0) (pa_cons pe_int pa_nil))) pe_int (nomark _)) 
        (pss_one (ps_ret (pe_call (ok__law_one_of T) (hr.mono (by decide)) (by rfl) T._law_one_of.g T._law_one_of.F.kp T._law_one_of.b .nil pass0 (pa_cons (pv 0) (pa_cons (pe_lstA (pa_cons pe_int (pa_cons pe_int (pa_cons (pe_op op_sub (pv 2) pe_int) (pa_cons (pe_op op_fdiv (pv 2) pe_int) (pa_cons (pe_op op_sub (pe_op op_fdiv (pv 2) pe_int) pe_int) pa_nil)))))) pa_nil))))) pss_nil) 
      (pss_one (ps_ret (pe_call (ok__law_roll T) (hr.mono (by decide)) (by rfl) T._law_roll.g T._law_roll.F.kp T._law_roll.b .nil pass0 (pa_cons (pv 0) (pa_cons (pv 2) pa_nil))))))), ?_⟩
    refine ⟨_, rfl, n, rfl, by omega, ?_⟩
    refine ⟨_, rfl, d, 2, rfl, hd, by decide, by decide, fun r H1 r0 r1 x1 => ⟨rfl, _, rfl, ite3 (fun e => ?_) (fun e => ?_)⟩⟩
    · refine ⟨_, rfl, _, rfl, _, _, rfl, rfl, _, rfl, _, _, rfl, rfl, cdiv, _, rfl, _, _, rfl, rfl, cdiv, _, _, rfl, rfl, sz, fun p H2 s2 e2 np => ?_⟩
      have x2 := x1.same s2
      refine ⟨d, p, _, rfl, x2.d, x1.d.ne np, e2, by show 0 < 5; decide, by show 5 ≤ 100000; decide, fun v H3 hv x3 => ?_⟩
      simp only [List.mem_cons, List.not_mem_nil, or_false] at hv
      rcases hv with rfl | rfl | rfl | rfl | rfl <;> exact q _ _ (by omega) (by omega) (x2.trans x3)
    · exact ⟨_, rfl, _, rfl, d, _, rfl, x1.d, by omega, by omega, fun r H2 r0 r1 x2 => q _ _ r0 r1 (x1.trans x2)⟩
def sp__law_bits (K : PySem.W.Frag) : Sp := fun vs H Q _ => ∃ (n : Nat) (x : Int), vs = [.int n, .int x] ∧ n ≤ 100000 ∧ NewL ((bitsI n x).map V.int) H Q
theorem ok__law_bits (T : Txt K mg) : FnOk P w K mg base CX0 1 T._law_bits.f T._law_bits.fd ["_law_width", "_law_word"] (sp__law_bits K) := by
  refine T._law_bits.F.ok sc__law_bits (fun vs H Q E h => ?_) (fun cdv A outer s H vs Q E hr h => ?_)
  · obtain ⟨n, x, rfl, _⟩ := h
    rfl
  · obtain ⟨n, x, rfl, hn, q⟩ := h
    refine ⟨_, (pss_cons (ps_par (i := 2) (j := 3) rfl sc__law_bits.nd rfl rfl (by decide) rfl rfl (pa_cons (pe_lstA pa_nil) (pa_cons (pv 1) pa_nil)) (by rfl)) 
      (pss_cons (ps_for PassesOwn.never rfl (pi_range1 (by rfl) T.z_range (pa_cons (pv 0) pa_nil)) (pg_name (i := 4) sc__law_bits.nd rfl (.inl rfl)) 
        (pss_cons (ps_expr (pe_bm PySem.F.plainAttrs_list PySem.F.slot_list_append PySem.F.type_list_append mt_append (pv 2) (pa_cons (pe_op op_mod (pv 3) pe_int) pa_nil))) 
        (pss_one (ps_set (i := 3) sc__law_bits.nd rfl (.inl rfl) (pe_op op_fdiv (pv 3) pe_int))))) 
      (pss_one (ps_ret (pv 2))))), ?_⟩
    refine ⟨Nat.zero_le _, fun p H1 s1 e1 np => ⟨_, rfl, _, _, rfl, ?_⟩⟩
    refine ⟨_, rfl, _, rfl, by omega, by omega, for_rangeN (n := n) (fun i σ H' => ∃ y, σ = [some (.int n), some (.int x), some (.ref p), some (.int (x / 2 ^ i)), y] ∧ But p H1 H' ∧ H' p = some (.lst ((bitsI i x).map V.int))) ⟨none, by rw [Int.pow_zero, Int.ediv_one]; rfl, But.refl _ _, e1⟩ ?_ ?_⟩
    · rintro i σ H' hi ⟨y, rfl, b, e⟩
      refine ⟨_, rfl, .inl ⟨rfl, _, SqL.of e⟩, _, rfl, _, _, rfl, rfl, p0, p, _, _, rfl, rfl, e, ?_, ?_⟩
      · rw [List.length_map, bitsI_length, sizeLine_eq]
        omega
      · refine ⟨_, rfl, _, _, rfl, rfl, cdiv, some (.int i), ?_, b.trans But.mut, ?_⟩
        · rw [show (2 : Int) ^ (i + 1) = 2 ^ i * 2 from Int.pow_succ 2 i, ← Int.ediv_ediv_of_nonneg (Int.le_of_lt (two_pos i))]
          rfl
        · rw [upd_same, bitsI_snoc, List.map_append]
          rfl
    · rintro σ H' ⟨y, rfl, b, e⟩
      exact ⟨_, rfl, q p H' (Same.back np s1 b) e np⟩
def sp__law_of_bits (K : PySem.W.Frag) : Sp := fun vs H Q _ => ∃ (a : Addr) (bs : List Int), vs = [.ref a] ∧ (SqL K H a (bs.map V.int) ∨ SqT K H a (bs.map V.int)) ∧ ∀ H', Same H H' → Q (.int (ofBits bs)) H'
theorem ok__law_of_bits (T : Txt K mg) : FnOk P w K mg base CX0 1 T._law_of_bits.f T._law_of_bits.fd ["_law_bits_here"] (sp__law_of_bits K) := by
  refine T._law_of_bits.F.ok sc__law_of_bits (fun vs H Q E h => ?_) (fun cdv A outer s H vs Q E hr h => ?_)
  · obtain ⟨a, bs, rfl, _⟩ := h
    rfl
  · obtain ⟨a, bs, rfl, hS, q⟩ := h
    refine ⟨_, (pss_cons (ps_set (i := 1) sc__law_of_bits.nd rfl (.inl rfl) pe_int) 
      (pss_cons (ps_for PassesOwn.never rfl (pi_list (pe_revLA (pe_callTy call_listA (by rfl) T.z_list (by decide +kernel) (pa_cons (pv 0) pa_nil)))) (pg_name (i := 2) sc__law_of_bits.nd rfl (.inl rfl)) 
        (pss_one (ps_set (i := 1) sc__law_of_bits.nd rfl (.inl rfl) (pe_op op_add (pe_op op_mul pe_int (pv 1)) (pv 2))))) 
      (pss_one (ps_ret (pv 1))))), ?_⟩
    refine ⟨_, rfl, a, _, rfl, hS, fun l H1 s1 e1 _ => ⟨l, _, rfl, SqL.of e1, fun p H2 s2 e2 _ => ?_⟩⟩
    refine ⟨p, rfl, ⟨_, SqL.of e2⟩, for_list (K := K) (a := p) (xs := (bs.map V.int).reverse) (fun i σ H' => ∃ y, σ = [some (.ref a), some (.int (ofBits (bs.drop (bs.length - i)))), y] ∧ H' = H2) ⟨none, ?_, rfl⟩ ?_ ?_ ?_⟩
    · rw [Nat.sub_zero, List.drop_length]
      rfl
    · rintro i σ H' _ ⟨y, _, rfl⟩
      exact SqL.of e2
    · rintro i v σ H' hv ⟨y, rfl, rfl⟩
      rw [← List.map_reverse, List.getElem?_map] at hv
      cases e : bs.reverse[i]? with
      | none =>
        rw [e] at hv
        cases hv
      | some b =>
        rw [e] at hv
        cases hv
        refine ⟨_, rfl, 2, _, rfl, rfl, cmulL, _, rfl, _, _, rfl, rfl, some (.int b), ?_, rfl⟩
        rw [ofBits_rev bs i b e]
        rfl
    · rintro σ H' ⟨y, rfl, rfl⟩
      rw [List.length_reverse, List.length_map, Nat.sub_self, List.drop_zero]
      exact ⟨_, rfl, q _ (s1.trans s2)⟩
def sp__law_width_drawn (K : PySem.W.Frag) : Sp := fun vs H Q _ => ∃ d : Addr, vs = [.ref d] ∧ Dice H d ∧ ∀ (n : Nat) H', 1 ≤ n → n ≤ 32 → Ext d H H' → Q (.int n) H'
theorem ok__law_width_drawn (T : Txt K mg) : FnOk P w K mg base CX0 3 T._law_width_drawn.f T._law_width_drawn.fd ["_law_dice_here"] (sp__law_width_drawn K) := by
  refine T._law_width_drawn.F.ok sc__law_width_drawn (fun vs H Q E h => ?_) (fun cdv A outer s H vs Q E hr h => ?_)
  · obtain ⟨d, rfl, _⟩ := h
    rfl
  · obtain ⟨d, rfl, hd, q⟩ := h
    refine ⟨_, (pss_one (ps_ret (pe_call (ok__law_one_of T) (hr.mono (by decide)) (by rfl) T._law_one_of.g T._law_one_of.F.kp T._law_one_of.b .nil pass0 (pa_cons (pv 0) (pa_cons (pe_lstA (pa_cons pe_int (pa_cons pe_int (pa_cons pe_int (pa_cons pe_int (pa_cons pe_int (pa_cons pe_int (pa_cons pe_int (pa_cons pe_int (pa_cons pe_int (pa_cons (pe_op op_add pe_int (pe_call (ok__law_roll T) (hr.mono (by decide)) (by rfl) T._law_roll.g T._law_roll.F.kp T._law_roll.b .nil pass0 (pa_cons (pv 0) (pa_cons pe_int pa_nil)))) pa_nil))))))))))) pa_nil))))), ?_⟩
    refine ⟨_, rfl, _, rfl, d, 32, rfl, hd, by decide, by decide, fun r H1 r0 r1 x1 => ⟨1, r, rfl, rfl, sz, fun p H2 s2 e2 np => ?_⟩⟩
    have x2 := x1.same s2
    refine ⟨d, p, _, rfl, x2.d, x1.d.ne np, e2, by show 0 < 10; decide, by show 10 ≤ 100000; decide, fun v H3 hv x3 => ?_⟩
    have fin : ∀ m : Int, v = .int m → 1 ≤ m → m ≤ 32 → Q v H3 := fun m e m1 m2 => by
      have := q m.toNat _ (by omega) (by omega) (x2.trans x3)
      rw [show ((m.toNat : Nat) : Int) = m by omega] at this
      rw [e]
      exact this
    simp only [List.mem_cons, List.not_mem_nil, or_false] at hv
    rcases hv with h | h | h | h | h | h | h | h | h | h <;> exact fin _ h (by omega) (by omega)
theorem Parts.map {H H' : Hp} {rs : List V} {ps : List (Nat × Int)} (f : ∀ a xs, SqT K H a xs → SqT K H' a xs) (h : Parts K H rs ps) : Parts K H' rs ps := ⟨h.len, fun i r p e1 e2 => let ⟨a, e, t⟩ := h.at' i r p e1 e2; ⟨a, e, f _ _ t⟩⟩
theorem Parts.snoc {H : Hp} {rs : List V} {ps : List (Nat × Int)} {a : Addr} {p : Nat × Int} (h : Parts K H rs ps) (t : SqT K H a (partV p)) : Parts K H (rs ++ [.ref a]) (ps ++ [p]) := by
  refine ⟨by simp [h.len], fun i r q e1 e2 => ?_⟩
  by_cases hi : i < rs.length
  · rw [List.getElem?_append_left hi] at e1
    rw [List.getElem?_append_left (by rw [← h.len]; exact hi)] at e2
    exact h.at' i r q e1 e2
  · rw [List.getElem?_append_right (by omega)] at e1
    rw [List.getElem?_append_right (by rw [← h.len]; omega), ← h.len] at e2
    cases e : i - rs.length with
    | zero =>
      rw [e] at e1 e2
      cases e1
      cases e2
      exact ⟨a, rfl, t⟩
    | succ j =>
      rw [e] at e1
      cases e1
theorem Parts.take {H : Hp} {rs : List V} {ps : List (Nat × Int)} (h : Parts K H rs ps) (n : Nat) : Parts K H (rs.take n) (ps.take n) := by
  refine ⟨by rw [List.length_take, List.length_take, h.len], fun i r p e1 e2 => ?_⟩
  rw [List.getElem?_take] at e1 e2
  split at e1
  · rename_i hi
    rw [if_pos hi] at e2
    exact h.at' i r p e1 e2
  · cases e1
def sp__law_parts_right (K : PySem.W.Frag) : Sp := fun vs H Q _ => ∃ (d : Addr) (n : Nat) (x : Int), vs = [.ref d, .int n, .int x] ∧ Dice H d ∧ 1 ≤ n ∧ n ≤ 32 ∧ 0 ≤ x ∧ x < 2 ^ n ∧ ∀ H', Ext d H H' → Q (.bl true) H'
theorem ok__law_parts_right (T : Txt K mg) : FnOk P w K mg base CX0 7 T._law_parts_right.f T._law_parts_right.fd ["_law_dice_here", "_law_width", "_law_word"] (sp__law_parts_right K) := by
  refine T._law_parts_right.F.ok sc__law_parts_right (fun vs H Q E h => ?_) (fun cdv A outer s H vs Q E hr h => ?_)
  · obtain ⟨d, n, x, rfl, _⟩ := h
    rfl
  · obtain ⟨d, n, x, rfl, hd, n1, n2, x0, x1, q⟩ := h
    refine ⟨_, (pss_cons (ps_par (i := 3) (j := 4) rfl sc__law_parts_right.nd rfl rfl (by decide) rfl rfl (pa_cons pe_int (pa_cons (pe_lstA pa_nil) pa_nil)) (by rfl)) 
      (pss_cons (ps_while PassesOwn.never (pt_cmpR op_lt (pv 3) (pv 1) (nomark _)) 
        (pss_cons (ps_set (i := 5) sc__law_parts_right.nd rfl (.inl rfl) (pe_op op_add pe_int (pe_call (ok__law_roll T) (hr.mono (by decide)) (by rfl) T._law_roll.g T._law_roll.F.kp T._law_roll.b .nil pass0 (pa_cons (pv 0) (pa_cons (pe_op op_sub (pv 1) (pv 3)) pa_nil))))) 
        (pss_cons (ps_set (i := 6) sc__law_parts_right.nd rfl (.inl rfl) (pe_call (ok__law_of_bits T) (hr.mono (by decide)) (by rfl) T._law_of_bits.g T._law_of_bits.F.kp T._law_of_bits.b .nil pass0 (pa_cons (pe_slice sl_listA (pe_call (ok__law_bits T) (hr.mono (by decide)) (by rfl) T._law_bits.g T._law_bits.F.kp T._law_bits.b .nil pass0 (pa_cons (pv 1) (pa_cons (pv 2) pa_nil))) (po_some (pv 3)) (po_some (pe_op op_add (pv 3) (pv 5)))) pa_nil))) 
        (pss_cons (ps_if (pt_cmpR op_ne (pe_call (ok_cut T) (hr.mono (by decide)) (by rfl) T.cut.g T.cut.F.kp T.cut.b .nil pass0 (pa_cons (pv 1) (pa_cons (pv 2) (pa_cons (pv 3) (pa_cons (pv 5) pa_nil))))) (pv 6) (nomark _)) 
          (pss_one (ps_ret pe_bl)) pss_nil) 
        (pss_cons (ps_expr (pe_bm PySem.F.plainAttrs_list PySem.F.slot_list_append PySem.F.type_list_append mt_append (pv 4) (pa_cons (pe_tupA (pa_cons (pv 5) (pa_cons (pv 6) pa_nil))) pa_nil))) 
        (pss_one (ps_set (i := 3) sc__law_parts_right.nd rfl (.inl rfl) (pe_op op_add (pv 3) (pv 5))))))))) 
      (pss_one (ps_ret (pe_and (pe_cmpR (op_eqD hr.units) (pe_call (ok_put_together T) (hr.mono (by decide)) (by rfl) T.put_together.g T.put_together.F.kp T.put_together.b .nil pass0 (pa_cons (pe_callTy call_tupleA (by rfl) T.z_tuple (by decide +kernel) (pa_cons (pv 4) pa_nil)) pa_nil)) (pe_tupA (pa_cons (pv 1) (pa_cons (pv 2) pa_nil))) (nomark _)) (pe_one (pe_cmpR (op_eqD hr.units) (pe_call (ok_put_together T) (hr.mono (by decide)) (by rfl) T.put_together.g T.put_together.F.kp T.put_together.b .nil pass0 (pa_cons (pe_callTy call_tupleA (by rfl) T.z_tuple (by decide +kernel) (pa_cons (pe_slice sl_listA (pv 4) po_none (po_some pe_int)) pa_nil)) pa_nil)) (pe_ix ix_list (pv 4) pe_int (fun _ _ => rfl)) (nomark _)))))))), ?_⟩
    refine ⟨sz, fun l H0 s0 e0 nl => ⟨_, _, rfl, ?_⟩⟩
    have nld : l ≠ d := hd.ne nl
    refine ⟨fun m σ H' => ∃ (lo : Nat) (ps : List (Nat × Int)) (rs : List V) (y1 y2 : Option V), m = n - lo ∧ σ = [some (.ref d), some (.int n), some (.int x), some (.int lo), some (.ref l), y1, y2] ∧ lo ≤ n ∧
      (∀ b o, b ≠ l → b ≠ d → H0 b = some o → H' b = some o) ∧ Dice H' d ∧ H' l = some (.lst rs) ∧ Parts K H' rs ps ∧ (∀ p ∈ ps, PartOk p) ∧ wid ps = lo ∧ put ps = x % 2 ^ lo, ⟨n, 0, [], [], none, none, rfl, rfl, Nat.zero_le _, fun _ _ _ _ e => e, hd.same s0, e0, ⟨rfl, fun i r p e _ => nomatch e⟩, (fun p hp => nomatch hp), rfl, ?_⟩, ?_⟩
    · rw [Int.pow_zero, Int.emod_one]
      rfl
    rintro m σ H1 ⟨lo, ps, rs, y1, y2, rfl, rfl, hlo, bb, hd1, hl, hP, hok, hw, hput⟩
    refine ⟨_, rfl, _, rfl, lo, n, rfl, rfl, _, rfl, ite3 (fun e => ?_) (fun e => ?_)⟩
    · have hlt : lo < n := by
        have := of_decide_eq_true e
        omega
      refine ⟨fun σ' H' => ∃ m', m' < n - lo ∧ _, fun σ' H' h => h, ?_⟩
      refine ⟨_, rfl, _, rfl, _, rfl, _, _, rfl, rfl, d, _, rfl, hd1, by omega, by omega, fun r H2 r0 r1 x2 => ⟨1, r, rfl, rfl, ?_⟩⟩
      obtain ⟨m, hm⟩ : ∃ m : Nat, 1 + r = (m : Int) := ⟨(1 + r).toNat, by omega⟩
      rw [show (fun i j => V.int (i + j)) 1 r = V.int (m : Int) from congrArg V.int hm]
      have hm1 : 1 ≤ m := by omega
      have hmn : lo + m ≤ n := by omega
      have hl2 := x2.s _ _ nld hl
      have hP2 := hP.map (fun a xs h => x2.seqT hd1 h)
      -- due
      refine ⟨_, rfl, _, rfl, n, x, rfl, by omega, fun p H3 s3 e3 _ => ?_⟩
      refine ⟨_, rfl, lo, rfl, _, rfl, _, rfl, _, _, rfl, rfl, _, rfl, p, _, rfl, SqL.of e3, fun p4 H4 s4 e4 _ => ?_⟩
      rw [cut_mid _ _ _ (by rw [List.length_map, bitsI_length]; exact hmn), ← List.map_drop, ← List.map_take, bitsI_drop, bitsI_take _ _ _ (by omega)] at e4
      refine ⟨p4, _, rfl, .inl (SqL.of e4), fun H5 s5 => ?_⟩
      rw [ofBits_bitsI]
      have s25 := (s3.trans s4).trans s5
      -- cut
      refine ⟨_, rfl, _, rfl, _, rfl, _, rfl, n, x, lo, m, rfl, n1, n2, x0, x1, hm1, hmn, _, rfl, rfl, _, rfl, iteBF (neFI rfl) ?_⟩
      -- append
      have hl5 := s25 _ _ hl2
      refine ⟨_, rfl, .inl ⟨rfl, _, SqL.of hl5⟩, _, rfl, _, rfl, sz, fun t H6 s6 e6 => ⟨l, _, _, rfl, rfl, s6 _ _ hl5, ?_, ?_⟩⟩
      · have := hP.len
        have := wid_len hok
        exact szlt (by omega)
      refine ⟨_, rfl, _, rfl, _, _, rfl, rfl, ?_⟩
      have hl6 := s6 _ _ hl5
      have b6 : But l H6 (upd H6 l (.lst (rs ++ [.ref t]))) := But.mut
      have bit0 := Int.emod_nonneg (x / 2 ^ lo) (show (2 : Int) ^ m ≠ 0 by have := two_pos m; omega)
      have bit1 := Int.emod_lt_of_pos (x / 2 ^ lo) (two_pos m)
      refine ⟨n - (lo + m), by omega, lo + m, ps ++ [(m, x / 2 ^ lo % 2 ^ m)], rs ++ [.ref t], some (.int m), some (.int (x / 2 ^ lo % 2 ^ m)), rfl, ?_, hmn, fun b o nb1 nb2 eb => ?_, ?_, upd_same, ?_, ?_, ?_, ?_⟩
      · show _ = [some (V.ref d), some (V.int n), some (V.int x), some (V.int ((lo + m : Nat) : Int)), some (V.ref l), some (V.int m), some (V.int (x / 2 ^ lo % 2 ^ m))]
        rw [Int.natCast_add]
        rfl
      · rw [upd_ne nb1]
        exact s6 _ _ (s25 _ _ (x2.s _ _ nb2 (bb _ _ nb1 nb2 eb)))
      · obtain ⟨a1, a2, a3, ea⟩ := ((x2.same s25).same s6).d
        exact ⟨a1, a2, a3, by rw [upd_ne (Ne.symm nld)]; exact ea⟩
      · exact (Parts.snoc (p := (m, x / 2 ^ lo % 2 ^ m)) (hP2.same (s25.trans s6)) e6).map (fun a xs h => b6.seqT hl6 h)
      · intro p hp
        rcases List.mem_append.mp hp with hp | hp
        · exact hok p hp
        · rw [List.mem_singleton.mp hp]
          exact ⟨hm1, by show m ≤ 32; omega, bit0, bit1⟩
      · rw [wid_snoc, hw]
      · rw [put_snoc, hput, hw, mod_add]
        show x % 2 ^ lo + x / 2 ^ lo % 2 ^ m * 2 ^ lo = x % 2 ^ lo + 2 ^ lo * (x / 2 ^ lo % 2 ^ m)
        rw [Int.mul_comm]
    · have hge : lo = n := by
        have := of_decide_eq_false e
        omega
      subst hge
      rw [mod_small x0 x1] at hput
      have X1 : Ext d H H1 := ⟨fun b o nb eb => bb b o (ne_of_none eb nl) nb (s0 _ _ eb), hd1⟩
      have hpos : 1 ≤ ps.length := by
        cases ps with
        | nil =>
          have h0 : (0 : Nat) = lo := hw
          omega
        | cons p r => exact Nat.succ_le_succ (Nat.zero_le _)
      refine ⟨_, rfl, l, _, rfl, .inl (SqL.of hl), fun t H2 s2 e2 => ?_⟩
      refine ⟨t, rs, ps, rfl, e2, hP.same s2, hok, hpos, by omega, fun p3 H3 s3 e3 => ?_⟩
      refine ⟨_, rfl, _, rfl, sz, fun p4 H4 s4 e4 => ?_⟩
      refine ⟨_, _, dp2 (sT s4 e3), dp2 e4, rfl, rfl, true, congrArg V.bl (eqv2 (congrArg (fun z : Nat => (z : Int)) hw) hput), iteT ?_⟩
      have s14 := (s2.trans s3).trans s4
      -- the first part
      refine ⟨_, rfl, 1, rfl, l, _, rfl, SqL.of (s14 _ _ hl), fun p5 H5 s5 e5 _ => ?_⟩
      have ec : cutV rs none (some 1) = rs.take 1 := cut_to rs 1
      rw [ec] at e5
      refine ⟨p5, _, rfl, .inl (SqL.of e5), fun p6 H6 s6 e6 => ?_⟩
      have s16 := (s14.trans s5).trans s6
      cases ps with
      | nil => simp at hpos
      | cons p0 pr =>
        have hk0 := hok p0 (List.mem_cons_self ..)
        refine ⟨p6, rs.take 1, [p0], rfl, e6, (hP.same s16).take 1, fun p hp => by rw [List.mem_singleton.mp hp]; exact hk0, Nat.le_refl _, hk0.2.1, fun p7 H7 s7 e7 => ?_⟩
        have s17 := s16.trans s7
        obtain ⟨r0, rr, rfl⟩ : ∃ r0 rr, rs = r0 :: rr := by
          cases rs with
          | nil => cases hP.len
          | cons a b => exact ⟨a, b, rfl⟩
        obtain ⟨a0, rfl, ta⟩ := hP.at' 0 r0 p0 rfl rfl
        refine ⟨_, rfl, l, _, 0, _, rfl, rfl, SqL.of (s17 _ _ hl), atI_nat (j := 0) rfl, _, _, dp2 e7, dp2 (sT s17 ta), rfl, rfl, ?_⟩
        rw [eqv2 (show ((wid [p0] : Nat) : Int) = p0.1 from rfl) (show put [p0] = p0.2 by show p0.2 + 2 ^ p0.1 * 0 = p0.2; omega)]
        exact q _ (X1.same s17)
def sp__law_wider_right (K : PySem.W.Frag) : Sp := fun vs H Q _ => ∃ (d : Addr) (n : Nat) (x : Int), vs = [.ref d, .int n, .int x, .int (sgn n x)] ∧ Dice H d ∧ 1 ≤ n ∧ n ≤ 32 ∧ 0 ≤ x ∧ x < 2 ^ n ∧ ∀ H', Ext d H H' → Q (.bl true) H'
theorem ok__law_wider_right (T : Txt K mg) : FnOk P w K mg base CX0 7 T._law_wider_right.f T._law_wider_right.fd ["_law_dice_here", "_law_width", "_law_word", "_law_number"] (sp__law_wider_right K) := by
  refine T._law_wider_right.F.ok sc__law_wider_right (fun vs H Q E h => ?_) (fun cdv A outer s H vs Q E hr h => ?_)
  · obtain ⟨d, n, x, rfl, _⟩ := h
    rfl
  · obtain ⟨d, n, x, rfl, hd, n1, n2, x0, x1, q⟩ := h
    refine ⟨_, (pss_cons (ps_par (i := 4) (j := 5) rfl sc__law_wider_right.nd rfl rfl (by decide) rfl rfl (pa_cons (pe_op op_add (pv 1) (pe_call (ok__law_roll T) (hr.mono (by decide)) (by rfl) T._law_roll.g T._law_roll.F.kp T._law_roll.b .nil pass0 (pa_cons (pv 0) (pa_cons (pe_op op_sub pe_int (pv 1)) pa_nil)))) (pa_cons (pe_callTy call_tupleA (by rfl) T.z_tuple (by decide +kernel) (pa_cons (pe_call (ok__law_bits T) (hr.mono (by decide)) (by rfl) T._law_bits.g T._law_bits.F.kp T._law_bits.b .nil pass0 (pa_cons (pv 1) (pa_cons (pv 2) pa_nil))) pa_nil)) pa_nil)) (by rfl)) 
      (pss_cons (ps_set (i := 6) sc__law_wider_right.nd rfl (.inl rfl) (pe_call (ok_lengthened T) (hr.mono (by decide)) (by rfl) T.lengthened.g T.lengthened.F.kp T.lengthened.b .nil pass0 (pa_cons (pv 1) (pa_cons (pv 2) (pa_cons (pv 4) pa_nil))))) 
      (pss_cons (ps_if (PW.pt (pw_or (pt_cmpR op_ne (pe_call (ok_widened T) (hr.mono (by decide)) (by rfl) T.widened.g T.widened.F.kp T.widened.b .nil pass0 (pa_cons (pv 1) (pa_cons (pv 2) (pa_cons (pv 4) pa_nil)))) (pv 2) (nomark _)) (pw_or1 (pt_cmpR op_ne (pv 6) (pe_call (ok__law_of_bits T) (hr.mono (by decide)) (by rfl) T._law_of_bits.g T._law_of_bits.F.kp T._law_of_bits.b .nil pass0 (pa_cons (pe_op op_catU (pv 5) (pe_op op_repU (pe_tupA (pa_cons (pe_ix ix_tup (pv 5) (pe_un un_neg pe_int) (fun _ _ => rfl)) pa_nil)) (pe_op op_sub (pv 4) (pv 1)))) pa_nil)) (nomark _))))) 
        (pss_one (ps_ret pe_bl)) pss_nil) 
      (pss_one (ps_ret (pe_and (pe_cmpR op_eq (pe_call (ok_signed T) (hr.mono (by decide)) (by rfl) T.signed.g T.signed.F.kp T.signed.b .nil pass0 (pa_cons (pv 4) (pa_cons (pv 6) pa_nil))) (pv 3) (nomark _)) (pe_one (pe_cmpR op_eq (pe_call (ok_cut T) (hr.mono (by decide)) (by rfl) T.cut.g T.cut.F.kp T.cut.b .nil pass0 (pa_cons (pv 4) (pa_cons (pv 6) (pa_cons pe_int (pa_cons (pv 1) pa_nil))))) (pv 2) (nomark _))))))))), ?_⟩
    refine ⟨_, rfl, _, rfl, _, rfl, _, _, rfl, rfl, d, _, rfl, hd, by omega, by omega, fun r H1 r0 r1 xx1 => ⟨_, _, rfl, rfl, ?_⟩⟩
    obtain ⟨k, rfl⟩ : ∃ k : Nat, r = (k : Int) := ⟨r.toNat, by omega⟩
    refine ⟨_, rfl, _, rfl, n, x, rfl, by omega, fun p H2 s2 e2 _ => ⟨p, _, rfl, .inl (SqL.of e2), fun b H3 s3 e3 => ⟨_, _, rfl, ?_⟩⟩⟩
    rw [show (fun i j => V.int (i + j)) (n : Int) (k : Int) = V.int ((n + k : Nat) : Int) from congrArg V.int (by omega)]
    have X3 := (xx1.same s2).same s3
    refine ⟨_, rfl, _, rfl, _, rfl, n, x, n + k, rfl, n1, by omega, by omega, x0, x1, ?_⟩
    refine ⟨_, rfl, _, rfl, _, rfl, n, x, n + k, rfl, n1, by omega, by omega, x0, x1, _, rfl, rfl, _, rfl, iteBF (neFI rfl) ?_⟩
    have last : atI ((bitsI n x).map V.int) (-1) = some (.int (x / 2 ^ (n - 1) % 2)) := by
      have e : bitsI n x = bitsI (n - 1) x ++ [x / 2 ^ (n - 1) % 2] := by
        rw [← bitsI_snoc, Nat.sub_add_cancel n1]
      rw [e, List.map_append]
      exact atI_last _ _
    refine ⟨_, rfl, _, rfl, _, rfl, 1, rfl, b, _, -1, _, rfl, rfl, e3, last, sz, fun t H4 s4 e4 => ?_⟩
    refine ⟨_, rfl, _, rfl, _, _, rfl, rfl, t, _, _, rfl, rfl, e4, by simp, by omega, by omega, by show 1 ≤ 1000; decide, fun t5 H5 s5 e5 => ?_⟩
    have er : (List.replicate (((n + k : Nat) : Int) - (n : Int)).toNat [V.int (x / 2 ^ (n - 1) % 2)]).flatten = (List.replicate k (x / 2 ^ (n - 1) % 2)).map V.int := by
      rw [show (((n + k : Nat) : Int) - (n : Int)).toNat = k by omega, List.map_replicate, List.flatten_replicate_singleton]
    rw [er] at e5
    refine ⟨b, t5, _, _, rfl, rfl, sT (s4.trans s5) e3, e5, szl (by rw [List.length_map, List.length_map, bitsI_length, List.length_replicate]; omega), fun t6 H6 s6 e6 => ?_⟩
    rw [← List.map_append] at e6
    refine ⟨t6, _, rfl, .inr e6, fun H7 s7 => ⟨rfl, _, rfl, iteBF (neFI (ofBits_long k n1 x0 x1).symm) ?_⟩⟩
    have X7 := (((X3.same s4).same s5).same s6).same s7
    have hp := two_pos (n + k)
    have g0 := Int.emod_nonneg (sgn n x) (show (2 : Int) ^ (n + k) ≠ 0 by omega)
    have g1 := Int.emod_lt_of_pos (sgn n x) hp
    have sr := sgn_range n1 x0 x1
    have mm := two_mono (a := n - 1) (b := n + k - 1) (by omega)
    refine ⟨_, rfl, _, rfl, n + k, _, rfl, by omega, by omega, g0, g1, _, rfl, rfl, true, congrArg V.bl (eqTI (sgn_fit (by omega) (by omega) (by omega))), iteT ?_⟩
    refine ⟨_, rfl, _, rfl, _, rfl, n + k, _, 0, n, rfl, by omega, by omega, g0, g1, n1, by omega, _, rfl, rfl, ?_⟩
    rw [Int.pow_zero, Int.ediv_one, sgn_low k x0 x1, decide_eq_true rfl]
    exact q _ X7
end
end TB
namespace TB
open PySem PySem.Spec PyProof.Rows L2
section
variable {P : Program} {w : World} {K : PySem.W.Frag} {mg : Str → Option Value} {base : Heap}
theorem tIte_same {ta tb : TE} {σ : L2.St} {H : Hp} {Q : VK} {b : Bool} (v : V) (ha : b = true → ∀ R : VK, R v H → ta σ H R) (hb : b = false → ∀ R : VK, R v H → tb σ H R) (q : Q v H) : if b = true then ta σ H Q else tb σ H Q := by
  cases b with
  | true => exact iteT (ha rfl Q q)
  | false => exact iteF (hb rfl Q q)
def sp__law_right (K : PySem.W.Frag) : Sp := fun vs H Q _ => ∃ (d : Addr), vs = [.ref d] ∧ Dice H d ∧ ∀ H', Ext d H H' → Q (.bl true) H'
theorem ok__law_right (T : Txt K mg) : FnOk P w K mg base CX0 8 T._law_right.f T._law_right.fd ["_law_dice_here"] (sp__law_right K) := by
  refine T._law_right.F.ok sc__law_right (fun vs H Q E h => ?_) (fun cdv A outer s H vs Q E hr h => ?_)
  · obtain ⟨d, rfl, _⟩ := h
    rfl
  · obtain ⟨d, rfl, hd, q⟩ := h
    refine ⟨_, (pss_cons (ps_set (i := 1) sc__law_right.nd rfl (.inr rfl) (pe_call (ok__law_width_drawn T) (hr.mono (by decide)) (by rfl) T._law_width_drawn.g T._law_width_drawn.F.kp T._law_width_drawn.b .nil pass0 (pa_cons (pv 0) pa_nil))) 
      (pss_cons (ps_asg (pe_tupA (pa_cons (pe_call (ok__law_word_drawn T) (hr.mono (by decide)) (by rfl) T._law_word_drawn.g T._law_word_drawn.F.kp T._law_word_drawn.b .nil pass0 (pa_cons (pv 0) (pa_cons (pv 1) pa_nil))) (pa_cons (pe_call (ok__law_two_to T) (hr.mono (by decide)) (by rfl) T._law_two_to.g T._law_two_to.F.kp T._law_two_to.b .nil pass0 (pa_cons (pv 1) pa_nil)) pa_nil))) (pg_tup rfl (pgs_cons (pg_name (i := 2) sc__law_right.nd rfl (.inr rfl)) (pgs_cons (pg_name (i := 3) sc__law_right.nd rfl (.inl rfl)) pgs_nil)))) 
      (pss_cons (ps_par (i := 4) (j := 5) rfl sc__law_right.nd rfl rfl (by decide) rfl rfl (pa_cons (pe_callTy call_tupleA (by rfl) T.z_tuple (by decide +kernel) (pa_cons (pe_call (ok__law_bits T) (hr.mono (by decide)) (by rfl) T._law_bits.g T._law_bits.F.kp T._law_bits.b .nil pass0 (pa_cons (pv 1) (pa_cons (pv 2) pa_nil))) pa_nil)) (pa_cons (pe_ifExp (pt_cmpR op_ge (pe_op op_mul pe_int (pv 2)) (pv 3) (nomark _)) (pe_op op_sub (pv 2) (pv 3)) (pv 2)) pa_nil)) (by rfl)) 
      (pss_cons (ps_if (PW.pt (pw_or (pt_cmpR (op_neD hr.units) (pe_call (ok_bits_of_word T) (hr.mono (by decide)) (by rfl) T.bits_of_word.g T.bits_of_word.F.kp T.bits_of_word.b .nil pass0 (pa_cons (pv 1) (pa_cons (pv 2) pa_nil))) (pv 4) (nomark _)) (pw_or (pt_cmpR op_ne (pe_call (ok_word_of_bits T) (hr.mono (by decide)) (by rfl) T.word_of_bits.g T.word_of_bits.F.kp T.word_of_bits.b .nil pass0 (pa_cons (pv 4) pa_nil)) (pv 2) (nomark _)) (pw_or1 (pt_cmpR op_ne (pe_call (ok_signed T) (hr.mono (by decide)) (by rfl) T.signed.g T.signed.F.kp T.signed.b .nil pass0 (pa_cons (pv 1) (pa_cons (pv 2) pa_nil))) (pv 5) (nomark _)))))) 
        (pss_one (ps_ret pe_bl)) pss_nil) 
      (pss_cons (ps_set (i := 6) sc__law_right.nd rfl (.inl rfl) (pe_lstA (pa_cons (pv 5) (pa_cons (pe_op op_add (pv 5) (pe_op op_mul (pe_op op_sub (pe_call (ok__law_roll T) (hr.mono (by decide)) (by rfl) T._law_roll.g T._law_roll.F.kp T._law_roll.b .nil pass0 (pa_cons (pv 0) (pa_cons pe_int pa_nil))) pe_int) (pv 3))) (pa_cons (pe_op op_sub (pv 2) (pe_op op_mul pe_int (pv 3))) (pa_cons (pe_op op_add (pv 2) (pe_op op_mul (pv 3) (pv 3))) pa_nil)))))) 
      (pss_cons (ps_if (pt_cmpR (op_neD hr.units) (pe_lc (own := [("_law_one", 8)]) (by rfl) sc__law_right.nd (pi_list (pv 6)) (blkOk_by (own := [("_law_one", 8)]) (N := ["_law_dice_here", "_law_width", "_law_word", "_law_size", "_law_bits_here", "_law_number", "_law_some", "_law_values", "_law_one", "_law_value", "_law_at"]) (sc := defScope s__law_right) (by decide +kernel)) (fun _ _ _ _ _ => (pg_name (i := 8) sc__law_right.nd rfl (.inl rfl))) (fun _ _ _ _ _ => (pts_one (pt_cmpR op_ne (pe_call (ok_wrapped T) (hr.mono (by decide)) (by rfl) T.wrapped.g T.wrapped.F.kp T.wrapped.b .nil pass0 (pa_cons (pv 1) (pa_cons (pv 8) pa_nil))) (pv 2) (nomark _)))) (fun _ _ _ _ _ => (pv 8))) (pe_lstA pa_nil) (nomark _)) 
        (pss_one (ps_ret pe_bl)) pss_nil) 
      (pss_cons (ps_set (i := 7) sc__law_right.nd rfl (.inl rfl) (pe_lstA (pa_cons (pv 2) (pa_cons (pv 3) (pa_cons (pe_op op_sub (pv 3) pe_int) (pa_cons (pe_un un_neg pe_int) (pa_cons pe_bl (pa_cons pe_non (pa_cons pe_str (pa_cons (pe_tupA (pa_cons (pv 2) pa_nil)) (pa_cons (pe_op op_pow pe_int pe_int) (pa_cons (pe_lstA (pa_cons (pv 2) pa_nil)) (pa_cons pe_dnewK pa_nil))))))))))))) 
      (pss_cons (ps_if (pt_cmpR (op_neD hr.units) (pe_lc (own := [("_law_value", 9)]) (by rfl) sc__law_right.nd (pi_list (pv 7)) (blkOk_by (own := [("_law_value", 9)]) (N := ["_law_dice_here", "_law_width", "_law_word", "_law_size", "_law_bits_here", "_law_number", "_law_some", "_law_values", "_law_one", "_law_value", "_law_at"]) (sc := defScope s__law_right) (by decide +kernel)) (fun _ _ _ _ _ => (pg_name (i := 9) sc__law_right.nd rfl (.inl rfl))) (fun _ _ _ _ _ => pts_nil) (fun _ _ _ _ _ => (pe_callB call_reprB (by rfl) T.z_repr (by decide +kernel) (pa_cons (pe_call (ok_is_word T) (hr.mono (by decide)) (by rfl) T.is_word.g T.is_word.F.kp T.is_word.b .nil pass0 (pa_cons (pv 1) (pa_cons (pv 9) pa_nil))) pa_nil)))) (pe_lc (own := [("_law_at", 10)]) (by rfl) sc__law_right.nd (pi_range1 (by rfl) T.z_range (pa_cons (pe_callB call_len_seq (by rfl) T.z_len PySem.boot_len (pa_cons (pv 7) pa_nil)) pa_nil)) (blkOk_by (own := [("_law_at", 10)]) (N := ["_law_dice_here", "_law_width", "_law_word", "_law_size", "_law_bits_here", "_law_number", "_law_some", "_law_values", "_law_one", "_law_value", "_law_at"]) (sc := defScope s__law_right) (by decide +kernel)) (fun _ _ _ _ _ => (pg_name (i := 10) sc__law_right.nd rfl (.inl rfl))) (fun _ _ _ _ _ => pts_nil) (fun _ _ _ _ _ => (pe_callB call_reprB (by rfl) T.z_repr (by decide +kernel) (pa_cons (pe_cmpR (op_in_seqK (K := K) rfl) (pv 10) (pe_tupAK (K := K) rfl (pa_cons pe_int (pa_cons pe_int pa_nil))) rfl) pa_nil)))) (nomark _)) 
        (pss_one (ps_ret pe_bl)) pss_nil) 
      (pss_one (ps_ret (pe_and (pe_call (ok__law_wider_right T) (hr.mono (by decide)) (by rfl) T._law_wider_right.g T._law_wider_right.F.kp T._law_wider_right.b .nil pass0 (pa_cons (pv 0) (pa_cons (pv 1) (pa_cons (pv 2) (pa_cons (pv 5) pa_nil))))) (pe_one (pe_call (ok__law_parts_right T) (hr.mono (by decide)) (by rfl) T._law_parts_right.g T._law_parts_right.F.kp T._law_parts_right.b .nil pass0 (pa_cons (pv 0) (pa_cons (pv 1) (pa_cons (pv 2) pa_nil)))))))))))))))), ?_⟩
    refine ⟨_, rfl, d, rfl, hd, fun n H1 n1 n2 x1 => ?_⟩
    refine ⟨_, rfl, _, rfl, d, n, rfl, x1.d, n1, n2, fun x H2 a0 a1 x2 => ?_⟩
    refine ⟨_, rfl, n, rfl, by omega, sz, fun z1 H3 s3 e3 => ⟨z1, _, rfl, e3, rfl, _, _, rfl, _, [], rfl, rfl, ?_⟩⟩
    have hb := two32 n2
    have hp := two_pos n
    refine ⟨_, rfl, _, rfl, n, x, rfl, by omega, fun l H4 s4 e4 nl => ⟨l, _, rfl, .inl (SqL.of e4), fun b H5 s5 e5 => ?_⟩⟩
    have e2 : (2 : Int) ^ n = 2 * 2 ^ (n - 1) := by rw [← two_succ, Nat.sub_add_cancel n1]
    refine ⟨_, rfl, _, _, rfl, rfl, .inl ⟨by omega, by omega⟩, _, rfl, _, _, rfl, rfl, _, rfl, tIte_same (.int (sgn n x)) ?_ ?_ ?_⟩
    · intro hc R r
      have hc' := of_decide_eq_true hc
      refine ⟨_, rfl, _, rfl, _, _, rfl, rfl, ?_⟩
      rw [sgn_eq n1 a0 a1, if_pos (by omega)] at r
      exact r
    · intro hc R r
      have hc' := of_decide_eq_false hc
      refine ⟨_, rfl, ?_⟩
      rw [sgn_eq n1 a0 a1, if_neg (by omega)] at r
      exact r
    refine ⟨_, _, rfl, ?_⟩
    have lb : (bitsI n x).length = n := bitsI_length n x
    refine ⟨_, rfl, _, rfl, n, x, rfl, n1, n2, a0, a1, fun p6 H6 s6 e6 => ?_⟩
    refine ⟨_, rfl, _, _, .tup e6 (dpI _), .tup (sT s6 e5) (dpI _), shT _, shT _, _, rfl, iteBF (by rw [eqvR (shT _)]; rfl) ?_⟩
    refine ⟨_, rfl, b, bitsI n x, rfl, sT s6 e5, by omega, by omega, bitsI_range n x, fun H7 s7 => ?_⟩
    rw [ofBits_bitsI, mod_small a0 a1]
    refine ⟨_, rfl, rfl, _, rfl, iteBF (neFI rfl) ?_⟩
    refine ⟨_, rfl, _, rfl, n, x, rfl, n1, n2, a0, a1, _, rfl, rfl, _, rfl, iteBF (neFI rfl) ?_⟩
    have X7 := ((((((x1.trans x2).same s3).same s4).same s5).same s6).same s7)
    -- some
    refine ⟨_, rfl, _, rfl, _, rfl, d, 19, rfl, X7.d, by decide, by decide, fun r H8 r0 r1 x8 => ⟨r, 9, rfl, rfl, ?_⟩⟩
    refine ⟨_, rfl, _, _, rfl, rfl, .inl ⟨by omega, by omega⟩, _, _, rfl, rfl, ?_⟩
    refine ⟨_, rfl, _, rfl, _, _, rfl, rfl, cmulL, _, _, rfl, rfl, ?_⟩
    refine ⟨_, rfl, _, rfl, _, rfl, _, _, rfl, rfl, .inl ⟨by omega, by omega⟩, _, _, rfl, rfl, sz, fun ls H9 s9 e9 nl9 => ?_⟩
    have X9 := (X7.trans x8).same s9
    have g1 := sgn_bound n2 a0 a1
    refine ⟨_, rfl, ls, rfl, ⟨_, SqL.of e9⟩, lc_listF (SqL.of e9) (fun _ => none) (by show 4 ≤ 100000; decide) ?_ fun D H10 s10 e10 _ => ?_⟩
    · intro i v H' hv sm R N hR hN
      obtain ⟨z, rfl, z1, z2, z3⟩ : ∃ z : Int, v = .int z ∧ -(10 ^ 60) < z ∧ z < 10 ^ 60 ∧ z % 2 ^ n = x := by
        have hm := List.mem_of_getElem? hv
        simp only [List.mem_cons, List.not_mem_nil, or_false] at hm
        obtain ⟨j, ej⟩ := sgn_mod n x
        have hsm : sgn n x % 2 ^ n = x := by rw [ej, Int.add_mul_emod_self_left, mod_small a0 a1]
        have hsq : (2 : Int) ^ n * 2 ^ n ≤ 2 ^ 32 * 2 ^ 32 := Int.mul_le_mul hb hb (Int.le_of_lt hp) (by decide)
        have hr1 : (r - 9) * 2 ^ n ≤ 10 * 2 ^ n := Int.mul_le_mul_of_nonneg_right (by omega) (Int.le_of_lt hp)
        have hr2 : (-10) * 2 ^ n ≤ (r - 9) * 2 ^ n := Int.mul_le_mul_of_nonneg_right (by omega) (Int.le_of_lt hp)
        have hsq0 : 0 ≤ (2 : Int) ^ n * 2 ^ n := Int.mul_nonneg (Int.le_of_lt hp) (Int.le_of_lt hp)
        rcases hm with rfl | rfl | rfl | rfl
        · exact ⟨_, rfl, by omega, by omega, hsm⟩
        · refine ⟨_, rfl, by show -(10 ^ 60) < sgn n x + (r - 9) * 2 ^ n; omega, by show sgn n x + (r - 9) * 2 ^ n < 10 ^ 60; omega, ?_⟩
          show (sgn n x + (r - 9) * 2 ^ n) % 2 ^ n = x
          rw [Int.add_mul_emod_self_right, hsm]
        · refine ⟨_, rfl, by show -(10 ^ 60) < x - 7 * 2 ^ n; omega, by show x - 7 * 2 ^ n < 10 ^ 60; omega, ?_⟩
          show (x - 7 * 2 ^ n) % 2 ^ n = x
          rw [Int.sub_mul_emod_self_right, mod_small a0 a1]
        · refine ⟨_, rfl, by show -(10 ^ 60) < x + 2 ^ n * 2 ^ n; omega, by show x + 2 ^ n * 2 ^ n < 10 ^ 60; omega, ?_⟩
          show (x + 2 ^ n * 2 ^ n) % 2 ^ n = x
          rw [Int.add_mul_emod_self_right, mod_small a0 a1]
      refine ⟨rfl, _, rfl, _, rfl, n, z, rfl, n1, n2, z1, z2, _, rfl, rfl, _, rfl, iteBF (neFI z3) ?_⟩
      exact hN _ rfl (Same.refl _)
    refine ⟨sz, fun l11 H11 s11 e11 _ => ?_⟩
    have en : ([V.int (sgn n x), V.int (sgn n x + (r - 9) * 2 ^ n), V.int (x - 7 * 2 ^ n), V.int (x + 2 ^ n * 2 ^ n)] : List V).filterMap (fun _ => (none : Option V)) = [] := rfl
    refine ⟨_, _, .lst (SqL.of (s11 _ _ e10)) .nil, .lst (SqL.of e11) .nil, rfl, rfl, _, rfl, iteBF rfl ?_⟩
    -- values
    refine ⟨_, rfl, _, rfl, _, rfl, _, _, rfl, rfl, _, rfl, ?_⟩
    refine ⟨_, rfl, sz, fun p12 H12 s12 e12 => ⟨_, _, rfl, rfl, ⟨by decide, by decide, by decide⟩, ?_⟩⟩
    refine ⟨_, rfl, sz, fun l13 H13 s13 e13 _ => fun d14 n14 => ⟨sz, fun lv H15 s15 e15 nlv => ?_⟩⟩
    have s14 : Same H13 (upd H13 d14 (.dK [])) := same_new n14
    have e14 : upd H13 d14 (.dK []) d14 = some (.dK []) := upd_same
    have hw : ∀ v, withinV v 0 (2 ^ n - 1) = withinV v 0 (2 ^ n - 1) := fun _ => rfl
    have s10_ := (s11.trans s12)
    have X15 := ((((((X9.same s10).same s11).same s12).same s13).same s14).same s15)
    refine ⟨_, rfl, lv, rfl, ⟨_, SqL.of e15⟩, lc_listF (SqL.of e15) (fun v => some (.str (if withinV v 0 (2 ^ n - 1) then "True" else "False"))) (by show 11 ≤ 100000; decide) ?_ fun D1 H16 s16 e16 _ => ?_⟩
    · intro i v H' hv sm R N hR hN
      obtain ⟨kd, hk⟩ : ∃ kd, Knd K H' v kd := by
        have hm := List.mem_of_getElem? hv
        simp only [List.mem_cons, List.not_mem_nil, or_false] at hm
        rcases hm with rfl | rfl | rfl | rfl | rfl | rfl | rfl | rfl | rfl | rfl | rfl
        · exact ⟨_, .i _⟩
        · exact ⟨_, .i _⟩
        · exact ⟨_, .i _⟩
        · exact ⟨_, .i _⟩
        · exact ⟨_, .b _⟩
        · exact ⟨_, .n⟩
        · exact ⟨_, .s _⟩
        · exact ⟨_, (Knd.t e12).same (((s13.trans s14).trans s15).trans sm)⟩
        · exact ⟨_, .i _⟩
        · exact ⟨_, (Knd.l (SqL.of e13)).same ((s14.trans s15).trans sm)⟩
        · exact ⟨_, (Knd.d e14).same (s15.trans sm)⟩
      exact ⟨rfl, _, rfl, _, rfl, n, v, kd, rfl, n1, n2, hk, _, rfl, hR _ _ rfl (Same.refl _)⟩
    have w1 : withinV (.int x) 0 (2 ^ n - 1) = true := by
      show (decide (0 ≤ x) && decide (x ≤ 2 ^ n - 1)) = true
      rw [decide_eq_true a0, decide_eq_true (show x ≤ 2 ^ n - 1 by omega)]
      rfl
    have w2 : withinV (.int (2 ^ n)) 0 (2 ^ n - 1) = false := by
      show (decide ((0 : Int) ≤ 2 ^ n) && decide ((2 : Int) ^ n ≤ 2 ^ n - 1)) = false
      rw [decide_eq_false (show ¬ (2 : Int) ^ n ≤ 2 ^ n - 1 by omega), Bool.and_false]
    have w3 : withinV (.int (2 ^ n - 1)) 0 (2 ^ n - 1) = true := by
      show (decide ((0 : Int) ≤ 2 ^ n - 1) && decide ((2 : Int) ^ n - 1 ≤ 2 ^ n - 1)) = true
      rw [decide_eq_true (show (0 : Int) ≤ 2 ^ n - 1 by omega), decide_eq_true (show (2 : Int) ^ n - 1 ≤ 2 ^ n - 1 by omega)]
      rfl
    have w4 : withinV (.int (-1)) 0 (2 ^ n - 1) = false := rfl
    have w5 : withinV (.int (10 ^ 61)) 0 (2 ^ n - 1) = false := by
      show (decide ((0 : Int) ≤ 10 ^ 61) && decide ((10 : Int) ^ 61 ≤ 2 ^ n - 1)) = false
      rw [decide_eq_false (show ¬ (10 : Int) ^ 61 ≤ 2 ^ n - 1 by omega), Bool.and_false]
    have ef : ([V.int x, V.int (2 ^ n), V.int (2 ^ n - 1), V.int (-1), V.bl true, V.non, V.str (Str.ofString "1"), V.ref p12, V.int (10 ^ 61), V.ref l13, V.ref d14] : List V).filterMap (fun v => some (V.str (if withinV v 0 (2 ^ n - 1) = true then "True" else "False")))
        = [V.str "True", V.str "False", V.str "True", V.str "False", V.str "False", V.str "False", V.str "False", V.str "False", V.str "False", V.str "False", V.str "False"] := by
      simp only [List.filterMap, w1, w2, w3, w4, w5]
      rfl
    have e16' : H16 D1 = some (.lst [V.str "True", V.str "False", V.str "True", V.str "False", V.str "False", V.str "False", V.str "False", V.str "False", V.str "False", V.str "False", V.str "False"]) := by
      rw [← ef]
      exact e16
    refine ⟨_, rfl, lv, _, rfl, .inl (SqL.of (s16 _ _ e15)), 11, rfl, by decide, by decide, lc_rangeF (n := 11) (fun i => some (.str (if inV (.int i) [.int 0, .int 2] then "True" else "False"))) (by decide) ?_ fun D2 H17 s17 e17 _ => ?_⟩
    · intro i H' hi sm R N hR hN
      exact ⟨rfl, _, rfl, sz, fun t H3 s3 e3 => ⟨t, _, rfl, .inr e3, rfl, rfl, _, rfl, hR _ _ rfl s3⟩⟩
    have eg : (List.range 11).filterMap (fun i : Nat => some (V.str (if inV (.int (i : Int)) [.int 0, .int 2] = true then "True" else "False"))) = [V.str "True", V.str "False", V.str "True", V.str "False", V.str "False", V.str "False", V.str "False", V.str "False", V.str "False", V.str "False", V.str "False"] := by decide +kernel
    rw [eg] at e17
    have DL : ∀ H D, H D = some (.lst [V.str "True", V.str "False", V.str "True", V.str "False", V.str "False", V.str "False", V.str "False", V.str "False", V.str "False", V.str "False", V.str "False"]) →
        Dp K H (.ref D) (.list [.str "True", .str "False", .str "True", .str "False", .str "False", .str "False", .str "False", .str "False", .str "False", .str "False", .str "False"]) := fun H D e =>
      .lst (SqL.of e) (.cons (.str _) (.cons (.str _) (.cons (.str _) (.cons (.str _) (.cons (.str _) (.cons (.str _) (.cons (.str _) (.cons (.str _) (.cons (.str _) (.cons (.str _) (.cons (.str _) .nil)))))))))))
    refine ⟨_, _, DL _ _ (s17 _ _ e16'), DL _ _ e17, by decide +kernel, by decide +kernel, _, rfl, iteBF (by rw [eqvR (by decide +kernel)]; rfl) ?_⟩
    have X17 := ((X15.same s16).same s17)
    refine ⟨_, rfl, _, rfl, _, rfl, _, rfl, d, n, x, rfl, X17.d, n1, n2, a0, a1, fun H18 x18 => ?_⟩
    have X18 := X17.trans x18
    refine ⟨true, rfl, iteT ?_⟩
    refine ⟨_, rfl, _, rfl, _, rfl, d, n, x, rfl, X18.d, n1, n2, a0, a1, fun H19 x19 => ?_⟩
    exact q _ (X18.trans x19)
def sp_law (K : PySem.W.Frag) : Sp := fun vs H Q _ => ∃ (a : Addr) (ns : List Int), vs = [.ref a] ∧ SqL K H a (ns.map V.int) ∧ ns.length ≤ 63 ∧ ∀ H', Q (.bl true) H'
theorem ok_law (T : Txt K mg) : FnOk P w K mg base CX0 9 T.law.f T.law.fd ["_law_script"] (sp_law K) := by
  refine T.law.F.ok sc_law (fun vs H Q E h => ?_) (fun cdv A outer s H vs Q E hr h => ?_)
  · obtain ⟨a, ns, rfl, _⟩ := h
    rfl
  · obtain ⟨a, ns, rfl, hS, hlen, q⟩ := h
    refine ⟨_, (pss_cons (ps_for PassesOwn.never rfl (pi_range1 (by rfl) T.z_range (pa_cons (pe_callB (call_max2 rfl) (by rfl) T.z_max (by decide +kernel) (pa_cons pe_int (pa_cons (pe_callB (call_min2 rfl) (by rfl) T.z_min (by decide +kernel) (pa_cons pe_int (pa_cons (pe_callB call_len_seq (by rfl) T.z_len PySem.boot_len (pa_cons (pv 0) pa_nil)) pa_nil))) pa_nil))) pa_nil)) (pg_name (i := 1) sc_law.nd rfl (.inl rfl)) 
        (pss_cons (ps_set (i := 2) sc_law.nd rfl (.inl rfl) (pe_call (ok__law_dice T) (hr.mono (by decide)) (by rfl) T._law_dice.g T._law_dice.F.kp T._law_dice.b .nil pass0 (pa_cons (pv 0) (pa_cons (pv 1) pa_nil)))) 
        (pss_one (ps_for PassesOwn.never rfl (pi_range1 (by rfl) T.z_range (pa_cons pe_int pa_nil)) (pg_name (i := 3) sc_law.nd rfl (.inl rfl)) 
          (pss_one (ps_if (pt_not (pt_val (pe_call (ok__law_right T) (hr.mono (by decide)) (by rfl) T._law_right.g T._law_right.F.kp T._law_right.b .nil pass0 (pa_cons (pv 2) pa_nil)))) 
            (pss_one (ps_ret pe_bl)) pss_nil)))))) 
      (pss_cons (ps_if (PW.pt (pw_or (pt_cmpR (op_neD hr.units) (pe_tupA (pa_cons (pe_glob rfl T.MAX_WIDTH.g T.MAX_WIDTH.r) (pa_cons (pe_glob rfl T.MAX_PLACES.g T.MAX_PLACES.r) pa_nil))) (pe_tupA (pa_cons pe_int (pa_cons pe_int pa_nil))) (nomark _)) (pw_or1 (pt_cmpR op_ne (pe_call (ok_signed T) (hr.mono (by decide)) (by rfl) T.signed.g T.signed.F.kp T.signed.b .nil pass0 (pa_cons pe_int (pa_cons pe_int pa_nil))) (pe_un un_neg pe_int) (nomark _))))) 
        (pss_one (ps_ret pe_bl)) pss_nil) 
      (pss_one (ps_ret (pe_cmpR (op_eqD hr.units) (pe_call (ok_put_together T) (hr.mono (by decide)) (by rfl) T.put_together.g T.put_together.F.kp T.put_together.b .nil pass0 (pa_cons (pe_tupA (pa_cons (pe_tupA (pa_cons pe_int (pa_cons pe_int pa_nil))) (pa_cons (pe_tupA (pa_cons pe_int (pa_cons pe_int pa_nil))) (pa_cons (pe_tupA (pa_cons pe_int (pa_cons pe_int pa_nil))) pa_nil)))) pa_nil)) (pe_tupA (pa_cons pe_int (pa_cons pe_int pa_nil))) (nomark _)))))), ?_⟩
    refine ⟨_, rfl, a, _, rfl, .inl hS, _, _, rfl, _, _, rfl, _, rfl, ?_, ?_, ?_⟩
    · rw [List.length_map]
      split <;> split <;> omega
    · rw [List.length_map]
      split <;> split <;> omega
    refine for_rangeN (fun i σ H' => ∃ y1 y2 y3, σ = [some (.ref a), y1, y2, y3] ∧ Same H H') ⟨none, none, none, rfl, Same.refl H⟩ ?_ ?_
    · rintro i σ H' _ ⟨y1, y2, y3, rfl, sm⟩
      refine ⟨_, rfl, _, rfl, a, ns, i, rfl, sm.seq hS, fun x y z d H1 s1 e1 nd => ?_⟩
      have hd : Dice H1 d := ⟨x, y, z, e1⟩
      refine ⟨_, rfl, by decide, by decide, for_rangeN (n := 3) (fun j σ H2 => ∃ y3, σ = [some (.ref a), some (.int i), some (.ref d), y3] ∧ Ext d H1 H2) ⟨y3, rfl, Ext.refl hd⟩ ?_ ?_⟩
      · rintro j σ H2 _ ⟨y3, rfl, xx⟩
        refine ⟨_, rfl, d, rfl, xx.d, fun H3 x3 => ⟨true, rfl, iteF ?_⟩⟩
        exact ⟨_, rfl, xx.trans x3⟩
      · rintro σ H2 ⟨y3, rfl, xx⟩
        exact ⟨_, _, _, rfl, sm.trans (Same.back nd s1 xx.s)⟩
    · rintro σ H1 ⟨y1, y2, y3, rfl, sm⟩
      refine ⟨sz, fun p1 K1 s1 e1 => ⟨sz, fun p2 K2 s2 e2 => ?_⟩⟩
      refine ⟨_, _, dp2 (sT s2 e1), dp2 e2, rfl, rfl, _, rfl, iteBF (by rw [eqvR rfl]; rfl) ?_⟩
      refine ⟨1, 1, rfl, by decide, by decide, by decide, by decide, _, rfl, rfl, _, rfl, iteBF (neFI (by decide +kernel)) ?_⟩
      refine ⟨sz, fun t1 K3 s3 e3 => ⟨sz, fun t2 K4 s4 e4 => ⟨sz, fun t3 K5 s5 e5 => ⟨sz, fun t K6 s6 e6 => ?_⟩⟩⟩⟩
      have hP : Parts K K6 [.ref t1, .ref t2, .ref t3] [(2, 2), (4, 13), (2, 2)] :=
        Parts.snoc (p := (2, 2)) (Parts.snoc (p := (4, 13)) (Parts.snoc (p := (2, 2)) (rs := []) (ps := []) ⟨rfl, fun i r p e _ => nomatch e⟩ (sT ((s4.trans s5).trans s6) e3)) (sT (s5.trans s6) e4)) (sT s6 e5)
      refine ⟨t, _, _, rfl, e6, hP, ?_, by decide, by decide, fun p7 K7 s7 e7 => ?_⟩
      · intro p hp
        simp only [List.mem_cons, List.not_mem_nil, or_false] at hp
        rcases hp with rfl | rfl | rfl <;> exact ⟨by decide, by decide, by decide, by decide⟩
      refine ⟨sz, fun p8 K8 s8 e8 => ⟨_, _, dp2 (sT s8 e7), dp2 e8, rfl, rfl, ?_⟩⟩
      rw [eqv2 (show ((wid [(2, 2), (4, 13), (2, 2)] : Nat) : Int) = 8 by decide +kernel) (show put [(2, 2), (4, 13), (2, 2)] = 182 by decide +kernel)]
      exact q _
end
end TB
namespace TB
open PySem PySem.Spec PyProof.Rows L2
/-! ### the end -/
noncomputable def txt_mk {K : PySem.W.Frag} {h : Heap} {mg : Str → Option Value} (X : K.In h) (G : h.Ns mainGlobals mg)
    {f0 f1 f2 f3 f4 f5 f6 f7 f8 f9 f10 f11 f12 f13 f14 f15 f16 f17 f18 f19 f20 f21 f22 f23 f24 f25 f26 f27 f28 f29 f30 f31 f32 f33 f34 f35 f36 f37 : Addr} {od0 an0 od1 an1 od2 an2 od3 an3 od4 an4 od5 an5 od6 an6 od7 an7 od8 an8 od9 an9 od10 an10 od11 an11 od12 an12 od13 an13 od14 an14 od15 an15 od16 an16 od17 an17 od18 an18 od19 an19 od20 an20 od21 an21 od22 an22 od23 an23 od24 an24 od25 an25 od26 an26 od27 an27 od28 an28 od29 an29 od30 an30 od31 an31 od32 an32 od33 an33 od34 an34 od35 an35 od36 an36 od37 an37 : Option Addr} {sl0 sl1 sl2 sl3 sl4 sl5 sl6 sl7 sl8 sl9 sl10 sl11 sl12 sl13 sl14 sl15 sl16 sl17 sl18 sl19 sl20 sl21 sl22 sl23 sl24 sl25 sl26 sl27 sl28 sl29 sl30 sl31 sl32 sl33 sl34 sl35 sl36 sl37 : Array (Option Value)} {oc0 dc0 pm0 cd0 ct0 kV0 oc1 dc1 pm1 cd1 ct1 kV1 oc2 dc2 pm2 cd2 ct2 kV2 oc3 dc3 pm3 cd3 ct3 kV3 oc4 dc4 pm4 cd4 ct4 kV4 oc5 dc5 pm5 cd5 ct5 kV5 oc6 dc6 pm6 cd6 ct6 kV6 oc7 dc7 pm7 cd7 ct7 kV7 oc8 dc8 pm8 cd8 ct8 kV8 oc9 dc9 pm9 cd9 ct9 kV9 oc10 dc10 pm10 cd10 ct10 kV10 oc11 dc11 pm11 cd11 ct11 kV11 oc12 dc12 pm12 cd12 ct12 kV12 oc13 dc13 pm13 cd13 ct13 kV13 oc14 dc14 pm14 cd14 ct14 kV14 oc15 dc15 pm15 cd15 ct15 kV15 oc16 dc16 pm16 cd16 ct16 kV16 oc17 dc17 pm17 cd17 ct17 kV17 oc18 dc18 pm18 cd18 ct18 kV18 oc19 dc19 pm19 cd19 ct19 kV19 oc20 dc20 pm20 cd20 ct20 kV20 oc21 dc21 pm21 cd21 ct21 kV21 oc22 dc22 pm22 cd22 ct22 kV22 oc23 dc23 pm23 cd23 ct23 kV23 oc24 dc24 pm24 cd24 ct24 kV24 oc25 dc25 pm25 cd25 ct25 kV25 oc26 dc26 pm26 cd26 ct26 kV26 oc27 dc27 pm27 cd27 ct27 kV27 oc28 dc28 pm28 cd28 ct28 kV28 oc29 dc29 pm29 cd29 ct29 kV29 oc30 dc30 pm30 cd30 ct30 kV30 oc31 dc31 pm31 cd31 ct31 kV31 oc32 dc32 pm32 cd32 ct32 kV32 oc33 dc33 pm33 cd33 ct33 kV33 oc34 dc34 pm34 cd34 ct34 kV34 oc35 dc35 pm35 cd35 ct35 kV35 oc36 dc36 pm36 cd36 ct36 kV36 oc37 dc37 pm37 cd37 ct37 kV37 : Value} {tk0 tk1 tk2 tk3 : Tok}
    (a0 : PySem.W.nsIn K mainGlobals "is_integer" = some (some (.ref f0)))
    (l0 : K.lookup f0 = some ⟨oc0, od0, .func (PySem.W.fnOf "is_integer" "is_integer" (defArgs s_is_integer) (defBody s_is_integer) (defScope s_is_integer) .none kV0 dc0 pm0 an0 cd0 ct0), sl0⟩)
    (c0 : PySem.W.codeIn K cd0 "is_integer" = true)
    (k0 : PySem.W.keepIn K (.ref f0) = true)
    (a1 : PySem.W.nsIn K mainGlobals "is_short" = some (some (.ref f1)))
    (l1 : K.lookup f1 = some ⟨oc1, od1, .func (PySem.W.fnOf "is_short" "is_short" (defArgs s_is_short) (defBody s_is_short) (defScope s_is_short) .none kV1 dc1 pm1 an1 cd1 ct1), sl1⟩)
    (c1 : PySem.W.codeIn K cd1 "is_short" = true)
    (k1 : PySem.W.keepIn K (.ref f1) = true)
    (a2 : PySem.W.nsIn K mainGlobals "is_within" = some (some (.ref f2)))
    (l2 : K.lookup f2 = some ⟨oc2, od2, .func (PySem.W.fnOf "is_within" "is_within" (defArgs s_is_within) (defBody s_is_within) (defScope s_is_within) .none kV2 dc2 pm2 an2 cd2 ct2), sl2⟩)
    (c2 : PySem.W.codeIn K cd2 "is_within" = true)
    (k2 : PySem.W.keepIn K (.ref f2) = true)
    (a3 : PySem.W.nsIn K mainGlobals "is_bit" = some (some (.ref f3)))
    (l3 : K.lookup f3 = some ⟨oc3, od3, .func (PySem.W.fnOf "is_bit" "is_bit" (defArgs s_is_bit) (defBody s_is_bit) (defScope s_is_bit) .none kV3 dc3 pm3 an3 cd3 ct3), sl3⟩)
    (c3 : PySem.W.codeIn K cd3 "is_bit" = true)
    (k3 : PySem.W.keepIn K (.ref f3) = true)
    (a4 : PySem.W.nsIn K mainGlobals "are_bits" = some (some (.ref f4)))
    (l4 : K.lookup f4 = some ⟨oc4, od4, .func (PySem.W.fnOf "are_bits" "are_bits" (defArgs s_are_bits) (defBody s_are_bits) (defScope s_are_bits) .none kV4 dc4 pm4 an4 cd4 ct4), sl4⟩)
    (c4 : PySem.W.codeIn K cd4 "are_bits" = true)
    (k4 : PySem.W.keepIn K (.ref f4) = true)
    (a5 : PySem.W.nsIn K mainGlobals "require_within" = some (some (.ref f5)))
    (l5 : K.lookup f5 = some ⟨oc5, od5, .func (PySem.W.fnOf "require_within" "require_within" (defArgs s_require_within) (defBody s_require_within) (defScope s_require_within) .none kV5 dc5 pm5 an5 cd5 ct5), sl5⟩)
    (c5 : PySem.W.codeIn K cd5 "require_within" = true)
    (k5 : PySem.W.keepIn K (.ref f5) = true)
    (a6 : PySem.W.nsIn K mainGlobals "is_word_in" = some (some (.ref f6)))
    (l6 : K.lookup f6 = some ⟨oc6, od6, .func (PySem.W.fnOf "is_word_in" "is_word_in" (defArgs s_is_word_in) (defBody s_is_word_in) (defScope s_is_word_in) .none kV6 dc6 pm6 an6 cd6 ct6), sl6⟩)
    (c6 : PySem.W.codeIn K cd6 "is_word_in" = true)
    (k6 : PySem.W.keepIn K (.ref f6) = true)
    (a7 : PySem.W.nsIn K mainGlobals "require_width" = some (some (.ref f7)))
    (l7 : K.lookup f7 = some ⟨oc7, od7, .func (PySem.W.fnOf "require_width" "require_width" (defArgs s_require_width) (defBody s_require_width) (defScope s_require_width) .none kV7 dc7 pm7 an7 cd7 ct7), sl7⟩)
    (c7 : PySem.W.codeIn K cd7 "require_width" = true)
    (k7 : PySem.W.keepIn K (.ref f7) = true)
    (a8 : PySem.W.nsIn K mainGlobals "require_word" = some (some (.ref f8)))
    (l8 : K.lookup f8 = some ⟨oc8, od8, .func (PySem.W.fnOf "require_word" "require_word" (defArgs s_require_word) (defBody s_require_word) (defScope s_require_word) .none kV8 dc8 pm8 an8 cd8 ct8), sl8⟩)
    (c8 : PySem.W.codeIn K cd8 "require_word" = true)
    (k8 : PySem.W.keepIn K (.ref f8) = true)
    (a9 : PySem.W.nsIn K mainGlobals "require_one_word" = some (some (.ref f9)))
    (l9 : K.lookup f9 = some ⟨oc9, od9, .func (PySem.W.fnOf "require_one_word" "require_one_word" (defArgs s_require_one_word) (defBody s_require_one_word) (defScope s_require_one_word) .none kV9 dc9 pm9 an9 cd9 ct9), sl9⟩)
    (c9 : PySem.W.codeIn K cd9 "require_one_word" = true)
    (k9 : PySem.W.keepIn K (.ref f9) = true)
    (a10 : PySem.W.nsIn K mainGlobals "is_part" = some (some (.ref f10)))
    (l10 : K.lookup f10 = some ⟨oc10, od10, .func (PySem.W.fnOf "is_part" "is_part" (defArgs s_is_part) (defBody s_is_part) (defScope s_is_part) .none kV10 dc10 pm10 an10 cd10 ct10), sl10⟩)
    (c10 : PySem.W.codeIn K cd10 "is_part" = true)
    (k10 : PySem.W.keepIn K (.ref f10) = true)
    (a11 : PySem.W.nsIn K mainGlobals "bits_in" = some (some (.ref f11)))
    (l11 : K.lookup f11 = some ⟨oc11, od11, .func (PySem.W.fnOf "bits_in" "bits_in" (defArgs s_bits_in) (defBody s_bits_in) (defScope s_bits_in) .none kV11 dc11 pm11 an11 cd11 ct11), sl11⟩)
    (c11 : PySem.W.codeIn K cd11 "bits_in" = true)
    (k11 : PySem.W.keepIn K (.ref f11) = true)
    (a12 : PySem.W.nsIn K mainGlobals "word_in" = some (some (.ref f12)))
    (l12 : K.lookup f12 = some ⟨oc12, od12, .func (PySem.W.fnOf "word_in" "word_in" (defArgs s_word_in) (defBody s_word_in) (defScope s_word_in) .none kV12 dc12 pm12 an12 cd12 ct12), sl12⟩)
    (c12 : PySem.W.codeIn K cd12 "word_in" = true)
    (k12 : PySem.W.keepIn K (.ref f12) = true)
    (a13 : PySem.W.nsIn K mainGlobals "signed_in" = some (some (.ref f13)))
    (l13 : K.lookup f13 = some ⟨oc13, od13, .func (PySem.W.fnOf "signed_in" "signed_in" (defArgs s_signed_in) (defBody s_signed_in) (defScope s_signed_in) .none kV13 dc13 pm13 an13 cd13 ct13), sl13⟩)
    (c13 : PySem.W.codeIn K cd13 "signed_in" = true)
    (k13 : PySem.W.keepIn K (.ref f13) = true)
    (a14 : PySem.W.nsIn K mainGlobals "cut_in" = some (some (.ref f14)))
    (l14 : K.lookup f14 = some ⟨oc14, od14, .func (PySem.W.fnOf "cut_in" "cut_in" (defArgs s_cut_in) (defBody s_cut_in) (defScope s_cut_in) .none kV14 dc14 pm14 an14 cd14 ct14), sl14⟩)
    (c14 : PySem.W.codeIn K cd14 "cut_in" = true)
    (k14 : PySem.W.keepIn K (.ref f14) = true)
    (a15 : PySem.W.nsIn K mainGlobals "put_together_in" = some (some (.ref f15)))
    (l15 : K.lookup f15 = some ⟨oc15, od15, .func (PySem.W.fnOf "put_together_in" "put_together_in" (defArgs s_put_together_in) (defBody s_put_together_in) (defScope s_put_together_in) .none kV15 dc15 pm15 an15 cd15 ct15), sl15⟩)
    (c15 : PySem.W.codeIn K cd15 "put_together_in" = true)
    (k15 : PySem.W.keepIn K (.ref f15) = true)
    (a16 : PySem.W.nsIn K mainGlobals "lengthened_in" = some (some (.ref f16)))
    (l16 : K.lookup f16 = some ⟨oc16, od16, .func (PySem.W.fnOf "lengthened_in" "lengthened_in" (defArgs s_lengthened_in) (defBody s_lengthened_in) (defScope s_lengthened_in) .none kV16 dc16 pm16 an16 cd16 ct16), sl16⟩)
    (c16 : PySem.W.codeIn K cd16 "lengthened_in" = true)
    (k16 : PySem.W.keepIn K (.ref f16) = true)
    (a17 : PySem.W.nsIn K mainGlobals "is_word" = some (some (.ref f17)))
    (l17 : K.lookup f17 = some ⟨oc17, od17, .func (PySem.W.fnOf "is_word" "is_word" (defArgs s_is_word) (defBody s_is_word) (defScope s_is_word) .none kV17 dc17 pm17 an17 cd17 ct17), sl17⟩)
    (c17 : PySem.W.codeIn K cd17 "is_word" = true)
    (k17 : PySem.W.keepIn K (.ref f17) = true)
    (a18 : PySem.W.nsIn K mainGlobals "bits_of_word" = some (some (.ref f18)))
    (l18 : K.lookup f18 = some ⟨oc18, od18, .func (PySem.W.fnOf "bits_of_word" "bits_of_word" (defArgs s_bits_of_word) (defBody s_bits_of_word) (defScope s_bits_of_word) .none kV18 dc18 pm18 an18 cd18 ct18), sl18⟩)
    (c18 : PySem.W.codeIn K cd18 "bits_of_word" = true)
    (k18 : PySem.W.keepIn K (.ref f18) = true)
    (a19 : PySem.W.nsIn K mainGlobals "word_of_bits" = some (some (.ref f19)))
    (l19 : K.lookup f19 = some ⟨oc19, od19, .func (PySem.W.fnOf "word_of_bits" "word_of_bits" (defArgs s_word_of_bits) (defBody s_word_of_bits) (defScope s_word_of_bits) .none kV19 dc19 pm19 an19 cd19 ct19), sl19⟩)
    (c19 : PySem.W.codeIn K cd19 "word_of_bits" = true)
    (k19 : PySem.W.keepIn K (.ref f19) = true)
    (a20 : PySem.W.nsIn K mainGlobals "wrapped" = some (some (.ref f20)))
    (l20 : K.lookup f20 = some ⟨oc20, od20, .func (PySem.W.fnOf "wrapped" "wrapped" (defArgs s_wrapped) (defBody s_wrapped) (defScope s_wrapped) .none kV20 dc20 pm20 an20 cd20 ct20), sl20⟩)
    (c20 : PySem.W.codeIn K cd20 "wrapped" = true)
    (k20 : PySem.W.keepIn K (.ref f20) = true)
    (a21 : PySem.W.nsIn K mainGlobals "signed" = some (some (.ref f21)))
    (l21 : K.lookup f21 = some ⟨oc21, od21, .func (PySem.W.fnOf "signed" "signed" (defArgs s_signed) (defBody s_signed) (defScope s_signed) .none kV21 dc21 pm21 an21 cd21 ct21), sl21⟩)
    (c21 : PySem.W.codeIn K cd21 "signed" = true)
    (k21 : PySem.W.keepIn K (.ref f21) = true)
    (a22 : PySem.W.nsIn K mainGlobals "cut" = some (some (.ref f22)))
    (l22 : K.lookup f22 = some ⟨oc22, od22, .func (PySem.W.fnOf "cut" "cut" (defArgs s_cut) (defBody s_cut) (defScope s_cut) .none kV22 dc22 pm22 an22 cd22 ct22), sl22⟩)
    (c22 : PySem.W.codeIn K cd22 "cut" = true)
    (k22 : PySem.W.keepIn K (.ref f22) = true)
    (a23 : PySem.W.nsIn K mainGlobals "put_together" = some (some (.ref f23)))
    (l23 : K.lookup f23 = some ⟨oc23, od23, .func (PySem.W.fnOf "put_together" "put_together" (defArgs s_put_together) (defBody s_put_together) (defScope s_put_together) .none kV23 dc23 pm23 an23 cd23 ct23), sl23⟩)
    (c23 : PySem.W.codeIn K cd23 "put_together" = true)
    (k23 : PySem.W.keepIn K (.ref f23) = true)
    (a24 : PySem.W.nsIn K mainGlobals "widened" = some (some (.ref f24)))
    (l24 : K.lookup f24 = some ⟨oc24, od24, .func (PySem.W.fnOf "widened" "widened" (defArgs s_widened) (defBody s_widened) (defScope s_widened) .none kV24 dc24 pm24 an24 cd24 ct24), sl24⟩)
    (c24 : PySem.W.codeIn K cd24 "widened" = true)
    (k24 : PySem.W.keepIn K (.ref f24) = true)
    (a25 : PySem.W.nsIn K mainGlobals "lengthened" = some (some (.ref f25)))
    (l25 : K.lookup f25 = some ⟨oc25, od25, .func (PySem.W.fnOf "lengthened" "lengthened" (defArgs s_lengthened) (defBody s_lengthened) (defScope s_lengthened) .none kV25 dc25 pm25 an25 cd25 ct25), sl25⟩)
    (c25 : PySem.W.codeIn K cd25 "lengthened" = true)
    (k25 : PySem.W.keepIn K (.ref f25) = true)
    (a26 : PySem.W.nsIn K mainGlobals "_law_dice" = some (some (.ref f26)))
    (l26 : K.lookup f26 = some ⟨oc26, od26, .func (PySem.W.fnOf "_law_dice" "_law_dice" (defArgs s__law_dice) (defBody s__law_dice) (defScope s__law_dice) .none kV26 dc26 pm26 an26 cd26 ct26), sl26⟩)
    (c26 : PySem.W.codeIn K cd26 "_law_dice" = true)
    (k26 : PySem.W.keepIn K (.ref f26) = true)
    (a27 : PySem.W.nsIn K mainGlobals "_law_roll" = some (some (.ref f27)))
    (l27 : K.lookup f27 = some ⟨oc27, od27, .func (PySem.W.fnOf "_law_roll" "_law_roll" (defArgs s__law_roll) (defBody s__law_roll) (defScope s__law_roll) .none kV27 dc27 pm27 an27 cd27 ct27), sl27⟩)
    (c27 : PySem.W.codeIn K cd27 "_law_roll" = true)
    (k27 : PySem.W.keepIn K (.ref f27) = true)
    (a28 : PySem.W.nsIn K mainGlobals "_law_one_of" = some (some (.ref f28)))
    (l28 : K.lookup f28 = some ⟨oc28, od28, .func (PySem.W.fnOf "_law_one_of" "_law_one_of" (defArgs s__law_one_of) (defBody s__law_one_of) (defScope s__law_one_of) .none kV28 dc28 pm28 an28 cd28 ct28), sl28⟩)
    (c28 : PySem.W.codeIn K cd28 "_law_one_of" = true)
    (k28 : PySem.W.keepIn K (.ref f28) = true)
    (a29 : PySem.W.nsIn K mainGlobals "_law_two_to" = some (some (.ref f29)))
    (l29 : K.lookup f29 = some ⟨oc29, od29, .func (PySem.W.fnOf "_law_two_to" "_law_two_to" (defArgs s__law_two_to) (defBody s__law_two_to) (defScope s__law_two_to) .none kV29 dc29 pm29 an29 cd29 ct29), sl29⟩)
    (c29 : PySem.W.codeIn K cd29 "_law_two_to" = true)
    (k29 : PySem.W.keepIn K (.ref f29) = true)
    (a30 : PySem.W.nsIn K mainGlobals "_law_word_drawn" = some (some (.ref f30)))
    (l30 : K.lookup f30 = some ⟨oc30, od30, .func (PySem.W.fnOf "_law_word_drawn" "_law_word_drawn" (defArgs s__law_word_drawn) (defBody s__law_word_drawn) (defScope s__law_word_drawn) .none kV30 dc30 pm30 an30 cd30 ct30), sl30⟩)
    (c30 : PySem.W.codeIn K cd30 "_law_word_drawn" = true)
    (k30 : PySem.W.keepIn K (.ref f30) = true)
    (a31 : PySem.W.nsIn K mainGlobals "_law_bits" = some (some (.ref f31)))
    (l31 : K.lookup f31 = some ⟨oc31, od31, .func (PySem.W.fnOf "_law_bits" "_law_bits" (defArgs s__law_bits) (defBody s__law_bits) (defScope s__law_bits) .none kV31 dc31 pm31 an31 cd31 ct31), sl31⟩)
    (c31 : PySem.W.codeIn K cd31 "_law_bits" = true)
    (k31 : PySem.W.keepIn K (.ref f31) = true)
    (a32 : PySem.W.nsIn K mainGlobals "_law_of_bits" = some (some (.ref f32)))
    (l32 : K.lookup f32 = some ⟨oc32, od32, .func (PySem.W.fnOf "_law_of_bits" "_law_of_bits" (defArgs s__law_of_bits) (defBody s__law_of_bits) (defScope s__law_of_bits) .none kV32 dc32 pm32 an32 cd32 ct32), sl32⟩)
    (c32 : PySem.W.codeIn K cd32 "_law_of_bits" = true)
    (k32 : PySem.W.keepIn K (.ref f32) = true)
    (a33 : PySem.W.nsIn K mainGlobals "_law_width_drawn" = some (some (.ref f33)))
    (l33 : K.lookup f33 = some ⟨oc33, od33, .func (PySem.W.fnOf "_law_width_drawn" "_law_width_drawn" (defArgs s__law_width_drawn) (defBody s__law_width_drawn) (defScope s__law_width_drawn) .none kV33 dc33 pm33 an33 cd33 ct33), sl33⟩)
    (c33 : PySem.W.codeIn K cd33 "_law_width_drawn" = true)
    (k33 : PySem.W.keepIn K (.ref f33) = true)
    (a34 : PySem.W.nsIn K mainGlobals "_law_parts_right" = some (some (.ref f34)))
    (l34 : K.lookup f34 = some ⟨oc34, od34, .func (PySem.W.fnOf "_law_parts_right" "_law_parts_right" (defArgs s__law_parts_right) (defBody s__law_parts_right) (defScope s__law_parts_right) .none kV34 dc34 pm34 an34 cd34 ct34), sl34⟩)
    (c34 : PySem.W.codeIn K cd34 "_law_parts_right" = true)
    (k34 : PySem.W.keepIn K (.ref f34) = true)
    (a35 : PySem.W.nsIn K mainGlobals "_law_wider_right" = some (some (.ref f35)))
    (l35 : K.lookup f35 = some ⟨oc35, od35, .func (PySem.W.fnOf "_law_wider_right" "_law_wider_right" (defArgs s__law_wider_right) (defBody s__law_wider_right) (defScope s__law_wider_right) .none kV35 dc35 pm35 an35 cd35 ct35), sl35⟩)
    (c35 : PySem.W.codeIn K cd35 "_law_wider_right" = true)
    (k35 : PySem.W.keepIn K (.ref f35) = true)
    (a36 : PySem.W.nsIn K mainGlobals "_law_right" = some (some (.ref f36)))
    (l36 : K.lookup f36 = some ⟨oc36, od36, .func (PySem.W.fnOf "_law_right" "_law_right" (defArgs s__law_right) (defBody s__law_right) (defScope s__law_right) .none kV36 dc36 pm36 an36 cd36 ct36), sl36⟩)
    (c36 : PySem.W.codeIn K cd36 "_law_right" = true)
    (k36 : PySem.W.keepIn K (.ref f36) = true)
    (a37 : PySem.W.nsIn K mainGlobals "law" = some (some (.ref f37)))
    (l37 : K.lookup f37 = some ⟨oc37, od37, .func (PySem.W.fnOf "law" "law" (defArgs s_law) (defBody s_law) (defScope s_law) .none kV37 dc37 pm37 an37 cd37 ct37), sl37⟩)
    (c37 : PySem.W.codeIn K cd37 "law" = true)
    (k37 : PySem.W.keepIn K (.ref f37) = true)
    (v0 : PySem.W.nsIn K mainGlobals "SIXTY" = some (some (.int (10 ^ 60) tk0)))
    (v1 : PySem.W.nsIn K mainGlobals "MAX_WIDTH" = some (some (.int 32 tk1)))
    (v2 : PySem.W.nsIn K mainGlobals "MAX_PLACES" = some (some (.int 63 tk2)))
    (v3 : PySem.W.nsIn K mainGlobals "PART_SIZE" = some (some (.int 2 tk3)))
    (z0 : PySem.W.nsIn K mainGlobals "isinstance" = some none)
    (z1 : PySem.W.nsIn K mainGlobals "int" = some none)
    (z2 : PySem.W.nsIn K mainGlobals "bool" = some none)
    (z3 : PySem.W.nsIn K mainGlobals "tuple" = some none)
    (z4 : PySem.W.nsIn K mainGlobals "all" = some none)
    (z5 : PySem.W.nsIn K mainGlobals "len" = some none)
    (z6 : PySem.W.nsIn K mainGlobals "range" = some none)
    (z7 : PySem.W.nsIn K mainGlobals "sum" = some none)
    (z8 : PySem.W.nsIn K mainGlobals "enumerate" = some none)
    (z9 : PySem.W.nsIn K mainGlobals "abs" = some none)
    (z10 : PySem.W.nsIn K mainGlobals "list" = some none)
    (z11 : PySem.W.nsIn K mainGlobals "repr" = some none)
    (z12 : PySem.W.nsIn K mainGlobals "max" = some none)
    (z13 : PySem.W.nsIn K mainGlobals "min" = some none)
    : Txt K mg :=
  ⟨defAt X G a0 l0 c0 k0 (fun _ _ _ _ _ _ us hl => match us, hl with | [_], _ => rfl),
   defAt X G a1 l1 c1 k1 (fun _ _ _ _ _ _ us hl => match us, hl with | [_], _ => rfl),
   defAt X G a2 l2 c2 k2 (fun _ _ _ _ _ _ us hl => match us, hl with | [_, _, _], _ => rfl),
   defAt X G a3 l3 c3 k3 (fun _ _ _ _ _ _ us hl => match us, hl with | [_], _ => rfl),
   defAt X G a4 l4 c4 k4 (fun _ _ _ _ _ _ us hl => match us, hl with | [_, _], _ => rfl),
   defAt X G a5 l5 c5 k5 (fun _ _ _ _ _ _ us hl => match us, hl with | [_, _, _], _ => rfl),
   defAt X G a6 l6 c6 k6 (fun _ _ _ _ _ _ us hl => match us, hl with | [_, _], _ => rfl),
   defAt X G a7 l7 c7 k7 (fun _ _ _ _ _ _ us hl => match us, hl with | [_], _ => rfl),
   defAt X G a8 l8 c8 k8 (fun _ _ _ _ _ _ us hl => match us, hl with | [_, _], _ => rfl),
   defAt X G a9 l9 c9 k9 (fun _ _ _ _ _ _ us hl => match us, hl with | [_, _], _ => rfl),
   defAt X G a10 l10 c10 k10 (fun _ _ _ _ _ _ us hl => match us, hl with | [_], _ => rfl),
   defAt X G a11 l11 c11 k11 (fun _ _ _ _ _ _ us hl => match us, hl with | [_, _], _ => rfl),
   defAt X G a12 l12 c12 k12 (fun _ _ _ _ _ _ us hl => match us, hl with | [_], _ => rfl),
   defAt X G a13 l13 c13 k13 (fun _ _ _ _ _ _ us hl => match us, hl with | [_, _], _ => rfl),
   defAt X G a14 l14 c14 k14 (fun _ _ _ _ _ _ us hl => match us, hl with | [_, _, _], _ => rfl),
   defAt X G a15 l15 c15 k15 (fun _ _ _ _ _ _ us hl => match us, hl with | [_], _ => rfl),
   defAt X G a16 l16 c16 k16 (fun _ _ _ _ _ _ us hl => match us, hl with | [_, _, _], _ => rfl),
   defAt X G a17 l17 c17 k17 (fun _ _ _ _ _ _ us hl => match us, hl with | [_, _], _ => rfl),
   defAt X G a18 l18 c18 k18 (fun _ _ _ _ _ _ us hl => match us, hl with | [_, _], _ => rfl),
   defAt X G a19 l19 c19 k19 (fun _ _ _ _ _ _ us hl => match us, hl with | [_], _ => rfl),
   defAt X G a20 l20 c20 k20 (fun _ _ _ _ _ _ us hl => match us, hl with | [_, _], _ => rfl),
   defAt X G a21 l21 c21 k21 (fun _ _ _ _ _ _ us hl => match us, hl with | [_, _], _ => rfl),
   defAt X G a22 l22 c22 k22 (fun _ _ _ _ _ _ us hl => match us, hl with | [_, _, _, _], _ => rfl),
   defAt X G a23 l23 c23 k23 (fun _ _ _ _ _ _ us hl => match us, hl with | [_], _ => rfl),
   defAt X G a24 l24 c24 k24 (fun _ _ _ _ _ _ us hl => match us, hl with | [_, _, _], _ => rfl),
   defAt X G a25 l25 c25 k25 (fun _ _ _ _ _ _ us hl => match us, hl with | [_, _, _], _ => rfl),
   defAt X G a26 l26 c26 k26 (fun _ _ _ _ _ _ us hl => match us, hl with | [_, _], _ => rfl),
   defAt X G a27 l27 c27 k27 (fun _ _ _ _ _ _ us hl => match us, hl with | [_, _], _ => rfl),
   defAt X G a28 l28 c28 k28 (fun _ _ _ _ _ _ us hl => match us, hl with | [_, _], _ => rfl),
   defAt X G a29 l29 c29 k29 (fun _ _ _ _ _ _ us hl => match us, hl with | [_], _ => rfl),
   defAt X G a30 l30 c30 k30 (fun _ _ _ _ _ _ us hl => match us, hl with | [_, _], _ => rfl),
   defAt X G a31 l31 c31 k31 (fun _ _ _ _ _ _ us hl => match us, hl with | [_, _], _ => rfl),
   defAt X G a32 l32 c32 k32 (fun _ _ _ _ _ _ us hl => match us, hl with | [_], _ => rfl),
   defAt X G a33 l33 c33 k33 (fun _ _ _ _ _ _ us hl => match us, hl with | [_], _ => rfl),
   defAt X G a34 l34 c34 k34 (fun _ _ _ _ _ _ us hl => match us, hl with | [_, _, _], _ => rfl),
   defAt X G a35 l35 c35 k35 (fun _ _ _ _ _ _ us hl => match us, hl with | [_, _, _, _], _ => rfl),
   defAt X G a36 l36 c36 k36 (fun _ _ _ _ _ _ us hl => match us, hl with | [_], _ => rfl),
   defAt X G a37 l37 c37 k37 (fun _ _ _ _ _ _ us hl => match us, hl with | [_], _ => rfl),
   ⟨_, PySem.W.mg_of X G v0, ⟨_, rfl⟩⟩,
   ⟨_, PySem.W.mg_of X G v1, ⟨_, rfl⟩⟩,
   ⟨_, PySem.W.mg_of X G v2, ⟨_, rfl⟩⟩,
   ⟨_, PySem.W.mg_of X G v3, ⟨_, rfl⟩⟩,
   PySem.W.mg_none_of X G z0,
   PySem.W.mg_none_of X G z1,
   PySem.W.mg_none_of X G z2,
   PySem.W.mg_none_of X G z3,
   PySem.W.mg_none_of X G z4,
   PySem.W.mg_none_of X G z5,
   PySem.W.mg_none_of X G z6,
   PySem.W.mg_none_of X G z7,
   PySem.W.mg_none_of X G z8,
   PySem.W.mg_none_of X G z9,
   PySem.W.mg_none_of X G z10,
   PySem.W.mg_none_of X G z11,
   PySem.W.mg_none_of X G z12,
   PySem.W.mg_none_of X G z13⟩
theorem fin {l : PySem.W.OpenLaw} {w : World} {K : PySem.W.Frag} {h : Heap} {mg : Str → Option Value} {fa : Addr} (X : K.In h) (G : h.Ns mainGlobals mg) (hfa : mg "law" = some (.ref fa))
    {f0 f1 f2 f3 f4 f5 f6 f7 f8 f9 f10 f11 f12 f13 f14 f15 f16 f17 f18 f19 f20 f21 f22 f23 f24 f25 f26 f27 f28 f29 f30 f31 f32 f33 f34 f35 f36 f37 : Addr} {od0 an0 od1 an1 od2 an2 od3 an3 od4 an4 od5 an5 od6 an6 od7 an7 od8 an8 od9 an9 od10 an10 od11 an11 od12 an12 od13 an13 od14 an14 od15 an15 od16 an16 od17 an17 od18 an18 od19 an19 od20 an20 od21 an21 od22 an22 od23 an23 od24 an24 od25 an25 od26 an26 od27 an27 od28 an28 od29 an29 od30 an30 od31 an31 od32 an32 od33 an33 od34 an34 od35 an35 od36 an36 od37 an37 : Option Addr} {sl0 sl1 sl2 sl3 sl4 sl5 sl6 sl7 sl8 sl9 sl10 sl11 sl12 sl13 sl14 sl15 sl16 sl17 sl18 sl19 sl20 sl21 sl22 sl23 sl24 sl25 sl26 sl27 sl28 sl29 sl30 sl31 sl32 sl33 sl34 sl35 sl36 sl37 : Array (Option Value)} {oc0 dc0 pm0 cd0 ct0 kV0 oc1 dc1 pm1 cd1 ct1 kV1 oc2 dc2 pm2 cd2 ct2 kV2 oc3 dc3 pm3 cd3 ct3 kV3 oc4 dc4 pm4 cd4 ct4 kV4 oc5 dc5 pm5 cd5 ct5 kV5 oc6 dc6 pm6 cd6 ct6 kV6 oc7 dc7 pm7 cd7 ct7 kV7 oc8 dc8 pm8 cd8 ct8 kV8 oc9 dc9 pm9 cd9 ct9 kV9 oc10 dc10 pm10 cd10 ct10 kV10 oc11 dc11 pm11 cd11 ct11 kV11 oc12 dc12 pm12 cd12 ct12 kV12 oc13 dc13 pm13 cd13 ct13 kV13 oc14 dc14 pm14 cd14 ct14 kV14 oc15 dc15 pm15 cd15 ct15 kV15 oc16 dc16 pm16 cd16 ct16 kV16 oc17 dc17 pm17 cd17 ct17 kV17 oc18 dc18 pm18 cd18 ct18 kV18 oc19 dc19 pm19 cd19 ct19 kV19 oc20 dc20 pm20 cd20 ct20 kV20 oc21 dc21 pm21 cd21 ct21 kV21 oc22 dc22 pm22 cd22 ct22 kV22 oc23 dc23 pm23 cd23 ct23 kV23 oc24 dc24 pm24 cd24 ct24 kV24 oc25 dc25 pm25 cd25 ct25 kV25 oc26 dc26 pm26 cd26 ct26 kV26 oc27 dc27 pm27 cd27 ct27 kV27 oc28 dc28 pm28 cd28 ct28 kV28 oc29 dc29 pm29 cd29 ct29 kV29 oc30 dc30 pm30 cd30 ct30 kV30 oc31 dc31 pm31 cd31 ct31 kV31 oc32 dc32 pm32 cd32 ct32 kV32 oc33 dc33 pm33 cd33 ct33 kV33 oc34 dc34 pm34 cd34 ct34 kV34 oc35 dc35 pm35 cd35 ct35 kV35 oc36 dc36 pm36 cd36 ct36 kV36 oc37 dc37 pm37 cd37 ct37 kV37 : Value} {tk0 tk1 tk2 tk3 : Tok}
    (a0 : PySem.W.nsIn K mainGlobals "is_integer" = some (some (.ref f0)))
    (l0 : K.lookup f0 = some ⟨oc0, od0, .func (PySem.W.fnOf "is_integer" "is_integer" (defArgs s_is_integer) (defBody s_is_integer) (defScope s_is_integer) .none kV0 dc0 pm0 an0 cd0 ct0), sl0⟩)
    (c0 : PySem.W.codeIn K cd0 "is_integer" = true)
    (k0 : PySem.W.keepIn K (.ref f0) = true)
    (a1 : PySem.W.nsIn K mainGlobals "is_short" = some (some (.ref f1)))
    (l1 : K.lookup f1 = some ⟨oc1, od1, .func (PySem.W.fnOf "is_short" "is_short" (defArgs s_is_short) (defBody s_is_short) (defScope s_is_short) .none kV1 dc1 pm1 an1 cd1 ct1), sl1⟩)
    (c1 : PySem.W.codeIn K cd1 "is_short" = true)
    (k1 : PySem.W.keepIn K (.ref f1) = true)
    (a2 : PySem.W.nsIn K mainGlobals "is_within" = some (some (.ref f2)))
    (l2 : K.lookup f2 = some ⟨oc2, od2, .func (PySem.W.fnOf "is_within" "is_within" (defArgs s_is_within) (defBody s_is_within) (defScope s_is_within) .none kV2 dc2 pm2 an2 cd2 ct2), sl2⟩)
    (c2 : PySem.W.codeIn K cd2 "is_within" = true)
    (k2 : PySem.W.keepIn K (.ref f2) = true)
    (a3 : PySem.W.nsIn K mainGlobals "is_bit" = some (some (.ref f3)))
    (l3 : K.lookup f3 = some ⟨oc3, od3, .func (PySem.W.fnOf "is_bit" "is_bit" (defArgs s_is_bit) (defBody s_is_bit) (defScope s_is_bit) .none kV3 dc3 pm3 an3 cd3 ct3), sl3⟩)
    (c3 : PySem.W.codeIn K cd3 "is_bit" = true)
    (k3 : PySem.W.keepIn K (.ref f3) = true)
    (a4 : PySem.W.nsIn K mainGlobals "are_bits" = some (some (.ref f4)))
    (l4 : K.lookup f4 = some ⟨oc4, od4, .func (PySem.W.fnOf "are_bits" "are_bits" (defArgs s_are_bits) (defBody s_are_bits) (defScope s_are_bits) .none kV4 dc4 pm4 an4 cd4 ct4), sl4⟩)
    (c4 : PySem.W.codeIn K cd4 "are_bits" = true)
    (k4 : PySem.W.keepIn K (.ref f4) = true)
    (a5 : PySem.W.nsIn K mainGlobals "require_within" = some (some (.ref f5)))
    (l5 : K.lookup f5 = some ⟨oc5, od5, .func (PySem.W.fnOf "require_within" "require_within" (defArgs s_require_within) (defBody s_require_within) (defScope s_require_within) .none kV5 dc5 pm5 an5 cd5 ct5), sl5⟩)
    (c5 : PySem.W.codeIn K cd5 "require_within" = true)
    (k5 : PySem.W.keepIn K (.ref f5) = true)
    (a6 : PySem.W.nsIn K mainGlobals "is_word_in" = some (some (.ref f6)))
    (l6 : K.lookup f6 = some ⟨oc6, od6, .func (PySem.W.fnOf "is_word_in" "is_word_in" (defArgs s_is_word_in) (defBody s_is_word_in) (defScope s_is_word_in) .none kV6 dc6 pm6 an6 cd6 ct6), sl6⟩)
    (c6 : PySem.W.codeIn K cd6 "is_word_in" = true)
    (k6 : PySem.W.keepIn K (.ref f6) = true)
    (a7 : PySem.W.nsIn K mainGlobals "require_width" = some (some (.ref f7)))
    (l7 : K.lookup f7 = some ⟨oc7, od7, .func (PySem.W.fnOf "require_width" "require_width" (defArgs s_require_width) (defBody s_require_width) (defScope s_require_width) .none kV7 dc7 pm7 an7 cd7 ct7), sl7⟩)
    (c7 : PySem.W.codeIn K cd7 "require_width" = true)
    (k7 : PySem.W.keepIn K (.ref f7) = true)
    (a8 : PySem.W.nsIn K mainGlobals "require_word" = some (some (.ref f8)))
    (l8 : K.lookup f8 = some ⟨oc8, od8, .func (PySem.W.fnOf "require_word" "require_word" (defArgs s_require_word) (defBody s_require_word) (defScope s_require_word) .none kV8 dc8 pm8 an8 cd8 ct8), sl8⟩)
    (c8 : PySem.W.codeIn K cd8 "require_word" = true)
    (k8 : PySem.W.keepIn K (.ref f8) = true)
    (a9 : PySem.W.nsIn K mainGlobals "require_one_word" = some (some (.ref f9)))
    (l9 : K.lookup f9 = some ⟨oc9, od9, .func (PySem.W.fnOf "require_one_word" "require_one_word" (defArgs s_require_one_word) (defBody s_require_one_word) (defScope s_require_one_word) .none kV9 dc9 pm9 an9 cd9 ct9), sl9⟩)
    (c9 : PySem.W.codeIn K cd9 "require_one_word" = true)
    (k9 : PySem.W.keepIn K (.ref f9) = true)
    (a10 : PySem.W.nsIn K mainGlobals "is_part" = some (some (.ref f10)))
    (l10 : K.lookup f10 = some ⟨oc10, od10, .func (PySem.W.fnOf "is_part" "is_part" (defArgs s_is_part) (defBody s_is_part) (defScope s_is_part) .none kV10 dc10 pm10 an10 cd10 ct10), sl10⟩)
    (c10 : PySem.W.codeIn K cd10 "is_part" = true)
    (k10 : PySem.W.keepIn K (.ref f10) = true)
    (a11 : PySem.W.nsIn K mainGlobals "bits_in" = some (some (.ref f11)))
    (l11 : K.lookup f11 = some ⟨oc11, od11, .func (PySem.W.fnOf "bits_in" "bits_in" (defArgs s_bits_in) (defBody s_bits_in) (defScope s_bits_in) .none kV11 dc11 pm11 an11 cd11 ct11), sl11⟩)
    (c11 : PySem.W.codeIn K cd11 "bits_in" = true)
    (k11 : PySem.W.keepIn K (.ref f11) = true)
    (a12 : PySem.W.nsIn K mainGlobals "word_in" = some (some (.ref f12)))
    (l12 : K.lookup f12 = some ⟨oc12, od12, .func (PySem.W.fnOf "word_in" "word_in" (defArgs s_word_in) (defBody s_word_in) (defScope s_word_in) .none kV12 dc12 pm12 an12 cd12 ct12), sl12⟩)
    (c12 : PySem.W.codeIn K cd12 "word_in" = true)
    (k12 : PySem.W.keepIn K (.ref f12) = true)
    (a13 : PySem.W.nsIn K mainGlobals "signed_in" = some (some (.ref f13)))
    (l13 : K.lookup f13 = some ⟨oc13, od13, .func (PySem.W.fnOf "signed_in" "signed_in" (defArgs s_signed_in) (defBody s_signed_in) (defScope s_signed_in) .none kV13 dc13 pm13 an13 cd13 ct13), sl13⟩)
    (c13 : PySem.W.codeIn K cd13 "signed_in" = true)
    (k13 : PySem.W.keepIn K (.ref f13) = true)
    (a14 : PySem.W.nsIn K mainGlobals "cut_in" = some (some (.ref f14)))
    (l14 : K.lookup f14 = some ⟨oc14, od14, .func (PySem.W.fnOf "cut_in" "cut_in" (defArgs s_cut_in) (defBody s_cut_in) (defScope s_cut_in) .none kV14 dc14 pm14 an14 cd14 ct14), sl14⟩)
    (c14 : PySem.W.codeIn K cd14 "cut_in" = true)
    (k14 : PySem.W.keepIn K (.ref f14) = true)
    (a15 : PySem.W.nsIn K mainGlobals "put_together_in" = some (some (.ref f15)))
    (l15 : K.lookup f15 = some ⟨oc15, od15, .func (PySem.W.fnOf "put_together_in" "put_together_in" (defArgs s_put_together_in) (defBody s_put_together_in) (defScope s_put_together_in) .none kV15 dc15 pm15 an15 cd15 ct15), sl15⟩)
    (c15 : PySem.W.codeIn K cd15 "put_together_in" = true)
    (k15 : PySem.W.keepIn K (.ref f15) = true)
    (a16 : PySem.W.nsIn K mainGlobals "lengthened_in" = some (some (.ref f16)))
    (l16 : K.lookup f16 = some ⟨oc16, od16, .func (PySem.W.fnOf "lengthened_in" "lengthened_in" (defArgs s_lengthened_in) (defBody s_lengthened_in) (defScope s_lengthened_in) .none kV16 dc16 pm16 an16 cd16 ct16), sl16⟩)
    (c16 : PySem.W.codeIn K cd16 "lengthened_in" = true)
    (k16 : PySem.W.keepIn K (.ref f16) = true)
    (a17 : PySem.W.nsIn K mainGlobals "is_word" = some (some (.ref f17)))
    (l17 : K.lookup f17 = some ⟨oc17, od17, .func (PySem.W.fnOf "is_word" "is_word" (defArgs s_is_word) (defBody s_is_word) (defScope s_is_word) .none kV17 dc17 pm17 an17 cd17 ct17), sl17⟩)
    (c17 : PySem.W.codeIn K cd17 "is_word" = true)
    (k17 : PySem.W.keepIn K (.ref f17) = true)
    (a18 : PySem.W.nsIn K mainGlobals "bits_of_word" = some (some (.ref f18)))
    (l18 : K.lookup f18 = some ⟨oc18, od18, .func (PySem.W.fnOf "bits_of_word" "bits_of_word" (defArgs s_bits_of_word) (defBody s_bits_of_word) (defScope s_bits_of_word) .none kV18 dc18 pm18 an18 cd18 ct18), sl18⟩)
    (c18 : PySem.W.codeIn K cd18 "bits_of_word" = true)
    (k18 : PySem.W.keepIn K (.ref f18) = true)
    (a19 : PySem.W.nsIn K mainGlobals "word_of_bits" = some (some (.ref f19)))
    (l19 : K.lookup f19 = some ⟨oc19, od19, .func (PySem.W.fnOf "word_of_bits" "word_of_bits" (defArgs s_word_of_bits) (defBody s_word_of_bits) (defScope s_word_of_bits) .none kV19 dc19 pm19 an19 cd19 ct19), sl19⟩)
    (c19 : PySem.W.codeIn K cd19 "word_of_bits" = true)
    (k19 : PySem.W.keepIn K (.ref f19) = true)
    (a20 : PySem.W.nsIn K mainGlobals "wrapped" = some (some (.ref f20)))
    (l20 : K.lookup f20 = some ⟨oc20, od20, .func (PySem.W.fnOf "wrapped" "wrapped" (defArgs s_wrapped) (defBody s_wrapped) (defScope s_wrapped) .none kV20 dc20 pm20 an20 cd20 ct20), sl20⟩)
    (c20 : PySem.W.codeIn K cd20 "wrapped" = true)
    (k20 : PySem.W.keepIn K (.ref f20) = true)
    (a21 : PySem.W.nsIn K mainGlobals "signed" = some (some (.ref f21)))
    (l21 : K.lookup f21 = some ⟨oc21, od21, .func (PySem.W.fnOf "signed" "signed" (defArgs s_signed) (defBody s_signed) (defScope s_signed) .none kV21 dc21 pm21 an21 cd21 ct21), sl21⟩)
    (c21 : PySem.W.codeIn K cd21 "signed" = true)
    (k21 : PySem.W.keepIn K (.ref f21) = true)
    (a22 : PySem.W.nsIn K mainGlobals "cut" = some (some (.ref f22)))
    (l22 : K.lookup f22 = some ⟨oc22, od22, .func (PySem.W.fnOf "cut" "cut" (defArgs s_cut) (defBody s_cut) (defScope s_cut) .none kV22 dc22 pm22 an22 cd22 ct22), sl22⟩)
    (c22 : PySem.W.codeIn K cd22 "cut" = true)
    (k22 : PySem.W.keepIn K (.ref f22) = true)
    (a23 : PySem.W.nsIn K mainGlobals "put_together" = some (some (.ref f23)))
    (l23 : K.lookup f23 = some ⟨oc23, od23, .func (PySem.W.fnOf "put_together" "put_together" (defArgs s_put_together) (defBody s_put_together) (defScope s_put_together) .none kV23 dc23 pm23 an23 cd23 ct23), sl23⟩)
    (c23 : PySem.W.codeIn K cd23 "put_together" = true)
    (k23 : PySem.W.keepIn K (.ref f23) = true)
    (a24 : PySem.W.nsIn K mainGlobals "widened" = some (some (.ref f24)))
    (l24 : K.lookup f24 = some ⟨oc24, od24, .func (PySem.W.fnOf "widened" "widened" (defArgs s_widened) (defBody s_widened) (defScope s_widened) .none kV24 dc24 pm24 an24 cd24 ct24), sl24⟩)
    (c24 : PySem.W.codeIn K cd24 "widened" = true)
    (k24 : PySem.W.keepIn K (.ref f24) = true)
    (a25 : PySem.W.nsIn K mainGlobals "lengthened" = some (some (.ref f25)))
    (l25 : K.lookup f25 = some ⟨oc25, od25, .func (PySem.W.fnOf "lengthened" "lengthened" (defArgs s_lengthened) (defBody s_lengthened) (defScope s_lengthened) .none kV25 dc25 pm25 an25 cd25 ct25), sl25⟩)
    (c25 : PySem.W.codeIn K cd25 "lengthened" = true)
    (k25 : PySem.W.keepIn K (.ref f25) = true)
    (a26 : PySem.W.nsIn K mainGlobals "_law_dice" = some (some (.ref f26)))
    (l26 : K.lookup f26 = some ⟨oc26, od26, .func (PySem.W.fnOf "_law_dice" "_law_dice" (defArgs s__law_dice) (defBody s__law_dice) (defScope s__law_dice) .none kV26 dc26 pm26 an26 cd26 ct26), sl26⟩)
    (c26 : PySem.W.codeIn K cd26 "_law_dice" = true)
    (k26 : PySem.W.keepIn K (.ref f26) = true)
    (a27 : PySem.W.nsIn K mainGlobals "_law_roll" = some (some (.ref f27)))
    (l27 : K.lookup f27 = some ⟨oc27, od27, .func (PySem.W.fnOf "_law_roll" "_law_roll" (defArgs s__law_roll) (defBody s__law_roll) (defScope s__law_roll) .none kV27 dc27 pm27 an27 cd27 ct27), sl27⟩)
    (c27 : PySem.W.codeIn K cd27 "_law_roll" = true)
    (k27 : PySem.W.keepIn K (.ref f27) = true)
    (a28 : PySem.W.nsIn K mainGlobals "_law_one_of" = some (some (.ref f28)))
    (l28 : K.lookup f28 = some ⟨oc28, od28, .func (PySem.W.fnOf "_law_one_of" "_law_one_of" (defArgs s__law_one_of) (defBody s__law_one_of) (defScope s__law_one_of) .none kV28 dc28 pm28 an28 cd28 ct28), sl28⟩)
    (c28 : PySem.W.codeIn K cd28 "_law_one_of" = true)
    (k28 : PySem.W.keepIn K (.ref f28) = true)
    (a29 : PySem.W.nsIn K mainGlobals "_law_two_to" = some (some (.ref f29)))
    (l29 : K.lookup f29 = some ⟨oc29, od29, .func (PySem.W.fnOf "_law_two_to" "_law_two_to" (defArgs s__law_two_to) (defBody s__law_two_to) (defScope s__law_two_to) .none kV29 dc29 pm29 an29 cd29 ct29), sl29⟩)
    (c29 : PySem.W.codeIn K cd29 "_law_two_to" = true)
    (k29 : PySem.W.keepIn K (.ref f29) = true)
    (a30 : PySem.W.nsIn K mainGlobals "_law_word_drawn" = some (some (.ref f30)))
    (l30 : K.lookup f30 = some ⟨oc30, od30, .func (PySem.W.fnOf "_law_word_drawn" "_law_word_drawn" (defArgs s__law_word_drawn) (defBody s__law_word_drawn) (defScope s__law_word_drawn) .none kV30 dc30 pm30 an30 cd30 ct30), sl30⟩)
    (c30 : PySem.W.codeIn K cd30 "_law_word_drawn" = true)
    (k30 : PySem.W.keepIn K (.ref f30) = true)
    (a31 : PySem.W.nsIn K mainGlobals "_law_bits" = some (some (.ref f31)))
    (l31 : K.lookup f31 = some ⟨oc31, od31, .func (PySem.W.fnOf "_law_bits" "_law_bits" (defArgs s__law_bits) (defBody s__law_bits) (defScope s__law_bits) .none kV31 dc31 pm31 an31 cd31 ct31), sl31⟩)
    (c31 : PySem.W.codeIn K cd31 "_law_bits" = true)
    (k31 : PySem.W.keepIn K (.ref f31) = true)
    (a32 : PySem.W.nsIn K mainGlobals "_law_of_bits" = some (some (.ref f32)))
    (l32 : K.lookup f32 = some ⟨oc32, od32, .func (PySem.W.fnOf "_law_of_bits" "_law_of_bits" (defArgs s__law_of_bits) (defBody s__law_of_bits) (defScope s__law_of_bits) .none kV32 dc32 pm32 an32 cd32 ct32), sl32⟩)
    (c32 : PySem.W.codeIn K cd32 "_law_of_bits" = true)
    (k32 : PySem.W.keepIn K (.ref f32) = true)
    (a33 : PySem.W.nsIn K mainGlobals "_law_width_drawn" = some (some (.ref f33)))
    (l33 : K.lookup f33 = some ⟨oc33, od33, .func (PySem.W.fnOf "_law_width_drawn" "_law_width_drawn" (defArgs s__law_width_drawn) (defBody s__law_width_drawn) (defScope s__law_width_drawn) .none kV33 dc33 pm33 an33 cd33 ct33), sl33⟩)
    (c33 : PySem.W.codeIn K cd33 "_law_width_drawn" = true)
    (k33 : PySem.W.keepIn K (.ref f33) = true)
    (a34 : PySem.W.nsIn K mainGlobals "_law_parts_right" = some (some (.ref f34)))
    (l34 : K.lookup f34 = some ⟨oc34, od34, .func (PySem.W.fnOf "_law_parts_right" "_law_parts_right" (defArgs s__law_parts_right) (defBody s__law_parts_right) (defScope s__law_parts_right) .none kV34 dc34 pm34 an34 cd34 ct34), sl34⟩)
    (c34 : PySem.W.codeIn K cd34 "_law_parts_right" = true)
    (k34 : PySem.W.keepIn K (.ref f34) = true)
    (a35 : PySem.W.nsIn K mainGlobals "_law_wider_right" = some (some (.ref f35)))
    (l35 : K.lookup f35 = some ⟨oc35, od35, .func (PySem.W.fnOf "_law_wider_right" "_law_wider_right" (defArgs s__law_wider_right) (defBody s__law_wider_right) (defScope s__law_wider_right) .none kV35 dc35 pm35 an35 cd35 ct35), sl35⟩)
    (c35 : PySem.W.codeIn K cd35 "_law_wider_right" = true)
    (k35 : PySem.W.keepIn K (.ref f35) = true)
    (a36 : PySem.W.nsIn K mainGlobals "_law_right" = some (some (.ref f36)))
    (l36 : K.lookup f36 = some ⟨oc36, od36, .func (PySem.W.fnOf "_law_right" "_law_right" (defArgs s__law_right) (defBody s__law_right) (defScope s__law_right) .none kV36 dc36 pm36 an36 cd36 ct36), sl36⟩)
    (c36 : PySem.W.codeIn K cd36 "_law_right" = true)
    (k36 : PySem.W.keepIn K (.ref f36) = true)
    (a37 : PySem.W.nsIn K mainGlobals "law" = some (some (.ref f37)))
    (l37 : K.lookup f37 = some ⟨oc37, od37, .func (PySem.W.fnOf "law" "law" (defArgs s_law) (defBody s_law) (defScope s_law) .none kV37 dc37 pm37 an37 cd37 ct37), sl37⟩)
    (c37 : PySem.W.codeIn K cd37 "law" = true)
    (k37 : PySem.W.keepIn K (.ref f37) = true)
    (v0 : PySem.W.nsIn K mainGlobals "SIXTY" = some (some (.int (10 ^ 60) tk0)))
    (v1 : PySem.W.nsIn K mainGlobals "MAX_WIDTH" = some (some (.int 32 tk1)))
    (v2 : PySem.W.nsIn K mainGlobals "MAX_PLACES" = some (some (.int 63 tk2)))
    (v3 : PySem.W.nsIn K mainGlobals "PART_SIZE" = some (some (.int 2 tk3)))
    (z0 : PySem.W.nsIn K mainGlobals "isinstance" = some none)
    (z1 : PySem.W.nsIn K mainGlobals "int" = some none)
    (z2 : PySem.W.nsIn K mainGlobals "bool" = some none)
    (z3 : PySem.W.nsIn K mainGlobals "tuple" = some none)
    (z4 : PySem.W.nsIn K mainGlobals "all" = some none)
    (z5 : PySem.W.nsIn K mainGlobals "len" = some none)
    (z6 : PySem.W.nsIn K mainGlobals "range" = some none)
    (z7 : PySem.W.nsIn K mainGlobals "sum" = some none)
    (z8 : PySem.W.nsIn K mainGlobals "enumerate" = some none)
    (z9 : PySem.W.nsIn K mainGlobals "abs" = some none)
    (z10 : PySem.W.nsIn K mainGlobals "list" = some none)
    (z11 : PySem.W.nsIn K mainGlobals "repr" = some none)
    (z12 : PySem.W.nsIn K mainGlobals "max" = some none)
    (z13 : PySem.W.nsIn K mainGlobals "min" = some none)
    : ∃ fd : FuncData, (∀ (s : Shared) (v : Value), BindsTo s fd ⟨[v], []⟩ [("_law_script", v)]) ∧ ∀ base : Heap, K.In base → base.Ns mainGlobals mg → FnOk l.prog w K mg base CX0 9 fa fd ["_law_script"] (sp_law K) := by
  have e := hfa.symm.trans (PySem.W.mg_of X G a37)
  cases e
  exact ⟨PySem.W.fnOf "law" "law" (defArgs s_law) (defBody s_law) (defScope s_law) .none kV37 dc37 pm37 an37 cd37 ct37, fun s v => .of_eq rfl, fun base _ _ => ok_law (txt_mk X G a0 l0 c0 k0 a1 l1 c1 k1 a2 l2 c2 k2 a3 l3 c3 k3 a4 l4 c4 k4 a5 l5 c5 k5 a6 l6 c6 k6 a7 l7 c7 k7 a8 l8 c8 k8 a9 l9 c9 k9 a10 l10 c10 k10 a11 l11 c11 k11 a12 l12 c12 k12 a13 l13 c13 k13 a14 l14 c14 k14 a15 l15 c15 k15 a16 l16 c16 k16 a17 l17 c17 k17 a18 l18 c18 k18 a19 l19 c19 k19 a20 l20 c20 k20 a21 l21 c21 k21 a22 l22 c22 k22 a23 l23 c23 k23 a24 l24 c24 k24 a25 l25 c25 k25 a26 l26 c26 k26 a27 l27 c27 k27 a28 l28 c28 k28 a29 l29 c29 k29 a30 l30 c30 k30 a31 l31 c31 k31 a32 l32 c32 k32 a33 l33 c33 k33 a34 l34 c34 k34 a35 l35 c35 k35 a36 l36 c36 k36 a37 l37 c37 k37 v0 v1 v2 v3 z0 z1 z2 z3 z4 z5 z6 z7 z8 z9 z10 z11 z12 z13)⟩
end TB
open PySem PySem.W PyProof.Rows
set_option maxRecDepth 100000 in
set_option maxHeartbeats 0 in
theorem PySem.Challenge.cw_truebeat_k00_whole_bits_and_signed_numbe_holds : PySem.Challenge.rw_truebeat_k00_whole_bits_and_signed_numbe.Holds := by
  w_on; o_law; k_head; (case hw => w_witness2)
  k_fill
  refine L2.walk_of (l := PySem.Challenge.rw_truebeat_k00_whole_bits_and_signed_numbe) (n := 63) (k := 9) (x := "_law_script") (CX := fun _ => L2.CX0) (sp := fun w => TB.sp_law _) rfl (by decide) rfl ⟨rfl, by decide, by decide⟩ (fun w h Y => PySem.W.kIn_of Y) ?F (fun _ _ a ns hl _ hS => ⟨a, ns, rfl, hS, hl, fun _ => rfl⟩) (fun _ _ _ _ _ h => h)
  case F =>
    intro w mg fa h KX G hmg
    refine' TB.fin KX G hmg ?a0 ?l0 ?c0 ?k0 ?a1 ?l1 ?c1 ?k1 ?a2 ?l2 ?c2 ?k2 ?a3 ?l3 ?c3 ?k3 ?a4 ?l4 ?c4 ?k4 ?a5 ?l5 ?c5 ?k5 ?a6 ?l6 ?c6 ?k6 ?a7 ?l7 ?c7 ?k7 ?a8 ?l8 ?c8 ?k8 ?a9 ?l9 ?c9 ?k9 ?a10 ?l10 ?c10 ?k10 ?a11 ?l11 ?c11 ?k11 ?a12 ?l12 ?c12 ?k12 ?a13 ?l13 ?c13 ?k13 ?a14 ?l14 ?c14 ?k14 ?a15 ?l15 ?c15 ?k15 ?a16 ?l16 ?c16 ?k16 ?a17 ?l17 ?c17 ?k17 ?a18 ?l18 ?c18 ?k18 ?a19 ?l19 ?c19 ?k19 ?a20 ?l20 ?c20 ?k20 ?a21 ?l21 ?c21 ?k21 ?a22 ?l22 ?c22 ?k22 ?a23 ?l23 ?c23 ?k23 ?a24 ?l24 ?c24 ?k24 ?a25 ?l25 ?c25 ?k25 ?a26 ?l26 ?c26 ?k26 ?a27 ?l27 ?c27 ?k27 ?a28 ?l28 ?c28 ?k28 ?a29 ?l29 ?c29 ?k29 ?a30 ?l30 ?c30 ?k30 ?a31 ?l31 ?c31 ?k31 ?a32 ?l32 ?c32 ?k32 ?a33 ?l33 ?c33 ?k33 ?a34 ?l34 ?c34 ?k34 ?a35 ?l35 ?c35 ?k35 ?a36 ?l36 ?c36 ?k36 ?a37 ?l37 ?c37 ?k37 ?v0 ?v1 ?v2 ?v3 ?z0 ?z1 ?z2 ?z3 ?z4 ?z5 ?z6 ?z7 ?z8 ?z9 ?z10 ?z11 ?z12 ?z13
    (case a0 => k_is)
    (case l0 => k_is)
    (case c0 => k_is)
    (case k0 => k_is)
    (case a1 => k_is)
    (case l1 => k_is)
    (case c1 => k_is)
    (case k1 => k_is)
    (case a2 => k_is)
    (case l2 => k_is)
    (case c2 => k_is)
    (case k2 => k_is)
    (case a3 => k_is)
    (case l3 => k_is)
    (case c3 => k_is)
    (case k3 => k_is)
    (case a4 => k_is)
    (case l4 => k_is)
    (case c4 => k_is)
    (case k4 => k_is)
    (case a5 => k_is)
    (case l5 => k_is)
    (case c5 => k_is)
    (case k5 => k_is)
    (case a6 => k_is)
    (case l6 => k_is)
    (case c6 => k_is)
    (case k6 => k_is)
    (case a7 => k_is)
    (case l7 => k_is)
    (case c7 => k_is)
    (case k7 => k_is)
    (case a8 => k_is)
    (case l8 => k_is)
    (case c8 => k_is)
    (case k8 => k_is)
    (case a9 => k_is)
    (case l9 => k_is)
    (case c9 => k_is)
    (case k9 => k_is)
    (case a10 => k_is)
    (case l10 => k_is)
    (case c10 => k_is)
    (case k10 => k_is)
    (case a11 => k_is)
    (case l11 => k_is)
    (case c11 => k_is)
    (case k11 => k_is)
    (case a12 => k_is)
    (case l12 => k_is)
    (case c12 => k_is)
    (case k12 => k_is)
    (case a13 => k_is)
    (case l13 => k_is)
    (case c13 => k_is)
    (case k13 => k_is)
    (case a14 => k_is)
    (case l14 => k_is)
    (case c14 => k_is)
    (case k14 => k_is)
    (case a15 => k_is)
    (case l15 => k_is)
    (case c15 => k_is)
    (case k15 => k_is)
    (case a16 => k_is)
    (case l16 => k_is)
    (case c16 => k_is)
    (case k16 => k_is)
    (case a17 => k_is)
    (case l17 => k_is)
    (case c17 => k_is)
    (case k17 => k_is)
    (case a18 => k_is)
    (case l18 => k_is)
    (case c18 => k_is)
    (case k18 => k_is)
    (case a19 => k_is)
    (case l19 => k_is)
    (case c19 => k_is)
    (case k19 => k_is)
    (case a20 => k_is)
    (case l20 => k_is)
    (case c20 => k_is)
    (case k20 => k_is)
    (case a21 => k_is)
    (case l21 => k_is)
    (case c21 => k_is)
    (case k21 => k_is)
    (case a22 => k_is)
    (case l22 => k_is)
    (case c22 => k_is)
    (case k22 => k_is)
    (case a23 => k_is)
    (case l23 => k_is)
    (case c23 => k_is)
    (case k23 => k_is)
    (case a24 => k_is)
    (case l24 => k_is)
    (case c24 => k_is)
    (case k24 => k_is)
    (case a25 => k_is)
    (case l25 => k_is)
    (case c25 => k_is)
    (case k25 => k_is)
    (case a26 => k_is)
    (case l26 => k_is)
    (case c26 => k_is)
    (case k26 => k_is)
    (case a27 => k_is)
    (case l27 => k_is)
    (case c27 => k_is)
    (case k27 => k_is)
    (case a28 => k_is)
    (case l28 => k_is)
    (case c28 => k_is)
    (case k28 => k_is)
    (case a29 => k_is)
    (case l29 => k_is)
    (case c29 => k_is)
    (case k29 => k_is)
    (case a30 => k_is)
    (case l30 => k_is)
    (case c30 => k_is)
    (case k30 => k_is)
    (case a31 => k_is)
    (case l31 => k_is)
    (case c31 => k_is)
    (case k31 => k_is)
    (case a32 => k_is)
    (case l32 => k_is)
    (case c32 => k_is)
    (case k32 => k_is)
    (case a33 => k_is)
    (case l33 => k_is)
    (case c33 => k_is)
    (case k33 => k_is)
    (case a34 => k_is)
    (case l34 => k_is)
    (case c34 => k_is)
    (case k34 => k_is)
    (case a35 => k_is)
    (case l35 => k_is)
    (case c35 => k_is)
    (case k35 => k_is)
    (case a36 => k_is)
    (case l36 => k_is)
    (case c36 => k_is)
    (case k36 => k_is)
    (case a37 => k_is)
    (case l37 => k_is)
    (case c37 => k_is)
    (case k37 => k_is)
    (case v0 => k_is)
    (case v1 => k_is)
    (case v2 => k_is)
    (case v3 => k_is)
    (case z0 => k_is)
    (case z1 => k_is)
    (case z2 => k_is)
    (case z3 => k_is)
    (case z4 => k_is)
    (case z5 => k_is)
    (case z6 => k_is)
    (case z7 => k_is)
    (case z8 => k_is)
    (case z9 => k_is)
    (case z10 => k_is)
    (case z11 => k_is)
    (case z12 => k_is)
    (case z13 => k_is)
#print axioms PySem.Challenge.cw_truebeat_k00_whole_bits_and_signed_numbe_holds
