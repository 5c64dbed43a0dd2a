import PyProof.Rows.All
import Wide.All
import OpenK.AllK
import Wide.FinOn
import HandS.ForMost
import HandS.Wide
import HandS.WideBits
import HandS.Style
import HandS.IsInst
import HandS.TupAny
import HandS.Defaults
import HandS.Zip
import HandS.TupMul
import KE.GoesEnum
import HandS.RaiseMore
import PySem.Challenge.RW_truebeat_k26_whole_long_parts_beat_by_be
set_option Elab.async false
set_option linter.all false
set_option maxRecDepth 100000
set_option maxHeartbeats 4000000
namespace TB
/-! ### whole numbers -/
theorem two_pos (n : Nat) : (0 : Int) < 2 ^ n := Int.pow_pos (by decide)
theorem two_succ (n : Nat) : (2 : Int) ^ (n + 1) = 2 * 2 ^ n := by rw [Int.pow_succ, Int.mul_comm]
theorem two_add (a b : Nat) : (2 : Int) ^ (a + b) = 2 ^ a * 2 ^ b := Int.pow_add 2 a b
theorem two_mono {a b : Nat} (h : a ≤ b) : (2 : Int) ^ a ≤ 2 ^ b := by
  obtain ⟨c, rfl⟩ := Nat.exists_eq_add_of_le h
  rw [two_add]
  have := two_pos a
  have h2 : (1 : Int) ≤ 2 ^ c := two_pos c
  have := Int.mul_le_mul_of_nonneg_left h2 (Int.le_of_lt (two_pos a))
  omega
theorem two32 {w : Nat} (h : w ≤ 32) : (2 : Int) ^ w ≤ 4294967296 := Int.le_trans (two_mono h) (by decide)
theorem divmod_of {a b q r : Int} (hb : 0 < b) (e : r + b * q = a) (h0 : 0 ≤ r) (h1 : r < b) : a / b = q ∧ a % b = r := (Int.ediv_emod_unique hb).mpr ⟨e, h0, h1⟩
theorem mod_succ (x : Int) (i : Nat) : x % 2 ^ (i + 1) = x % 2 ^ i + 2 ^ i * (x / 2 ^ i % 2) := by
  have hd := two_pos i
  have e1 := Int.emod_add_mul_ediv x (2 ^ i)
  have e2 := Int.emod_add_mul_ediv (x / 2 ^ i) 2
  have l1 := Int.emod_nonneg x (Int.ne_of_gt hd)
  have l2 := Int.emod_lt_of_pos x hd
  rw [two_succ]
  refine (divmod_of (q := x / 2 ^ i / 2) (by omega) ?_ ?_ ?_).2
  · rw [Int.mul_comm 2 ((2 : Int) ^ i), Int.mul_assoc]
    have e3 : (2 : Int) ^ i * (x / 2 ^ i) = 2 ^ i * (x / 2 ^ i % 2) + 2 ^ i * (2 * (x / 2 ^ i / 2)) := by rw [← Int.mul_add, e2]
    omega
  · have := Int.mul_nonneg (Int.le_of_lt hd) (Int.emod_nonneg (x / 2 ^ i) (by decide : (2 : Int) ≠ 0))
    omega
  · have h3 : x / 2 ^ i % 2 ≤ 1 := by omega
    have := Int.mul_le_mul_of_nonneg_left h3 (Int.le_of_lt hd)
    omega
theorem div_div (x : Int) (a b : Nat) : x / 2 ^ a / 2 ^ b = x / 2 ^ (a + b) := by
  rw [two_add, Int.ediv_ediv_of_nonneg (Int.le_of_lt (two_pos a))]
/-! ### bits -/
def bitsI : Nat → Int → List Int
  | 0, _ => []
  | n + 1, x => (x % 2) :: bitsI n (x / 2)
def ofBits : List Int → Int
  | [] => 0
  | b :: r => 2 * ofBits r + b
theorem bitsI_length : ∀ (n : Nat) (x : Int), (bitsI n x).length = n
  | 0, _ => rfl
  | n + 1, x => by simp [bitsI, bitsI_length n (x / 2)]
theorem bitsI_get : ∀ (n : Nat) (x : Int) (i : Nat), i < n → (bitsI n x)[i]? = some (x / 2 ^ i % 2)
  | 0, _, _, h => by omega
  | n + 1, x, 0, _ => by simp [bitsI]
  | n + 1, x, i + 1, h => by
    have := bitsI_get n (x / 2) i (by omega)
    simp only [bitsI, List.getElem?_cons_succ]
    rw [this]
    have e := div_div x 1 i
    rw [show (2 : Int) ^ 1 = 2 from rfl] at e
    rw [e, Nat.add_comm 1 i]
theorem bitsI_range (n : Nat) (x : Int) : ∀ b ∈ bitsI n x, b = 0 ∨ b = 1 := by
  induction n generalizing x with
  | zero => intro b h; cases h
  | succ n ih =>
    intro b h
    rcases List.mem_cons.mp h with rfl | h
    · omega
    · exact ih _ b h
theorem bitsI_snoc (n : Nat) (x : Int) : bitsI (n + 1) x = bitsI n x ++ [x / 2 ^ n % 2] := by
  induction n generalizing x with
  | zero => simp [bitsI]
  | succ n ih =>
    show (x % 2) :: bitsI (n + 1) (x / 2) = (x % 2) :: bitsI n (x / 2) ++ [x / 2 ^ (n + 1) % 2]
    rw [ih (x / 2)]
    have e := div_div x 1 n
    rw [show (2 : Int) ^ 1 = 2 from rfl] at e
    rw [e, Nat.add_comm 1 n]
    rfl
theorem ofBits_bitsI : ∀ (n : Nat) (x : Int), ofBits (bitsI n x) = x % 2 ^ n
  | 0, x => by simp [bitsI, ofBits, Int.emod_one]
  | n + 1, x => by
    show 2 * ofBits (bitsI n (x / 2)) + x % 2 = x % 2 ^ (n + 1)
    rw [ofBits_bitsI n (x / 2)]
    have hd := two_pos n
    have e1 := Int.emod_add_mul_ediv (x / 2) (2 ^ n)
    have l1 := Int.emod_nonneg (x / 2) (Int.ne_of_gt hd)
    have l2 := Int.emod_lt_of_pos (x / 2) hd
    rw [two_succ]
    refine ((divmod_of (q := x / 2 / 2 ^ n) (by omega) ?_ (by omega) (by omega)).2).symm
    rw [Int.mul_assoc]
    omega
theorem bitsI_drop : ∀ (m n : Nat) (x : Int), (bitsI n x).drop m = bitsI (n - m) (x / 2 ^ m)
  | 0, n, x => by simp
  | m + 1, 0, x => by simp [bitsI]
  | m + 1, n + 1, x => by
    show (bitsI n (x / 2)).drop m = _
    rw [bitsI_drop m n (x / 2), Nat.add_sub_add_right]
    have e := div_div x 1 m
    rw [show (2 : Int) ^ 1 = 2 from rfl] at e
    rw [e, Nat.add_comm 1 m]
theorem bitsI_take : ∀ (m n : Nat) (x : Int), m ≤ n → (bitsI n x).take m = bitsI m x
  | 0, n, x, _ => by simp [bitsI]
  | m + 1, 0, x, h => by omega
  | m + 1, n + 1, x, h => by
    show (x % 2) :: (bitsI n (x / 2)).take m = (x % 2) :: bitsI m (x / 2)
    rw [bitsI_take m n (x / 2) (by omega)]
theorem ofBits_zeros : ∀ (p : Nat) (l : List Int), ofBits (List.replicate p 0 ++ l) = 2 ^ p * ofBits l
  | 0, l => by simp
  | p + 1, l => by
    show 2 * ofBits (List.replicate p 0 ++ l) + 0 = 2 ^ (p + 1) * ofBits l
    rw [ofBits_zeros p l, two_succ, Int.mul_assoc]
    omega
theorem mod_small {x : Int} {n : Nat} (h0 : 0 ≤ x) (h1 : x < 2 ^ n) : x % 2 ^ n = x := Int.emod_eq_of_lt h0 h1
theorem div_small {x : Int} {n : Nat} (h0 : 0 ≤ x) (h1 : x < 2 ^ n) : x / 2 ^ n = 0 := Int.ediv_eq_zero_of_lt h0 h1
/-- moved left: zeros come in -/
theorem ofBits_left (w p : Nat) (x : Int) : ofBits ((List.replicate p 0 ++ bitsI w x).take w) = x * 2 ^ p % 2 ^ w := by
  by_cases h : p ≤ w
  · have e : (List.replicate p (0 : Int) ++ bitsI w x).take w = List.replicate p 0 ++ bitsI (w - p) x := by
      rw [List.take_append, List.length_replicate, List.take_of_length_le (by simp; exact h), bitsI_take _ _ _ (by omega)]
    rw [e, ofBits_zeros, ofBits_bitsI]
    have e2 : (2 : Int) ^ w = 2 ^ p * 2 ^ (w - p) := by rw [← two_add, Nat.add_sub_cancel' h]
    rw [e2, Int.mul_comm x, Int.mul_emod_mul_of_pos _ _ (two_pos p)]
  · have e : (List.replicate p (0 : Int) ++ bitsI w x).take w = List.replicate w 0 ++ [] := by
      rw [List.take_append, List.length_replicate, List.take_replicate, Nat.min_eq_left (by omega), show w - p = 0 by omega]
      simp
    rw [e, ofBits_zeros]
    have e2 : (2 : Int) ^ p = 2 ^ w * 2 ^ (p - w) := by rw [← two_add, Nat.add_sub_cancel' (by omega)]
    rw [e2, ← Int.mul_assoc, Int.mul_comm x, Int.mul_assoc, Int.mul_emod_right]
    show 2 ^ w * (0 : Int) = 0
    omega
theorem ofBits_right {w : Nat} (p : Nat) {x : Int} (h0 : 0 ≤ x) (h1 : x < 2 ^ w) : ofBits ((bitsI w x).drop p) = x / 2 ^ p := by
  rw [bitsI_drop, ofBits_bitsI]
  by_cases h : p ≤ w
  · refine Int.emod_eq_of_lt (Int.ediv_nonneg h0 (Int.le_of_lt (two_pos p))) ?_
    refine Int.ediv_lt_of_lt_mul (two_pos p) ?_
    rw [← two_add, Nat.sub_add_cancel h]
    exact h1
  · rw [show w - p = 0 by omega, Int.pow_zero, Int.emod_one]
    exact (div_small h0 (Int.lt_of_lt_of_le h1 (two_mono (by omega)))).symm
theorem ofBits_rev (bs : List Int) (i : Nat) (b : Int) (h : bs.reverse[i]? = some b) : ofBits (bs.drop (bs.length - (i + 1))) = 2 * ofBits (bs.drop (bs.length - i)) + b := by
  have hi : i < bs.length := by
    have := (List.getElem?_eq_some_iff.mp h).1
    rw [List.length_reverse] at this
    exact this
  rw [List.getElem?_reverse hi] at h
  have hj : bs.length - 1 - i < bs.length := by omega
  rw [List.getElem?_eq_getElem hj] at h
  have e : bs.drop (bs.length - 1 - i) = bs[bs.length - 1 - i] :: bs.drop (bs.length - 1 - i + 1) := List.drop_eq_getElem_cons hj
  rw [show bs.length - (i + 1) = bs.length - 1 - i by omega, e, show bs.length - 1 - i + 1 = bs.length - i by omega, Option.some.inj h]
  rfl
/-! ### signed numbers -/
def sgn (w : Nat) (x : Int) : Int := if x / 2 ^ (w - 1) = 1 then x - 2 ^ w else x
theorem sgn_mod (w : Nat) (x : Int) : ∃ k : Int, sgn w x = x + 2 ^ w * k := by
  unfold sgn
  split
  · exact ⟨-1, by omega⟩
  · exact ⟨0, by omega⟩
/-! ### a quotient, bit by bit -/
theorem quot_step {N y b : Int} (hy : 0 < y) (hb : b = 0 ∨ b = 1) :
    (2 * N + b) / y = 2 * (N / y) + (if y ≤ 2 * (N % y) + b then 1 else 0) ∧ (2 * N + b) % y = (if y ≤ 2 * (N % y) + b then 2 * (N % y) + b - y else 2 * (N % y) + b) := by
  have e1 := Int.emod_add_mul_ediv N y
  have l1 := Int.emod_nonneg N (Int.ne_of_gt hy)
  have l2 := Int.emod_lt_of_pos N hy
  have e2 : y * (2 * (N / y)) = 2 * (y * (N / y)) := by rw [← Int.mul_assoc, Int.mul_comm y 2, Int.mul_assoc]
  have e3 : y * (2 * (N / y) + 1) = 2 * (y * (N / y)) + y := by rw [Int.mul_add, e2, Int.mul_one]
  split
  · refine divmod_of hy ?_ (by omega) (by omega)
    omega
  · have e4 : y * (2 * (N / y) + 0) = 2 * (y * (N / y)) := by rw [Int.add_zero, e2]
    refine divmod_of hy ?_ (by omega) (by omega)
    omega
theorem half_bit (x : Int) (k : Nat) : x / 2 ^ k = 2 * (x / 2 ^ (k + 1)) + x / 2 ^ k % 2 := by
  have e := div_div x k 1
  rw [show (2 : Int) ^ 1 = 2 from rfl] at e
  rw [← e]
  omega
/-! ### carries -/
def carry (x y c : Int) (i : Nat) : Int := (x % 2 ^ i + y % 2 ^ i + c) / 2 ^ i
def cars (n : Nat) (x y c : Int) : List Int := (List.range (n + 1)).map (carry x y c)
theorem cars_length (n : Nat) (x y c : Int) : (cars n x y c).length = n + 1 := by simp [cars]
theorem cars_get {n : Nat} {x y c : Int} {i : Nat} (h : i ≤ n) : (cars n x y c)[i]? = some (carry x y c i) := by
  unfold cars
  rw [List.getElem?_map, List.getElem?_range (by omega)]
  rfl
theorem cars_snoc (n : Nat) (x y c : Int) : cars (n + 1) x y c = cars n x y c ++ [carry x y c (n + 1)] := by
  unfold cars
  rw [List.range_succ, List.map_append]
  rfl
theorem carry_zero (x y c : Int) : carry x y c 0 = c := by simp [carry, Int.emod_one]
theorem carry_range {x y c : Int} (h0 : 0 ≤ c) (h1 : c ≤ 1) (i : Nat) : 0 ≤ carry x y c i ∧ carry x y c i ≤ 1 := by
  have hd := two_pos i
  have a0 := Int.emod_nonneg x (Int.ne_of_gt hd)
  have a1 := Int.emod_lt_of_pos x hd
  have b0 := Int.emod_nonneg y (Int.ne_of_gt hd)
  have b1 := Int.emod_lt_of_pos y hd
  unfold carry
  constructor
  · exact Int.ediv_nonneg (by omega) (Int.le_of_lt hd)
  · have := Int.ediv_lt_of_lt_mul (a := x % 2 ^ i + y % 2 ^ i + c) (b := 2) (c := 2 ^ i) hd (by omega)
    omega
theorem carry_succ (x y c : Int) (i : Nat) : carry x y c (i + 1) = (x / 2 ^ i % 2 + y / 2 ^ i % 2 + carry x y c i) / 2 := by
  have hd := two_pos i
  unfold carry
  rw [mod_succ x i, mod_succ y i, two_succ, Int.mul_comm 2, ← Int.ediv_ediv_of_nonneg (Int.le_of_lt hd)]
  have e : x % 2 ^ i + 2 ^ i * (x / 2 ^ i % 2) + (y % 2 ^ i + 2 ^ i * (y / 2 ^ i % 2)) + c = x % 2 ^ i + y % 2 ^ i + c + 2 ^ i * (x / 2 ^ i % 2 + y / 2 ^ i % 2) := by
    rw [Int.mul_add]
    omega
  rw [e, Int.add_mul_ediv_left _ _ (Int.ne_of_gt hd)]
  congr 1
  omega
theorem sum_bit (x y c : Int) (i : Nat) : (x + y + c) / 2 ^ i % 2 = (x / 2 ^ i % 2 + y / 2 ^ i % 2 + carry x y c i) % 2 := by
  have hd := two_pos i
  have e1 := Int.emod_add_mul_ediv x (2 ^ i)
  have e2 := Int.emod_add_mul_ediv y (2 ^ i)
  have e : x + y + c = x % 2 ^ i + y % 2 ^ i + c + 2 ^ i * (x / 2 ^ i + y / 2 ^ i) := by
    rw [Int.mul_add]
    omega
  unfold carry
  rw [e, Int.add_mul_ediv_left _ _ (Int.ne_of_gt hd)]
  omega
theorem carry_last {n : Nat} {x y c : Int} (hx0 : 0 ≤ x) (hx : x < 2 ^ n) (hy0 : 0 ≤ y) (hy : y < 2 ^ n) : carry x y c n = (x + y + c) / 2 ^ n := by
  unfold carry
  rw [mod_small hx0 hx, mod_small hy0 hy]
theorem half_int (b : Int) (h0 : 0 ≤ b) (h1 : b ≤ 3) : (if b > 1 then (1 : Int) else 0) = b / 2 := by
  split <;> omega
/-! ### signed numbers, once more -/
theorem sgn_eq {n : Nat} {x : Int} (hn : 1 ≤ n) (h0 : 0 ≤ x) (h1 : x < 2 ^ n) : sgn n x = if 2 ^ (n - 1) ≤ x then x - 2 ^ n else x := by
  have hd := two_pos (n - 1)
  have e : (2 : Int) ^ n = 2 * 2 ^ (n - 1) := by rw [← two_succ, Nat.sub_add_cancel hn]
  unfold sgn
  by_cases h : 2 ^ (n - 1) ≤ x
  · rw [if_pos h, if_pos]
    exact (divmod_of (q := 1) (r := x - 2 ^ (n - 1)) hd (by omega) (by omega) (by omega)).1
  · rw [if_neg h, if_neg]
    rw [Int.ediv_eq_zero_of_lt h0 (by omega)]
    decide
theorem sgn_less {n : Nat} {x y : Int} (hn : 1 ≤ n) (hx0 : 0 ≤ x) (hx : x < 2 ^ n) (hy0 : 0 ≤ y) (hy : y < 2 ^ n) : (sgn n x < sgn n y) ↔ (x + 2 ^ (n - 1)) % 2 ^ n < (y + 2 ^ (n - 1)) % 2 ^ n := by
  have hd := two_pos (n - 1)
  have e : (2 : Int) ^ n = 2 * 2 ^ (n - 1) := by rw [← two_succ, Nat.sub_add_cancel hn]
  have m : ∀ {z : Int}, 0 ≤ z → z < 2 ^ n → (z + 2 ^ (n - 1)) % 2 ^ n = if 2 ^ (n - 1) ≤ z then z - 2 ^ (n - 1) else z + 2 ^ (n - 1) := fun {z} z0 z1 => by
    split
    · exact (divmod_of (q := 1) (by omega) (by omega) (by omega) (by omega)).2
    · exact Int.emod_eq_of_lt (by omega) (by omega)
  rw [sgn_eq hn hx0 hx, sgn_eq hn hy0 hy, m hx0 hx, m hy0 hy]
  split <;> split <;> omega
theorem sgn_bound {n : Nat} {x : Int} (hn : n ≤ 32) (h0 : 0 ≤ x) (h1 : x < 2 ^ n) : (sgn n x).natAbs < 2 ^ 33 := by
  have hb := two32 hn
  have hp := two_pos n
  unfold sgn
  split <;> omega
theorem sgn_mul {n : Nat} {x y : Int} : (sgn n x * sgn n y) % 2 ^ n = x * y % 2 ^ n := by
  obtain ⟨k, e1⟩ := sgn_mod n x
  obtain ⟨l, e2⟩ := sgn_mod n y
  rw [e1, e2, Int.mul_emod, Int.add_mul_emod_self_left, Int.add_mul_emod_self_left, ← Int.mul_emod]
theorem sgn_add {n : Nat} {x y c : Int} : (sgn n x + sgn n y + c) % 2 ^ n = (x + y + c) % 2 ^ n := by
  obtain ⟨k, e1⟩ := sgn_mod n x
  obtain ⟨l, e2⟩ := sgn_mod n y
  have e : sgn n x + sgn n y + c = x + y + c + 2 ^ n * (k + l) := by
    rw [e1, e2, Int.mul_add]
    omega
  rw [e, Int.add_mul_emod_self_left]
/-- the difference, as a sum -/
theorem less_sum {n : Nat} {x y : Int} (hx0 : 0 ≤ x) (hx : x < 2 ^ n) (hy0 : 0 ≤ y) (hy : y < 2 ^ n) :
    (x + (2 ^ n - 1 - y) + 1) % 2 ^ n = (x - y) % 2 ^ n ∧ (x + (2 ^ n - 1 - y) + 1) / 2 ^ n = if y ≤ x then 1 else 0 := by
  have hd := two_pos n
  have e : x + (2 ^ n - 1 - y) + 1 = x - y + 2 ^ n * 1 := by omega
  refine ⟨by rw [e, Int.add_mul_emod_self_left], ?_⟩
  split
  · exact (divmod_of (r := x - y) hd (by omega) (by omega) (by omega)).1
  · exact Int.ediv_eq_zero_of_lt (by omega) (by omega)
/-! ### bits put together -/
theorem mod_add (x : Int) (a b : Nat) : x % 2 ^ (a + b) = x % 2 ^ a + 2 ^ a * (x / 2 ^ a % 2 ^ b) := by
  induction b with
  | zero => rw [Nat.add_zero, Int.pow_zero, Int.emod_one]; omega
  | succ b ih =>
    rw [← Nat.add_assoc, mod_succ x (a + b), ih, mod_succ (x / 2 ^ a) b, div_div, Int.mul_add, two_add, Int.mul_assoc]
    omega
theorem ofBits_append : ∀ (a b : List Int), ofBits (a ++ b) = ofBits a + 2 ^ a.length * ofBits b
  | [], b => by simp [ofBits]
  | x :: r, b => by
    show 2 * ofBits (r ++ b) + x = 2 * ofBits r + x + 2 ^ (r.length + 1) * ofBits b
    rw [ofBits_append r b, two_succ, Int.mul_add, Int.mul_assoc]
    omega
theorem ofBits_same (k : Nat) (t : Int) : ofBits (List.replicate k t) = t * (2 ^ k - 1) := by
  induction k with
  | zero => simp [ofBits]
  | succ k ih =>
    show 2 * ofBits (List.replicate k t) + t = t * (2 ^ (k + 1) - 1)
    rw [ih, two_succ, Int.mul_sub, Int.mul_sub, Int.mul_sub, Int.mul_one, ← Int.mul_assoc t 2, Int.mul_comm t 2, Int.mul_assoc 2 t]
    generalize t * 2 ^ k = u
    omega
theorem sgn_fit {m : Nat} {s : Int} (hm : 1 ≤ m) (h0 : -(2 ^ (m - 1)) ≤ s) (h1 : s < 2 ^ (m - 1)) : sgn m (s % 2 ^ m) = s := by
  have hd := two_pos (m - 1)
  have e : (2 : Int) ^ m = 2 * 2 ^ (m - 1) := by rw [← two_succ, Nat.sub_add_cancel hm]
  have hp := two_pos m
  rw [sgn_eq hm (Int.emod_nonneg _ (by omega)) (Int.emod_lt_of_pos _ hp)]
  by_cases h : 0 ≤ s
  · rw [Int.emod_eq_of_lt h (by omega), if_neg (by omega)]
  · have e2 : s % 2 ^ m = s + 2 ^ m := (divmod_of (q := -1) hp (by omega) (by omega) (by omega)).2
    rw [e2, if_pos (by omega)]
    omega
theorem sgn_range {n : Nat} {x : Int} (hn : 1 ≤ n) (h0 : 0 ≤ x) (h1 : x < 2 ^ n) : -(2 ^ (n - 1)) ≤ sgn n x ∧ sgn n x < 2 ^ (n - 1) := by
  have hd := two_pos (n - 1)
  have e : (2 : Int) ^ n = 2 * 2 ^ (n - 1) := by rw [← two_succ, Nat.sub_add_cancel hn]
  rw [sgn_eq hn h0 h1]
  split <;> omega
/-- lengthened: the top bit ahead -/
theorem ofBits_long {n : Nat} {x : Int} (k : Nat) (hn : 1 ≤ n) (h0 : 0 ≤ x) (h1 : x < 2 ^ n) :
    ofBits (bitsI n x ++ List.replicate k (x / 2 ^ (n - 1) % 2)) = sgn n x % 2 ^ (n + k) := by
  have hd := two_pos (n - 1)
  have e : (2 : Int) ^ n = 2 * 2 ^ (n - 1) := by rw [← two_succ, Nat.sub_add_cancel hn]
  have hp := two_pos n
  have hk := two_pos k
  have e2 := two_add n k
  have hk1 : (1 : Int) ≤ 2 ^ k := hk
  have hle : (2 : Int) ^ n * 1 ≤ 2 ^ n * 2 ^ k := Int.mul_le_mul_of_nonneg_left hk1 (Int.le_of_lt hp)
  rw [ofBits_append, ofBits_bitsI, mod_small h0 h1, bitsI_length, ofBits_same, sgn_eq hn h0 h1]
  by_cases h : 2 ^ (n - 1) ≤ x
  · have q := (divmod_of (a := x) (q := 1) (r := x - 2 ^ (n - 1)) hd (by omega) (by omega) (by omega)).1
    rw [if_pos h, q]
    show x + 2 ^ n * (1 * (2 ^ k - 1)) = (x - 2 ^ n) % 2 ^ (n + k)
    refine ((divmod_of (q := -1) (two_pos _) ?_ ?_ ?_).2).symm
    · rw [Int.one_mul, Int.mul_sub, ← e2]
      omega
    · rw [Int.one_mul, Int.mul_sub, ← e2]
      omega
    · rw [Int.one_mul, Int.mul_sub, ← e2]
      omega
  · have q : x / 2 ^ (n - 1) = 0 := Int.ediv_eq_zero_of_lt h0 (by omega)
    rw [if_neg h, q]
    show x + 2 ^ n * (0 * (2 ^ k - 1)) = x % 2 ^ (n + k)
    rw [Int.zero_mul, Int.mul_zero, Int.add_zero, Int.emod_eq_of_lt h0 (by omega)]
theorem sgn_low {n : Nat} {x : Int} (k : Nat) (h0 : 0 ≤ x) (h1 : x < 2 ^ n) : sgn n x % 2 ^ (n + k) % 2 ^ n = x := by
  rw [two_add, Int.emod_emod_of_dvd _ ⟨2 ^ k, rfl⟩]
  obtain ⟨j, e⟩ := sgn_mod n x
  rw [e, Int.add_mul_emod_self_left, mod_small h0 h1]
end TB
namespace TB
open PySem PySem.Spec PyProof.Rows L2
/-! ### where a def of the text stands; a module's constant -/
structure DefAt (K : PySem.W.Frag) (mg : Str → Option Value) (x : Str) (st : Stmt) (ps : List Str) where
  f : Addr
  fd : FuncData
  F : Fun K x x st f fd
  b : Binds K fd ps []
  g : mg x = some (.ref f)
structure ConAt (mg : Str → Option Value) (x : Str) (v : V) where
  u : Value
  g : mg x = some u
  r : RelV v u
def defAt {K : PySem.W.Frag} {h : Heap} {mg : Str → Option Value} {x : Str} {st : Stmt} {ps : List Str} (X : K.In h) (G : h.Ns mainGlobals mg) {f : Addr} {od an : Option Addr} {sl : Array (Option Value)} {oc kV dc pm cd ct : Value}
    (a : PySem.W.nsIn K mainGlobals x = some (some (.ref f))) (l : K.lookup f = some ⟨oc, od, .func (PySem.W.fnOf x x (defArgs st) (defBody st) (defScope st) .none kV dc pm an cd ct), sl⟩) (c : PySem.W.codeIn K cd x = true) (k : PySem.W.keepIn K (.ref f) = true)
    (hb : ∀ (kV doc pm : Value) (an : Option Addr) (cdv ct : Value) (us : List Value), us.length = ps.length → bindArgs (PySem.W.fnOf x x (defArgs st) (defBody st) (defScope st) .none kV doc pm an cdv ct) ⟨us, []⟩ = pure (ps.zip us)) : DefAt K mg x st ps :=
  ⟨f, _, fun_mk l c k, (fun_mk l c k).binds hb, PySem.W.mg_of X G a⟩

/-- a def with keyword-only parameters at its end, each with a default -/
structure DefKw (K : PySem.W.Frag) (mg : Str → Option Value) (x : Str) (st : Stmt) (ps : List Str) (n : Nat) (kws : List (Str × V)) where
  f : Addr
  fd : FuncData
  F : Fun K x x st f fd
  ds : List Value
  dv : Vals (kws.map (·.2)) ds
  b : Binds K fd ps ds
  kb : KBn K fd ps n (kws.map (·.1)) (fun us ws => us ++ ws) (fun vs zs => vs ++ zs)
  g : mg x = some (.ref f)
theorem defKw {K : PySem.W.Frag} {h : Heap} {mg : Str → Option Value} {x : Str} {st : Stmt} {ps : List Str} {n : Nat} {y : Str} {i : Int} {tk : Tok} (X : K.In h) (G : h.Ns mainGlobals mg) {f D : Addr} {od an : Option Addr} {sl : Array (Option Value)} {oc dc pm cd ct : Value}
    (a : PySem.W.nsIn K mainGlobals x = some (some (.ref f))) (l : K.lookup f = some ⟨oc, od, .func (PySem.W.fnOf x x (defArgs st) (defBody st) (defScope st) .none (.ref D) dc pm an cd ct), sl⟩) (c : PySem.W.codeIn K cd x = true) (k : PySem.W.keepIn K (.ref f) = true)
    (kd : PySem.W.nsIn K D y = some (some (.int i tk))) (hn : n + 1 = ps.length)
    (h1 : ∀ (D : Addr) (doc pm : Value) (an : Option Addr) (cdv ct : Value) (us ks : List Value), us.length = n → ks.length = 1 →
      KwChain D ([y].zip ks) (bindArgs (PySem.W.fnOf x x (defArgs st) (defBody st) (defScope st) .none (.ref D) doc pm an cdv ct) ⟨us, []⟩) (ps.zip (us ++ ks)))
    (h2 : ∀ (D : Addr) (doc pm : Value) (an : Option Addr) (cdv ct : Value) (us ks : List Value), us.length = n → ks.length = 1 →
      bindArgs (PySem.W.fnOf x x (defArgs st) (defBody st) (defScope st) .none (.ref D) doc pm an cdv ct) ⟨us, [y].zip ks⟩ = pure (ps.zip (us ++ ks))) : Nonempty (DefKw K mg x st ps n [(y, .int i)]) := by
  have FD : FunD K x x (defArgs st) (defBody st) (defScope st) [] [(y, .int i)] f (PySem.W.fnOf x x (defArgs st) (defBody st) (defScope st) .none (.ref D) dc pm an cd ct) :=
    ⟨⟨oc, od, .none, .ref D, dc, pm, an, cd, ct, sl, rfl, l, c, .inl ⟨rfl, rfl⟩, .inr ⟨D, rfl, fun q hq => by
      rcases List.mem_cons.mp hq with e | hq
      · rw [e]
        exact ⟨_, kd, _, rfl⟩
      · cases hq⟩⟩, k⟩
  obtain ⟨ds, dv, b⟩ := FD.binds0 n (by simp) hn fun D doc pm an cdv ct us ks l1 l2 => h1 D doc pm an cdv ct us ks l1 l2
  exact ⟨⟨f, _, fun_mk l c k, ds, dv, b, ⟨fun s us ws X l1 l2 => .of_eq (h2 D dc pm an cd ct us ws l1 l2), fun r1 r2 => r1.append r2⟩, PySem.W.mg_of X G a⟩⟩

/-! ### heaps -/
theorem same_new {H : Hp} {p : Addr} {o : HO} (h : H p = none) : Same H (upd H p o) := fun b x e => by
  rw [upd_ne (ne_of_none e h)]
  exact e
theorem seqT_same {K : PySem.W.Frag} {H H' : Hp} {a : Addr} {xs : List V} (e : Same H H') (h : SqT K H a xs) : SqT K H' a xs := by
  rcases h with (h | ⟨o, h⟩) | h
  · exact .inl (.inl (e _ _ h))
  · exact .inl (.inr ⟨o, e _ _ h⟩)
  · exact .inr h
theorem upd_comm {H : Hp} {a b : Addr} {o u : HO} (h : a ≠ b) : upd (upd H a o) b u = upd (upd H b u) a o := by
  funext c
  unfold upd
  by_cases h1 : c = b
  · subst h1
    rw [if_pos rfl, if_neg (Ne.symm h), if_pos rfl]
  · by_cases h2 : c = a
    · subst h2
      rw [if_neg h1, if_pos rfl, if_pos rfl]
    · rw [if_neg h1, if_neg h2, if_neg h2, if_neg h1]
/-! ### the dice: a list of three ints -/
abbrev dl (x y z : Int) : HO := .lst [.int x, .int y, .int z]
def Dice (H : Hp) (d : Addr) : Prop := ∃ x y z : Int, H d = some (dl x y z)
/-- all but the dice stays -/
structure Ext (d : Addr) (H H' : Hp) : Prop where
  s : ∀ b o, b ≠ d → H b = some o → H' b = some o
  d : Dice H' d
theorem Ext.refl {d : Addr} {H : Hp} (h : Dice H d) : Ext d H H := ⟨fun _ _ _ e => e, h⟩
theorem Ext.trans {d : Addr} {H H1 H2 : Hp} (a : Ext d H H1) (b : Ext d H1 H2) : Ext d H H2 := ⟨fun c o n e => b.s c o n (a.s c o n e), b.d⟩
theorem Ext.same {d : Addr} {H H1 H2 : Hp} (a : Ext d H H1) (b : Same H1 H2) : Ext d H H2 := ⟨fun c o n e => b c o (a.s c o n e), let ⟨x, y, z, e⟩ := a.d; ⟨x, y, z, b _ _ e⟩⟩
theorem Dice.same {d : Addr} {H H1 : Hp} (a : Dice H d) (b : Same H H1) : Dice H1 d := let ⟨x, y, z, e⟩ := a; ⟨x, y, z, b _ _ e⟩
theorem Dice.ne {d p : Addr} {H : Hp} (a : Dice H d) (h : H p = none) : p ≠ d := fun e => by
  obtain ⟨x, y, z, q⟩ := a
  rw [e, q] at h
  cases h
theorem Dice.neT {d p : Addr} {H : Hp} {xs : List V} (a : Dice H d) (h : H p = some (.tup xs)) : p ≠ d := fun e => by
  obtain ⟨x, y, z, q⟩ := a
  rw [e, q] at h
  cases h
theorem Ext.of {d : Addr} {H H' : Hp} (a : Dice H d) (b : Same H H') : Ext d H H' := (Ext.refl a).same b
theorem Ext.new {d p : Addr} {H : Hp} {o : HO} (a : Dice H d) (h : H p = none) : Ext d H (upd H p o) := .of a (same_new h)
theorem Ext.roll {d : Addr} {H : Hp} {x y z : Int} : Ext d H (upd H d (dl x y z)) := ⟨fun b o n e => by rw [upd_ne n]; exact e, x, y, z, upd_same⟩
theorem Ext.seqT {K : PySem.W.Frag} {d a : Addr} {H H' : Hp} {xs : List V} (e : Ext d H H') (hd : Dice H d) (h : SqT K H a xs) : SqT K H' a xs := by
  rcases h with (h | ⟨o, h⟩) | h
  · exact .inl (.inl (e.s _ _ (hd.neT h) h))
  · refine .inl (.inr ⟨o, e.s _ _ (fun z => ?_) h⟩)
    obtain ⟨x, y, w, q⟩ := hd
    rw [z, q] at h
    cases h
  · exact .inr h
theorem Ext.free {d p : Addr} {H H' : Hp} (e : Ext d H H') (hd : Dice H d) (h : H' p = none) : H p = none := by
  cases q : H p with
  | none => rfl
  | some o =>
    have n : p ≠ d := fun z => by
      obtain ⟨x, y, w, r⟩ := e.d
      rw [z, r] at h
      cases h
    rw [e.s _ _ n q] at h
    cases h
/-! ### all but one object stays -/
def But (l : Addr) (H H' : Hp) : Prop := ∀ b o, b ≠ l → H b = some o → H' b = some o
theorem But.refl (l : Addr) (H : Hp) : But l H H := fun _ _ _ e => e
theorem But.trans {l : Addr} {H H1 H2 : Hp} (a : But l H H1) (b : But l H1 H2) : But l H H2 := fun c o n e => b c o n (a c o n e)
theorem But.same {l : Addr} {H H1 H2 : Hp} (a : But l H H1) (b : Same H1 H2) : But l H H2 := fun c o n e => b c o (a c o n e)
theorem But.of {l : Addr} {H H1 : Hp} (b : Same H H1) : But l H H1 := fun c o _ e => b c o e
theorem But.mut {l : Addr} {H : Hp} {o : HO} : But l H (upd H l o) := fun c u n e => by
  rw [upd_ne n]
  exact e
/-- what stood ahead of the object's making -/
theorem But.back {l : Addr} {H0 H H' : Hp} {o : HO} (hn : H0 l = none) (s : Same (upd H0 l o) H) (a : But l H H') : Same H0 H' := fun c u e => by
  have n : c ≠ l := ne_of_none e hn
  exact a c u n (s c u (by rw [upd_ne n]; exact e))
theorem Ext.but {d : Addr} {H H' : Hp} (a : Ext d H H') : But d H H' := a.s
theorem But.seqT {K : PySem.W.Frag} {l a : Addr} {H H' : Hp} {xs ys : List V} (e : But l H H') (hl : H l = some (.lst ys)) (h : SqT K H a xs) : SqT K H' a xs := by
  rcases h with (h | ⟨o, h⟩) | h
  · exact .inl (.inl (e _ _ (ne_of h hl (by intro z; cases z)) h))
  · exact .inl (.inr ⟨o, e _ _ (ne_of h hl (by intro z; cases z)) h⟩)
  · exact .inr h
/-! ### a new object, its heap by a letter -/
theorem nw {H : Hp} {o : HO} {Q : V → Hp → Prop} (h : ∀ p H', Same H H' → H' p = some o → H p = none → Q (.ref p) H') : ∀ p, H p = none → Q (.ref p) (upd H p o) := fun p np => h p _ (same_new np) upd_same np
/-! ### rows of whole numbers as data -/
theorem dpI {K : PySem.W.Frag} {H : Hp} : ∀ ns : List Int, DpAll K H (ns.map V.int) (ns.map PyData.int)
  | [] => .nil
  | n :: r => .cons (.int n) (dpI r)
theorem canI : ∀ ns : List Int, PyData.canLayAll0 (ns.map PyData.int) = true
  | [] => rfl
  | n :: r => by
    show (PyData.canLay0 (.int n) && PyData.canLayAll0 (r.map PyData.int)) = true
    rw [canI r]
    rfl
theorem depthI : ∀ ns : List Int, PyData.depthAll (ns.map PyData.int) ≤ 1
  | [] => by decide
  | n :: r => by
    have := depthI r
    show max (PyData.depth (.int n)) (PyData.depthAll (r.map PyData.int)) ≤ 1
    have e : PyData.depth (.int n) = 0 := rfl
    omega
theorem shT (ns : List Int) : SeqAt.shaped (.tuple (ns.map PyData.int)) = true := by
  unfold SeqAt.shaped
  have e : PyData.canLay0 (.tuple (ns.map PyData.int)) = true := canI ns
  have d : PyData.depth (.tuple (ns.map PyData.int)) = PyData.depthAll (ns.map PyData.int) + 1 := rfl
  have := depthI ns
  rw [e, d, decide_eq_true (by omega)]
  rfl
theorem shL (ns : List Int) : SeqAt.shaped (.list (ns.map PyData.int)) = true := by
  unfold SeqAt.shaped
  have e : PyData.canLay0 (.list (ns.map PyData.int)) = true := canI ns
  have d : PyData.depth (.list (ns.map PyData.int)) = PyData.depthAll (ns.map PyData.int) + 1 := rfl
  have := depthI ns
  rw [e, d, decide_eq_true (by omega)]
  rfl
theorem eqvR {d : PyData} (h : SeqAt.shaped d = true) : PyData.eqv d d = true := SeqAt.eqv_refl d (SeqAt.canLay_of_shaped h)
theorem dp2 {K : PySem.W.Frag} {H : Hp} {a : Addr} {x y : Int} (h : SqT K H a [.int x, .int y]) : Dp K H (.ref a) (.tuple [.int x, .int y]) := .tup h (.cons (.int x) (.cons (.int y) .nil))
theorem eqv2 {x y x' y' : Int} (h1 : x = x') (h2 : y = y') : PyData.eqv (.tuple [.int x, .int y]) (.tuple [.int x', .int y']) = true := by
  subst h1 h2
  exact SeqAt.eqv_refl _ rfl
theorem neqv2 {x y x' y' : Int} (h1 : x = x') (h2 : y = y') : (!PyData.eqv (.tuple [.int x, .int y]) (.tuple [.int x', .int y'])) = false := by
  rw [eqv2 h1 h2]
  rfl
theorem neqvR {d : PyData} (h : SeqAt.shaped d = true) : (!PyData.eqv d d) = false := by
  rw [eqvR h]
  rfl
/-! ### tests -/
theorem iteB {A B : Prop} {b : Bool} (h : b = true) (q : A) : if b = true then A else B := by
  rw [h]
  exact iteT q
theorem iteBF {A B : Prop} {b : Bool} (h : b = false) (q : B) : if b = true then A else B := by
  rw [h]
  exact iteF q
theorem iteN {A B : Prop} {b : Bool} (h : b = true) (q : B) : if (!b) = true then A else B := by
  rw [h]
  exact iteF q
theorem iteNF {A B : Prop} {b : Bool} (h : b = false) (q : A) : if (!b) = true then A else B := by
  rw [h]
  exact iteT q
theorem ite3 {A B : Prop} {b : Bool} (h1 : b = true → A) (h2 : b = false → B) : if b = true then A else B := by
  cases b with
  | true => exact iteT (h1 rfl)
  | false => exact iteF (h2 rfl)
theorem neF {x y : V} (h : x = y) : (!decide (x = y)) = false := by
  rw [decide_eq_true h]
  rfl
theorem neT {x y : V} (h : x ≠ y) : (!decide (x = y)) = true := by
  rw [decide_eq_false h]
  rfl
theorem neFI {i j : Int} (h : i = j) : (!decide (V.int i = V.int j)) = false := neF (congrArg V.int h)
theorem eqTI {i j : Int} (h : i = j) : decide (V.int i = V.int j) = true := decide_eq_true (congrArg V.int h)
theorem eqFI {i j : Int} (h : i ≠ j) : decide (V.int i = V.int j) = false := decide_eq_false fun z => h (V.int.inj z)
theorem neTI {i j : Int} (h : i ≠ j) : (!decide (V.int i = V.int j)) = true := neT fun z => h (V.int.inj z)
/-! ### written numbers, sizes -/
theorem p0 {c : Int} (h : decide (0 < c) = true := by rfl) : 0 < c := of_decide_eq_true h
theorem cdiv {i j : Int} (h : decide (0 < j ∧ j < 1073741824) = true := by rfl) : CDiv i j := show 0 < j ∧ j < 1073741824 from of_decide_eq_true h
theorem cmulL {i j : Int} (h : decide (-(2 ^ 64) < i ∧ i < 2 ^ 64) = true := by rfl) : CMul i j := .inl (of_decide_eq_true h)
theorem cmulR {i j : Int} (h : decide (-(2 ^ 64) < j ∧ j < 2 ^ 64) = true := by rfl) : CMul i j := .inr (of_decide_eq_true h)
theorem sz {α : Type} {xs : List α} {n : Nat} (h : xs.length = n := by rfl) (h2 : decide (n ≤ 100000) = true := by rfl) : xs.length ≤ sizeLine := by
  rw [h]
  have := of_decide_eq_true h2
  rw [sizeLine_eq]
  omega
theorem szl {n : Nat} (h : n ≤ 100000) : n ≤ sizeLine := by
  rw [sizeLine_eq]
  omega
theorem szlt {n : Nat} (h : n ≤ 100000) : n < sizeLine := by
  rw [sizeLine_eq]
  omega
/-! ### slices -/
theorem cut_to (xs : List V) (k : Nat) : cutV xs none (some (k : Int)) = xs.take k := by
  unfold cutV
  rw [HT.sIx_nat, HT.sIx_none, List.drop_zero, Nat.sub_zero]
  by_cases h : k ≤ xs.length
  · rw [Nat.min_eq_left h]
  · rw [Nat.min_eq_right (by omega), List.take_length, List.take_of_length_le (by omega)]
theorem cut_from (xs : List V) (k : Nat) : cutV xs (some (k : Int)) none = xs.drop k := by
  unfold cutV
  rw [HT.sIx_nat, HT.sIx_none]
  by_cases h : k ≤ xs.length
  · rw [Nat.min_eq_left h, List.take_of_length_le (by rw [List.length_drop]; omega)]
  · rw [Nat.min_eq_right (by omega), List.drop_length, List.drop_of_length_le (by omega), List.take_nil]
theorem cut_mid (xs : List V) (a b : Nat) (h : a + b ≤ xs.length) : cutV xs (some (a : Int)) (some ((a : Int) + (b : Int))) = (xs.drop a).take b := by
  unfold cutV
  have e : (a : Int) + (b : Int) = ((a + b : Nat) : Int) := by omega
  rw [e, HT.sIx_nat, HT.sIx_nat, Nat.min_eq_left h, Nat.min_eq_left (show a ≤ xs.length by omega), Nat.add_sub_cancel_left]
/-! ### loops -/
/-- for .. in range(n), the turn's number a Nat -/
theorem for_rangeN {n : Nat} {g : TG} {tb : TS} {D : Ends} {σ : L2.St} {H : Hp} (Pv : Nat → L2.St → Hp → Prop) (h0 : Pv 0 σ H)
    (hs : ∀ i σ H, i < n → Pv i σ H → g (.int (i : Int)) σ H fun σ2 H2 => tb { D with nx := Pv (i + 1), ct := Pv (i + 1), bk := D.nx } σ2 H2) (hd : ∀ σ H, Pv n σ H → D.nx σ H) :
    ∃ W : Nat → Nat → L2.St → Hp → Prop, (∃ m, W 0 m σ H) ∧ ∀ i m σ H, W i m σ H → ((Itr 0 n).stop i H ∧ D.nx σ H) ∨ ((Itr 0 n).go i H ∧ ∃ N : L2.St → Hp → Prop, (∀ σ' H', N σ' H' → ∃ m', m' < m ∧ W (i + 1) m' σ' H') ∧ ∀ x H', (Itr 0 n).yld i H x H' → g x σ H' fun σ2 H2 => tb { D with nx := N, ct := N, bk := D.nx } σ2 H2) :=
  for_range (lo := 0) (n := n) Pv h0 (fun i σ H hi p => by
    have e0 : (0 : Int) + (i : Int) = (i : Int) := Int.zero_add _
    rw [e0]
    exact hs i σ H hi p) hd
/-- [.. for .. in range(n)], the turn's number a Nat -/
theorem lc_rangeN {n : Nat} {g : TG} {tt : TT} {te : TE} {vs : List Nat} {σ : L2.St} {H1 : Hp} {D : Addr} {Qd : Hp → Prop} (Pv : Nat → Hp → Prop) (h0 : Pv 0 (upd H1 D (.lst [])))
    (hs : ∀ i H, i < n → Pv i H → g (.int (i : Int)) (wipe σ vs) H fun σ2 H2 => wipe σ2 vs = wipe σ vs ∧ tt σ2 H2 fun b H3 =>
      if b = true then te σ2 H3 fun y H4 => ∃ acc, H4 D = some (.lst acc) ∧ acc.length < sizeLine ∧ Pv (i + 1) (upd H4 D (.lst (acc ++ [y]))) else Pv (i + 1) H3) (hd : ∀ H, Pv n H → Qd H) :
    ∃ W : Nat → Nat → Hp → Prop, (∃ m, W 0 m (upd H1 D (.lst []))) ∧ ∀ i m H, W i m H →
      ((Itr 0 n).stop i H ∧ Qd H) ∨ ((Itr 0 n).go i H ∧ ∃ Nx : Hp → Prop, (∀ H', Nx H' → ∃ m', m' < m ∧ W (i + 1) m' H') ∧ ∀ x H', (Itr 0 n).yld i H x H' → g x (wipe σ vs) H' fun σ2 H2 => wipe σ2 vs = wipe σ vs ∧ tt σ2 H2 fun b H3 =>
        if b = true then te σ2 H3 fun y H4 => ∃ acc, H4 D = some (.lst acc) ∧ acc.length < sizeLine ∧ Nx (upd H4 D (.lst (acc ++ [y]))) else Nx H3) :=
  lc_range (lo := 0) (n := n) Pv h0 (fun i H hi p => by
    have e0 : (0 : Int) + (i : Int) = (i : Int) := Int.zero_add _
    rw [e0]
    exact hs i H hi p) hd
/-- for i, x in enumerate(xs) -/
theorem for_enumL {K : PySem.W.Frag} {a : Addr} {xs : List V} {g : TG} {tb : TS} {D : Ends} {σ : L2.St} {H : Hp} (Pv : Nat → L2.St → Hp → Prop) (h0 : Pv 0 σ H) (hq : ∀ i σ H, Pv i σ H → SqL K H a xs)
    (hs : ∀ (i : Nat) (x : V) (T : Addr) (σ : L2.St) (H : Hp), xs[i]? = some x → Pv i σ H → H T = none → g (.ref T) σ (upd H T (.tup [.int (i : Int), x])) fun σ2 H2 => tb { D with nx := Pv (i + 1), ct := Pv (i + 1), bk := D.nx } σ2 H2) (hd : ∀ σ H, Pv xs.length σ H → D.nx σ H) :
    ∃ W : Nat → Nat → L2.St → Hp → Prop, (∃ m, W 0 m σ H) ∧ ∀ i m σ H, W i m σ H → ((Ite K a).stop i H ∧ D.nx σ H) ∨ ((Ite K a).go i H ∧ ∃ N : L2.St → Hp → Prop, (∀ σ' H', N σ' H' → ∃ m', m' < m ∧ W (i + 1) m' σ' H') ∧ ∀ v H', (Ite K a).yld i H v H' → g v σ H' fun σ2 H2 => tb { D with nx := N, ct := N, bk := D.nx } σ2 H2) := by
  refine ⟨fun i m σ H => m = xs.length - i ∧ i ≤ xs.length ∧ Pv i σ H, ⟨xs.length, rfl, Nat.zero_le _, h0⟩, ?_⟩
  rintro i m σ H ⟨rfl, hi, p⟩
  have qx := hq i σ H p
  by_cases hlt : i < xs.length
  · have hx : xs[i]? = some xs[i] := List.getElem?_eq_getElem hlt
    refine .inr ⟨⟨xs, xs[i], qx, hx⟩, Pv (i + 1), fun σ' H' p' => ⟨xs.length - (i + 1), by omega, rfl, hlt, p'⟩, fun v H' y => ?_⟩
    obtain ⟨T, x, rfl, nT, rfl, f⟩ := y
    exact hs i x T σ H (f xs qx) p nT
  · have e : i = xs.length := by omega
    subst e
    exact .inl ⟨⟨xs, qx, Nat.le_refl _⟩, hd σ H p⟩
/-! ### powers of great ints -/
def CPowW (i j : Int) : Prop := 0 ≤ j ∧ (Builtin.Int.intBits i : Int) * j ≤ 2 ^ 27
theorem op_powW {X : Cx} : OpR X (binaryOp .Pow) (rI CPowW fun i j => .int (i ^ j.toNat)) := opI fun _ _ _ _ _ _ _ hc q => pow_int hc.1 hc.2 q
end TB
namespace TB
open PySem PySem.Spec PyProof.Rows L2
/-! ### a rule by a stronger reading -/
section
variable {X : Cx}
theorem PE_imp {e : Expr} {t t' : TE} (h : PE X e t) (hi : ∀ σ H Q, t' σ H Q → t σ H Q) : PE X e t' := ⟨fun pins s σ H Q I hw => h.run pins s σ H Q I (hi σ H Q hw)⟩
/-- what follows may be less -/
def clA (t : TA) : TA := fun σ H Q => ∃ R, t σ H R ∧ ∀ vs H', R vs H' → Q vs H'
def clE (t : TE) : TE := fun σ H Q => ∃ R, t σ H R ∧ ∀ v H', R v H' → Q v H'
theorem PA_cl {es : List Expr} {t : TA} (h : PA X es t) : PA X es (clA t) := ⟨fun pos pins s σ H Q I hw => by
  obtain ⟨R, h1, h2⟩ := hw
  exact thn (h.run pos pins s σ H R I h1) fun us s' ⟨vs, H', I', r, q⟩ => ⟨vs, H', I', r, h2 _ _ q⟩⟩
theorem PE_cl {e : Expr} {t : TE} (h : PE X e t) : PE X e (clE t) := ⟨fun pins s σ H Q I hw => by
  obtain ⟨R, h1, h2⟩ := hw
  exact thn (h.run pins s σ H R I h1) fun us s' ⟨v, H', I', r, q⟩ => ⟨v, H', I', r, h2 _ _ q⟩⟩
theorem OpR_imp {f : Value → Value → Sem Value} {r r' : R2} (h : OpR X f r) (hi : ∀ x y H Q, r' x y H Q → r x y H Q) : OpR X f r' := fun pins s σ H x y v u Q I rx ry hw => h pins s σ H x y v u Q I rx ry (hi _ _ _ _ hw)
theorem CallR_imp {f : Value} {r r' : List V → Hp → VK → Prop} (h : CallR X f r) (hi : ∀ xs H Q, r' xs H Q → r xs H Q) : CallR X f r' := fun pins s σ H xs us Q I rx hw => h pins s σ H xs us Q I rx (hi _ _ _ hw)
theorem SlR_imp {r r' : V → Option Int → Option Int → Hp → VK → Prop} (h : L2.SlR X r) (hi : ∀ x lo hi' H Q, r' x lo hi' H Q → r x lo hi' H Q) : L2.SlR X r' := fun pins s σ H x v vl vu lo hi' sl Q I rx hs pl pu hw => h pins s σ H x v vl vu lo hi' sl Q I rx hs pl pu (hi _ _ _ _ _ hw)
/-! ### new tuples, new lists -/
def NewT (K : PySem.W.Frag) (xs : List V) (H : Hp) (Q : VK) : Prop := ∀ p H', Same H H' → SqT K H' p xs → Q (.ref p) H'
def NewL (xs : List V) (H : Hp) (Q : VK) : Prop := ∀ p H', Same H H' → H' p = some (.lst xs) → H p = none → Q (.ref p) H'
theorem newT {K : PySem.W.Frag} {xs : List V} {H : Hp} {Q : VK} (h : NewT K xs H Q) : ∀ p, H p = none → Q (.ref p) (upd H p (.tup xs)) := fun p np => h p _ (same_new np) (SqT.of upd_same)
theorem newL {xs : List V} {H : Hp} {Q : VK} (h : NewL xs H Q) : ∀ p, H p = none → Q (.ref p) (upd H p (.lst xs)) := fun p np => h p _ (same_new np) upd_same np
def tTupA (K : PySem.W.Frag) (t : TA) : TE := fun σ H Q => t σ H fun xs H1 => xs.length ≤ sizeLine ∧ NewT K xs H1 Q
def tLstA (t : TA) : TE := fun σ H Q => t σ H fun xs H1 => xs.length ≤ sizeLine ∧ NewL xs H1 Q
theorem pe_tupA {es : List Expr} {t : TA} {x1} {pos : Pos} (h : PA X es t) : PE X (.Tuple es x1 pos) (tTupA X.K t) := PE_imp (pe_tup (PA_cl h)) fun σ H Q hw => ⟨_, hw, fun xs H1 z => ⟨z.1, newT z.2⟩⟩
theorem pe_lstA {es : List Expr} {t : TA} {pos : Pos} (h : PA X es t) : PE X (.List es pos) (tLstA t) := PE_imp (pe_lst (PA_cl h)) fun σ H Q hw => ⟨_, hw, fun xs H1 z => ⟨z.1, newL z.2⟩⟩
theorem call_tupleA : CallR X (.type "tuple") (fun xs H Q => ∃ p ys, xs = [.ref p] ∧ (SqL X.K H p ys ∨ SqT X.K H p ys) ∧ NewT X.K ys H Q) := CallR_imp call_tuple_of fun xs H Q ⟨p, ys, e, h, q⟩ => ⟨p, ys, e, by
  rcases h with h | h
  · exact .inl ⟨h, newT q⟩
  · exact .inr ⟨h, q p H (Same.refl H) h⟩⟩
theorem call_listA : CallR X (.type "list") (fun xs H Q => ∃ p ys, xs = [.ref p] ∧ (SqL X.K H p ys ∨ SqT X.K H p ys) ∧ NewL ys H Q) := CallR_imp call_list_of fun xs H Q ⟨p, ys, e, h, q⟩ => ⟨p, ys, e, h, newL q⟩
theorem sl_listA : L2.SlR X (fun x lo hi H Q => ∃ a xs, x = .ref a ∧ SqL X.K H a xs ∧ NewL (cutV xs lo hi) H Q) := SlR_imp sl_list fun x lo hi H Q ⟨a, xs, e, h, q⟩ => ⟨a, xs, e, h, newL q⟩
theorem sl_tupleA : L2.SlR X (fun x lo hi H Q => ∃ a xs, x = .ref a ∧ SqT X.K H a xs ∧ NewT X.K (cutV xs lo hi) H Q) := SlR_imp sl_tupA fun x lo hi H Q ⟨a, xs, e, h, q⟩ => ⟨a, xs, e, h, fun z => by
    have e : cutV xs lo hi = xs := by
      unfold cutV
      rw [z.1, z.2, List.drop_zero, Nat.sub_zero, List.take_length]
    exact q a H (Same.refl H) (by rw [e]; exact h), fun _ => newT q⟩
theorem op_catL : OpR X (binaryOp .Add) (fun x y H Q => ∃ l b xs zs, x = .ref l ∧ y = .ref b ∧ H l = some (.lst xs) ∧ H b = some (.lst zs) ∧ xs.length + zs.length ≤ sizeLine ∧ NewL (xs ++ zs) H Q) := OpR_imp op_cat fun x y H Q ⟨l, b, xs, zs, e1, e2, h1, h2, z, q⟩ => ⟨l, b, xs, zs, e1, e2, h1, h2, z, newL q⟩
theorem op_repL : OpR X (binaryOp .Mult) (fun x y H Q => ∃ l k xs, x = .ref l ∧ y = .int k ∧ H l = some (.lst xs) ∧ -(2 ^ 63) ≤ k ∧ k < 2 ^ 63 ∧ xs.length * k.toNat ≤ sizeLine ∧ NewL (List.replicate k.toNat xs).flatten H Q) := OpR_imp op_rep fun x y H Q ⟨l, k, xs, e1, e2, h1, h2, h3, z, q⟩ => ⟨l, k, xs, e1, e2, h1, h2, h3, z, newL q⟩
theorem op_catU : OpR X (binaryOp .Add) (fun x y H Q => ∃ a b xs ys, x = .ref a ∧ y = .ref b ∧ SqT X.K H a xs ∧ SqT X.K H b ys ∧ xs.length + ys.length ≤ sizeLine ∧ NewT X.K (xs ++ ys) H Q) := OpR_imp op_catA fun x y H Q ⟨a, b, xs, ys, e1, e2, h1, h2, z, q⟩ => ⟨a, b, xs, ys, e1, e2, h1, h2, z,
  (fun e => q b H (Same.refl H) (by rw [e]; exact h2)), (fun _ e => q a H (Same.refl H) (by rw [e, List.append_nil]; exact h1)), (fun _ _ => newT q)⟩
theorem call_divmodA : CallR X (.builtin "divmod") (fun xs H Q => ∃ i j, xs = [.int i, .int j] ∧ CDivP i j ∧ NewT X.K [.int (i / j), .int (i % j)] H Q) := CallR_imp call_divmodW fun xs H Q ⟨i, j, e, h, q⟩ => ⟨i, j, e, h, newT q⟩
def tRevLA (K : PySem.W.Frag) (te : TE) : TE := fun σ H Q => te σ H fun x H1 => ∃ a xs, x = .ref a ∧ SqL K H1 a xs ∧ NewL xs.reverse H1 Q
theorem pe_revLA {e : Expr} {te : TE} {k : Nat} {p1 p2 p3 pos : Pos} (he : PE X e te) : PE X (.Subscript e (.Slice none none (some (.UnaryOp .USub (.Constant (.int 1) k p1) p2)) p3) pos) (tRevLA X.K te) :=
  PE_imp (pe_revL (PE_cl he)) fun σ H Q hw => ⟨_, hw, fun x H1 ⟨a, xs, e, h, q⟩ => ⟨a, xs, e, h, newL q⟩⟩
end
/-! ### what stands, through Same, Ext, But -/
section
variable {K : PySem.W.Frag} {H H' : Hp} {a d l : Addr} {xs ys : List V}
theorem sT (e : Same H H') (h : SqT K H a xs) : SqT K H' a xs := seqT_same e h
theorem sL (e : Same H H') (h : SqL K H a xs) : SqL K H' a xs := e.seq h
/-- a list that was made anew and then changed: what stood before stands -/
theorem Same.back {H0 H1 H2 : Hp} (hn : H0 l = none) (s : Same H0 H1) (b : But l H1 H2) : Same H0 H2 := fun c o e => b c o (ne_of_none e hn) (s c o e)
theorem Ext.list (e : Ext d H H') (n : a ≠ d) (h : H a = some (.lst xs)) : H' a = some (.lst xs) := e.s _ _ n h
theorem Ext.seqL (e : Ext d H H') (hd : Dice H d) (n : a ≠ d) (h : SqL K H a xs) : SqL K H' a xs := by
  rcases h with (h | ⟨o, h⟩) | h
  · exact .inl (.inl (e.s _ _ n h))
  · exact .inl (.inr ⟨o, e.s _ _ n h⟩)
  · exact .inr h
/-- what a dice is not -/
theorem Dice.neL (h : Dice H d) (e : H a = some (.lst xs)) (n : xs.length ≠ 3) : a ≠ d := fun z => by
  obtain ⟨x, y, w, q⟩ := h
  rw [z, q] at e
  cases e
  exact n rfl
theorem dp2s {x y : Int} (h : SqT K H a [.int x, .int y]) : Dp K H (.ref a) (.tuple [.int x, .int y]) := dp2 h
end
/-! ### lists of pure elements: f tells what each item gives, if anything -/
theorem range_snoc {α : Type} (f : Nat → Option α) (i : Nat) : (List.range (i + 1)).filterMap f = (List.range i).filterMap f ++ (f i).toList := by
  rw [List.range_succ, List.filterMap_append]
  cases h : f i <;> simp [h]
theorem take_snoc {α β : Type} (f : α → Option β) {xs : List α} {i : Nat} {x : α} (h : xs[i]? = some x) : (xs.take (i + 1)).filterMap f = (xs.take i).filterMap f ++ (f x).toList := by
  rw [List.take_add_one, h, List.filterMap_append]
  cases e : f x <;> simp [e]
theorem lc_rangeF {n : Nat} {g : TG} {tt : TT} {te : TE} {vs : List Nat} {σ : L2.St} {H1 : Hp} {Qd : Addr → Hp → Prop} (f : Nat → Option V) (hn : n ≤ 100000)
    (hs : ∀ i H, i < n → Same H1 H → ∀ (R : V → Hp → Prop) (N : Hp → Prop), (∀ v H', f i = some v → Same H H' → R v H') → (∀ H', f i = none → Same H H' → N H') →
      g (.int (i : Int)) (wipe σ vs) H fun σ2 H2 => wipe σ2 vs = wipe σ vs ∧ tt σ2 H2 fun b H3 => if b = true then te σ2 H3 R else N H3)
    (hd : ∀ D H', Same H1 H' → H' D = some (.lst ((List.range n).filterMap f)) → H1 D = none → Qd D H') :
    ∀ D, H1 D = none → ∃ W : Nat → Nat → Hp → Prop, (∃ m, W 0 m (upd H1 D (.lst []))) ∧ ∀ i m H, W i m H →
      ((Itr 0 n).stop i H ∧ Qd D H) ∨ ((Itr 0 n).go i H ∧ ∃ Nx : Hp → Prop, (∀ H', Nx H' → ∃ m', m' < m ∧ W (i + 1) m' H') ∧ ∀ x H', (Itr 0 n).yld i H x H' → g x (wipe σ vs) H' fun σ2 H2 => wipe σ2 vs = wipe σ vs ∧ tt σ2 H2 fun b H3 =>
        if b = true then te σ2 H3 fun y H4 => ∃ acc, H4 D = some (.lst acc) ∧ acc.length < sizeLine ∧ Nx (upd H4 D (.lst (acc ++ [y]))) else Nx H3) := fun D nD =>
  lc_rangeN (n := n) (fun i H => Same H1 H ∧ H D = some (.lst ((List.range i).filterMap f))) ⟨same_new nD, upd_same⟩ (fun i H hi ⟨sm, hD⟩ => by
    refine hs i H hi sm _ _ (fun v H' e s => ?_) (fun H' e s => ?_)
    · refine ⟨_, s _ _ hD, szlt ?_, fun b o hb => ?_, ?_⟩
      · have := List.length_filterMap_le f (List.range i)
        rw [List.length_range] at this
        omega
      · rw [upd_ne (ne_of_none hb nD)]
        exact s _ _ (sm _ _ hb)
      · rw [upd_same, range_snoc, e]
        rfl
    · refine ⟨sm.trans s, ?_⟩
      rw [range_snoc, e, s _ _ hD, Option.toList, List.append_nil]) fun H ⟨sm, hD⟩ => hd D H sm hD nD
theorem lc_listF {K : PySem.W.Frag} {a : Addr} {xs : List V} {g : TG} {tt : TT} {te : TE} {vs : List Nat} {σ : L2.St} {H1 : Hp} {Qd : Addr → Hp → Prop} (hl : SqL K H1 a xs) (f : V → Option V) (hn : xs.length ≤ 100000)
    (hs : ∀ (i : Nat) x H, xs[i]? = some x → Same H1 H → ∀ (R : V → Hp → Prop) (N : Hp → Prop), (∀ v H', f x = some v → Same H H' → R v H') → (∀ H', f x = none → Same H H' → N H') →
      g x (wipe σ vs) H fun σ2 H2 => wipe σ2 vs = wipe σ vs ∧ tt σ2 H2 fun b H3 => if b = true then te σ2 H3 R else N H3)
    (hd : ∀ D H', Same H1 H' → H' D = some (.lst (xs.filterMap f)) → H1 D = none → Qd D H') :
    ∀ D, H1 D = none → ∃ W : Nat → Nat → Hp → Prop, (∃ m, W 0 m (upd H1 D (.lst []))) ∧ ∀ i m H, W i m H →
      ((Itl K a).stop i H ∧ Qd D H) ∨ ((Itl K a).go i H ∧ ∃ Nx : Hp → Prop, (∀ H', Nx H' → ∃ m', m' < m ∧ W (i + 1) m' H') ∧ ∀ x H', (Itl K a).yld i H x H' → g x (wipe σ vs) H' fun σ2 H2 => wipe σ2 vs = wipe σ vs ∧ tt σ2 H2 fun b H3 =>
        if b = true then te σ2 H3 fun y H4 => ∃ acc, H4 D = some (.lst acc) ∧ acc.length < sizeLine ∧ Nx (upd H4 D (.lst (acc ++ [y]))) else Nx H3) := fun D nD =>
  lc_list (K := K) (a := a) (xs := xs) (fun i H => Same H1 H ∧ H D = some (.lst ((xs.take i).filterMap f))) ⟨same_new nD, upd_same⟩ (fun i H _ ⟨sm, _⟩ => sm.seq hl) (fun i x H hx ⟨sm, hD⟩ => by
    refine hs i x H hx sm _ _ (fun v H' e s => ?_) (fun H' e s => ?_)
    · refine ⟨_, s _ _ hD, szlt ?_, fun b o hb => ?_, ?_⟩
      · have := List.length_filterMap_le f (xs.take i)
        rw [List.length_take] at this
        omega
      · rw [upd_ne (ne_of_none hb nD)]
        exact s _ _ (sm _ _ hb)
      · rw [upd_same, take_snoc f hx, e]
        rfl
    · refine ⟨sm.trans s, ?_⟩
      rw [take_snoc f hx, e, s _ _ hD, Option.toList, List.append_nil]) fun H ⟨sm, hD⟩ => hd D H sm (by rw [hD, List.take_length]) nD
theorem lc_tupF {K : PySem.W.Frag} {a : Addr} {xs : List V} {g : TG} {tt : TT} {te : TE} {vs : List Nat} {σ : L2.St} {H1 : Hp} {Qd : Addr → Hp → Prop} (hl : SqT K H1 a xs) (f : V → Option V) (hn : xs.length ≤ 100000)
    (hs : ∀ (i : Nat) x H, xs[i]? = some x → Same H1 H → ∀ (R : V → Hp → Prop) (N : Hp → Prop), (∀ v H', f x = some v → Same H H' → R v H') → (∀ H', f x = none → Same H H' → N H') →
      g x (wipe σ vs) H fun σ2 H2 => wipe σ2 vs = wipe σ vs ∧ tt σ2 H2 fun b H3 => if b = true then te σ2 H3 R else N H3)
    (hd : ∀ D H', Same H1 H' → H' D = some (.lst (xs.filterMap f)) → H1 D = none → Qd D H') :
    ∀ D, H1 D = none → ∃ W : Nat → Nat → Hp → Prop, (∃ m, W 0 m (upd H1 D (.lst []))) ∧ ∀ i m H, W i m H →
      ((Itt K a).stop i H ∧ Qd D H) ∨ ((Itt K a).go i H ∧ ∃ Nx : Hp → Prop, (∀ H', Nx H' → ∃ m', m' < m ∧ W (i + 1) m' H') ∧ ∀ x H', (Itt K a).yld i H x H' → g x (wipe σ vs) H' fun σ2 H2 => wipe σ2 vs = wipe σ vs ∧ tt σ2 H2 fun b H3 =>
        if b = true then te σ2 H3 fun y H4 => ∃ acc, H4 D = some (.lst acc) ∧ acc.length < sizeLine ∧ Nx (upd H4 D (.lst (acc ++ [y]))) else Nx H3) := fun D nD =>
  lc_tup (K := K) (a := a) (xs := xs) (fun i H => Same H1 H ∧ H D = some (.lst ((xs.take i).filterMap f))) ⟨same_new nD, upd_same⟩ (fun i H _ ⟨sm, _⟩ => sT sm hl) (fun i x H hx ⟨sm, hD⟩ => by
    refine hs i x H hx sm _ _ (fun v H' e s => ?_) (fun H' e s => ?_)
    · refine ⟨_, s _ _ hD, szlt ?_, fun b o hb => ?_, ?_⟩
      · have := List.length_filterMap_le f (xs.take i)
        rw [List.length_take] at this
        omega
      · rw [upd_ne (ne_of_none hb nD)]
        exact s _ _ (sm _ _ hb)
      · rw [upd_same, take_snoc f hx, e]
        rfl
    · refine ⟨sm.trans s, ?_⟩
      rw [take_snoc f hx, e, s _ _ hD, Option.toList, List.append_nil]) fun H ⟨sm, hD⟩ => hd D H sm (by rw [hD, List.take_length]) nD
/-! ### lists of pure elements, told by the list that comes -/
theorem lc_tupY {K : PySem.W.Frag} {a : Addr} {xs ys : List V} {g : TG} {tt : TT} {te : TE} {vs : List Nat} {σ : L2.St} {H1 : Hp} {Qd : Addr → Hp → Prop} (hl : SqT K H1 a xs) (hlen : ys.length = xs.length) (hn : xs.length ≤ 100000)
    (hs : ∀ (i : Nat) x y H, xs[i]? = some x → ys[i]? = some y → Same H1 H → ∀ (R : V → Hp → Prop) (N : Hp → Prop), (∀ H', Same H H' → R y H') →
      g x (wipe σ vs) H fun σ2 H2 => wipe σ2 vs = wipe σ vs ∧ tt σ2 H2 fun b H3 => if b = true then te σ2 H3 R else N H3)
    (hd : ∀ D H', Same H1 H' → H' D = some (.lst ys) → H1 D = none → Qd D H') :
    ∀ D, H1 D = none → ∃ W : Nat → Nat → Hp → Prop, (∃ m, W 0 m (upd H1 D (.lst []))) ∧ ∀ i m H, W i m H →
      ((Itt K a).stop i H ∧ Qd D H) ∨ ((Itt K a).go i H ∧ ∃ Nx : Hp → Prop, (∀ H', Nx H' → ∃ m', m' < m ∧ W (i + 1) m' H') ∧ ∀ x H', (Itt K a).yld i H x H' → g x (wipe σ vs) H' fun σ2 H2 => wipe σ2 vs = wipe σ vs ∧ tt σ2 H2 fun b H3 =>
        if b = true then te σ2 H3 fun y H4 => ∃ acc, H4 D = some (.lst acc) ∧ acc.length < sizeLine ∧ Nx (upd H4 D (.lst (acc ++ [y]))) else Nx H3) := fun D nD =>
  lc_tup (K := K) (a := a) (xs := xs) (fun i H => Same H1 H ∧ H D = some (.lst (ys.take i))) ⟨same_new nD, upd_same⟩ (fun i H _ ⟨sm, _⟩ => sT sm hl) (fun i x H hx ⟨sm, hD⟩ => by
    have hi := (List.getElem?_eq_some_iff.mp hx).1
    have hy : ys[i]? = some ys[i] := List.getElem?_eq_getElem (by omega)
    refine hs i x ys[i] H hx hy sm _ _ (fun H' s => ?_)
    refine ⟨_, s _ _ hD, szlt ?_, fun b o hb => ?_, ?_⟩
    · rw [List.length_take]
      omega
    · rw [upd_ne (ne_of_none hb nD)]
      exact s _ _ (sm _ _ hb)
    · rw [upd_same, List.take_add_one, hy]
      rfl) fun H ⟨sm, hD⟩ => hd D H sm (by rw [hD, ← hlen, List.take_length]) nD
theorem lc_listY {K : PySem.W.Frag} {a : Addr} {xs ys : List V} {g : TG} {tt : TT} {te : TE} {vs : List Nat} {σ : L2.St} {H1 : Hp} {Qd : Addr → Hp → Prop} (hl : SqL K H1 a xs) (hlen : ys.length = xs.length) (hn : xs.length ≤ 100000)
    (hs : ∀ (i : Nat) x y H, xs[i]? = some x → ys[i]? = some y → Same H1 H → ∀ (R : V → Hp → Prop) (N : Hp → Prop), (∀ H', Same H H' → R y H') →
      g x (wipe σ vs) H fun σ2 H2 => wipe σ2 vs = wipe σ vs ∧ tt σ2 H2 fun b H3 => if b = true then te σ2 H3 R else N H3)
    (hd : ∀ D H', Same H1 H' → H' D = some (.lst ys) → H1 D = none → Qd D H') :
    ∀ D, H1 D = none → ∃ W : Nat → Nat → Hp → Prop, (∃ m, W 0 m (upd H1 D (.lst []))) ∧ ∀ i m H, W i m H →
      ((Itl K a).stop i H ∧ Qd D H) ∨ ((Itl K a).go i H ∧ ∃ Nx : Hp → Prop, (∀ H', Nx H' → ∃ m', m' < m ∧ W (i + 1) m' H') ∧ ∀ x H', (Itl K a).yld i H x H' → g x (wipe σ vs) H' fun σ2 H2 => wipe σ2 vs = wipe σ vs ∧ tt σ2 H2 fun b H3 =>
        if b = true then te σ2 H3 fun y H4 => ∃ acc, H4 D = some (.lst acc) ∧ acc.length < sizeLine ∧ Nx (upd H4 D (.lst (acc ++ [y]))) else Nx H3) := fun D nD =>
  lc_list (K := K) (a := a) (xs := xs) (fun i H => Same H1 H ∧ H D = some (.lst (ys.take i))) ⟨same_new nD, upd_same⟩ (fun i H _ ⟨sm, _⟩ => sm.seq hl) (fun i x H hx ⟨sm, hD⟩ => by
    have hi := (List.getElem?_eq_some_iff.mp hx).1
    have hy : ys[i]? = some ys[i] := List.getElem?_eq_getElem (by omega)
    refine hs i x ys[i] H hx hy sm _ _ (fun H' s => ?_)
    refine ⟨_, s _ _ hD, szlt ?_, fun b o hb => ?_, ?_⟩
    · rw [List.length_take]
      omega
    · rw [upd_ne (ne_of_none hb nD)]
      exact s _ _ (sm _ _ hb)
    · rw [upd_same, List.take_add_one, hy]
      rfl) fun H ⟨sm, hD⟩ => hd D H sm (by rw [hD, ← hlen, List.take_length]) nD
end TB
namespace TB
open PySem PySem.Spec PyProof.Rows L2
/-! ### enumerate(t), t a tuple -/
abbrev enumO (i : Nat) : Obj := { cls := .type "enumerate", data := .fields #[.none, .bool false, .ref i, rawInt 0, .none, .none] }
set_option maxHeartbeats 1000000 in
theorem enum_new {v : Value} {o : Obj} {G : Heap → Prop} (B : Begins v o G) : Meets (Builtin.«enumerate.__new__» ⟨[.type "enumerate", v], []⟩)
    (fun _ R z => G z.heap ∧ R (.ok (.ret (.ref (z.heap.push o).objs.size))) { z with heap := (z.heap.push o).push (enumO z.heap.objs.size) }) := .of_wp fun prog w A R z hz => by
  obtain ⟨hp, g, d, tk, os⟩ := z
  obtain ⟨h1, h⟩ := hz
  have hsub := sub_enumerate
  have it : ∀ {A' : Around} {E : Value → Shared → Prop} {Q : Value → Shared → Prop}, Q (.ref hp.objs.size) ⟨hp.push o, g, d, tk, os⟩ → wpAny (model prog w) A' (pyIter v) Q E ⟨hp, g, d, tk, os⟩ := fun q => B.iter prog w _ _ _ _ h1 q
  wp_walk using it
  refine wpAny_stack_any (fun st => wpAny_pure ?_)
  split
  · rename_i c _ _ _ _ _
    cases (c == Value.type "enumerate") <;> (wp_walk using it; exact ⟨_, rfl, h⟩)
  · wp_walk using it
    exact ⟨_, rfl, h⟩
theorem enum_call {prog : Program} {w : World} {A : Around} {E : Value → Shared → Prop} {s : Shared} {v : Value} {o : Obj} {G : Heap → Prop} {Q : Value → Shared → Prop} (B : Begins v o G) (h1 : G s.heap)
    (h : ∀ h', IsEnum h' (s.heap.objs.size + 1) s.heap.objs.size 0 .none → h'.get? s.heap.objs.size = some o → (∀ b u, s.heap.get? b = some u → h'.get? b = some u) → Q (.ref (s.heap.objs.size + 1)) { s with heap := h' }) :
    wpAny (model prog w) A (call (.type "enumerate") [v]) Q E s := by
  refine callType_new F.called_enumerate (by decide) (F.typeCall_enumerate_1 _) (F.newCall_enumerate_1 _) (fun obj => F.args_object_init_2 obj _) F.entry_enumerate_new (enum_new B) ⟨h1, ?_⟩
  have hz : (s.heap.push o).objs.size = s.heap.objs.size + 1 := Heap.size_push ..
  show _ ∧ _
  rw [hz]
  have he := Heap.get?_push_size (s.heap.push o) (o := enumO s.heap.objs.size) rfl
  rw [hz] at he
  exact ⟨⟨_, he, rfl⟩, h _ he (Heap.get?_push_of_some _ (Heap.get?_push_size _ B.free)) fun b u x => Heap.get?_push_of_some _ (Heap.get?_push_of_some _ x)⟩
/-- the tuple at a, of n items, each in a new pair -/
def IteT (K : PySem.W.Frag) (a : Addr) (n : Nat) : It :=
  ⟨fun i H => ∃ (xs : List V) (x : V), SqT K H a xs ∧ xs[i]? = some x ∧ xs.length = n,
    fun i H v H' => ∃ T x, v = .ref T ∧ H T = none ∧ H' = upd H T (.tup [.int (i : Nat), x]) ∧ ∀ xs, SqT K H a xs → xs[i]? = some x,
    fun i H => ∃ xs : List V, SqT K H a xs ∧ xs.length = n ∧ n ≤ i⟩
theorem enum_apart {h : Heap} {a e it : Addr} {i : Nat} {c : Int} {old : Value} {items : Array Value} (he : IsEnum h e it c old) (hi : h.IsTupleIter it a i) (p : IsTup h a items) : a ≠ it ∧ e ∉ [it, a] ∨ e = it := by
  obtain ⟨o1, g1, c1, _⟩ := hi
  obtain ⟨o2, g2, c2, _⟩ := p
  have n1 : a ≠ it := fun z => by
    rw [z, g1] at g2
    cases g2
    rw [c1] at c2
    exact absurd (Value.type.inj c2) (by decide)
  have n2 : e ≠ a := fun z => by
    have g3 : h.get? e = some _ := he
    rw [z, g2] at g3
    cases g3
    exact absurd (Value.type.inj c2) (by decide)
  by_cases q : e = it
  · exact .inr q
  · refine .inl ⟨n1, fun hm => ?_⟩
    rcases List.mem_cons.mp hm with z | hm
    · exact q z
    · exact n2 (List.mem_singleton.mp hm)
theorem turn_enumT {P : Program} {w : World} {K : PySem.W.Frag} {elts : List Expr} {kk : Nat} {tpos : Pos} (a e it : Addr) (n : Nat) :
    Turn P w K (.Tuple elts kk tpos) (IteT K a n) [e, it] e (fun i h => (∃ old, IsEnum h e it (i : Int) old) ∧ h.IsTupleIter it a i ∧ e ≠ it ∧ i ≤ n) where
  mem := List.mem_cons_self ..
  obj := fun i h st b hb => by
    obtain ⟨⟨old, he⟩, ⟨o, ho, hc, hd⟩, _⟩ := st
    rcases List.mem_cons.mp hb with z | hb
    · rw [z]
      exact ⟨_, he, fun v q => nomatch q⟩
    · rw [List.mem_singleton.mp hb]
      refine ⟨o, ho, fun v q => ?_⟩
      rw [hd] at q
      cases q
  keep := fun i h h' st k => let ⟨⟨old, he⟩, hi, hne, hn⟩ := st; ⟨⟨old, k e (by simp) _ he⟩, hi.at fun o q => k it (by simp) o q, hne, hn⟩
  item := by
    intro X hP hw hK hc i pins s σ H E I hf st hg
    subst hP hw hK
    obtain ⟨⟨old, he⟩, hit, hne, hn⟩ := st
    obtain ⟨xs, x, hq, hx, hl⟩ := hg
    obtain ⟨its, rv, p, hz⟩ := I.tuple hq
    obtain ⟨u, hu, ru⟩ := rv.get hx
    obtain ⟨nai, nef⟩ := (enum_apart he hit p).resolve_right hne
    have hel : e < s.heap.objs.size := Heap.lt_size he
    have hil : it < s.heap.objs.size := by
      obtain ⟨_, q, _⟩ := hit
      exact Heap.lt_size q
    have hin : i < n := by
      have := (List.getElem?_eq_some_iff.mp hx).1
      omega
    have len := rv.length
    refine wpAny_pyNext_enum_itemC (Draws.tuple (prog := X.prog) (w := X.w) (A := X.A.in1) (I.ok.hd hc) it a nai its.toArray) he ⟨hit, p⟩ (by simp; omega) hne nef fun x' h' tk hP ho hst hT hsz hk => ?_
    have ex : x' = u := by
      have h1 : its.toArray[i]? = some x' := hP
      rw [List.getElem?_toArray, hu] at h1
      exact (Option.some.inj h1).symm
    subst ex
    refine ⟨_, rfl, wpAny_letOwnedTupleGo_enum (s := { s with heap := h', toks := tk + 1 }) ho fun h'' he' sb => ?_⟩
    have hT2 := (sb.2 _ (Nat.ne_of_gt hel)).trans hT
    have new : ObjOk X.prog X.w (upd H s.heap.objs.size (.tup [.int (i : Nat), x])) h'' s.heap.objs.size (.tup [.int (i : Nat), x]) :=
      ⟨by show 2 ≤ sizeLine; decide, _, .cons ⟨tk, rfl⟩ (.cons ru .nil), ⟨_, hT2, rfl, _, rfl⟩⟩
    have I1 := I.turnedNew (t' := tk + 1) (ch := [e, it]) (fun b ob hb q => (sb.2 b (fun z => hb (by simp [z]))).trans (hk b ob (fun z => hb (by simp [z])) (fun z => hb (by simp [z])) q)) hf (Nat.le_refl _) new
    refine ⟨.ref s.heap.objs.size, _, I1, rfl, ⟨_, x, rfl, I.hok.fresh (Nat.le_refl _), rfl, fun ys hy => by rw [I.tuple_inj hy hq]; exact hx⟩, ⟨⟨x', ?_⟩, hst.1.at fun o q => (sb.2 it (Ne.symm hne)).trans q, hne, hin⟩, fun b hb => ?_⟩
    · have e1 : ((i + 1 : Nat) : Int) = (i : Int) + 1 := by omega
      rw [e1]
      exact he'
    · have hb' : b < s.heap.objs.size := by
        rcases List.mem_cons.mp hb with z | hb
        · rw [z]
          exact hel
        · rw [List.mem_singleton.mp hb]
          exact hil
      rw [upd_ne (Nat.ne_of_lt hb')]
      exact (hf b hb).1
  done := by
    intro X hP hw hK hc i pins s σ H E I hf st hg
    subst hP hw hK
    obtain ⟨⟨old, he⟩, hit, hne, hn⟩ := st
    obtain ⟨xs, hq, hl, hi⟩ := hg
    obtain ⟨its, rv, p, hz⟩ := I.tuple hq
    obtain ⟨nai, nef⟩ := (enum_apart he hit p).resolve_right hne
    obtain ⟨f0, f1, f2, f3, f4, f5⟩ := hf it (by simp)
    have len := rv.length
    have ei : i = its.toArray.size := by simp; omega
    rw [ei] at hit
    exact wpAny_pyNext_enum_endD (Draws.tuple (prog := X.prog) (w := X.w) (A := X.A.in1) (I.ok.hd hc) it a nai its.toArray) he ⟨hit, p⟩ fun h' eb => ⟨rfl, I.turned (t' := s.toks) (fun b o hb q => eb b o hb q) f0 f1 f3 f4 f5⟩
  self := fun A i s Q E st h => let ⟨⟨_, he⟩, _⟩ := st; wpAny_pyIter_enum he h
def iEnumT (K : PySem.W.Frag) (ta : TA) : TI := fun σ H R => ta σ H fun vs H1 => ∃ a xs, vs = [.ref a] ∧ SqT K H1 a xs ∧ R (IteT K a xs.length) H1
theorem pi_enumT {X : Cx} {e : Expr} {ta : TA} {p pos tpos : Pos} {elts : List Expr} {kk : Nat} (hg : Gl X "enumerate") (hm : X.mg "enumerate" = none) (ha : PA X [e] ta) (hs : starEach [e] X.env = [(false, eval e X.env)] := by rfl) :
    PI X (.Tuple elts kk tpos) (.Call (.Name "enumerate" p) [e] [] pos) (iEnumT X.K ta) := by
  refine ⟨fun pins s σ H R I h => Call_ (ld_blt I hg hm boot_enumerate (PyProof.Rows.callWith_type1 (thn (ha.run pos pins s σ H _ I h) fun us s1 ⟨vs, H1, I1, r1, q1⟩ => ?_) hs rfl))⟩
  obtain ⟨a, xs, ex, hq, q⟩ := q1
  subst ex
  obtain ⟨u1, e1, r⟩ := vals1 r1
  subst e1
  cases r
  obtain ⟨its, rv, p', hz⟩ := I1.tuple hq
  refine enum_call (begins_tuple a its.toArray) p' fun h' he hit hk => wpAny_pyIter_enum he ?_
  have I2 : Inv X pins σ H1 { s1 with heap := h' } := I1.kept (t' := s1.toks) hk
  refine ⟨s1.heap.objs.size + 1, [s1.heap.objs.size + 1, s1.heap.objs.size], _, _, H1, rfl, I2, turn_enumT a (s1.heap.objs.size + 1) s1.heap.objs.size xs.length, ⟨⟨.none, he⟩, ⟨_, hit, rfl, rfl⟩, Nat.succ_ne_self _, Nat.zero_le _⟩, fun b hb => ?_, q⟩
  have hle : s1.heap.objs.size ≤ b := by
    rcases List.mem_cons.mp hb with z | hb
    · rw [z]
      exact Nat.le_add_right _ _
    · rw [List.mem_singleton.mp hb]
      exact Nat.le_refl _
  exact I1.fpOk hle (I1.hok.fresh hle)
/-- for i, x in enumerate(t) -/
theorem for_enumT {K : PySem.W.Frag} {a : Addr} {xs : List V} {g : TG} {tb : TS} {D : Ends} {σ : L2.St} {H : Hp} (Pv : Nat → L2.St → Hp → Prop) (h0 : Pv 0 σ H) (hq : ∀ i σ H, Pv i σ H → SqT K H a xs)
    (hs : ∀ (i : Nat) (x : V) (T : Addr) (σ : L2.St) (H : Hp), xs[i]? = some x → Pv i σ H → H T = none → g (.ref T) σ (upd H T (.tup [.int (i : Int), x])) fun σ2 H2 => tb { D with nx := Pv (i + 1), ct := Pv (i + 1), bk := D.nx } σ2 H2) (hd : ∀ σ H, Pv xs.length σ H → D.nx σ H) :
    ∃ W : Nat → Nat → L2.St → Hp → Prop, (∃ m, W 0 m σ H) ∧ ∀ i m σ H, W i m σ H → ((IteT K a xs.length).stop i H ∧ D.nx σ H) ∨ ((IteT K a xs.length).go i H ∧ ∃ N : L2.St → Hp → Prop, (∀ σ' H', N σ' H' → ∃ m', m' < m ∧ W (i + 1) m' σ' H') ∧ ∀ v H', (IteT K a xs.length).yld i H v H' → g v σ H' fun σ2 H2 => tb { D with nx := N, ct := N, bk := D.nx } σ2 H2) := by
  refine ⟨fun i m σ H => m = xs.length - i ∧ i ≤ xs.length ∧ Pv i σ H, ⟨xs.length, rfl, Nat.zero_le _, h0⟩, ?_⟩
  rintro i m σ H ⟨rfl, hi, p⟩
  have qx := hq i σ H p
  by_cases hlt : i < xs.length
  · refine .inr ⟨⟨xs, xs[i], qx, List.getElem?_eq_getElem hlt, rfl⟩, Pv (i + 1), fun σ' H' p' => ⟨xs.length - (i + 1), by omega, rfl, hlt, p'⟩, fun v H' y => ?_⟩
    obtain ⟨T, x, rfl, nT, rfl, f⟩ := y
    exact hs i x T σ H (f xs qx) p nT
  · have e : i = xs.length := by omega
    subst e
    exact .inl ⟨⟨xs, qx, rfl, Nat.le_refl _⟩, hd σ H p⟩
/-- [.. for i, x in enumerate(t)], pure elements -/
theorem lc_enumTF {K : PySem.W.Frag} {a : Addr} {xs : List V} {g : TG} {tt : TT} {te : TE} {vs : List Nat} {σ : L2.St} {H1 : Hp} {Qd : Addr → Hp → Prop} (hl : SqT K H1 a xs) (f : Nat → V → Option V) (hn : xs.length ≤ 100000)
    (hs : ∀ (i : Nat) x T H, xs[i]? = some x → Same H1 H → H T = some (.tup [.int (i : Int), x]) → ∀ (R : V → Hp → Prop) (N : Hp → Prop), (∀ v H', f i x = some v → Same H H' → R v H') → (∀ H', f i x = none → Same H H' → N H') →
      g (.ref T) (wipe σ vs) H fun σ2 H2 => wipe σ2 vs = wipe σ vs ∧ tt σ2 H2 fun b H3 => if b = true then te σ2 H3 R else N H3)
    (hd : ∀ D H', Same H1 H' → H' D = some (.lst (xs.zipIdx.filterMap fun p => f p.2 p.1)) → H1 D = none → Qd D H') :
    ∀ D, H1 D = none → ∃ W : Nat → Nat → Hp → Prop, (∃ m, W 0 m (upd H1 D (.lst []))) ∧ ∀ i m H, W i m H →
      ((IteT K a xs.length).stop i H ∧ Qd D H) ∨ ((IteT K a xs.length).go i H ∧ ∃ Nx : Hp → Prop, (∀ H', Nx H' → ∃ m', m' < m ∧ W (i + 1) m' H') ∧ ∀ x H', (IteT K a xs.length).yld i H x H' → g x (wipe σ vs) H' fun σ2 H2 => wipe σ2 vs = wipe σ vs ∧ tt σ2 H2 fun b H3 =>
        if b = true then te σ2 H3 fun y H4 => ∃ acc, H4 D = some (.lst acc) ∧ acc.length < sizeLine ∧ Nx (upd H4 D (.lst (acc ++ [y]))) else Nx H3) := by
  intro D nD
  refine ⟨fun i m H => m = xs.length - i ∧ i ≤ xs.length ∧ Same H1 H ∧ H D = some (.lst ((xs.zipIdx.take i).filterMap fun p => f p.2 p.1)), ⟨xs.length, rfl, Nat.zero_le _, same_new nD, upd_same⟩, ?_⟩
  rintro i m H ⟨rfl, hi, sm, hD⟩
  have qx := sT sm hl
  by_cases hlt : i < xs.length
  · refine .inr ⟨⟨xs, xs[i], qx, List.getElem?_eq_getElem hlt, rfl⟩, fun H => i + 1 ≤ xs.length ∧ Same H1 H ∧ H D = some (.lst ((xs.zipIdx.take (i + 1)).filterMap fun p => f p.2 p.1)), fun H' p' => ⟨xs.length - (i + 1), by omega, rfl, p'.1, p'.2.1, p'.2.2⟩, fun v H' y => ?_⟩
    obtain ⟨T, x, rfl, nT, rfl, fx⟩ := y
    have hx := fx xs qx
    have hz : xs.zipIdx[i]? = some (x, i) := by
      rw [List.getElem?_zipIdx, hx]
      simp
    have sT' : Same H (upd H T (.tup [.int (i : Int), x])) := same_new nT
    refine hs i x T _ hx (sm.trans sT') upd_same _ _ (fun v H' e s => ?_) (fun H' e s => ?_)
    · refine ⟨_, s _ _ (sT' _ _ hD), szlt ?_, hlt, fun b o hb => ?_, ?_⟩
      · have := List.length_filterMap_le (fun p : V × Nat => f p.2 p.1) (xs.zipIdx.take i)
        rw [List.length_take, List.length_zipIdx] at this
        omega
      · rw [upd_ne (ne_of_none hb nD)]
        exact s _ _ (sT' _ _ (sm _ _ hb))
      · rw [upd_same, take_snoc _ hz]
        show some (HO.lst (_ ++ [v])) = some (HO.lst (_ ++ (f i x).toList))
        rw [e]
        rfl
    · refine ⟨hlt, sm.trans (sT'.trans s), ?_⟩
      rw [take_snoc _ hz]
      show H' D = some (HO.lst (_ ++ (f i x).toList))
      rw [e, s _ _ (sT' _ _ hD), Option.toList, List.append_nil]
  · have e : i = xs.length := by omega
    subst e
    refine .inl ⟨⟨xs, qx, rfl, Nat.le_refl _⟩, hd D H sm ?_ nD⟩
    rw [hD, ← List.length_zipIdx (l := xs), List.take_length]
end TB
namespace TB
open PySem PySem.Spec PyProof.Rows L2
/-! ### values of any kind: the kind of a value -/
def kinds : List String := ["NoneType", "bool", "int", "str", "list", "tuple", "dict"]
def Knd (K : PySem.W.Frag) (H : Hp) (v : V) (T : String) : Prop := TyX K H v (.type T) ∧ T ∈ kinds
def isK (T c : String) : Bool := T == c || (T == "bool" && c == "int")
theorem kitB_all : (kinds.all fun T => ["int", "bool", "str", "list", "tuple", "dict"].all fun c => kitB T c == some (isK T c)) = true := by decide +kernel
theorem kit_all {K : PySem.W.Frag} {T c : String} (h : T ∈ kinds) (hc : c ∈ ["int", "bool", "str", "list", "tuple", "dict"]) : PySem.W.kitOne K (.type T) (.type c) = some (isK T c) :=
  kit_ty (beq_iff_eq.mp (List.all_eq_true.mp (List.all_eq_true.mp kitB_all T h) c hc))
section
variable {K : PySem.W.Frag} {H H' : Hp} {a : Addr} {v : V} {T : String}
theorem Knd.n : Knd K H .non "NoneType" := ⟨.base .non, by decide⟩
theorem Knd.b (b : Bool) : Knd K H (.bl b) "bool" := ⟨.base (.bl b), by decide⟩
theorem Knd.i (i : Int) : Knd K H (.int i) "int" := ⟨.base (.int i), by decide⟩
theorem Knd.s (x : Str) : Knd K H (.str x) "str" := ⟨.base (.str x), by decide⟩
theorem Knd.l {xs : List V} (h : SqL K H a xs) : Knd K H (.ref a) "list" := by
  refine ⟨?_, by decide⟩
  rcases h with (h | ⟨o, h⟩) | ⟨o, its, n, h1, h2, _⟩
  · exact .base (.lst h)
  · exact .base (.frz h)
  · exact .kList h1 h2
theorem Knd.t {xs : List V} (h : SqT K H a xs) : Knd K H (.ref a) "tuple" := by
  refine ⟨?_, by decide⟩
  rcases h with (h | ⟨o, h⟩) | ⟨o, its, n, h1, h2, _⟩
  · exact .base (.tup h)
  · exact .fTuple h
  · exact .kTuple h1 h2
theorem Knd.d {kvs : List (Key × V)} (h : H a = some (.dK kvs)) : Knd K H (.ref a) "dict" := ⟨.base (.dK h), by decide⟩
/-- what is of the kind int is an int -/
def isIntV : V → Bool
  | .int _ => true
  | _ => false
theorem Knd.int_iff (h : Knd K H v T) : (T == "int") = isIntV v := by
  obtain ⟨h, m⟩ := h
  generalize e : Value.type T = t at h
  cases h with
  | base h =>
    cases h <;> first
      | (cases e; rfl)
      | (injection e with e; subst e; rfl)
      | exact nomatch e
  | byt b => injection e with e; subst e; rfl
  | set h => injection e with e; subst e; rfl
  | kList h1 h2 => injection e with e; subst e; rfl
  | kTuple h1 h2 => injection e with e; subst e; rfl
  | kDict h1 h2 => injection e with e; subst e; rfl
  | fTuple h => injection e with e; subst e; rfl
  | fDict h => injection e with e; subst e; rfl
theorem Knd.same (s : Same H H') (h : Knd K H v T) : Knd K H' v T := by
  obtain ⟨h, m⟩ := h
  refine ⟨?_, m⟩
  cases h with
  | base h =>
    refine .base ?_
    cases h with
    | non => exact .non
    | bl b => exact .bl b
    | int i => exact .int i
    | str x => exact .str x
    | flt x => exact .flt x
    | lst h => exact .lst (s _ _ h)
    | frz h => exact .frz (s _ _ h)
    | tup h => exact .tup (s _ _ h)
    | dK h => exact .dK (s _ _ h)
    | dT h => exact .dT (s _ _ h)
  | byt b => exact .byt b
  | set h => exact .set (s _ _ h)
  | kList h1 h2 => exact .kList h1 h2
  | kTuple h1 h2 => exact .kTuple h1 h2
  | kDict h1 h2 => exact .kDict h1 h2
  | fTuple h => exact .fTuple (s _ _ h)
  | fDict h => exact .fDict (s _ _ h)
end
/-- isinstance(v, c), c one of the built-in kinds -/
theorem call_isiK {X : Cx} : CallR X (.builtin "isinstance") (fun xs H Q => ∃ v T c, xs = [v, .ty c] ∧ Knd X.K H v T ∧ c ∈ ["int", "bool", "str", "list", "tuple", "dict"] ∧ Q (.bl (isK T c)) H) :=
  CallR_imp call_isi fun xs H Q ⟨v, T, c, e, k, hc, q⟩ => ⟨v, .ty c, .type T, .type c, isK T c, e, .ty c, k.1, kit_all k.2 hc, q⟩
/-- a whole number from lo to hi -/
def withinV (v : V) (lo hi : Int) : Bool := match v with
  | .int i => decide (lo ≤ i) && decide (i ≤ hi)
  | _ => false
theorem call_reprB {X : Cx} : CallR X (.builtin "repr") (fun xs H Q => ∃ b : Bool, xs = [.bl b] ∧ Q (.str (if b then "True" else "False")) H) := by
  intro pins s σ H xs us Q I r h
  obtain ⟨b, rfl, q⟩ := h
  obtain ⟨u, rfl, rx⟩ := vals1 r
  cases (show u = Value.bool b from rx)
  exact PySem.P.repr_of_bool ⟨.str (if b then "True" else "False"), H, I.tok _, ⟨_, rfl⟩, q⟩
/-! ### data that can be compared -/
structure OkD (n : Nat) (d : PyData) : Prop where
  c : d.canLay0 = true
  d : d.depth ≤ n
theorem OkD.int {n : Nat} (i : Int) : OkD n (.int i) := ⟨rfl, Nat.zero_le _⟩
theorem OkD.bool {n : Nat} (i : Bool) : OkD n (.bool i) := ⟨rfl, Nat.zero_le _⟩
theorem OkD.none {n : Nat} : OkD n .none := ⟨rfl, Nat.zero_le _⟩
theorem OkD.all {n : Nat} : ∀ {ds : List PyData}, (∀ x ∈ ds, OkD n x) → PyData.canLayAll0 ds = true ∧ PyData.depthAll ds ≤ n
  | [], _ => ⟨rfl, Nat.zero_le _⟩
  | x :: r, h => by
    have h1 := h x (List.mem_cons_self ..)
    obtain ⟨a, b⟩ := OkD.all (ds := r) fun y hy => h y (List.mem_cons_of_mem _ hy)
    refine ⟨?_, ?_⟩
    · show (PyData.canLay0 x && PyData.canLayAll0 r) = true
      rw [h1.c, a]
      rfl
    · show max (PyData.depth x) (PyData.depthAll r) ≤ n
      have := h1.d
      omega
theorem OkD.tup {n : Nat} {ds : List PyData} (h : ∀ x ∈ ds, OkD n x) : OkD (n + 1) (.tuple ds) := ⟨(OkD.all h).1, Nat.succ_le_succ (OkD.all h).2⟩
theorem OkD.list {n : Nat} {ds : List PyData} (h : ∀ x ∈ ds, OkD n x) : OkD (n + 1) (.list ds) := ⟨(OkD.all h).1, Nat.succ_le_succ (OkD.all h).2⟩
theorem OkD.sh {n : Nat} {d : PyData} (h : OkD n d) (hn : n ≤ 64 := by decide) : SeqAt.shaped d = true := by
  unfold SeqAt.shaped
  have := h.d
  rw [h.c, decide_eq_true (by omega)]
  rfl
theorem OkD.pair (x y : Int) : OkD 1 (.tuple [.int x, .int y]) := .tup fun z hz => by
  simp only [List.mem_cons, List.not_mem_nil, or_false] at hz
  rcases hz with rfl | rfl
  · exact .int _
  · exact .int _
/-! ### t * k for any k up to 1000 -/
theorem tuple_mul1 (l : Addr) (items : Array Value) (n : Nat) (dd : Option Addr) (sl : Array (Option Value)) (u : Tok) :
    Meets (Builtin.«tuple.__mul__» ⟨[.ref l, .int 1 u], []⟩) (fun _ R z => z.heap.get? l = some { cls := .type "tuple", dict := dd, data := .seq items n, slots := sl } ∧ R (.ok (.ret (.ref l))) z) :=
  .of_wp fun prog w A R z hz => by
    obtain ⟨hp, g, d, tk, os⟩ := z
    obtain ⟨hl, h⟩ := hz
    have f1 := AutoSeq1.idx_int
    wp_walk using wpAny_loadPart' hl
    exact ⟨_, rfl, h⟩
theorem tuple_mul0 (l : Addr) (items : Array Value) (n : Nat) (dd : Option Addr) (sl : Array (Option Value)) (u : Tok) (hi : items.isEmpty = false) :
    Meets (Builtin.«tuple.__mul__» ⟨[.ref l, .int 0 u], []⟩) (fun _ R z => z.heap.get? l = some { cls := .type "tuple", dict := dd, data := .seq items n, slots := sl } ∧
      R (.ok (.ret (.ref z.heap.objs.size))) { z with heap := z.heap.push { cls := .type "tuple", data := .seq #[] } }) :=
  .of_wp fun prog w A R z hz => by
    obtain ⟨hp, g, d, tk, os⟩ := z
    obtain ⟨hl, h⟩ := hz
    have f1 := AutoSeq1.idx_int
    wp_walk using wpAny_loadPart' hl
    exact ⟨_, rfl, h⟩
theorem op_repU {X : Cx} : OpR X (binaryOp .Mult) (fun x y H Q => ∃ l k xs, x = .ref l ∧ y = .int k ∧ SqT X.K H l xs ∧ xs ≠ [] ∧ 0 ≤ k ∧ k ≤ 1000 ∧ xs.length ≤ 1000 ∧ NewT X.K (List.replicate k.toNat xs).flatten H Q) := by
  intro pins s σ H x y v u Q I rx ry h
  obtain ⟨l, k, xs, e1, e2, hT, hne, h1, h2, hz, q⟩ := h
  by_cases hk : 2 ≤ k
  · exact op_repT pins s σ H x y v u Q I rx ry ⟨l, k, xs, e1, e2, hT, hne, hk, h2, hz, newT q⟩
  subst e1 e2
  cases rx
  obtain ⟨t, rfl⟩ := ry
  obtain ⟨its, r, ⟨⟨cls, dd, data, sl⟩, ho, hc, n, hd⟩, hs⟩ := I.tuple hT
  simp only at hc hd
  subst hc hd
  have hle : its.length = xs.length := r.length.symm
  have hi : its.toArray.isEmpty = false := by
    cases its with
    | nil => exact absurd (List.eq_nil_of_length_eq_zero hle.symm) hne
    | cons a b => rfl
  by_cases h0 : k = 0
  · subst h0
    refine wpAny_binaryOp_repeat_ref (T := "tuple") (U := "int") (by decide) ⟨_, ho, rfl⟩ (fun s' => typeIs_int s' 0 t) noFill_tuple_mul F.fills_int_mul F.slot_int_rmul repeat_tuple F.slot_int_index.lookup
      (call_meets F.slot_int_rmul (typeIs_int s 0 t) F.entry_int_rmul (F.args_int_rmul_2 _ _) (int_rmul_tuple 0 t l its.toArray n dd sl)
        ⟨ho, rfl, ⟨_, ho, rfl⟩, call_meets F.slot_tuple_mul ⟨_, ho, rfl⟩ F.entry_tuple_mul (F.args_tuple_mul_2 _ _) (tuple_mul0 l its.toArray n dd sl t hi) ⟨ho, ?_⟩⟩)
    have new : ObjOk X.prog X.w (upd H s.heap.objs.size (.tup [])) (s.heap.push { cls := .type "tuple", data := .seq #[] }) s.heap.objs.size (.tup []) := ⟨Nat.zero_le _, [], .nil, IsTup.new _ _⟩
    exact ⟨.ref s.heap.objs.size, _, I.laid (t' := s.toks) (o := .tup []) (fun b ob z => Heap.get?_push_of_some _ z) (Nat.le_refl _) new, rfl, q _ _ (same_new (I.hok.fresh (Nat.le_refl _))) (SqT.of upd_same)⟩
  · have e : k = 1 := by omega
    subst e
    refine wpAny_binaryOp_repeat_ref (T := "tuple") (U := "int") (by decide) ⟨_, ho, rfl⟩ (fun s' => typeIs_int s' 1 t) noFill_tuple_mul F.fills_int_mul F.slot_int_rmul repeat_tuple F.slot_int_index.lookup
      (call_meets F.slot_int_rmul (typeIs_int s 1 t) F.entry_int_rmul (F.args_int_rmul_2 _ _) (int_rmul_tuple 1 t l its.toArray n dd sl)
        ⟨ho, rfl, ⟨_, ho, rfl⟩, call_meets F.slot_tuple_mul ⟨_, ho, rfl⟩ F.entry_tuple_mul (F.args_tuple_mul_2 _ _) (tuple_mul1 l its.toArray n dd sl t) ⟨ho, ?_⟩⟩)
    have e1 : (List.replicate (1 : Int).toNat xs).flatten = xs := by
      show (List.replicate 1 xs).flatten = xs
      simp
    exact ⟨.ref l, H, I.tok _, rfl, q l H (Same.refl H) (by rw [e1]; exact hT)⟩
end TB
namespace TB
open PySem PySem.Spec PyProof.Rows L2
/-! ### a statement, then what it leads to told by one sentence (so that ways that part meet again) -/
def jS (t : TS) : TS := fun D σ H => ∃ Pn : L2.St → Hp → Prop, t { D with nx := Pn } σ H ∧ ∀ σ' H', Pn σ' H' → D.nx σ' H'
theorem ps_join {X : Cx} {st : Stmt} {t : TS} (h : PS X st t) : PS X st (jS t) := ⟨fun pins s σ H D I hw => by
  obtain ⟨Pn, h1, h2⟩ := hw
  refine thn (h.run pins s σ H _ I h1) fun f s' hf => ?_
  cases f with
  | next =>
    obtain ⟨σ', H', I', q⟩ := hf
    exact ⟨σ', H', I', h2 _ _ q⟩
  | ret v => exact hf
  | brk => exact hf
  | cont => exact hf⟩
/-! ### a module's constant that is a written tuple -/
structure ConT (K : PySem.W.Frag) (mg : Str → Option Value) (x : Str) (xs : List V) where
  a : Addr
  g : mg x = some (.ref a)
  t : ∀ H, SqT K H a xs
def conT {K : PySem.W.Frag} {h : Heap} {mg : Str → Option Value} {x : Str} {xs : List V} (X : K.In h) (G : h.Ns mainGlobals mg) {a : Addr} {od : Option Addr} {its : Array Value} {n : Nat} {sl : Array (Option Value)}
    (v : PySem.W.nsIn K mainGlobals x = some (some (.ref a))) (l : K.lookup a = some ⟨.type "tuple", od, .seq its n, sl⟩) (hz : its.size ≤ 1000) (r : Vals xs its.toList) : ConT K mg x xs :=
  ⟨a, PySem.W.mg_of X G v, fun H => .inr ⟨_, its, n, l, rfl, rfl, Nat.le_trans hz (by decide), r⟩⟩
/-! ### the same rules, the facts named apart: for use inside comprehensions -/
section
variable {X : Cx} {K : PySem.W.Frag}
theorem pe_tupAK (hK : X.K = K) {es : List Expr} {t : TA} {x1} {pos : Pos} (h : PA X es t) : PE X (.Tuple es x1 pos) (tTupA K t) := by
  subst hK
  exact pe_tupA h
theorem op_in_seqK (hK : X.K = K) : OpR X (compareOp .In) (rIn K false) := by
  subst hK
  exact op_in_seq
theorem op_notIn_seqK (hK : X.K = K) : OpR X (compareOp .NotIn) (rIn K true) := by
  subst hK
  exact op_notIn_seq
theorem sl_listAK (hK : X.K = K) : L2.SlR X (fun x lo hi H Q => ∃ a xs, x = .ref a ∧ SqL K H a xs ∧ NewL (cutV xs lo hi) H Q) := by
  subst hK
  exact sl_listA
theorem sl_tupleAK (hK : X.K = K) : L2.SlR X (fun x lo hi H Q => ∃ a xs, x = .ref a ∧ SqT K H a xs ∧ NewT K (cutV xs lo hi) H Q) := by
  subst hK
  exact sl_tupleA
theorem call_tupleAK (hK : X.K = K) : CallR X (.type "tuple") (fun xs H Q => ∃ p ys, xs = [.ref p] ∧ (SqL K H p ys ∨ SqT K H p ys) ∧ NewT K ys H Q) := by
  subst hK
  exact call_tupleA
theorem call_listAK (hK : X.K = K) : CallR X (.type "list") (fun xs H Q => ∃ p ys, xs = [.ref p] ∧ (SqL K H p ys ∨ SqT K H p ys) ∧ NewL ys H Q) := by
  subst hK
  exact call_listA
theorem call_len_seqK (hK : X.K = K) : CallR X (.builtin "len") (fun xs H Q => ∃ p ys, xs = [.ref p] ∧ (SqL K H p ys ∨ SqT K H p ys) ∧ Q (.int ys.length) H) := by
  subst hK
  exact call_len_seq
theorem call_isiKK (hK : X.K = K) : CallR X (.builtin "isinstance") (fun xs H Q => ∃ v T c, xs = [v, .ty c] ∧ Knd K H v T ∧ c ∈ ["int", "bool", "str", "list", "tuple", "dict"] ∧ Q (.bl (isK T c)) H) := by
  subst hK
  exact call_isiK
theorem op_catUK (hK : X.K = K) : OpR X (binaryOp .Add) (fun x y H Q => ∃ a b xs ys, x = .ref a ∧ y = .ref b ∧ SqT K H a xs ∧ SqT K H b ys ∧ xs.length + ys.length ≤ sizeLine ∧ NewT K (xs ++ ys) H Q) := by
  subst hK
  exact op_catU
theorem op_repUK (hK : X.K = K) : OpR X (binaryOp .Mult) (fun x y H Q => ∃ l k xs, x = .ref l ∧ y = .int k ∧ SqT K H l xs ∧ xs ≠ [] ∧ 0 ≤ k ∧ k ≤ 1000 ∧ xs.length ≤ 1000 ∧ NewT K (List.replicate k.toNat xs).flatten H Q) := by
  subst hK
  exact op_repU
end
end TB
namespace TB
open PySem PySem.Spec PyProof.Rows L2
/-! ### rows of pairs of ints, each its own tuple -/
def pairV (p : Int × Int) : List V := [.int p.1, .int p.2]
structure PairsL (K : PySem.W.Frag) (H : Hp) (rs : List V) (ps : List (Int × Int)) : Prop where
  len : rs.length = ps.length
  at' : ∀ (i : Nat) r p, rs[i]? = some r → ps[i]? = some p → ∃ a, r = .ref a ∧ SqT K H a (pairV p)
section
variable {K : PySem.W.Frag} {H H' : Hp} {rs : List V} {ps : List (Int × Int)}
theorem PairsL.nil : PairsL K H [] [] := ⟨rfl, fun i r p e _ => nomatch e⟩
theorem PairsL.get (h : PairsL K H rs ps) {i : Nat} {r : V} (e : rs[i]? = some r) : ∃ p a, ps[i]? = some p ∧ r = .ref a ∧ SqT K H a (pairV p) := by
  have hi := (List.getElem?_eq_some_iff.mp e).1
  rw [h.len] at hi
  obtain ⟨a, e1, e2⟩ := h.at' i r ps[i] e (List.getElem?_eq_getElem hi)
  exact ⟨_, a, List.getElem?_eq_getElem hi, e1, e2⟩
theorem PairsL.get' (h : PairsL K H rs ps) {i : Nat} {p : Int × Int} (e : ps[i]? = some p) : ∃ a, rs[i]? = some (.ref a) ∧ SqT K H a (pairV p) := by
  have hi := (List.getElem?_eq_some_iff.mp e).1
  rw [← h.len] at hi
  obtain ⟨a, e1, e2⟩ := h.at' i rs[i] p (List.getElem?_eq_getElem hi) e
  exact ⟨a, by rw [List.getElem?_eq_getElem hi, e1], e2⟩
theorem PairsL.map (f : ∀ a xs, SqT K H a xs → SqT K H' a xs) (h : PairsL K H rs ps) : PairsL K H' rs ps := ⟨h.len, fun i r p e1 e2 => let ⟨a, e, t⟩ := h.at' i r p e1 e2; ⟨a, e, f _ _ t⟩⟩
theorem PairsL.same (s : Same H H') (h : PairsL K H rs ps) : PairsL K H' rs ps := h.map fun _ _ t => sT s t
theorem PairsL.snoc {a : Addr} {p : Int × Int} (h : PairsL K H rs ps) (t : SqT K H a (pairV p)) : PairsL K H (rs ++ [.ref a]) (ps ++ [p]) := by
  refine ⟨by simp [h.len], fun i r q e1 e2 => ?_⟩
  by_cases hi : i < rs.length
  · rw [List.getElem?_append_left hi] at e1
    rw [List.getElem?_append_left (by rw [← h.len]; exact hi)] at e2
    exact h.at' i r q e1 e2
  · rw [List.getElem?_append_right (by omega)] at e1
    rw [List.getElem?_append_right (by rw [← h.len]; omega), ← h.len] at e2
    cases e : i - rs.length with
    | zero =>
      rw [e] at e1 e2
      cases e1
      cases e2
      exact ⟨a, rfl, t⟩
    | succ j =>
      rw [e] at e1
      cases e1
theorem PairsL.take (h : PairsL K H rs ps) (n : Nat) : PairsL K H (rs.take n) (ps.take n) := by
  refine ⟨by rw [List.length_take, List.length_take, h.len], fun i r p e1 e2 => ?_⟩
  rw [List.getElem?_take] at e1 e2
  split at e1
  · rename_i hi
    rw [if_pos hi] at e2
    exact h.at' i r p e1 e2
  · cases e1
theorem PairsL.drop (h : PairsL K H rs ps) (n : Nat) : PairsL K H (rs.drop n) (ps.drop n) := by
  refine ⟨by rw [List.length_drop, List.length_drop, h.len], fun i r p e1 e2 => ?_⟩
  rw [List.getElem?_drop] at e1 e2
  exact h.at' _ r p e1 e2
theorem PairsL.set (h : PairsL K H rs ps) {i : Nat} {a : Addr} {p : Int × Int} (t : SqT K H a (pairV p)) : PairsL K H (rs.set i (.ref a)) (ps.set i p) := by
  refine ⟨by rw [List.length_set, List.length_set, h.len], fun j r q e1 e2 => ?_⟩
  rw [List.getElem?_set] at e1 e2
  by_cases hj : i = j
  · rw [if_pos hj] at e1 e2
    split at e1
    · cases e1
      split at e2
      · cases e2
        exact ⟨a, rfl, t⟩
      · cases e2
    · cases e1
  · rw [if_neg hj] at e1 e2
    exact h.at' j r q e1 e2
end
def pairD (p : Int × Int) : PyData := .tuple [.int p.1, .int p.2]
theorem PairsL.dp {K : PySem.W.Frag} {H : Hp} : ∀ {rs : List V} {ps : List (Int × Int)}, PairsL K H rs ps → DpAll K H rs (ps.map pairD)
  | [], [], _ => .nil
  | [], _ :: _, h => by cases h.len
  | _ :: _, [], h => by cases h.len
  | r :: rs, p :: ps, h => by
    obtain ⟨a, rfl, t⟩ := h.at' 0 r p rfl rfl
    exact .cons (dp2 t) (PairsL.dp ⟨Nat.succ.inj h.len, fun i r p e1 e2 => h.at' (i + 1) r p e1 e2⟩)
theorem pairD_okT (ps : List (Int × Int)) : OkD 2 (.tuple (ps.map pairD)) := .tup fun d hd => by
  obtain ⟨p, _, rfl⟩ := List.mem_map.mp hd
  exact .pair _ _
theorem pairD_okL (ps : List (Int × Int)) : OkD 2 (.list (ps.map pairD)) := .list fun d hd => by
  obtain ⟨p, _, rfl⟩ := List.mem_map.mp hd
  exact .pair _ _
/-- left != []: is there any -/
theorem nilD {α : Type} (f : α → PyData) (ps : List α) : PyData.eqv (.list (ps.map f)) (.list []) = ps.isEmpty := by
  cases ps <;> rfl
theorem PairsL.eraseIdx {K : PySem.W.Frag} {H : Hp} {rs : List V} {ps : List (Int × Int)} (h : PairsL K H rs ps) (i : Nat) : PairsL K H (rs.eraseIdx i) (ps.eraseIdx i) := by
  have hl := h.len
  refine ⟨by rw [List.length_eraseIdx, List.length_eraseIdx, hl], fun j r p e1 e2 => ?_⟩
  rw [List.getElem?_eraseIdx] at e1 e2
  by_cases hj : j < i
  · rw [if_pos hj] at e1 e2
    exact h.at' j r p e1 e2
  · rw [if_neg hj] at e1 e2
    exact h.at' (j + 1) r p e1 e2
theorem take_succ_of {α : Type} {xs : List α} {i : Nat} {x : α} (h : xs[i]? = some x) : xs.take (i + 1) = xs.take i ++ [x] := by
  rw [List.take_add_one, h]
  rfl
theorem filterMap_some {α β : Type} (f : α → β) (xs : List α) : xs.filterMap (fun x => some (f x)) = xs.map f := by
  induction xs with
  | nil => rfl
  | cons x r ih => simp [ih]
/-- what comes of each place -/
theorem range_filterMap {α β : Type} (f : α → Option β) : ∀ xs : List α, (List.range xs.length).filterMap (fun i => xs[i]?.bind f) = xs.filterMap f := by
  intro xs
  suffices h : ∀ n, n ≤ xs.length → (List.range n).filterMap (fun i => xs[i]?.bind f) = (xs.take n).filterMap f by
    rw [h _ (Nat.le_refl _), List.take_length]
  intro n
  induction n with
  | zero => intro _; simp
  | succ n ih =>
    intro hn
    have e : xs[n]? = some xs[n] := List.getElem?_eq_getElem (by omega)
    rw [range_snoc, ih (by omega), take_succ_of e, List.filterMap_append, e]
    congr 1
/-- [.. for .. in a tuple if ..]: what comes of each place told -/
theorem lc_tupO {K : PySem.W.Frag} {a : Addr} {xs : List V} {g : TG} {tt : TT} {te : TE} {vs : List Nat} {σ : L2.St} {H1 : Hp} {Qd : Addr → Hp → Prop} (hl : SqT K H1 a xs) (f : Nat → Option V) (hn : xs.length ≤ 100000)
    (hs : ∀ (i : Nat) x H, xs[i]? = some x → Same H1 H → ∀ (R : V → Hp → Prop) (N : Hp → Prop), (∀ v H', f i = some v → Same H H' → R v H') → (∀ H', f i = none → Same H H' → N H') →
      g x (wipe σ vs) H fun σ2 H2 => wipe σ2 vs = wipe σ vs ∧ tt σ2 H2 fun b H3 => if b = true then te σ2 H3 R else N H3)
    (hd : ∀ D H', Same H1 H' → H' D = some (.lst ((List.range xs.length).filterMap f)) → H1 D = none → Qd D H') :
    ∀ D, H1 D = none → ∃ W : Nat → Nat → Hp → Prop, (∃ m, W 0 m (upd H1 D (.lst []))) ∧ ∀ i m H, W i m H →
      ((Itt K a).stop i H ∧ Qd D H) ∨ ((Itt K a).go i H ∧ ∃ Nx : Hp → Prop, (∀ H', Nx H' → ∃ m', m' < m ∧ W (i + 1) m' H') ∧ ∀ x H', (Itt K a).yld i H x H' → g x (wipe σ vs) H' fun σ2 H2 => wipe σ2 vs = wipe σ vs ∧ tt σ2 H2 fun b H3 =>
        if b = true then te σ2 H3 fun y H4 => ∃ acc, H4 D = some (.lst acc) ∧ acc.length < sizeLine ∧ Nx (upd H4 D (.lst (acc ++ [y]))) else Nx H3) := fun D nD =>
  lc_tup (K := K) (a := a) (xs := xs) (fun i H => Same H1 H ∧ i ≤ xs.length ∧ H D = some (.lst ((List.range i).filterMap f))) ⟨same_new nD, Nat.zero_le _, upd_same⟩ (fun i H _ ⟨sm, _⟩ => sT sm hl) (fun i x H hx ⟨sm, hi, hD⟩ => by
    have hi' := (List.getElem?_eq_some_iff.mp hx).1
    refine hs i x H hx sm _ _ (fun v H' e s => ?_) (fun H' e s => ?_)
    · refine ⟨_, s _ _ hD, szlt ?_, fun b o hb => ?_, hi', ?_⟩
      · have := List.length_filterMap_le f (List.range i)
        rw [List.length_range] at this
        omega
      · rw [upd_ne (ne_of_none hb nD)]
        exact s _ _ (sm _ _ hb)
      · rw [upd_same, range_snoc, e]
        rfl
    · refine ⟨sm.trans s, hi', ?_⟩
      rw [range_snoc, e, s _ _ hD, Option.toList, List.append_nil]) fun H ⟨sm, _, hD⟩ => hd D H sm hD nD
/-- [.. for .. in range(n)] of new things: what each is stands -/
theorem lc_rangeR {n : Nat} {g : TG} {tt : TT} {te : TE} {vs : List Nat} {σ : L2.St} {H1 : Hp} {Qd : Addr → Hp → Prop} (R : Nat → V → Hp → Prop) (st : ∀ i v H H', Same H H' → R i v H → R i v H')
    (sm : ∀ i v H D ys zs, H D = some (.lst ys) → R i v H → R i v (upd H D (.lst zs))) (hn : n ≤ 100000)
    (hs : ∀ i H, i < n → Same H1 H → ∀ (Rk : V → Hp → Prop) (N : Hp → Prop), (∀ v H', Same H H' → R i v H' → Rk v H') →
      g (.int (i : Int)) (wipe σ vs) H fun σ2 H2 => wipe σ2 vs = wipe σ vs ∧ tt σ2 H2 fun b H3 => if b = true then te σ2 H3 Rk else N H3)
    (hd : ∀ D H' xs, Same H1 H' → H' D = some (.lst xs) → xs.length = n → (∀ i v, xs[i]? = some v → R i v H') → H1 D = none → Qd D H') :
    ∀ D, H1 D = none → ∃ W : Nat → Nat → Hp → Prop, (∃ m, W 0 m (upd H1 D (.lst []))) ∧ ∀ i m H, W i m H →
      ((Itr 0 n).stop i H ∧ Qd D H) ∨ ((Itr 0 n).go i H ∧ ∃ Nx : Hp → Prop, (∀ H', Nx H' → ∃ m', m' < m ∧ W (i + 1) m' H') ∧ ∀ x H', (Itr 0 n).yld i H x H' → g x (wipe σ vs) H' fun σ2 H2 => wipe σ2 vs = wipe σ vs ∧ tt σ2 H2 fun b H3 =>
        if b = true then te σ2 H3 fun y H4 => ∃ acc, H4 D = some (.lst acc) ∧ acc.length < sizeLine ∧ Nx (upd H4 D (.lst (acc ++ [y]))) else Nx H3) := fun D nD =>
  lc_rangeN (n := n) (fun i H => Same H1 H ∧ ∃ xs, H D = some (.lst xs) ∧ xs.length = i ∧ ∀ j v, xs[j]? = some v → R j v H) ⟨same_new nD, [], upd_same, rfl, fun j v e => nomatch e⟩ (fun i H hi ⟨s1, xs, hD, hl, hR⟩ => by
    refine hs i H hi s1 _ _ (fun v H' s2 r => ?_)
    · refine ⟨xs, s2 _ _ hD, szlt (by omega), fun b o hb => ?_, xs ++ [v], upd_same, by simp [hl], fun j u e => ?_⟩
      · rw [upd_ne (ne_of_none hb nD)]
        exact s2 _ _ (s1 _ _ hb)
      · by_cases hj : j < xs.length
        · rw [List.getElem?_append_left hj] at e
          exact sm _ _ _ _ _ _ (s2 _ _ hD) (st _ _ _ _ s2 (hR j u e))
        · rw [List.getElem?_append_right (by omega)] at e
          have hj' : j = i := by
            have := (List.getElem?_eq_some_iff.mp e).1
            simp at this
            omega
          subst hj'
          rw [show j - xs.length = 0 by omega] at e
          cases e
          exact sm _ _ _ _ _ _ (s2 _ _ hD) r) fun H ⟨s1, xs, hD, hl, hR⟩ => hd D H xs s1 hD hl hR nD
end TB
namespace TB
open PySem PySem.Spec PyProof.Rows L2
/-! ### only what stands in lists may have changed -/
structure LMut (H H' : Hp) : Prop where
  k : ∀ b o, H b = some o → (∀ xs, o ≠ .lst xs) → H' b = some o
  l : ∀ b xs, H b = some (.lst xs) → ∃ ys, H' b = some (.lst ys)
theorem LMut.refl (H : Hp) : LMut H H := ⟨fun _ _ e _ => e, fun _ xs e => ⟨xs, e⟩⟩
theorem LMut.trans {H H1 H2 : Hp} (a : LMut H H1) (b : LMut H1 H2) : LMut H H2 := ⟨fun c o e n => b.k c o (a.k c o e n) n, fun c xs e => let ⟨ys, e'⟩ := a.l c xs e; b.l c ys e'⟩
theorem LMut.of {H H' : Hp} (s : Same H H') : LMut H H' := ⟨fun b o e _ => s b o e, fun b xs e => ⟨xs, s _ _ e⟩⟩
theorem Ext.lm {d : Addr} {H H' : Hp} (x : Ext d H H') (hd : Dice H d) : LMut H H' := by
  obtain ⟨a1, a2, a3, e⟩ := hd
  obtain ⟨b1, b2, b3, e'⟩ := x.d
  refine ⟨fun b o eb n => x.s b o (fun z => ?_) eb, fun b xs eb => ?_⟩
  · rw [z, e] at eb
    cases eb
    exact n _ rfl
  · by_cases hb : b = d
    · rw [hb]
      exact ⟨_, e'⟩
    · exact ⟨xs, x.s b _ hb eb⟩
theorem LMut.mut {H : Hp} {l : Addr} {ys : List V} (zs : List V) (h : H l = some (.lst ys)) : LMut H (upd H l (.lst zs)) := by
  refine ⟨fun b o eb n => ?_, fun b xs eb => ?_⟩
  · have nb : b ≠ l := fun z => by
      rw [z, h] at eb
      cases eb
      exact n _ rfl
    rw [upd_ne nb]
    exact eb
  · by_cases hb : b = l
    · rw [hb]
      exact ⟨zs, upd_same⟩
    · exact ⟨xs, by rw [upd_ne hb]; exact eb⟩
section
variable {K : PySem.W.Frag} {H H' : Hp} {a : Addr} {xs : List V} {v : V} {T : String}
theorem LMut.seqT (m : LMut H H') (h : SqT K H a xs) : SqT K H' a xs := by
  rcases h with (h | ⟨o, h⟩) | h
  · exact .inl (.inl (m.k _ _ h fun ys z => by cases z))
  · exact .inl (.inr ⟨o, m.k _ _ h fun ys z => by cases z⟩)
  · exact .inr h
theorem LMut.pairs {rs : List V} {ps : List (Int × Int)} (m : LMut H H') (h : PairsL K H rs ps) : PairsL K H' rs ps := h.map fun a xs t => m.seqT t
theorem LMut.knd (m : LMut H H') (h : Knd K H v T) : Knd K H' v T := by
  obtain ⟨h, hm⟩ := h
  refine ⟨?_, hm⟩
  cases h with
  | base h =>
    cases h with
    | non => exact .base .non
    | bl b => exact .base (.bl b)
    | int i => exact .base (.int i)
    | str x => exact .base (.str x)
    | flt x => exact .base (.flt x)
    | lst h =>
      obtain ⟨ys, e⟩ := m.l _ _ h
      exact .base (.lst e)
    | frz h => exact .base (.frz (m.k _ _ h fun ys z => by cases z))
    | tup h => exact .base (.tup (m.k _ _ h fun ys z => by cases z))
    | dK h => exact .base (.dK (m.k _ _ h fun ys z => by cases z))
    | dT h => exact .base (.dT (m.k _ _ h fun ys z => by cases z))
  | byt b => exact .byt b
  | set h => exact .set (m.k _ _ h fun ys z => by cases z)
  | kList h1 h2 => exact .kList h1 h2
  | kTuple h1 h2 => exact .kTuple h1 h2
  | kDict h1 h2 => exact .kDict h1 h2
  | fTuple h => exact .fTuple (m.k _ _ h fun ys z => by cases z)
  | fDict h => exact .fDict (m.k _ _ h fun ys z => by cases z)
end
/-- [.. for .. in a tuple] of new things: what each is stands -/
theorem lc_tupR {K : PySem.W.Frag} {a : Addr} {xs : List V} {g : TG} {tt : TT} {te : TE} {vs : List Nat} {σ : L2.St} {H1 : Hp} {Qd : Addr → Hp → Prop} (hl : SqT K H1 a xs) (R : Nat → V → Hp → Prop) (st : ∀ i v H H', LMut H H' → R i v H → R i v H') (hn : xs.length ≤ 100000)
    (hs : ∀ (i : Nat) x H, xs[i]? = some x → Same H1 H → ∀ (Rk : V → Hp → Prop) (N : Hp → Prop), (∀ v H', Same H H' → R i v H' → Rk v H') →
      g x (wipe σ vs) H fun σ2 H2 => wipe σ2 vs = wipe σ vs ∧ tt σ2 H2 fun b H3 => if b = true then te σ2 H3 Rk else N H3)
    (hd : ∀ D H' ys, Same H1 H' → H' D = some (.lst ys) → ys.length = xs.length → (∀ i v, ys[i]? = some v → R i v H') → H1 D = none → Qd D H') :
    ∀ D, H1 D = none → ∃ W : Nat → Nat → Hp → Prop, (∃ m, W 0 m (upd H1 D (.lst []))) ∧ ∀ i m H, W i m H →
      ((Itt K a).stop i H ∧ Qd D H) ∨ ((Itt K a).go i H ∧ ∃ Nx : Hp → Prop, (∀ H', Nx H' → ∃ m', m' < m ∧ W (i + 1) m' H') ∧ ∀ x H', (Itt K a).yld i H x H' → g x (wipe σ vs) H' fun σ2 H2 => wipe σ2 vs = wipe σ vs ∧ tt σ2 H2 fun b H3 =>
        if b = true then te σ2 H3 fun y H4 => ∃ acc, H4 D = some (.lst acc) ∧ acc.length < sizeLine ∧ Nx (upd H4 D (.lst (acc ++ [y]))) else Nx H3) := fun D nD =>
  lc_tup (K := K) (a := a) (xs := xs) (fun i H => Same H1 H ∧ ∃ ys, H D = some (.lst ys) ∧ ys.length = i ∧ ∀ j v, ys[j]? = some v → R j v H) ⟨same_new nD, [], upd_same, rfl, fun j v e => nomatch e⟩ (fun i H _ ⟨sm, _⟩ => sT sm hl) (fun i x H hx ⟨s1, ys, hD, hl, hR⟩ => by
    have hi := (List.getElem?_eq_some_iff.mp hx).1
    refine hs i x H hx s1 _ _ (fun v H' s2 r => ?_)
    refine ⟨ys, s2 _ _ hD, szlt (by omega), fun b o hb => ?_, ys ++ [v], upd_same, by simp [hl], fun j u e => ?_⟩
    · rw [upd_ne (ne_of_none hb nD)]
      exact s2 _ _ (s1 _ _ hb)
    · have lm := LMut.mut (ys ++ [v]) (s2 _ _ hD)
      by_cases hj : j < ys.length
      · rw [List.getElem?_append_left hj] at e
        exact st _ _ _ _ ((LMut.of s2).trans lm) (hR j u e)
      · rw [List.getElem?_append_right (by omega)] at e
        have hj' : j = i := by
          have := (List.getElem?_eq_some_iff.mp e).1
          simp at this
          omega
        subst hj'
        rw [show j - ys.length = 0 by omega] at e
        cases e
        exact st _ _ _ _ lm r) fun H ⟨s1, ys, hD, hl, hR⟩ => hd D H ys s1 hD hl hR nD
end TB
namespace TB
open PySem PySem.Spec PyProof.Rows L2
/-! ### the plain law of long parts -/
inductive K3 | times | part | rest
  deriving DecidableEq
def kS : K3 → Str
  | .times => "times"
  | .part => "part"
  | .rest => "rest"
theorem mod_lin (W x k c : Int) : (k * (x % W) + c) % W = (k * x + c) % W := by
  have e := Int.emod_add_mul_ediv x W
  have e2 : k * x + c = k * (x % W) + c + W * (k * (x / W)) := by
    conv =>
      lhs
      rw [← e]
    rw [Int.mul_add, ← Int.mul_assoc, ← Int.mul_assoc, Int.mul_comm W k]
    omega
  rw [e2, Int.add_mul_emod_self_left]
theorem half (x : Int) (l : Nat) : x / 2 ^ l = 2 * (x / 2 ^ (l + 1)) + x / 2 ^ l % 2 := by
  rw [Int.pow_succ, ← Int.ediv_ediv_of_nonneg (Int.le_of_lt (two_pos l))]
  omega
theorem low_bit (x : Int) (l : Nat) : x % 2 ^ (l + 1) / 2 ^ l = x / 2 ^ l % 2 := by
  have hp := two_pos l
  have h0 := Int.emod_nonneg x (show (2 : Int) ^ l ≠ 0 by omega)
  have h1 := Int.emod_lt_of_pos x hp
  refine (divmod_of (r := x % 2 ^ l) hp ?_ h0 h1).1
  rw [mod_add x l 1]
  rfl
def rnd (w : Nat) (k : K3) (f s o t : Int) : Int × Int := match k with
  | .times => ((2 * o + f * (t / 2 ^ (w - 1))) % 2 ^ w, 2 * t % 2 ^ w)
  | _ => if s ≤ 2 * o + t / 2 ^ (w - 1) then ((2 * o + t / 2 ^ (w - 1) - s) % 2 ^ w, (2 * t + 1) % 2 ^ w) else ((2 * o + t / 2 ^ (w - 1)) % 2 ^ w, (2 * t + 0) % 2 ^ w)
def waT (w : Nat) (f s : Int) (l : Nat) : Int × Int := (f * (s / 2 ^ l) % 2 ^ w, s * 2 ^ (w - l) % 2 ^ w)
def prt (s top : Int) (e : Nat) : Int := if 0 < s then top / s else 2 ^ e - 1
def rst (s top : Int) : Int := if 0 < s then top % s else top
def waP (w : Nat) (f s : Int) (l : Nat) : Int × Int := (rst s (f / 2 ^ l), (f * 2 ^ (w - l) + prt s (f / 2 ^ l) (w - l)) % 2 ^ w)
def wa (w : Nat) (k : K3) (f s : Int) (l : Nat) : Int × Int := match k with
  | .times => waT w f s l
  | _ => waP w f s l
theorem split_top {l e : Nat} {x p : Int} (h0 : 0 ≤ p) (h1 : p < 2 ^ e) : (x * 2 ^ e + p) % 2 ^ (l + 1 + e) = x % 2 ^ (l + 1) * 2 ^ e + p ∧ (x * 2 ^ e + p) % 2 ^ (l + 1 + e) / 2 ^ (l + e) = x / 2 ^ l % 2 := by
  have he := two_pos e
  have hl := two_pos l
  have hl1 := two_pos (l + 1)
  have f0 := Int.emod_nonneg x (show (2 : Int) ^ (l + 1) ≠ 0 by omega)
  have f1 := Int.emod_lt_of_pos x hl1
  have e1 : (x * 2 ^ e + p) % 2 ^ (l + 1 + e) = x % 2 ^ (l + 1) * 2 ^ e + p := by
    refine (divmod_of (q := x / 2 ^ (l + 1)) (two_pos _) ?_ ?_ ?_).2
    · have ex := Int.emod_add_mul_ediv x (2 ^ (l + 1))
      conv =>
        rhs
        rw [← ex]
      rw [two_add (l + 1) e, Int.add_mul, Int.mul_right_comm]
      omega
    · have := Int.mul_nonneg f0 (Int.le_of_lt he)
      omega
    · have h2 : (x % 2 ^ (l + 1) + 1) * 2 ^ e ≤ 2 ^ (l + 1) * 2 ^ e := Int.mul_le_mul_of_nonneg_right (by omega) (Int.le_of_lt he)
      rw [Int.add_mul, Int.one_mul] at h2
      rw [two_add (l + 1) e]
      omega
  refine ⟨e1, ?_⟩
  rw [e1, ← low_bit, Nat.add_comm l e, two_add e l, ← Int.ediv_ediv_of_nonneg (Int.le_of_lt he), (divmod_of (q := x % 2 ^ (l + 1)) (r := p) he (by rw [Int.mul_comm]; omega) h0 h1).1]
theorem rnd_times {w l : Nat} {f s : Int} (hl : l + 1 ≤ w) : rnd w .times f s (waT w f s (l + 1)).1 (waT w f s (l + 1)).2 = waT w f s l := by
  obtain ⟨e, rfl⟩ : ∃ e, w = l + 1 + e := ⟨w - (l + 1), by omega⟩
  have t1 := (split_top (l := l) (e := e) (x := s) (p := 0) (Int.le_refl 0) (two_pos e)).2
  rw [Int.add_zero] at t1
  have g1 : l + 1 + e - (l + 1) = e := by omega
  have g2 : l + 1 + e - l = e + 1 := by omega
  have g3 : l + 1 + e - 1 = l + e := by omega
  show ((2 * (f * (s / 2 ^ (l + 1)) % 2 ^ (l + 1 + e)) + f * (s * 2 ^ (l + 1 + e - (l + 1)) % 2 ^ (l + 1 + e) / 2 ^ (l + 1 + e - 1))) % 2 ^ (l + 1 + e), 2 * (s * 2 ^ (l + 1 + e - (l + 1)) % 2 ^ (l + 1 + e)) % 2 ^ (l + 1 + e)) = (f * (s / 2 ^ l) % 2 ^ (l + 1 + e), s * 2 ^ (l + 1 + e - l) % 2 ^ (l + 1 + e))
  rw [g1, g2, g3, t1, mod_lin]
  have a1 : 2 * (f * (s / 2 ^ (l + 1))) + f * (s / 2 ^ l % 2) = f * (s / 2 ^ l) := by
    conv =>
      rhs
      rw [half s l]
    rw [Int.mul_add, Int.mul_left_comm]
  have a2 := mod_lin (2 ^ (l + 1 + e)) (s * 2 ^ e) 2 0
  rw [Int.add_zero, Int.add_zero] at a2
  rw [a1, a2]
  congr 2
  rw [two_succ, Int.mul_left_comm]
theorem prt_in {s top : Int} {e : Nat} (h0 : 0 ≤ top) (h1 : top < 2 ^ e) (s0 : 0 ≤ s) : 0 ≤ prt s top e ∧ prt s top e < 2 ^ e := by
  have he := two_pos e
  unfold prt
  split
  · rename_i h
    exact ⟨Int.ediv_nonneg h0 s0, Int.lt_of_le_of_lt (Int.ediv_le_self s h0) h1⟩
  · omega
theorem top_lt {l e : Nat} {f : Int} (f0 : 0 ≤ f) (f1 : f < 2 ^ (l + e)) : 0 ≤ f / 2 ^ l ∧ f / 2 ^ l < 2 ^ e := by
  have hl := two_pos l
  refine ⟨Int.ediv_nonneg f0 (Int.le_of_lt hl), ?_⟩
  rw [Int.ediv_lt_iff_lt_mul hl, Int.mul_comm, ← two_add]
  exact f1
theorem rst_in {s top : Int} (h0 : 0 ≤ top) : 0 ≤ rst s top ∧ rst s top ≤ top := by
  unfold rst
  split
  · rename_i h
    have d := Int.emod_add_mul_ediv top s
    have := Int.mul_nonneg (Int.le_of_lt h) (Int.ediv_nonneg h0 (Int.le_of_lt h))
    exact ⟨Int.emod_nonneg _ (by omega), by omega⟩
  · omega
theorem rnd_part {w l : Nat} {f s : Int} (k : K3) (hk : k ≠ .times) (hl : l + 1 ≤ w) (f0 : 0 ≤ f) (f1 : f < 2 ^ w) (s0 : 0 ≤ s) (s1 : s < 2 ^ w) : rnd w k f s (waP w f s (l + 1)).1 (waP w f s (l + 1)).2 = waP w f s l := by
  obtain ⟨e, rfl⟩ : ∃ e, w = l + 1 + e := ⟨w - (l + 1), by omega⟩
  have g1 : l + 1 + e - (l + 1) = e := by omega
  have g2 : l + 1 + e - l = e + 1 := by omega
  have g3 : l + 1 + e - 1 = l + e := by omega
  have ht := top_lt (l := l + 1) (e := e) f0 f1
  have ht' := top_lt (l := l) (e := e + 1) f0 (by rw [show l + (e + 1) = l + 1 + e by omega]; exact f1)
  have hp := prt_in (s := s) ht.1 ht.2 s0
  have t1 := (split_top (l := l) (e := e) (x := f) hp.1 hp.2).2
  have hh := half f l
  have hb : f / 2 ^ l % 2 = 0 ∨ f / 2 ^ l % 2 = 1 := by omega
  have hr : ∀ o t, rnd (l + 1 + e) k f s o t = if s ≤ 2 * o + t / 2 ^ (l + 1 + e - 1) then ((2 * o + t / 2 ^ (l + 1 + e - 1) - s) % 2 ^ (l + 1 + e), (2 * t + 1) % 2 ^ (l + 1 + e)) else ((2 * o + t / 2 ^ (l + 1 + e - 1)) % 2 ^ (l + 1 + e), (2 * t + 0) % 2 ^ (l + 1 + e)) := fun o t => by
    cases k with
    | times => exact absurd rfl hk
    | part => rfl
    | rest => rfl
  have hpow := two_succ e
  have hW : (2 : Int) ^ (e + 1) ≤ 2 ^ (l + 1 + e) := two_mono (by omega)
  rw [hr]
  show (if s ≤ 2 * rst s (f / 2 ^ (l + 1)) + (f * 2 ^ (l + 1 + e - (l + 1)) + prt s (f / 2 ^ (l + 1)) (l + 1 + e - (l + 1))) % 2 ^ (l + 1 + e) / 2 ^ (l + 1 + e - 1) then
      ((2 * rst s (f / 2 ^ (l + 1)) + (f * 2 ^ (l + 1 + e - (l + 1)) + prt s (f / 2 ^ (l + 1)) (l + 1 + e - (l + 1))) % 2 ^ (l + 1 + e) / 2 ^ (l + 1 + e - 1) - s) % 2 ^ (l + 1 + e), (2 * ((f * 2 ^ (l + 1 + e - (l + 1)) + prt s (f / 2 ^ (l + 1)) (l + 1 + e - (l + 1))) % 2 ^ (l + 1 + e)) + 1) % 2 ^ (l + 1 + e))
    else ((2 * rst s (f / 2 ^ (l + 1)) + (f * 2 ^ (l + 1 + e - (l + 1)) + prt s (f / 2 ^ (l + 1)) (l + 1 + e - (l + 1))) % 2 ^ (l + 1 + e) / 2 ^ (l + 1 + e - 1)) % 2 ^ (l + 1 + e), (2 * ((f * 2 ^ (l + 1 + e - (l + 1)) + prt s (f / 2 ^ (l + 1)) (l + 1 + e - (l + 1))) % 2 ^ (l + 1 + e)) + 0) % 2 ^ (l + 1 + e)))
    = (rst s (f / 2 ^ l), (f * 2 ^ (l + 1 + e - l) + prt s (f / 2 ^ l) (l + 1 + e - l)) % 2 ^ (l + 1 + e))
  rw [g1, g2, g3, t1, mod_lin, mod_lin]
  have m2 : ∀ c : Int, 2 * (f * 2 ^ e + prt s (f / 2 ^ (l + 1)) e) + c = f * 2 ^ (e + 1) + (2 * prt s (f / 2 ^ (l + 1)) e + c) := fun c => by
    rw [two_succ e, Int.mul_add, Int.mul_left_comm]
    omega
  rw [m2, m2]
  generalize hT : f / 2 ^ (l + 1) = T at *
  generalize hT' : f / 2 ^ l = T' at *
  by_cases hs : 0 < s
  · have d := Int.emod_add_mul_ediv T s
    have r0 := Int.emod_nonneg T (show s ≠ 0 by omega)
    have r1 := Int.emod_lt_of_pos T hs
    have ep : prt s T e = T / s := if_pos hs
    have er : rst s T = T % s := if_pos hs
    have ep' : prt s T' (e + 1) = T' / s := if_pos hs
    have er' : rst s T' = T' % s := if_pos hs
    rw [ep, er, ep', er']
    generalize T / s = q at *
    generalize T % s = r at *
    by_cases hg : s ≤ 2 * r + T' % 2
    · have dm := divmod_of (a := T') (q := 2 * q + 1) (r := 2 * r + T' % 2 - s) hs (by rw [Int.mul_add, Int.mul_one, Int.mul_left_comm]; omega) (by omega) (by omega)
      rw [if_pos hg, dm.1, dm.2, Int.emod_eq_of_lt (by omega) (by omega)]
    · have dm := divmod_of (a := T') (q := 2 * q) (r := 2 * r + T' % 2) hs (by rw [Int.mul_left_comm]; omega) (by omega) (by omega)
      rw [if_neg hg, dm.1, dm.2, Int.emod_eq_of_lt (by omega) (by omega), Int.add_zero]
  · have hs0 : s = 0 := by omega
    subst hs0
    have ep : prt 0 T e = 2 ^ e - 1 := if_neg hs
    have er : rst 0 T = T := if_neg hs
    have ep' : prt 0 T' (e + 1) = 2 ^ (e + 1) - 1 := if_neg hs
    have er' : rst 0 T' = T' := if_neg hs
    rw [ep, er, ep', er', if_pos (by omega), Int.emod_eq_of_lt (by omega) (by omega)]
    congr 2
    · omega
    · omega
theorem rnd_wa {w l : Nat} {f s : Int} (k : K3) (hl : l + 1 ≤ w) (f0 : 0 ≤ f) (f1 : f < 2 ^ w) (s0 : 0 ≤ s) (s1 : s < 2 ^ w) : rnd w k f s (wa w k f s (l + 1)).1 (wa w k f s (l + 1)).2 = wa w k f s l := by
  cases k with
  | times => exact rnd_times hl
  | part => exact rnd_part .part (by decide) hl f0 f1 s0 s1
  | rest => exact rnd_part .rest (by decide) hl f0 f1 s0 s1
end TB
namespace TB
open PySem PySem.Spec PyProof.Rows L2
def topS (i : Nat) : Stmt := PySem.Challenge.pw_truebeat_k26_whole_long_parts_beat_by_be.main.body.getD i (.Pass ⟨0, 0, 0, 0⟩)
abbrev s_is_integer : Stmt := topS 6
theorem sc_is_integer : FnScope ["value"] ["value"] (defScope s_is_integer) := ⟨rfl, rfl, rfl, by decide +kernel, rfl, by decide +kernel, by decide +kernel⟩
abbrev s_is_within : Stmt := topS 7
theorem sc_is_within : FnScope ["value", "least", "most"] ["value", "least", "most"] (defScope s_is_within) := ⟨rfl, rfl, rfl, by decide +kernel, rfl, by decide +kernel, by decide +kernel⟩
abbrev s_is_word_in : Stmt := topS 9
theorem sc_is_word_in : FnScope ["width", "value"] ["width", "value"] (defScope s_is_word_in) := ⟨rfl, rfl, rfl, by decide +kernel, rfl, by decide +kernel, by decide +kernel⟩
abbrev s_begun : Stmt := topS 20
theorem sc_begun : FnScope ["width", "kind", "first", "second"] ["width", "kind", "first", "second"] (defScope s_begun) := ⟨rfl, rfl, rfl, by decide +kernel, rfl, by decide +kernel, by decide +kernel⟩
abbrev s_round_times : Stmt := topS 21
theorem sc_round_times : FnScope ["width", "first", "one", "two", "top"] ["width", "first", "one", "two"] (defScope s_round_times) := ⟨rfl, rfl, rfl, by decide +kernel, rfl, by decide +kernel, by decide +kernel⟩
abbrev s_round_part : Stmt := topS 22
theorem sc_round_part : FnScope ["width", "second", "one", "two", "total", "is_great", "rest"] ["width", "second", "one", "two"] (defScope s_round_part) := ⟨rfl, rfl, rfl, by decide +kernel, rfl, by decide +kernel, by decide +kernel⟩
abbrev s_behind_rounds : Stmt := topS 23
theorem sc_behind_rounds : FnScope ["width", "step", "state", "kind", "first", "second", "left", "one", "two", "many", "turn"] ["width", "step", "state"] (defScope s_behind_rounds) := ⟨rfl, rfl, rfl, by decide +kernel, rfl, by decide +kernel, by decide +kernel⟩
abbrev s_behind_beat : Stmt := topS 24
theorem sc_behind_beat : FnScope ["width", "step", "state", "ask"] ["width", "step", "state", "ask"] (defScope s_behind_beat) := ⟨rfl, rfl, rfl, by decide +kernel, rfl, by decide +kernel, by decide +kernel⟩
abbrev s_words_after : Stmt := topS 25
theorem sc_words_after : FnScope ["width", "kind", "first", "second", "left", "done", "whole", "top", "part", "rest"] ["width", "kind", "first", "second", "left"] (defScope s_words_after) := ⟨rfl, rfl, rfl, by decide +kernel, rfl, by decide +kernel, by decide +kernel⟩
abbrev s_is_begin : Stmt := topS 26
theorem sc_is_begin : FnScope ["width", "value"] ["width", "value"] (defScope s_is_begin) := ⟨rfl, rfl, rfl, by decide +kernel, rfl, by decide +kernel, by decide +kernel⟩
abbrev s_is_ask : Stmt := topS 27
theorem sc_is_ask : FnScope ["width", "value"] ["width", "value"] (defScope s_is_ask) := ⟨rfl, rfl, rfl, by decide +kernel, rfl, by decide +kernel, by decide +kernel⟩
abbrev s_is_state : Stmt := topS 28
theorem sc_is_state : FnScope ["width", "step", "value", "kind", "first", "second", "left", "one", "two", "word"] ["width", "step", "value"] (defScope s_is_state) := ⟨rfl, rfl, rfl, by decide +kernel, rfl, by decide +kernel, by decide +kernel⟩
abbrev s_require_long : Stmt := topS 29
theorem sc_require_long : FnScope ["width", "step"] ["width", "step"] (defScope s_require_long) := ⟨rfl, rfl, rfl, by decide +kernel, rfl, by decide +kernel, by decide +kernel⟩
abbrev s_is_long : Stmt := topS 30
theorem sc_is_long : FnScope ["width", "step", "value"] ["width", "step", "value"] (defScope s_is_long) := ⟨rfl, rfl, rfl, by decide +kernel, rfl, by decide +kernel, by decide +kernel⟩
abbrev s_long_beat : Stmt := topS 31
theorem sc_long_beat : FnScope ["width", "step", "state", "ask"] ["width", "step", "state", "ask"] (defScope s_long_beat) := ⟨rfl, rfl, rfl, by decide +kernel, rfl, by decide +kernel, by decide +kernel⟩
abbrev s_long_run : Stmt := topS 32
theorem sc_long_run : FnScope ["width", "step", "asks", "ask", "state", "found", "told"] ["width", "step", "asks"] (defScope s_long_run) := ⟨rfl, rfl, rfl, by decide +kernel, rfl, by decide +kernel, by decide +kernel⟩
abbrev s__law_dice : Stmt := topS 34
theorem sc__law_dice : FnScope ["_law_script", "_law_at", "_law_cell", "_law_great", "_law_left", "_law_mixed"] ["_law_script", "_law_at"] (defScope s__law_dice) := ⟨rfl, rfl, rfl, by decide +kernel, rfl, by decide +kernel, by decide +kernel⟩
abbrev s__law_roll : Stmt := topS 35
theorem sc__law_roll : FnScope ["_law_dice_here", "_law_total", "_law_size", "_law_drawn", "_law_one", "_law_two"] ["_law_dice_here", "_law_total"] (defScope s__law_roll) := ⟨rfl, rfl, rfl, by decide +kernel, rfl, by decide +kernel, by decide +kernel⟩
abbrev s__law_one_of : Stmt := topS 36
theorem sc__law_one_of : FnScope ["_law_dice_here", "_law_items"] ["_law_dice_here", "_law_items"] (defScope s__law_one_of) := ⟨rfl, rfl, rfl, by decide +kernel, rfl, by decide +kernel, by decide +kernel⟩
abbrev s__law_two_to : Stmt := topS 37
theorem sc__law_two_to : FnScope ["_law_bits", "_law_found", "_law_turn"] ["_law_bits"] (defScope s__law_two_to) := ⟨rfl, rfl, rfl, by decide +kernel, rfl, by decide +kernel, by decide +kernel⟩
abbrev s__law_round : Stmt := topS 38
theorem sc__law_round : FnScope ["_law_width", "_law_state", "_law_kind", "_law_first", "_law_second", "_law_left", "_law_one", "_law_two", "_law_full", "_law_top", "_law_total"] ["_law_width", "_law_state"] (defScope s__law_round) := ⟨rfl, rfl, rfl, by decide +kernel, rfl, by decide +kernel, by decide +kernel⟩
abbrev s__law_beat : Stmt := topS 39
theorem sc__law_beat : FnScope ["_law_width", "_law_step", "_law_state", "_law_ask", "_law_idle", "_law_turn"] ["_law_width", "_law_step", "_law_state", "_law_ask"] (defScope s__law_beat) := ⟨rfl, rfl, rfl, by decide +kernel, rfl, by decide +kernel, by decide +kernel⟩
abbrev s__law_result : Stmt := topS 40
theorem sc__law_result : FnScope ["_law_width", "_law_kind", "_law_first", "_law_second", "_law_full"] ["_law_width", "_law_kind", "_law_first", "_law_second"] (defScope s__law_result) := ⟨rfl, rfl, rfl, by decide +kernel, rfl, by decide +kernel, by decide +kernel⟩
abbrev s__law_begin_drawn : Stmt := topS 41
theorem sc__law_begin_drawn : FnScope ["_law_dice_here", "_law_width", "_law_full", "_law_first", "_law_second"] ["_law_dice_here", "_law_width"] (defScope s__law_begin_drawn) := ⟨rfl, rfl, rfl, by decide +kernel, rfl, by decide +kernel, by decide +kernel⟩
abbrev s__law_asks_drawn : Stmt := topS 42
theorem sc__law_asks_drawn : FnScope ["_law_dice_here", "_law_width", "_law_step", "_law_many", "_law_found", "_law_way"] ["_law_dice_here", "_law_width", "_law_step", "_law_many"] (defScope s__law_asks_drawn) := ⟨rfl, rfl, rfl, by decide +kernel, rfl, by decide +kernel, by decide +kernel⟩
abbrev s__law_formula : Stmt := topS 43
theorem sc__law_formula : FnScope ["_law_width", "_law_state", "_law_kind", "_law_first", "_law_second", "_law_left", "_law_full", "_law_done", "_law_top", "_law_part"] ["_law_width", "_law_state"] (defScope s__law_formula) := ⟨rfl, rfl, rfl, by decide +kernel, rfl, by decide +kernel, by decide +kernel⟩
abbrev s__law_told_results : Stmt := topS 44
theorem sc__law_told_results : FnScope ["_law_width", "_law_step", "_law_asks", "_law_found", "_law_many", "_law_at", "_law_ask", "_law_later", "_law_one"] ["_law_width", "_law_step", "_law_asks"] (defScope s__law_told_results) := ⟨rfl, rfl, rfl, by decide +kernel, rfl, by decide +kernel, by decide +kernel⟩
abbrev s__law_right : Stmt := topS 45
theorem sc__law_right : FnScope ["_law_dice_here", "_law_width", "_law_step", "_law_asks", "_law_state", "_law_told", "_law_ask", "_law_due", "_law_here"] ["_law_dice_here"] (defScope s__law_right) := ⟨rfl, rfl, rfl, by decide +kernel, rfl, by decide +kernel, by decide +kernel⟩
abbrev s_law : Stmt := topS 46
theorem sc_law : FnScope ["_law_script", "_law_at", "_law_dice_here", "_law_turn", "_law_begin", "_law_told"] ["_law_script"] (defScope s_law) := ⟨rfl, rfl, rfl, by decide +kernel, rfl, by decide +kernel, by decide +kernel⟩
structure Txt (K : PySem.W.Frag) (mg : Str → Option Value) where
  is_integer : DefAt K mg "is_integer" s_is_integer ["value"]
  is_within : DefAt K mg "is_within" s_is_within ["value", "least", "most"]
  is_word_in : DefAt K mg "is_word_in" s_is_word_in ["width", "value"]
  begun : DefAt K mg "begun" s_begun ["width", "kind", "first", "second"]
  round_times : DefAt K mg "round_times" s_round_times ["width", "first", "one", "two"]
  round_part : DefAt K mg "round_part" s_round_part ["width", "second", "one", "two"]
  behind_rounds : DefAt K mg "behind_rounds" s_behind_rounds ["width", "step", "state"]
  behind_beat : DefAt K mg "behind_beat" s_behind_beat ["width", "step", "state", "ask"]
  words_after : DefAt K mg "words_after" s_words_after ["width", "kind", "first", "second", "left"]
  is_begin : DefAt K mg "is_begin" s_is_begin ["width", "value"]
  is_ask : DefAt K mg "is_ask" s_is_ask ["width", "value"]
  is_state : DefAt K mg "is_state" s_is_state ["width", "step", "value"]
  require_long : DefAt K mg "require_long" s_require_long ["width", "step"]
  is_long : DefAt K mg "is_long" s_is_long ["width", "step", "value"]
  long_beat : DefAt K mg "long_beat" s_long_beat ["width", "step", "state", "ask"]
  long_run : DefAt K mg "long_run" s_long_run ["width", "step", "asks"]
  _law_dice : DefAt K mg "_law_dice" s__law_dice ["_law_script", "_law_at"]
  _law_roll : DefAt K mg "_law_roll" s__law_roll ["_law_dice_here", "_law_total"]
  _law_one_of : DefAt K mg "_law_one_of" s__law_one_of ["_law_dice_here", "_law_items"]
  _law_two_to : DefAt K mg "_law_two_to" s__law_two_to ["_law_bits"]
  _law_round : DefAt K mg "_law_round" s__law_round ["_law_width", "_law_state"]
  _law_beat : DefAt K mg "_law_beat" s__law_beat ["_law_width", "_law_step", "_law_state", "_law_ask"]
  _law_result : DefAt K mg "_law_result" s__law_result ["_law_width", "_law_kind", "_law_first", "_law_second"]
  _law_begin_drawn : DefAt K mg "_law_begin_drawn" s__law_begin_drawn ["_law_dice_here", "_law_width"]
  _law_asks_drawn : DefAt K mg "_law_asks_drawn" s__law_asks_drawn ["_law_dice_here", "_law_width", "_law_step", "_law_many"]
  _law_formula : DefAt K mg "_law_formula" s__law_formula ["_law_width", "_law_state"]
  _law_told_results : DefAt K mg "_law_told_results" s__law_told_results ["_law_width", "_law_step", "_law_asks"]
  _law_right : DefAt K mg "_law_right" s__law_right ["_law_dice_here"]
  law : DefAt K mg "law" s_law ["_law_script"]
  KINDS : ConT K mg "KINDS" [(.str "times"), (.str "part"), (.str "rest")]
  IDLE : ConT K mg "IDLE" [(.str "none"), (.int 0), (.int 0), (.int 0), (.int 0), (.int 0)]
  BEGIN : ConT K mg "BEGIN" [(.str "begin")]
  STOP : ConT K mg "STOP" [(.str "stop")]
  MAX_LONG : ConAt mg "MAX_LONG" (.int 16)
  MAX_STEP : ConAt mg "MAX_STEP" (.int 4)
  MAX_ASKS : ConAt mg "MAX_ASKS" (.int 400)
  STATE_SIZE : ConAt mg "STATE_SIZE" (.int 6)
  BEGIN_SIZE : ConAt mg "BEGIN_SIZE" (.int 4)
  z_isinstance : mg "isinstance" = none
  z_int : mg "int" = none
  z_bool : mg "bool" = none
  z_min : mg "min" = none
  z_range : mg "range" = none
  z_divmod : mg "divmod" = none
  z_tuple : mg "tuple" = none
  z_len : mg "len" = none
  z_str : mg "str" = none
  z_all : mg "all" = none
  z_abs : mg "abs" = none
  z_enumerate : mg "enumerate" = none
  z_max : mg "max" = none
section
variable {P : Program} {w : World} {K : PySem.W.Frag} {mg : Str → Option Value} {base : Heap}
def sp_is_integer_g (K : PySem.W.Frag) : Sp := fun vs H Q _ => ∃ (v : V) (kd : String), vs = [v] ∧ Knd K H v kd ∧ Q (.bl (isIntV v)) H
theorem isK_int : (kinds.all fun T => (isK T "int" && !isK T "bool") == (T == "int")) = true := by decide +kernel
theorem ok_is_integer_g (T : Txt K mg) : FnOk P w K mg base CX0 1 T.is_integer.f T.is_integer.fd ["value"] (sp_is_integer_g K) := by
  refine T.is_integer.F.ok sc_is_integer (fun vs H Q E h => ?_) (fun cdv A outer s H vs Q E hr h => ?_)
  · obtain ⟨v, kd, rfl, _⟩ := h
    rfl
  · obtain ⟨v, kd, rfl, hk, q⟩ := h
    have e := beq_iff_eq.mp (List.all_eq_true.mp isK_int kd hk.2)
    rw [hk.int_iff] at e
    rw [← e] at q
    refine ⟨_, (pss_one (ps_ret (pe_and (pe_callB call_isiK (by rfl) T.z_isinstance (by decide +kernel) (pa_cons (pv 0) (pa_cons (pe_bltn (v := .ty "int") (by rfl) T.z_int (by decide +kernel) rfl) pa_nil))) (pe_one (pe_not (pe_callB call_isiK (by rfl) T.z_isinstance (by decide +kernel) (pa_cons (pv 0) (pa_cons (pe_bltn (v := .ty "bool") (by rfl) T.z_bool (by decide +kernel) rfl) pa_nil)))))))), ?_⟩
    refine ⟨_, rfl, v, kd, "int", rfl, hk, by decide, _, rfl, ite3 (fun h => ?_) (fun h => ?_)⟩
    · rw [h, Bool.true_and] at q
      exact ⟨_, rfl, v, kd, "bool", rfl, hk, by decide, _, rfl, q⟩
    · rw [h, Bool.false_and] at q
      exact q
def sp_is_integer (K : PySem.W.Frag) : Sp := fun vs H Q _ => ∃ i : Int, vs = [.int i] ∧ Q (.bl true) H
theorem ok_is_integer (T : Txt K mg) : FnOk P w K mg base CX0 1 T.is_integer.f T.is_integer.fd ["value"] (sp_is_integer K) := (ok_is_integer_g T).imp fun vs H Q E ⟨i, e, q⟩ => ⟨.int i, "int", e, .i i, q⟩
def sp_is_within_g (K : PySem.W.Frag) : Sp := fun vs H Q _ => ∃ (v : V) (kd : String) (lo hi : Int), vs = [v, .int lo, .int hi] ∧ Knd K H v kd ∧ Q (.bl (withinV v lo hi)) H
theorem ok_is_within_g (T : Txt K mg) : FnOk P w K mg base CX0 2 T.is_within.f T.is_within.fd ["value", "least", "most"] (sp_is_within_g K) := by
  refine T.is_within.F.ok sc_is_within (fun vs H Q E h => ?_) (fun cdv A outer s H vs Q E hr h => ?_)
  · obtain ⟨v, kd, lo, hi, rfl, _⟩ := h
    rfl
  · obtain ⟨v, kd, lo, hi, rfl, hk, q⟩ := h
    refine ⟨_, (pss_one (ps_ret (pe_and (pe_call (ok_is_integer_g T) (hr.mono (by decide)) (by rfl) T.is_integer.g T.is_integer.F.kp T.is_integer.b .nil pass0 (pa_cons (pv 0) pa_nil)) (pe_one (pe_chain op_le op_le (pv 1) (pv 0) (pv 2)))))), ?_⟩
    refine ⟨_, rfl, v, kd, rfl, hk, _, rfl, ?_⟩
    cases v with
    | int i =>
      refine iteT ⟨_, rfl, _, rfl, lo, i, rfl, rfl, _, rfl, ?_⟩
      have q : Q (.bl (decide (lo ≤ i) && decide (i ≤ hi))) H := q
      cases e : decide (lo ≤ i) with
      | true =>
        rw [e] at q
        exact iteT ⟨_, rfl, i, hi, rfl, rfl, q⟩
      | false =>
        rw [e] at q
        exact iteF q
    | _ => exact iteF q
def sp_is_within (K : PySem.W.Frag) : Sp := fun vs H Q _ => ∃ i lo hi : Int, vs = [.int i, .int lo, .int hi] ∧ Q (.bl (decide (lo ≤ i) && decide (i ≤ hi))) H
theorem ok_is_within (T : Txt K mg) : FnOk P w K mg base CX0 2 T.is_within.f T.is_within.fd ["value", "least", "most"] (sp_is_within K) := (ok_is_within_g T).imp fun vs H Q E ⟨i, lo, hi, e, q⟩ => ⟨.int i, "int", lo, hi, e, .i i, q⟩
def sp_is_word_in_g (K : PySem.W.Frag) : Sp := fun vs H Q _ => ∃ (n : Nat) (v : V) (kd : String), vs = [.int n, v] ∧ n ≤ 1000 ∧ Knd K H v kd ∧ Q (.bl (withinV v 0 (2 ^ n - 1))) H
theorem ok_is_word_in_g (T : Txt K mg) : FnOk P w K mg base CX0 3 T.is_word_in.f T.is_word_in.fd ["width", "value"] (sp_is_word_in_g K) := by
  refine T.is_word_in.F.ok sc_is_word_in (fun vs H Q E h => ?_) (fun cdv A outer s H vs Q E hr h => ?_)
  · obtain ⟨n, v, kd, rfl, _⟩ := h
    rfl
  · obtain ⟨n, v, kd, rfl, hn, hk, q⟩ := h
    refine ⟨_, (pss_one (ps_ret (pe_call (ok_is_within_g T) (hr.mono (by decide)) (by rfl) T.is_within.g T.is_within.F.kp T.is_within.b .nil pass0 (pa_cons (pv 1) (pa_cons pe_int (pa_cons (pe_op op_sub (pe_op op_oneShl pe_int (pv 0)) pe_int) pa_nil)))))), ?_⟩
    exact ⟨_, rfl, _, rfl, n, rfl, rfl, by omega, _, _, rfl, rfl, v, kd, 0, _, rfl, hk, q⟩
def sp_is_word_in (K : PySem.W.Frag) : Sp := fun vs H Q _ => ∃ (n : Nat) (x : Int), vs = [.int n, .int x] ∧ n ≤ 1000 ∧ Q (.bl (decide (0 ≤ x) && decide (x ≤ 2 ^ n - 1))) H
theorem ok_is_word_in (T : Txt K mg) : FnOk P w K mg base CX0 3 T.is_word_in.f T.is_word_in.fd ["width", "value"] (sp_is_word_in K) := (ok_is_word_in_g T).imp fun vs H Q E ⟨n, x, e, hn, q⟩ => ⟨n, .int x, "int", e, hn, .i x, q⟩
inductive LState
  | idle
  | run (k : K3) (f s : Int) (l : Nat) (o t : Int)
def lsV : LState → List V
  | .idle => [.str "none", .int 0, .int 0, .int 0, .int 0, .int 0]
  | .run k f s l o t => [.str (kS k), .int f, .int s, .int l, .int o, .int t]
def lsD : LState → PyData
  | .idle => .tuple [.str "none", .int 0, .int 0, .int 0, .int 0, .int 0]
  | .run k f s l o t => .tuple [.str (kS k), .int f, .int s, .int l, .int o, .int t]
theorem ls_dp {H : Hp} {a : Addr} {st : LState} (h : SqT K H a (lsV st)) : Dp K H (.ref a) (lsD st) := by
  cases st with
  | idle => exact .tup h (.cons (.str _) (.cons (.int _) (.cons (.int _) (.cons (.int _) (.cons (.int _) (.cons (.int _) .nil))))))
  | run => exact .tup h (.cons (.str _) (.cons (.int _) (.cons (.int _) (.cons (.int _) (.cons (.int _) (.cons (.int _) .nil))))))
theorem OkD.str {n : Nat} (x : Str) (h : (PyData.str x).canLay0 = true := by decide +kernel) : OkD n (.str x) := ⟨h, Nat.zero_le _⟩
theorem ls_ok (st : LState) : OkD 1 (lsD st) := by
  cases st with
  | idle =>
    refine .tup fun d hd => ?_
    simp only [List.mem_cons, List.not_mem_nil, or_false] at hd
    rcases hd with rfl | rfl | rfl | rfl | rfl | rfl
    · exact .str _
    all_goals exact .int _
  | run k =>
    refine .tup fun d hd => ?_
    simp only [List.mem_cons, List.not_mem_nil, or_false] at hd
    rcases hd with rfl | rfl | rfl | rfl | rfl | rfl
    · cases k <;> exact .str _
    all_goals exact .int _
theorem ls_sh (st : LState) : SeqAt.shaped (lsD st) = true := (ls_ok st).sh
def begI (w : Nat) (k : K3) (f s : Int) : LState := .run k f s w 0 (match k with | .times => s | _ => f)
theorem kS_times {k : K3} : decide (V.str (kS k) = V.str "times") = decide (k = .times) := by cases k <;> decide
theorem kS_part {k : K3} : decide (V.str (kS k) = V.str "part") = decide (k = .part) := by cases k <;> decide
def sp_begun (K : PySem.W.Frag) : Sp := fun vs H Q _ => ∃ (w : Nat) (k : K3) (f s : Int), vs = [.int w, .str (kS k), .int f, .int s] ∧ NewT K (lsV (begI w k f s)) H Q
theorem ok_begun (T : Txt K mg) : FnOk P w K mg base CX0 1 T.begun.f T.begun.fd ["width", "kind", "first", "second"] (sp_begun K) := by
  refine T.begun.F.ok sc_begun (fun vs H Q E h => ?_) (fun cdv A outer s H vs Q E hr h => ?_)
  · obtain ⟨w, k, f, s, rfl, _⟩ := h
    rfl
  · obtain ⟨w, k, f, s', rfl, q⟩ := h
    refine ⟨_, (pss_one (ps_ret (pe_tupA (pa_cons (pv 1) (pa_cons (pv 2) (pa_cons (pv 3) (pa_cons (pv 0) (pa_cons pe_int (pa_cons (pe_ifExp (pt_cmpR op_eq (pv 1) pe_str (nomark _)) (pv 3) (pv 2)) pa_nil))))))))), ?_⟩
    cases k with
    | times => exact ⟨_, rfl, _, rfl, _, rfl, _, rfl, _, rfl, rfl, true, congrArg V.bl (decide_eq_true rfl), iteT ⟨_, rfl, sz, q⟩⟩
    | part => exact ⟨_, rfl, _, rfl, _, rfl, _, rfl, _, rfl, rfl, false, congrArg V.bl (decide_eq_false (by decide)), iteF ⟨_, rfl, sz, q⟩⟩
    | rest => exact ⟨_, rfl, _, rfl, _, rfl, _, rfl, _, rfl, rfl, false, congrArg V.bl (decide_eq_false (by decide)), iteF ⟨_, rfl, sz, q⟩⟩
def sp_round_times (K : PySem.W.Frag) : Sp := fun vs H Q _ => ∃ (w : Nat) (f o t : Int), vs = [.int w, .int f, .int o, .int t] ∧ 1 ≤ w ∧ w ≤ 16 ∧ 0 ≤ f ∧ f < 2 ^ w ∧ NewT K [.int (rnd w .times f 0 o t).1, .int (rnd w .times f 0 o t).2] H Q
theorem ok_round_times (T : Txt K mg) : FnOk P w K mg base CX0 1 T.round_times.f T.round_times.fd ["width", "first", "one", "two"] (sp_round_times K) := by
  refine T.round_times.F.ok sc_round_times (fun vs H Q E h => ?_) (fun cdv A outer s H vs Q E hr h => ?_)
  · obtain ⟨w, f, o, t, rfl, _⟩ := h
    rfl
  · obtain ⟨w, f, o, t, rfl, w1, w2, f0, f1, q⟩ := h
    have hb : (2 : Int) ^ w ≤ 2 ^ 16 := two_mono w2
    refine ⟨_, (pss_cons (ps_set (i := 4) sc_round_times.nd rfl (.inl rfl) (pe_op op_shrN (pv 3) (pe_op op_sub (pv 0) pe_int))) 
      (pss_one (ps_ret (pe_tupA (pa_cons (pe_op op_mod (pe_op op_add (pe_op op_mul pe_int (pv 2)) (pe_op op_mul (pv 1) (pv 4))) (pe_op op_oneShl pe_int (pv 0))) (pa_cons (pe_op op_mod (pe_op op_mul pe_int (pv 3)) (pe_op op_oneShl pe_int (pv 0))) pa_nil)))))), ?_⟩
    refine ⟨_, rfl, _, rfl, _, _, rfl, rfl, t, w - 1, rfl, by rw [Int.natCast_sub w1]; rfl, ?_⟩
    refine ⟨_, rfl, _, _, rfl, rfl, cmulL, _, rfl, _, rfl, _, _, rfl, rfl, .inl ⟨by omega, by omega⟩, _, _, rfl, rfl, _, rfl, w, rfl, rfl, by omega, _, _, rfl, rfl, two_pos w, ?_⟩
    exact ⟨_, rfl, _, _, rfl, rfl, cmulL, _, rfl, w, rfl, rfl, by omega, _, _, rfl, rfl, two_pos w, sz, q⟩
def sp_round_part (K : PySem.W.Frag) : Sp := fun vs H Q _ => ∃ (w : Nat) (s o t : Int), vs = [.int w, .int s, .int o, .int t] ∧ 1 ≤ w ∧ w ≤ 16 ∧ NewT K [.int (rnd w .part 0 s o t).1, .int (rnd w .part 0 s o t).2] H Q
theorem ok_round_part (T : Txt K mg) : FnOk P w K mg base CX0 1 T.round_part.f T.round_part.fd ["width", "second", "one", "two"] (sp_round_part K) := by
  refine T.round_part.F.ok sc_round_part (fun vs H Q E h => ?_) (fun cdv A outer s H vs Q E hr h => ?_)
  · obtain ⟨w, s', o, t, rfl, _⟩ := h
    rfl
  · obtain ⟨w, s', o, t, rfl, w1, w2, q⟩ := h
    refine ⟨_, (pss_cons (ps_set (i := 4) sc_round_part.nd rfl (.inl rfl) (pe_op op_add (pe_op op_mul pe_int (pv 2)) (pe_op op_shrN (pv 3) (pe_op op_sub (pv 0) pe_int)))) 
      (pss_cons (ps_set (i := 5) sc_round_part.nd rfl (.inl rfl) (pe_cmpR op_ge (pv 4) (pv 1) (nomark _))) 
      (pss_cons (ps_set (i := 6) sc_round_part.nd rfl (.inl rfl) (pe_ifExp (pt_val (pv 5)) (pe_op op_sub (pv 4) (pv 1)) (pv 4))) 
      (pss_one (ps_ret (pe_tupA (pa_cons (pe_op op_mod (pv 6) (pe_op op_oneShl pe_int (pv 0))) (pa_cons (pe_op op_mod (pe_op op_add (pe_op op_mul pe_int (pv 3)) (pe_callTy call_int1 (by rfl) T.z_int (by decide +kernel) (pa_cons (pv 5) pa_nil))) (pe_op op_oneShl pe_int (pv 0))) pa_nil)))))))), ?_⟩
    refine ⟨_, rfl, _, _, rfl, rfl, cmulL, _, rfl, _, rfl, _, _, rfl, rfl, t, w - 1, rfl, by rw [Int.natCast_sub w1]; rfl, _, _, rfl, rfl, ?_⟩
    refine ⟨_, rfl, _, rfl, _, _, rfl, rfl, ?_⟩
    have hw := two_pos w
    have er : rnd w .part 0 s' o t = if s' ≤ 2 * o + t / 2 ^ (w - 1) then ((2 * o + t / 2 ^ (w - 1) - s') % 2 ^ w, (2 * t + 1) % 2 ^ w) else ((2 * o + t / 2 ^ (w - 1)) % 2 ^ w, (2 * t + 0) % 2 ^ w) := rfl
    rw [er] at q
    by_cases hg : s' ≤ 2 * o + t / 2 ^ (w - 1)
    · rw [if_pos hg] at q
      refine ⟨_, rfl, true, congrArg V.bl (decide_eq_true hg), iteT ?_⟩
      refine ⟨_, rfl, _, rfl, _, _, rfl, rfl, ?_⟩
      refine ⟨_, rfl, _, rfl, w, rfl, rfl, by omega, _, _, rfl, rfl, hw, _, rfl, _, _, rfl, rfl, cmulL, _, rfl, .inr ⟨_, rfl, _, _, rfl, rfl, _, rfl, w, rfl, rfl, by omega, _, _, rfl, rfl, hw, sz, ?_⟩⟩
      rw [decide_eq_true hg, if_pos rfl]
      exact q
    · rw [if_neg hg] at q
      refine ⟨_, rfl, false, congrArg V.bl (decide_eq_false hg), iteF ?_⟩
      refine ⟨_, rfl, ?_⟩
      refine ⟨_, rfl, _, rfl, w, rfl, rfl, by omega, _, _, rfl, rfl, hw, _, rfl, _, _, rfl, rfl, cmulL, _, rfl, .inr ⟨_, rfl, _, _, rfl, rfl, _, rfl, w, rfl, rfl, by omega, _, _, rfl, rfl, hw, sz, ?_⟩⟩
      rw [decide_eq_false hg, if_neg Bool.false_ne_true]
      exact q
/-- a round in terms of its kind -/
theorem minN (p n : Nat) : (if (n : Int) < (p : Int) then (n : Int) else (p : Int)) = ((min p n : Nat) : Int) := by
  split <;> omega
theorem rnd_times_s (w : Nat) (f s s' o t : Int) : rnd w .times f s o t = rnd w .times f s' o t := rfl
theorem rnd_part_f (w : Nat) (k : K3) (hk : k ≠ .times) (f f' s o t : Int) : rnd w k f s o t = rnd w .part f' s o t := by
  cases k with
  | times => exact absurd rfl hk
  | part => rfl
  | rest => rfl
/-- the words behind some rounds -/
def rnds (w : Nat) (k : K3) (f s : Int) : Nat → Int × Int → Int × Int
  | 0, p => p
  | n + 1, p => let r := rnds w k f s n p; rnd w k f s r.1 r.2
theorem rnds_wa {w l : Nat} {f s : Int} (k : K3) : ∀ n : Nat, l ≤ w → n ≤ l → 0 ≤ f → f < 2 ^ w → 0 ≤ s → s < 2 ^ w → rnds w k f s n (wa w k f s l) = wa w k f s (l - n)
  | 0, _, _, _, _, _, _ => rfl
  | n + 1, hl, hn, f0, f1, s0, s1 => by
    show rnd w k f s (rnds w k f s n (wa w k f s l)).1 (rnds w k f s n (wa w k f s l)).2 = _
    rw [rnds_wa k n hl (by omega) f0 f1 s0 s1, show l - n = l - (n + 1) + 1 by omega]
    exact rnd_wa k (by omega) f0 f1 s0 s1
def sp_behind_rounds (K : PySem.W.Frag) : Sp := fun vs H Q _ => ∃ (w d : Nat) (a : Addr) (k : K3) (f s : Int) (l : Nat) (p : Int × Int), vs = [.int w, .int d, .ref a] ∧ SqT K H a (lsV (.run k f s l p.1 p.2)) ∧ 1 ≤ w ∧ w ≤ 16 ∧ d ≤ 4 ∧ 0 ≤ f ∧ f < 2 ^ w ∧
  NewT K (lsV (.run k f s (l - min d l) (rnds w k f s (min d l) p).1 (rnds w k f s (min d l) p).2)) H Q
theorem ok_behind_rounds (T : Txt K mg) : FnOk P w K mg base CX0 2 T.behind_rounds.f T.behind_rounds.fd ["width", "step", "state"] (sp_behind_rounds K) := by
  refine T.behind_rounds.F.ok sc_behind_rounds (fun vs H Q E h => ?_) (fun cdv A outer s H vs Q E hr h => ?_)
  · obtain ⟨w, d, a, k, f, s, l, p, rfl, _⟩ := h
    rfl
  · obtain ⟨w, d, a, k, f, s', l, p, rfl, ht, w1, w2, d4, f0, f1, q⟩ := h
    refine ⟨_, (pss_cons (ps_asg (pv 2) (pg_tup rfl (pgs_cons (pg_name (i := 3) sc_behind_rounds.nd rfl (.inl rfl)) (pgs_cons (pg_name (i := 4) sc_behind_rounds.nd rfl (.inl rfl)) (pgs_cons (pg_name (i := 5) sc_behind_rounds.nd rfl (.inl rfl)) (pgs_cons (pg_name (i := 6) sc_behind_rounds.nd rfl (.inl rfl)) (pgs_cons (pg_name (i := 7) sc_behind_rounds.nd rfl (.inl rfl)) (pgs_cons (pg_name (i := 8) sc_behind_rounds.nd rfl (.inl rfl)) pgs_nil)))))))) 
      (pss_cons (ps_set (i := 9) sc_behind_rounds.nd rfl (.inl rfl) (pe_callB (call_min2 rfl) (by rfl) T.z_min (by decide +kernel) (pa_cons (pv 1) (pa_cons (pv 6) pa_nil)))) 
      (pss_cons (ps_for PassesOwn.never rfl (pi_range1 (by rfl) T.z_range (pa_cons (pv 9) pa_nil)) (pg_name (i := 10) sc_behind_rounds.nd rfl (.inl rfl)) 
        (pss_one (ps_asg (pe_ifExp (pt_cmpR op_eq (pv 3) pe_str (nomark _)) (pe_call (ok_round_times T) (hr.mono (by decide)) (by rfl) T.round_times.g T.round_times.F.kp T.round_times.b .nil pass0 (pa_cons (pv 0) (pa_cons (pv 4) (pa_cons (pv 7) (pa_cons (pv 8) pa_nil))))) (pe_call (ok_round_part T) (hr.mono (by decide)) (by rfl) T.round_part.g T.round_part.F.kp T.round_part.b .nil pass0 (pa_cons (pv 0) (pa_cons (pv 5) (pa_cons (pv 7) (pa_cons (pv 8) pa_nil)))))) (pg_tup rfl (pgs_cons (pg_name (i := 7) sc_behind_rounds.nd rfl (.inl rfl)) (pgs_cons (pg_name (i := 8) sc_behind_rounds.nd rfl (.inl rfl)) pgs_nil)))))) 
      (pss_one (ps_ret (pe_tupA (pa_cons (pv 3) (pa_cons (pv 4) (pa_cons (pv 5) (pa_cons (pe_op op_sub (pv 6) (pv 9)) (pa_cons (pv 7) (pa_cons (pv 8) pa_nil)))))))))))), ?_⟩
    refine ⟨_, rfl, a, _, rfl, ht, rfl, _, _, rfl, _, _, rfl, _, _, rfl, _, _, rfl, _, _, rfl, _, [], rfl, rfl, ?_⟩
    refine ⟨_, rfl, _, rfl, _, _, rfl, ?_⟩
    refine ⟨_, rfl, ((min d l : Nat) : Int), congrArg (fun z => [V.int z]) (minN d l), by omega, by omega, for_rangeN (n := min d l) (fun i σ H' => ∃ y : Option V, σ = [some (.int w), some (.int d), some (.ref a), some (.str (kS k)), some (.int f), some (.int s'), some (.int l), some (.int (rnds w k f s' i p).1), some (.int (rnds w k f s' i p).2), some (.int (if (l : Int) < (d : Int) then (l : Int) else (d : Int))), y] ∧ Same H H') ⟨none, rfl, Same.refl _⟩ ?_ ?_⟩
    · rintro i σ H1 hi ⟨y, rfl, s1⟩
      by_cases hk : k = .times
      · subst hk
        refine ⟨_, rfl, rfl, true, congrArg V.bl (decide_eq_true rfl), iteT ?_⟩
        refine ⟨_, rfl, _, rfl, _, rfl, _, rfl, w, f, _, _, rfl, w1, w2, f0, f1, fun z H2 s2 e2 => ?_⟩
        exact ⟨z, _, rfl, e2, rfl, _, _, rfl, _, [], rfl, rfl, _, rfl, s1.trans s2⟩
      · refine ⟨_, rfl, rfl, false, congrArg V.bl (by rw [kS_times, decide_eq_false hk]), iteF ?_⟩
        refine ⟨_, rfl, _, rfl, _, rfl, _, rfl, w, s', _, _, rfl, w1, w2, fun z H2 s2 e2 => ?_⟩
        rw [← rnd_part_f w k hk f 0 s'] at e2
        exact ⟨z, _, rfl, e2, rfl, _, _, rfl, _, [], rfl, rfl, _, rfl, s1.trans s2⟩
    rintro σ H1 ⟨y, rfl, s1⟩
    refine ⟨_, rfl, _, rfl, _, rfl, _, rfl, _, rfl, _, _, rfl, rfl, _, rfl, _, rfl, sz, fun z H2 s2 e2 => q z H2 (s1.trans s2) ?_⟩
    have e : ((l : Int) - (if (l : Int) < (d : Int) then (l : Int) else (d : Int))) = ((l - min d l : Nat) : Int) := by
      rw [minN]
      omega
    have e2' : SqT K H2 z [.str (kS k), .int f, .int s', .int ((l : Int) - (if (l : Int) < (d : Int) then (l : Int) else (d : Int))), .int (rnds w k f s' (min d l) p).1, .int (rnds w k f s' (min d l) p).2] := e2
    rw [e] at e2'
    exact e2'
end
end TB
namespace TB
open PySem PySem.Spec PyProof.Rows L2
section
variable {P : Program} {w : World} {K : PySem.W.Frag} {mg : Str → Option Value} {base : Heap}
inductive Ask
  | none
  | stop
  | beg (k : K3) (f s : Int)
def AskAt (K : PySem.W.Frag) (H : Hp) (v : V) : Ask → Prop
  | .none => v = .non
  | .stop => ∃ a, v = .ref a ∧ SqT K H a [.str "stop"]
  | .beg k f s => ∃ a, v = .ref a ∧ SqT K H a [.str "begin", .str (kS k), .int f, .int s]
theorem AskAt.lm {H H' : Hp} {v : V} {A : Ask} (u : LMut H H') (h : AskAt K H v A) : AskAt K H' v A := by
  cases A with
  | none => exact h
  | stop =>
    obtain ⟨a, e, t⟩ := h
    exact ⟨a, e, u.seqT t⟩
  | beg k f s =>
    obtain ⟨a, e, t⟩ := h
    exact ⟨a, e, u.seqT t⟩
def AskOk (w : Nat) : Ask → Prop
  | .beg _ f s => 0 ≤ f ∧ f < 2 ^ w ∧ 0 ≤ s ∧ s < 2 ^ w
  | _ => True
/-- a state that can be -/
def LOk (w d : Nat) : LState → Prop
  | .idle => True
  | .run k f s l o t => 0 ≤ f ∧ f < 2 ^ w ∧ 0 ≤ s ∧ s < 2 ^ w ∧ l ≤ w ∧ (0 < l → (w - l) % d = 0) ∧ (o, t) = wa w k f s l
def toldV : Option Int → V
  | none => .non
  | some i => .int i
def resV : K3 → Int → Int → Int
  | .part, _, t => t
  | _, o, _ => o
def beat (w d : Nat) (st : LState) : Ask → LState × Option Int
  | .stop => (.idle, none)
  | .beg k f s => (begI w k f s, none)
  | .none => match st with
    | .idle => (.idle, none)
    | .run k f s l o t => if 0 < l then (.run k f s (l - min d l) (rnds w k f s (min d l) (o, t)).1 (rnds w k f s (min d l) (o, t)).2, none) else (.idle, some (resV k o t))
theorem ask_ne_stop (k : K3) (f s : Int) : PyData.eqv (.tuple [.str "begin", .str (kS k), .int f, .int s]) (.tuple [.str "stop"]) = false := rfl
theorem ls_ne_idle (k : K3) (f s : Int) (l : Nat) (o t : Int) : PyData.eqv (lsD (.run k f s l o t)) (lsD .idle) = false := by
  cases k <;> rfl
theorem beg_ok (k : K3) (f s : Int) : OkD 1 (.tuple [.str "begin", .str (kS k), .int f, .int s]) := .tup fun d hd => by
  simp only [List.mem_cons, List.not_mem_nil, or_false] at hd
  rcases hd with rfl | rfl | rfl | rfl
  · exact .str _
  · cases k <;> exact .str _
  all_goals exact .int _
theorem beg_dp {H : Hp} {a : Addr} {k : K3} {f s : Int} (h : SqT K H a [.str "begin", .str (kS k), .int f, .int s]) : Dp K H (.ref a) (.tuple [.str "begin", .str (kS k), .int f, .int s]) := .tup h (.cons (.str _) (.cons (.str _) (.cons (.int _) (.cons (.int _) .nil))))
theorem stop_dp {H : Hp} {a : Addr} (h : SqT K H a [.str "stop"]) : Dp K H (.ref a) (.tuple [.str "stop"]) := .tup h (.cons (.str _) .nil)
def sp_behind_beat (K : PySem.W.Frag) : Sp := fun vs H Q _ => ∃ (w d : Nat) (a : Addr) (st : LState) (v : V) (A : Ask), vs = [.int w, .int d, .ref a, v] ∧ SqT K H a (lsV st) ∧ AskAt K H v A ∧ 1 ≤ w ∧ w ≤ 16 ∧ d ≤ 4 ∧ LOk w d st ∧
  ∀ p b H', Same H H' → SqT K H' p [.ref b, toldV (beat w d st A).2] → SqT K H' b (lsV (beat w d st A).1) → Q (.ref p) H'
theorem ok_behind_beat (T : Txt K mg) : FnOk P w K mg base CX0 3 T.behind_beat.f T.behind_beat.fd ["width", "step", "state", "ask"] (sp_behind_beat K) := by
  refine T.behind_beat.F.ok sc_behind_beat (fun vs H Q E h => ?_) (fun cdv A outer s H vs Q E hr h => ?_)
  · obtain ⟨w, d, a, st, v, A, rfl, _⟩ := h
    rfl
  · obtain ⟨w, d, a, st, v, ak, rfl, ht, ha, w1, w2, d4, hl, q⟩ := h
    refine ⟨_, (pss_cons (ps_if (pt_cmpR op_notN (pv 3) pe_non (nomark _)) 
        (pss_one (ps_ret (pe_tupA (pa_cons (pe_ifExp (pt_cmpR (op_eqD hr.units) (pv 3) (pe_glob (v := .ref T.STOP.a) rfl T.STOP.g rfl) (nomark _)) (pe_glob (v := .ref T.IDLE.a) rfl T.IDLE.g rfl) (pe_call (ok_begun T) (hr.mono (by decide)) (by rfl) T.begun.g T.begun.F.kp T.begun.b .nil pass0 (pa_cons (pv 0) (pa_cons (pe_ix ix_tup (pv 3) pe_int (fun _ _ => rfl)) (pa_cons (pe_ix ix_tup (pv 3) pe_int (fun _ _ => rfl)) (pa_cons (pe_ix ix_tup (pv 3) pe_int (fun _ _ => rfl)) pa_nil)))))) (pa_cons pe_non pa_nil))))) pss_nil) 
      (pss_cons (ps_if (pt_cmpR (op_eqD hr.units) (pv 2) (pe_glob (v := .ref T.IDLE.a) rfl T.IDLE.g rfl) (nomark _)) 
        (pss_one (ps_ret (pe_tupA (pa_cons (pe_glob (v := .ref T.IDLE.a) rfl T.IDLE.g rfl) (pa_cons pe_non pa_nil))))) pss_nil) 
      (pss_cons (ps_if (pt_cmpR op_gt (pe_ix ix_tup (pv 2) pe_int (fun _ _ => rfl)) pe_int (nomark _)) 
        (pss_one (ps_ret (pe_tupA (pa_cons (pe_call (ok_behind_rounds T) (hr.mono (by decide)) (by rfl) T.behind_rounds.g T.behind_rounds.F.kp T.behind_rounds.b .nil pass0 (pa_cons (pv 0) (pa_cons (pv 1) (pa_cons (pv 2) pa_nil)))) (pa_cons pe_non pa_nil))))) pss_nil) 
      (pss_one (ps_ret (pe_tupA (pa_cons (pe_glob (v := .ref T.IDLE.a) rfl T.IDLE.g rfl) (pa_cons (pe_ifExp (pt_cmpR op_eq (pe_ix ix_tup (pv 2) pe_int (fun _ _ => rfl)) pe_str (nomark _)) (pe_ix ix_tup (pv 2) pe_int (fun _ _ => rfl)) (pe_ix ix_tup (pv 2) pe_int (fun _ _ => rfl))) pa_nil)))))))), ?_⟩
    cases ak with
    | stop =>
      obtain ⟨b, rfl, hb⟩ := ha
      refine ⟨_, rfl, rfl, _, rfl, iteT ?_⟩
      refine ⟨_, rfl, _, _, stop_dp hb, stop_dp (T.STOP.t _), by decide +kernel, by decide +kernel, _, rfl, iteB (by decide +kernel) ?_⟩
      exact ⟨sz, fun p H1 s1 e1 => q p _ H1 s1 e1 (T.IDLE.t _)⟩
    | beg k f s' =>
      obtain ⟨b, rfl, hb⟩ := ha
      refine ⟨_, rfl, rfl, _, rfl, iteT ?_⟩
      refine ⟨_, rfl, _, _, beg_dp hb, stop_dp (T.STOP.t _), (beg_ok _ _ _).sh, by decide +kernel, _, rfl, iteBF (ask_ne_stop _ _ _) ?_⟩
      refine ⟨_, rfl, _, rfl, b, _, 1, _, rfl, rfl, hb, atI_nat (j := 1) rfl, _, rfl, b, _, 2, _, rfl, rfl, hb, atI_nat (j := 2) rfl, _, rfl, b, _, 3, _, rfl, rfl, hb, atI_nat (j := 3) rfl, w, k, f, s', rfl, fun c H1 s1 e1 => ?_⟩
      exact ⟨sz, fun p H2 s2 e2 => q p _ H2 (s1.trans s2) e2 (sT s2 e1)⟩
    | none =>
      have ha : v = .non := ha
      subst ha
      refine ⟨_, rfl, rfl, _, rfl, iteBF rfl ?_⟩
      cases st with
      | idle =>
        refine ⟨_, rfl, _, _, ls_dp ht, ls_dp (st := .idle) (T.IDLE.t _), ls_sh _, ls_sh _, _, rfl, iteB (eqvR (ls_sh _)) ?_⟩
        exact ⟨sz, fun p H1 s1 e1 => q p _ H1 s1 e1 (T.IDLE.t _)⟩
      | run k f s' l o t =>
        obtain ⟨f0, f1, s0, s1', hlw, hmod, hwa⟩ := hl
        refine ⟨_, rfl, _, _, ls_dp ht, ls_dp (st := .idle) (T.IDLE.t _), ls_sh _, ls_sh _, _, rfl, iteBF (ls_ne_idle _ _ _ _ _ _) ?_⟩
        refine ⟨_, rfl, a, _, 3, _, rfl, rfl, ht, atI_nat (j := 3) rfl, _, _, rfl, rfl, _, rfl, ite3 (fun e => ?_) (fun e => ?_)⟩
        · have h0 : 0 < l := by
            have := of_decide_eq_true e
            omega
          have eb : beat w d (.run k f s' l o t) .none = (.run k f s' (l - min d l) (rnds w k f s' (min d l) (o, t)).1 (rnds w k f s' (min d l) (o, t)).2, none) := if_pos h0
          rw [eb] at q
          refine ⟨_, rfl, _, rfl, _, rfl, w, d, a, k, f, s', l, (o, t), rfl, ht, w1, w2, d4, f0, f1, fun c H1 s1 e1 => ?_⟩
          exact ⟨sz, fun p H2 s2 e2 => q p _ H2 (s1.trans s2) e2 (sT s2 e1)⟩
        · have h0 : ¬ 0 < l := by
            have := of_decide_eq_false e
            omega
          have eb : beat w d (.run k f s' l o t) .none = (.idle, some (resV k o t)) := if_neg h0
          rw [eb] at q
          refine ⟨_, rfl, a, _, 0, _, rfl, rfl, ht, atI_nat (j := 0) rfl, rfl, _, rfl, ?_⟩
          cases k with
          | part => exact iteT ⟨_, rfl, a, _, 5, _, rfl, rfl, ht, atI_nat (j := 5) rfl, sz, fun p H1 s1 e1 => q p _ H1 s1 e1 (T.IDLE.t _)⟩
          | times => exact iteF ⟨_, rfl, a, _, 4, _, rfl, rfl, ht, atI_nat (j := 4) rfl, sz, fun p H1 s1 e1 => q p _ H1 s1 e1 (T.IDLE.t _)⟩
          | rest => exact iteF ⟨_, rfl, a, _, 4, _, rfl, rfl, ht, atI_nat (j := 4) rfl, sz, fun p H1 s1 e1 => q p _ H1 s1 e1 (T.IDLE.t _)⟩
end
end TB
namespace TB
open PySem PySem.Spec PyProof.Rows L2
section
variable {P : Program} {w : World} {K : PySem.W.Frag} {mg : Str → Option Value} {base : Heap}
theorem wa_in {w l : Nat} {f s : Int} (k : K3) (hl : l ≤ w) (f0 : 0 ≤ f) (f1 : f < 2 ^ w) : 0 ≤ (wa w k f s l).1 ∧ (wa w k f s l).1 < 2 ^ w ∧ 0 ≤ (wa w k f s l).2 ∧ (wa w k f s l).2 < 2 ^ w := by
  have hp := two_pos w
  have hp2 := two_pos l
  have hn : (2 : Int) ^ w ≠ 0 := by omega
  have ht : 0 ≤ f / 2 ^ l := Int.ediv_nonneg f0 (Int.le_of_lt hp2)
  have hr := rst_in (s := s) ht
  have hle := Int.ediv_le_self (2 ^ l) f0
  cases k with
  | times => exact ⟨Int.emod_nonneg _ hn, Int.emod_lt_of_pos _ hp, Int.emod_nonneg _ hn, Int.emod_lt_of_pos _ hp⟩
  | part => exact ⟨hr.1, Int.lt_of_le_of_lt (Int.le_trans hr.2 hle) f1, Int.emod_nonneg _ hn, Int.emod_lt_of_pos _ hp⟩
  | rest => exact ⟨hr.1, Int.lt_of_le_of_lt (Int.le_trans hr.2 hle) f1, Int.emod_nonneg _ hn, Int.emod_lt_of_pos _ hp⟩
def sp_words_after (K : PySem.W.Frag) : Sp := fun vs H Q _ => ∃ (w : Nat) (k : K3) (f s : Int) (l : Nat), vs = [.int w, .str (kS k), .int f, .int s, .int l] ∧ 1 ≤ w ∧ w ≤ 16 ∧ l ≤ w ∧ 0 ≤ f ∧ f < 2 ^ w ∧ 0 ≤ s ∧ s < 2 ^ w ∧
  NewT K [.int (wa w k f s l).1, .int (wa w k f s l).2] H Q
theorem ok_words_after (T : Txt K mg) : FnOk P w K mg base CX0 1 T.words_after.f T.words_after.fd ["width", "kind", "first", "second", "left"] (sp_words_after K) := by
  refine T.words_after.F.ok sc_words_after (fun vs H Q E h => ?_) (fun cdv A outer s H vs Q E hr h => ?_)
  · obtain ⟨w, k, f, s', l, rfl, _⟩ := h
    rfl
  · obtain ⟨w, k, f, s', l, rfl, w1, w2, hl, f0, f1, s0, s1, q⟩ := h
    have hW : (2 : Int) ^ w ≤ 2 ^ 16 := two_mono w2
    have hp := two_pos w
    refine ⟨_, (pss_cons (ps_par (i := 5) (j := 6) rfl sc_words_after.nd rfl rfl (by decide) rfl rfl (pa_cons (pe_op op_sub (pv 0) (pv 4)) (pa_cons (pe_op op_oneShl pe_int (pv 0)) pa_nil)) (by rfl)) 
      (pss_cons (ps_if (pt_cmpR op_eq (pv 1) pe_str (nomark _)) 
        (pss_one (ps_ret (pe_tupA (pa_cons (pe_op op_mod (pe_op op_mul (pv 2) (pe_op op_shrN (pv 3) (pv 4))) (pv 6)) (pa_cons (pe_op op_mod (pe_op op_shlN (pv 3) (pv 5)) (pv 6)) pa_nil))))) pss_nil) 
      (pss_cons (ps_set (i := 7) sc_words_after.nd rfl (.inl rfl) (pe_op op_shrN (pv 2) (pv 4))) 
      (pss_cons (ps_asg (pe_ifExp (pt_cmpR op_gt (pv 3) pe_int (nomark _)) (pe_callB call_divmodA (by rfl) T.z_divmod (by decide +kernel) (pa_cons (pv 7) (pa_cons (pv 3) pa_nil))) (pe_tupA (pa_cons (pe_op op_sub (pe_op op_oneShl pe_int (pv 5)) pe_int) (pa_cons (pv 7) pa_nil)))) (pg_tup rfl (pgs_cons (pg_name (i := 8) sc_words_after.nd rfl (.inl rfl)) (pgs_cons (pg_name (i := 9) sc_words_after.nd rfl (.inl rfl)) pgs_nil)))) 
      (pss_one (ps_ret (pe_tupA (pa_cons (pv 9) (pa_cons (pe_op op_mod (pe_op op_add (pe_op op_shlN (pv 2) (pv 5)) (pv 8)) (pv 6)) pa_nil))))))))), ?_⟩
    refine ⟨_, rfl, _, rfl, _, _, rfl, rfl, _, rfl, w, rfl, rfl, by omega, _, _, rfl, ?_⟩
    have ed : ((w : Int) - (l : Int)) = ((w - l : Nat) : Int) := by omega
    by_cases hk : k = .times
    · subst hk
      have hq : 0 ≤ s' / 2 ^ l ∧ s' / 2 ^ l < 2 ^ w := ⟨Int.ediv_nonneg s0 (Int.le_of_lt (two_pos l)), Int.lt_of_le_of_lt (Int.ediv_le_self _ s0) s1⟩
      refine ⟨_, rfl, rfl, true, congrArg V.bl (decide_eq_true rfl), iteT ?_⟩
      refine ⟨_, rfl, _, rfl, _, rfl, s', l, rfl, rfl, _, _, rfl, rfl, .inl ⟨by omega, by omega⟩, _, rfl, _, _, rfl, rfl, hp, ?_⟩
      refine ⟨_, rfl, _, rfl, s', w - l, rfl, congrArg V.int ed, shl_ok (n := 32) (by omega) (by omega), _, rfl, _, _, rfl, rfl, hp, sz, q⟩
    · have ew : wa w k f s' l = waP w f s' l := by
        cases k with
        | times => exact absurd rfl hk
        | part => rfl
        | rest => rfl
      rw [ew] at q
      refine ⟨_, rfl, rfl, false, congrArg V.bl (by rw [kS_times, decide_eq_false hk]), iteF ?_⟩
      refine ⟨_, rfl, _, rfl, f, l, rfl, rfl, ?_⟩
      refine ⟨_, rfl, _, _, rfl, rfl, _, rfl, ite3 (fun e => ?_) (fun e => ?_)⟩
      · have hs : 0 < s' := of_decide_eq_true e
        refine ⟨_, rfl, _, rfl, f / 2 ^ l, s', rfl, ?_, fun z H1 h1 e1 => ?_⟩
        · have h1 := Int.ediv_le_self (2 ^ l) f0
          have h2 : 0 ≤ f / 2 ^ l := Int.ediv_nonneg f0 (Int.le_of_lt (two_pos l))
          refine divp_ok hs ?_
          have := intBits_le (a := f / 2 ^ l) (k := 32) (by omega)
          omega
        have ep : prt s' (f / 2 ^ l) (w - l) = f / 2 ^ l / s' := if_pos hs
        have er : rst s' (f / 2 ^ l) = f / 2 ^ l % s' := if_pos hs
        unfold waP at q
        rw [ep, er] at q
        refine ⟨z, _, rfl, e1, rfl, _, _, rfl, _, [], rfl, rfl, ?_⟩
        refine ⟨_, rfl, _, rfl, _, rfl, f, w - l, rfl, congrArg V.int ed, shl_ok (n := 32) (by omega) (by omega), _, rfl, _, _, rfl, rfl, _, rfl, _, _, rfl, rfl, hp, sz, fun p H2 h2 e2 => q p H2 (h1.trans h2) e2⟩
      · have hs : ¬ 0 < s' := of_decide_eq_false e
        have ep : prt s' (f / 2 ^ l) (w - l) = 2 ^ (w - l) - 1 := if_neg hs
        have er : rst s' (f / 2 ^ l) = f / 2 ^ l := if_neg hs
        unfold waP at q
        rw [ep, er] at q
        refine ⟨_, rfl, w - l, rfl, congrArg V.int ed, by omega, _, _, rfl, rfl, _, rfl, sz, fun z H1 h1 e1 => ?_⟩
        refine ⟨z, _, rfl, e1, rfl, _, _, rfl, _, [], rfl, rfl, ?_⟩
        refine ⟨_, rfl, _, rfl, _, rfl, f, w - l, rfl, congrArg V.int ed, shl_ok (n := 32) (by omega) (by omega), _, rfl, _, _, rfl, rfl, _, rfl, _, _, rfl, rfl, hp, sz, fun p H2 h2 e2 => q p H2 (h1.trans h2) e2⟩
def sp_is_begin (K : PySem.W.Frag) : Sp := fun vs H Q _ => ∃ (w : Nat) (a : Addr) (k : K3) (f s : Int), vs = [.int w, .ref a] ∧ SqT K H a [.str "begin", .str (kS k), .int f, .int s] ∧ w ≤ 16 ∧ 0 ≤ f ∧ f < 2 ^ w ∧ 0 ≤ s ∧ s < 2 ^ w ∧ ∀ H', Same H H' → Q (.bl true) H'
theorem kS_in (k : K3) : inV (.str (kS k)) [.str "times", .str "part", .str "rest"] = true := by cases k <;> rfl
theorem ok_is_begin (T : Txt K mg) : FnOk P w K mg base CX0 4 T.is_begin.f T.is_begin.fd ["width", "value"] (sp_is_begin K) := by
  refine T.is_begin.F.ok sc_is_begin (fun vs H Q E h => ?_) (fun cdv A outer s H vs Q E hr h => ?_)
  · obtain ⟨w, a, k, f, s', rfl, _⟩ := h
    rfl
  · obtain ⟨w, a, k, f, s', rfl, ht, w2, f0, f1, s0, s1, q⟩ := h
    refine ⟨_, (pss_cons (ps_if (PW.pt (pw_or (pt_not (pt_val (pe_callB call_isiK (by rfl) T.z_isinstance (by decide +kernel) (pa_cons (pv 1) (pa_cons (pe_bltn (v := .ty "tuple") (by rfl) T.z_tuple (by decide +kernel) rfl) pa_nil))))) (pw_or (pt_cmpR op_ne (pe_callB call_len_seq (by rfl) T.z_len PySem.boot_len (pa_cons (pv 1) pa_nil)) (pe_glob rfl T.BEGIN_SIZE.g T.BEGIN_SIZE.r) (nomark _)) (pw_or1 (pt_cmpR (op_neD hr.units) (pe_slice sl_tupleA (pv 1) po_none (po_some pe_int)) (pe_glob (v := .ref T.BEGIN.a) rfl T.BEGIN.g rfl) (nomark _)))))) 
        (pss_one (ps_ret pe_bl)) pss_nil) 
      (pss_cons (ps_if (PW.pt (pw_or (pt_not (pt_val (pe_callB call_isiK (by rfl) T.z_isinstance (by decide +kernel) (pa_cons (pe_ix ix_tup (pv 1) pe_int (fun _ _ => rfl)) (pa_cons (pe_bltn (v := .ty "str") (by rfl) T.z_str (by decide +kernel) rfl) pa_nil))))) (pw_or1 (pt_cmpR op_notIn_seq (pe_ix ix_tup (pv 1) pe_int (fun _ _ => rfl)) (pe_glob (v := .ref T.KINDS.a) rfl T.KINDS.g rfl) rfl)))) 
        (pss_one (ps_ret pe_bl)) pss_nil) 
      (pss_one (ps_ret (pe_and (pe_call (ok_is_word_in T) (hr.mono (by decide)) (by rfl) T.is_word_in.g T.is_word_in.F.kp T.is_word_in.b .nil pass0 (pa_cons (pv 0) (pa_cons (pe_ix ix_tup (pv 1) pe_int (fun _ _ => rfl)) pa_nil))) (pe_one (pe_call (ok_is_word_in T) (hr.mono (by decide)) (by rfl) T.is_word_in.g T.is_word_in.F.kp T.is_word_in.b .nil pass0 (pa_cons (pv 0) (pa_cons (pe_ix ix_tup (pv 1) pe_int (fun _ _ => rfl)) pa_nil))))))))), ?_⟩
    refine ⟨_, rfl, _, _, _, rfl, .t ht, by decide, true, rfl, iteF ?_⟩
    refine ⟨_, rfl, a, _, rfl, .inr ht, rfl, _, rfl, iteBF (neFI rfl) ?_⟩
    refine ⟨_, rfl, 1, rfl, a, _, rfl, ht, fun p H1 h1 e1 => ?_⟩
    have e1 : SqT K H1 p [.str "begin"] := e1
    refine ⟨.tuple [.str "begin"], .tuple [.str "begin"], .tup e1 (.cons (.str _) .nil), .tup (T.BEGIN.t _) (.cons (.str _) .nil), by decide +kernel, by decide +kernel, _, rfl, iteBF (by decide +kernel) ?_⟩
    have ht1 := sT h1 ht
    refine ⟨_, rfl, a, _, 1, _, rfl, rfl, ht1, atI_nat (j := 1) rfl, _, _, _, rfl, .s _, by decide, true, rfl, iteF ?_⟩
    refine ⟨_, rfl, a, _, 1, _, rfl, rfl, ht1, atI_nat (j := 1) rfl, _, _, rfl, .inr (T.KINDS.t _), by cases k <;> rfl, rfl, _, rfl, iteBF (by rw [kS_in]; rfl) ?_⟩
    refine ⟨_, rfl, _, rfl, a, _, 2, _, rfl, rfl, ht1, atI_nat (j := 2) rfl, w, f, rfl, by omega, true, congrArg V.bl (by rw [decide_eq_true f0, decide_eq_true (show f ≤ 2 ^ w - 1 by omega)]; rfl), iteT ?_⟩
    refine ⟨_, rfl, _, rfl, a, _, 3, _, rfl, rfl, ht1, atI_nat (j := 3) rfl, w, s', rfl, by omega, ?_⟩
    rw [decide_eq_true s0, decide_eq_true (show s' ≤ 2 ^ w - 1 by omega)]
    exact q _ h1
def sp_is_ask (K : PySem.W.Frag) : Sp := fun vs H Q _ => ∃ (w : Nat) (v : V) (A : Ask), vs = [.int w, v] ∧ AskAt K H v A ∧ AskOk w A ∧ w ≤ 16 ∧ ∀ H', Same H H' → Q (.bl true) H'
theorem ok_is_ask (T : Txt K mg) : FnOk P w K mg base CX0 5 T.is_ask.f T.is_ask.fd ["width", "value"] (sp_is_ask K) := by
  refine T.is_ask.F.ok sc_is_ask (fun vs H Q E h => ?_) (fun cdv A outer s H vs Q E hr h => ?_)
  · obtain ⟨w, v, A, rfl, _⟩ := h
    rfl
  · obtain ⟨w, v, ak, rfl, ha, hok, w2, q⟩ := h
    refine ⟨_, (pss_one (ps_ret (pe_or (pe_cmpR op_isN (pv 1) pe_non (nomark _)) (pe_or (pe_cmpR (op_eqD hr.units) (pv 1) (pe_glob (v := .ref T.STOP.a) rfl T.STOP.g rfl) (nomark _)) (pe_one (pe_call (ok_is_begin T) (hr.mono (by decide)) (by rfl) T.is_begin.g T.is_begin.F.kp T.is_begin.b .nil pass0 (pa_cons (pv 0) (pa_cons (pv 1) pa_nil)))))))), ?_⟩
    cases ak with
    | none =>
      have ha : v = .non := ha
      subst ha
      exact ⟨_, rfl, rfl, _, rfl, iteT (q _ (Same.refl _))⟩
    | stop =>
      obtain ⟨b, rfl, hb⟩ := ha
      refine ⟨_, rfl, rfl, _, rfl, iteBF rfl ?_⟩
      exact ⟨_, rfl, _, _, stop_dp hb, stop_dp (T.STOP.t _), by decide +kernel, by decide +kernel, true, congrArg V.bl (by decide +kernel), iteT (q _ (Same.refl _))⟩
    | beg k f s' =>
      obtain ⟨b, rfl, hb⟩ := ha
      obtain ⟨f0, f1, s0, s1⟩ := hok
      refine ⟨_, rfl, rfl, _, rfl, iteBF rfl ?_⟩
      refine ⟨_, rfl, _, _, beg_dp hb, stop_dp (T.STOP.t _), (beg_ok _ _ _).sh, by decide +kernel, false, congrArg V.bl (ask_ne_stop _ _ _), iteF ?_⟩
      exact ⟨_, rfl, _, rfl, w, b, k, f, s', rfl, hb, w2, f0, f1, s0, s1, q⟩
end
end TB
namespace TB
open PySem PySem.Spec PyProof.Rows L2
section
variable {P : Program} {w : World} {K : PySem.W.Frag} {mg : Str → Option Value} {base : Heap}
theorem ls_len (st : LState) : (lsV st).length = 6 := by cases st <;> rfl
def sp_is_state (K : PySem.W.Frag) : Sp := fun vs H Q _ => ∃ (w d : Nat) (a : Addr) (st : LState), vs = [.int w, .int d, .ref a] ∧ SqT K H a (lsV st) ∧ LOk w d st ∧ 1 ≤ w ∧ w ≤ 16 ∧ 1 ≤ d ∧ d ≤ 4 ∧ ∀ H', Same H H' → Q (.bl true) H'
theorem ok_is_state (T : Txt K mg) : FnOk P w K mg base CX0 4 T.is_state.f T.is_state.fd ["width", "step", "value"] (sp_is_state K) := by
  refine T.is_state.F.ok sc_is_state (fun vs H Q E h => ?_) (fun cdv A outer s H vs Q E hr h => ?_)
  · obtain ⟨w, d, a, st, rfl, _⟩ := h
    rfl
  · obtain ⟨w, d, a, st, rfl, ht, hl, w1, w2, d1, d2, q⟩ := h
    have hp := two_pos w
    refine ⟨_, (pss_cons (ps_if (PW.pt (pw_or (pt_not (pt_val (pe_callB call_isiK (by rfl) T.z_isinstance (by decide +kernel) (pa_cons (pv 2) (pa_cons (pe_bltn (v := .ty "tuple") (by rfl) T.z_tuple (by decide +kernel) rfl) pa_nil))))) (pw_or (pt_cmpR op_ne (pe_callB call_len_seq (by rfl) T.z_len PySem.boot_len (pa_cons (pv 2) pa_nil)) (pe_glob rfl T.STATE_SIZE.g T.STATE_SIZE.r) (nomark _)) (pw_or1 (pt_not (pt_val (pe_callB call_isiK (by rfl) T.z_isinstance (by decide +kernel) (pa_cons (pe_ix ix_tup (pv 2) pe_int (fun _ _ => rfl)) (pa_cons (pe_bltn (v := .ty "str") (by rfl) T.z_str (by decide +kernel) rfl) pa_nil))))))))) 
        (pss_one (ps_ret pe_bl)) pss_nil) 
      (pss_cons (ps_asg (pv 2) (pg_tup rfl (pgs_cons (pg_name (i := 3) sc_is_state.nd rfl (.inl rfl)) (pgs_cons (pg_name (i := 4) sc_is_state.nd rfl (.inl rfl)) (pgs_cons (pg_name (i := 5) sc_is_state.nd rfl (.inl rfl)) (pgs_cons (pg_name (i := 6) sc_is_state.nd rfl (.inl rfl)) (pgs_cons (pg_name (i := 7) sc_is_state.nd rfl (.inl rfl)) (pgs_cons (pg_name (i := 8) sc_is_state.nd rfl (.inl rfl)) pgs_nil)))))))) 
      (pss_cons (ps_if (PW.pt (pw_or (pt_not (pt_val (pe_callB (cr_all rfl) (by rfl) T.z_all (by decide +kernel) (pa_cons (pe_lc (own := [("word", 9)]) (by rfl) sc_is_state.nd (pi_tup (pe_tupA (pa_cons (pv 4) (pa_cons (pv 5) (pa_cons (pv 7) (pa_cons (pv 8) pa_nil)))))) (blkOk_by (own := [("word", 9)]) (N := ["width", "step", "value", "kind", "first", "second", "left", "one", "two", "word"]) (sc := defScope s_is_state) (by decide +kernel)) (fun _ _ _ _ _ => (pg_name (i := 9) sc_is_state.nd rfl (.inl rfl))) (fun _ _ _ _ _ => pts_nil) (fun _ _ _ _ _ => (pe_call (ok_is_word_in T) (hr.mono (by decide)) (by rfl) T.is_word_in.g T.is_word_in.F.kp T.is_word_in.b .nil pass0 (pa_cons (pv 0) (pa_cons (pv 9) pa_nil))))) pa_nil)))) (pw_or1 (pt_not (pt_val (pe_call (ok_is_within T) (hr.mono (by decide)) (by rfl) T.is_within.g T.is_within.F.kp T.is_within.b .nil pass0 (pa_cons (pv 6) (pa_cons pe_int (pa_cons (pv 0) pa_nil))))))))) 
        (pss_one (ps_ret pe_bl)) pss_nil) 
      (pss_cons (ps_if (pt_cmpR op_notIn_seq (pv 3) (pe_glob (v := .ref T.KINDS.a) rfl T.KINDS.g rfl) rfl) 
        (pss_one (ps_ret (pe_cmpR (op_eqD hr.units) (pv 2) (pe_glob (v := .ref T.IDLE.a) rfl T.IDLE.g rfl) (nomark _)))) pss_nil) 
      (pss_cons (ps_if (PW.pt (pw_and (pt_cmpR op_gt (pv 6) pe_int (nomark _)) (pw_and1 (pt_cmpR op_ne (pe_op op_mod (pe_op op_sub (pv 0) (pv 6)) (pv 1)) pe_int (nomark _))))) 
        (pss_one (ps_ret pe_bl)) pss_nil) 
      (pss_one (ps_ret (pe_cmpR (op_eqD hr.units) (pe_tupA (pa_cons (pv 7) (pa_cons (pv 8) pa_nil))) (pe_call (ok_words_after T) (hr.mono (by decide)) (by rfl) T.words_after.g T.words_after.F.kp T.words_after.b .nil pass0 (pa_cons (pv 0) (pa_cons (pv 3) (pa_cons (pv 4) (pa_cons (pv 5) (pa_cons (pv 6) pa_nil)))))) (nomark _))))))))), ?_⟩
    refine ⟨_, rfl, _, _, _, rfl, .t ht, by decide, true, rfl, iteF ?_⟩
    refine ⟨_, rfl, a, _, rfl, .inr ht, rfl, _, rfl, iteBF (neFI (by rw [ls_len]; rfl)) ?_⟩
    cases st with
    | idle =>
      refine ⟨_, rfl, a, _, 0, _, rfl, rfl, ht, atI_nat (j := 0) rfl, _, _, _, rfl, .s _, by decide, true, rfl, iteF ?_⟩
      refine ⟨_, rfl, a, _, rfl, ht, rfl, _, _, rfl, _, _, rfl, _, _, rfl, _, _, rfl, _, _, rfl, _, [], rfl, rfl, ?_⟩
      refine ⟨_, rfl, _, rfl, _, rfl, _, rfl, sz, fun t H1 s1 e1 => ⟨t, rfl, ⟨_, e1⟩, lc_tupF e1 (fun _ => some (V.bl true)) (by show 4 ≤ 100000; decide) ?_ fun D H2 s2 e2 _ => ?_⟩⟩
      · intro i v H' hv sm Rk N hR hN
        have hm := List.mem_of_getElem? hv
        simp only [List.mem_cons, List.not_mem_nil, or_false] at hm
        have hv0 : v = .int 0 := by rcases hm with rfl | rfl | rfl | rfl <;> rfl
        subst hv0
        refine ⟨rfl, _, rfl, _, rfl, w, 0, rfl, by omega, ?_⟩
        rw [decide_eq_true (Int.le_refl 0), decide_eq_true (show (0 : Int) ≤ 2 ^ w - 1 by omega)]
        exact hR _ _ rfl (Same.refl _)
      refine ⟨D, [true, true, true, true], rfl, SqL.of e2, _, rfl, iteN rfl ?_⟩
      refine ⟨_, rfl, _, rfl, 0, 0, w, rfl, _, rfl, iteN (by rw [decide_eq_true (Int.le_refl 0), decide_eq_true (show (0 : Int) ≤ w by omega)]; rfl) ?_⟩
      refine ⟨_, rfl, _, _, rfl, .inr (T.KINDS.t _), rfl, rfl, _, rfl, iteB rfl ?_⟩
      refine ⟨_, rfl, _, _, ls_dp (st := .idle) (sT (s1.trans s2) ht), ls_dp (st := .idle) (T.IDLE.t _), ls_sh _, ls_sh _, ?_⟩
      rw [eqvR (ls_sh _)]
      exact q _ (s1.trans s2)
    | run k f s' l o t =>
      obtain ⟨f0, f1, s0, s1', hlw, hmod, hwa⟩ := hl
      have hin := wa_in (s := s') k hlw f0 f1
      rw [← hwa] at hin
      obtain ⟨o0, o1, t0, t1⟩ := hin
      refine ⟨_, rfl, a, _, 0, _, rfl, rfl, ht, atI_nat (j := 0) rfl, _, _, _, rfl, .s _, by decide, true, rfl, iteF ?_⟩
      refine ⟨_, rfl, a, _, rfl, ht, rfl, _, _, rfl, _, _, rfl, _, _, rfl, _, _, rfl, _, _, rfl, _, [], rfl, rfl, ?_⟩
      refine ⟨_, rfl, _, rfl, _, rfl, _, rfl, sz, fun tt H1 s1 e1 => ⟨tt, rfl, ⟨_, e1⟩, lc_tupF e1 (fun _ => some (V.bl true)) (by show 4 ≤ 100000; decide) ?_ fun D H2 s2 e2 _ => ?_⟩⟩
      · intro i v H' hv sm Rk N hR hN
        have hm := List.mem_of_getElem? hv
        simp only [List.mem_cons, List.not_mem_nil, or_false] at hm
        obtain ⟨x, rfl, x0, x1⟩ : ∃ x : Int, v = .int x ∧ 0 ≤ x ∧ x < 2 ^ w := by
          rcases hm with rfl | rfl | rfl | rfl
          · exact ⟨_, rfl, f0, f1⟩
          · exact ⟨_, rfl, s0, s1'⟩
          · exact ⟨_, rfl, o0, o1⟩
          · exact ⟨_, rfl, t0, t1⟩
        refine ⟨rfl, _, rfl, _, rfl, w, x, rfl, by omega, ?_⟩
        rw [decide_eq_true x0, decide_eq_true (show x ≤ 2 ^ w - 1 by omega)]
        exact hR _ _ rfl (Same.refl _)
      refine ⟨D, [true, true, true, true], rfl, SqL.of e2, _, rfl, iteN rfl ?_⟩
      refine ⟨_, rfl, _, rfl, l, 0, w, rfl, _, rfl, iteN (by rw [decide_eq_true (show (0 : Int) ≤ l by omega), decide_eq_true (show (l : Int) ≤ w by omega)]; rfl) ?_⟩
      refine ⟨_, rfl, _, _, rfl, .inr (T.KINDS.t _), by cases k <;> rfl, rfl, _, rfl, iteBF (by rw [kS_in]; rfl) ?_⟩
      have fin : ∀ H3, Same H2 H3 → NewT K [.int o, .int t] H3 (fun z H4 => Q z H4) → True := fun _ _ _ => trivial
      have rest : ∀ p p2 H4, Same H H4 → SqT K H4 p [.int o, .int t] → SqT K H4 p2 [.int (wa w k f s' l).1, .int (wa w k f s' l).2] → Q (.bl (PyData.eqv (.tuple [.int o, .int t]) (.tuple [.int (wa w k f s' l).1, .int (wa w k f s' l).2]))) H4 := fun p p2 H4 s4 _ _ => by
        rw [← hwa, eqvR (by rfl)]
        exact q _ s4
      refine ⟨_, rfl, _, _, rfl, rfl, _, rfl, ite3 (fun e => ?_) (fun e => ?_)⟩
      · have h0 : 0 < l := by
          have := of_decide_eq_true e
          omega
        have hm : ((w : Int) - (l : Int)) % (d : Int) = 0 := by
          have e1 : ((w : Int) - (l : Int)) = ((w - l : Nat) : Int) := by omega
          rw [e1, ← Int.natCast_emod, hmod h0]
          rfl
        refine ⟨_, rfl, _, rfl, _, _, rfl, rfl, _, rfl, _, _, rfl, rfl, (by show (0 : Int) < d; omega), rfl, _, rfl, iteBF (neFI hm) ?_⟩
        refine ⟨_, rfl, _, rfl, sz, fun p H3 s3 e3 => ?_⟩
        refine ⟨_, rfl, _, rfl, _, rfl, _, rfl, _, rfl, w, k, f, s', l, rfl, w1, w2, hlw, f0, f1, s0, s1', fun p2 H4 s4 e4 => ⟨_, _, dp2 (sT s4 e3), dp2 e4, rfl, rfl, ?_⟩⟩
        exact rest p p2 _ (((s1.trans s2).trans s3).trans s4) (sT s4 e3) e4
      · refine ⟨_, rfl, _, rfl, sz, fun p H3 s3 e3 => ?_⟩
        refine ⟨_, rfl, _, rfl, _, rfl, _, rfl, _, rfl, w, k, f, s', l, rfl, w1, w2, hlw, f0, f1, s0, s1', fun p2 H4 s4 e4 => ⟨_, _, dp2 (sT s4 e3), dp2 e4, rfl, rfl, ?_⟩⟩
        exact rest p p2 _ (((s1.trans s2).trans s3).trans s4) (sT s4 e3) e4
def sp_require_long (K : PySem.W.Frag) : Sp := fun vs H Q _ => ∃ (w d : Nat), vs = [.int w, .int d] ∧ 1 ≤ w ∧ w ≤ 16 ∧ 1 ≤ d ∧ d ≤ 4 ∧ Q .non H
theorem ok_require_long (T : Txt K mg) : FnOk P w K mg base CX0 3 T.require_long.f T.require_long.fd ["width", "step"] (sp_require_long K) := by
  refine T.require_long.F.ok sc_require_long (fun vs H Q E h => ?_) (fun cdv A outer s H vs Q E hr h => ?_)
  · obtain ⟨w, d, rfl, _⟩ := h
    rfl
  · obtain ⟨w, d, rfl, w1, w2, d1, d2, q⟩ := h
    refine ⟨_, (pss_cons (ps_if (pt_not (pt_val (pe_call (ok_is_within T) (hr.mono (by decide)) (by rfl) T.is_within.g T.is_within.F.kp T.is_within.b .nil pass0 (pa_cons (pv 0) (pa_cons pe_int (pa_cons (pe_glob rfl T.MAX_LONG.g T.MAX_LONG.r) pa_nil)))))) 
        (pss_one ps_never) pss_nil) 
      (pss_one (ps_if (pt_not (pt_val (pe_call (ok_is_within T) (hr.mono (by decide)) (by rfl) T.is_within.g T.is_within.F.kp T.is_within.b .nil pass0 (pa_cons (pv 1) (pa_cons pe_int (pa_cons (pe_glob rfl T.MAX_STEP.g T.MAX_STEP.r) pa_nil)))))) 
        (pss_one ps_never) pss_nil))), ?_⟩
    refine ⟨_, rfl, w, 1, 16, rfl, _, rfl, iteN (by rw [decide_eq_true (show (1 : Int) ≤ w by omega), decide_eq_true (show (w : Int) ≤ 16 by omega)]; rfl) ?_⟩
    exact ⟨_, rfl, d, 1, 4, rfl, _, rfl, iteN (by rw [decide_eq_true (show (1 : Int) ≤ d by omega), decide_eq_true (show (d : Int) ≤ 4 by omega)]; rfl) q⟩
def sp_is_long (K : PySem.W.Frag) : Sp := sp_is_state K
theorem ok_is_long (T : Txt K mg) : FnOk P w K mg base CX0 5 T.is_long.f T.is_long.fd ["width", "step", "value"] (sp_is_long K) := by
  refine T.is_long.F.ok sc_is_long (fun vs H Q E h => ?_) (fun cdv A outer s H vs Q E hr h => ?_)
  · obtain ⟨w, d, a, st, rfl, _⟩ := h
    rfl
  · obtain ⟨w, d, a, st, rfl, ht, hl, w1, w2, d1, d2, q⟩ := h
    refine ⟨_, (pss_cons (ps_expr (pe_call (ok_require_long T) (hr.mono (by decide)) (by rfl) T.require_long.g T.require_long.F.kp T.require_long.b .nil pass0 (pa_cons (pv 0) (pa_cons (pv 1) pa_nil)))) 
      (pss_one (ps_ret (pe_call (ok_is_state T) (hr.mono (by decide)) (by rfl) T.is_state.g T.is_state.F.kp T.is_state.b .nil pass0 (pa_cons (pv 0) (pa_cons (pv 1) (pa_cons (pv 2) pa_nil))))))), ?_⟩
    exact ⟨_, rfl, _, rfl, w, d, rfl, w1, w2, d1, d2, _, rfl, _, rfl, _, rfl, w, d, a, st, rfl, ht, hl, w1, w2, d1, d2, q⟩
def sp_long_beat (K : PySem.W.Frag) : Sp := fun vs H Q _ => ∃ (w d : Nat) (a : Addr) (st : LState) (v : V) (A : Ask), vs = [.int w, .int d, .ref a, v] ∧ SqT K H a (lsV st) ∧ AskAt K H v A ∧ AskOk w A ∧ 1 ≤ w ∧ w ≤ 16 ∧ 1 ≤ d ∧ d ≤ 4 ∧ LOk w d st ∧
  ∀ p b H', Same H H' → SqT K H' p [.ref b, toldV (beat w d st A).2] → SqT K H' b (lsV (beat w d st A).1) → Q (.ref p) H'
theorem ok_long_beat (T : Txt K mg) : FnOk P w K mg base CX0 6 T.long_beat.f T.long_beat.fd ["width", "step", "state", "ask"] (sp_long_beat K) := by
  refine T.long_beat.F.ok sc_long_beat (fun vs H Q E h => ?_) (fun cdv A outer s H vs Q E hr h => ?_)
  · obtain ⟨w, d, a, st, v, A, rfl, _⟩ := h
    rfl
  · obtain ⟨w, d, a, st, v, ak, rfl, ht, ha, hok, w1, w2, d1, d2, hl, q⟩ := h
    refine ⟨_, (pss_cons (ps_expr (pe_call (ok_require_long T) (hr.mono (by decide)) (by rfl) T.require_long.g T.require_long.F.kp T.require_long.b .nil pass0 (pa_cons (pv 0) (pa_cons (pv 1) pa_nil)))) 
      (pss_cons (ps_if (pt_not (pt_val (pe_call (ok_is_state T) (hr.mono (by decide)) (by rfl) T.is_state.g T.is_state.F.kp T.is_state.b .nil pass0 (pa_cons (pv 0) (pa_cons (pv 1) (pa_cons (pv 2) pa_nil)))))) 
        (pss_one ps_never) pss_nil) 
      (pss_cons (ps_if (pt_not (pt_val (pe_call (ok_is_ask T) (hr.mono (by decide)) (by rfl) T.is_ask.g T.is_ask.F.kp T.is_ask.b .nil pass0 (pa_cons (pv 0) (pa_cons (pv 3) pa_nil))))) 
        (pss_one ps_never) pss_nil) 
      (pss_one (ps_ret (pe_call (ok_behind_beat T) (hr.mono (by decide)) (by rfl) T.behind_beat.g T.behind_beat.F.kp T.behind_beat.b .nil pass0 (pa_cons (pv 0) (pa_cons (pv 1) (pa_cons (pv 2) (pa_cons (pv 3) pa_nil)))))))))), ?_⟩
    refine ⟨_, rfl, _, rfl, w, d, rfl, w1, w2, d1, d2, ?_⟩
    refine ⟨_, rfl, _, rfl, _, rfl, w, d, a, st, rfl, ht, hl, w1, w2, d1, d2, fun H1 s1 => ⟨true, rfl, iteF ?_⟩⟩
    refine ⟨_, rfl, _, rfl, w, v, ak, rfl, ha.lm (LMut.of s1), hok, w2, fun H2 s2 => ⟨true, rfl, iteF ?_⟩⟩
    exact ⟨_, rfl, _, rfl, _, rfl, _, rfl, w, d, a, st, v, ak, rfl, sT (s1.trans s2) ht, ha.lm (LMut.of (s1.trans s2)), w1, w2, d2, hl, fun p b H3 s3 t1 t2 => q p b H3 ((s1.trans s2).trans s3) t1 t2⟩
end
end TB
namespace TB
open PySem PySem.Spec PyProof.Rows L2
section
variable {P : Program} {w : World} {K : PySem.W.Frag} {mg : Str → Option Value} {base : Heap}
structure Asks (K : PySem.W.Frag) (H : Hp) (xs : List V) (as : List Ask) : Prop where
  len : xs.length = as.length
  at' : ∀ (i : Nat) x A, xs[i]? = some x → as[i]? = some A → AskAt K H x A
section
variable {H H' : Hp} {xs : List V} {as : List Ask}
theorem Asks.lm (u : LMut H H') (h : Asks K H xs as) : Asks K H' xs as := ⟨h.len, fun i x A e1 e2 => (h.at' i x A e1 e2).lm u⟩
theorem Asks.get (h : Asks K H xs as) {i : Nat} {x : V} (e : xs[i]? = some x) : ∃ A, as[i]? = some A ∧ AskAt K H x A := by
  have hi := (List.getElem?_eq_some_iff.mp e).1
  rw [h.len] at hi
  exact ⟨_, List.getElem?_eq_getElem hi, h.at' i x _ e (List.getElem?_eq_getElem hi)⟩
theorem Asks.append {ys : List V} {bs : List Ask} (h : Asks K H xs as) (g : Asks K H ys bs) : Asks K H (xs ++ ys) (as ++ bs) := by
  refine ⟨by rw [List.length_append, List.length_append, h.len, g.len], fun i x A e1 e2 => ?_⟩
  by_cases hi : i < xs.length
  · rw [List.getElem?_append_left hi] at e1
    rw [List.getElem?_append_left (by rw [← h.len]; exact hi)] at e2
    exact h.at' i x A e1 e2
  · rw [List.getElem?_append_right (by omega)] at e1
    rw [List.getElem?_append_right (by rw [← h.len]; omega), ← h.len] at e2
    exact g.at' _ x A e1 e2
theorem Asks.one {v : V} {A : Ask} (h : AskAt K H v A) : Asks K H [v] [A] := ⟨rfl, fun i x B e1 e2 => by
  cases i with
  | zero =>
    cases e1
    cases e2
    exact h
  | succ i => cases e1⟩
theorem Asks.nones (n : Nat) : Asks K H (List.replicate n .non) (List.replicate n .none) := ⟨by simp, fun i x A e1 e2 => by
  rw [List.getElem?_replicate] at e1 e2
  split at e1
  · rename_i hi
    rw [if_pos hi] at e2
    cases e1
    cases e2
    rfl
  · cases e1⟩
theorem Asks.take (h : Asks K H xs as) (n : Nat) : Asks K H (xs.take n) (as.take n) := by
  refine ⟨by rw [List.length_take, List.length_take, h.len], fun i x A e1 e2 => ?_⟩
  rw [List.getElem?_take] at e1 e2
  split at e1
  · rename_i hi
    rw [if_pos hi] at e2
    exact h.at' i x A e1 e2
  · cases e1
end
theorem wa_top {w : Nat} {f s : Int} (k : K3) (f0 : 0 ≤ f) (f1 : f < 2 ^ w) (s0 : 0 ≤ s) (s1 : s < 2 ^ w) : wa w k f s w = (0, match k with | .times => s | _ => f) := by
  have ef : f / 2 ^ w = 0 := Int.ediv_eq_zero_of_lt f0 f1
  have es : s / 2 ^ w = 0 := Int.ediv_eq_zero_of_lt s0 s1
  have ep : prt s 0 0 = 0 := by
    unfold prt
    split
    · exact Int.zero_ediv s
    · rfl
  have er : rst s 0 = 0 := by
    unfold rst
    split
    · exact Int.zero_emod s
    · rfl
  have hP : waP w f s w = (0, f) := by
    unfold waP
    rw [ef, Nat.sub_self, ep, er, Int.pow_zero, Int.mul_one, Int.add_zero, Int.emod_eq_of_lt f0 f1]
  cases k with
  | times =>
    show (f * (s / 2 ^ w) % 2 ^ w, s * 2 ^ (w - w) % 2 ^ w) = (0, s)
    rw [es, Int.mul_zero, Int.zero_emod, Nat.sub_self, Int.pow_zero, Int.mul_one, Int.emod_eq_of_lt s0 s1]
  | part => exact hP
  | rest => exact hP
theorem beat_ok {w d : Nat} {st : LState} {A : Ask} (hl : LOk w d st) (ha : AskOk w A) (d1 : 1 ≤ d) : LOk w d (beat w d st A).1 := by
  cases A with
  | stop => exact True.intro
  | beg k f s =>
    obtain ⟨f0, f1, s0, s1⟩ := ha
    exact ⟨f0, f1, s0, s1, Nat.le_refl _, fun _ => by rw [Nat.sub_self, Nat.zero_mod], (wa_top k f0 f1 s0 s1).symm⟩
  | none =>
    cases st with
    | idle => exact True.intro
    | run k f s l o t =>
      obtain ⟨f0, f1, s0, s1, hlw, hm, hwa⟩ := hl
      by_cases h : 0 < l
      · have e : beat w d (.run k f s l o t) .none = (.run k f s (l - min d l) (rnds w k f s (min d l) (o, t)).1 (rnds w k f s (min d l) (o, t)).2, none) := if_pos h
        rw [e]
        refine ⟨f0, f1, s0, s1, by omega, fun h2 => ?_, ?_⟩
        · have e1 : w - (l - min d l) = w - l + d := by omega
          rw [e1, Nat.add_mod_right]
          exact hm h
        · rw [hwa, rnds_wa k (min d l) hlw (Nat.min_le_right _ _) f0 f1 s0 s1]
      · have e : beat w d (.run k f s l o t) .none = (.idle, some (resV k o t)) := if_neg h
        rw [e]
        exact True.intro
/-- the state ahead of the i-th beat, what the i-th beat tells -/
def stI (w d : Nat) (as : List Ask) (i : Nat) : LState := (as.take i).foldl (fun st A => (beat w d st A).1) .idle
def toldI (w d : Nat) (as : List Ask) (i : Nat) : Option Int := match as[i]? with
  | some A => (beat w d (stI w d as i) A).2
  | none => none
def tolds (w d : Nat) (as : List Ask) (n : Nat) : List (Option Int) := (List.range n).map (toldI w d as)
theorem stI_succ {w d : Nat} {as : List Ask} {i : Nat} {A : Ask} (e : as[i]? = some A) : stI w d as (i + 1) = (beat w d (stI w d as i) A).1 := by
  unfold stI
  rw [take_succ_of e, List.foldl_append]
  rfl
theorem tolds_succ {w d : Nat} {as : List Ask} {i : Nat} {A : Ask} (e : as[i]? = some A) : tolds w d as (i + 1) = tolds w d as i ++ [(beat w d (stI w d as i) A).2] := by
  unfold tolds
  rw [List.range_succ, List.map_append]
  congr 1
  show [toldI w d as i] = _
  unfold toldI
  rw [e]
theorem stI_ok {w d : Nat} {as : List Ask} (ha : ∀ A ∈ as, AskOk w A) (d1 : 1 ≤ d) : ∀ i, i ≤ as.length → LOk w d (stI w d as i)
  | 0, _ => by
    unfold stI
    rw [List.take_zero]
    exact True.intro
  | i + 1, hi => by
    have e : as[i]? = some as[i] := List.getElem?_eq_getElem (by omega)
    rw [stI_succ e]
    exact beat_ok (stI_ok ha d1 i (by omega)) (ha _ (List.mem_of_getElem? e)) d1
def sp_long_run (K : PySem.W.Frag) : Sp := fun vs H Q _ => ∃ (w d : Nat) (a : Addr) (xs : List V) (as : List Ask), vs = [.int w, .int d, .ref a] ∧ SqT K H a xs ∧ Asks K H xs as ∧ (∀ A ∈ as, AskOk w A) ∧ as.length ≤ 400 ∧ 1 ≤ w ∧ w ≤ 16 ∧ 1 ≤ d ∧ d ≤ 4 ∧
  NewT K ((tolds w d as as.length).map toldV) H Q
theorem ok_long_run (T : Txt K mg) : FnOk P w K mg base CX0 6 T.long_run.f T.long_run.fd ["width", "step", "asks"] (sp_long_run K) := by
  refine T.long_run.F.ok sc_long_run (fun vs H Q E h => ?_) (fun cdv A outer s H vs Q E hr h => ?_)
  · obtain ⟨w, d, a, xs, as, rfl, _⟩ := h
    rfl
  · obtain ⟨w, d, a, xs, as, rfl, ht, hA, hok, hn, w1, w2, d1, d2, q⟩ := h
    have hlen := hA.len
    refine ⟨_, (pss_cons (ps_expr (pe_call (ok_require_long T) (hr.mono (by decide)) (by rfl) T.require_long.g T.require_long.F.kp T.require_long.b .nil pass0 (pa_cons (pv 0) (pa_cons (pv 1) pa_nil)))) 
      (pss_cons (ps_if (PW.pt (pw_or (pt_not (pt_val (pe_callB call_isiK (by rfl) T.z_isinstance (by decide +kernel) (pa_cons (pv 2) (pa_cons (pe_bltn (v := .ty "tuple") (by rfl) T.z_tuple (by decide +kernel) rfl) pa_nil))))) (pw_or (pt_cmpR op_gt (pe_callB call_len_seq (by rfl) T.z_len PySem.boot_len (pa_cons (pv 2) pa_nil)) (pe_glob rfl T.MAX_ASKS.g T.MAX_ASKS.r) (nomark _)) (pw_or1 (pt_not (pt_val (pe_callB (cr_all rfl) (by rfl) T.z_all (by decide +kernel) (pa_cons (pe_lc (own := [("ask", 3)]) (by rfl) sc_long_run.nd (pi_tup (pv 2)) (blkOk_by (own := [("ask", 3)]) (N := ["width", "step", "asks", "ask", "state", "found", "told"]) (sc := defScope s_long_run) (by decide +kernel)) (fun _ _ _ _ _ => (pg_name (i := 3) sc_long_run.nd rfl (.inl rfl))) (fun _ _ _ _ _ => pts_nil) (fun _ _ _ _ _ => (pe_call (ok_is_ask T) (hr.mono (by decide)) (by rfl) T.is_ask.g T.is_ask.F.kp T.is_ask.b .nil pass0 (pa_cons (pv 0) (pa_cons (pv 3) pa_nil))))) pa_nil)))))))) 
        (pss_one ps_never) pss_nil) 
      (pss_cons (ps_par (i := 4) (j := 5) rfl sc_long_run.nd rfl rfl (by decide) rfl rfl (pa_cons (pe_glob (v := .ref T.IDLE.a) rfl T.IDLE.g rfl) (pa_cons (pe_lstA pa_nil) pa_nil)) (by rfl)) 
      (pss_cons (ps_for PassesOwn.never rfl (pi_tup (pv 2)) (pg_name (i := 3) sc_long_run.nd rfl (.inl rfl)) 
        (pss_cons (ps_asg (pe_call (ok_behind_beat T) (hr.mono (by decide)) (by rfl) T.behind_beat.g T.behind_beat.F.kp T.behind_beat.b .nil pass0 (pa_cons (pv 0) (pa_cons (pv 1) (pa_cons (pv 4) (pa_cons (pv 3) pa_nil))))) (pg_tup rfl (pgs_cons (pg_name (i := 4) sc_long_run.nd rfl (.inl rfl)) (pgs_cons (pg_name (i := 6) sc_long_run.nd rfl (.inl rfl)) pgs_nil)))) 
        (pss_one (ps_expr (pe_bm PySem.F.plainAttrs_list PySem.F.slot_list_append PySem.F.type_list_append mt_append (pv 5) (pa_cons (pv 6) pa_nil)))))) 
      (pss_one (ps_ret (pe_callTy call_tupleA (by rfl) T.z_tuple (by decide +kernel) (pa_cons (pv 5) pa_nil)))))))), ?_⟩
    refine ⟨_, rfl, _, rfl, w, d, rfl, w1, w2, d1, d2, ?_⟩
    refine ⟨_, rfl, _, _, _, rfl, .t ht, by decide, true, rfl, iteF ?_⟩
    refine ⟨_, rfl, a, _, rfl, .inr ht, _, _, rfl, rfl, _, rfl, iteBF (decide_eq_false (by omega)) ?_⟩
    refine ⟨_, rfl, a, rfl, ⟨_, ht⟩, lc_tupF ht (fun v => some (V.bl true)) (by omega) ?_ fun D H1 s1 e1 _ => ?_⟩
    · intro i x H' hx sm R N hR _
      obtain ⟨B, eB, hB⟩ := hA.get hx
      exact ⟨rfl, _, rfl, _, rfl, w, x, B, rfl, hB.lm (LMut.of sm), hok _ (List.mem_of_getElem? eB), w2, fun H2 s2 => hR _ _ rfl s2⟩
    rw [filterMap_some] at e1
    have ea : (xs.map fun _ => true).all id = true := by
      rw [List.all_map, List.all_eq_true]
      intro x _
      rfl
    refine ⟨D, xs.map fun _ => true, rfl, SqL.of (by rw [List.map_map]; exact e1), _, rfl, iteN ea ?_⟩
    refine ⟨sz, fun F H2 s2 e2 nF => ⟨_, _, rfl, ?_⟩⟩
    have s12 := s1.trans s2
    refine ⟨_, rfl, a, rfl, ⟨_, sT s12 ht⟩, for_tup (K := K) (a := a) (xs := xs) (fun i σ H' => ∃ (b : Addr) (y1 y2 : Option V), σ = [some (.int w), some (.int d), some (.ref a), y1, some (.ref b), some (.ref F), y2] ∧ i ≤ as.length ∧ Same H1 H' ∧ SqT K H' b (lsV (stI w d as i)) ∧ H' F = some (.lst ((tolds w d as i).map toldV)))
      ⟨_, none, none, rfl, Nat.zero_le _, s2, T.IDLE.t _, e2⟩ ?_ ?_ ?_⟩
    · rintro i σ H' _ ⟨b, y1, y2, _, _, s, _, _⟩
      exact sT (s1.trans s) ht
    · rintro i x σ H3 hx ⟨b, y1, y2, rfl, hi, s3, hb, eF⟩
      obtain ⟨B, eB, hB⟩ := hA.get hx
      refine ⟨_, rfl, _, rfl, _, rfl, _, rfl, w, d, b, stI w d as i, x, B, rfl, hb, hB.lm (LMut.of (s1.trans s3)), w1, w2, d2, stI_ok hok d1 i hi, fun p c H4 s4 tp tc => ?_⟩
      refine ⟨p, _, rfl, tp, rfl, _, _, rfl, _, [], rfl, rfl, ?_⟩
      have eF4 := s4 _ _ eF
      have hl4 : (tolds w d as i).length = i := by
        unfold tolds
        rw [List.length_map, List.length_range]
      refine ⟨_, rfl, .inl ⟨rfl, _, SqL.of eF4⟩, _, rfl, F, _, _, rfl, rfl, eF4, szlt (by rw [List.length_map, hl4]; omega), ?_⟩
      have hi2 := (List.getElem?_eq_some_iff.mp eB).1
      refine ⟨c, _, _, rfl, hi2, Same.back nF (s3.trans s4) But.mut, ?_, ?_⟩
      · rw [stI_succ eB]
        exact (LMut.mut _ eF4).seqT tc
      · rw [upd_same, tolds_succ eB, List.map_append]
        rfl
    · rintro σ H3 ⟨b, y1, y2, rfl, _, s3, hb, eF⟩
      rw [hA.len] at eF
      exact ⟨_, rfl, F, _, rfl, .inl (SqL.of eF), fun p H4 s4 e4 => q p H4 ((s1.trans s3).trans s4) e4⟩
end
end TB
namespace TB
open PySem PySem.Spec PyProof.Rows L2
section
variable {P : Program} {w : World} {K : PySem.W.Frag} {mg : Str → Option Value} {base : Heap}
def sp__law_dice (K : PySem.W.Frag) : Sp := fun vs H Q _ => ∃ (a : Addr) (ns : List Int) (i : Nat), vs = [.ref a, .int i] ∧ SqL K H a (ns.map V.int) ∧ ∀ x y z : Int, NewL [.int x, .int y, .int z] H Q
theorem ok__law_dice (T : Txt K mg) : FnOk P w K mg base CX0 1 T._law_dice.f T._law_dice.fd ["_law_script", "_law_at"] (sp__law_dice K) := by
  refine T._law_dice.F.ok sc__law_dice (fun vs H Q E h => ?_) (fun cdv A outer s H vs Q E hr h => ?_)
  · obtain ⟨a, ns, i, rfl, _⟩ := h
    rfl
  · obtain ⟨a, ns, i, rfl, hS, q⟩ := h
    refine ⟨_, (pss_cons (ps_set (i := 2) sc__law_dice.nd rfl (.inl rfl) (pe_op op_add (pe_op op_mul pe_int (pv 1)) pe_int)) 
      (pss_cons (ps_if (pt_cmpR op_lt (pv 1) (pe_callB call_len_seq (by rfl) T.z_len PySem.boot_len (pa_cons (pv 0) pa_nil)) (nomark _)) 
        (pss_one (ps_set (i := 2) sc__law_dice.nd rfl (.inl rfl) (pe_ix ix_list (pv 0) (pv 1) (fun _ _ => rfl)))) pss_nil) 
      (pss_cons (ps_set (i := 3) sc__law_dice.nd rfl (.inl rfl) (pe_op op_mod (pe_callTy call_int1 (by rfl) T.z_int (by decide +kernel) (pa_cons (pe_callB call_abs (by rfl) T.z_abs (by decide +kernel) (pa_cons (pv 2) pa_nil)) pa_nil)) (pe_op op_powW (pe_op op_pow pe_int pe_int) pe_int))) 
      (pss_cons (ps_set (i := 4) sc__law_dice.nd rfl (.inl rfl) (pe_op op_fdivW (pv 3) (pe_op op_pow pe_int pe_int))) 
      (pss_cons (ps_set (i := 5) sc__law_dice.nd rfl (.inl rfl) (pe_op op_add (pe_op op_add (pe_op op_add (pe_op op_mul (pe_op op_mod (pv 3) pe_int) pe_int) (pe_op op_mul pe_int (pv 1))) (pe_op op_mul pe_int (pe_callTy call_int1 (by rfl) T.z_int (by decide +kernel) (pa_cons (pe_cmpR op_lt (pv 2) pe_int (nomark _)) pa_nil)))) pe_int)) 
      (pss_one (ps_ret (pe_lstA (pa_cons (pv 4) (pa_cons (pe_op op_mod (pv 5) pe_int) (pa_cons pe_int pa_nil))))))))))), ?_⟩
    refine ⟨_, rfl, 127, i, rfl, rfl, .inl (by decide), _, _, rfl, rfl, ?_⟩
    refine ⟨_, rfl, _, rfl, a, _, rfl, .inl hS, _, _, rfl, rfl, _, rfl, ite3 (fun e => ?_) (fun e => ?_)⟩
    · have hi : i < ns.length := by
        have := of_decide_eq_true e
        rw [List.length_map] at this
        omega
      refine ⟨_, rfl, _, rfl, a, _, i, .int ns[i], rfl, rfl, hS, atI_nat (by rw [List.getElem?_map, List.getElem?_eq_getElem hi]; rfl), ?_⟩
      refine ⟨_, rfl, _, rfl, .inl ⟨_, rfl, _, _, rfl, rfl, ⟨by decide, by decide, by decide⟩, _, _, rfl, rfl, ⟨by decide, by decide⟩, _, _, rfl, rfl, (show (0 : Int) < (10 ^ 62) ^ 10 by decide +kernel), ?_⟩⟩
      refine ⟨_, rfl, 10, 18, rfl, rfl, ⟨by decide, by decide, by decide⟩, _, _, rfl, rfl, ⟨by decide, by decide⟩, ?_⟩
      refine ⟨_, rfl, _, _, rfl, rfl, p0, _, _, rfl, rfl, cmulR, _, rfl, _, _, rfl, rfl, cmulL, _, _, rfl, rfl, _, rfl, _, _, rfl, rfl, .inr ⟨_, rfl, _, _, rfl, rfl, cmulL, _, _, rfl, rfl, _, _, rfl, rfl, ?_⟩⟩
      exact ⟨_, rfl, _, rfl, _, _, rfl, rfl, p0, sz, q _ _ _⟩
    · refine ⟨_, rfl, _, rfl, .inl ⟨_, rfl, _, _, rfl, rfl, ⟨by decide, by decide, by decide⟩, _, _, rfl, rfl, ⟨by decide, by decide⟩, _, _, rfl, rfl, (show (0 : Int) < (10 ^ 62) ^ 10 by decide +kernel), ?_⟩⟩
      refine ⟨_, rfl, 10, 18, rfl, rfl, ⟨by decide, by decide, by decide⟩, _, _, rfl, rfl, ⟨by decide, by decide⟩, ?_⟩
      refine ⟨_, rfl, _, _, rfl, rfl, p0, _, _, rfl, rfl, cmulR, _, rfl, _, _, rfl, rfl, cmulL, _, _, rfl, rfl, _, rfl, _, _, rfl, rfl, .inr ⟨_, rfl, _, _, rfl, rfl, cmulL, _, _, rfl, rfl, _, _, rfl, rfl, ?_⟩⟩
      exact ⟨_, rfl, _, rfl, _, _, rfl, rfl, p0, sz, q _ _ _⟩
def sp__law_roll (K : PySem.W.Frag) : Sp := fun vs H Q _ => ∃ (d : Addr) (n : Int), vs = [.ref d, .int n] ∧ Dice H d ∧ 0 < n ∧ n ≤ 2 ^ 64 ∧ ∀ r H', 0 ≤ r → r < n → Ext d H H' → Q (.int r) H'
theorem ok__law_roll (T : Txt K mg) : FnOk P w K mg base CX0 1 T._law_roll.f T._law_roll.fd ["_law_dice_here", "_law_total"] (sp__law_roll K) := by
  refine T._law_roll.F.ok sc__law_roll (fun vs H Q E h => ?_) (fun cdv A outer s H vs Q E hr h => ?_)
  · obtain ⟨d, n, rfl, _⟩ := h
    rfl
  · obtain ⟨d, n, rfl, ⟨x, y, z, hd⟩, h0, h1, q⟩ := h
    have sz : sizeLine = 16777216 := sizeLine_eq
    have f0 : ∀ {x y z : Int}, atI [V.int x, V.int y, V.int z] 0 = some (.int x) := rfl
    have f1 : ∀ {x y z : Int}, atI [V.int x, V.int y, V.int z] 1 = some (.int y) := rfl
    have f2 : ∀ {x y z : Int}, atI [V.int x, V.int y, V.int z] 2 = some (.int z) := rfl
    refine ⟨_, (pss_cons (ps_set (i := 2) sc__law_roll.nd rfl (.inl rfl) (pe_callTy call_int1 (by rfl) T.z_int (by decide +kernel) (pa_cons (pv 1) pa_nil))) 
      (pss_cons (ps_if (pt_cmpR op_gt (pe_ix ix_list (pv 0) pe_int (fun _ _ => rfl)) pe_int (nomark _)) 
        (pss_cons (ps_set (i := 3) sc__law_roll.nd rfl (.inl rfl) (pe_op op_mod (pe_ix ix_list (pv 0) pe_int (fun _ _ => rfl)) (pv 2))) 
        (pss_cons (ps_asg (pe_op op_fdivW (pe_ix ix_list (pv 0) pe_int (fun _ _ => rfl)) (pv 2)) (pg_sub (pv 0) pe_int set_list)) 
        (pss_one (ps_ret (pe_callTy call_int1 (by rfl) T.z_int (by decide +kernel) (pa_cons (pv 3) pa_nil)))))) pss_nil) 
      (pss_cons (ps_asg (pe_op op_add (pe_ix ix_list (pv 0) pe_int (fun _ _ => rfl)) pe_int) (pg_sub (pv 0) pe_int set_list)) 
      (pss_cons (ps_set (i := 4) sc__law_roll.nd rfl (.inl rfl) (pe_op op_mod (pe_op op_add (pe_ix ix_list (pv 0) pe_int (fun _ _ => rfl)) (pe_op op_mul pe_int (pe_ix ix_list (pv 0) pe_int (fun _ _ => rfl)))) pe_int)) 
      (pss_cons (ps_set (i := 5) sc__law_roll.nd rfl (.inl rfl) (pe_op op_add (pe_op op_mul (pe_op op_mod (pe_op op_mul (pv 4) (pv 4)) pe_int) (pv 4)) (pe_op op_mul pe_int (pe_ix ix_list (pv 0) pe_int (fun _ _ => rfl))))) 
      (pss_cons (ps_set (i := 5) sc__law_roll.nd rfl (.inl rfl) (pe_op op_mod (pv 5) pe_int)) 
      (pss_one (ps_ret (pe_callTy call_int1 (by rfl) T.z_int (by decide +kernel) (pa_cons (pe_op op_mod (pe_op op_fdiv (pv 5) pe_int) (pv 2)) pa_nil)))))))))), ?_⟩
    refine ⟨_, rfl, .inl ⟨_, rfl, ?_⟩⟩
    refine ⟨_, rfl, d, _, 0, _, rfl, rfl, SqL.of hd, f0, x, 0, rfl, rfl, _, rfl, ite3 (fun e => ?_) (fun e => ?_)⟩
    · have hw : CDivW x n := wide_div (b := 65) h0 (by omega) (by decide) (by decide)
      refine ⟨_, rfl, d, _, 0, _, rfl, rfl, SqL.of hd, f0, _, rfl, _, _, rfl, rfl, h0, ?_⟩
      refine ⟨_, rfl, d, _, 0, _, rfl, rfl, SqL.of hd, f0, _, rfl, _, _, rfl, rfl, hw, _, rfl, d, _, 0, 0, rfl, rfl, hd, rfl, ?_⟩
      exact ⟨_, rfl, .inl ⟨_, rfl, q _ _ (Int.emod_nonneg _ (by omega)) (Int.emod_lt_of_pos _ h0) Ext.roll⟩⟩
    · refine ⟨_, rfl, d, _, 2, _, rfl, rfl, SqL.of hd, f2, _, _, rfl, rfl, _, rfl, d, _, 2, 2, rfl, rfl, hd, rfl, ?_⟩
      have h2 : (upd H d (dl x y (z + 1))) d = some (dl x y (z + 1)) := upd_same
      refine ⟨_, rfl, d, _, 1, _, rfl, rfl, SqL.of h2, f1, _, rfl, d, _, 2, _, rfl, rfl, SqL.of h2, f2, 1000427, _, rfl, rfl, .inl (by decide), _, _, rfl, rfl, _, _, rfl, rfl, p0, ?_⟩
      have m0 := Int.emod_nonneg (y + 1000427 * (z + 1)) (by decide : (2305843009213693951 : Int) ≠ 0)
      have m1 := Int.emod_lt_of_pos (y + 1000427 * (z + 1)) (by decide : (0 : Int) < 2305843009213693951)
      refine ⟨_, rfl, _, rfl, _, _, rfl, rfl, .inl ⟨by omega, by omega⟩, _, _, rfl, rfl, p0, _, rfl, _, _, rfl, rfl, .inr ⟨by omega, by omega⟩, _, rfl, d, _, 2, _, rfl, rfl, SqL.of h2, f2, 9539, _, rfl, rfl, .inl (by decide), _, _, rfl, rfl, ?_⟩
      refine ⟨_, rfl, _, _, rfl, rfl, p0, ?_⟩
      exact ⟨_, rfl, _, _, rfl, rfl, cdiv, _, rfl, _, _, rfl, rfl, h0, .inl ⟨_, rfl, q _ _ (Int.emod_nonneg _ (by omega)) (Int.emod_lt_of_pos _ h0) Ext.roll⟩⟩
def sp__law_one_of (K : PySem.W.Frag) : Sp := fun vs H Q _ => ∃ (d a : Addr) (xs : List V), vs = [.ref d, .ref a] ∧ Dice H d ∧ a ≠ d ∧ H a = some (.lst xs) ∧ 0 < xs.length ∧ xs.length ≤ 100000 ∧ ∀ v H', v ∈ xs → Ext d H H' → Q v H'
theorem ok__law_one_of (T : Txt K mg) : FnOk P w K mg base CX0 2 T._law_one_of.f T._law_one_of.fd ["_law_dice_here", "_law_items"] (sp__law_one_of K) := by
  refine T._law_one_of.F.ok sc__law_one_of (fun vs H Q E h => ?_) (fun cdv A outer s H vs Q E hr h => ?_)
  · obtain ⟨d, a, xs, rfl, _⟩ := h
    rfl
  · obtain ⟨d, a, xs, rfl, hd, na, ha, h0, h1, q⟩ := h
    refine ⟨_, (pss_one (ps_ret (pe_ix ix_list (pv 1) (pe_call (ok__law_roll T) (hr.mono (by decide)) (by rfl) T._law_roll.g T._law_roll.F.kp T._law_roll.b .nil pass0 (pa_cons (pv 0) (pa_cons (pe_callB call_len_seq (by rfl) T.z_len PySem.boot_len (pa_cons (pv 1) pa_nil)) pa_nil))) (fun _ _ => rfl)))), ?_⟩
    refine ⟨_, rfl, _, rfl, _, rfl, a, _, rfl, .inl (SqL.of ha), d, xs.length, rfl, hd, by omega, by omega, fun r H1 r0 r1 x1 => ?_⟩
    have hi : r.toNat < xs.length := by omega
    have e : xs[r.toNat]? = some xs[r.toNat] := List.getElem?_eq_getElem hi
    exact ⟨a, xs, r, xs[r.toNat], rfl, rfl, SqL.of (x1.s _ _ na ha), at_of (by omega) e, q _ _ (List.getElem_mem hi) x1⟩
def sp__law_two_to (K : PySem.W.Frag) : Sp := fun vs H Q _ => ∃ n : Nat, vs = [.int n] ∧ n ≤ 1000000 ∧ Q (.int (2 ^ n)) H
theorem ok__law_two_to (T : Txt K mg) : FnOk P w K mg base CX0 1 T._law_two_to.f T._law_two_to.fd ["_law_bits"] (sp__law_two_to K) := by
  refine T._law_two_to.F.ok sc__law_two_to (fun vs H Q E h => ?_) (fun cdv A outer s H vs Q E hr h => ?_)
  · obtain ⟨n, rfl, _⟩ := h
    rfl
  · obtain ⟨n, rfl, hn, q⟩ := h
    refine ⟨_, (pss_cons (ps_set (i := 1) sc__law_two_to.nd rfl (.inl rfl) pe_int) 
      (pss_cons (ps_for PassesOwn.never rfl (pi_range1 (by rfl) T.z_range (pa_cons (pv 0) pa_nil)) (pg_name (i := 2) sc__law_two_to.nd rfl (.inl rfl)) 
        (pss_one (ps_set (i := 1) sc__law_two_to.nd rfl (.inl rfl) (pe_op op_mul pe_int (pv 1))))) 
      (pss_one (ps_ret (pv 1))))), ?_⟩
    refine ⟨_, rfl, _, rfl, by omega, by omega, for_rangeN (n := n) (fun i σ H' => ∃ y, σ = [some (.int n), some (.int (2 ^ i)), y] ∧ H' = H) ⟨none, rfl, rfl⟩ ?_ ?_⟩
    · rintro i σ H' hi ⟨y, rfl, rfl⟩
      exact ⟨_, rfl, 2, _, rfl, rfl, .inl (by decide), _, by rw [two_succ]; rfl, rfl⟩
    · rintro σ H' ⟨y, rfl, rfl⟩
      exact ⟨_, rfl, q⟩
theorem rnd_part_eq (w : Nat) (k : K3) (hk : k ≠ .times) (f s o t : Int) : rnd w k f s o t = if s ≤ 2 * o + t / 2 ^ (w - 1) then ((2 * o + t / 2 ^ (w - 1) - s) % 2 ^ w, (2 * t + 1) % 2 ^ w) else ((2 * o + t / 2 ^ (w - 1)) % 2 ^ w, (2 * t + 0) % 2 ^ w) := by
  cases k with
  | times => exact absurd rfl hk
  | part => rfl
  | rest => rfl
def sp__law_round (K : PySem.W.Frag) : Sp := fun vs H Q _ => ∃ (w : Nat) (a : Addr) (k : K3) (f s : Int) (l : Nat) (o t : Int), vs = [.int w, .ref a] ∧ SqT K H a (lsV (.run k f s l o t)) ∧ 1 ≤ w ∧ w ≤ 16 ∧ 1 ≤ l ∧ 0 ≤ f ∧ f < 2 ^ w ∧ 0 ≤ s ∧ s < 2 ^ w ∧ 0 ≤ o ∧ o < 2 ^ w ∧ 0 ≤ t ∧ t < 2 ^ w ∧
  NewT K (lsV (.run k f s (l - 1) (rnd w k f s o t).1 (rnd w k f s o t).2)) H Q
theorem ok__law_round (T : Txt K mg) : FnOk P w K mg base CX0 2 T._law_round.f T._law_round.fd ["_law_width", "_law_state"] (sp__law_round K) := by
  refine T._law_round.F.ok sc__law_round (fun vs H Q E h => ?_) (fun cdv A outer s H vs Q E hr h => ?_)
  · obtain ⟨w, a, k, f, s', l, o, t, rfl, _⟩ := h
    rfl
  · obtain ⟨w, a, k, f, s', l, o, t, rfl, ht, w1, w2, l1, f0, f1, s0, s1, o0, o1, t0, t1, q⟩ := h
    have hp := two_pos w
    have hW : (2 : Int) ^ w ≤ 2 ^ 16 := two_mono w2
    have hp1 := two_pos (w - 1)
    have hp2 : (2 : Int) ^ (w - 1) ≤ 2 ^ 16 := two_mono (by omega)
    have htop : 0 ≤ t / 2 ^ (w - 1) := Int.ediv_nonneg t0 (Int.le_of_lt hp1)
    have htop2 := Int.ediv_le_self (2 ^ (w - 1)) t0
    have el : ((l : Int) - 1) = ((l - 1 : Nat) : Int) := by omega
    refine ⟨_, (pss_cons (ps_asg (pv 1) (pg_tup rfl (pgs_cons (pg_name (i := 2) sc__law_round.nd rfl (.inl rfl)) (pgs_cons (pg_name (i := 3) sc__law_round.nd rfl (.inl rfl)) (pgs_cons (pg_name (i := 4) sc__law_round.nd rfl (.inl rfl)) (pgs_cons (pg_name (i := 5) sc__law_round.nd rfl (.inl rfl)) (pgs_cons (pg_name (i := 6) sc__law_round.nd rfl (.inl rfl)) (pgs_cons (pg_name (i := 7) sc__law_round.nd rfl (.inl rfl)) pgs_nil)))))))) 
      (pss_cons (ps_par (i := 8) (j := 9) rfl sc__law_round.nd rfl rfl (by decide) rfl rfl (pa_cons (pe_call (ok__law_two_to T) (hr.mono (by decide)) (by rfl) T._law_two_to.g T._law_two_to.F.kp T._law_two_to.b .nil pass0 (pa_cons (pv 0) pa_nil)) (pa_cons (pe_op op_fdivW (pv 7) (pe_call (ok__law_two_to T) (hr.mono (by decide)) (by rfl) T._law_two_to.g T._law_two_to.F.kp T._law_two_to.b .nil pass0 (pa_cons (pe_op op_sub (pv 0) pe_int) pa_nil))) pa_nil)) (by rfl)) 
      (pss_cons (ps_if (pt_cmpR op_eq (pv 2) pe_str (nomark _)) 
        (pss_one (ps_ret (pe_tupA (pa_cons (pv 2) (pa_cons (pv 3) (pa_cons (pv 4) (pa_cons (pe_op op_sub (pv 5) pe_int) (pa_cons (pe_op op_mod (pe_op op_add (pe_op op_mul pe_int (pv 6)) (pe_op op_mul (pv 9) (pv 3))) (pv 8)) (pa_cons (pe_op op_mod (pe_op op_mul pe_int (pv 7)) (pv 8)) pa_nil))))))))) pss_nil) 
      (pss_cons (ps_set (i := 10) sc__law_round.nd rfl (.inl rfl) (pe_op op_add (pe_op op_mul pe_int (pv 6)) (pv 9))) 
      (pss_cons (ps_if (pt_cmpR op_ge (pv 10) (pv 4) (nomark _)) 
        (pss_one (ps_ret (pe_tupA (pa_cons (pv 2) (pa_cons (pv 3) (pa_cons (pv 4) (pa_cons (pe_op op_sub (pv 5) pe_int) (pa_cons (pe_op op_mod (pe_op op_sub (pv 10) (pv 4)) (pv 8)) (pa_cons (pe_op op_mod (pe_op op_add (pe_op op_mul pe_int (pv 7)) pe_int) (pv 8)) pa_nil))))))))) pss_nil) 
      (pss_one (ps_ret (pe_tupA (pa_cons (pv 2) (pa_cons (pv 3) (pa_cons (pv 4) (pa_cons (pe_op op_sub (pv 5) pe_int) (pa_cons (pv 10) (pa_cons (pe_op op_mod (pe_op op_mul pe_int (pv 7)) (pv 8)) pa_nil)))))))))))))), ?_⟩
    refine ⟨_, rfl, a, _, rfl, ht, rfl, _, _, rfl, _, _, rfl, _, _, rfl, _, _, rfl, _, _, rfl, _, [], rfl, rfl, ?_⟩
    refine ⟨_, rfl, w, rfl, by omega, _, rfl, _, rfl, _, _, rfl, rfl, w - 1, congrArg (fun z => [V.int z]) (by omega), by omega, _, _, rfl, rfl, wide_div (b := 65) hp1 (by omega) (by decide) (by decide), _, _, rfl, ?_⟩
    by_cases hk : k = .times
    · subst hk
      have er : rnd w .times f s' o t = ((2 * o + t / 2 ^ (w - 1) * f) % 2 ^ w, 2 * t % 2 ^ w) := by
        show ((2 * o + f * (t / 2 ^ (w - 1))) % 2 ^ w, 2 * t % 2 ^ w) = _
        rw [Int.mul_comm f]
      rw [er] at q
      refine ⟨_, rfl, rfl, true, congrArg V.bl (decide_eq_true rfl), iteT ?_⟩
      refine ⟨_, rfl, _, rfl, _, rfl, _, rfl, _, _, rfl, rfl, ?_⟩
      refine ⟨_, rfl, _, _, rfl, rfl, cmulL, _, rfl, _, rfl, _, _, rfl, rfl, .inl ⟨by omega, by omega⟩, _, _, rfl, rfl, _, rfl, _, _, rfl, rfl, hp, ?_⟩
      refine ⟨_, rfl, _, _, rfl, rfl, cmulL, _, rfl, _, _, rfl, rfl, hp, sz, fun p H1 h1 e1 => q p H1 h1 ?_⟩
      have e1' : SqT K H1 p [.str (kS .times), .int f, .int s', .int ((l : Int) - 1), .int ((2 * o + t / 2 ^ (w - 1) * f) % 2 ^ w), .int (2 * t % 2 ^ w)] := e1
      rw [el] at e1'
      exact e1'
    · rw [rnd_part_eq w k hk] at q
      refine ⟨_, rfl, rfl, false, congrArg V.bl (by rw [kS_times, decide_eq_false hk]), iteF ?_⟩
      refine ⟨_, rfl, _, _, rfl, rfl, cmulL, _, rfl, _, _, rfl, rfl, ?_⟩
      refine ⟨_, rfl, _, rfl, _, _, rfl, rfl, _, rfl, ite3 (fun e => ?_) (fun e => ?_)⟩
      · have hg : s' ≤ 2 * o + t / 2 ^ (w - 1) := of_decide_eq_true e
        rw [if_pos hg] at q
        refine ⟨_, rfl, _, rfl, _, rfl, _, rfl, _, _, rfl, rfl, ?_⟩
        refine ⟨_, rfl, _, rfl, _, _, rfl, rfl, _, rfl, _, _, rfl, rfl, hp, ?_⟩
        refine ⟨_, rfl, _, _, rfl, rfl, cmulL, _, _, rfl, rfl, _, rfl, _, _, rfl, rfl, hp, sz, fun p H1 h1 e1 => q p H1 h1 ?_⟩
        have e1' : SqT K H1 p [.str (kS k), .int f, .int s', .int ((l : Int) - 1), .int ((2 * o + t / 2 ^ (w - 1) - s') % 2 ^ w), .int ((2 * t + 1) % 2 ^ w)] := e1
        rw [el] at e1'
        exact e1'
      · have hg : ¬ s' ≤ 2 * o + t / 2 ^ (w - 1) := of_decide_eq_false e
        rw [if_neg hg, Int.add_zero, Int.emod_eq_of_lt (a := 2 * o + t / 2 ^ (w - 1)) (by omega) (by omega)] at q
        refine ⟨_, rfl, _, rfl, _, rfl, _, rfl, _, _, rfl, rfl, ?_⟩
        refine ⟨_, rfl, ?_⟩
        refine ⟨_, rfl, _, _, rfl, rfl, cmulL, _, rfl, _, _, rfl, rfl, hp, sz, fun p H1 h1 e1 => q p H1 h1 ?_⟩
        have e1' : SqT K H1 p [.str (kS k), .int f, .int s', .int ((l : Int) - 1), .int (2 * o + t / 2 ^ (w - 1)), .int (2 * t % 2 ^ w)] := e1
        rw [el] at e1'
        exact e1'
def sp__law_beat (K : PySem.W.Frag) : Sp := fun vs H Q _ => ∃ (w d : Nat) (a : Addr) (st : LState) (v : V) (A : Ask), vs = [.int w, .int d, .ref a, v] ∧ SqT K H a (lsV st) ∧ AskAt K H v A ∧ 1 ≤ w ∧ w ≤ 16 ∧ d ≤ 4 ∧ LOk w d st ∧
  ∀ p b H', Same H H' → SqT K H' p [.ref b, toldV (beat w d st A).2] → SqT K H' b (lsV (beat w d st A).1) → Q (.ref p) H'
theorem ok__law_beat (T : Txt K mg) : FnOk P w K mg base CX0 3 T._law_beat.f T._law_beat.fd ["_law_width", "_law_step", "_law_state", "_law_ask"] (sp__law_beat K) := by
  refine T._law_beat.F.ok sc__law_beat (fun vs H Q E h => ?_) (fun cdv A outer s H vs Q E hr h => ?_)
  · obtain ⟨w, d, a, st, v, A, rfl, _⟩ := h
    rfl
  · obtain ⟨w, d, a, st, v, ak, rfl, ht, ha, w1, w2, d4, hl, q⟩ := h
    refine ⟨_, (pss_cons (ps_set (i := 4) sc__law_beat.nd rfl (.inl rfl) (pe_tupA (pa_cons pe_str (pa_cons pe_int (pa_cons pe_int (pa_cons pe_int (pa_cons pe_int (pa_cons pe_int pa_nil)))))))) 
      (pss_cons (ps_if (pt_cmpR op_notN (pv 3) pe_non (nomark _)) 
        (pss_cons (ps_if (pt_cmpR op_eq (pe_ix ix_tup (pv 3) pe_int (fun _ _ => rfl)) pe_str (nomark _)) 
          (pss_one (ps_ret (pe_tupA (pa_cons (pv 4) (pa_cons pe_non pa_nil))))) pss_nil) 
        (pss_one (ps_ret (pe_tupA (pa_cons (pe_tupA (pa_cons (pe_ix ix_tup (pv 3) pe_int (fun _ _ => rfl)) (pa_cons (pe_ix ix_tup (pv 3) pe_int (fun _ _ => rfl)) (pa_cons (pe_ix ix_tup (pv 3) pe_int (fun _ _ => rfl)) (pa_cons (pv 0) (pa_cons pe_int (pa_cons (pe_ifExp (pt_cmpR op_eq (pe_ix ix_tup (pv 3) pe_int (fun _ _ => rfl)) pe_str (nomark _)) (pe_ix ix_tup (pv 3) pe_int (fun _ _ => rfl)) (pe_ix ix_tup (pv 3) pe_int (fun _ _ => rfl))) pa_nil))))))) (pa_cons pe_non pa_nil)))))) pss_nil) 
      (pss_cons (ps_if (pt_cmpR (op_eqD hr.units) (pv 2) (pv 4) (nomark _)) 
        (pss_one (ps_ret (pe_tupA (pa_cons (pv 4) (pa_cons pe_non pa_nil))))) pss_nil) 
      (pss_cons (ps_if (pt_cmpR op_eq (pe_ix ix_tup (pv 2) pe_int (fun _ _ => rfl)) pe_int (nomark _)) 
        (pss_one (ps_ret (pe_tupA (pa_cons (pv 4) (pa_cons (pe_ifExp (pt_cmpR op_eq (pe_ix ix_tup (pv 2) pe_int (fun _ _ => rfl)) pe_str (nomark _)) (pe_ix ix_tup (pv 2) pe_int (fun _ _ => rfl)) (pe_ix ix_tup (pv 2) pe_int (fun _ _ => rfl))) pa_nil))))) pss_nil) 
      (pss_cons (ps_for PassesOwn.never rfl (pi_range1 (by rfl) T.z_range (pa_cons (pv 1) pa_nil)) (pg_name (i := 5) sc__law_beat.nd rfl (.inl rfl)) 
        (pss_one (ps_if (pt_cmpR op_gt (pe_ix ix_tup (pv 2) pe_int (fun _ _ => rfl)) pe_int (nomark _)) 
          (pss_one (ps_set (i := 2) sc__law_beat.nd rfl (.inl rfl) (pe_call (ok__law_round T) (hr.mono (by decide)) (by rfl) T._law_round.g T._law_round.F.kp T._law_round.b .nil pass0 (pa_cons (pv 0) (pa_cons (pv 2) pa_nil))))) pss_nil))) 
      (pss_one (ps_ret (pe_tupA (pa_cons (pv 2) (pa_cons pe_non pa_nil)))))))))), ?_⟩
    refine ⟨sz, fun z H0 h0 e0 => ?_⟩
    cases ak with
    | stop =>
      obtain ⟨b, rfl, hb⟩ := ha
      refine ⟨_, rfl, rfl, _, rfl, iteT ?_⟩
      refine ⟨_, rfl, b, _, 0, _, rfl, rfl, sT h0 hb, atI_nat (j := 0) rfl, rfl, true, congrArg V.bl (decide_eq_true rfl), iteT ?_⟩
      exact ⟨_, rfl, sz, fun p H1 s1 e1 => q p _ H1 (h0.trans s1) e1 (sT s1 e0)⟩
    | beg k f s' =>
      obtain ⟨b, rfl, hb⟩ := ha
      have hb0 := sT h0 hb
      refine ⟨_, rfl, rfl, _, rfl, iteT ?_⟩
      refine ⟨_, rfl, b, _, 0, _, rfl, rfl, hb0, atI_nat (j := 0) rfl, rfl, false, congrArg V.bl (decide_eq_false (by decide)), iteF ?_⟩
      refine ⟨_, rfl, b, _, 1, _, rfl, rfl, hb0, atI_nat (j := 1) rfl, _, rfl, b, _, 2, _, rfl, rfl, hb0, atI_nat (j := 2) rfl, _, rfl, b, _, 3, _, rfl, rfl, hb0, atI_nat (j := 3) rfl, _, rfl, ?_⟩
      refine ⟨_, rfl, b, _, 1, _, rfl, rfl, hb0, atI_nat (j := 1) rfl, rfl, ?_⟩
      cases k with
      | times => exact ⟨_, rfl, iteT ⟨_, rfl, b, _, 3, _, rfl, rfl, hb0, atI_nat (j := 3) rfl, sz, fun c H1 s1 e1 => ⟨sz, fun p H2 s2 e2 => q p _ H2 ((h0.trans s1).trans s2) e2 (sT s2 e1)⟩⟩⟩
      | part => exact ⟨_, rfl, iteF ⟨_, rfl, b, _, 2, _, rfl, rfl, hb0, atI_nat (j := 2) rfl, sz, fun c H1 s1 e1 => ⟨sz, fun p H2 s2 e2 => q p _ H2 ((h0.trans s1).trans s2) e2 (sT s2 e1)⟩⟩⟩
      | rest => exact ⟨_, rfl, iteF ⟨_, rfl, b, _, 2, _, rfl, rfl, hb0, atI_nat (j := 2) rfl, sz, fun c H1 s1 e1 => ⟨sz, fun p H2 s2 e2 => q p _ H2 ((h0.trans s1).trans s2) e2 (sT s2 e1)⟩⟩⟩
    | none =>
      have ha : v = .non := ha
      subst ha
      refine ⟨_, rfl, rfl, _, rfl, iteBF rfl ?_⟩
      have ht0 := sT h0 ht
      cases st with
      | idle =>
        refine ⟨_, rfl, _, rfl, _, _, ls_dp (st := .idle) ht0, ls_dp (st := .idle) e0, ls_sh _, ls_sh _, _, rfl, iteB (eqvR (ls_sh _)) ?_⟩
        exact ⟨_, rfl, sz, fun p H1 s1 e1 => q p _ H1 (h0.trans s1) e1 (sT s1 e0)⟩
      | run k f s' l o t =>
        obtain ⟨f0, f1, s0, s1', hlw, hmod, hwa⟩ := hl
        refine ⟨_, rfl, _, rfl, _, _, ls_dp ht0, ls_dp (st := .idle) e0, ls_sh _, ls_sh _, _, rfl, iteBF (ls_ne_idle _ _ _ _ _ _) ?_⟩
        refine ⟨_, rfl, a, _, 3, _, rfl, rfl, ht0, atI_nat (j := 3) rfl, rfl, _, rfl, ite3 (fun e => ?_) (fun e => ?_)⟩
        · have hz : ¬ 0 < l := by
            have := V.int.inj (of_decide_eq_true e)
            omega
          have eb : beat w d (.run k f s' l o t) .none = (.idle, some (resV k o t)) := if_neg hz
          rw [eb] at q
          refine ⟨_, rfl, _, rfl, a, _, 0, _, rfl, rfl, ht0, atI_nat (j := 0) rfl, rfl, _, rfl, ?_⟩
          cases k with
          | part => exact iteT ⟨_, rfl, a, _, 5, _, rfl, rfl, ht0, atI_nat (j := 5) rfl, sz, fun p H1 s1 e1 => q p _ H1 (h0.trans s1) e1 (sT s1 e0)⟩
          | times => exact iteF ⟨_, rfl, a, _, 4, _, rfl, rfl, ht0, atI_nat (j := 4) rfl, sz, fun p H1 s1 e1 => q p _ H1 (h0.trans s1) e1 (sT s1 e0)⟩
          | rest => exact iteF ⟨_, rfl, a, _, 4, _, rfl, rfl, ht0, atI_nat (j := 4) rfl, sz, fun p H1 s1 e1 => q p _ H1 (h0.trans s1) e1 (sT s1 e0)⟩
        · have hz : 0 < l := by
            have := of_decide_eq_false e
            refine Nat.pos_of_ne_zero fun y => this ?_
            rw [y]
            rfl
          have eb : beat w d (.run k f s' l o t) .none = (.run k f s' (l - min d l) (rnds w k f s' (min d l) (o, t)).1 (rnds w k f s' (min d l) (o, t)).2, none) := if_pos hz
          rw [eb] at q
          have hrr : ∀ n, n ≤ l → rnds w k f s' n (o, t) = wa w k f s' (l - n) := fun n hn => by
            rw [hwa]
            exact rnds_wa k n hlw hn f0 f1 s0 s1'
          refine ⟨_, rfl, _, rfl, by omega, by omega, for_rangeN (n := d) (fun i σ H' => ∃ (b : Addr) (y : Option V), σ = [some (.int w), some (.int d), some (.ref b), some .non, some (.ref z), y] ∧ Same H H' ∧ SqT K H' b (lsV (.run k f s' (l - min i l) (rnds w k f s' (min i l) (o, t)).1 (rnds w k f s' (min i l) (o, t)).2))) ⟨a, none, rfl, h0, by rw [Nat.zero_min]; exact ht0⟩ ?_ ?_⟩
          · rintro i σ H1 hi ⟨b, y, rfl, s1, hb⟩
            have hin := wa_in (s := s') k (show l - min i l ≤ w by omega) f0 f1
            rw [← hrr _ (Nat.min_le_right i l)] at hin
            refine ⟨_, rfl, b, _, 3, _, rfl, rfl, hb, atI_nat (j := 3) rfl, _, _, rfl, rfl, _, rfl, ite3 (fun e => ?_) (fun e => ?_)⟩
            · have hil : i < l := by
                have := of_decide_eq_true e
                omega
              refine ⟨_, rfl, _, rfl, w, b, k, f, s', _, _, _, rfl, hb, w1, w2, by omega, f0, f1, s0, s1', hin.1, hin.2.1, hin.2.2.1, hin.2.2.2, fun c H2 s2 e2 => ?_⟩
              refine ⟨_, _, rfl, s1.trans s2, ?_⟩
              rw [show min (i + 1) l = min i l + 1 by omega, show l - (min i l + 1) = l - min i l - 1 by omega]
              exact e2
            · have hil : ¬ i < l := by
                have := of_decide_eq_false e
                omega
              refine ⟨_, _, rfl, s1, ?_⟩
              rw [show min (i + 1) l = min i l by omega]
              exact hb
          rintro σ H1 ⟨b, y, rfl, s1, hb⟩
          exact ⟨_, rfl, sz, fun p H2 s2 e2 => q p _ H2 (s1.trans s2) e2 (sT s2 hb)⟩
end
end TB
namespace TB
open PySem PySem.Spec PyProof.Rows L2
section
variable {P : Program} {w : World} {K : PySem.W.Frag} {mg : Str → Option Value} {base : Heap}
def resF (w : Nat) (k : K3) (f s : Int) : Int := match k with
  | .times => f * s % 2 ^ w
  | .part => if 0 < s then f / s else 2 ^ w - 1
  | .rest => if 0 < s then f % s else f
theorem res_wa {w : Nat} {k : K3} {f s : Int} (f0 : 0 ≤ f) (f1 : f < 2 ^ w) (s0 : 0 ≤ s) : resV k (wa w k f s 0).1 (wa w k f s 0).2 = resF w k f s := by
  have hp := prt_in (s := s) (e := w) f0 f1 s0
  cases k with
  | times =>
    show f * (s / 2 ^ 0) % 2 ^ w = f * s % 2 ^ w
    rw [Int.pow_zero, Int.ediv_one]
  | part =>
    show (f * 2 ^ (w - 0) + prt s (f / 2 ^ 0) (w - 0)) % 2 ^ w = prt s f w
    rw [Int.pow_zero, Int.ediv_one, Nat.sub_zero, Int.mul_comm, Int.add_comm, Int.add_mul_emod_self_left, Int.emod_eq_of_lt hp.1 hp.2]
  | rest =>
    show rst s (f / 2 ^ 0) = rst s f
    rw [Int.pow_zero, Int.ediv_one]
def sp__law_result (K : PySem.W.Frag) : Sp := fun vs H Q _ => ∃ (w : Nat) (k : K3) (f s : Int), vs = [.int w, .str (kS k), .int f, .int s] ∧ w ≤ 16 ∧ 0 ≤ f ∧ f < 2 ^ w ∧ 0 ≤ s ∧ s < 2 ^ w ∧ Q (.int (resF w k f s)) H
theorem ok__law_result (T : Txt K mg) : FnOk P w K mg base CX0 2 T._law_result.f T._law_result.fd ["_law_width", "_law_kind", "_law_first", "_law_second"] (sp__law_result K) := by
  refine T._law_result.F.ok sc__law_result (fun vs H Q E h => ?_) (fun cdv A outer s H vs Q E hr h => ?_)
  · obtain ⟨w, k, f, s', rfl, _⟩ := h
    rfl
  · obtain ⟨w, k, f, s', rfl, w2, f0, f1, s0, s1, q⟩ := h
    have hp := two_pos w
    have hW : (2 : Int) ^ w ≤ 2 ^ 16 := two_mono w2
    refine ⟨_, (pss_cons (ps_set (i := 4) sc__law_result.nd rfl (.inl rfl) (pe_call (ok__law_two_to T) (hr.mono (by decide)) (by rfl) T._law_two_to.g T._law_two_to.F.kp T._law_two_to.b .nil pass0 (pa_cons (pv 0) pa_nil))) 
      (pss_cons (ps_if (pt_cmpR op_eq (pv 1) pe_str (nomark _)) 
        (pss_one (ps_ret (pe_op op_mod (pe_op op_mul (pv 2) (pv 3)) (pv 4)))) pss_nil) 
      (pss_cons (ps_if (pt_cmpR op_eq (pv 1) pe_str (nomark _)) 
        (pss_one (ps_ret (pe_ifExp (pt_cmpR op_gt (pv 3) pe_int (nomark _)) (pe_op op_fdivW (pv 2) (pv 3)) (pe_op op_sub (pv 4) pe_int)))) pss_nil) 
      (pss_one (ps_ret (pe_ifExp (pt_cmpR op_gt (pv 3) pe_int (nomark _)) (pe_op op_mod (pv 2) (pv 3)) (pv 2))))))), ?_⟩
    refine ⟨_, rfl, w, rfl, by omega, ?_⟩
    cases k with
    | times =>
      refine ⟨_, rfl, rfl, true, congrArg V.bl (decide_eq_true rfl), iteT ?_⟩
      exact ⟨_, rfl, _, rfl, _, _, rfl, rfl, .inl ⟨by omega, by omega⟩, _, rfl, _, _, rfl, rfl, hp, q⟩
    | part =>
      refine ⟨_, rfl, rfl, false, congrArg V.bl (decide_eq_false (by decide)), iteF ?_⟩
      refine ⟨_, rfl, rfl, true, congrArg V.bl (decide_eq_true rfl), iteT ?_⟩
      refine ⟨_, rfl, _, _, rfl, rfl, _, rfl, ite3 (fun e => ?_) (fun e => ?_)⟩
      · have hs : 0 < s' := of_decide_eq_true e
        have er : resF w .part f s' = f / s' := if_pos hs
        rw [er] at q
        exact ⟨_, rfl, _, rfl, _, _, rfl, rfl, wide_div (b := 65) hs (by omega) (by decide) (by decide), q⟩
      · have hs : ¬ 0 < s' := of_decide_eq_false e
        have er : resF w .part f s' = 2 ^ w - 1 := if_neg hs
        rw [er] at q
        exact ⟨_, rfl, _, _, rfl, rfl, q⟩
    | rest =>
      refine ⟨_, rfl, rfl, false, congrArg V.bl (decide_eq_false (by decide)), iteF ?_⟩
      refine ⟨_, rfl, rfl, false, congrArg V.bl (decide_eq_false (by decide)), iteF ?_⟩
      refine ⟨_, rfl, _, _, rfl, rfl, _, rfl, ite3 (fun e => ?_) (fun e => ?_)⟩
      · have hs : 0 < s' := of_decide_eq_true e
        have er : resF w .rest f s' = f % s' := if_pos hs
        rw [er] at q
        exact ⟨_, rfl, _, rfl, _, _, rfl, rfl, hs, q⟩
      · have hs : ¬ 0 < s' := of_decide_eq_false e
        have er : resF w .rest f s' = f := if_neg hs
        rw [er] at q
        exact ⟨_, rfl, q⟩
def sp__law_formula (K : PySem.W.Frag) : Sp := fun vs H Q _ => ∃ (w : Nat) (a : Addr) (k : K3) (f s : Int) (l : Nat) (o t : Int), vs = [.int w, .ref a] ∧ SqT K H a (lsV (.run k f s l o t)) ∧ 1 ≤ w ∧ w ≤ 16 ∧ l ≤ w ∧ 0 ≤ f ∧ f < 2 ^ w ∧ 0 ≤ s ∧ s < 2 ^ w ∧
  NewT K [.int (wa w k f s l).1, .int (wa w k f s l).2] H Q
theorem ok__law_formula (T : Txt K mg) : FnOk P w K mg base CX0 2 T._law_formula.f T._law_formula.fd ["_law_width", "_law_state"] (sp__law_formula K) := by
  refine T._law_formula.F.ok sc__law_formula (fun vs H Q E h => ?_) (fun cdv A outer s H vs Q E hr h => ?_)
  · obtain ⟨w, a, k, f, s', l, o, t, rfl, _⟩ := h
    rfl
  · obtain ⟨w, a, k, f, s', l, o, t, rfl, ht, w1, w2, hl, f0, f1, s0, s1, q⟩ := h
    have hp := two_pos w
    have hW : (2 : Int) ^ w ≤ 2 ^ 16 := two_mono w2
    have hpl := two_pos l
    have hL : (2 : Int) ^ l ≤ 2 ^ 16 := two_mono (by omega)
    have hpe := two_pos (w - l)
    have hE : (2 : Int) ^ (w - l) ≤ 2 ^ 16 := two_mono (by omega)
    have ed : ((w : Int) - (l : Int)) = ((w - l : Nat) : Int) := by omega
    have hd : CDivW f (2 ^ l) := wide_div (b := 65) hpl (by omega) (by decide) (by decide)
    have hds : CDivW s' (2 ^ l) := wide_div (b := 65) hpl (by omega) (by decide) (by decide)
    refine ⟨_, (pss_cons (ps_asg (pe_slice sl_tupleA (pv 1) po_none (po_some pe_int)) (pg_tup rfl (pgs_cons (pg_name (i := 2) sc__law_formula.nd rfl (.inl rfl)) (pgs_cons (pg_name (i := 3) sc__law_formula.nd rfl (.inl rfl)) (pgs_cons (pg_name (i := 4) sc__law_formula.nd rfl (.inl rfl)) (pgs_cons (pg_name (i := 5) sc__law_formula.nd rfl (.inl rfl)) pgs_nil)))))) 
      (pss_cons (ps_par3 (i := 6) (j := 7) (l := 8) rfl sc__law_formula.nd rfl rfl rfl (by decide) (by decide) (by decide) rfl rfl rfl (pa_cons (pe_call (ok__law_two_to T) (hr.mono (by decide)) (by rfl) T._law_two_to.g T._law_two_to.F.kp T._law_two_to.b .nil pass0 (pa_cons (pv 0) pa_nil)) (pa_cons (pe_op op_sub (pv 0) (pv 5)) (pa_cons (pe_op op_fdivW (pv 3) (pe_call (ok__law_two_to T) (hr.mono (by decide)) (by rfl) T._law_two_to.g T._law_two_to.F.kp T._law_two_to.b .nil pass0 (pa_cons (pv 5) pa_nil))) pa_nil))) (by rfl)) 
      (pss_cons (ps_if (pt_cmpR op_eq (pv 2) pe_str (nomark _)) 
        (pss_one (ps_ret (pe_tupA (pa_cons (pe_op op_mod (pe_op op_mul (pv 3) (pe_op op_fdivW (pv 4) (pe_call (ok__law_two_to T) (hr.mono (by decide)) (by rfl) T._law_two_to.g T._law_two_to.F.kp T._law_two_to.b .nil pass0 (pa_cons (pv 5) pa_nil)))) (pv 6)) (pa_cons (pe_op op_mod (pe_op op_mul (pv 4) (pe_call (ok__law_two_to T) (hr.mono (by decide)) (by rfl) T._law_two_to.g T._law_two_to.F.kp T._law_two_to.b .nil pass0 (pa_cons (pv 7) pa_nil))) (pv 6)) pa_nil))))) pss_nil) 
      (pss_cons (ps_set (i := 9) sc__law_formula.nd rfl (.inl rfl) (pe_ifExp (pt_cmpR op_gt (pv 4) pe_int (nomark _)) (pe_op op_fdivW (pv 8) (pv 4)) (pe_op op_sub (pe_call (ok__law_two_to T) (hr.mono (by decide)) (by rfl) T._law_two_to.g T._law_two_to.F.kp T._law_two_to.b .nil pass0 (pa_cons (pv 7) pa_nil)) pe_int))) 
      (pss_one (ps_ret (pe_tupA (pa_cons (pe_ifExp (pt_cmpR op_gt (pv 4) pe_int (nomark _)) (pe_op op_mod (pv 8) (pv 4)) (pv 8)) (pa_cons (pe_op op_mod (pe_op op_add (pe_op op_mul (pv 3) (pe_call (ok__law_two_to T) (hr.mono (by decide)) (by rfl) T._law_two_to.g T._law_two_to.F.kp T._law_two_to.b .nil pass0 (pa_cons (pv 7) pa_nil))) (pv 9)) (pv 6)) pa_nil))))))))), ?_⟩
    refine ⟨_, rfl, 4, rfl, a, _, rfl, ht, fun p H1 h1 e1 => ?_⟩
    have e1 : SqT K H1 p [.str (kS k), .int f, .int s', .int l] := e1
    refine ⟨p, _, rfl, e1, rfl, _, _, rfl, _, _, rfl, _, _, rfl, _, [], rfl, rfl, ?_⟩
    refine ⟨_, rfl, w, rfl, by omega, _, rfl, _, rfl, _, _, rfl, rfl, _, rfl, _, rfl, l, rfl, by omega, _, _, rfl, rfl, hd, _, _, _, rfl, ?_⟩
    by_cases hk : k = .times
    · subst hk
      have hq : 0 ≤ s' / 2 ^ l ∧ s' / 2 ^ l ≤ s' := ⟨Int.ediv_nonneg s0 (Int.le_of_lt hpl), Int.ediv_le_self _ s0⟩
      refine ⟨_, rfl, rfl, true, congrArg V.bl (decide_eq_true rfl), iteT ?_⟩
      refine ⟨_, rfl, _, rfl, _, rfl, l, rfl, by omega, _, _, rfl, rfl, hds, _, _, rfl, rfl, .inl ⟨by omega, by omega⟩, _, rfl, _, _, rfl, rfl, hp, ?_⟩
      refine ⟨_, rfl, _, rfl, w - l, congrArg (fun z => [V.int z]) ed, by omega, _, _, rfl, rfl, .inl ⟨by omega, by omega⟩, _, rfl, _, _, rfl, rfl, hp, sz, fun p2 H2 h2 e2 => q p2 H2 (h1.trans h2) e2⟩
    · have ew : wa w k f s' l = waP w f s' l := by
        cases k with
        | times => exact absurd rfl hk
        | part => rfl
        | rest => rfl
      rw [ew] at q
      refine ⟨_, rfl, rfl, false, congrArg V.bl (by rw [kS_times, decide_eq_false hk]), iteF ?_⟩
      refine ⟨_, rfl, _, _, rfl, rfl, _, rfl, ite3 (fun e => ?_) (fun e => ?_)⟩
      · have hs : 0 < s' := of_decide_eq_true e
        have ep : prt s' (f / 2 ^ l) (w - l) = f / 2 ^ l / s' := if_pos hs
        have er : rst s' (f / 2 ^ l) = f / 2 ^ l % s' := if_pos hs
        unfold waP at q
        rw [ep, er] at q
        refine ⟨_, rfl, _, rfl, _, _, rfl, rfl, wide_div (b := 65) hs (by omega) (by decide) (by decide), ?_⟩
        refine ⟨_, rfl, _, _, rfl, rfl, _, rfl, iteB (decide_eq_true hs) ⟨_, rfl, _, rfl, _, _, rfl, rfl, hs, ?_⟩⟩
        refine ⟨_, rfl, _, rfl, w - l, congrArg (fun z => [V.int z]) ed, by omega, _, _, rfl, rfl, .inl ⟨by omega, by omega⟩, _, rfl, _, _, rfl, rfl, _, rfl, _, _, rfl, rfl, hp, sz, fun p2 H2 h2 e2 => q p2 H2 (h1.trans h2) e2⟩
      · have hs : ¬ 0 < s' := of_decide_eq_false e
        have ep : prt s' (f / 2 ^ l) (w - l) = 2 ^ (w - l) - 1 := if_neg hs
        have er : rst s' (f / 2 ^ l) = f / 2 ^ l := if_neg hs
        unfold waP at q
        rw [ep, er] at q
        refine ⟨_, rfl, w - l, congrArg (fun z => [V.int z]) ed, by omega, _, _, rfl, rfl, ?_⟩
        refine ⟨_, rfl, _, _, rfl, rfl, _, rfl, iteBF (decide_eq_false hs) ⟨_, rfl, ?_⟩⟩
        refine ⟨_, rfl, _, rfl, w - l, congrArg (fun z => [V.int z]) ed, by omega, _, _, rfl, rfl, .inl ⟨by omega, by omega⟩, _, rfl, _, _, rfl, rfl, _, rfl, _, _, rfl, rfl, hp, sz, fun p2 H2 h2 e2 => q p2 H2 (h1.trans h2) e2⟩
end
end TB
namespace TB
open PySem PySem.Spec PyProof.Rows L2
section
variable {P : Program} {w : World} {K : PySem.W.Frag} {mg : Str → Option Value} {base : Heap}
theorem kS_of {v : V} (h : v ∈ ([.str "times", .str "part", .str "rest"] : List V)) : ∃ k, v = .str (kS k) := by
  simp only [List.mem_cons, List.not_mem_nil, or_false] at h
  rcases h with rfl | rfl | rfl
  · exact ⟨.times, rfl⟩
  · exact ⟨.part, rfl⟩
  · exact ⟨.rest, rfl⟩
def sp__law_begin_drawn (K : PySem.W.Frag) : Sp := fun vs H Q _ => ∃ (d : Addr) (w : Nat), vs = [.ref d, .int w] ∧ Dice H d ∧ 1 ≤ w ∧ w ≤ 16 ∧ ∀ v H' k f s, Ext d H H' → AskAt K H' v (.beg k f s) → AskOk w (.beg k f s) → Q v H'
theorem ok__law_begin_drawn (T : Txt K mg) : FnOk P w K mg base CX0 3 T._law_begin_drawn.f T._law_begin_drawn.fd ["_law_dice_here", "_law_width"] (sp__law_begin_drawn K) := by
  refine T._law_begin_drawn.F.ok sc__law_begin_drawn (fun vs H Q E h => ?_) (fun cdv A outer s H vs Q E hr h => ?_)
  · obtain ⟨d, w, rfl, _⟩ := h
    rfl
  · obtain ⟨d, w, rfl, hd, w1, w2, q⟩ := h
    have hp := two_pos w
    have hp1 : (2 : Int) ^ 1 ≤ 2 ^ w := two_mono w1
    have hW : (2 : Int) ^ w ≤ 2 ^ 16 := two_mono w2
    refine ⟨_, (pss_cons (ps_set (i := 2) sc__law_begin_drawn.nd rfl (.inl rfl) (pe_call (ok__law_two_to T) (hr.mono (by decide)) (by rfl) T._law_two_to.g T._law_two_to.F.kp T._law_two_to.b .nil pass0 (pa_cons (pv 1) pa_nil))) 
      (pss_cons (ps_par (i := 3) (j := 4) rfl sc__law_begin_drawn.nd rfl rfl (by decide) rfl rfl (pa_cons (pe_call (ok__law_roll T) (hr.mono (by decide)) (by rfl) T._law_roll.g T._law_roll.F.kp T._law_roll.b .nil pass0 (pa_cons (pv 0) (pa_cons (pv 2) pa_nil))) (pa_cons (pe_call (ok__law_roll T) (hr.mono (by decide)) (by rfl) T._law_roll.g T._law_roll.F.kp T._law_roll.b .nil pass0 (pa_cons (pv 0) (pa_cons (pv 2) pa_nil))) pa_nil)) (by rfl)) 
      (pss_cons (ps_set (i := 4) sc__law_begin_drawn.nd rfl (.inl rfl) (pe_call (ok__law_one_of T) (hr.mono (by decide)) (by rfl) T._law_one_of.g T._law_one_of.F.kp T._law_one_of.b .nil pass0 (pa_cons (pv 0) (pa_cons (pe_lstA (pa_cons (pv 4) (pa_cons (pv 4) (pa_cons (pv 4) (pa_cons pe_int (pa_cons pe_int (pa_cons (pe_op op_sub (pv 2) pe_int) (pa_cons (pe_callB (call_min2 rfl) (by rfl) T.z_min (by decide +kernel) (pa_cons (pv 4) (pa_cons pe_int pa_nil))) pa_nil)))))))) pa_nil)))) 
      (pss_one (ps_ret (pe_tupA (pa_cons pe_str (pa_cons (pe_call (ok__law_one_of T) (hr.mono (by decide)) (by rfl) T._law_one_of.g T._law_one_of.F.kp T._law_one_of.b .nil pass0 (pa_cons (pv 0) (pa_cons (pe_lstA (pa_cons pe_str (pa_cons pe_str (pa_cons pe_str pa_nil)))) pa_nil))) (pa_cons (pv 3) (pa_cons (pv 4) pa_nil)))))))))), ?_⟩
    refine ⟨_, rfl, w, rfl, by omega, ?_⟩
    refine ⟨_, rfl, _, rfl, d, _, rfl, hd, hp, by omega, fun f H1 f0 f1 x1 => ?_⟩
    refine ⟨_, rfl, _, rfl, d, _, rfl, x1.d, hp, by omega, fun s0' H2 s00 s01 x2 => ⟨_, _, rfl, ?_⟩⟩
    refine ⟨_, rfl, _, rfl, _, rfl, _, rfl, _, rfl, _, _, rfl, rfl, _, rfl, _, _, rfl, sz, fun l H3 h3 e3 nl => ?_⟩
    refine ⟨d, l, _, rfl, x2.d.same h3, x2.d.ne nl, e3, by show 0 < 7; decide, by show 7 ≤ 100000; decide, fun v H4 hv x4 => ?_⟩
    obtain ⟨s', rfl, s0, s1⟩ : ∃ s' : Int, v = .int s' ∧ 0 ≤ s' ∧ s' < 2 ^ w := by
      simp only [List.mem_cons, List.not_mem_nil, or_false] at hv
      rcases hv with rfl | rfl | rfl | rfl | rfl | rfl | rfl
      · exact ⟨_, rfl, s00, s01⟩
      · exact ⟨_, rfl, s00, s01⟩
      · exact ⟨_, rfl, s00, s01⟩
      · exact ⟨_, rfl, by decide, by omega⟩
      · exact ⟨_, rfl, by decide, by omega⟩
      · exact ⟨2 ^ w - 1, rfl, by omega, by omega⟩
      · refine ⟨_, rfl, ?_, ?_⟩
        · split <;> omega
        · split <;> omega
    refine ⟨_, rfl, sz, fun l5 H5 h5 e5 nl5 => ?_⟩
    refine ⟨d, l5, _, rfl, x4.d.same h5, x4.d.ne nl5, e5, by decide, by decide, fun v6 H6 hv6 x6 => ?_⟩
    obtain ⟨k, rfl⟩ := kS_of hv6
    refine ⟨_, rfl, _, rfl, sz, fun p H7 h7 e7 => ?_⟩
    exact q _ H7 k f s' ((((((x1.trans x2).same h3).trans x4).same h5).trans x6).same h7) ⟨p, rfl, e7⟩ ⟨f0, f1, s0, s1⟩
end
end TB
namespace TB
open PySem PySem.Spec PyProof.Rows L2
section
variable {P : Program} {w : World} {K : PySem.W.Frag} {mg : Str → Option Value} {base : Heap}
def sp__law_asks_drawn (K : PySem.W.Frag) : Sp := fun vs H Q _ => ∃ (d : Addr) (w dd : Nat), vs = [.ref d, .int w, .int dd, .int 30] ∧ Dice H d ∧ 1 ≤ w ∧ w ≤ 16 ∧ 1 ≤ dd ∧ dd ≤ 4 ∧
  ∀ F H' xs as, Ext d H H' → H' F = some (.lst xs) → F ≠ d → H F = none → Asks K H' xs as → (∀ A ∈ as, AskOk w A) → xs.length = 30 → Q (.ref F) H'
theorem ok__law_asks_drawn (T : Txt K mg) : FnOk P w K mg base CX0 4 T._law_asks_drawn.f T._law_asks_drawn.fd ["_law_dice_here", "_law_width", "_law_step", "_law_many"] (sp__law_asks_drawn K) := by
  refine T._law_asks_drawn.F.ok sc__law_asks_drawn (fun vs H Q E h => ?_) (fun cdv A outer s H vs Q E hr h => ?_)
  · obtain ⟨d, w, dd, rfl, _⟩ := h
    rfl
  · obtain ⟨d, w, dd, rfl, hd, w1, w2, d1, d2, q⟩ := h
    refine ⟨_, (pss_cons (ps_set (i := 4) sc__law_asks_drawn.nd rfl (.inl rfl) (pe_lstA pa_nil)) 
      (pss_cons (ps_while PassesOwn.never (pt_cmpR op_lt (pe_callB call_len_seq (by rfl) T.z_len PySem.boot_len (pa_cons (pv 4) pa_nil)) (pv 3) (nomark _)) 
        (pss_cons (ps_set (i := 5) sc__law_asks_drawn.nd rfl (.inl rfl) (pe_call (ok__law_roll T) (hr.mono (by decide)) (by rfl) T._law_roll.g T._law_roll.F.kp T._law_roll.b .nil pass0 (pa_cons (pv 0) (pa_cons pe_int pa_nil)))) 
        (pss_cons (ps_join (ps_expr (pe_bm PySem.F.plainAttrs_list PySem.F.slot_list_append PySem.F.type_list_append mt_append (pv 4) (pa_cons (pe_ifExp (pt_cmpR op_eq (pv 5) pe_int (nomark _)) (pe_tupA (pa_cons pe_str pa_nil)) (pe_ifExp (pt_cmpR op_eq (pv 5) pe_int (nomark _)) pe_non (pe_call (ok__law_begin_drawn T) (hr.mono (by decide)) (by rfl) T._law_begin_drawn.g T._law_begin_drawn.F.kp T._law_begin_drawn.b .nil pass0 (pa_cons (pv 0) (pa_cons (pv 1) pa_nil))))) pa_nil)))) 
        (pss_one (ps_expr (pe_bm PySem.F.plainAttrs_list PySem.F.slot_list_extend PySem.F.type_list_extend mt_extend (pv 4) (pa_cons (pe_op op_repL (pe_lstA (pa_cons pe_non pa_nil)) (pe_call (ok__law_one_of T) (hr.mono (by decide)) (by rfl) T._law_one_of.g T._law_one_of.F.kp T._law_one_of.b .nil pass0 (pa_cons (pv 0) (pa_cons (pe_lstA (pa_cons (pe_op op_add (pe_op op_fdivW (pv 1) (pv 2)) pe_int) (pa_cons (pe_op op_add (pe_op op_fdivW (pv 1) (pv 2)) pe_int) (pa_cons (pe_call (ok__law_roll T) (hr.mono (by decide)) (by rfl) T._law_roll.g T._law_roll.F.kp T._law_roll.b .nil pass0 (pa_cons (pv 0) (pa_cons (pe_op op_add (pv 1) pe_int) pa_nil))) pa_nil)))) pa_nil)))) pa_nil))))))) 
      (pss_one (ps_ret (pe_slice sl_listA (pv 4) po_none (po_some (pv 3))))))), ?_⟩
    refine ⟨sz, fun F H0 h0 e0 nF => ?_⟩
    have nFd : F ≠ d := hd.ne nF
    refine ⟨fun m σ H' => ∃ (xs : List V) (as : List Ask) (y : Option V), m = 30 - xs.length ∧ σ = [some (.ref d), some (.int w), some (.int dd), some (.int 30), some (.ref F), y] ∧ (∀ b o, b ≠ F → b ≠ d → H b = some o → H' b = some o) ∧ Dice H' d ∧ H' F = some (.lst xs) ∧ Asks K H' xs as ∧ (∀ A ∈ as, AskOk w A) ∧ xs.length ≤ 60,
      ⟨30, [], [], none, rfl, rfl, fun b o _ _ e => h0 _ _ e, hd.same h0, e0, ⟨rfl, fun i x A e _ => nomatch e⟩, (fun A h => nomatch h), Nat.zero_le _⟩, ?_⟩
    rintro m σ H1 ⟨xs, as, y, rfl, rfl, bb, hd1, hF, hA, hok, hz⟩
    refine ⟨_, rfl, F, _, rfl, .inl (SqL.of hF), _, rfl, _, _, rfl, rfl, _, rfl, ite3 (fun e => ?_) (fun e => ?_)⟩
    · have hlt : xs.length < 30 := by
        have := of_decide_eq_true e
        omega
      refine ⟨fun σ' H' => ∃ m', m' < 30 - xs.length ∧ _, fun σ' H' h => h, ?_⟩
      refine ⟨_, rfl, d, 8, rfl, hd1, by decide, by decide, fun r H2 r0 r1 x2 => ?_⟩
      have hF2 := x2.s _ _ nFd hF
      have hA2 := hA.lm (x2.lm hd1)
      have bb2 : ∀ b o, b ≠ F → b ≠ d → H b = some o → H2 b = some o := fun b o n1 n2 e => x2.s _ _ n2 (bb b o n1 n2 e)
      refine ⟨fun σ' H' => ∃ (v : V) (B : Ask), σ' = [some (.ref d), some (.int w), some (.int dd), some (.int 30), some (.ref F), some (.int r)] ∧ (∀ b o, b ≠ F → b ≠ d → H b = some o → H' b = some o) ∧ Dice H' d ∧ H' F = some (.lst (xs ++ [v])) ∧ Asks K H' (xs ++ [v]) (as ++ [B]) ∧ AskOk w B, ?_, ?_⟩
      · refine ⟨_, rfl, .inl ⟨rfl, _, SqL.of hF2⟩, _, rfl, rfl, _, rfl, ite3 (fun e => ?_) (fun e => ?_)⟩
        · refine ⟨sz, fun t H3 h3 e3 => ⟨F, _, _, rfl, rfl, h3 _ _ hF2, szlt (by omega), ?_⟩⟩
          exact ⟨.ref t, .stop, rfl, fun b o n1 n2 e => by rw [upd_ne n1]; exact h3 _ _ (bb2 b o n1 n2 e), let ⟨a1, a2, a3, e⟩ := x2.d.same h3; ⟨a1, a2, a3, by rw [upd_ne (Ne.symm nFd)]; exact e⟩, upd_same, ((hA2.lm (LMut.of h3)).append (Asks.one (A := .stop) ⟨t, rfl, e3⟩)).lm (LMut.mut _ (h3 _ _ hF2)), True.intro⟩
        · refine ⟨_, rfl, rfl, _, rfl, ite3 (fun e => ?_) (fun e => ?_)⟩
          · refine ⟨F, _, _, rfl, rfl, hF2, szlt (by omega), ?_⟩
            exact ⟨.non, .none, rfl, fun b o n1 n2 e => by rw [upd_ne n1]; exact bb2 b o n1 n2 e, let ⟨a1, a2, a3, e⟩ := x2.d; ⟨a1, a2, a3, by rw [upd_ne (Ne.symm nFd)]; exact e⟩, upd_same, (hA2.append (Asks.one (v := .non) (A := .none) rfl)).lm (LMut.mut _ hF2), True.intro⟩
          · refine ⟨_, rfl, _, rfl, d, w, rfl, x2.d, w1, w2, fun v H3 k f s' x3 ha hok3 => ?_⟩
            have hF3 := x3.s _ _ nFd hF2
            refine ⟨F, _, _, rfl, rfl, hF3, szlt (by omega), ?_⟩
            exact ⟨v, .beg k f s', rfl, fun b o n1 n2 e => by rw [upd_ne n1]; exact x3.s _ _ n2 (bb2 b o n1 n2 e), let ⟨a1, a2, a3, e⟩ := x3.d; ⟨a1, a2, a3, by rw [upd_ne (Ne.symm nFd)]; exact e⟩, upd_same, ((hA2.lm (x3.lm x2.d)).append (Asks.one (A := .beg k f s') ha)).lm (LMut.mut _ hF3), hok3⟩
      rintro σ' H4 ⟨v, B, rfl, bb4, hd4, hF4, hA4, hB⟩
      have hdv : CDivW (w : Int) (dd : Int) := wide_div (b := 65) (by omega) (by omega) (by decide) (by decide)
      have hq0 : (0 : Int) ≤ (w : Int) / (dd : Int) := Int.ediv_nonneg (by omega) (by omega)
      have hq1 : (w : Int) / (dd : Int) ≤ w := Int.ediv_le_self _ (by omega)
      refine ⟨_, rfl, .inl ⟨rfl, _, SqL.of hF4⟩, sz, fun l H5 h5 e5 nl => ?_⟩
      have nld : l ≠ d := hd4.ne nl
      refine ⟨_, rfl, _, rfl, _, rfl, _, _, rfl, rfl, hdv, _, _, rfl, rfl, _, rfl, _, rfl, _, _, rfl, rfl, hdv, _, _, rfl, rfl, _, rfl, _, rfl, _, _, rfl, rfl, d, (w : Int) + 3, rfl, hd4.same h5, by omega, by omega, fun r6 H6 r60 r61 x6 => ⟨sz, fun l2 H7 h7 e7 nl2 => ?_⟩⟩
      have hd7 := x6.d.same h7
      refine ⟨d, l2, _, rfl, hd7, x6.d.ne nl2, e7, by show 0 < 3; decide, by show 3 ≤ 100000; decide, fun v8 H8 hv8 x8 => ?_⟩
      obtain ⟨k, rfl, k0, k1⟩ : ∃ k : Int, v8 = .int k ∧ 0 ≤ k ∧ k ≤ 19 := by
        simp only [List.mem_cons, List.not_mem_nil, or_false] at hv8
        rcases hv8 with rfl | rfl | rfl
        · exact ⟨_, rfl, by omega, by omega⟩
        · exact ⟨_, rfl, by omega, by omega⟩
        · exact ⟨_, rfl, by omega, by omega⟩
      have el8 := x8.s _ _ nld (h7 _ _ (x6.s _ _ nld e5))
      refine ⟨l, k, [.non], rfl, rfl, el8, by omega, by omega, ?_, fun p H9 h9 e9 np => ?_⟩
      · have h1 : [V.non].length * k.toNat ≤ 19 := by
          show 1 * k.toNat ≤ 19
          omega
        exact Nat.le_trans h1 (by decide)
      rw [List.flatten_replicate_singleton] at e9
      have lm49 : LMut H4 H9 := (((LMut.of h5).trans (x6.lm (hd4.same h5))).trans (LMut.of h7)).trans ((x8.lm hd7).trans (LMut.of h9))
      have hF9 := h9 _ _ (x8.s _ _ nFd (h7 _ _ (x6.s _ _ nFd (h5 _ _ hF4))))
      refine ⟨F, p, _, _, rfl, rfl, hF9, e9, ?_, ?_⟩
      · rw [List.length_append, List.length_replicate]
        refine Nat.le_trans (m := 60) ?_ (by decide)
        simp only [List.length_cons, List.length_nil]
        omega
      have hd9 := x8.d.same h9
      refine ⟨30 - (xs ++ [v] ++ List.replicate k.toNat V.non).length, ?_, _, as ++ [B] ++ List.replicate k.toNat Ask.none, _, rfl, rfl, fun b o n1 n2 e => ?_, ?_, upd_same, ((hA4.lm lm49).append (Asks.nones _)).lm (LMut.mut _ hF9), fun C hC => ?_, ?_⟩
      · rw [List.length_append, List.length_append, List.length_replicate]
        simp only [List.length_cons, List.length_nil]
        omega
      · rw [upd_ne n1]
        exact h9 _ _ (x8.s _ _ n2 (h7 _ _ (x6.s _ _ n2 (h5 _ _ (bb4 b o n1 n2 e)))))
      · obtain ⟨a1, a2, a3, e⟩ := hd9
        exact ⟨a1, a2, a3, by rw [upd_ne (Ne.symm nFd)]; exact e⟩
      · rcases List.mem_append.mp hC with hC | hC
        · rcases List.mem_append.mp hC with hC | hC
          · exact hok C hC
          · rw [List.mem_singleton.mp hC]
            exact hB
        · rw [(List.mem_replicate.mp hC).2]
          exact True.intro
      · rw [List.length_append, List.length_append, List.length_replicate]
        simp only [List.length_cons, List.length_nil]
        omega
    · have hge : 30 ≤ xs.length := by
        have := of_decide_eq_false e
        omega
      refine ⟨_, rfl, _, rfl, 30, rfl, F, _, rfl, SqL.of hF, fun p H2 h2 e2 np => ?_⟩
      have ec : cutV xs none (some 30) = xs.take 30 := cut_to xs 30
      rw [ec] at e2
      have nFH : H F = none := nF
      have npd : p ≠ d := hd1.ne np
      have npH : H p = none := by
        cases e : H p with
        | none => rfl
        | some o =>
          have := bb _ _ (ne_of_none e nF) npd e
          rw [np] at this
          cases this
      exact q p H2 (xs.take 30) (as.take 30) ⟨fun b o nb eb => h2 _ _ (bb _ _ (ne_of_none eb nF) nb eb), hd1.same h2⟩ e2 npd npH ((hA.lm (LMut.of h2)).take 30) (fun C hC => hok C (List.mem_of_mem_take hC)) (by rw [List.length_take]; omega)
end
end TB
namespace TB
open PySem PySem.Spec PyProof.Rows L2
/-! ### the plain law of beats: what is told when -/
/-- a begin stands a + 1 places ahead of i, behind it only beats without an ask -/
def Age (as : List Ask) (i a : Nat) (k : K3) (f s : Int) : Prop := a + 1 ≤ i ∧ as[i - 1 - a]? = some (.beg k f s) ∧ ∀ j, i - 1 - a < j → j < i → as[j]? = some .none
theorem Age.succ {as : List Ask} {i a : Nat} {k : K3} {f s : Int} (h : Age as i a k f s) (e : as[i]? = some .none) : Age as (i + 1) (a + 1) k f s := by
  obtain ⟨h1, h2, h3⟩ := h
  refine ⟨by omega, by rw [show i + 1 - 1 - (a + 1) = i - 1 - a by omega]; exact h2, fun j j1 j2 => ?_⟩
  by_cases hj : j = i
  · rw [hj]
    exact e
  · exact h3 j (by omega) (by omega)
theorem Age.pred {as : List Ask} {i a : Nat} {k : K3} {f s : Int} (h : Age as (i + 1) (a + 1) k f s) : Age as i a k f s := by
  obtain ⟨h1, h2, h3⟩ := h
  refine ⟨by omega, by rw [show i - 1 - a = i + 1 - 1 - (a + 1) by omega]; exact h2, fun j j1 j2 => h3 j (by omega) (by omega)⟩
theorem Age.uniq {as : List Ask} {i a b : Nat} {k k' : K3} {f s f' s' : Int} (h : Age as i a k f s) (g : Age as i b k' f' s') : a = b := by
  obtain ⟨h1, h2, h3⟩ := h
  obtain ⟨g1, g2, g3⟩ := g
  rcases Nat.lt_trichotomy a b with z | z | z
  · have := g3 (i - 1 - a) (by omega) (by omega)
    rw [h2] at this
    cases this
  · exact z
  · have := h3 (i - 1 - b) (by omega) (by omega)
    rw [g2] at this
    cases this
theorem Age.last {as : List Ask} {i a : Nat} {k : K3} {f s : Int} (h : Age as (i + 1) a k f s) : (a = 0 ∧ as[i]? = some (.beg k f s)) ∨ (as[i]? = some .none ∧ ∃ b, a = b + 1 ∧ Age as i b k f s) := by
  cases a with
  | zero => exact .inl ⟨rfl, h.2.1⟩
  | succ b => exact .inr ⟨h.2.2 i (by have := h.1; omega) (by omega), b, rfl, h.pred⟩
/-- the number of beats of a run -/
structure Many (w dd mn : Nat) : Prop where
  ge : w ≤ mn * dd
  lt : ∀ a, a < mn → a * dd < w
theorem phase {w dd mn : Nat} {as : List Ask} (hm : Many w dd mn) (ha : ∀ A ∈ as, AskOk w A) (d1 : 1 ≤ dd) : ∀ i, i ≤ as.length →
    (∃ a k f s, a ≤ mn ∧ Age as i a k f s ∧ stI w dd as i = .run k f s (w - a * dd) (wa w k f s (w - a * dd)).1 (wa w k f s (w - a * dd)).2) ∨ (stI w dd as i = .idle ∧ ∀ a k f s, a ≤ mn → ¬ Age as i a k f s)
  | 0, _ => .inr ⟨by unfold stI; rw [List.take_zero]; rfl, fun a k f s _ h => by have := h.1; omega⟩
  | i + 1, hi => by
    have e : as[i]? = some as[i] := List.getElem?_eq_getElem (by omega)
    have hA := ha _ (List.mem_of_getElem? e)
    have ih := phase hm ha d1 i (by omega)
    rw [stI_succ e]
    generalize as[i] = A at e hA
    cases A with
    | stop =>
      refine .inr ⟨rfl, fun a k f s _ h => ?_⟩
      rcases h.last with ⟨_, h⟩ | ⟨h, _⟩
      · rw [e] at h
        cases h
      · rw [e] at h
        cases h
    | beg k f s =>
      obtain ⟨f0, f1, s0, s1⟩ := hA
      refine .inl ⟨0, k, f, s, Nat.zero_le _, ⟨by omega, e, fun j j1 j2 => by omega⟩, ?_⟩
      show begI w k f s = _
      rw [Nat.zero_mul, Nat.sub_zero, wa_top k f0 f1 s0 s1]
      rfl
    | none =>
      rcases ih with ⟨a, k, f, s, ham, hage, hst⟩ | ⟨hst, hno⟩
      · have hbeg := ha _ (List.mem_of_getElem? hage.2.1)
        obtain ⟨f0, f1, s0, s1⟩ := hbeg
        rw [hst]
        by_cases hlt : a < mn
        · have hl := hm.lt a hlt
          refine .inl ⟨a + 1, k, f, s, hlt, hage.succ e, ?_⟩
          have hpos : 0 < w - a * dd := by omega
          have el : w - a * dd - min dd (w - a * dd) = w - (a + 1) * dd := by
            rw [Nat.succ_mul]
            omega
          have eb : beat w dd (.run k f s (w - a * dd) (wa w k f s (w - a * dd)).1 (wa w k f s (w - a * dd)).2) .none = (.run k f s (w - a * dd - min dd (w - a * dd)) (rnds w k f s (min dd (w - a * dd)) (wa w k f s (w - a * dd))).1 (rnds w k f s (min dd (w - a * dd)) (wa w k f s (w - a * dd))).2, none) := if_pos hpos
          rw [eb, rnds_wa k _ (Nat.sub_le _ _) (Nat.min_le_right _ _) f0 f1 s0 s1, el]
        · have hz : w - a * dd = 0 := by
            have : a = mn := by omega
            have := hm.ge
            subst a
            omega
          refine .inr ⟨?_, fun a' k' f' s' ha' h => ?_⟩
          · have eb : beat w dd (.run k f s (w - a * dd) (wa w k f s (w - a * dd)).1 (wa w k f s (w - a * dd)).2) .none = (.idle, some (resV k (wa w k f s (w - a * dd)).1 (wa w k f s (w - a * dd)).2)) := if_neg (by omega)
            rw [eb]
          · rcases h.last with ⟨_, h⟩ | ⟨_, b, rfl, h⟩
            · rw [e] at h
              cases h
            · have := hage.uniq h.pred
              omega
      · rw [hst]
        refine .inr ⟨rfl, fun a' k' f' s' ha' h => ?_⟩
        rcases h.last with ⟨_, h⟩ | ⟨_, b, rfl, h⟩
        · rw [e] at h
          cases h
        · exact hno b k' f' s' (by omega) h.pred
/-- what is due at beat i -/
def Due (w mn : Nat) (as : List Ask) (i : Nat) (o : Option Int) : Prop :=
  (∃ k f s, Age as i mn k f s ∧ as[i]? = some .none ∧ o = some (resF w k f s)) ∨ (o = none ∧ ∀ k f s, as[i]? = some .none → ¬ Age as i mn k f s)
theorem told_due {w dd mn : Nat} {as : List Ask} (hm : Many w dd mn) (ha : ∀ A ∈ as, AskOk w A) (d1 : 1 ≤ dd) {i : Nat} (hi : i < as.length) : Due w mn as i (toldI w dd as i) := by
  have e : as[i]? = some as[i] := List.getElem?_eq_getElem hi
  have ih := phase hm ha d1 i (by omega)
  have et : toldI w dd as i = (beat w dd (stI w dd as i) as[i]).2 := by
    unfold toldI
    rw [e]
  rw [et]
  generalize as[i] = A at e
  cases A with
  | stop => exact .inr ⟨rfl, fun k f s h => by rw [e] at h; cases h⟩
  | beg k f s => exact .inr ⟨rfl, fun k f s h => by rw [e] at h; cases h⟩
  | none =>
    rcases ih with ⟨a, k, f, s, ham, hage, hst⟩ | ⟨hst, hno⟩
    · have hbeg := ha _ (List.mem_of_getElem? hage.2.1)
      obtain ⟨f0, f1, s0, s1⟩ := hbeg
      rw [hst]
      by_cases hlt : a < mn
      · have hl := hm.lt a hlt
        have eb : beat w dd (.run k f s (w - a * dd) (wa w k f s (w - a * dd)).1 (wa w k f s (w - a * dd)).2) .none = (.run k f s (w - a * dd - min dd (w - a * dd)) (rnds w k f s (min dd (w - a * dd)) (wa w k f s (w - a * dd))).1 (rnds w k f s (min dd (w - a * dd)) (wa w k f s (w - a * dd))).2, none) := if_pos (by omega)
        rw [eb]
        exact .inr ⟨rfl, fun k' f' s' _ h => by have := hage.uniq h; omega⟩
      · have ea : a = mn := by omega
        subst ea
        have hz : w - a * dd = 0 := by
          have := hm.ge
          omega
        have eb : beat w dd (.run k f s (w - a * dd) (wa w k f s (w - a * dd)).1 (wa w k f s (w - a * dd)).2) .none = (.idle, some (resV k (wa w k f s (w - a * dd)).1 (wa w k f s (w - a * dd)).2)) := if_neg (by omega)
        rw [eb, hz, res_wa f0 f1 s0]
        exact .inl ⟨k, f, s, hage, e, rfl⟩
    · rw [hst]
      exact .inr ⟨rfl, fun k' f' s' _ h => hno mn k' f' s' (Nat.le_refl _) h⟩
theorem Due.uniq {w mn : Nat} {as : List Ask} {i : Nat} {o o' : Option Int} (h : Due w mn as i o) (g : Due w mn as i o') : o = o' := by
  rcases h with ⟨k, f, s, h1, h2, rfl⟩ | ⟨rfl, h⟩
  · rcases g with ⟨k', f', s', g1, g2, rfl⟩ | ⟨rfl, g⟩
    · have := h1.2.1.symm.trans g1.2.1
      cases this
      rfl
    · exact absurd h1 (g k f s h2)
  · rcases g with ⟨k', f', s', g1, g2, rfl⟩ | ⟨rfl, g⟩
    · exact absurd g1 (h k' f' s' g2)
    · rfl
end TB
namespace TB
open PySem PySem.Spec PyProof.Rows L2
section
variable {P : Program} {w : World} {K : PySem.W.Frag} {mg : Str → Option Value} {base : Heap}
theorem dp_all {H : Hp} : ∀ {ys : List V}, (∀ v ∈ ys, ∃ d, Dp K H v d ∧ OkD 1 d) → ∃ ds, DpAll K H ys ds ∧ (∀ d ∈ ds, OkD 1 d) ∧ ds.length = ys.length
  | [], _ => ⟨[], .nil, (fun d h => nomatch h), rfl⟩
  | y :: r, h => by
    obtain ⟨d, h1, h2⟩ := h y (List.mem_cons_self ..)
    obtain ⟨ds, g1, g2, g3⟩ := dp_all (ys := r) fun v hv => h v (List.mem_cons_of_mem _ hv)
    refine ⟨d :: ds, .cons h1 g1, fun e he => ?_, congrArg Nat.succ g3⟩
    rcases List.mem_cons.mp he with rfl | he
    · exact h2
    · exact g2 e he
theorem stop_ok : OkD 1 (.tuple [.str "stop"]) := .tup fun d hd => by
  rw [List.mem_singleton.mp hd]
  exact .str _
theorem AskAt.dp {H : Hp} {v : V} {A : Ask} (h : AskAt K H v A) : ∃ d, Dp K H v d ∧ OkD 1 d := by
  cases A with
  | none =>
    have h : v = .non := h
    subst h
    exact ⟨.none, .non, .none⟩
  | stop =>
    obtain ⟨a, rfl, t⟩ := h
    exact ⟨_, stop_dp t, stop_ok⟩
  | beg k f s =>
    obtain ⟨a, rfl, t⟩ := h
    exact ⟨_, beg_dp t, beg_ok _ _ _⟩
def noneF (v : V) : Option V := match v with
  | .non => none
  | v => some v
theorem noneF_none {v : V} : noneF v = none ↔ v = .non := by
  cases v <;> simp [noneF]
theorem seg_nil {H : Hp} {xs : List V} {as : List Ask} (h : Asks K H xs as) {j m : Nat} (hm : j + 1 + (m + 1) ≤ xs.length) : ((xs.drop (j + 1)).take (m + 1)).filterMap noneF = [] ↔ ∀ t, j < t → t < j + 1 + (m + 1) → as[t]? = some .none := by
  have gi : ∀ u, u < m + 1 → ((xs.drop (j + 1)).take (m + 1))[u]? = xs[j + 1 + u]? := fun u hu => by
    rw [List.getElem?_take, if_pos hu, List.getElem?_drop]
  rw [List.filterMap_eq_nil_iff]
  constructor
  · intro hn t t1 t2
    have e : xs[t]? = some xs[t] := List.getElem?_eq_getElem (by omega)
    obtain ⟨A, eA, hA⟩ := h.get e
    have hv := hn xs[t] (List.mem_of_getElem? (i := t - (j + 1)) (by rw [gi _ (by omega), show j + 1 + (t - (j + 1)) = t by omega]; exact e))
    rw [noneF_none] at hv
    rw [hv] at hA
    cases A with
    | none => exact eA
    | stop =>
      obtain ⟨b, z, _⟩ := hA
      cases z
    | beg k f s =>
      obtain ⟨b, z, _⟩ := hA
      cases z
  · intro hn v hv
    obtain ⟨u, hu⟩ := List.mem_iff_getElem?.mp hv
    have hu2 : u < m + 1 := by
      have := (List.getElem?_eq_some_iff.mp hu).1
      rw [List.length_take] at this
      omega
    rw [gi u hu2] at hu
    obtain ⟨A, eA, hA⟩ := h.get hu
    have := hn (j + 1 + u) (by omega) (by omega)
    rw [this] at eA
    cases eA
    rw [noneF_none]
    exact hA
theorem due_none {w mm j : Nat} {as : List Ask} (h : ∀ k f s, as[j]? = some (.beg k f s) → ¬ ∀ t, j < t → t < j + 1 + (mm + 1) → as[t]? = some .none) : Due w mm as (j + mm + 1) none := by
  refine .inr ⟨rfl, fun k f s e ⟨g1, g2, g3⟩ => ?_⟩
  rw [show j + mm + 1 - 1 - mm = j by omega] at g2 g3
  refine h k f s g2 fun t t1 t2 => ?_
  by_cases ht : t = j + mm + 1
  · rw [ht]
    exact e
  · exact g3 t t1 (by omega)
def sp__law_told_results (K : PySem.W.Frag) : Sp := fun vs H Q _ => ∃ (w dd : Nat) (a : Addr) (xs : List V) (as : List Ask), vs = [.int w, .int dd, .ref a] ∧ H a = some (.lst xs) ∧ Asks K H xs as ∧ (∀ A ∈ as, AskOk w A) ∧ xs.length = 30 ∧ 1 ≤ w ∧ w ≤ 16 ∧ 1 ≤ dd ∧ dd ≤ 4 ∧
  ∀ (D : Addr) (H' : Hp) (mn : Nat) (os : List (Option Int)), Same H H' → Many w dd mn → os.length = xs.length → (∀ i o, os[i]? = some o → Due w mn as i o) → H' D = some (.lst (os.map toldV)) → Q (.ref D) H'
theorem ok__law_told_results (T : Txt K mg) : FnOk P w K mg base CX0 3 T._law_told_results.f T._law_told_results.fd ["_law_width", "_law_step", "_law_asks"] (sp__law_told_results K) := by
  refine T._law_told_results.F.ok sc__law_told_results (fun vs H Q E h => ?_) (fun cdv A outer s H vs Q E hr h => ?_)
  · obtain ⟨w, dd, a, xs, as, rfl, _⟩ := h
    rfl
  · obtain ⟨w, dd, a, xs, as, rfl, ha, hA, hok, hz, w1, w2, d1, d2, q⟩ := h
    have hlen := hA.len
    refine ⟨_, (pss_cons (ps_par (i := 3) (j := 4) rfl sc__law_told_results.nd rfl rfl (by decide) rfl rfl (pa_cons (pe_op op_repL (pe_lstA (pa_cons pe_non pa_nil)) (pe_callB call_len_seq (by rfl) T.z_len PySem.boot_len (pa_cons (pv 2) pa_nil))) (pa_cons pe_int pa_nil)) (by rfl)) 
      (pss_cons (ps_while PassesOwn.never (pt_cmpR op_lt (pe_op op_mul (pv 4) (pv 1)) (pv 0) (nomark _)) 
        (pss_one (ps_set (i := 4) sc__law_told_results.nd rfl (.inl rfl) (pe_op op_add (pv 4) pe_int)))) 
      (pss_cons (ps_for PassesOwn.never rfl (pi_enum (by rfl) T.z_enumerate (pa_cons (pv 2) pa_nil)) (pg_tup rfl (pgs_cons (pg_name (i := 5) sc__law_told_results.nd rfl (.inl rfl)) (pgs_cons (pg_name (i := 6) sc__law_told_results.nd rfl (.inl rfl)) pgs_nil))) 
        (pss_cons (ps_set (i := 7) sc__law_told_results.nd rfl (.inl rfl) (pe_op op_add (pe_op op_add (pv 5) (pv 4)) pe_int)) 
        (pss_one (ps_if (PW.pt (pw_and (pt_cmpR op_notN (pv 6) pe_non (nomark _)) (pw_and (pt_cmpR op_eq (pe_ix ix_tup (pv 6) pe_int (fun _ _ => rfl)) pe_str (nomark _)) (pw_and1 (pt_cmpR op_lt (pv 7) (pe_callB call_len_seq (by rfl) T.z_len PySem.boot_len (pa_cons (pv 2) pa_nil)) (nomark _)))))) 
          (pss_one (ps_if (pt_cmpR (op_eqD hr.units) (pe_lc (own := [("_law_one", 8)]) (by rfl) sc__law_told_results.nd (pi_list (pe_slice sl_listA (pv 2) (po_some (pe_op op_add (pv 5) pe_int)) (po_some (pe_op op_add (pv 7) pe_int)))) (blkOk_by (own := [("_law_one", 8)]) (N := ["_law_width", "_law_step", "_law_asks", "_law_found", "_law_many", "_law_at", "_law_ask", "_law_later", "_law_one"]) (sc := defScope s__law_told_results) (by decide +kernel)) (fun _ _ _ _ _ => (pg_name (i := 8) sc__law_told_results.nd rfl (.inl rfl))) (fun _ _ _ _ _ => (pts_one (pt_cmpR op_notN (pv 8) pe_non (nomark _)))) (fun _ _ _ _ _ => (pv 8))) (pe_lstA pa_nil) (nomark _)) 
            (pss_one (ps_asg (pe_call (ok__law_result T) (hr.mono (by decide)) (by rfl) T._law_result.g T._law_result.F.kp T._law_result.b .nil pass0 (pa_cons (pv 0) (pa_cons (pe_ix ix_tup (pv 6) pe_int (fun _ _ => rfl)) (pa_cons (pe_ix ix_tup (pv 6) pe_int (fun _ _ => rfl)) (pa_cons (pe_ix ix_tup (pv 6) pe_int (fun _ _ => rfl)) pa_nil))))) (pg_sub (pv 3) (pv 7) set_list))) pss_nil)) pss_nil)))) 
      (pss_one (ps_ret (pv 3)))))), ?_⟩
    refine ⟨sz, fun l0 H0 h0 e0 _ => ⟨_, rfl, a, _, rfl, .inl (SqL.of (h0 _ _ ha)), l0, xs.length, [.non], rfl, rfl, e0, by omega, by omega, ?_, fun F H1 h1 e1 nF => ⟨_, _, rfl, ?_⟩⟩⟩
    · show 1 * ((xs.length : Int)).toNat ≤ _
      refine Nat.le_trans (m := 100) (by omega) (by decide)
    rw [List.flatten_replicate_singleton] at e1
    have h01 := h0.trans h1
    have nFa : F ≠ a := fun z => by
      rw [z, h0 _ _ ha] at nF
      cases nF
    refine ⟨fun m σ H' => ∃ mm : Nat, m = w - mm ∧ σ = [some (.int w), some (.int dd), some (.ref a), some (.ref F), some (.int mm), none, none, none, none] ∧ H' = H1 ∧ (∀ b, b < mm → b * dd < w), ⟨w, 0, rfl, rfl, rfl, fun b hb => absurd hb (Nat.not_lt_zero b)⟩, ?_⟩
    rintro m σ H1' ⟨mm, rfl, rfl, rfl, hlt⟩
    refine ⟨_, rfl, _, rfl, _, _, rfl, rfl, .inr ⟨by omega, by omega⟩, _, rfl, _, _, rfl, rfl, _, rfl, ite3 (fun e => ?_) (fun e => ?_)⟩
    · have hml : mm * dd < w := by
        have := of_decide_eq_true e
        exact_mod_cast this
      have hmw : mm < w := Nat.lt_of_le_of_lt (Nat.le_mul_of_pos_right mm d1) hml
      refine ⟨fun σ' H' => ∃ m', m' < w - mm ∧ _, fun σ' H' h => h, ?_⟩
      refine ⟨_, rfl, _, _, rfl, rfl, w - (mm + 1), by omega, mm + 1, rfl, ?_, rfl, fun b hb => ?_⟩
      · show _ = [some (V.int w), some (V.int dd), some (V.ref a), some (V.ref F), some (V.int ((mm + 1 : Nat) : Int)), none, none, none, none]
        rw [Int.natCast_add]
        rfl
      · by_cases hb2 : b = mm
        · rw [hb2]
          exact hml
        · exact hlt b (by omega)
    have hmany : Many w dd mm := ⟨by
      have := of_decide_eq_false e
      have h2 : ¬ mm * dd < w := fun z => this (by exact_mod_cast z)
      omega, hlt⟩
    have hmm : mm ≤ 16 := by
      cases mm with
      | zero => omega
      | succ m =>
        have := hlt m (Nat.lt_succ_self m)
        have := Nat.le_mul_of_pos_right m d1
        omega
    have nFH : H F = none := by
      cases e : H F with
      | none => rfl
      | some o =>
        rw [h0 _ _ e] at nF
        cases nF
    refine ⟨_, rfl, a, _, rfl, SqL.of (h01 _ _ ha), for_enumL (K := K) (a := a) (xs := xs) (fun j σ H' => ∃ (os : List (Option Int)) (y1 y2 y3 : Option V), σ = [some (.int w), some (.int dd), some (.ref a), some (.ref F), some (.int mm), y1, y2, y3, none] ∧ Same H H' ∧ os.length = xs.length ∧ H' F = some (.lst (os.map toldV)) ∧
      ∀ i o, os[i]? = some o → (i < j + mm + 1 → Due w mm as i o) ∧ (j + mm + 1 ≤ i → o = none)) ⟨List.replicate xs.length none, none, none, none, rfl, h01, by simp, by rw [e1, List.map_replicate]; rfl, ?_⟩ ?_ ?_ ?_⟩
    · intro i o ho
      rw [List.getElem?_replicate] at ho
      split at ho
      · cases ho
        exact ⟨fun hi => .inr ⟨rfl, fun k f s _ g => by have := g.1; omega⟩, fun _ => rfl⟩
      · cases ho
    · rintro j σ H' ⟨os, y1, y2, y3, _, sm, _⟩
      exact sm.seq (SqL.of ha)
    · rintro j x t σ H2 hx ⟨os, y1, y2, y3, rfl, sm, hol, hoF, hos⟩ nt
      obtain ⟨A, eA, hAx⟩ := hA.get hx
      have hj : j < xs.length := (List.getElem?_eq_some_iff.mp hx).1
      have s3 : Same H2 (upd H2 t (.tup [.int (j : Int), x])) := same_new nt
      generalize hH3 : upd H2 t (.tup [.int (j : Int), x]) = H3 at s3
      have et : SqT K H3 t [.int (j : Int), x] := by
        rw [← hH3]
        exact SqT.of upd_same
      have sm3 := sm.trans s3
      have hoF3 := s3 _ _ hoF
      have hAx3 := hAx.lm (LMut.of sm3)
      have elater : (j : Int) + (mm : Int) + 1 = ((j + mm + 1 : Nat) : Int) := by omega
      have nxt : ∀ H4, Same H3 H4 → (Due w mm as (j + mm + 1) none ∨ xs.length ≤ j + mm + 1) → ∃ (os : List (Option Int)) (y1 y2 y3 : Option V), [some (.int w), some (.int dd), some (.ref a), some (.ref F), some (.int mm), some (.int (j : Int)), some x, some (.int ((j : Int) + (mm : Int) + 1)), none] = [some (.int w), some (.int dd), some (.ref a), some (.ref F), some (.int mm), y1, y2, y3, none] ∧ Same H H4 ∧ os.length = xs.length ∧ H4 F = some (.lst (os.map toldV)) ∧
          ∀ i o, os[i]? = some o → (i < j + 1 + mm + 1 → Due w mm as i o) ∧ (j + 1 + mm + 1 ≤ i → o = none) := fun H4 s4 hd => by
        refine ⟨os, _, _, _, rfl, sm3.trans s4, hol, s4 _ _ hoF3, fun i o ho => ⟨fun hi => ?_, fun hi => (hos i o ho).2 (by omega)⟩⟩
        by_cases hi2 : i < j + mm + 1
        · exact (hos i o ho).1 hi2
        · have hi3 : i = j + mm + 1 := by omega
          have ho2 := (hos i o ho).2 (by omega)
          have hlt := (List.getElem?_eq_some_iff.mp ho).1
          subst hi3
          rw [ho2]
          rcases hd with hd | hd
          · exact hd
          · omega
      refine ⟨t, _, rfl, et, rfl, _, _, rfl, _, [], rfl, rfl, ?_⟩
      refine ⟨_, rfl, _, rfl, _, _, rfl, rfl, _, _, rfl, rfl, ?_⟩
      cases A with
      | none =>
        have hAx3 : x = .non := hAx3
        subst hAx3
        exact ⟨_, rfl, rfl, _, rfl, iteBF rfl (nxt H3 (Same.refl _) (.inl (due_none fun k f s h => by rw [eA] at h; cases h)))⟩
      | stop =>
        obtain ⟨b, rfl, hb⟩ := hAx3
        refine ⟨_, rfl, rfl, _, rfl, iteB rfl ⟨_, rfl, b, _, 0, _, rfl, rfl, hb, atI_nat (j := 0) rfl, rfl, false, congrArg V.bl (decide_eq_false (by decide)), iteF ?_⟩⟩
        exact nxt H3 (Same.refl _) (.inl (due_none fun k f s h => by rw [eA] at h; cases h))
      | beg k f s' =>
        obtain ⟨b, rfl, hb⟩ := hAx3
        refine ⟨_, rfl, rfl, _, rfl, iteB rfl ⟨_, rfl, b, _, 0, _, rfl, rfl, hb, atI_nat (j := 0) rfl, rfl, true, congrArg V.bl (decide_eq_true rfl), iteT ?_⟩⟩
        refine ⟨_, rfl, _, rfl, a, _, rfl, .inl (SqL.of (sm3 _ _ ha)), _, _, rfl, rfl, _, rfl, ite3 (fun e => ?_) (fun e => ?_)⟩
        rotate_left
        · refine nxt H3 (Same.refl _) (.inr ?_)
          have := of_decide_eq_false e
          omega
        have hlater : j + mm + 1 < xs.length := by
          have := of_decide_eq_true e
          omega
        have hbok := hok _ (List.mem_of_getElem? eA)
        obtain ⟨f0, f1, s0, s1⟩ := hbok
        refine ⟨_, rfl, _, rfl, _, _, rfl, rfl, _, rfl, _, rfl, _, _, rfl, rfl, _, rfl, a, _, rfl, SqL.of (sm3 _ _ ha), fun p H4 h4 e4 np => ?_⟩
        have ecut : cutV xs (some ((j : Int) + 1)) (some ((j : Int) + (mm : Int) + 1 + 1)) = (xs.drop (j + 1)).take (mm + 1) := by
          have := cut_mid xs (j + 1) (mm + 1) (by omega)
          rw [← this]
          congr 2
          omega
        have e4 : H4 p = some (.lst ((xs.drop (j + 1)).take (mm + 1))) := by
          rw [← ecut]
          exact e4
        have sm4 := sm3.trans h4
        have hA4 := hA.lm (LMut.of sm4)
        refine ⟨p, rfl, ⟨_, SqL.of e4⟩, lc_listF (SqL.of e4) noneF ?_ ?_ fun D H5 h5 e5 _ => ?_⟩
        · rw [List.length_take]
          omega
        · intro i v H' hv s6 Rk N hR hN
          by_cases hv0 : v = .non
          · subst hv0
            exact ⟨rfl, _, rfl, rfl, _, rfl, iteBF rfl (hN _ rfl (Same.refl _))⟩
          · have ev : noneF v = some v := by
              cases v with
              | non => exact absurd rfl hv0
              | _ => rfl
            exact ⟨rfl, _, rfl, rfl, _, rfl, iteB (by rw [decide_eq_false hv0]; rfl) ⟨_, rfl, hR _ _ ev (Same.refl _)⟩⟩
        refine ⟨sz, fun l6 H6 h6 e6 _ => ?_⟩
        have sm6 := (sm4.trans h5).trans h6
        have hA6 := hA.lm (LMut.of sm6)
        have s36 := (h4.trans h5).trans h6
        have hdp : ∀ v ∈ ((xs.drop (j + 1)).take (mm + 1)).filterMap noneF, ∃ dt, Dp K H6 v dt ∧ OkD 1 dt := fun v hv => by
          obtain ⟨u, hu, e⟩ := List.mem_filterMap.mp hv
          have hvu : v = u := by
            cases u <;> first
              | (cases e; rfl)
              | cases e
          subst hvu
          obtain ⟨i, hi⟩ := List.mem_iff_getElem?.mp (List.mem_of_mem_drop (List.mem_of_mem_take hu))
          obtain ⟨B, _, hB⟩ := hA6.get hi
          exact hB.dp
        obtain ⟨ds, g1, g2, g3⟩ := dp_all hdp
        refine ⟨.list ds, .list [], .lst (SqL.of (h6 _ _ e5)) g1, .lst (SqL.of e6) .nil, (OkD.list g2).sh, rfl, _, rfl, ?_⟩
        have hseg := seg_nil (H := H6) hA6 (j := j) (m := mm) (by omega)
        by_cases hys : ((xs.drop (j + 1)).take (mm + 1)).filterMap noneF = []
        · have hds : ds = [] := by
            rw [hys] at g3
            exact List.eq_nil_of_length_eq_zero g3
          subst hds
          refine iteB rfl ?_
          have hb6 := sT s36 hb
          refine ⟨_, rfl, _, rfl, b, _, 1, _, rfl, rfl, hb6, atI_nat (j := 1) rfl, _, rfl, b, _, 2, _, rfl, rfl, hb6, atI_nat (j := 2) rfl, _, rfl, b, _, 3, _, rfl, rfl, hb6, atI_nat (j := 3) rfl, w, k, f, s', rfl, w2, f0, f1, s0, s1, ?_⟩
          have hoF6 := s36 _ _ hoF3
          refine ⟨_, rfl, _, rfl, F, _, _, j + mm + 1, rfl, rfl, hoF6, ?_, ?_⟩
          · unfold ixN
            rw [List.length_map, if_pos (by omega), if_pos (by omega)]
            congr 1
          have hage : Age as (j + mm + 1) mm k f s' := ⟨by omega, by rw [show j + mm + 1 - 1 - mm = j by omega]; exact eA, fun t t1 t2 => hseg.mp hys t (by omega) (by omega)⟩
          have hdue : Due w mm as (j + mm + 1) (some (resF w k f s')) := .inl ⟨k, f, s', hage, hseg.mp hys _ (by omega) (by omega), rfl⟩
          refine ⟨os.set (j + mm + 1) (some (resF w k f s')), _, _, _, rfl, Same.back nFH sm6 But.mut, by rw [List.length_set]; exact hol, ?_, fun i o ho => ?_⟩
          · rw [upd_same, List.map_set]
            rfl
          · rw [List.getElem?_set] at ho
            by_cases hi : j + mm + 1 = i
            · rw [if_pos hi] at ho
              split at ho
              · cases ho
                subst hi
                exact ⟨fun _ => hdue, fun z => by omega⟩
              · cases ho
            · rw [if_neg hi] at ho
              exact ⟨fun z => (hos i o ho).1 (by omega), fun z => (hos i o ho).2 (by omega)⟩
        · have hne : PyData.eqv (.list ds) (.list []) = false := by
            cases ds with
            | nil => exact absurd (List.eq_nil_of_length_eq_zero g3.symm) hys
            | cons c r => rfl
          refine iteBF hne ?_
          exact nxt H6 s36 (.inl (due_none fun k2 f2 s2 h2 z => hys (hseg.mpr z)))
    · rintro σ H2 ⟨os, y1, y2, y3, rfl, sm, hol, hoF, hos⟩
      exact ⟨_, rfl, q F H2 mm os sm hmany hol (fun i o ho => (hos i o ho).1 (by have := (List.getElem?_eq_some_iff.mp ho).1; omega)) hoF⟩
end
end TB
namespace TB
open PySem PySem.Spec PyProof.Rows L2
section
variable {P : Program} {w : World} {K : PySem.W.Frag} {mg : Str → Option Value} {base : Heap}
def toldD : Option Int → PyData
  | none => .none
  | some i => .int i
theorem told_dp {H : Hp} (o : Option Int) : Dp K H (toldV o) (toldD o) := by
  cases o with
  | none => exact .non
  | some i => exact .int i
theorem told_ok {n : Nat} (o : Option Int) : OkD n (toldD o) := by
  cases o with
  | none => exact .none
  | some i => exact .int i
theorem tolds_dp {H : Hp} : ∀ os : List (Option Int), DpAll K H (os.map toldV) (os.map toldD)
  | [] => .nil
  | o :: r => .cons (told_dp o) (tolds_dp r)
theorem tolds_okT (os : List (Option Int)) : SeqAt.shaped (.tuple (os.map toldD)) = true := (OkD.tup (n := 0) fun d hd => by
  obtain ⟨o, _, rfl⟩ := List.mem_map.mp hd
  exact told_ok o).sh
theorem tolds_okL (os : List (Option Int)) : SeqAt.shaped (.list (os.map toldD)) = true := (OkD.list (n := 0) fun d hd => by
  obtain ⟨o, _, rfl⟩ := List.mem_map.mp hd
  exact told_ok o).sh
theorem pair_sh (st : LState) (o : Option Int) : SeqAt.shaped (.tuple [lsD st, toldD o]) = true := (OkD.tup (n := 1) fun d hd => by
  simp only [List.mem_cons, List.not_mem_nil, or_false] at hd
  rcases hd with rfl | rfl
  · exact ls_ok st
  · exact told_ok o).sh
theorem pair_dp {H : Hp} {p b : Addr} {st : LState} {o : Option Int} (tp : SqT K H p [.ref b, toldV o]) (tb : SqT K H b (lsV st)) : Dp K H (.ref p) (.tuple [lsD st, toldD o]) := .tup tp (.cons (ls_dp tb) (.cons (told_dp o) .nil))
theorem tolds_len (w d : Nat) (as : List Ask) (n : Nat) : (tolds w d as n).length = n := by
  unfold tolds
  rw [List.length_map, List.length_range]
theorem results_eq {w dd mn : Nat} {as : List Ask} {os : List (Option Int)} (hm : Many w dd mn) (ha : ∀ A ∈ as, AskOk w A) (d1 : 1 ≤ dd) (hl : os.length = as.length) (h : ∀ i o, os[i]? = some o → Due w mn as i o) : os = tolds w dd as as.length := by
  refine List.ext_getElem? fun i => ?_
  by_cases hi : i < as.length
  · have e1 : os[i]? = some os[i] := List.getElem?_eq_getElem (by omega)
    have e2 : (tolds w dd as as.length)[i]? = some (toldI w dd as i) := by
      unfold tolds
      rw [List.getElem?_map, List.getElem?_range hi]
      rfl
    rw [e1, e2, (h i _ e1).uniq (told_due hm ha d1 hi)]
  · rw [List.getElem?_eq_none (by omega), List.getElem?_eq_none (by rw [tolds_len]; omega)]
def sp__law_right (K : PySem.W.Frag) : Sp := fun vs H Q _ => ∃ (d : Addr), vs = [.ref d] ∧ Dice H d ∧ ∀ H', Ext d H H' → Q (.bl true) H'
theorem ok__law_right (T : Txt K mg) : FnOk P w K mg base CX0 7 T._law_right.f T._law_right.fd ["_law_dice_here"] (sp__law_right K) := by
  refine T._law_right.F.ok sc__law_right (fun vs H Q E h => ?_) (fun cdv A outer s H vs Q E hr h => ?_)
  · obtain ⟨d, rfl, _⟩ := h
    rfl
  · obtain ⟨d, rfl, hd, q⟩ := h
    refine ⟨_, (pss_cons (ps_par (i := 1) (j := 2) rfl sc__law_right.nd rfl rfl (by decide) rfl rfl (pa_cons (pe_op op_add pe_int (pe_call (ok__law_roll T) (hr.mono (by decide)) (by rfl) T._law_roll.g T._law_roll.F.kp T._law_roll.b .nil pass0 (pa_cons (pv 0) (pa_cons pe_int pa_nil)))) (pa_cons (pe_op op_add pe_int (pe_call (ok__law_roll T) (hr.mono (by decide)) (by rfl) T._law_roll.g T._law_roll.F.kp T._law_roll.b .nil pass0 (pa_cons (pv 0) (pa_cons pe_int pa_nil)))) pa_nil)) (by rfl)) 
      (pss_cons (ps_set (i := 3) sc__law_right.nd rfl (.inl rfl) (pe_call (ok__law_asks_drawn T) (hr.mono (by decide)) (by rfl) T._law_asks_drawn.g T._law_asks_drawn.F.kp T._law_asks_drawn.b .nil pass0 (pa_cons (pv 0) (pa_cons (pv 1) (pa_cons (pv 2) (pa_cons pe_int pa_nil)))))) 
      (pss_cons (ps_par (i := 4) (j := 5) rfl sc__law_right.nd rfl rfl (by decide) rfl rfl (pa_cons (pe_tupA (pa_cons pe_str (pa_cons pe_int (pa_cons pe_int (pa_cons pe_int (pa_cons pe_int (pa_cons pe_int pa_nil))))))) (pa_cons (pe_lstA pa_nil) pa_nil)) (by rfl)) 
      (pss_cons (ps_for PassesOwn.never rfl (pi_list (pv 3)) (pg_name (i := 6) sc__law_right.nd rfl (.inl rfl)) 
        (pss_cons (ps_par (i := 7) (j := 8) rfl sc__law_right.nd rfl rfl (by decide) rfl rfl (pa_cons (pe_call (ok__law_beat T) (hr.mono (by decide)) (by rfl) T._law_beat.g T._law_beat.F.kp T._law_beat.b .nil pass0 (pa_cons (pv 1) (pa_cons (pv 2) (pa_cons (pv 4) (pa_cons (pv 6) pa_nil))))) (pa_cons (pe_call (ok_long_beat T) (hr.mono (by decide)) (by rfl) T.long_beat.g T.long_beat.F.kp T.long_beat.b .nil pass0 (pa_cons (pv 1) (pa_cons (pv 2) (pa_cons (pv 4) (pa_cons (pv 6) pa_nil))))) pa_nil)) (by rfl)) 
        (pss_cons (ps_if (PW.pt (pw_or (pt_cmpR (op_neD hr.units) (pv 8) (pv 7) (nomark _)) (pw_or1 (pt_not (pt_val (pe_call (ok_is_long T) (hr.mono (by decide)) (by rfl) T.is_long.g T.is_long.F.kp T.is_long.b .nil pass0 (pa_cons (pv 1) (pa_cons (pv 2) (pa_cons (pe_ix ix_tup (pv 8) pe_int (fun _ _ => rfl)) pa_nil))))))))) 
          (pss_one (ps_ret pe_bl)) pss_nil) 
        (pss_cons (ps_if (PW.pt (pw_and (pt_cmpR op_ne (pe_ix ix_tup (pe_ix ix_tup (pv 8) pe_int (fun _ _ => rfl)) pe_int (fun _ _ => rfl)) pe_str (nomark _)) (pw_and1 (pt_cmpR (op_neD hr.units) (pe_slice sl_tupleA (pe_ix ix_tup (pv 8) pe_int (fun _ _ => rfl)) (po_some pe_int) po_none) (pe_call (ok__law_formula T) (hr.mono (by decide)) (by rfl) T._law_formula.g T._law_formula.F.kp T._law_formula.b .nil pass0 (pa_cons (pv 1) (pa_cons (pe_ix ix_tup (pv 8) pe_int (fun _ _ => rfl)) pa_nil))) (nomark _))))) 
          (pss_one (ps_ret pe_bl)) pss_nil) 
        (pss_cons (ps_set (i := 4) sc__law_right.nd rfl (.inl rfl) (pe_ix ix_tup (pv 8) pe_int (fun _ _ => rfl))) 
        (pss_one (ps_expr (pe_bm PySem.F.plainAttrs_list PySem.F.slot_list_append PySem.F.type_list_append mt_append (pv 5) (pa_cons (pe_ix ix_tup (pv 8) pe_int (fun _ _ => rfl)) pa_nil))))))))) 
      (pss_cons (ps_if (pt_cmpR (op_neD hr.units) (pe_call (ok_long_run T) (hr.mono (by decide)) (by rfl) T.long_run.g T.long_run.F.kp T.long_run.b .nil pass0 (pa_cons (pv 1) (pa_cons (pv 2) (pa_cons (pe_callTy call_tupleA (by rfl) T.z_tuple (by decide +kernel) (pa_cons (pv 3) pa_nil)) pa_nil)))) (pe_callTy call_tupleA (by rfl) T.z_tuple (by decide +kernel) (pa_cons (pv 5) pa_nil)) (nomark _)) 
        (pss_one (ps_ret pe_bl)) pss_nil) 
      (pss_one (ps_ret (pe_cmpR (op_eqD hr.units) (pv 5) (pe_call (ok__law_told_results T) (hr.mono (by decide)) (by rfl) T._law_told_results.g T._law_told_results.F.kp T._law_told_results.b .nil pass0 (pa_cons (pv 1) (pa_cons (pv 2) (pa_cons (pv 3) pa_nil)))) (nomark _))))))))), ?_⟩
    refine ⟨_, rfl, d, 16, rfl, hd, by decide, by decide, fun r1 H1 r10 r11 x1 => ⟨1, r1, rfl, rfl, ?_⟩⟩
    refine ⟨_, rfl, d, 4, rfl, x1.d, by decide, by decide, fun r2 H2 r20 r21 x2 => ⟨1, r2, rfl, rfl, _, _, rfl, ?_⟩⟩
    obtain ⟨w, hw⟩ : ∃ w : Nat, 1 + r1 = (w : Int) := ⟨(1 + r1).toNat, by omega⟩
    obtain ⟨dd, hdd⟩ : ∃ dd : Nat, 1 + r2 = (dd : Int) := ⟨(1 + r2).toNat, by omega⟩
    rw [show (fun i j => V.int (i + j)) 1 r1 = V.int (w : Int) from congrArg V.int hw, show (fun i j => V.int (i + j)) 1 r2 = V.int (dd : Int) from congrArg V.int hdd]
    have w1 : 1 ≤ w := by omega
    have w2 : w ≤ 16 := by omega
    have d1 : 1 ≤ dd := by omega
    have d2 : dd ≤ 4 := by omega
    refine ⟨_, rfl, _, rfl, _, rfl, d, w, dd, rfl, x2.d, w1, w2, d1, d2, fun a H3 xs as x3 ea nad na hA hok hz => ?_⟩
    have X3 := (x1.trans x2).trans x3
    have hlen := hA.len
    refine ⟨sz, fun b0 H4 s4 e4 => ⟨sz, fun W H5 s5 e5 nW => ⟨_, _, rfl, ?_⟩⟩⟩
    have s35 := s4.trans s5
    refine ⟨_, rfl, a, rfl, ⟨_, SqL.of (s35 _ _ ea)⟩, for_list (K := K) (a := a) (xs := xs) (fun i σ H' => ∃ (b : Addr) (y1 y2 y3 : Option V), σ = [some (.ref d), some (.int w), some (.int dd), some (.ref a), some (.ref b), some (.ref W), y1, y2, y3] ∧ i ≤ as.length ∧ Same H4 H' ∧ SqT K H' b (lsV (stI w dd as i)) ∧ H' W = some (.lst ((tolds w dd as i).map toldV)))
      ⟨b0, none, none, none, rfl, Nat.zero_le _, s5, sT s5 e4, e5⟩ ?_ ?_ ?_⟩
    · rintro i σ H' _ ⟨b, y1, y2, y3, _, _, s, _⟩
      exact s.seq (SqL.of (s4 _ _ ea))
    · rintro i x σ H6 hx ⟨b, y1, y2, y3, rfl, hi, s6, hb, eW⟩
      obtain ⟨B, eB, hB⟩ := hA.get hx
      have hB6 := hB.lm (LMut.of (s4.trans s6))
      have hok1 := hok _ (List.mem_of_getElem? eB)
      have hst := stI_ok hok d1 i hi
      have hi2 := (List.getElem?_eq_some_iff.mp eB).1
      refine ⟨_, rfl, _, rfl, _, rfl, _, rfl, w, dd, b, stI w dd as i, x, B, rfl, hb, hB6, w1, w2, d2, hst, fun p7 b7 H7 h7 t7 u7 => ?_⟩
      refine ⟨_, rfl, _, rfl, _, rfl, _, rfl, w, dd, b, stI w dd as i, x, B, rfl, sT h7 hb, hB6.lm (LMut.of h7), hok1, w1, w2, d1, d2, hst, fun p8 b8 H8 h8 t8 u8 => ⟨_, _, rfl, ?_⟩⟩
      have hst2 := beat_ok hst hok1 d1
      refine ⟨_, rfl, _, rfl, _, _, pair_dp t8 u8, pair_dp (sT h8 t7) (sT h8 u7), pair_sh _ _, pair_sh _ _, _, rfl, iteBF (by rw [eqvR (pair_sh _ _)]; rfl) ?_⟩
      refine ⟨_, rfl, _, rfl, _, rfl, p8, _, 0, _, rfl, rfl, t8, atI_nat (j := 0) rfl, w, dd, b8, _, rfl, u8, hst2, w1, w2, d1, d2, fun H9 h9 => ⟨true, rfl, iteF ?_⟩⟩
      have t9 := sT h9 t8
      have u9 := sT h9 u8
      have s69 := (h7.trans h8).trans h9
      have eW9 := s69 _ _ eW
      have fin : ∀ H10, Same H9 H10 → ∃ (b : Addr) (y1 y2 y3 : Option V), True := fun _ _ => ⟨b, none, none, none, trivial⟩
      generalize hb2 : beat w dd (stI w dd as i) B = bb at *
      obtain ⟨st2, o2⟩ := bb
      have est : stI w dd as (i + 1) = st2 := by rw [stI_succ eB, hb2]
      have eto : tolds w dd as (i + 1) = tolds w dd as i ++ [o2] := by rw [tolds_succ eB, hb2]
      have hlW : ((tolds w dd as i).map toldV).length ≤ 100 := by
        rw [List.length_map, tolds_len]
        omega
      cases st2 with
      | idle =>
        refine ⟨_, rfl, p8, _, 0, _, rfl, rfl, t9, atI_nat (j := 0) rfl, b8, _, 0, _, rfl, rfl, u9, atI_nat (j := 0) rfl, rfl, _, rfl, iteBF rfl ?_⟩
        refine ⟨_, rfl, p8, _, 0, _, rfl, rfl, t9, atI_nat (j := 0) rfl, ?_⟩
        refine ⟨_, rfl, .inl ⟨rfl, _, SqL.of eW9⟩, _, rfl, p8, _, 1, _, rfl, rfl, t9, atI_nat (j := 1) rfl, W, _, _, rfl, rfl, eW9, szlt (by omega), ?_⟩
        exact ⟨b8, _, _, _, rfl, hi2, Same.back nW (s6.trans s69) But.mut, by rw [est]; exact (LMut.mut _ eW9).seqT u9, by rw [upd_same, eto, List.map_append]; rfl⟩
      | run k f s' l o t =>
        obtain ⟨f0, f1, s0, s1, hlw, _, hwa⟩ := hst2
        have hne : decide (V.str (kS k) = V.str "none") = false := by cases k <;> decide
        refine ⟨_, rfl, p8, _, 0, _, rfl, rfl, t9, atI_nat (j := 0) rfl, b8, _, 0, _, rfl, rfl, u9, atI_nat (j := 0) rfl, rfl, _, rfl, iteB (by rw [hne]; rfl) ?_⟩
        refine ⟨_, rfl, p8, _, 0, _, rfl, rfl, t9, atI_nat (j := 0) rfl, 4, rfl, b8, _, rfl, u9, fun c H10 h10 e10 => ?_⟩
        have e10 : SqT K H10 c [.int o, .int t] := e10
        refine ⟨_, rfl, _, rfl, p8, _, 0, _, rfl, rfl, sT h10 t9, atI_nat (j := 0) rfl, w, b8, k, f, s', l, o, t, rfl, sT h10 u9, w1, w2, hlw, f0, f1, s0, s1, fun c2 H11 h11 e11 => ?_⟩
        refine ⟨_, _, dp2 (sT h11 e10), dp2 e11, rfl, rfl, _, rfl, iteBF (by rw [eqv2 (congrArg Prod.fst hwa) (congrArg Prod.snd hwa)]; rfl) ?_⟩
        have s911 := h10.trans h11
        have t11 := sT s911 t9
        have u11 := sT s911 u9
        have eW11 := s911 _ _ eW9
        refine ⟨_, rfl, p8, _, 0, _, rfl, rfl, t11, atI_nat (j := 0) rfl, ?_⟩
        refine ⟨_, rfl, .inl ⟨rfl, _, SqL.of eW11⟩, _, rfl, p8, _, 1, _, rfl, rfl, t11, atI_nat (j := 1) rfl, W, _, _, rfl, rfl, eW11, szlt (by omega), ?_⟩
        exact ⟨b8, _, _, _, rfl, hi2, Same.back nW ((s6.trans s69).trans s911) But.mut, by rw [est]; exact (LMut.mut _ eW11).seqT u11, by rw [upd_same, eto, List.map_append]; rfl⟩
    rintro σ H6 ⟨b, y1, y2, y3, rfl, _, s6, hb, eW⟩
    have s36 := s4.trans s6
    have ea6 := s36 _ _ ea
    have hA6 := hA.lm (LMut.of s36)
    rw [hlen] at eW
    refine ⟨_, rfl, _, rfl, _, rfl, a, _, rfl, .inl (SqL.of ea6), fun t7 H7 h7 e7 => ?_⟩
    refine ⟨w, dd, t7, xs, as, rfl, e7, hA6.lm (LMut.of h7), hok, by omega, w1, w2, d1, d2, fun p8 H8 h8 e8 => ?_⟩
    refine ⟨_, rfl, W, _, rfl, .inl (SqL.of (h8 _ _ (h7 _ _ eW))), fun p9 H9 h9 e9 => ?_⟩
    refine ⟨_, _, .tup (sT h9 e8) (tolds_dp _), .tup e9 (tolds_dp _), tolds_okT _, tolds_okT _, _, rfl, iteBF (by rw [eqvR (tolds_okT _)]; rfl) ?_⟩
    have s69 := (h7.trans h8).trans h9
    refine ⟨_, rfl, _, rfl, _, rfl, _, rfl, w, dd, a, xs, as, rfl, s69 _ _ ea6, hA6.lm (LMut.of s69), hok, hz, w1, w2, d1, d2, fun D H10 mn os h10 hm hl hdue eD => ?_⟩
    have eos := results_eq hm hok d1 (by rw [hl, hlen]) hdue
    subst eos
    refine ⟨_, _, .lst (SqL.of (h10 _ _ (s69 _ _ eW))) (tolds_dp _), .lst (SqL.of eD) (tolds_dp _), tolds_okL _, tolds_okL _, ?_⟩
    rw [eqvR (tolds_okL _)]
    exact q _ (X3.same ((s36.trans s69).trans h10))
end
end TB
namespace TB
open PySem PySem.Spec PyProof.Rows L2
section
variable {P : Program} {w : World} {K : PySem.W.Frag} {mg : Str → Option Value} {base : Heap}
theorem Asks.nil {H : Hp} : Asks K H [] [] := ⟨rfl, fun i x A e _ => nomatch e⟩
theorem Asks.cons {H : Hp} {v : V} {A : Ask} {xs : List V} {as : List Ask} (h : AskAt K H v A) (g : Asks K H xs as) : Asks K H (v :: xs) (A :: as) := ⟨congrArg Nat.succ g.len, fun i x B e1 e2 => by
  cases i with
  | zero =>
    cases e1
    cases e2
    exact h
  | succ i => exact g.at' i x B e1 e2⟩
def lawAs : List Ask := [.beg .part 200 7, .none, .none, .none, .beg .part 200 7, .stop, .none]
theorem lawAs_ok : ∀ A ∈ lawAs, AskOk 8 A := by
  intro A h
  simp only [lawAs, List.mem_cons, List.not_mem_nil, or_false] at h
  rcases h with rfl | rfl | rfl | rfl | rfl | rfl | rfl
  · exact ⟨by decide, by decide, by decide, by decide⟩
  · exact True.intro
  · exact True.intro
  · exact True.intro
  · exact ⟨by decide, by decide, by decide, by decide⟩
  · exact True.intro
  · exact True.intro
theorem lawAs_told : tolds 8 4 lawAs lawAs.length = [none, none, none, some 28, none, none, none] := by decide +kernel
def sp_law (K : PySem.W.Frag) : Sp := fun vs H Q _ => ∃ (a : Addr) (ns : List Int), vs = [.ref a] ∧ SqL K H a (ns.map V.int) ∧ ns.length ≤ 63 ∧ ∀ H', Q (.bl true) H'
theorem ok_law (T : Txt K mg) : FnOk P w K mg base CX0 8 T.law.f T.law.fd ["_law_script"] (sp_law K) := by
  refine T.law.F.ok sc_law (fun vs H Q E h => ?_) (fun cdv A outer s H vs Q E hr h => ?_)
  · obtain ⟨a, ns, rfl, _⟩ := h
    rfl
  · obtain ⟨a, ns, rfl, hS, hlen, q⟩ := h
    refine ⟨_, (pss_cons (ps_for PassesOwn.never rfl (pi_range1 (by rfl) T.z_range (pa_cons (pe_callB (call_max2 rfl) (by rfl) T.z_max (by decide +kernel) (pa_cons pe_int (pa_cons (pe_callB (call_min2 rfl) (by rfl) T.z_min (by decide +kernel) (pa_cons pe_int (pa_cons (pe_callB call_len_seq (by rfl) T.z_len PySem.boot_len (pa_cons (pv 0) pa_nil)) pa_nil))) pa_nil))) pa_nil)) (pg_name (i := 1) sc_law.nd rfl (.inl rfl)) 
        (pss_cons (ps_set (i := 2) sc_law.nd rfl (.inl rfl) (pe_call (ok__law_dice T) (hr.mono (by decide)) (by rfl) T._law_dice.g T._law_dice.F.kp T._law_dice.b .nil pass0 (pa_cons (pv 0) (pa_cons (pv 1) pa_nil)))) 
        (pss_one (ps_for PassesOwn.never rfl (pi_range1 (by rfl) T.z_range (pa_cons pe_int pa_nil)) (pg_name (i := 3) sc_law.nd rfl (.inl rfl)) 
          (pss_one (ps_if (pt_not (pt_val (pe_call (ok__law_right T) (hr.mono (by decide)) (by rfl) T._law_right.g T._law_right.F.kp T._law_right.b .nil pass0 (pa_cons (pv 2) pa_nil)))) 
            (pss_one (ps_ret pe_bl)) pss_nil)))))) 
      (pss_cons (ps_set (i := 4) sc_law.nd rfl (.inl rfl) (pe_tupA (pa_cons pe_str (pa_cons pe_str (pa_cons pe_int (pa_cons pe_int pa_nil)))))) 
      (pss_cons (ps_set (i := 5) sc_law.nd rfl (.inl rfl) (pe_call (ok_long_run T) (hr.mono (by decide)) (by rfl) T.long_run.g T.long_run.F.kp T.long_run.b .nil pass0 (pa_cons pe_int (pa_cons pe_int (pa_cons (pe_tupA (pa_cons (pv 4) (pa_cons pe_non (pa_cons pe_non (pa_cons pe_non (pa_cons (pv 4) (pa_cons (pe_tupA (pa_cons pe_str pa_nil)) (pa_cons pe_non pa_nil)))))))) pa_nil))))) 
      (pss_one (ps_ret (pe_cmpR (op_eqD hr.units) (pv 5) (pe_tupA (pa_cons pe_non (pa_cons pe_non (pa_cons pe_non (pa_cons pe_int (pa_cons pe_non (pa_cons pe_non (pa_cons pe_non pa_nil)))))))) (nomark _))))))), ?_⟩
    refine ⟨_, rfl, a, _, rfl, .inl hS, _, _, rfl, _, _, rfl, _, rfl, ?_, ?_, ?_⟩
    · rw [List.length_map]
      split <;> split <;> omega
    · rw [List.length_map]
      split <;> split <;> omega
    refine for_rangeN (fun i σ H' => ∃ y1 y2 y3, σ = [some (.ref a), y1, y2, y3, none, none] ∧ Same H H') ⟨none, none, none, rfl, Same.refl H⟩ ?_ ?_
    · rintro i σ H' _ ⟨y1, y2, y3, rfl, sm⟩
      refine ⟨_, rfl, _, rfl, a, ns, i, rfl, sm.seq hS, fun x y z d H1 s1 e1 nd => ?_⟩
      have hd : Dice H1 d := ⟨x, y, z, e1⟩
      refine ⟨_, rfl, by decide, by decide, for_rangeN (n := 3) (fun j σ H2 => ∃ y3, σ = [some (.ref a), some (.int i), some (.ref d), y3, none, none] ∧ Ext d H1 H2) ⟨y3, rfl, Ext.refl hd⟩ ?_ ?_⟩
      · rintro j σ H2 _ ⟨y3, rfl, xx⟩
        refine ⟨_, rfl, d, rfl, xx.d, fun H3 x3 => ⟨true, rfl, iteF ?_⟩⟩
        exact ⟨_, rfl, xx.trans x3⟩
      · rintro σ H2 ⟨y3, rfl, xx⟩
        exact ⟨_, _, _, rfl, sm.trans (Same.back nd s1 xx.s)⟩
    · rintro σ H1 ⟨y1, y2, y3, rfl, sm⟩
      refine ⟨sz, fun t1 H2 h2 e2 => ?_⟩
      refine ⟨_, rfl, _, rfl, sz, fun t3 H3 h3 e3 => ⟨sz, fun t4 H4 h4 e4 => ?_⟩⟩
      have b4 : SqT K H4 t1 [.str "begin", .str (kS .part), .int 200, .int 7] := sT (h3.trans h4) e2
      have hA : Asks K H4 [.ref t1, .non, .non, .non, .ref t1, .ref t3, .non] lawAs :=
        .cons (A := .beg .part 200 7) ⟨t1, rfl, b4⟩ (.cons (A := .none) rfl (.cons (A := .none) rfl (.cons (A := .none) rfl (.cons (A := .beg .part 200 7) ⟨t1, rfl, b4⟩ (.cons (A := .stop) ⟨t3, rfl, sT h4 e3⟩ (.cons (A := .none) rfl .nil))))))
      refine ⟨8, 4, t4, _, lawAs, rfl, e4, hA, lawAs_ok, by decide, by decide, by decide, by decide, by decide, fun p H5 h5 e5 => ?_⟩
      rw [lawAs_told] at e5
      refine ⟨_, rfl, sz, fun p6 H6 h6 e6 => ?_⟩
      refine ⟨_, _, .tup (sT h6 e5) (tolds_dp _), .tup e6 (tolds_dp [none, none, none, some 28, none, none, none]), tolds_okT _, tolds_okT _, ?_⟩
      rw [eqvR (tolds_okT _)]
      exact q _
end
end TB
namespace TB
open PySem PySem.Spec PyProof.Rows L2
/-! ### the end -/
noncomputable def txt_mk {K : PySem.W.Frag} {h : Heap} {mg : Str → Option Value} (X : K.In h) (G : h.Ns mainGlobals mg)
    {f0 f1 f2 f3 f4 f5 f6 f7 f8 f9 f10 f11 f12 f13 f14 f15 f16 f17 f18 f19 f20 f21 f22 f23 f24 f25 f26 f27 f28 : Addr} {od0 an0 od1 an1 od2 an2 od3 an3 od4 an4 od5 an5 od6 an6 od7 an7 od8 an8 od9 an9 od10 an10 od11 an11 od12 an12 od13 an13 od14 an14 od15 an15 od16 an16 od17 an17 od18 an18 od19 an19 od20 an20 od21 an21 od22 an22 od23 an23 od24 an24 od25 an25 od26 an26 od27 an27 od28 an28 : Option Addr} {sl0 sl1 sl2 sl3 sl4 sl5 sl6 sl7 sl8 sl9 sl10 sl11 sl12 sl13 sl14 sl15 sl16 sl17 sl18 sl19 sl20 sl21 sl22 sl23 sl24 sl25 sl26 sl27 sl28 : Array (Option Value)} {oc0 dc0 pm0 cd0 ct0 kV0 oc1 dc1 pm1 cd1 ct1 kV1 oc2 dc2 pm2 cd2 ct2 kV2 oc3 dc3 pm3 cd3 ct3 kV3 oc4 dc4 pm4 cd4 ct4 kV4 oc5 dc5 pm5 cd5 ct5 kV5 oc6 dc6 pm6 cd6 ct6 kV6 oc7 dc7 pm7 cd7 ct7 kV7 oc8 dc8 pm8 cd8 ct8 kV8 oc9 dc9 pm9 cd9 ct9 kV9 oc10 dc10 pm10 cd10 ct10 kV10 oc11 dc11 pm11 cd11 ct11 kV11 oc12 dc12 pm12 cd12 ct12 kV12 oc13 dc13 pm13 cd13 ct13 kV13 oc14 dc14 pm14 cd14 ct14 kV14 oc15 dc15 pm15 cd15 ct15 kV15 oc16 dc16 pm16 cd16 ct16 kV16 oc17 dc17 pm17 cd17 ct17 kV17 oc18 dc18 pm18 cd18 ct18 kV18 oc19 dc19 pm19 cd19 ct19 kV19 oc20 dc20 pm20 cd20 ct20 kV20 oc21 dc21 pm21 cd21 ct21 kV21 oc22 dc22 pm22 cd22 ct22 kV22 oc23 dc23 pm23 cd23 ct23 kV23 oc24 dc24 pm24 cd24 ct24 kV24 oc25 dc25 pm25 cd25 ct25 kV25 oc26 dc26 pm26 cd26 ct26 kV26 oc27 dc27 pm27 cd27 ct27 kV27 oc28 dc28 pm28 cd28 ct28 kV28 : Value} {xa0 : Addr} {xd0 : Option Addr} {xn0 : Nat} {xs0 : Array (Option Value)} {xt0_0 xt0_1 xt0_2 : Tok} {xa1 : Addr} {xd1 : Option Addr} {xn1 : Nat} {xs1 : Array (Option Value)} {xt1_0 xt1_1 xt1_2 xt1_3 xt1_4 xt1_5 : Tok} {xa2 : Addr} {xd2 : Option Addr} {xn2 : Nat} {xs2 : Array (Option Value)} {xt2_0 : Tok} {xa3 : Addr} {xd3 : Option Addr} {xn3 : Nat} {xs3 : Array (Option Value)} {xt3_0 : Tok} {tk0 tk1 tk2 tk7 tk8 : Tok}
    (a0 : PySem.W.nsIn K mainGlobals "is_integer" = some (some (.ref f0)))
    (l0 : K.lookup f0 = some ⟨oc0, od0, .func (PySem.W.fnOf "is_integer" "is_integer" (defArgs s_is_integer) (defBody s_is_integer) (defScope s_is_integer) .none kV0 dc0 pm0 an0 cd0 ct0), sl0⟩)
    (c0 : PySem.W.codeIn K cd0 "is_integer" = true)
    (k0 : PySem.W.keepIn K (.ref f0) = true)
    (a1 : PySem.W.nsIn K mainGlobals "is_within" = some (some (.ref f1)))
    (l1 : K.lookup f1 = some ⟨oc1, od1, .func (PySem.W.fnOf "is_within" "is_within" (defArgs s_is_within) (defBody s_is_within) (defScope s_is_within) .none kV1 dc1 pm1 an1 cd1 ct1), sl1⟩)
    (c1 : PySem.W.codeIn K cd1 "is_within" = true)
    (k1 : PySem.W.keepIn K (.ref f1) = true)
    (a2 : PySem.W.nsIn K mainGlobals "is_word_in" = some (some (.ref f2)))
    (l2 : K.lookup f2 = some ⟨oc2, od2, .func (PySem.W.fnOf "is_word_in" "is_word_in" (defArgs s_is_word_in) (defBody s_is_word_in) (defScope s_is_word_in) .none kV2 dc2 pm2 an2 cd2 ct2), sl2⟩)
    (c2 : PySem.W.codeIn K cd2 "is_word_in" = true)
    (k2 : PySem.W.keepIn K (.ref f2) = true)
    (a3 : PySem.W.nsIn K mainGlobals "begun" = some (some (.ref f3)))
    (l3 : K.lookup f3 = some ⟨oc3, od3, .func (PySem.W.fnOf "begun" "begun" (defArgs s_begun) (defBody s_begun) (defScope s_begun) .none kV3 dc3 pm3 an3 cd3 ct3), sl3⟩)
    (c3 : PySem.W.codeIn K cd3 "begun" = true)
    (k3 : PySem.W.keepIn K (.ref f3) = true)
    (a4 : PySem.W.nsIn K mainGlobals "round_times" = some (some (.ref f4)))
    (l4 : K.lookup f4 = some ⟨oc4, od4, .func (PySem.W.fnOf "round_times" "round_times" (defArgs s_round_times) (defBody s_round_times) (defScope s_round_times) .none kV4 dc4 pm4 an4 cd4 ct4), sl4⟩)
    (c4 : PySem.W.codeIn K cd4 "round_times" = true)
    (k4 : PySem.W.keepIn K (.ref f4) = true)
    (a5 : PySem.W.nsIn K mainGlobals "round_part" = some (some (.ref f5)))
    (l5 : K.lookup f5 = some ⟨oc5, od5, .func (PySem.W.fnOf "round_part" "round_part" (defArgs s_round_part) (defBody s_round_part) (defScope s_round_part) .none kV5 dc5 pm5 an5 cd5 ct5), sl5⟩)
    (c5 : PySem.W.codeIn K cd5 "round_part" = true)
    (k5 : PySem.W.keepIn K (.ref f5) = true)
    (a6 : PySem.W.nsIn K mainGlobals "behind_rounds" = some (some (.ref f6)))
    (l6 : K.lookup f6 = some ⟨oc6, od6, .func (PySem.W.fnOf "behind_rounds" "behind_rounds" (defArgs s_behind_rounds) (defBody s_behind_rounds) (defScope s_behind_rounds) .none kV6 dc6 pm6 an6 cd6 ct6), sl6⟩)
    (c6 : PySem.W.codeIn K cd6 "behind_rounds" = true)
    (k6 : PySem.W.keepIn K (.ref f6) = true)
    (a7 : PySem.W.nsIn K mainGlobals "behind_beat" = some (some (.ref f7)))
    (l7 : K.lookup f7 = some ⟨oc7, od7, .func (PySem.W.fnOf "behind_beat" "behind_beat" (defArgs s_behind_beat) (defBody s_behind_beat) (defScope s_behind_beat) .none kV7 dc7 pm7 an7 cd7 ct7), sl7⟩)
    (c7 : PySem.W.codeIn K cd7 "behind_beat" = true)
    (k7 : PySem.W.keepIn K (.ref f7) = true)
    (a8 : PySem.W.nsIn K mainGlobals "words_after" = some (some (.ref f8)))
    (l8 : K.lookup f8 = some ⟨oc8, od8, .func (PySem.W.fnOf "words_after" "words_after" (defArgs s_words_after) (defBody s_words_after) (defScope s_words_after) .none kV8 dc8 pm8 an8 cd8 ct8), sl8⟩)
    (c8 : PySem.W.codeIn K cd8 "words_after" = true)
    (k8 : PySem.W.keepIn K (.ref f8) = true)
    (a9 : PySem.W.nsIn K mainGlobals "is_begin" = some (some (.ref f9)))
    (l9 : K.lookup f9 = some ⟨oc9, od9, .func (PySem.W.fnOf "is_begin" "is_begin" (defArgs s_is_begin) (defBody s_is_begin) (defScope s_is_begin) .none kV9 dc9 pm9 an9 cd9 ct9), sl9⟩)
    (c9 : PySem.W.codeIn K cd9 "is_begin" = true)
    (k9 : PySem.W.keepIn K (.ref f9) = true)
    (a10 : PySem.W.nsIn K mainGlobals "is_ask" = some (some (.ref f10)))
    (l10 : K.lookup f10 = some ⟨oc10, od10, .func (PySem.W.fnOf "is_ask" "is_ask" (defArgs s_is_ask) (defBody s_is_ask) (defScope s_is_ask) .none kV10 dc10 pm10 an10 cd10 ct10), sl10⟩)
    (c10 : PySem.W.codeIn K cd10 "is_ask" = true)
    (k10 : PySem.W.keepIn K (.ref f10) = true)
    (a11 : PySem.W.nsIn K mainGlobals "is_state" = some (some (.ref f11)))
    (l11 : K.lookup f11 = some ⟨oc11, od11, .func (PySem.W.fnOf "is_state" "is_state" (defArgs s_is_state) (defBody s_is_state) (defScope s_is_state) .none kV11 dc11 pm11 an11 cd11 ct11), sl11⟩)
    (c11 : PySem.W.codeIn K cd11 "is_state" = true)
    (k11 : PySem.W.keepIn K (.ref f11) = true)
    (a12 : PySem.W.nsIn K mainGlobals "require_long" = some (some (.ref f12)))
    (l12 : K.lookup f12 = some ⟨oc12, od12, .func (PySem.W.fnOf "require_long" "require_long" (defArgs s_require_long) (defBody s_require_long) (defScope s_require_long) .none kV12 dc12 pm12 an12 cd12 ct12), sl12⟩)
    (c12 : PySem.W.codeIn K cd12 "require_long" = true)
    (k12 : PySem.W.keepIn K (.ref f12) = true)
    (a13 : PySem.W.nsIn K mainGlobals "is_long" = some (some (.ref f13)))
    (l13 : K.lookup f13 = some ⟨oc13, od13, .func (PySem.W.fnOf "is_long" "is_long" (defArgs s_is_long) (defBody s_is_long) (defScope s_is_long) .none kV13 dc13 pm13 an13 cd13 ct13), sl13⟩)
    (c13 : PySem.W.codeIn K cd13 "is_long" = true)
    (k13 : PySem.W.keepIn K (.ref f13) = true)
    (a14 : PySem.W.nsIn K mainGlobals "long_beat" = some (some (.ref f14)))
    (l14 : K.lookup f14 = some ⟨oc14, od14, .func (PySem.W.fnOf "long_beat" "long_beat" (defArgs s_long_beat) (defBody s_long_beat) (defScope s_long_beat) .none kV14 dc14 pm14 an14 cd14 ct14), sl14⟩)
    (c14 : PySem.W.codeIn K cd14 "long_beat" = true)
    (k14 : PySem.W.keepIn K (.ref f14) = true)
    (a15 : PySem.W.nsIn K mainGlobals "long_run" = some (some (.ref f15)))
    (l15 : K.lookup f15 = some ⟨oc15, od15, .func (PySem.W.fnOf "long_run" "long_run" (defArgs s_long_run) (defBody s_long_run) (defScope s_long_run) .none kV15 dc15 pm15 an15 cd15 ct15), sl15⟩)
    (c15 : PySem.W.codeIn K cd15 "long_run" = true)
    (k15 : PySem.W.keepIn K (.ref f15) = true)
    (a16 : PySem.W.nsIn K mainGlobals "_law_dice" = some (some (.ref f16)))
    (l16 : K.lookup f16 = some ⟨oc16, od16, .func (PySem.W.fnOf "_law_dice" "_law_dice" (defArgs s__law_dice) (defBody s__law_dice) (defScope s__law_dice) .none kV16 dc16 pm16 an16 cd16 ct16), sl16⟩)
    (c16 : PySem.W.codeIn K cd16 "_law_dice" = true)
    (k16 : PySem.W.keepIn K (.ref f16) = true)
    (a17 : PySem.W.nsIn K mainGlobals "_law_roll" = some (some (.ref f17)))
    (l17 : K.lookup f17 = some ⟨oc17, od17, .func (PySem.W.fnOf "_law_roll" "_law_roll" (defArgs s__law_roll) (defBody s__law_roll) (defScope s__law_roll) .none kV17 dc17 pm17 an17 cd17 ct17), sl17⟩)
    (c17 : PySem.W.codeIn K cd17 "_law_roll" = true)
    (k17 : PySem.W.keepIn K (.ref f17) = true)
    (a18 : PySem.W.nsIn K mainGlobals "_law_one_of" = some (some (.ref f18)))
    (l18 : K.lookup f18 = some ⟨oc18, od18, .func (PySem.W.fnOf "_law_one_of" "_law_one_of" (defArgs s__law_one_of) (defBody s__law_one_of) (defScope s__law_one_of) .none kV18 dc18 pm18 an18 cd18 ct18), sl18⟩)
    (c18 : PySem.W.codeIn K cd18 "_law_one_of" = true)
    (k18 : PySem.W.keepIn K (.ref f18) = true)
    (a19 : PySem.W.nsIn K mainGlobals "_law_two_to" = some (some (.ref f19)))
    (l19 : K.lookup f19 = some ⟨oc19, od19, .func (PySem.W.fnOf "_law_two_to" "_law_two_to" (defArgs s__law_two_to) (defBody s__law_two_to) (defScope s__law_two_to) .none kV19 dc19 pm19 an19 cd19 ct19), sl19⟩)
    (c19 : PySem.W.codeIn K cd19 "_law_two_to" = true)
    (k19 : PySem.W.keepIn K (.ref f19) = true)
    (a20 : PySem.W.nsIn K mainGlobals "_law_round" = some (some (.ref f20)))
    (l20 : K.lookup f20 = some ⟨oc20, od20, .func (PySem.W.fnOf "_law_round" "_law_round" (defArgs s__law_round) (defBody s__law_round) (defScope s__law_round) .none kV20 dc20 pm20 an20 cd20 ct20), sl20⟩)
    (c20 : PySem.W.codeIn K cd20 "_law_round" = true)
    (k20 : PySem.W.keepIn K (.ref f20) = true)
    (a21 : PySem.W.nsIn K mainGlobals "_law_beat" = some (some (.ref f21)))
    (l21 : K.lookup f21 = some ⟨oc21, od21, .func (PySem.W.fnOf "_law_beat" "_law_beat" (defArgs s__law_beat) (defBody s__law_beat) (defScope s__law_beat) .none kV21 dc21 pm21 an21 cd21 ct21), sl21⟩)
    (c21 : PySem.W.codeIn K cd21 "_law_beat" = true)
    (k21 : PySem.W.keepIn K (.ref f21) = true)
    (a22 : PySem.W.nsIn K mainGlobals "_law_result" = some (some (.ref f22)))
    (l22 : K.lookup f22 = some ⟨oc22, od22, .func (PySem.W.fnOf "_law_result" "_law_result" (defArgs s__law_result) (defBody s__law_result) (defScope s__law_result) .none kV22 dc22 pm22 an22 cd22 ct22), sl22⟩)
    (c22 : PySem.W.codeIn K cd22 "_law_result" = true)
    (k22 : PySem.W.keepIn K (.ref f22) = true)
    (a23 : PySem.W.nsIn K mainGlobals "_law_begin_drawn" = some (some (.ref f23)))
    (l23 : K.lookup f23 = some ⟨oc23, od23, .func (PySem.W.fnOf "_law_begin_drawn" "_law_begin_drawn" (defArgs s__law_begin_drawn) (defBody s__law_begin_drawn) (defScope s__law_begin_drawn) .none kV23 dc23 pm23 an23 cd23 ct23), sl23⟩)
    (c23 : PySem.W.codeIn K cd23 "_law_begin_drawn" = true)
    (k23 : PySem.W.keepIn K (.ref f23) = true)
    (a24 : PySem.W.nsIn K mainGlobals "_law_asks_drawn" = some (some (.ref f24)))
    (l24 : K.lookup f24 = some ⟨oc24, od24, .func (PySem.W.fnOf "_law_asks_drawn" "_law_asks_drawn" (defArgs s__law_asks_drawn) (defBody s__law_asks_drawn) (defScope s__law_asks_drawn) .none kV24 dc24 pm24 an24 cd24 ct24), sl24⟩)
    (c24 : PySem.W.codeIn K cd24 "_law_asks_drawn" = true)
    (k24 : PySem.W.keepIn K (.ref f24) = true)
    (a25 : PySem.W.nsIn K mainGlobals "_law_formula" = some (some (.ref f25)))
    (l25 : K.lookup f25 = some ⟨oc25, od25, .func (PySem.W.fnOf "_law_formula" "_law_formula" (defArgs s__law_formula) (defBody s__law_formula) (defScope s__law_formula) .none kV25 dc25 pm25 an25 cd25 ct25), sl25⟩)
    (c25 : PySem.W.codeIn K cd25 "_law_formula" = true)
    (k25 : PySem.W.keepIn K (.ref f25) = true)
    (a26 : PySem.W.nsIn K mainGlobals "_law_told_results" = some (some (.ref f26)))
    (l26 : K.lookup f26 = some ⟨oc26, od26, .func (PySem.W.fnOf "_law_told_results" "_law_told_results" (defArgs s__law_told_results) (defBody s__law_told_results) (defScope s__law_told_results) .none kV26 dc26 pm26 an26 cd26 ct26), sl26⟩)
    (c26 : PySem.W.codeIn K cd26 "_law_told_results" = true)
    (k26 : PySem.W.keepIn K (.ref f26) = true)
    (a27 : PySem.W.nsIn K mainGlobals "_law_right" = some (some (.ref f27)))
    (l27 : K.lookup f27 = some ⟨oc27, od27, .func (PySem.W.fnOf "_law_right" "_law_right" (defArgs s__law_right) (defBody s__law_right) (defScope s__law_right) .none kV27 dc27 pm27 an27 cd27 ct27), sl27⟩)
    (c27 : PySem.W.codeIn K cd27 "_law_right" = true)
    (k27 : PySem.W.keepIn K (.ref f27) = true)
    (a28 : PySem.W.nsIn K mainGlobals "law" = some (some (.ref f28)))
    (l28 : K.lookup f28 = some ⟨oc28, od28, .func (PySem.W.fnOf "law" "law" (defArgs s_law) (defBody s_law) (defScope s_law) .none kV28 dc28 pm28 an28 cd28 ct28), sl28⟩)
    (c28 : PySem.W.codeIn K cd28 "law" = true)
    (k28 : PySem.W.keepIn K (.ref f28) = true)
    (x0 : PySem.W.nsIn K mainGlobals "KINDS" = some (some (.ref xa0)))
    (y0 : K.lookup xa0 = some ⟨.type "tuple", xd0, .seq #[.str "times" xt0_0, .str "part" xt0_1, .str "rest" xt0_2] xn0, xs0⟩)
    (x1 : PySem.W.nsIn K mainGlobals "IDLE" = some (some (.ref xa1)))
    (y1 : K.lookup xa1 = some ⟨.type "tuple", xd1, .seq #[.str "none" xt1_0, .int 0 xt1_1, .int 0 xt1_2, .int 0 xt1_3, .int 0 xt1_4, .int 0 xt1_5] xn1, xs1⟩)
    (x2 : PySem.W.nsIn K mainGlobals "BEGIN" = some (some (.ref xa2)))
    (y2 : K.lookup xa2 = some ⟨.type "tuple", xd2, .seq #[.str "begin" xt2_0] xn2, xs2⟩)
    (x3 : PySem.W.nsIn K mainGlobals "STOP" = some (some (.ref xa3)))
    (y3 : K.lookup xa3 = some ⟨.type "tuple", xd3, .seq #[.str "stop" xt3_0] xn3, xs3⟩)
    (v0 : PySem.W.nsIn K mainGlobals "MAX_LONG" = some (some (.int 16 tk0)))
    (v1 : PySem.W.nsIn K mainGlobals "MAX_STEP" = some (some (.int 4 tk1)))
    (v2 : PySem.W.nsIn K mainGlobals "MAX_ASKS" = some (some (.int 400 tk2)))
    (v7 : PySem.W.nsIn K mainGlobals "STATE_SIZE" = some (some (.int 6 tk7)))
    (v8 : PySem.W.nsIn K mainGlobals "BEGIN_SIZE" = some (some (.int 4 tk8)))
    (z0 : PySem.W.nsIn K mainGlobals "isinstance" = some none)
    (z1 : PySem.W.nsIn K mainGlobals "int" = some none)
    (z2 : PySem.W.nsIn K mainGlobals "bool" = some none)
    (z3 : PySem.W.nsIn K mainGlobals "min" = some none)
    (z4 : PySem.W.nsIn K mainGlobals "range" = some none)
    (z5 : PySem.W.nsIn K mainGlobals "divmod" = some none)
    (z6 : PySem.W.nsIn K mainGlobals "tuple" = some none)
    (z7 : PySem.W.nsIn K mainGlobals "len" = some none)
    (z8 : PySem.W.nsIn K mainGlobals "str" = some none)
    (z9 : PySem.W.nsIn K mainGlobals "all" = some none)
    (z10 : PySem.W.nsIn K mainGlobals "abs" = some none)
    (z11 : PySem.W.nsIn K mainGlobals "enumerate" = some none)
    (z12 : PySem.W.nsIn K mainGlobals "max" = some none)
    : Txt K mg :=
  ⟨defAt X G a0 l0 c0 k0 (fun _ _ _ _ _ _ us hl => match us, hl with | [_], _ => rfl),
   defAt X G a1 l1 c1 k1 (fun _ _ _ _ _ _ us hl => match us, hl with | [_, _, _], _ => rfl),
   defAt X G a2 l2 c2 k2 (fun _ _ _ _ _ _ us hl => match us, hl with | [_, _], _ => rfl),
   defAt X G a3 l3 c3 k3 (fun _ _ _ _ _ _ us hl => match us, hl with | [_, _, _, _], _ => rfl),
   defAt X G a4 l4 c4 k4 (fun _ _ _ _ _ _ us hl => match us, hl with | [_, _, _, _], _ => rfl),
   defAt X G a5 l5 c5 k5 (fun _ _ _ _ _ _ us hl => match us, hl with | [_, _, _, _], _ => rfl),
   defAt X G a6 l6 c6 k6 (fun _ _ _ _ _ _ us hl => match us, hl with | [_, _, _], _ => rfl),
   defAt X G a7 l7 c7 k7 (fun _ _ _ _ _ _ us hl => match us, hl with | [_, _, _, _], _ => rfl),
   defAt X G a8 l8 c8 k8 (fun _ _ _ _ _ _ us hl => match us, hl with | [_, _, _, _, _], _ => rfl),
   defAt X G a9 l9 c9 k9 (fun _ _ _ _ _ _ us hl => match us, hl with | [_, _], _ => rfl),
   defAt X G a10 l10 c10 k10 (fun _ _ _ _ _ _ us hl => match us, hl with | [_, _], _ => rfl),
   defAt X G a11 l11 c11 k11 (fun _ _ _ _ _ _ us hl => match us, hl with | [_, _, _], _ => rfl),
   defAt X G a12 l12 c12 k12 (fun _ _ _ _ _ _ us hl => match us, hl with | [_, _], _ => rfl),
   defAt X G a13 l13 c13 k13 (fun _ _ _ _ _ _ us hl => match us, hl with | [_, _, _], _ => rfl),
   defAt X G a14 l14 c14 k14 (fun _ _ _ _ _ _ us hl => match us, hl with | [_, _, _, _], _ => rfl),
   defAt X G a15 l15 c15 k15 (fun _ _ _ _ _ _ us hl => match us, hl with | [_, _, _], _ => rfl),
   defAt X G a16 l16 c16 k16 (fun _ _ _ _ _ _ us hl => match us, hl with | [_, _], _ => rfl),
   defAt X G a17 l17 c17 k17 (fun _ _ _ _ _ _ us hl => match us, hl with | [_, _], _ => rfl),
   defAt X G a18 l18 c18 k18 (fun _ _ _ _ _ _ us hl => match us, hl with | [_, _], _ => rfl),
   defAt X G a19 l19 c19 k19 (fun _ _ _ _ _ _ us hl => match us, hl with | [_], _ => rfl),
   defAt X G a20 l20 c20 k20 (fun _ _ _ _ _ _ us hl => match us, hl with | [_, _], _ => rfl),
   defAt X G a21 l21 c21 k21 (fun _ _ _ _ _ _ us hl => match us, hl with | [_, _, _, _], _ => rfl),
   defAt X G a22 l22 c22 k22 (fun _ _ _ _ _ _ us hl => match us, hl with | [_, _, _, _], _ => rfl),
   defAt X G a23 l23 c23 k23 (fun _ _ _ _ _ _ us hl => match us, hl with | [_, _], _ => rfl),
   defAt X G a24 l24 c24 k24 (fun _ _ _ _ _ _ us hl => match us, hl with | [_, _, _, _], _ => rfl),
   defAt X G a25 l25 c25 k25 (fun _ _ _ _ _ _ us hl => match us, hl with | [_, _], _ => rfl),
   defAt X G a26 l26 c26 k26 (fun _ _ _ _ _ _ us hl => match us, hl with | [_, _, _], _ => rfl),
   defAt X G a27 l27 c27 k27 (fun _ _ _ _ _ _ us hl => match us, hl with | [_], _ => rfl),
   defAt X G a28 l28 c28 k28 (fun _ _ _ _ _ _ us hl => match us, hl with | [_], _ => rfl),
   conT X G x0 y0 (by show 3 ≤ 1000; decide) (.cons ⟨_, rfl⟩ (.cons ⟨_, rfl⟩ (.cons ⟨_, rfl⟩ .nil))),
   conT X G x1 y1 (by show 6 ≤ 1000; decide) (.cons ⟨_, rfl⟩ (.cons ⟨_, rfl⟩ (.cons ⟨_, rfl⟩ (.cons ⟨_, rfl⟩ (.cons ⟨_, rfl⟩ (.cons ⟨_, rfl⟩ .nil)))))),
   conT X G x2 y2 (by show 1 ≤ 1000; decide) (.cons ⟨_, rfl⟩ .nil),
   conT X G x3 y3 (by show 1 ≤ 1000; decide) (.cons ⟨_, rfl⟩ .nil),
   ⟨_, PySem.W.mg_of X G v0, ⟨_, rfl⟩⟩,
   ⟨_, PySem.W.mg_of X G v1, ⟨_, rfl⟩⟩,
   ⟨_, PySem.W.mg_of X G v2, ⟨_, rfl⟩⟩,
   ⟨_, PySem.W.mg_of X G v7, ⟨_, rfl⟩⟩,
   ⟨_, PySem.W.mg_of X G v8, ⟨_, rfl⟩⟩,
   PySem.W.mg_none_of X G z0,
   PySem.W.mg_none_of X G z1,
   PySem.W.mg_none_of X G z2,
   PySem.W.mg_none_of X G z3,
   PySem.W.mg_none_of X G z4,
   PySem.W.mg_none_of X G z5,
   PySem.W.mg_none_of X G z6,
   PySem.W.mg_none_of X G z7,
   PySem.W.mg_none_of X G z8,
   PySem.W.mg_none_of X G z9,
   PySem.W.mg_none_of X G z10,
   PySem.W.mg_none_of X G z11,
   PySem.W.mg_none_of X G z12⟩
theorem fin {l : PySem.W.OpenLaw} {w : World} {K : PySem.W.Frag} {h : Heap} {mg : Str → Option Value} {fa : Addr} (X : K.In h) (G : h.Ns mainGlobals mg) (hfa : mg "law" = some (.ref fa))
    {f0 f1 f2 f3 f4 f5 f6 f7 f8 f9 f10 f11 f12 f13 f14 f15 f16 f17 f18 f19 f20 f21 f22 f23 f24 f25 f26 f27 f28 : Addr} {od0 an0 od1 an1 od2 an2 od3 an3 od4 an4 od5 an5 od6 an6 od7 an7 od8 an8 od9 an9 od10 an10 od11 an11 od12 an12 od13 an13 od14 an14 od15 an15 od16 an16 od17 an17 od18 an18 od19 an19 od20 an20 od21 an21 od22 an22 od23 an23 od24 an24 od25 an25 od26 an26 od27 an27 od28 an28 : Option Addr} {sl0 sl1 sl2 sl3 sl4 sl5 sl6 sl7 sl8 sl9 sl10 sl11 sl12 sl13 sl14 sl15 sl16 sl17 sl18 sl19 sl20 sl21 sl22 sl23 sl24 sl25 sl26 sl27 sl28 : Array (Option Value)} {oc0 dc0 pm0 cd0 ct0 kV0 oc1 dc1 pm1 cd1 ct1 kV1 oc2 dc2 pm2 cd2 ct2 kV2 oc3 dc3 pm3 cd3 ct3 kV3 oc4 dc4 pm4 cd4 ct4 kV4 oc5 dc5 pm5 cd5 ct5 kV5 oc6 dc6 pm6 cd6 ct6 kV6 oc7 dc7 pm7 cd7 ct7 kV7 oc8 dc8 pm8 cd8 ct8 kV8 oc9 dc9 pm9 cd9 ct9 kV9 oc10 dc10 pm10 cd10 ct10 kV10 oc11 dc11 pm11 cd11 ct11 kV11 oc12 dc12 pm12 cd12 ct12 kV12 oc13 dc13 pm13 cd13 ct13 kV13 oc14 dc14 pm14 cd14 ct14 kV14 oc15 dc15 pm15 cd15 ct15 kV15 oc16 dc16 pm16 cd16 ct16 kV16 oc17 dc17 pm17 cd17 ct17 kV17 oc18 dc18 pm18 cd18 ct18 kV18 oc19 dc19 pm19 cd19 ct19 kV19 oc20 dc20 pm20 cd20 ct20 kV20 oc21 dc21 pm21 cd21 ct21 kV21 oc22 dc22 pm22 cd22 ct22 kV22 oc23 dc23 pm23 cd23 ct23 kV23 oc24 dc24 pm24 cd24 ct24 kV24 oc25 dc25 pm25 cd25 ct25 kV25 oc26 dc26 pm26 cd26 ct26 kV26 oc27 dc27 pm27 cd27 ct27 kV27 oc28 dc28 pm28 cd28 ct28 kV28 : Value} {xa0 : Addr} {xd0 : Option Addr} {xn0 : Nat} {xs0 : Array (Option Value)} {xt0_0 xt0_1 xt0_2 : Tok} {xa1 : Addr} {xd1 : Option Addr} {xn1 : Nat} {xs1 : Array (Option Value)} {xt1_0 xt1_1 xt1_2 xt1_3 xt1_4 xt1_5 : Tok} {xa2 : Addr} {xd2 : Option Addr} {xn2 : Nat} {xs2 : Array (Option Value)} {xt2_0 : Tok} {xa3 : Addr} {xd3 : Option Addr} {xn3 : Nat} {xs3 : Array (Option Value)} {xt3_0 : Tok} {tk0 tk1 tk2 tk7 tk8 : Tok}
    (a0 : PySem.W.nsIn K mainGlobals "is_integer" = some (some (.ref f0)))
    (l0 : K.lookup f0 = some ⟨oc0, od0, .func (PySem.W.fnOf "is_integer" "is_integer" (defArgs s_is_integer) (defBody s_is_integer) (defScope s_is_integer) .none kV0 dc0 pm0 an0 cd0 ct0), sl0⟩)
    (c0 : PySem.W.codeIn K cd0 "is_integer" = true)
    (k0 : PySem.W.keepIn K (.ref f0) = true)
    (a1 : PySem.W.nsIn K mainGlobals "is_within" = some (some (.ref f1)))
    (l1 : K.lookup f1 = some ⟨oc1, od1, .func (PySem.W.fnOf "is_within" "is_within" (defArgs s_is_within) (defBody s_is_within) (defScope s_is_within) .none kV1 dc1 pm1 an1 cd1 ct1), sl1⟩)
    (c1 : PySem.W.codeIn K cd1 "is_within" = true)
    (k1 : PySem.W.keepIn K (.ref f1) = true)
    (a2 : PySem.W.nsIn K mainGlobals "is_word_in" = some (some (.ref f2)))
    (l2 : K.lookup f2 = some ⟨oc2, od2, .func (PySem.W.fnOf "is_word_in" "is_word_in" (defArgs s_is_word_in) (defBody s_is_word_in) (defScope s_is_word_in) .none kV2 dc2 pm2 an2 cd2 ct2), sl2⟩)
    (c2 : PySem.W.codeIn K cd2 "is_word_in" = true)
    (k2 : PySem.W.keepIn K (.ref f2) = true)
    (a3 : PySem.W.nsIn K mainGlobals "begun" = some (some (.ref f3)))
    (l3 : K.lookup f3 = some ⟨oc3, od3, .func (PySem.W.fnOf "begun" "begun" (defArgs s_begun) (defBody s_begun) (defScope s_begun) .none kV3 dc3 pm3 an3 cd3 ct3), sl3⟩)
    (c3 : PySem.W.codeIn K cd3 "begun" = true)
    (k3 : PySem.W.keepIn K (.ref f3) = true)
    (a4 : PySem.W.nsIn K mainGlobals "round_times" = some (some (.ref f4)))
    (l4 : K.lookup f4 = some ⟨oc4, od4, .func (PySem.W.fnOf "round_times" "round_times" (defArgs s_round_times) (defBody s_round_times) (defScope s_round_times) .none kV4 dc4 pm4 an4 cd4 ct4), sl4⟩)
    (c4 : PySem.W.codeIn K cd4 "round_times" = true)
    (k4 : PySem.W.keepIn K (.ref f4) = true)
    (a5 : PySem.W.nsIn K mainGlobals "round_part" = some (some (.ref f5)))
    (l5 : K.lookup f5 = some ⟨oc5, od5, .func (PySem.W.fnOf "round_part" "round_part" (defArgs s_round_part) (defBody s_round_part) (defScope s_round_part) .none kV5 dc5 pm5 an5 cd5 ct5), sl5⟩)
    (c5 : PySem.W.codeIn K cd5 "round_part" = true)
    (k5 : PySem.W.keepIn K (.ref f5) = true)
    (a6 : PySem.W.nsIn K mainGlobals "behind_rounds" = some (some (.ref f6)))
    (l6 : K.lookup f6 = some ⟨oc6, od6, .func (PySem.W.fnOf "behind_rounds" "behind_rounds" (defArgs s_behind_rounds) (defBody s_behind_rounds) (defScope s_behind_rounds) .none kV6 dc6 pm6 an6 cd6 ct6), sl6⟩)
    (c6 : PySem.W.codeIn K cd6 "behind_rounds" = true)
    (k6 : PySem.W.keepIn K (.ref f6) = true)
    (a7 : PySem.W.nsIn K mainGlobals "behind_beat" = some (some (.ref f7)))
    (l7 : K.lookup f7 = some ⟨oc7, od7, .func (PySem.W.fnOf "behind_beat" "behind_beat" (defArgs s_behind_beat) (defBody s_behind_beat) (defScope s_behind_beat) .none kV7 dc7 pm7 an7 cd7 ct7), sl7⟩)
    (c7 : PySem.W.codeIn K cd7 "behind_beat" = true)
    (k7 : PySem.W.keepIn K (.ref f7) = true)
    (a8 : PySem.W.nsIn K mainGlobals "words_after" = some (some (.ref f8)))
    (l8 : K.lookup f8 = some ⟨oc8, od8, .func (PySem.W.fnOf "words_after" "words_after" (defArgs s_words_after) (defBody s_words_after) (defScope s_words_after) .none kV8 dc8 pm8 an8 cd8 ct8), sl8⟩)
    (c8 : PySem.W.codeIn K cd8 "words_after" = true)
    (k8 : PySem.W.keepIn K (.ref f8) = true)
    (a9 : PySem.W.nsIn K mainGlobals "is_begin" = some (some (.ref f9)))
    (l9 : K.lookup f9 = some ⟨oc9, od9, .func (PySem.W.fnOf "is_begin" "is_begin" (defArgs s_is_begin) (defBody s_is_begin) (defScope s_is_begin) .none kV9 dc9 pm9 an9 cd9 ct9), sl9⟩)
    (c9 : PySem.W.codeIn K cd9 "is_begin" = true)
    (k9 : PySem.W.keepIn K (.ref f9) = true)
    (a10 : PySem.W.nsIn K mainGlobals "is_ask" = some (some (.ref f10)))
    (l10 : K.lookup f10 = some ⟨oc10, od10, .func (PySem.W.fnOf "is_ask" "is_ask" (defArgs s_is_ask) (defBody s_is_ask) (defScope s_is_ask) .none kV10 dc10 pm10 an10 cd10 ct10), sl10⟩)
    (c10 : PySem.W.codeIn K cd10 "is_ask" = true)
    (k10 : PySem.W.keepIn K (.ref f10) = true)
    (a11 : PySem.W.nsIn K mainGlobals "is_state" = some (some (.ref f11)))
    (l11 : K.lookup f11 = some ⟨oc11, od11, .func (PySem.W.fnOf "is_state" "is_state" (defArgs s_is_state) (defBody s_is_state) (defScope s_is_state) .none kV11 dc11 pm11 an11 cd11 ct11), sl11⟩)
    (c11 : PySem.W.codeIn K cd11 "is_state" = true)
    (k11 : PySem.W.keepIn K (.ref f11) = true)
    (a12 : PySem.W.nsIn K mainGlobals "require_long" = some (some (.ref f12)))
    (l12 : K.lookup f12 = some ⟨oc12, od12, .func (PySem.W.fnOf "require_long" "require_long" (defArgs s_require_long) (defBody s_require_long) (defScope s_require_long) .none kV12 dc12 pm12 an12 cd12 ct12), sl12⟩)
    (c12 : PySem.W.codeIn K cd12 "require_long" = true)
    (k12 : PySem.W.keepIn K (.ref f12) = true)
    (a13 : PySem.W.nsIn K mainGlobals "is_long" = some (some (.ref f13)))
    (l13 : K.lookup f13 = some ⟨oc13, od13, .func (PySem.W.fnOf "is_long" "is_long" (defArgs s_is_long) (defBody s_is_long) (defScope s_is_long) .none kV13 dc13 pm13 an13 cd13 ct13), sl13⟩)
    (c13 : PySem.W.codeIn K cd13 "is_long" = true)
    (k13 : PySem.W.keepIn K (.ref f13) = true)
    (a14 : PySem.W.nsIn K mainGlobals "long_beat" = some (some (.ref f14)))
    (l14 : K.lookup f14 = some ⟨oc14, od14, .func (PySem.W.fnOf "long_beat" "long_beat" (defArgs s_long_beat) (defBody s_long_beat) (defScope s_long_beat) .none kV14 dc14 pm14 an14 cd14 ct14), sl14⟩)
    (c14 : PySem.W.codeIn K cd14 "long_beat" = true)
    (k14 : PySem.W.keepIn K (.ref f14) = true)
    (a15 : PySem.W.nsIn K mainGlobals "long_run" = some (some (.ref f15)))
    (l15 : K.lookup f15 = some ⟨oc15, od15, .func (PySem.W.fnOf "long_run" "long_run" (defArgs s_long_run) (defBody s_long_run) (defScope s_long_run) .none kV15 dc15 pm15 an15 cd15 ct15), sl15⟩)
    (c15 : PySem.W.codeIn K cd15 "long_run" = true)
    (k15 : PySem.W.keepIn K (.ref f15) = true)
    (a16 : PySem.W.nsIn K mainGlobals "_law_dice" = some (some (.ref f16)))
    (l16 : K.lookup f16 = some ⟨oc16, od16, .func (PySem.W.fnOf "_law_dice" "_law_dice" (defArgs s__law_dice) (defBody s__law_dice) (defScope s__law_dice) .none kV16 dc16 pm16 an16 cd16 ct16), sl16⟩)
    (c16 : PySem.W.codeIn K cd16 "_law_dice" = true)
    (k16 : PySem.W.keepIn K (.ref f16) = true)
    (a17 : PySem.W.nsIn K mainGlobals "_law_roll" = some (some (.ref f17)))
    (l17 : K.lookup f17 = some ⟨oc17, od17, .func (PySem.W.fnOf "_law_roll" "_law_roll" (defArgs s__law_roll) (defBody s__law_roll) (defScope s__law_roll) .none kV17 dc17 pm17 an17 cd17 ct17), sl17⟩)
    (c17 : PySem.W.codeIn K cd17 "_law_roll" = true)
    (k17 : PySem.W.keepIn K (.ref f17) = true)
    (a18 : PySem.W.nsIn K mainGlobals "_law_one_of" = some (some (.ref f18)))
    (l18 : K.lookup f18 = some ⟨oc18, od18, .func (PySem.W.fnOf "_law_one_of" "_law_one_of" (defArgs s__law_one_of) (defBody s__law_one_of) (defScope s__law_one_of) .none kV18 dc18 pm18 an18 cd18 ct18), sl18⟩)
    (c18 : PySem.W.codeIn K cd18 "_law_one_of" = true)
    (k18 : PySem.W.keepIn K (.ref f18) = true)
    (a19 : PySem.W.nsIn K mainGlobals "_law_two_to" = some (some (.ref f19)))
    (l19 : K.lookup f19 = some ⟨oc19, od19, .func (PySem.W.fnOf "_law_two_to" "_law_two_to" (defArgs s__law_two_to) (defBody s__law_two_to) (defScope s__law_two_to) .none kV19 dc19 pm19 an19 cd19 ct19), sl19⟩)
    (c19 : PySem.W.codeIn K cd19 "_law_two_to" = true)
    (k19 : PySem.W.keepIn K (.ref f19) = true)
    (a20 : PySem.W.nsIn K mainGlobals "_law_round" = some (some (.ref f20)))
    (l20 : K.lookup f20 = some ⟨oc20, od20, .func (PySem.W.fnOf "_law_round" "_law_round" (defArgs s__law_round) (defBody s__law_round) (defScope s__law_round) .none kV20 dc20 pm20 an20 cd20 ct20), sl20⟩)
    (c20 : PySem.W.codeIn K cd20 "_law_round" = true)
    (k20 : PySem.W.keepIn K (.ref f20) = true)
    (a21 : PySem.W.nsIn K mainGlobals "_law_beat" = some (some (.ref f21)))
    (l21 : K.lookup f21 = some ⟨oc21, od21, .func (PySem.W.fnOf "_law_beat" "_law_beat" (defArgs s__law_beat) (defBody s__law_beat) (defScope s__law_beat) .none kV21 dc21 pm21 an21 cd21 ct21), sl21⟩)
    (c21 : PySem.W.codeIn K cd21 "_law_beat" = true)
    (k21 : PySem.W.keepIn K (.ref f21) = true)
    (a22 : PySem.W.nsIn K mainGlobals "_law_result" = some (some (.ref f22)))
    (l22 : K.lookup f22 = some ⟨oc22, od22, .func (PySem.W.fnOf "_law_result" "_law_result" (defArgs s__law_result) (defBody s__law_result) (defScope s__law_result) .none kV22 dc22 pm22 an22 cd22 ct22), sl22⟩)
    (c22 : PySem.W.codeIn K cd22 "_law_result" = true)
    (k22 : PySem.W.keepIn K (.ref f22) = true)
    (a23 : PySem.W.nsIn K mainGlobals "_law_begin_drawn" = some (some (.ref f23)))
    (l23 : K.lookup f23 = some ⟨oc23, od23, .func (PySem.W.fnOf "_law_begin_drawn" "_law_begin_drawn" (defArgs s__law_begin_drawn) (defBody s__law_begin_drawn) (defScope s__law_begin_drawn) .none kV23 dc23 pm23 an23 cd23 ct23), sl23⟩)
    (c23 : PySem.W.codeIn K cd23 "_law_begin_drawn" = true)
    (k23 : PySem.W.keepIn K (.ref f23) = true)
    (a24 : PySem.W.nsIn K mainGlobals "_law_asks_drawn" = some (some (.ref f24)))
    (l24 : K.lookup f24 = some ⟨oc24, od24, .func (PySem.W.fnOf "_law_asks_drawn" "_law_asks_drawn" (defArgs s__law_asks_drawn) (defBody s__law_asks_drawn) (defScope s__law_asks_drawn) .none kV24 dc24 pm24 an24 cd24 ct24), sl24⟩)
    (c24 : PySem.W.codeIn K cd24 "_law_asks_drawn" = true)
    (k24 : PySem.W.keepIn K (.ref f24) = true)
    (a25 : PySem.W.nsIn K mainGlobals "_law_formula" = some (some (.ref f25)))
    (l25 : K.lookup f25 = some ⟨oc25, od25, .func (PySem.W.fnOf "_law_formula" "_law_formula" (defArgs s__law_formula) (defBody s__law_formula) (defScope s__law_formula) .none kV25 dc25 pm25 an25 cd25 ct25), sl25⟩)
    (c25 : PySem.W.codeIn K cd25 "_law_formula" = true)
    (k25 : PySem.W.keepIn K (.ref f25) = true)
    (a26 : PySem.W.nsIn K mainGlobals "_law_told_results" = some (some (.ref f26)))
    (l26 : K.lookup f26 = some ⟨oc26, od26, .func (PySem.W.fnOf "_law_told_results" "_law_told_results" (defArgs s__law_told_results) (defBody s__law_told_results) (defScope s__law_told_results) .none kV26 dc26 pm26 an26 cd26 ct26), sl26⟩)
    (c26 : PySem.W.codeIn K cd26 "_law_told_results" = true)
    (k26 : PySem.W.keepIn K (.ref f26) = true)
    (a27 : PySem.W.nsIn K mainGlobals "_law_right" = some (some (.ref f27)))
    (l27 : K.lookup f27 = some ⟨oc27, od27, .func (PySem.W.fnOf "_law_right" "_law_right" (defArgs s__law_right) (defBody s__law_right) (defScope s__law_right) .none kV27 dc27 pm27 an27 cd27 ct27), sl27⟩)
    (c27 : PySem.W.codeIn K cd27 "_law_right" = true)
    (k27 : PySem.W.keepIn K (.ref f27) = true)
    (a28 : PySem.W.nsIn K mainGlobals "law" = some (some (.ref f28)))
    (l28 : K.lookup f28 = some ⟨oc28, od28, .func (PySem.W.fnOf "law" "law" (defArgs s_law) (defBody s_law) (defScope s_law) .none kV28 dc28 pm28 an28 cd28 ct28), sl28⟩)
    (c28 : PySem.W.codeIn K cd28 "law" = true)
    (k28 : PySem.W.keepIn K (.ref f28) = true)
    (x0 : PySem.W.nsIn K mainGlobals "KINDS" = some (some (.ref xa0)))
    (y0 : K.lookup xa0 = some ⟨.type "tuple", xd0, .seq #[.str "times" xt0_0, .str "part" xt0_1, .str "rest" xt0_2] xn0, xs0⟩)
    (x1 : PySem.W.nsIn K mainGlobals "IDLE" = some (some (.ref xa1)))
    (y1 : K.lookup xa1 = some ⟨.type "tuple", xd1, .seq #[.str "none" xt1_0, .int 0 xt1_1, .int 0 xt1_2, .int 0 xt1_3, .int 0 xt1_4, .int 0 xt1_5] xn1, xs1⟩)
    (x2 : PySem.W.nsIn K mainGlobals "BEGIN" = some (some (.ref xa2)))
    (y2 : K.lookup xa2 = some ⟨.type "tuple", xd2, .seq #[.str "begin" xt2_0] xn2, xs2⟩)
    (x3 : PySem.W.nsIn K mainGlobals "STOP" = some (some (.ref xa3)))
    (y3 : K.lookup xa3 = some ⟨.type "tuple", xd3, .seq #[.str "stop" xt3_0] xn3, xs3⟩)
    (v0 : PySem.W.nsIn K mainGlobals "MAX_LONG" = some (some (.int 16 tk0)))
    (v1 : PySem.W.nsIn K mainGlobals "MAX_STEP" = some (some (.int 4 tk1)))
    (v2 : PySem.W.nsIn K mainGlobals "MAX_ASKS" = some (some (.int 400 tk2)))
    (v7 : PySem.W.nsIn K mainGlobals "STATE_SIZE" = some (some (.int 6 tk7)))
    (v8 : PySem.W.nsIn K mainGlobals "BEGIN_SIZE" = some (some (.int 4 tk8)))
    (z0 : PySem.W.nsIn K mainGlobals "isinstance" = some none)
    (z1 : PySem.W.nsIn K mainGlobals "int" = some none)
    (z2 : PySem.W.nsIn K mainGlobals "bool" = some none)
    (z3 : PySem.W.nsIn K mainGlobals "min" = some none)
    (z4 : PySem.W.nsIn K mainGlobals "range" = some none)
    (z5 : PySem.W.nsIn K mainGlobals "divmod" = some none)
    (z6 : PySem.W.nsIn K mainGlobals "tuple" = some none)
    (z7 : PySem.W.nsIn K mainGlobals "len" = some none)
    (z8 : PySem.W.nsIn K mainGlobals "str" = some none)
    (z9 : PySem.W.nsIn K mainGlobals "all" = some none)
    (z10 : PySem.W.nsIn K mainGlobals "abs" = some none)
    (z11 : PySem.W.nsIn K mainGlobals "enumerate" = some none)
    (z12 : PySem.W.nsIn K mainGlobals "max" = some none)
    : ∃ fd : FuncData, (∀ (s : Shared) (v : Value), BindsTo s fd ⟨[v], []⟩ [("_law_script", v)]) ∧ ∀ base : Heap, K.In base → base.Ns mainGlobals mg → FnOk l.prog w K mg base CX0 8 fa fd ["_law_script"] (sp_law K) := by
  have e := hfa.symm.trans (PySem.W.mg_of X G a28)
  cases e
  exact ⟨PySem.W.fnOf "law" "law" (defArgs s_law) (defBody s_law) (defScope s_law) .none kV28 dc28 pm28 an28 cd28 ct28, fun s v => .of_eq rfl, fun base _ _ => ok_law (txt_mk X G a0 l0 c0 k0 a1 l1 c1 k1 a2 l2 c2 k2 a3 l3 c3 k3 a4 l4 c4 k4 a5 l5 c5 k5 a6 l6 c6 k6 a7 l7 c7 k7 a8 l8 c8 k8 a9 l9 c9 k9 a10 l10 c10 k10 a11 l11 c11 k11 a12 l12 c12 k12 a13 l13 c13 k13 a14 l14 c14 k14 a15 l15 c15 k15 a16 l16 c16 k16 a17 l17 c17 k17 a18 l18 c18 k18 a19 l19 c19 k19 a20 l20 c20 k20 a21 l21 c21 k21 a22 l22 c22 k22 a23 l23 c23 k23 a24 l24 c24 k24 a25 l25 c25 k25 a26 l26 c26 k26 a27 l27 c27 k27 a28 l28 c28 k28 x0 y0 x1 y1 x2 y2 x3 y3 v0 v1 v2 v7 v8 z0 z1 z2 z3 z4 z5 z6 z7 z8 z9 z10 z11 z12)⟩
end TB
open PySem PySem.W PyProof.Rows
set_option maxRecDepth 100000 in
set_option maxHeartbeats 0 in
theorem PySem.Challenge.cw_truebeat_k26_whole_long_parts_beat_by_be_holds : PySem.Challenge.rw_truebeat_k26_whole_long_parts_beat_by_be.Holds := by
  w_on; o_law; k_head; (case hw => w_witness2)
  k_fill
  refine L2.walk_of (l := PySem.Challenge.rw_truebeat_k26_whole_long_parts_beat_by_be) (n := 63) (k := 8) (x := "_law_script") (CX := fun _ => L2.CX0) (sp := fun w => TB.sp_law _) rfl (by decide) rfl ⟨rfl, by decide, by decide⟩ (fun w h Y => PySem.W.kIn_of Y) ?F (fun _ _ a ns hl _ hS => ⟨a, ns, rfl, hS, hl, fun _ => rfl⟩) (fun _ _ _ _ _ h => h)
  case F =>
    intro w mg fa h KX G hmg
    refine' TB.fin KX G hmg ?a0 ?l0 ?c0 ?k0 ?a1 ?l1 ?c1 ?k1 ?a2 ?l2 ?c2 ?k2 ?a3 ?l3 ?c3 ?k3 ?a4 ?l4 ?c4 ?k4 ?a5 ?l5 ?c5 ?k5 ?a6 ?l6 ?c6 ?k6 ?a7 ?l7 ?c7 ?k7 ?a8 ?l8 ?c8 ?k8 ?a9 ?l9 ?c9 ?k9 ?a10 ?l10 ?c10 ?k10 ?a11 ?l11 ?c11 ?k11 ?a12 ?l12 ?c12 ?k12 ?a13 ?l13 ?c13 ?k13 ?a14 ?l14 ?c14 ?k14 ?a15 ?l15 ?c15 ?k15 ?a16 ?l16 ?c16 ?k16 ?a17 ?l17 ?c17 ?k17 ?a18 ?l18 ?c18 ?k18 ?a19 ?l19 ?c19 ?k19 ?a20 ?l20 ?c20 ?k20 ?a21 ?l21 ?c21 ?k21 ?a22 ?l22 ?c22 ?k22 ?a23 ?l23 ?c23 ?k23 ?a24 ?l24 ?c24 ?k24 ?a25 ?l25 ?c25 ?k25 ?a26 ?l26 ?c26 ?k26 ?a27 ?l27 ?c27 ?k27 ?a28 ?l28 ?c28 ?k28 ?x0 ?y0 ?x1 ?y1 ?x2 ?y2 ?x3 ?y3 ?v0 ?v1 ?v2 ?v7 ?v8 ?z0 ?z1 ?z2 ?z3 ?z4 ?z5 ?z6 ?z7 ?z8 ?z9 ?z10 ?z11 ?z12
    (case a0 => k_is)
    (case l0 => k_is)
    (case c0 => k_is)
    (case k0 => k_is)
    (case a1 => k_is)
    (case l1 => k_is)
    (case c1 => k_is)
    (case k1 => k_is)
    (case a2 => k_is)
    (case l2 => k_is)
    (case c2 => k_is)
    (case k2 => k_is)
    (case a3 => k_is)
    (case l3 => k_is)
    (case c3 => k_is)
    (case k3 => k_is)
    (case a4 => k_is)
    (case l4 => k_is)
    (case c4 => k_is)
    (case k4 => k_is)
    (case a5 => k_is)
    (case l5 => k_is)
    (case c5 => k_is)
    (case k5 => k_is)
    (case a6 => k_is)
    (case l6 => k_is)
    (case c6 => k_is)
    (case k6 => k_is)
    (case a7 => k_is)
    (case l7 => k_is)
    (case c7 => k_is)
    (case k7 => k_is)
    (case a8 => k_is)
    (case l8 => k_is)
    (case c8 => k_is)
    (case k8 => k_is)
    (case a9 => k_is)
    (case l9 => k_is)
    (case c9 => k_is)
    (case k9 => k_is)
    (case a10 => k_is)
    (case l10 => k_is)
    (case c10 => k_is)
    (case k10 => k_is)
    (case a11 => k_is)
    (case l11 => k_is)
    (case c11 => k_is)
    (case k11 => k_is)
    (case a12 => k_is)
    (case l12 => k_is)
    (case c12 => k_is)
    (case k12 => k_is)
    (case a13 => k_is)
    (case l13 => k_is)
    (case c13 => k_is)
    (case k13 => k_is)
    (case a14 => k_is)
    (case l14 => k_is)
    (case c14 => k_is)
    (case k14 => k_is)
    (case a15 => k_is)
    (case l15 => k_is)
    (case c15 => k_is)
    (case k15 => k_is)
    (case a16 => k_is)
    (case l16 => k_is)
    (case c16 => k_is)
    (case k16 => k_is)
    (case a17 => k_is)
    (case l17 => k_is)
    (case c17 => k_is)
    (case k17 => k_is)
    (case a18 => k_is)
    (case l18 => k_is)
    (case c18 => k_is)
    (case k18 => k_is)
    (case a19 => k_is)
    (case l19 => k_is)
    (case c19 => k_is)
    (case k19 => k_is)
    (case a20 => k_is)
    (case l20 => k_is)
    (case c20 => k_is)
    (case k20 => k_is)
    (case a21 => k_is)
    (case l21 => k_is)
    (case c21 => k_is)
    (case k21 => k_is)
    (case a22 => k_is)
    (case l22 => k_is)
    (case c22 => k_is)
    (case k22 => k_is)
    (case a23 => k_is)
    (case l23 => k_is)
    (case c23 => k_is)
    (case k23 => k_is)
    (case a24 => k_is)
    (case l24 => k_is)
    (case c24 => k_is)
    (case k24 => k_is)
    (case a25 => k_is)
    (case l25 => k_is)
    (case c25 => k_is)
    (case k25 => k_is)
    (case a26 => k_is)
    (case l26 => k_is)
    (case c26 => k_is)
    (case k26 => k_is)
    (case a27 => k_is)
    (case l27 => k_is)
    (case c27 => k_is)
    (case k27 => k_is)
    (case a28 => k_is)
    (case l28 => k_is)
    (case c28 => k_is)
    (case k28 => k_is)
    (case x0 => k_is)
    (case y0 => k_is)
    (case x1 => k_is)
    (case y1 => k_is)
    (case x2 => k_is)
    (case y2 => k_is)
    (case x3 => k_is)
    (case y3 => k_is)
    (case v0 => k_is)
    (case v1 => k_is)
    (case v2 => k_is)
    (case v7 => k_is)
    (case v8 => k_is)
    (case z0 => k_is)
    (case z1 => k_is)
    (case z2 => k_is)
    (case z3 => k_is)
    (case z4 => k_is)
    (case z5 => k_is)
    (case z6 => k_is)
    (case z7 => k_is)
    (case z8 => k_is)
    (case z9 => k_is)
    (case z10 => k_is)
    (case z11 => k_is)
    (case z12 => k_is)
#print axioms PySem.Challenge.cw_truebeat_k26_whole_long_parts_beat_by_be_holds
