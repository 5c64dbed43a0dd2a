import PyProof.Rows.All
import Wide.All
import OpenK.AllK
import Wide.FinOn
import HandS.ForMost
import HandS.Wide
import HandS.WideBits
import HandS.Style
import HandS.IsInst
import HandS.TupAny
import HandS.Defaults
import HandS.Zip
import HandS.TupMul
import KE.GoesEnum
import HandS.RaiseMore
import HandS.Conv
import HandS.Star
import HandS.CallLocal
import HandS.Iter
import PyProof.Rows.TupDisplay
import KE.DataMinMax
import KE.SortData
import KE.KDictSum
import KE.KSortTupG
import KE.KDictCopyH
import HandS.ExcValue
import HandS.List
import PyProof.RulesMatch
import PyProof.Rows.SetFrom
import PyProof.ListNew
import KE.KDictList
import HandS.Rev
import HandS.Text
import HandS.SortKw
import HandS.Dict
import HandS.TryOnly
import PySem.Challenge.RW_truebeat_k09_whole_nets_told_from_others
set_option Elab.async false
set_option linter.all false
set_option maxRecDepth 100000
set_option maxHeartbeats 4000000
namespace TB
/-! ### whole numbers -/
theorem two_pos (n : Nat) : (0 : Int) < 2 ^ n := Int.pow_pos (by decide)
theorem two_succ (n : Nat) : (2 : Int) ^ (n + 1) = 2 * 2 ^ n := by rw [Int.pow_succ, Int.mul_comm]
theorem two_add (a b : Nat) : (2 : Int) ^ (a + b) = 2 ^ a * 2 ^ b := Int.pow_add 2 a b
theorem two_mono {a b : Nat} (h : a ≤ b) : (2 : Int) ^ a ≤ 2 ^ b := by
  obtain ⟨c, rfl⟩ := Nat.exists_eq_add_of_le h
  rw [two_add]
  have := two_pos a
  have h2 : (1 : Int) ≤ 2 ^ c := two_pos c
  have := Int.mul_le_mul_of_nonneg_left h2 (Int.le_of_lt (two_pos a))
  omega
theorem two32 {w : Nat} (h : w ≤ 32) : (2 : Int) ^ w ≤ 4294967296 := Int.le_trans (two_mono h) (by decide)
theorem divmod_of {a b q r : Int} (hb : 0 < b) (e : r + b * q = a) (h0 : 0 ≤ r) (h1 : r < b) : a / b = q ∧ a % b = r := (Int.ediv_emod_unique hb).mpr ⟨e, h0, h1⟩
theorem mod_succ (x : Int) (i : Nat) : x % 2 ^ (i + 1) = x % 2 ^ i + 2 ^ i * (x / 2 ^ i % 2) := by
  have hd := two_pos i
  have e1 := Int.emod_add_mul_ediv x (2 ^ i)
  have e2 := Int.emod_add_mul_ediv (x / 2 ^ i) 2
  have l1 := Int.emod_nonneg x (Int.ne_of_gt hd)
  have l2 := Int.emod_lt_of_pos x hd
  rw [two_succ]
  refine (divmod_of (q := x / 2 ^ i / 2) (by omega) ?_ ?_ ?_).2
  · rw [Int.mul_comm 2 ((2 : Int) ^ i), Int.mul_assoc]
    have e3 : (2 : Int) ^ i * (x / 2 ^ i) = 2 ^ i * (x / 2 ^ i % 2) + 2 ^ i * (2 * (x / 2 ^ i / 2)) := by rw [← Int.mul_add, e2]
    omega
  · have := Int.mul_nonneg (Int.le_of_lt hd) (Int.emod_nonneg (x / 2 ^ i) (by decide : (2 : Int) ≠ 0))
    omega
  · have h3 : x / 2 ^ i % 2 ≤ 1 := by omega
    have := Int.mul_le_mul_of_nonneg_left h3 (Int.le_of_lt hd)
    omega
theorem div_div (x : Int) (a b : Nat) : x / 2 ^ a / 2 ^ b = x / 2 ^ (a + b) := by
  rw [two_add, Int.ediv_ediv_of_nonneg (Int.le_of_lt (two_pos a))]
/-! ### bits -/
def bitsI : Nat → Int → List Int
  | 0, _ => []
  | n + 1, x => (x % 2) :: bitsI n (x / 2)
def ofBits : List Int → Int
  | [] => 0
  | b :: r => 2 * ofBits r + b
theorem bitsI_length : ∀ (n : Nat) (x : Int), (bitsI n x).length = n
  | 0, _ => rfl
  | n + 1, x => by simp [bitsI, bitsI_length n (x / 2)]
theorem bitsI_get : ∀ (n : Nat) (x : Int) (i : Nat), i < n → (bitsI n x)[i]? = some (x / 2 ^ i % 2)
  | 0, _, _, h => by omega
  | n + 1, x, 0, _ => by simp [bitsI]
  | n + 1, x, i + 1, h => by
    have := bitsI_get n (x / 2) i (by omega)
    simp only [bitsI, List.getElem?_cons_succ]
    rw [this]
    have e := div_div x 1 i
    rw [show (2 : Int) ^ 1 = 2 from rfl] at e
    rw [e, Nat.add_comm 1 i]
theorem bitsI_range (n : Nat) (x : Int) : ∀ b ∈ bitsI n x, b = 0 ∨ b = 1 := by
  induction n generalizing x with
  | zero => intro b h; cases h
  | succ n ih =>
    intro b h
    rcases List.mem_cons.mp h with rfl | h
    · omega
    · exact ih _ b h
theorem bitsI_snoc (n : Nat) (x : Int) : bitsI (n + 1) x = bitsI n x ++ [x / 2 ^ n % 2] := by
  induction n generalizing x with
  | zero => simp [bitsI]
  | succ n ih =>
    show (x % 2) :: bitsI (n + 1) (x / 2) = (x % 2) :: bitsI n (x / 2) ++ [x / 2 ^ (n + 1) % 2]
    rw [ih (x / 2)]
    have e := div_div x 1 n
    rw [show (2 : Int) ^ 1 = 2 from rfl] at e
    rw [e, Nat.add_comm 1 n]
    rfl
theorem ofBits_bitsI : ∀ (n : Nat) (x : Int), ofBits (bitsI n x) = x % 2 ^ n
  | 0, x => by simp [bitsI, ofBits, Int.emod_one]
  | n + 1, x => by
    show 2 * ofBits (bitsI n (x / 2)) + x % 2 = x % 2 ^ (n + 1)
    rw [ofBits_bitsI n (x / 2)]
    have hd := two_pos n
    have e1 := Int.emod_add_mul_ediv (x / 2) (2 ^ n)
    have l1 := Int.emod_nonneg (x / 2) (Int.ne_of_gt hd)
    have l2 := Int.emod_lt_of_pos (x / 2) hd
    rw [two_succ]
    refine ((divmod_of (q := x / 2 / 2 ^ n) (by omega) ?_ (by omega) (by omega)).2).symm
    rw [Int.mul_assoc]
    omega
theorem bitsI_drop : ∀ (m n : Nat) (x : Int), (bitsI n x).drop m = bitsI (n - m) (x / 2 ^ m)
  | 0, n, x => by simp
  | m + 1, 0, x => by simp [bitsI]
  | m + 1, n + 1, x => by
    show (bitsI n (x / 2)).drop m = _
    rw [bitsI_drop m n (x / 2), Nat.add_sub_add_right]
    have e := div_div x 1 m
    rw [show (2 : Int) ^ 1 = 2 from rfl] at e
    rw [e, Nat.add_comm 1 m]
theorem bitsI_take : ∀ (m n : Nat) (x : Int), m ≤ n → (bitsI n x).take m = bitsI m x
  | 0, n, x, _ => by simp [bitsI]
  | m + 1, 0, x, h => by omega
  | m + 1, n + 1, x, h => by
    show (x % 2) :: (bitsI n (x / 2)).take m = (x % 2) :: bitsI m (x / 2)
    rw [bitsI_take m n (x / 2) (by omega)]
theorem ofBits_zeros : ∀ (p : Nat) (l : List Int), ofBits (List.replicate p 0 ++ l) = 2 ^ p * ofBits l
  | 0, l => by simp
  | p + 1, l => by
    show 2 * ofBits (List.replicate p 0 ++ l) + 0 = 2 ^ (p + 1) * ofBits l
    rw [ofBits_zeros p l, two_succ, Int.mul_assoc]
    omega
theorem mod_small {x : Int} {n : Nat} (h0 : 0 ≤ x) (h1 : x < 2 ^ n) : x % 2 ^ n = x := Int.emod_eq_of_lt h0 h1
theorem div_small {x : Int} {n : Nat} (h0 : 0 ≤ x) (h1 : x < 2 ^ n) : x / 2 ^ n = 0 := Int.ediv_eq_zero_of_lt h0 h1
/-- moved left: zeros come in -/
theorem ofBits_left (w p : Nat) (x : Int) : ofBits ((List.replicate p 0 ++ bitsI w x).take w) = x * 2 ^ p % 2 ^ w := by
  by_cases h : p ≤ w
  · have e : (List.replicate p (0 : Int) ++ bitsI w x).take w = List.replicate p 0 ++ bitsI (w - p) x := by
      rw [List.take_append, List.length_replicate, List.take_of_length_le (by simp; exact h), bitsI_take _ _ _ (by omega)]
    rw [e, ofBits_zeros, ofBits_bitsI]
    have e2 : (2 : Int) ^ w = 2 ^ p * 2 ^ (w - p) := by rw [← two_add, Nat.add_sub_cancel' h]
    rw [e2, Int.mul_comm x, Int.mul_emod_mul_of_pos _ _ (two_pos p)]
  · have e : (List.replicate p (0 : Int) ++ bitsI w x).take w = List.replicate w 0 ++ [] := by
      rw [List.take_append, List.length_replicate, List.take_replicate, Nat.min_eq_left (by omega), show w - p = 0 by omega]
      simp
    rw [e, ofBits_zeros]
    have e2 : (2 : Int) ^ p = 2 ^ w * 2 ^ (p - w) := by rw [← two_add, Nat.add_sub_cancel' (by omega)]
    rw [e2, ← Int.mul_assoc, Int.mul_comm x, Int.mul_assoc, Int.mul_emod_right]
    show 2 ^ w * (0 : Int) = 0
    omega
theorem ofBits_right {w : Nat} (p : Nat) {x : Int} (h0 : 0 ≤ x) (h1 : x < 2 ^ w) : ofBits ((bitsI w x).drop p) = x / 2 ^ p := by
  rw [bitsI_drop, ofBits_bitsI]
  by_cases h : p ≤ w
  · refine Int.emod_eq_of_lt (Int.ediv_nonneg h0 (Int.le_of_lt (two_pos p))) ?_
    refine Int.ediv_lt_of_lt_mul (two_pos p) ?_
    rw [← two_add, Nat.sub_add_cancel h]
    exact h1
  · rw [show w - p = 0 by omega, Int.pow_zero, Int.emod_one]
    exact (div_small h0 (Int.lt_of_lt_of_le h1 (two_mono (by omega)))).symm
theorem ofBits_rev (bs : List Int) (i : Nat) (b : Int) (h : bs.reverse[i]? = some b) : ofBits (bs.drop (bs.length - (i + 1))) = 2 * ofBits (bs.drop (bs.length - i)) + b := by
  have hi : i < bs.length := by
    have := (List.getElem?_eq_some_iff.mp h).1
    rw [List.length_reverse] at this
    exact this
  rw [List.getElem?_reverse hi] at h
  have hj : bs.length - 1 - i < bs.length := by omega
  rw [List.getElem?_eq_getElem hj] at h
  have e : bs.drop (bs.length - 1 - i) = bs[bs.length - 1 - i] :: bs.drop (bs.length - 1 - i + 1) := List.drop_eq_getElem_cons hj
  rw [show bs.length - (i + 1) = bs.length - 1 - i by omega, e, show bs.length - 1 - i + 1 = bs.length - i by omega, Option.some.inj h]
  rfl
/-! ### signed numbers -/
def sgn (w : Nat) (x : Int) : Int := if x / 2 ^ (w - 1) = 1 then x - 2 ^ w else x
theorem sgn_mod (w : Nat) (x : Int) : ∃ k : Int, sgn w x = x + 2 ^ w * k := by
  unfold sgn
  split
  · exact ⟨-1, by omega⟩
  · exact ⟨0, by omega⟩
/-! ### a quotient, bit by bit -/
theorem quot_step {N y b : Int} (hy : 0 < y) (hb : b = 0 ∨ b = 1) :
    (2 * N + b) / y = 2 * (N / y) + (if y ≤ 2 * (N % y) + b then 1 else 0) ∧ (2 * N + b) % y = (if y ≤ 2 * (N % y) + b then 2 * (N % y) + b - y else 2 * (N % y) + b) := by
  have e1 := Int.emod_add_mul_ediv N y
  have l1 := Int.emod_nonneg N (Int.ne_of_gt hy)
  have l2 := Int.emod_lt_of_pos N hy
  have e2 : y * (2 * (N / y)) = 2 * (y * (N / y)) := by rw [← Int.mul_assoc, Int.mul_comm y 2, Int.mul_assoc]
  have e3 : y * (2 * (N / y) + 1) = 2 * (y * (N / y)) + y := by rw [Int.mul_add, e2, Int.mul_one]
  split
  · refine divmod_of hy ?_ (by omega) (by omega)
    omega
  · have e4 : y * (2 * (N / y) + 0) = 2 * (y * (N / y)) := by rw [Int.add_zero, e2]
    refine divmod_of hy ?_ (by omega) (by omega)
    omega
theorem half_bit (x : Int) (k : Nat) : x / 2 ^ k = 2 * (x / 2 ^ (k + 1)) + x / 2 ^ k % 2 := by
  have e := div_div x k 1
  rw [show (2 : Int) ^ 1 = 2 from rfl] at e
  rw [← e]
  omega
/-! ### carries -/
def carry (x y c : Int) (i : Nat) : Int := (x % 2 ^ i + y % 2 ^ i + c) / 2 ^ i
def cars (n : Nat) (x y c : Int) : List Int := (List.range (n + 1)).map (carry x y c)
theorem cars_length (n : Nat) (x y c : Int) : (cars n x y c).length = n + 1 := by simp [cars]
theorem cars_get {n : Nat} {x y c : Int} {i : Nat} (h : i ≤ n) : (cars n x y c)[i]? = some (carry x y c i) := by
  unfold cars
  rw [List.getElem?_map, List.getElem?_range (by omega)]
  rfl
theorem cars_snoc (n : Nat) (x y c : Int) : cars (n + 1) x y c = cars n x y c ++ [carry x y c (n + 1)] := by
  unfold cars
  rw [List.range_succ, List.map_append]
  rfl
theorem carry_zero (x y c : Int) : carry x y c 0 = c := by simp [carry, Int.emod_one]
theorem carry_range {x y c : Int} (h0 : 0 ≤ c) (h1 : c ≤ 1) (i : Nat) : 0 ≤ carry x y c i ∧ carry x y c i ≤ 1 := by
  have hd := two_pos i
  have a0 := Int.emod_nonneg x (Int.ne_of_gt hd)
  have a1 := Int.emod_lt_of_pos x hd
  have b0 := Int.emod_nonneg y (Int.ne_of_gt hd)
  have b1 := Int.emod_lt_of_pos y hd
  unfold carry
  constructor
  · exact Int.ediv_nonneg (by omega) (Int.le_of_lt hd)
  · have := Int.ediv_lt_of_lt_mul (a := x % 2 ^ i + y % 2 ^ i + c) (b := 2) (c := 2 ^ i) hd (by omega)
    omega
theorem carry_succ (x y c : Int) (i : Nat) : carry x y c (i + 1) = (x / 2 ^ i % 2 + y / 2 ^ i % 2 + carry x y c i) / 2 := by
  have hd := two_pos i
  unfold carry
  rw [mod_succ x i, mod_succ y i, two_succ, Int.mul_comm 2, ← Int.ediv_ediv_of_nonneg (Int.le_of_lt hd)]
  have e : x % 2 ^ i + 2 ^ i * (x / 2 ^ i % 2) + (y % 2 ^ i + 2 ^ i * (y / 2 ^ i % 2)) + c = x % 2 ^ i + y % 2 ^ i + c + 2 ^ i * (x / 2 ^ i % 2 + y / 2 ^ i % 2) := by
    rw [Int.mul_add]
    omega
  rw [e, Int.add_mul_ediv_left _ _ (Int.ne_of_gt hd)]
  congr 1
  omega
theorem sum_bit (x y c : Int) (i : Nat) : (x + y + c) / 2 ^ i % 2 = (x / 2 ^ i % 2 + y / 2 ^ i % 2 + carry x y c i) % 2 := by
  have hd := two_pos i
  have e1 := Int.emod_add_mul_ediv x (2 ^ i)
  have e2 := Int.emod_add_mul_ediv y (2 ^ i)
  have e : x + y + c = x % 2 ^ i + y % 2 ^ i + c + 2 ^ i * (x / 2 ^ i + y / 2 ^ i) := by
    rw [Int.mul_add]
    omega
  unfold carry
  rw [e, Int.add_mul_ediv_left _ _ (Int.ne_of_gt hd)]
  omega
theorem carry_last {n : Nat} {x y c : Int} (hx0 : 0 ≤ x) (hx : x < 2 ^ n) (hy0 : 0 ≤ y) (hy : y < 2 ^ n) : carry x y c n = (x + y + c) / 2 ^ n := by
  unfold carry
  rw [mod_small hx0 hx, mod_small hy0 hy]
theorem half_int (b : Int) (h0 : 0 ≤ b) (h1 : b ≤ 3) : (if b > 1 then (1 : Int) else 0) = b / 2 := by
  split <;> omega
/-! ### signed numbers, once more -/
theorem sgn_eq {n : Nat} {x : Int} (hn : 1 ≤ n) (h0 : 0 ≤ x) (h1 : x < 2 ^ n) : sgn n x = if 2 ^ (n - 1) ≤ x then x - 2 ^ n else x := by
  have hd := two_pos (n - 1)
  have e : (2 : Int) ^ n = 2 * 2 ^ (n - 1) := by rw [← two_succ, Nat.sub_add_cancel hn]
  unfold sgn
  by_cases h : 2 ^ (n - 1) ≤ x
  · rw [if_pos h, if_pos]
    exact (divmod_of (q := 1) (r := x - 2 ^ (n - 1)) hd (by omega) (by omega) (by omega)).1
  · rw [if_neg h, if_neg]
    rw [Int.ediv_eq_zero_of_lt h0 (by omega)]
    decide
theorem sgn_less {n : Nat} {x y : Int} (hn : 1 ≤ n) (hx0 : 0 ≤ x) (hx : x < 2 ^ n) (hy0 : 0 ≤ y) (hy : y < 2 ^ n) : (sgn n x < sgn n y) ↔ (x + 2 ^ (n - 1)) % 2 ^ n < (y + 2 ^ (n - 1)) % 2 ^ n := by
  have hd := two_pos (n - 1)
  have e : (2 : Int) ^ n = 2 * 2 ^ (n - 1) := by rw [← two_succ, Nat.sub_add_cancel hn]
  have m : ∀ {z : Int}, 0 ≤ z → z < 2 ^ n → (z + 2 ^ (n - 1)) % 2 ^ n = if 2 ^ (n - 1) ≤ z then z - 2 ^ (n - 1) else z + 2 ^ (n - 1) := fun {z} z0 z1 => by
    split
    · exact (divmod_of (q := 1) (by omega) (by omega) (by omega) (by omega)).2
    · exact Int.emod_eq_of_lt (by omega) (by omega)
  rw [sgn_eq hn hx0 hx, sgn_eq hn hy0 hy, m hx0 hx, m hy0 hy]
  split <;> split <;> omega
theorem sgn_bound {n : Nat} {x : Int} (hn : n ≤ 32) (h0 : 0 ≤ x) (h1 : x < 2 ^ n) : (sgn n x).natAbs < 2 ^ 33 := by
  have hb := two32 hn
  have hp := two_pos n
  unfold sgn
  split <;> omega
theorem sgn_mul {n : Nat} {x y : Int} : (sgn n x * sgn n y) % 2 ^ n = x * y % 2 ^ n := by
  obtain ⟨k, e1⟩ := sgn_mod n x
  obtain ⟨l, e2⟩ := sgn_mod n y
  rw [e1, e2, Int.mul_emod, Int.add_mul_emod_self_left, Int.add_mul_emod_self_left, ← Int.mul_emod]
theorem sgn_add {n : Nat} {x y c : Int} : (sgn n x + sgn n y + c) % 2 ^ n = (x + y + c) % 2 ^ n := by
  obtain ⟨k, e1⟩ := sgn_mod n x
  obtain ⟨l, e2⟩ := sgn_mod n y
  have e : sgn n x + sgn n y + c = x + y + c + 2 ^ n * (k + l) := by
    rw [e1, e2, Int.mul_add]
    omega
  rw [e, Int.add_mul_emod_self_left]
/-- the difference, as a sum -/
theorem less_sum {n : Nat} {x y : Int} (hx0 : 0 ≤ x) (hx : x < 2 ^ n) (hy0 : 0 ≤ y) (hy : y < 2 ^ n) :
    (x + (2 ^ n - 1 - y) + 1) % 2 ^ n = (x - y) % 2 ^ n ∧ (x + (2 ^ n - 1 - y) + 1) / 2 ^ n = if y ≤ x then 1 else 0 := by
  have hd := two_pos n
  have e : x + (2 ^ n - 1 - y) + 1 = x - y + 2 ^ n * 1 := by omega
  refine ⟨by rw [e, Int.add_mul_emod_self_left], ?_⟩
  split
  · exact (divmod_of (r := x - y) hd (by omega) (by omega) (by omega)).1
  · exact Int.ediv_eq_zero_of_lt (by omega) (by omega)
/-! ### bits put together -/
theorem mod_add (x : Int) (a b : Nat) : x % 2 ^ (a + b) = x % 2 ^ a + 2 ^ a * (x / 2 ^ a % 2 ^ b) := by
  induction b with
  | zero => rw [Nat.add_zero, Int.pow_zero, Int.emod_one]; omega
  | succ b ih =>
    rw [← Nat.add_assoc, mod_succ x (a + b), ih, mod_succ (x / 2 ^ a) b, div_div, Int.mul_add, two_add, Int.mul_assoc]
    omega
theorem ofBits_append : ∀ (a b : List Int), ofBits (a ++ b) = ofBits a + 2 ^ a.length * ofBits b
  | [], b => by simp [ofBits]
  | x :: r, b => by
    show 2 * ofBits (r ++ b) + x = 2 * ofBits r + x + 2 ^ (r.length + 1) * ofBits b
    rw [ofBits_append r b, two_succ, Int.mul_add, Int.mul_assoc]
    omega
theorem ofBits_same (k : Nat) (t : Int) : ofBits (List.replicate k t) = t * (2 ^ k - 1) := by
  induction k with
  | zero => simp [ofBits]
  | succ k ih =>
    show 2 * ofBits (List.replicate k t) + t = t * (2 ^ (k + 1) - 1)
    rw [ih, two_succ, Int.mul_sub, Int.mul_sub, Int.mul_sub, Int.mul_one, ← Int.mul_assoc t 2, Int.mul_comm t 2, Int.mul_assoc 2 t]
    generalize t * 2 ^ k = u
    omega
theorem sgn_fit {m : Nat} {s : Int} (hm : 1 ≤ m) (h0 : -(2 ^ (m - 1)) ≤ s) (h1 : s < 2 ^ (m - 1)) : sgn m (s % 2 ^ m) = s := by
  have hd := two_pos (m - 1)
  have e : (2 : Int) ^ m = 2 * 2 ^ (m - 1) := by rw [← two_succ, Nat.sub_add_cancel hm]
  have hp := two_pos m
  rw [sgn_eq hm (Int.emod_nonneg _ (by omega)) (Int.emod_lt_of_pos _ hp)]
  by_cases h : 0 ≤ s
  · rw [Int.emod_eq_of_lt h (by omega), if_neg (by omega)]
  · have e2 : s % 2 ^ m = s + 2 ^ m := (divmod_of (q := -1) hp (by omega) (by omega) (by omega)).2
    rw [e2, if_pos (by omega)]
    omega
theorem sgn_range {n : Nat} {x : Int} (hn : 1 ≤ n) (h0 : 0 ≤ x) (h1 : x < 2 ^ n) : -(2 ^ (n - 1)) ≤ sgn n x ∧ sgn n x < 2 ^ (n - 1) := by
  have hd := two_pos (n - 1)
  have e : (2 : Int) ^ n = 2 * 2 ^ (n - 1) := by rw [← two_succ, Nat.sub_add_cancel hn]
  rw [sgn_eq hn h0 h1]
  split <;> omega
/-- lengthened: the top bit ahead -/
theorem ofBits_long {n : Nat} {x : Int} (k : Nat) (hn : 1 ≤ n) (h0 : 0 ≤ x) (h1 : x < 2 ^ n) :
    ofBits (bitsI n x ++ List.replicate k (x / 2 ^ (n - 1) % 2)) = sgn n x % 2 ^ (n + k) := by
  have hd := two_pos (n - 1)
  have e : (2 : Int) ^ n = 2 * 2 ^ (n - 1) := by rw [← two_succ, Nat.sub_add_cancel hn]
  have hp := two_pos n
  have hk := two_pos k
  have e2 := two_add n k
  have hk1 : (1 : Int) ≤ 2 ^ k := hk
  have hle : (2 : Int) ^ n * 1 ≤ 2 ^ n * 2 ^ k := Int.mul_le_mul_of_nonneg_left hk1 (Int.le_of_lt hp)
  rw [ofBits_append, ofBits_bitsI, mod_small h0 h1, bitsI_length, ofBits_same, sgn_eq hn h0 h1]
  by_cases h : 2 ^ (n - 1) ≤ x
  · have q := (divmod_of (a := x) (q := 1) (r := x - 2 ^ (n - 1)) hd (by omega) (by omega) (by omega)).1
    rw [if_pos h, q]
    show x + 2 ^ n * (1 * (2 ^ k - 1)) = (x - 2 ^ n) % 2 ^ (n + k)
    refine ((divmod_of (q := -1) (two_pos _) ?_ ?_ ?_).2).symm
    · rw [Int.one_mul, Int.mul_sub, ← e2]
      omega
    · rw [Int.one_mul, Int.mul_sub, ← e2]
      omega
    · rw [Int.one_mul, Int.mul_sub, ← e2]
      omega
  · have q : x / 2 ^ (n - 1) = 0 := Int.ediv_eq_zero_of_lt h0 (by omega)
    rw [if_neg h, q]
    show x + 2 ^ n * (0 * (2 ^ k - 1)) = x % 2 ^ (n + k)
    rw [Int.zero_mul, Int.mul_zero, Int.add_zero, Int.emod_eq_of_lt h0 (by omega)]
theorem sgn_low {n : Nat} {x : Int} (k : Nat) (h0 : 0 ≤ x) (h1 : x < 2 ^ n) : sgn n x % 2 ^ (n + k) % 2 ^ n = x := by
  rw [two_add, Int.emod_emod_of_dvd _ ⟨2 ^ k, rfl⟩]
  obtain ⟨j, e⟩ := sgn_mod n x
  rw [e, Int.add_mul_emod_self_left, mod_small h0 h1]
end TB
namespace TB
open PySem PySem.Spec PyProof.Rows L2
/-! ### where a def of the text stands; a module's constant -/
structure DefAt (K : PySem.W.Frag) (mg : Str → Option Value) (x : Str) (st : Stmt) (ps : List Str) where
  f : Addr
  fd : FuncData
  F : Fun K x x st f fd
  b : Binds K fd ps []
  g : mg x = some (.ref f)
structure ConAt (mg : Str → Option Value) (x : Str) (v : V) where
  u : Value
  g : mg x = some u
  r : RelV v u
def defAt {K : PySem.W.Frag} {h : Heap} {mg : Str → Option Value} {x : Str} {st : Stmt} {ps : List Str} (X : K.In h) (G : h.Ns mainGlobals mg) {f : Addr} {od an : Option Addr} {sl : Array (Option Value)} {oc kV dc pm cd ct : Value}
    (a : PySem.W.nsIn K mainGlobals x = some (some (.ref f))) (l : K.lookup f = some ⟨oc, od, .func (PySem.W.fnOf x x (defArgs st) (defBody st) (defScope st) .none kV dc pm an cd ct), sl⟩) (c : PySem.W.codeIn K cd x = true) (k : PySem.W.keepIn K (.ref f) = true)
    (hb : ∀ (kV doc pm : Value) (an : Option Addr) (cdv ct : Value) (us : List Value), us.length = ps.length → bindArgs (PySem.W.fnOf x x (defArgs st) (defBody st) (defScope st) .none kV doc pm an cdv ct) ⟨us, []⟩ = pure (ps.zip us)) : DefAt K mg x st ps :=
  ⟨f, _, fun_mk l c k, (fun_mk l c k).binds hb, PySem.W.mg_of X G a⟩

/-- a def with keyword-only parameters at its end, each with a default -/
structure DefKw (K : PySem.W.Frag) (mg : Str → Option Value) (x : Str) (st : Stmt) (ps : List Str) (n : Nat) (kws : List (Str × V)) where
  f : Addr
  fd : FuncData
  F : Fun K x x st f fd
  ds : List Value
  dv : Vals (kws.map (·.2)) ds
  b : Binds K fd ps ds
  kb : KBn K fd ps n (kws.map (·.1)) (fun us ws => us ++ ws) (fun vs zs => vs ++ zs)
  g : mg x = some (.ref f)
theorem defKw {K : PySem.W.Frag} {h : Heap} {mg : Str → Option Value} {x : Str} {st : Stmt} {ps : List Str} {n : Nat} {y : Str} {i : Int} {tk : Tok} (X : K.In h) (G : h.Ns mainGlobals mg) {f D : Addr} {od an : Option Addr} {sl : Array (Option Value)} {oc dc pm cd ct : Value}
    (a : PySem.W.nsIn K mainGlobals x = some (some (.ref f))) (l : K.lookup f = some ⟨oc, od, .func (PySem.W.fnOf x x (defArgs st) (defBody st) (defScope st) .none (.ref D) dc pm an cd ct), sl⟩) (c : PySem.W.codeIn K cd x = true) (k : PySem.W.keepIn K (.ref f) = true)
    (kd : PySem.W.nsIn K D y = some (some (.int i tk))) (hn : n + 1 = ps.length)
    (h1 : ∀ (D : Addr) (doc pm : Value) (an : Option Addr) (cdv ct : Value) (us ks : List Value), us.length = n → ks.length = 1 →
      KwChain D ([y].zip ks) (bindArgs (PySem.W.fnOf x x (defArgs st) (defBody st) (defScope st) .none (.ref D) doc pm an cdv ct) ⟨us, []⟩) (ps.zip (us ++ ks)))
    (h2 : ∀ (D : Addr) (doc pm : Value) (an : Option Addr) (cdv ct : Value) (us ks : List Value), us.length = n → ks.length = 1 →
      bindArgs (PySem.W.fnOf x x (defArgs st) (defBody st) (defScope st) .none (.ref D) doc pm an cdv ct) ⟨us, [y].zip ks⟩ = pure (ps.zip (us ++ ks))) : Nonempty (DefKw K mg x st ps n [(y, .int i)]) := by
  have FD : FunD K x x (defArgs st) (defBody st) (defScope st) [] [(y, .int i)] f (PySem.W.fnOf x x (defArgs st) (defBody st) (defScope st) .none (.ref D) dc pm an cd ct) :=
    ⟨⟨oc, od, .none, .ref D, dc, pm, an, cd, ct, sl, rfl, l, c, .inl ⟨rfl, rfl⟩, .inr ⟨D, rfl, fun q hq => by
      rcases List.mem_cons.mp hq with e | hq
      · rw [e]
        exact ⟨_, kd, _, rfl⟩
      · cases hq⟩⟩, k⟩
  obtain ⟨ds, dv, b⟩ := FD.binds0 n (by simp) hn fun D doc pm an cdv ct us ks l1 l2 => h1 D doc pm an cdv ct us ks l1 l2
  exact ⟨⟨f, _, fun_mk l c k, ds, dv, b, ⟨fun s us ws X l1 l2 => .of_eq (h2 D dc pm an cd ct us ws l1 l2), fun r1 r2 => r1.append r2⟩, PySem.W.mg_of X G a⟩⟩

/-! ### heaps -/
theorem same_new {H : Hp} {p : Addr} {o : HO} (h : H p = none) : Same H (upd H p o) := fun b x e => by
  rw [upd_ne (ne_of_none e h)]
  exact e
theorem seqT_same {K : PySem.W.Frag} {H H' : Hp} {a : Addr} {xs : List V} (e : Same H H') (h : SqT K H a xs) : SqT K H' a xs := by
  rcases h with (h | ⟨o, h⟩) | h
  · exact .inl (.inl (e _ _ h))
  · exact .inl (.inr ⟨o, e _ _ h⟩)
  · exact .inr h
theorem upd_comm {H : Hp} {a b : Addr} {o u : HO} (h : a ≠ b) : upd (upd H a o) b u = upd (upd H b u) a o := by
  funext c
  unfold upd
  by_cases h1 : c = b
  · subst h1
    rw [if_pos rfl, if_neg (Ne.symm h), if_pos rfl]
  · by_cases h2 : c = a
    · subst h2
      rw [if_neg h1, if_pos rfl, if_pos rfl]
    · rw [if_neg h1, if_neg h2, if_neg h2, if_neg h1]
/-! ### the dice: a list of three ints -/
abbrev dl (x y z : Int) : HO := .lst [.int x, .int y, .int z]
def Dice (H : Hp) (d : Addr) : Prop := ∃ x y z : Int, H d = some (dl x y z)
/-- all but the dice stays -/
structure Ext (d : Addr) (H H' : Hp) : Prop where
  s : ∀ b o, b ≠ d → H b = some o → H' b = some o
  d : Dice H' d
theorem Ext.refl {d : Addr} {H : Hp} (h : Dice H d) : Ext d H H := ⟨fun _ _ _ e => e, h⟩
theorem Ext.trans {d : Addr} {H H1 H2 : Hp} (a : Ext d H H1) (b : Ext d H1 H2) : Ext d H H2 := ⟨fun c o n e => b.s c o n (a.s c o n e), b.d⟩
theorem Ext.same {d : Addr} {H H1 H2 : Hp} (a : Ext d H H1) (b : Same H1 H2) : Ext d H H2 := ⟨fun c o n e => b c o (a.s c o n e), let ⟨x, y, z, e⟩ := a.d; ⟨x, y, z, b _ _ e⟩⟩
theorem Dice.same {d : Addr} {H H1 : Hp} (a : Dice H d) (b : Same H H1) : Dice H1 d := let ⟨x, y, z, e⟩ := a; ⟨x, y, z, b _ _ e⟩
theorem Dice.ne {d p : Addr} {H : Hp} (a : Dice H d) (h : H p = none) : p ≠ d := fun e => by
  obtain ⟨x, y, z, q⟩ := a
  rw [e, q] at h
  cases h
theorem Dice.neT {d p : Addr} {H : Hp} {xs : List V} (a : Dice H d) (h : H p = some (.tup xs)) : p ≠ d := fun e => by
  obtain ⟨x, y, z, q⟩ := a
  rw [e, q] at h
  cases h
theorem Ext.of {d : Addr} {H H' : Hp} (a : Dice H d) (b : Same H H') : Ext d H H' := (Ext.refl a).same b
theorem Ext.new {d p : Addr} {H : Hp} {o : HO} (a : Dice H d) (h : H p = none) : Ext d H (upd H p o) := .of a (same_new h)
theorem Ext.roll {d : Addr} {H : Hp} {x y z : Int} : Ext d H (upd H d (dl x y z)) := ⟨fun b o n e => by rw [upd_ne n]; exact e, x, y, z, upd_same⟩
theorem Ext.seqT {K : PySem.W.Frag} {d a : Addr} {H H' : Hp} {xs : List V} (e : Ext d H H') (hd : Dice H d) (h : SqT K H a xs) : SqT K H' a xs := by
  rcases h with (h | ⟨o, h⟩) | h
  · exact .inl (.inl (e.s _ _ (hd.neT h) h))
  · refine .inl (.inr ⟨o, e.s _ _ (fun z => ?_) h⟩)
    obtain ⟨x, y, w, q⟩ := hd
    rw [z, q] at h
    cases h
  · exact .inr h
theorem Ext.free {d p : Addr} {H H' : Hp} (e : Ext d H H') (hd : Dice H d) (h : H' p = none) : H p = none := by
  cases q : H p with
  | none => rfl
  | some o =>
    have n : p ≠ d := fun z => by
      obtain ⟨x, y, w, r⟩ := e.d
      rw [z, r] at h
      cases h
    rw [e.s _ _ n q] at h
    cases h
/-! ### all but one object stays -/
def But (l : Addr) (H H' : Hp) : Prop := ∀ b o, b ≠ l → H b = some o → H' b = some o
theorem But.refl (l : Addr) (H : Hp) : But l H H := fun _ _ _ e => e
theorem But.trans {l : Addr} {H H1 H2 : Hp} (a : But l H H1) (b : But l H1 H2) : But l H H2 := fun c o n e => b c o n (a c o n e)
theorem But.same {l : Addr} {H H1 H2 : Hp} (a : But l H H1) (b : Same H1 H2) : But l H H2 := fun c o n e => b c o (a c o n e)
theorem But.of {l : Addr} {H H1 : Hp} (b : Same H H1) : But l H H1 := fun c o _ e => b c o e
theorem But.mut {l : Addr} {H : Hp} {o : HO} : But l H (upd H l o) := fun c u n e => by
  rw [upd_ne n]
  exact e
/-- what stood ahead of the object's making -/
theorem But.back {l : Addr} {H0 H H' : Hp} {o : HO} (hn : H0 l = none) (s : Same (upd H0 l o) H) (a : But l H H') : Same H0 H' := fun c u e => by
  have n : c ≠ l := ne_of_none e hn
  exact a c u n (s c u (by rw [upd_ne n]; exact e))
theorem Ext.but {d : Addr} {H H' : Hp} (a : Ext d H H') : But d H H' := a.s
theorem But.seqT {K : PySem.W.Frag} {l a : Addr} {H H' : Hp} {xs ys : List V} (e : But l H H') (hl : H l = some (.lst ys)) (h : SqT K H a xs) : SqT K H' a xs := by
  rcases h with (h | ⟨o, h⟩) | h
  · exact .inl (.inl (e _ _ (ne_of h hl (by intro z; cases z)) h))
  · exact .inl (.inr ⟨o, e _ _ (ne_of h hl (by intro z; cases z)) h⟩)
  · exact .inr h
/-! ### a new object, its heap by a letter -/
theorem nw {H : Hp} {o : HO} {Q : V → Hp → Prop} (h : ∀ p H', Same H H' → H' p = some o → H p = none → Q (.ref p) H') : ∀ p, H p = none → Q (.ref p) (upd H p o) := fun p np => h p _ (same_new np) upd_same np
/-! ### rows of whole numbers as data -/
theorem dpI {K : PySem.W.Frag} {H : Hp} : ∀ ns : List Int, DpAll K H (ns.map V.int) (ns.map PyData.int)
  | [] => .nil
  | n :: r => .cons (.int n) (dpI r)
theorem canI : ∀ ns : List Int, PyData.canLayAll0 (ns.map PyData.int) = true
  | [] => rfl
  | n :: r => by
    show (PyData.canLay0 (.int n) && PyData.canLayAll0 (r.map PyData.int)) = true
    rw [canI r]
    rfl
theorem depthI : ∀ ns : List Int, PyData.depthAll (ns.map PyData.int) ≤ 1
  | [] => by decide
  | n :: r => by
    have := depthI r
    show max (PyData.depth (.int n)) (PyData.depthAll (r.map PyData.int)) ≤ 1
    have e : PyData.depth (.int n) = 0 := rfl
    omega
theorem shT (ns : List Int) : SeqAt.shaped (.tuple (ns.map PyData.int)) = true := by
  unfold SeqAt.shaped
  have e : PyData.canLay0 (.tuple (ns.map PyData.int)) = true := canI ns
  have d : PyData.depth (.tuple (ns.map PyData.int)) = PyData.depthAll (ns.map PyData.int) + 1 := rfl
  have := depthI ns
  rw [e, d, decide_eq_true (by omega)]
  rfl
theorem shL (ns : List Int) : SeqAt.shaped (.list (ns.map PyData.int)) = true := by
  unfold SeqAt.shaped
  have e : PyData.canLay0 (.list (ns.map PyData.int)) = true := canI ns
  have d : PyData.depth (.list (ns.map PyData.int)) = PyData.depthAll (ns.map PyData.int) + 1 := rfl
  have := depthI ns
  rw [e, d, decide_eq_true (by omega)]
  rfl
theorem eqvR {d : PyData} (h : SeqAt.shaped d = true) : PyData.eqv d d = true := SeqAt.eqv_refl d (SeqAt.canLay_of_shaped h)
theorem dp2 {K : PySem.W.Frag} {H : Hp} {a : Addr} {x y : Int} (h : SqT K H a [.int x, .int y]) : Dp K H (.ref a) (.tuple [.int x, .int y]) := .tup h (.cons (.int x) (.cons (.int y) .nil))
theorem eqv2 {x y x' y' : Int} (h1 : x = x') (h2 : y = y') : PyData.eqv (.tuple [.int x, .int y]) (.tuple [.int x', .int y']) = true := by
  subst h1 h2
  exact SeqAt.eqv_refl _ rfl
theorem neqv2 {x y x' y' : Int} (h1 : x = x') (h2 : y = y') : (!PyData.eqv (.tuple [.int x, .int y]) (.tuple [.int x', .int y'])) = false := by
  rw [eqv2 h1 h2]
  rfl
theorem neqvR {d : PyData} (h : SeqAt.shaped d = true) : (!PyData.eqv d d) = false := by
  rw [eqvR h]
  rfl
/-! ### tests -/
theorem iteB {A B : Prop} {b : Bool} (h : b = true) (q : A) : if b = true then A else B := by
  rw [h]
  exact iteT q
theorem iteBF {A B : Prop} {b : Bool} (h : b = false) (q : B) : if b = true then A else B := by
  rw [h]
  exact iteF q
theorem iteN {A B : Prop} {b : Bool} (h : b = true) (q : B) : if (!b) = true then A else B := by
  rw [h]
  exact iteF q
theorem iteNF {A B : Prop} {b : Bool} (h : b = false) (q : A) : if (!b) = true then A else B := by
  rw [h]
  exact iteT q
theorem ite3 {A B : Prop} {b : Bool} (h1 : b = true → A) (h2 : b = false → B) : if b = true then A else B := by
  cases b with
  | true => exact iteT (h1 rfl)
  | false => exact iteF (h2 rfl)
theorem neF {x y : V} (h : x = y) : (!decide (x = y)) = false := by
  rw [decide_eq_true h]
  rfl
theorem neT {x y : V} (h : x ≠ y) : (!decide (x = y)) = true := by
  rw [decide_eq_false h]
  rfl
theorem neFI {i j : Int} (h : i = j) : (!decide (V.int i = V.int j)) = false := neF (congrArg V.int h)
theorem eqTI {i j : Int} (h : i = j) : decide (V.int i = V.int j) = true := decide_eq_true (congrArg V.int h)
theorem eqFI {i j : Int} (h : i ≠ j) : decide (V.int i = V.int j) = false := decide_eq_false fun z => h (V.int.inj z)
theorem neTI {i j : Int} (h : i ≠ j) : (!decide (V.int i = V.int j)) = true := neT fun z => h (V.int.inj z)
/-! ### written numbers, sizes -/
theorem p0 {c : Int} (h : decide (0 < c) = true := by rfl) : 0 < c := of_decide_eq_true h
theorem cdiv {i j : Int} (h : decide (0 < j ∧ j < 1073741824) = true := by rfl) : CDiv i j := show 0 < j ∧ j < 1073741824 from of_decide_eq_true h
theorem cmulL {i j : Int} (h : decide (-(2 ^ 64) < i ∧ i < 2 ^ 64) = true := by rfl) : CMul i j := .inl (of_decide_eq_true h)
theorem cmulR {i j : Int} (h : decide (-(2 ^ 64) < j ∧ j < 2 ^ 64) = true := by rfl) : CMul i j := .inr (of_decide_eq_true h)
theorem sz {α : Type} {xs : List α} {n : Nat} (h : xs.length = n := by rfl) (h2 : decide (n ≤ 100000) = true := by rfl) : xs.length ≤ sizeLine := by
  rw [h]
  have := of_decide_eq_true h2
  rw [sizeLine_eq]
  omega
theorem szl {n : Nat} (h : n ≤ 100000) : n ≤ sizeLine := by
  rw [sizeLine_eq]
  omega
theorem szlt {n : Nat} (h : n ≤ 100000) : n < sizeLine := by
  rw [sizeLine_eq]
  omega
/-! ### slices -/
theorem cut_to (xs : List V) (k : Nat) : cutV xs none (some (k : Int)) = xs.take k := by
  unfold cutV
  rw [HT.sIx_nat, HT.sIx_none, List.drop_zero, Nat.sub_zero]
  by_cases h : k ≤ xs.length
  · rw [Nat.min_eq_left h]
  · rw [Nat.min_eq_right (by omega), List.take_length, List.take_of_length_le (by omega)]
theorem cut_from (xs : List V) (k : Nat) : cutV xs (some (k : Int)) none = xs.drop k := by
  unfold cutV
  rw [HT.sIx_nat, HT.sIx_none]
  by_cases h : k ≤ xs.length
  · rw [Nat.min_eq_left h, List.take_of_length_le (by rw [List.length_drop]; omega)]
  · rw [Nat.min_eq_right (by omega), List.drop_length, List.drop_of_length_le (by omega), List.take_nil]
theorem cut_mid (xs : List V) (a b : Nat) (h : a + b ≤ xs.length) : cutV xs (some (a : Int)) (some ((a : Int) + (b : Int))) = (xs.drop a).take b := by
  unfold cutV
  have e : (a : Int) + (b : Int) = ((a + b : Nat) : Int) := by omega
  rw [e, HT.sIx_nat, HT.sIx_nat, Nat.min_eq_left h, Nat.min_eq_left (show a ≤ xs.length by omega), Nat.add_sub_cancel_left]
/-! ### loops -/
/-- for .. in range(n), the turn's number a Nat -/
theorem for_rangeN {n : Nat} {g : TG} {tb : TS} {D : Ends} {σ : L2.St} {H : Hp} (Pv : Nat → L2.St → Hp → Prop) (h0 : Pv 0 σ H)
    (hs : ∀ i σ H, i < n → Pv i σ H → g (.int (i : Int)) σ H fun σ2 H2 => tb { D with nx := Pv (i + 1), ct := Pv (i + 1), bk := D.nx } σ2 H2) (hd : ∀ σ H, Pv n σ H → D.nx σ H) :
    ∃ W : Nat → Nat → L2.St → Hp → Prop, (∃ m, W 0 m σ H) ∧ ∀ i m σ H, W i m σ H → ((Itr 0 n).stop i H ∧ D.nx σ H) ∨ ((Itr 0 n).go i H ∧ ∃ N : L2.St → Hp → Prop, (∀ σ' H', N σ' H' → ∃ m', m' < m ∧ W (i + 1) m' σ' H') ∧ ∀ x H', (Itr 0 n).yld i H x H' → g x σ H' fun σ2 H2 => tb { D with nx := N, ct := N, bk := D.nx } σ2 H2) :=
  for_range (lo := 0) (n := n) Pv h0 (fun i σ H hi p => by
    have e0 : (0 : Int) + (i : Int) = (i : Int) := Int.zero_add _
    rw [e0]
    exact hs i σ H hi p) hd
/-- [.. for .. in range(n)], the turn's number a Nat -/
theorem lc_rangeN {n : Nat} {g : TG} {tt : TT} {te : TE} {vs : List Nat} {σ : L2.St} {H1 : Hp} {D : Addr} {Qd : Hp → Prop} (Pv : Nat → Hp → Prop) (h0 : Pv 0 (upd H1 D (.lst [])))
    (hs : ∀ i H, i < n → Pv i H → g (.int (i : Int)) (wipe σ vs) H fun σ2 H2 => wipe σ2 vs = wipe σ vs ∧ tt σ2 H2 fun b H3 =>
      if b = true then te σ2 H3 fun y H4 => ∃ acc, H4 D = some (.lst acc) ∧ acc.length < sizeLine ∧ Pv (i + 1) (upd H4 D (.lst (acc ++ [y]))) else Pv (i + 1) H3) (hd : ∀ H, Pv n H → Qd H) :
    ∃ W : Nat → Nat → Hp → Prop, (∃ m, W 0 m (upd H1 D (.lst []))) ∧ ∀ i m H, W i m H →
      ((Itr 0 n).stop i H ∧ Qd H) ∨ ((Itr 0 n).go i H ∧ ∃ Nx : Hp → Prop, (∀ H', Nx H' → ∃ m', m' < m ∧ W (i + 1) m' H') ∧ ∀ x H', (Itr 0 n).yld i H x H' → g x (wipe σ vs) H' fun σ2 H2 => wipe σ2 vs = wipe σ vs ∧ tt σ2 H2 fun b H3 =>
        if b = true then te σ2 H3 fun y H4 => ∃ acc, H4 D = some (.lst acc) ∧ acc.length < sizeLine ∧ Nx (upd H4 D (.lst (acc ++ [y]))) else Nx H3) :=
  lc_range (lo := 0) (n := n) Pv h0 (fun i H hi p => by
    have e0 : (0 : Int) + (i : Int) = (i : Int) := Int.zero_add _
    rw [e0]
    exact hs i H hi p) hd
/-- for i, x in enumerate(xs) -/
theorem for_enumL {K : PySem.W.Frag} {a : Addr} {xs : List V} {g : TG} {tb : TS} {D : Ends} {σ : L2.St} {H : Hp} (Pv : Nat → L2.St → Hp → Prop) (h0 : Pv 0 σ H) (hq : ∀ i σ H, Pv i σ H → SqL K H a xs)
    (hs : ∀ (i : Nat) (x : V) (T : Addr) (σ : L2.St) (H : Hp), xs[i]? = some x → Pv i σ H → H T = none → g (.ref T) σ (upd H T (.tup [.int (i : Int), x])) fun σ2 H2 => tb { D with nx := Pv (i + 1), ct := Pv (i + 1), bk := D.nx } σ2 H2) (hd : ∀ σ H, Pv xs.length σ H → D.nx σ H) :
    ∃ W : Nat → Nat → L2.St → Hp → Prop, (∃ m, W 0 m σ H) ∧ ∀ i m σ H, W i m σ H → ((Ite K a).stop i H ∧ D.nx σ H) ∨ ((Ite K a).go i H ∧ ∃ N : L2.St → Hp → Prop, (∀ σ' H', N σ' H' → ∃ m', m' < m ∧ W (i + 1) m' σ' H') ∧ ∀ v H', (Ite K a).yld i H v H' → g v σ H' fun σ2 H2 => tb { D with nx := N, ct := N, bk := D.nx } σ2 H2) := by
  refine ⟨fun i m σ H => m = xs.length - i ∧ i ≤ xs.length ∧ Pv i σ H, ⟨xs.length, rfl, Nat.zero_le _, h0⟩, ?_⟩
  rintro i m σ H ⟨rfl, hi, p⟩
  have qx := hq i σ H p
  by_cases hlt : i < xs.length
  · have hx : xs[i]? = some xs[i] := List.getElem?_eq_getElem hlt
    refine .inr ⟨⟨xs, xs[i], qx, hx⟩, Pv (i + 1), fun σ' H' p' => ⟨xs.length - (i + 1), by omega, rfl, hlt, p'⟩, fun v H' y => ?_⟩
    obtain ⟨T, x, rfl, nT, rfl, f⟩ := y
    exact hs i x T σ H (f xs qx) p nT
  · have e : i = xs.length := by omega
    subst e
    exact .inl ⟨⟨xs, qx, Nat.le_refl _⟩, hd σ H p⟩
/-! ### powers of great ints -/
def CPowW (i j : Int) : Prop := 0 ≤ j ∧ (Builtin.Int.intBits i : Int) * j ≤ 2 ^ 27
theorem op_powW {X : Cx} : OpR X (binaryOp .Pow) (rI CPowW fun i j => .int (i ^ j.toNat)) := opI fun _ _ _ _ _ _ _ hc q => pow_int hc.1 hc.2 q
end TB
namespace TB
open PySem PySem.Spec PyProof.Rows L2
/-! ### a rule by a stronger reading -/
section
variable {X : Cx}
theorem PE_imp {e : Expr} {t t' : TE} (h : PE X e t) (hi : ∀ σ H Q, t' σ H Q → t σ H Q) : PE X e t' := ⟨fun pins s σ H Q I hw => h.run pins s σ H Q I (hi σ H Q hw)⟩
/-- what follows may be less -/
def clA (t : TA) : TA := fun σ H Q => ∃ R, t σ H R ∧ ∀ vs H', R vs H' → Q vs H'
def clE (t : TE) : TE := fun σ H Q => ∃ R, t σ H R ∧ ∀ v H', R v H' → Q v H'
theorem PA_cl {es : List Expr} {t : TA} (h : PA X es t) : PA X es (clA t) := ⟨fun pos pins s σ H Q I hw => by
  obtain ⟨R, h1, h2⟩ := hw
  exact thn (h.run pos pins s σ H R I h1) fun us s' ⟨vs, H', I', r, q⟩ => ⟨vs, H', I', r, h2 _ _ q⟩⟩
theorem PE_cl {e : Expr} {t : TE} (h : PE X e t) : PE X e (clE t) := ⟨fun pins s σ H Q I hw => by
  obtain ⟨R, h1, h2⟩ := hw
  exact thn (h.run pins s σ H R I h1) fun us s' ⟨v, H', I', r, q⟩ => ⟨v, H', I', r, h2 _ _ q⟩⟩
theorem OpR_imp {f : Value → Value → Sem Value} {r r' : R2} (h : OpR X f r) (hi : ∀ x y H Q, r' x y H Q → r x y H Q) : OpR X f r' := fun pins s σ H x y v u Q I rx ry hw => h pins s σ H x y v u Q I rx ry (hi _ _ _ _ hw)
theorem CallR_imp {f : Value} {r r' : List V → Hp → VK → Prop} (h : CallR X f r) (hi : ∀ xs H Q, r' xs H Q → r xs H Q) : CallR X f r' := fun pins s σ H xs us Q I rx hw => h pins s σ H xs us Q I rx (hi _ _ _ hw)
theorem SlR_imp {r r' : V → Option Int → Option Int → Hp → VK → Prop} (h : L2.SlR X r) (hi : ∀ x lo hi' H Q, r' x lo hi' H Q → r x lo hi' H Q) : L2.SlR X r' := fun pins s σ H x v vl vu lo hi' sl Q I rx hs pl pu hw => h pins s σ H x v vl vu lo hi' sl Q I rx hs pl pu (hi _ _ _ _ _ hw)
/-! ### new tuples, new lists -/
def NewT (K : PySem.W.Frag) (xs : List V) (H : Hp) (Q : VK) : Prop := ∀ p H', Same H H' → SqT K H' p xs → Q (.ref p) H'
def NewL (xs : List V) (H : Hp) (Q : VK) : Prop := ∀ p H', Same H H' → H' p = some (.lst xs) → H p = none → Q (.ref p) H'
theorem newT {K : PySem.W.Frag} {xs : List V} {H : Hp} {Q : VK} (h : NewT K xs H Q) : ∀ p, H p = none → Q (.ref p) (upd H p (.tup xs)) := fun p np => h p _ (same_new np) (SqT.of upd_same)
theorem newL {xs : List V} {H : Hp} {Q : VK} (h : NewL xs H Q) : ∀ p, H p = none → Q (.ref p) (upd H p (.lst xs)) := fun p np => h p _ (same_new np) upd_same np
def tTupA (K : PySem.W.Frag) (t : TA) : TE := fun σ H Q => t σ H fun xs H1 => xs.length ≤ sizeLine ∧ NewT K xs H1 Q
def tLstA (t : TA) : TE := fun σ H Q => t σ H fun xs H1 => xs.length ≤ sizeLine ∧ NewL xs H1 Q
theorem pe_tupA {es : List Expr} {t : TA} {x1} {pos : Pos} (h : PA X es t) : PE X (.Tuple es x1 pos) (tTupA X.K t) := PE_imp (pe_tup (PA_cl h)) fun σ H Q hw => ⟨_, hw, fun xs H1 z => ⟨z.1, newT z.2⟩⟩
theorem pe_lstA {es : List Expr} {t : TA} {pos : Pos} (h : PA X es t) : PE X (.List es pos) (tLstA t) := PE_imp (pe_lst (PA_cl h)) fun σ H Q hw => ⟨_, hw, fun xs H1 z => ⟨z.1, newL z.2⟩⟩
theorem call_tupleA : CallR X (.type "tuple") (fun xs H Q => ∃ p ys, xs = [.ref p] ∧ (SqL X.K H p ys ∨ SqT X.K H p ys) ∧ NewT X.K ys H Q) := CallR_imp call_tuple_of fun xs H Q ⟨p, ys, e, h, q⟩ => ⟨p, ys, e, by
  rcases h with h | h
  · exact .inl ⟨h, newT q⟩
  · exact .inr ⟨h, q p H (Same.refl H) h⟩⟩
theorem call_listA : CallR X (.type "list") (fun xs H Q => ∃ p ys, xs = [.ref p] ∧ (SqL X.K H p ys ∨ SqT X.K H p ys) ∧ NewL ys H Q) := CallR_imp call_list_of fun xs H Q ⟨p, ys, e, h, q⟩ => ⟨p, ys, e, h, newL q⟩
theorem sl_listA : L2.SlR X (fun x lo hi H Q => ∃ a xs, x = .ref a ∧ SqL X.K H a xs ∧ NewL (cutV xs lo hi) H Q) := SlR_imp sl_list fun x lo hi H Q ⟨a, xs, e, h, q⟩ => ⟨a, xs, e, h, newL q⟩
theorem sl_tupleA : L2.SlR X (fun x lo hi H Q => ∃ a xs, x = .ref a ∧ SqT X.K H a xs ∧ NewT X.K (cutV xs lo hi) H Q) := SlR_imp sl_tupA fun x lo hi H Q ⟨a, xs, e, h, q⟩ => ⟨a, xs, e, h, fun z => by
    have e : cutV xs lo hi = xs := by
      unfold cutV
      rw [z.1, z.2, List.drop_zero, Nat.sub_zero, List.take_length]
    exact q a H (Same.refl H) (by rw [e]; exact h), fun _ => newT q⟩
theorem op_catL : OpR X (binaryOp .Add) (fun x y H Q => ∃ l b xs zs, x = .ref l ∧ y = .ref b ∧ H l = some (.lst xs) ∧ H b = some (.lst zs) ∧ xs.length + zs.length ≤ sizeLine ∧ NewL (xs ++ zs) H Q) := OpR_imp op_cat fun x y H Q ⟨l, b, xs, zs, e1, e2, h1, h2, z, q⟩ => ⟨l, b, xs, zs, e1, e2, h1, h2, z, newL q⟩
theorem op_repL : OpR X (binaryOp .Mult) (fun x y H Q => ∃ l k xs, x = .ref l ∧ y = .int k ∧ H l = some (.lst xs) ∧ -(2 ^ 63) ≤ k ∧ k < 2 ^ 63 ∧ xs.length * k.toNat ≤ sizeLine ∧ NewL (List.replicate k.toNat xs).flatten H Q) := OpR_imp op_rep fun x y H Q ⟨l, k, xs, e1, e2, h1, h2, h3, z, q⟩ => ⟨l, k, xs, e1, e2, h1, h2, h3, z, newL q⟩
theorem op_catU : OpR X (binaryOp .Add) (fun x y H Q => ∃ a b xs ys, x = .ref a ∧ y = .ref b ∧ SqT X.K H a xs ∧ SqT X.K H b ys ∧ xs.length + ys.length ≤ sizeLine ∧ NewT X.K (xs ++ ys) H Q) := OpR_imp op_catA fun x y H Q ⟨a, b, xs, ys, e1, e2, h1, h2, z, q⟩ => ⟨a, b, xs, ys, e1, e2, h1, h2, z,
  (fun e => q b H (Same.refl H) (by rw [e]; exact h2)), (fun _ e => q a H (Same.refl H) (by rw [e, List.append_nil]; exact h1)), (fun _ _ => newT q)⟩
theorem call_divmodA : CallR X (.builtin "divmod") (fun xs H Q => ∃ i j, xs = [.int i, .int j] ∧ CDivP i j ∧ NewT X.K [.int (i / j), .int (i % j)] H Q) := CallR_imp call_divmodW fun xs H Q ⟨i, j, e, h, q⟩ => ⟨i, j, e, h, newT q⟩
def tRevLA (K : PySem.W.Frag) (te : TE) : TE := fun σ H Q => te σ H fun x H1 => ∃ a xs, x = .ref a ∧ SqL K H1 a xs ∧ NewL xs.reverse H1 Q
theorem pe_revLA {e : Expr} {te : TE} {k : Nat} {p1 p2 p3 pos : Pos} (he : PE X e te) : PE X (.Subscript e (.Slice none none (some (.UnaryOp .USub (.Constant (.int 1) k p1) p2)) p3) pos) (tRevLA X.K te) :=
  PE_imp (pe_revL (PE_cl he)) fun σ H Q hw => ⟨_, hw, fun x H1 ⟨a, xs, e, h, q⟩ => ⟨a, xs, e, h, newL q⟩⟩
end
/-! ### what stands, through Same, Ext, But -/
section
variable {K : PySem.W.Frag} {H H' : Hp} {a d l : Addr} {xs ys : List V}
theorem sT (e : Same H H') (h : SqT K H a xs) : SqT K H' a xs := seqT_same e h
theorem sL (e : Same H H') (h : SqL K H a xs) : SqL K H' a xs := e.seq h
/-- a list that was made anew and then changed: what stood before stands -/
theorem Same.back {H0 H1 H2 : Hp} (hn : H0 l = none) (s : Same H0 H1) (b : But l H1 H2) : Same H0 H2 := fun c o e => b c o (ne_of_none e hn) (s c o e)
theorem Ext.list (e : Ext d H H') (n : a ≠ d) (h : H a = some (.lst xs)) : H' a = some (.lst xs) := e.s _ _ n h
theorem Ext.seqL (e : Ext d H H') (hd : Dice H d) (n : a ≠ d) (h : SqL K H a xs) : SqL K H' a xs := by
  rcases h with (h | ⟨o, h⟩) | h
  · exact .inl (.inl (e.s _ _ n h))
  · exact .inl (.inr ⟨o, e.s _ _ n h⟩)
  · exact .inr h
/-- what a dice is not -/
theorem Dice.neL (h : Dice H d) (e : H a = some (.lst xs)) (n : xs.length ≠ 3) : a ≠ d := fun z => by
  obtain ⟨x, y, w, q⟩ := h
  rw [z, q] at e
  cases e
  exact n rfl
theorem dp2s {x y : Int} (h : SqT K H a [.int x, .int y]) : Dp K H (.ref a) (.tuple [.int x, .int y]) := dp2 h
end
/-! ### lists of pure elements: f tells what each item gives, if anything -/
theorem range_snoc {α : Type} (f : Nat → Option α) (i : Nat) : (List.range (i + 1)).filterMap f = (List.range i).filterMap f ++ (f i).toList := by
  rw [List.range_succ, List.filterMap_append]
  cases h : f i <;> simp [h]
theorem take_snoc {α β : Type} (f : α → Option β) {xs : List α} {i : Nat} {x : α} (h : xs[i]? = some x) : (xs.take (i + 1)).filterMap f = (xs.take i).filterMap f ++ (f x).toList := by
  rw [List.take_add_one, h, List.filterMap_append]
  cases e : f x <;> simp [e]
theorem lc_rangeF {n : Nat} {g : TG} {tt : TT} {te : TE} {vs : List Nat} {σ : L2.St} {H1 : Hp} {Qd : Addr → Hp → Prop} (f : Nat → Option V) (hn : n ≤ 100000)
    (hs : ∀ i H, i < n → Same H1 H → ∀ (R : V → Hp → Prop) (N : Hp → Prop), (∀ v H', f i = some v → Same H H' → R v H') → (∀ H', f i = none → Same H H' → N H') →
      g (.int (i : Int)) (wipe σ vs) H fun σ2 H2 => wipe σ2 vs = wipe σ vs ∧ tt σ2 H2 fun b H3 => if b = true then te σ2 H3 R else N H3)
    (hd : ∀ D H', Same H1 H' → H' D = some (.lst ((List.range n).filterMap f)) → H1 D = none → Qd D H') :
    ∀ D, H1 D = none → ∃ W : Nat → Nat → Hp → Prop, (∃ m, W 0 m (upd H1 D (.lst []))) ∧ ∀ i m H, W i m H →
      ((Itr 0 n).stop i H ∧ Qd D H) ∨ ((Itr 0 n).go i H ∧ ∃ Nx : Hp → Prop, (∀ H', Nx H' → ∃ m', m' < m ∧ W (i + 1) m' H') ∧ ∀ x H', (Itr 0 n).yld i H x H' → g x (wipe σ vs) H' fun σ2 H2 => wipe σ2 vs = wipe σ vs ∧ tt σ2 H2 fun b H3 =>
        if b = true then te σ2 H3 fun y H4 => ∃ acc, H4 D = some (.lst acc) ∧ acc.length < sizeLine ∧ Nx (upd H4 D (.lst (acc ++ [y]))) else Nx H3) := fun D nD =>
  lc_rangeN (n := n) (fun i H => Same H1 H ∧ H D = some (.lst ((List.range i).filterMap f))) ⟨same_new nD, upd_same⟩ (fun i H hi ⟨sm, hD⟩ => by
    refine hs i H hi sm _ _ (fun v H' e s => ?_) (fun H' e s => ?_)
    · refine ⟨_, s _ _ hD, szlt ?_, fun b o hb => ?_, ?_⟩
      · have := List.length_filterMap_le f (List.range i)
        rw [List.length_range] at this
        omega
      · rw [upd_ne (ne_of_none hb nD)]
        exact s _ _ (sm _ _ hb)
      · rw [upd_same, range_snoc, e]
        rfl
    · refine ⟨sm.trans s, ?_⟩
      rw [range_snoc, e, s _ _ hD, Option.toList, List.append_nil]) fun H ⟨sm, hD⟩ => hd D H sm hD nD
theorem lc_listF {K : PySem.W.Frag} {a : Addr} {xs : List V} {g : TG} {tt : TT} {te : TE} {vs : List Nat} {σ : L2.St} {H1 : Hp} {Qd : Addr → Hp → Prop} (hl : SqL K H1 a xs) (f : V → Option V) (hn : xs.length ≤ 100000)
    (hs : ∀ (i : Nat) x H, xs[i]? = some x → Same H1 H → ∀ (R : V → Hp → Prop) (N : Hp → Prop), (∀ v H', f x = some v → Same H H' → R v H') → (∀ H', f x = none → Same H H' → N H') →
      g x (wipe σ vs) H fun σ2 H2 => wipe σ2 vs = wipe σ vs ∧ tt σ2 H2 fun b H3 => if b = true then te σ2 H3 R else N H3)
    (hd : ∀ D H', Same H1 H' → H' D = some (.lst (xs.filterMap f)) → H1 D = none → Qd D H') :
    ∀ D, H1 D = none → ∃ W : Nat → Nat → Hp → Prop, (∃ m, W 0 m (upd H1 D (.lst []))) ∧ ∀ i m H, W i m H →
      ((Itl K a).stop i H ∧ Qd D H) ∨ ((Itl K a).go i H ∧ ∃ Nx : Hp → Prop, (∀ H', Nx H' → ∃ m', m' < m ∧ W (i + 1) m' H') ∧ ∀ x H', (Itl K a).yld i H x H' → g x (wipe σ vs) H' fun σ2 H2 => wipe σ2 vs = wipe σ vs ∧ tt σ2 H2 fun b H3 =>
        if b = true then te σ2 H3 fun y H4 => ∃ acc, H4 D = some (.lst acc) ∧ acc.length < sizeLine ∧ Nx (upd H4 D (.lst (acc ++ [y]))) else Nx H3) := fun D nD =>
  lc_list (K := K) (a := a) (xs := xs) (fun i H => Same H1 H ∧ H D = some (.lst ((xs.take i).filterMap f))) ⟨same_new nD, upd_same⟩ (fun i H _ ⟨sm, _⟩ => sm.seq hl) (fun i x H hx ⟨sm, hD⟩ => by
    refine hs i x H hx sm _ _ (fun v H' e s => ?_) (fun H' e s => ?_)
    · refine ⟨_, s _ _ hD, szlt ?_, fun b o hb => ?_, ?_⟩
      · have := List.length_filterMap_le f (xs.take i)
        rw [List.length_take] at this
        omega
      · rw [upd_ne (ne_of_none hb nD)]
        exact s _ _ (sm _ _ hb)
      · rw [upd_same, take_snoc f hx, e]
        rfl
    · refine ⟨sm.trans s, ?_⟩
      rw [take_snoc f hx, e, s _ _ hD, Option.toList, List.append_nil]) fun H ⟨sm, hD⟩ => hd D H sm (by rw [hD, List.take_length]) nD
theorem lc_tupF {K : PySem.W.Frag} {a : Addr} {xs : List V} {g : TG} {tt : TT} {te : TE} {vs : List Nat} {σ : L2.St} {H1 : Hp} {Qd : Addr → Hp → Prop} (hl : SqT K H1 a xs) (f : V → Option V) (hn : xs.length ≤ 100000)
    (hs : ∀ (i : Nat) x H, xs[i]? = some x → Same H1 H → ∀ (R : V → Hp → Prop) (N : Hp → Prop), (∀ v H', f x = some v → Same H H' → R v H') → (∀ H', f x = none → Same H H' → N H') →
      g x (wipe σ vs) H fun σ2 H2 => wipe σ2 vs = wipe σ vs ∧ tt σ2 H2 fun b H3 => if b = true then te σ2 H3 R else N H3)
    (hd : ∀ D H', Same H1 H' → H' D = some (.lst (xs.filterMap f)) → H1 D = none → Qd D H') :
    ∀ D, H1 D = none → ∃ W : Nat → Nat → Hp → Prop, (∃ m, W 0 m (upd H1 D (.lst []))) ∧ ∀ i m H, W i m H →
      ((Itt K a).stop i H ∧ Qd D H) ∨ ((Itt K a).go i H ∧ ∃ Nx : Hp → Prop, (∀ H', Nx H' → ∃ m', m' < m ∧ W (i + 1) m' H') ∧ ∀ x H', (Itt K a).yld i H x H' → g x (wipe σ vs) H' fun σ2 H2 => wipe σ2 vs = wipe σ vs ∧ tt σ2 H2 fun b H3 =>
        if b = true then te σ2 H3 fun y H4 => ∃ acc, H4 D = some (.lst acc) ∧ acc.length < sizeLine ∧ Nx (upd H4 D (.lst (acc ++ [y]))) else Nx H3) := fun D nD =>
  lc_tup (K := K) (a := a) (xs := xs) (fun i H => Same H1 H ∧ H D = some (.lst ((xs.take i).filterMap f))) ⟨same_new nD, upd_same⟩ (fun i H _ ⟨sm, _⟩ => sT sm hl) (fun i x H hx ⟨sm, hD⟩ => by
    refine hs i x H hx sm _ _ (fun v H' e s => ?_) (fun H' e s => ?_)
    · refine ⟨_, s _ _ hD, szlt ?_, fun b o hb => ?_, ?_⟩
      · have := List.length_filterMap_le f (xs.take i)
        rw [List.length_take] at this
        omega
      · rw [upd_ne (ne_of_none hb nD)]
        exact s _ _ (sm _ _ hb)
      · rw [upd_same, take_snoc f hx, e]
        rfl
    · refine ⟨sm.trans s, ?_⟩
      rw [take_snoc f hx, e, s _ _ hD, Option.toList, List.append_nil]) fun H ⟨sm, hD⟩ => hd D H sm (by rw [hD, List.take_length]) nD
/-! ### lists of pure elements, told by the list that comes -/
theorem lc_tupY {K : PySem.W.Frag} {a : Addr} {xs ys : List V} {g : TG} {tt : TT} {te : TE} {vs : List Nat} {σ : L2.St} {H1 : Hp} {Qd : Addr → Hp → Prop} (hl : SqT K H1 a xs) (hlen : ys.length = xs.length) (hn : xs.length ≤ 100000)
    (hs : ∀ (i : Nat) x y H, xs[i]? = some x → ys[i]? = some y → Same H1 H → ∀ (R : V → Hp → Prop) (N : Hp → Prop), (∀ H', Same H H' → R y H') →
      g x (wipe σ vs) H fun σ2 H2 => wipe σ2 vs = wipe σ vs ∧ tt σ2 H2 fun b H3 => if b = true then te σ2 H3 R else N H3)
    (hd : ∀ D H', Same H1 H' → H' D = some (.lst ys) → H1 D = none → Qd D H') :
    ∀ D, H1 D = none → ∃ W : Nat → Nat → Hp → Prop, (∃ m, W 0 m (upd H1 D (.lst []))) ∧ ∀ i m H, W i m H →
      ((Itt K a).stop i H ∧ Qd D H) ∨ ((Itt K a).go i H ∧ ∃ Nx : Hp → Prop, (∀ H', Nx H' → ∃ m', m' < m ∧ W (i + 1) m' H') ∧ ∀ x H', (Itt K a).yld i H x H' → g x (wipe σ vs) H' fun σ2 H2 => wipe σ2 vs = wipe σ vs ∧ tt σ2 H2 fun b H3 =>
        if b = true then te σ2 H3 fun y H4 => ∃ acc, H4 D = some (.lst acc) ∧ acc.length < sizeLine ∧ Nx (upd H4 D (.lst (acc ++ [y]))) else Nx H3) := fun D nD =>
  lc_tup (K := K) (a := a) (xs := xs) (fun i H => Same H1 H ∧ H D = some (.lst (ys.take i))) ⟨same_new nD, upd_same⟩ (fun i H _ ⟨sm, _⟩ => sT sm hl) (fun i x H hx ⟨sm, hD⟩ => by
    have hi := (List.getElem?_eq_some_iff.mp hx).1
    have hy : ys[i]? = some ys[i] := List.getElem?_eq_getElem (by omega)
    refine hs i x ys[i] H hx hy sm _ _ (fun H' s => ?_)
    refine ⟨_, s _ _ hD, szlt ?_, fun b o hb => ?_, ?_⟩
    · rw [List.length_take]
      omega
    · rw [upd_ne (ne_of_none hb nD)]
      exact s _ _ (sm _ _ hb)
    · rw [upd_same, List.take_add_one, hy]
      rfl) fun H ⟨sm, hD⟩ => hd D H sm (by rw [hD, ← hlen, List.take_length]) nD
theorem lc_listY {K : PySem.W.Frag} {a : Addr} {xs ys : List V} {g : TG} {tt : TT} {te : TE} {vs : List Nat} {σ : L2.St} {H1 : Hp} {Qd : Addr → Hp → Prop} (hl : SqL K H1 a xs) (hlen : ys.length = xs.length) (hn : xs.length ≤ 100000)
    (hs : ∀ (i : Nat) x y H, xs[i]? = some x → ys[i]? = some y → Same H1 H → ∀ (R : V → Hp → Prop) (N : Hp → Prop), (∀ H', Same H H' → R y H') →
      g x (wipe σ vs) H fun σ2 H2 => wipe σ2 vs = wipe σ vs ∧ tt σ2 H2 fun b H3 => if b = true then te σ2 H3 R else N H3)
    (hd : ∀ D H', Same H1 H' → H' D = some (.lst ys) → H1 D = none → Qd D H') :
    ∀ D, H1 D = none → ∃ W : Nat → Nat → Hp → Prop, (∃ m, W 0 m (upd H1 D (.lst []))) ∧ ∀ i m H, W i m H →
      ((Itl K a).stop i H ∧ Qd D H) ∨ ((Itl K a).go i H ∧ ∃ Nx : Hp → Prop, (∀ H', Nx H' → ∃ m', m' < m ∧ W (i + 1) m' H') ∧ ∀ x H', (Itl K a).yld i H x H' → g x (wipe σ vs) H' fun σ2 H2 => wipe σ2 vs = wipe σ vs ∧ tt σ2 H2 fun b H3 =>
        if b = true then te σ2 H3 fun y H4 => ∃ acc, H4 D = some (.lst acc) ∧ acc.length < sizeLine ∧ Nx (upd H4 D (.lst (acc ++ [y]))) else Nx H3) := fun D nD =>
  lc_list (K := K) (a := a) (xs := xs) (fun i H => Same H1 H ∧ H D = some (.lst (ys.take i))) ⟨same_new nD, upd_same⟩ (fun i H _ ⟨sm, _⟩ => sm.seq hl) (fun i x H hx ⟨sm, hD⟩ => by
    have hi := (List.getElem?_eq_some_iff.mp hx).1
    have hy : ys[i]? = some ys[i] := List.getElem?_eq_getElem (by omega)
    refine hs i x ys[i] H hx hy sm _ _ (fun H' s => ?_)
    refine ⟨_, s _ _ hD, szlt ?_, fun b o hb => ?_, ?_⟩
    · rw [List.length_take]
      omega
    · rw [upd_ne (ne_of_none hb nD)]
      exact s _ _ (sm _ _ hb)
    · rw [upd_same, List.take_add_one, hy]
      rfl) fun H ⟨sm, hD⟩ => hd D H sm (by rw [hD, ← hlen, List.take_length]) nD
end TB
namespace TB
open PySem PySem.Spec PyProof.Rows L2
/-! ### enumerate(t), t a tuple -/
abbrev enumO (i : Nat) : Obj := { cls := .type "enumerate", data := .fields #[.none, .bool false, .ref i, rawInt 0, .none, .none] }
set_option maxHeartbeats 1000000 in
theorem enum_new {v : Value} {o : Obj} {G : Heap → Prop} (B : Begins v o G) : Meets (Builtin.«enumerate.__new__» ⟨[.type "enumerate", v], []⟩)
    (fun _ R z => G z.heap ∧ R (.ok (.ret (.ref (z.heap.push o).objs.size))) { z with heap := (z.heap.push o).push (enumO z.heap.objs.size) }) := .of_wp fun prog w A R z hz => by
  obtain ⟨hp, g, d, tk, os⟩ := z
  obtain ⟨h1, h⟩ := hz
  have hsub := sub_enumerate
  have it : ∀ {A' : Around} {E : Value → Shared → Prop} {Q : Value → Shared → Prop}, Q (.ref hp.objs.size) ⟨hp.push o, g, d, tk, os⟩ → wpAny (model prog w) A' (pyIter v) Q E ⟨hp, g, d, tk, os⟩ := fun q => B.iter prog w _ _ _ _ h1 q
  wp_walk using it
  refine wpAny_stack_any (fun st => wpAny_pure ?_)
  split
  · rename_i c _ _ _ _ _
    cases (c == Value.type "enumerate") <;> (wp_walk using it; exact ⟨_, rfl, h⟩)
  · wp_walk using it
    exact ⟨_, rfl, h⟩
theorem enum_call {prog : Program} {w : World} {A : Around} {E : Value → Shared → Prop} {s : Shared} {v : Value} {o : Obj} {G : Heap → Prop} {Q : Value → Shared → Prop} (B : Begins v o G) (h1 : G s.heap)
    (h : ∀ h', IsEnum h' (s.heap.objs.size + 1) s.heap.objs.size 0 .none → h'.get? s.heap.objs.size = some o → (∀ b u, s.heap.get? b = some u → h'.get? b = some u) → Q (.ref (s.heap.objs.size + 1)) { s with heap := h' }) :
    wpAny (model prog w) A (call (.type "enumerate") [v]) Q E s := by
  refine callType_new F.called_enumerate (by decide) (F.typeCall_enumerate_1 _) (F.newCall_enumerate_1 _) (fun obj => F.args_object_init_2 obj _) F.entry_enumerate_new (enum_new B) ⟨h1, ?_⟩
  have hz : (s.heap.push o).objs.size = s.heap.objs.size + 1 := Heap.size_push ..
  show _ ∧ _
  rw [hz]
  have he := Heap.get?_push_size (s.heap.push o) (o := enumO s.heap.objs.size) rfl
  rw [hz] at he
  exact ⟨⟨_, he, rfl⟩, h _ he (Heap.get?_push_of_some _ (Heap.get?_push_size _ B.free)) fun b u x => Heap.get?_push_of_some _ (Heap.get?_push_of_some _ x)⟩
/-- the tuple at a, of n items, each in a new pair -/
def IteT (K : PySem.W.Frag) (a : Addr) (n : Nat) : It :=
  ⟨fun i H => ∃ (xs : List V) (x : V), SqT K H a xs ∧ xs[i]? = some x ∧ xs.length = n,
    fun i H v H' => ∃ T x, v = .ref T ∧ H T = none ∧ H' = upd H T (.tup [.int (i : Nat), x]) ∧ ∀ xs, SqT K H a xs → xs[i]? = some x,
    fun i H => ∃ xs : List V, SqT K H a xs ∧ xs.length = n ∧ n ≤ i⟩
theorem enum_apart {h : Heap} {a e it : Addr} {i : Nat} {c : Int} {old : Value} {items : Array Value} (he : IsEnum h e it c old) (hi : h.IsTupleIter it a i) (p : IsTup h a items) : a ≠ it ∧ e ∉ [it, a] ∨ e = it := by
  obtain ⟨o1, g1, c1, _⟩ := hi
  obtain ⟨o2, g2, c2, _⟩ := p
  have n1 : a ≠ it := fun z => by
    rw [z, g1] at g2
    cases g2
    rw [c1] at c2
    exact absurd (Value.type.inj c2) (by decide)
  have n2 : e ≠ a := fun z => by
    have g3 : h.get? e = some _ := he
    rw [z, g2] at g3
    cases g3
    exact absurd (Value.type.inj c2) (by decide)
  by_cases q : e = it
  · exact .inr q
  · refine .inl ⟨n1, fun hm => ?_⟩
    rcases List.mem_cons.mp hm with z | hm
    · exact q z
    · exact n2 (List.mem_singleton.mp hm)
theorem turn_enumT {P : Program} {w : World} {K : PySem.W.Frag} {elts : List Expr} {kk : Nat} {tpos : Pos} (a e it : Addr) (n : Nat) :
    Turn P w K (.Tuple elts kk tpos) (IteT K a n) [e, it] e (fun i h => (∃ old, IsEnum h e it (i : Int) old) ∧ h.IsTupleIter it a i ∧ e ≠ it ∧ i ≤ n) where
  mem := List.mem_cons_self ..
  obj := fun i h st b hb => by
    obtain ⟨⟨old, he⟩, ⟨o, ho, hc, hd⟩, _⟩ := st
    rcases List.mem_cons.mp hb with z | hb
    · rw [z]
      exact ⟨_, he, fun v q => nomatch q⟩
    · rw [List.mem_singleton.mp hb]
      refine ⟨o, ho, fun v q => ?_⟩
      rw [hd] at q
      cases q
  keep := fun i h h' st k => let ⟨⟨old, he⟩, hi, hne, hn⟩ := st; ⟨⟨old, k e (by simp) _ he⟩, hi.at fun o q => k it (by simp) o q, hne, hn⟩
  item := by
    intro X hP hw hK hc i pins s σ H E I hf st hg
    subst hP hw hK
    obtain ⟨⟨old, he⟩, hit, hne, hn⟩ := st
    obtain ⟨xs, x, hq, hx, hl⟩ := hg
    obtain ⟨its, rv, p, hz⟩ := I.tuple hq
    obtain ⟨u, hu, ru⟩ := rv.get hx
    obtain ⟨nai, nef⟩ := (enum_apart he hit p).resolve_right hne
    have hel : e < s.heap.objs.size := Heap.lt_size he
    have hil : it < s.heap.objs.size := by
      obtain ⟨_, q, _⟩ := hit
      exact Heap.lt_size q
    have hin : i < n := by
      have := (List.getElem?_eq_some_iff.mp hx).1
      omega
    have len := rv.length
    refine wpAny_pyNext_enum_itemC (Draws.tuple (prog := X.prog) (w := X.w) (A := X.A.in1) (I.ok.hd hc) it a nai its.toArray) he ⟨hit, p⟩ (by simp; omega) hne nef fun x' h' tk hP ho hst hT hsz hk => ?_
    have ex : x' = u := by
      have h1 : its.toArray[i]? = some x' := hP
      rw [List.getElem?_toArray, hu] at h1
      exact (Option.some.inj h1).symm
    subst ex
    refine ⟨_, rfl, wpAny_letOwnedTupleGo_enum (s := { s with heap := h', toks := tk + 1 }) ho fun h'' he' sb => ?_⟩
    have hT2 := (sb.2 _ (Nat.ne_of_gt hel)).trans hT
    have new : ObjOk X.prog X.w (upd H s.heap.objs.size (.tup [.int (i : Nat), x])) h'' s.heap.objs.size (.tup [.int (i : Nat), x]) :=
      ⟨by show 2 ≤ sizeLine; decide, _, .cons ⟨tk, rfl⟩ (.cons ru .nil), ⟨_, hT2, rfl, _, rfl⟩⟩
    have I1 := I.turnedNew (t' := tk + 1) (ch := [e, it]) (fun b ob hb q => (sb.2 b (fun z => hb (by simp [z]))).trans (hk b ob (fun z => hb (by simp [z])) (fun z => hb (by simp [z])) q)) hf (Nat.le_refl _) new
    refine ⟨.ref s.heap.objs.size, _, I1, rfl, ⟨_, x, rfl, I.hok.fresh (Nat.le_refl _), rfl, fun ys hy => by rw [I.tuple_inj hy hq]; exact hx⟩, ⟨⟨x', ?_⟩, hst.1.at fun o q => (sb.2 it (Ne.symm hne)).trans q, hne, hin⟩, fun b hb => ?_⟩
    · have e1 : ((i + 1 : Nat) : Int) = (i : Int) + 1 := by omega
      rw [e1]
      exact he'
    · have hb' : b < s.heap.objs.size := by
        rcases List.mem_cons.mp hb with z | hb
        · rw [z]
          exact hel
        · rw [List.mem_singleton.mp hb]
          exact hil
      rw [upd_ne (Nat.ne_of_lt hb')]
      exact (hf b hb).1
  done := by
    intro X hP hw hK hc i pins s σ H E I hf st hg
    subst hP hw hK
    obtain ⟨⟨old, he⟩, hit, hne, hn⟩ := st
    obtain ⟨xs, hq, hl, hi⟩ := hg
    obtain ⟨its, rv, p, hz⟩ := I.tuple hq
    obtain ⟨nai, nef⟩ := (enum_apart he hit p).resolve_right hne
    obtain ⟨f0, f1, f2, f3, f4, f5⟩ := hf it (by simp)
    have len := rv.length
    have ei : i = its.toArray.size := by simp; omega
    rw [ei] at hit
    exact wpAny_pyNext_enum_endD (Draws.tuple (prog := X.prog) (w := X.w) (A := X.A.in1) (I.ok.hd hc) it a nai its.toArray) he ⟨hit, p⟩ fun h' eb => ⟨rfl, I.turned (t' := s.toks) (fun b o hb q => eb b o hb q) f0 f1 f3 f4 f5⟩
  self := fun A i s Q E st h => let ⟨⟨_, he⟩, _⟩ := st; wpAny_pyIter_enum he h
def iEnumT (K : PySem.W.Frag) (ta : TA) : TI := fun σ H R => ta σ H fun vs H1 => ∃ a xs, vs = [.ref a] ∧ SqT K H1 a xs ∧ R (IteT K a xs.length) H1
theorem pi_enumT {X : Cx} {e : Expr} {ta : TA} {p pos tpos : Pos} {elts : List Expr} {kk : Nat} (hg : Gl X "enumerate") (hm : X.mg "enumerate" = none) (ha : PA X [e] ta) (hs : starEach [e] X.env = [(false, eval e X.env)] := by rfl) :
    PI X (.Tuple elts kk tpos) (.Call (.Name "enumerate" p) [e] [] pos) (iEnumT X.K ta) := by
  refine ⟨fun pins s σ H R I h => Call_ (ld_blt I hg hm boot_enumerate (PyProof.Rows.callWith_type1 (thn (ha.run pos pins s σ H _ I h) fun us s1 ⟨vs, H1, I1, r1, q1⟩ => ?_) hs rfl))⟩
  obtain ⟨a, xs, ex, hq, q⟩ := q1
  subst ex
  obtain ⟨u1, e1, r⟩ := vals1 r1
  subst e1
  cases r
  obtain ⟨its, rv, p', hz⟩ := I1.tuple hq
  refine enum_call (begins_tuple a its.toArray) p' fun h' he hit hk => wpAny_pyIter_enum he ?_
  have I2 : Inv X pins σ H1 { s1 with heap := h' } := I1.kept (t' := s1.toks) hk
  refine ⟨s1.heap.objs.size + 1, [s1.heap.objs.size + 1, s1.heap.objs.size], _, _, H1, rfl, I2, turn_enumT a (s1.heap.objs.size + 1) s1.heap.objs.size xs.length, ⟨⟨.none, he⟩, ⟨_, hit, rfl, rfl⟩, Nat.succ_ne_self _, Nat.zero_le _⟩, fun b hb => ?_, q⟩
  have hle : s1.heap.objs.size ≤ b := by
    rcases List.mem_cons.mp hb with z | hb
    · rw [z]
      exact Nat.le_add_right _ _
    · rw [List.mem_singleton.mp hb]
      exact Nat.le_refl _
  exact I1.fpOk hle (I1.hok.fresh hle)
/-- for i, x in enumerate(t) -/
theorem for_enumT {K : PySem.W.Frag} {a : Addr} {xs : List V} {g : TG} {tb : TS} {D : Ends} {σ : L2.St} {H : Hp} (Pv : Nat → L2.St → Hp → Prop) (h0 : Pv 0 σ H) (hq : ∀ i σ H, Pv i σ H → SqT K H a xs)
    (hs : ∀ (i : Nat) (x : V) (T : Addr) (σ : L2.St) (H : Hp), xs[i]? = some x → Pv i σ H → H T = none → g (.ref T) σ (upd H T (.tup [.int (i : Int), x])) fun σ2 H2 => tb { D with nx := Pv (i + 1), ct := Pv (i + 1), bk := D.nx } σ2 H2) (hd : ∀ σ H, Pv xs.length σ H → D.nx σ H) :
    ∃ W : Nat → Nat → L2.St → Hp → Prop, (∃ m, W 0 m σ H) ∧ ∀ i m σ H, W i m σ H → ((IteT K a xs.length).stop i H ∧ D.nx σ H) ∨ ((IteT K a xs.length).go i H ∧ ∃ N : L2.St → Hp → Prop, (∀ σ' H', N σ' H' → ∃ m', m' < m ∧ W (i + 1) m' σ' H') ∧ ∀ v H', (IteT K a xs.length).yld i H v H' → g v σ H' fun σ2 H2 => tb { D with nx := N, ct := N, bk := D.nx } σ2 H2) := by
  refine ⟨fun i m σ H => m = xs.length - i ∧ i ≤ xs.length ∧ Pv i σ H, ⟨xs.length, rfl, Nat.zero_le _, h0⟩, ?_⟩
  rintro i m σ H ⟨rfl, hi, p⟩
  have qx := hq i σ H p
  by_cases hlt : i < xs.length
  · refine .inr ⟨⟨xs, xs[i], qx, List.getElem?_eq_getElem hlt, rfl⟩, Pv (i + 1), fun σ' H' p' => ⟨xs.length - (i + 1), by omega, rfl, hlt, p'⟩, fun v H' y => ?_⟩
    obtain ⟨T, x, rfl, nT, rfl, f⟩ := y
    exact hs i x T σ H (f xs qx) p nT
  · have e : i = xs.length := by omega
    subst e
    exact .inl ⟨⟨xs, qx, rfl, Nat.le_refl _⟩, hd σ H p⟩
/-- [.. for i, x in enumerate(t)], pure elements -/
theorem lc_enumTF {K : PySem.W.Frag} {a : Addr} {xs : List V} {g : TG} {tt : TT} {te : TE} {vs : List Nat} {σ : L2.St} {H1 : Hp} {Qd : Addr → Hp → Prop} (hl : SqT K H1 a xs) (f : Nat → V → Option V) (hn : xs.length ≤ 100000)
    (hs : ∀ (i : Nat) x T H, xs[i]? = some x → Same H1 H → H T = some (.tup [.int (i : Int), x]) → ∀ (R : V → Hp → Prop) (N : Hp → Prop), (∀ v H', f i x = some v → Same H H' → R v H') → (∀ H', f i x = none → Same H H' → N H') →
      g (.ref T) (wipe σ vs) H fun σ2 H2 => wipe σ2 vs = wipe σ vs ∧ tt σ2 H2 fun b H3 => if b = true then te σ2 H3 R else N H3)
    (hd : ∀ D H', Same H1 H' → H' D = some (.lst (xs.zipIdx.filterMap fun p => f p.2 p.1)) → H1 D = none → Qd D H') :
    ∀ D, H1 D = none → ∃ W : Nat → Nat → Hp → Prop, (∃ m, W 0 m (upd H1 D (.lst []))) ∧ ∀ i m H, W i m H →
      ((IteT K a xs.length).stop i H ∧ Qd D H) ∨ ((IteT K a xs.length).go i H ∧ ∃ Nx : Hp → Prop, (∀ H', Nx H' → ∃ m', m' < m ∧ W (i + 1) m' H') ∧ ∀ x H', (IteT K a xs.length).yld i H x H' → g x (wipe σ vs) H' fun σ2 H2 => wipe σ2 vs = wipe σ vs ∧ tt σ2 H2 fun b H3 =>
        if b = true then te σ2 H3 fun y H4 => ∃ acc, H4 D = some (.lst acc) ∧ acc.length < sizeLine ∧ Nx (upd H4 D (.lst (acc ++ [y]))) else Nx H3) := by
  intro D nD
  refine ⟨fun i m H => m = xs.length - i ∧ i ≤ xs.length ∧ Same H1 H ∧ H D = some (.lst ((xs.zipIdx.take i).filterMap fun p => f p.2 p.1)), ⟨xs.length, rfl, Nat.zero_le _, same_new nD, upd_same⟩, ?_⟩
  rintro i m H ⟨rfl, hi, sm, hD⟩
  have qx := sT sm hl
  by_cases hlt : i < xs.length
  · refine .inr ⟨⟨xs, xs[i], qx, List.getElem?_eq_getElem hlt, rfl⟩, fun H => i + 1 ≤ xs.length ∧ Same H1 H ∧ H D = some (.lst ((xs.zipIdx.take (i + 1)).filterMap fun p => f p.2 p.1)), fun H' p' => ⟨xs.length - (i + 1), by omega, rfl, p'.1, p'.2.1, p'.2.2⟩, fun v H' y => ?_⟩
    obtain ⟨T, x, rfl, nT, rfl, fx⟩ := y
    have hx := fx xs qx
    have hz : xs.zipIdx[i]? = some (x, i) := by
      rw [List.getElem?_zipIdx, hx]
      simp
    have sT' : Same H (upd H T (.tup [.int (i : Int), x])) := same_new nT
    refine hs i x T _ hx (sm.trans sT') upd_same _ _ (fun v H' e s => ?_) (fun H' e s => ?_)
    · refine ⟨_, s _ _ (sT' _ _ hD), szlt ?_, hlt, fun b o hb => ?_, ?_⟩
      · have := List.length_filterMap_le (fun p : V × Nat => f p.2 p.1) (xs.zipIdx.take i)
        rw [List.length_take, List.length_zipIdx] at this
        omega
      · rw [upd_ne (ne_of_none hb nD)]
        exact s _ _ (sT' _ _ (sm _ _ hb))
      · rw [upd_same, take_snoc _ hz]
        show some (HO.lst (_ ++ [v])) = some (HO.lst (_ ++ (f i x).toList))
        rw [e]
        rfl
    · refine ⟨hlt, sm.trans (sT'.trans s), ?_⟩
      rw [take_snoc _ hz]
      show H' D = some (HO.lst (_ ++ (f i x).toList))
      rw [e, s _ _ (sT' _ _ hD), Option.toList, List.append_nil]
  · have e : i = xs.length := by omega
    subst e
    refine .inl ⟨⟨xs, qx, rfl, Nat.le_refl _⟩, hd D H sm ?_ nD⟩
    rw [hD, ← List.length_zipIdx (l := xs), List.take_length]
end TB
namespace TB
open PySem PySem.Spec PyProof.Rows L2
/-! ### values of any kind: the kind of a value -/
def kinds : List String := ["NoneType", "bool", "int", "str", "list", "tuple", "dict"]
def Knd (K : PySem.W.Frag) (H : Hp) (v : V) (T : String) : Prop := TyX K H v (.type T) ∧ T ∈ kinds
def isK (T c : String) : Bool := T == c || (T == "bool" && c == "int")
theorem kitB_all : (kinds.all fun T => ["int", "bool", "str", "list", "tuple", "dict"].all fun c => kitB T c == some (isK T c)) = true := by decide +kernel
theorem kit_all {K : PySem.W.Frag} {T c : String} (h : T ∈ kinds) (hc : c ∈ ["int", "bool", "str", "list", "tuple", "dict"]) : PySem.W.kitOne K (.type T) (.type c) = some (isK T c) :=
  kit_ty (beq_iff_eq.mp (List.all_eq_true.mp (List.all_eq_true.mp kitB_all T h) c hc))
section
variable {K : PySem.W.Frag} {H H' : Hp} {a : Addr} {v : V} {T : String}
theorem Knd.n : Knd K H .non "NoneType" := ⟨.base .non, by decide⟩
theorem Knd.b (b : Bool) : Knd K H (.bl b) "bool" := ⟨.base (.bl b), by decide⟩
theorem Knd.i (i : Int) : Knd K H (.int i) "int" := ⟨.base (.int i), by decide⟩
theorem Knd.s (x : Str) : Knd K H (.str x) "str" := ⟨.base (.str x), by decide⟩
theorem Knd.l {xs : List V} (h : SqL K H a xs) : Knd K H (.ref a) "list" := by
  refine ⟨?_, by decide⟩
  rcases h with (h | ⟨o, h⟩) | ⟨o, its, n, h1, h2, _⟩
  · exact .base (.lst h)
  · exact .base (.frz h)
  · exact .kList h1 h2
theorem Knd.t {xs : List V} (h : SqT K H a xs) : Knd K H (.ref a) "tuple" := by
  refine ⟨?_, by decide⟩
  rcases h with (h | ⟨o, h⟩) | ⟨o, its, n, h1, h2, _⟩
  · exact .base (.tup h)
  · exact .fTuple h
  · exact .kTuple h1 h2
theorem Knd.d {kvs : List (Key × V)} (h : H a = some (.dK kvs)) : Knd K H (.ref a) "dict" := ⟨.base (.dK h), by decide⟩
/-- what is of the kind int is an int -/
def isIntV : V → Bool
  | .int _ => true
  | _ => false
theorem Knd.int_iff (h : Knd K H v T) : (T == "int") = isIntV v := by
  obtain ⟨h, m⟩ := h
  generalize e : Value.type T = t at h
  cases h with
  | base h =>
    cases h <;> first
      | (cases e; rfl)
      | (injection e with e; subst e; rfl)
      | exact nomatch e
  | byt b => injection e with e; subst e; rfl
  | set h => injection e with e; subst e; rfl
  | kList h1 h2 => injection e with e; subst e; rfl
  | kTuple h1 h2 => injection e with e; subst e; rfl
  | kDict h1 h2 => injection e with e; subst e; rfl
  | fTuple h => injection e with e; subst e; rfl
  | fDict h => injection e with e; subst e; rfl
theorem Knd.same (s : Same H H') (h : Knd K H v T) : Knd K H' v T := by
  obtain ⟨h, m⟩ := h
  refine ⟨?_, m⟩
  cases h with
  | base h =>
    refine .base ?_
    cases h with
    | non => exact .non
    | bl b => exact .bl b
    | int i => exact .int i
    | str x => exact .str x
    | flt x => exact .flt x
    | lst h => exact .lst (s _ _ h)
    | frz h => exact .frz (s _ _ h)
    | tup h => exact .tup (s _ _ h)
    | dK h => exact .dK (s _ _ h)
    | dT h => exact .dT (s _ _ h)
  | byt b => exact .byt b
  | set h => exact .set (s _ _ h)
  | kList h1 h2 => exact .kList h1 h2
  | kTuple h1 h2 => exact .kTuple h1 h2
  | kDict h1 h2 => exact .kDict h1 h2
  | fTuple h => exact .fTuple (s _ _ h)
  | fDict h => exact .fDict (s _ _ h)
end
/-- isinstance(v, c), c one of the built-in kinds -/
theorem call_isiK {X : Cx} : CallR X (.builtin "isinstance") (fun xs H Q => ∃ v T c, xs = [v, .ty c] ∧ Knd X.K H v T ∧ c ∈ ["int", "bool", "str", "list", "tuple", "dict"] ∧ Q (.bl (isK T c)) H) :=
  CallR_imp call_isi fun xs H Q ⟨v, T, c, e, k, hc, q⟩ => ⟨v, .ty c, .type T, .type c, isK T c, e, .ty c, k.1, kit_all k.2 hc, q⟩
/-- a whole number from lo to hi -/
def withinV (v : V) (lo hi : Int) : Bool := match v with
  | .int i => decide (lo ≤ i) && decide (i ≤ hi)
  | _ => false
theorem call_reprB {X : Cx} : CallR X (.builtin "repr") (fun xs H Q => ∃ b : Bool, xs = [.bl b] ∧ Q (.str (if b then "True" else "False")) H) := by
  intro pins s σ H xs us Q I r h
  obtain ⟨b, rfl, q⟩ := h
  obtain ⟨u, rfl, rx⟩ := vals1 r
  cases (show u = Value.bool b from rx)
  exact PySem.P.repr_of_bool ⟨.str (if b then "True" else "False"), H, I.tok _, ⟨_, rfl⟩, q⟩
/-! ### data that can be compared -/
structure OkD (n : Nat) (d : PyData) : Prop where
  c : d.canLay0 = true
  d : d.depth ≤ n
theorem OkD.int {n : Nat} (i : Int) : OkD n (.int i) := ⟨rfl, Nat.zero_le _⟩
theorem OkD.bool {n : Nat} (i : Bool) : OkD n (.bool i) := ⟨rfl, Nat.zero_le _⟩
theorem OkD.none {n : Nat} : OkD n .none := ⟨rfl, Nat.zero_le _⟩
theorem OkD.all {n : Nat} : ∀ {ds : List PyData}, (∀ x ∈ ds, OkD n x) → PyData.canLayAll0 ds = true ∧ PyData.depthAll ds ≤ n
  | [], _ => ⟨rfl, Nat.zero_le _⟩
  | x :: r, h => by
    have h1 := h x (List.mem_cons_self ..)
    obtain ⟨a, b⟩ := OkD.all (ds := r) fun y hy => h y (List.mem_cons_of_mem _ hy)
    refine ⟨?_, ?_⟩
    · show (PyData.canLay0 x && PyData.canLayAll0 r) = true
      rw [h1.c, a]
      rfl
    · show max (PyData.depth x) (PyData.depthAll r) ≤ n
      have := h1.d
      omega
theorem OkD.tup {n : Nat} {ds : List PyData} (h : ∀ x ∈ ds, OkD n x) : OkD (n + 1) (.tuple ds) := ⟨(OkD.all h).1, Nat.succ_le_succ (OkD.all h).2⟩
theorem OkD.list {n : Nat} {ds : List PyData} (h : ∀ x ∈ ds, OkD n x) : OkD (n + 1) (.list ds) := ⟨(OkD.all h).1, Nat.succ_le_succ (OkD.all h).2⟩
theorem OkD.sh {n : Nat} {d : PyData} (h : OkD n d) (hn : n ≤ 64 := by decide) : SeqAt.shaped d = true := by
  unfold SeqAt.shaped
  have := h.d
  rw [h.c, decide_eq_true (by omega)]
  rfl
theorem OkD.pair (x y : Int) : OkD 1 (.tuple [.int x, .int y]) := .tup fun z hz => by
  simp only [List.mem_cons, List.not_mem_nil, or_false] at hz
  rcases hz with rfl | rfl
  · exact .int _
  · exact .int _
/-! ### t * k for any k up to 1000 -/
theorem tuple_mul1 (l : Addr) (items : Array Value) (n : Nat) (dd : Option Addr) (sl : Array (Option Value)) (u : Tok) :
    Meets (Builtin.«tuple.__mul__» ⟨[.ref l, .int 1 u], []⟩) (fun _ R z => z.heap.get? l = some { cls := .type "tuple", dict := dd, data := .seq items n, slots := sl } ∧ R (.ok (.ret (.ref l))) z) :=
  .of_wp fun prog w A R z hz => by
    obtain ⟨hp, g, d, tk, os⟩ := z
    obtain ⟨hl, h⟩ := hz
    have f1 := AutoSeq1.idx_int
    wp_walk using wpAny_loadPart' hl
    exact ⟨_, rfl, h⟩
theorem tuple_mul0 (l : Addr) (items : Array Value) (n : Nat) (dd : Option Addr) (sl : Array (Option Value)) (u : Tok) (hi : items.isEmpty = false) :
    Meets (Builtin.«tuple.__mul__» ⟨[.ref l, .int 0 u], []⟩) (fun _ R z => z.heap.get? l = some { cls := .type "tuple", dict := dd, data := .seq items n, slots := sl } ∧
      R (.ok (.ret (.ref z.heap.objs.size))) { z with heap := z.heap.push { cls := .type "tuple", data := .seq #[] } }) :=
  .of_wp fun prog w A R z hz => by
    obtain ⟨hp, g, d, tk, os⟩ := z
    obtain ⟨hl, h⟩ := hz
    have f1 := AutoSeq1.idx_int
    wp_walk using wpAny_loadPart' hl
    exact ⟨_, rfl, h⟩
theorem op_repU {X : Cx} : OpR X (binaryOp .Mult) (fun x y H Q => ∃ l k xs, x = .ref l ∧ y = .int k ∧ SqT X.K H l xs ∧ xs ≠ [] ∧ 0 ≤ k ∧ k ≤ 1000 ∧ xs.length ≤ 1000 ∧ NewT X.K (List.replicate k.toNat xs).flatten H Q) := by
  intro pins s σ H x y v u Q I rx ry h
  obtain ⟨l, k, xs, e1, e2, hT, hne, h1, h2, hz, q⟩ := h
  by_cases hk : 2 ≤ k
  · exact op_repT pins s σ H x y v u Q I rx ry ⟨l, k, xs, e1, e2, hT, hne, hk, h2, hz, newT q⟩
  subst e1 e2
  cases rx
  obtain ⟨t, rfl⟩ := ry
  obtain ⟨its, r, ⟨⟨cls, dd, data, sl⟩, ho, hc, n, hd⟩, hs⟩ := I.tuple hT
  simp only at hc hd
  subst hc hd
  have hle : its.length = xs.length := r.length.symm
  have hi : its.toArray.isEmpty = false := by
    cases its with
    | nil => exact absurd (List.eq_nil_of_length_eq_zero hle.symm) hne
    | cons a b => rfl
  by_cases h0 : k = 0
  · subst h0
    refine wpAny_binaryOp_repeat_ref (T := "tuple") (U := "int") (by decide) ⟨_, ho, rfl⟩ (fun s' => typeIs_int s' 0 t) noFill_tuple_mul F.fills_int_mul F.slot_int_rmul repeat_tuple F.slot_int_index.lookup
      (call_meets F.slot_int_rmul (typeIs_int s 0 t) F.entry_int_rmul (F.args_int_rmul_2 _ _) (int_rmul_tuple 0 t l its.toArray n dd sl)
        ⟨ho, rfl, ⟨_, ho, rfl⟩, call_meets F.slot_tuple_mul ⟨_, ho, rfl⟩ F.entry_tuple_mul (F.args_tuple_mul_2 _ _) (tuple_mul0 l its.toArray n dd sl t hi) ⟨ho, ?_⟩⟩)
    have new : ObjOk X.prog X.w (upd H s.heap.objs.size (.tup [])) (s.heap.push { cls := .type "tuple", data := .seq #[] }) s.heap.objs.size (.tup []) := ⟨Nat.zero_le _, [], .nil, IsTup.new _ _⟩
    exact ⟨.ref s.heap.objs.size, _, I.laid (t' := s.toks) (o := .tup []) (fun b ob z => Heap.get?_push_of_some _ z) (Nat.le_refl _) new, rfl, q _ _ (same_new (I.hok.fresh (Nat.le_refl _))) (SqT.of upd_same)⟩
  · have e : k = 1 := by omega
    subst e
    refine wpAny_binaryOp_repeat_ref (T := "tuple") (U := "int") (by decide) ⟨_, ho, rfl⟩ (fun s' => typeIs_int s' 1 t) noFill_tuple_mul F.fills_int_mul F.slot_int_rmul repeat_tuple F.slot_int_index.lookup
      (call_meets F.slot_int_rmul (typeIs_int s 1 t) F.entry_int_rmul (F.args_int_rmul_2 _ _) (int_rmul_tuple 1 t l its.toArray n dd sl)
        ⟨ho, rfl, ⟨_, ho, rfl⟩, call_meets F.slot_tuple_mul ⟨_, ho, rfl⟩ F.entry_tuple_mul (F.args_tuple_mul_2 _ _) (tuple_mul1 l its.toArray n dd sl t) ⟨ho, ?_⟩⟩)
    have e1 : (List.replicate (1 : Int).toNat xs).flatten = xs := by
      show (List.replicate 1 xs).flatten = xs
      simp
    exact ⟨.ref l, H, I.tok _, rfl, q l H (Same.refl H) (by rw [e1]; exact hT)⟩
end TB
namespace TB
open PySem PySem.Spec PyProof.Rows L2
/-! ### a statement, then what it leads to told by one sentence (so that ways that part meet again) -/
def jS (t : TS) : TS := fun D σ H => ∃ Pn : L2.St → Hp → Prop, t { D with nx := Pn } σ H ∧ ∀ σ' H', Pn σ' H' → D.nx σ' H'
theorem ps_join {X : Cx} {st : Stmt} {t : TS} (h : PS X st t) : PS X st (jS t) := ⟨fun pins s σ H D I hw => by
  obtain ⟨Pn, h1, h2⟩ := hw
  refine thn (h.run pins s σ H _ I h1) fun f s' hf => ?_
  cases f with
  | next =>
    obtain ⟨σ', H', I', q⟩ := hf
    exact ⟨σ', H', I', h2 _ _ q⟩
  | ret v => exact hf
  | brk => exact hf
  | cont => exact hf⟩
/-! ### a module's constant that is a written tuple -/
structure ConT (K : PySem.W.Frag) (mg : Str → Option Value) (x : Str) (xs : List V) where
  a : Addr
  g : mg x = some (.ref a)
  t : ∀ H, SqT K H a xs
def conT {K : PySem.W.Frag} {h : Heap} {mg : Str → Option Value} {x : Str} {xs : List V} (X : K.In h) (G : h.Ns mainGlobals mg) {a : Addr} {od : Option Addr} {its : Array Value} {n : Nat} {sl : Array (Option Value)}
    (v : PySem.W.nsIn K mainGlobals x = some (some (.ref a))) (l : K.lookup a = some ⟨.type "tuple", od, .seq its n, sl⟩) (hz : its.size ≤ 1000) (r : Vals xs its.toList) : ConT K mg x xs :=
  ⟨a, PySem.W.mg_of X G v, fun H => .inr ⟨_, its, n, l, rfl, rfl, Nat.le_trans hz (by decide), r⟩⟩
/-! ### the same rules, the facts named apart: for use inside comprehensions -/
section
variable {X : Cx} {K : PySem.W.Frag}
theorem pe_tupAK (hK : X.K = K) {es : List Expr} {t : TA} {x1} {pos : Pos} (h : PA X es t) : PE X (.Tuple es x1 pos) (tTupA K t) := by
  subst hK
  exact pe_tupA h
theorem op_in_seqK (hK : X.K = K) : OpR X (compareOp .In) (rIn K false) := by
  subst hK
  exact op_in_seq
theorem op_notIn_seqK (hK : X.K = K) : OpR X (compareOp .NotIn) (rIn K true) := by
  subst hK
  exact op_notIn_seq
theorem sl_listAK (hK : X.K = K) : L2.SlR X (fun x lo hi H Q => ∃ a xs, x = .ref a ∧ SqL K H a xs ∧ NewL (cutV xs lo hi) H Q) := by
  subst hK
  exact sl_listA
theorem sl_tupleAK (hK : X.K = K) : L2.SlR X (fun x lo hi H Q => ∃ a xs, x = .ref a ∧ SqT K H a xs ∧ NewT K (cutV xs lo hi) H Q) := by
  subst hK
  exact sl_tupleA
theorem call_tupleAK (hK : X.K = K) : CallR X (.type "tuple") (fun xs H Q => ∃ p ys, xs = [.ref p] ∧ (SqL K H p ys ∨ SqT K H p ys) ∧ NewT K ys H Q) := by
  subst hK
  exact call_tupleA
theorem call_listAK (hK : X.K = K) : CallR X (.type "list") (fun xs H Q => ∃ p ys, xs = [.ref p] ∧ (SqL K H p ys ∨ SqT K H p ys) ∧ NewL ys H Q) := by
  subst hK
  exact call_listA
theorem call_len_seqK (hK : X.K = K) : CallR X (.builtin "len") (fun xs H Q => ∃ p ys, xs = [.ref p] ∧ (SqL K H p ys ∨ SqT K H p ys) ∧ Q (.int ys.length) H) := by
  subst hK
  exact call_len_seq
theorem call_isiKK (hK : X.K = K) : CallR X (.builtin "isinstance") (fun xs H Q => ∃ v T c, xs = [v, .ty c] ∧ Knd K H v T ∧ c ∈ ["int", "bool", "str", "list", "tuple", "dict"] ∧ Q (.bl (isK T c)) H) := by
  subst hK
  exact call_isiK
theorem op_catUK (hK : X.K = K) : OpR X (binaryOp .Add) (fun x y H Q => ∃ a b xs ys, x = .ref a ∧ y = .ref b ∧ SqT K H a xs ∧ SqT K H b ys ∧ xs.length + ys.length ≤ sizeLine ∧ NewT K (xs ++ ys) H Q) := by
  subst hK
  exact op_catU
theorem op_repUK (hK : X.K = K) : OpR X (binaryOp .Mult) (fun x y H Q => ∃ l k xs, x = .ref l ∧ y = .int k ∧ SqT K H l xs ∧ xs ≠ [] ∧ 0 ≤ k ∧ k ≤ 1000 ∧ xs.length ≤ 1000 ∧ NewT K (List.replicate k.toNat xs).flatten H Q) := by
  subst hK
  exact op_repU
end
end TB
namespace TB
open PySem PySem.Spec PyProof.Rows L2
/-! ### rows of pairs of ints, each its own tuple -/
def pairV (p : Int × Int) : List V := [.int p.1, .int p.2]
structure PairsL (K : PySem.W.Frag) (H : Hp) (rs : List V) (ps : List (Int × Int)) : Prop where
  len : rs.length = ps.length
  at' : ∀ (i : Nat) r p, rs[i]? = some r → ps[i]? = some p → ∃ a, r = .ref a ∧ SqT K H a (pairV p)
section
variable {K : PySem.W.Frag} {H H' : Hp} {rs : List V} {ps : List (Int × Int)}
theorem PairsL.nil : PairsL K H [] [] := ⟨rfl, fun i r p e _ => nomatch e⟩
theorem PairsL.get (h : PairsL K H rs ps) {i : Nat} {r : V} (e : rs[i]? = some r) : ∃ p a, ps[i]? = some p ∧ r = .ref a ∧ SqT K H a (pairV p) := by
  have hi := (List.getElem?_eq_some_iff.mp e).1
  rw [h.len] at hi
  obtain ⟨a, e1, e2⟩ := h.at' i r ps[i] e (List.getElem?_eq_getElem hi)
  exact ⟨_, a, List.getElem?_eq_getElem hi, e1, e2⟩
theorem PairsL.get' (h : PairsL K H rs ps) {i : Nat} {p : Int × Int} (e : ps[i]? = some p) : ∃ a, rs[i]? = some (.ref a) ∧ SqT K H a (pairV p) := by
  have hi := (List.getElem?_eq_some_iff.mp e).1
  rw [← h.len] at hi
  obtain ⟨a, e1, e2⟩ := h.at' i rs[i] p (List.getElem?_eq_getElem hi) e
  exact ⟨a, by rw [List.getElem?_eq_getElem hi, e1], e2⟩
theorem PairsL.map (f : ∀ a xs, SqT K H a xs → SqT K H' a xs) (h : PairsL K H rs ps) : PairsL K H' rs ps := ⟨h.len, fun i r p e1 e2 => let ⟨a, e, t⟩ := h.at' i r p e1 e2; ⟨a, e, f _ _ t⟩⟩
theorem PairsL.same (s : Same H H') (h : PairsL K H rs ps) : PairsL K H' rs ps := h.map fun _ _ t => sT s t
theorem PairsL.snoc {a : Addr} {p : Int × Int} (h : PairsL K H rs ps) (t : SqT K H a (pairV p)) : PairsL K H (rs ++ [.ref a]) (ps ++ [p]) := by
  refine ⟨by simp [h.len], fun i r q e1 e2 => ?_⟩
  by_cases hi : i < rs.length
  · rw [List.getElem?_append_left hi] at e1
    rw [List.getElem?_append_left (by rw [← h.len]; exact hi)] at e2
    exact h.at' i r q e1 e2
  · rw [List.getElem?_append_right (by omega)] at e1
    rw [List.getElem?_append_right (by rw [← h.len]; omega), ← h.len] at e2
    cases e : i - rs.length with
    | zero =>
      rw [e] at e1 e2
      cases e1
      cases e2
      exact ⟨a, rfl, t⟩
    | succ j =>
      rw [e] at e1
      cases e1
theorem PairsL.take (h : PairsL K H rs ps) (n : Nat) : PairsL K H (rs.take n) (ps.take n) := by
  refine ⟨by rw [List.length_take, List.length_take, h.len], fun i r p e1 e2 => ?_⟩
  rw [List.getElem?_take] at e1 e2
  split at e1
  · rename_i hi
    rw [if_pos hi] at e2
    exact h.at' i r p e1 e2
  · cases e1
theorem PairsL.drop (h : PairsL K H rs ps) (n : Nat) : PairsL K H (rs.drop n) (ps.drop n) := by
  refine ⟨by rw [List.length_drop, List.length_drop, h.len], fun i r p e1 e2 => ?_⟩
  rw [List.getElem?_drop] at e1 e2
  exact h.at' _ r p e1 e2
theorem PairsL.set (h : PairsL K H rs ps) {i : Nat} {a : Addr} {p : Int × Int} (t : SqT K H a (pairV p)) : PairsL K H (rs.set i (.ref a)) (ps.set i p) := by
  refine ⟨by rw [List.length_set, List.length_set, h.len], fun j r q e1 e2 => ?_⟩
  rw [List.getElem?_set] at e1 e2
  by_cases hj : i = j
  · rw [if_pos hj] at e1 e2
    split at e1
    · cases e1
      split at e2
      · cases e2
        exact ⟨a, rfl, t⟩
      · cases e2
    · cases e1
  · rw [if_neg hj] at e1 e2
    exact h.at' j r q e1 e2
end
def pairD (p : Int × Int) : PyData := .tuple [.int p.1, .int p.2]
theorem PairsL.dp {K : PySem.W.Frag} {H : Hp} : ∀ {rs : List V} {ps : List (Int × Int)}, PairsL K H rs ps → DpAll K H rs (ps.map pairD)
  | [], [], _ => .nil
  | [], _ :: _, h => by cases h.len
  | _ :: _, [], h => by cases h.len
  | r :: rs, p :: ps, h => by
    obtain ⟨a, rfl, t⟩ := h.at' 0 r p rfl rfl
    exact .cons (dp2 t) (PairsL.dp ⟨Nat.succ.inj h.len, fun i r p e1 e2 => h.at' (i + 1) r p e1 e2⟩)
theorem pairD_okT (ps : List (Int × Int)) : OkD 2 (.tuple (ps.map pairD)) := .tup fun d hd => by
  obtain ⟨p, _, rfl⟩ := List.mem_map.mp hd
  exact .pair _ _
theorem pairD_okL (ps : List (Int × Int)) : OkD 2 (.list (ps.map pairD)) := .list fun d hd => by
  obtain ⟨p, _, rfl⟩ := List.mem_map.mp hd
  exact .pair _ _
/-- left != []: is there any -/
theorem nilD {α : Type} (f : α → PyData) (ps : List α) : PyData.eqv (.list (ps.map f)) (.list []) = ps.isEmpty := by
  cases ps <;> rfl
theorem PairsL.eraseIdx {K : PySem.W.Frag} {H : Hp} {rs : List V} {ps : List (Int × Int)} (h : PairsL K H rs ps) (i : Nat) : PairsL K H (rs.eraseIdx i) (ps.eraseIdx i) := by
  have hl := h.len
  refine ⟨by rw [List.length_eraseIdx, List.length_eraseIdx, hl], fun j r p e1 e2 => ?_⟩
  rw [List.getElem?_eraseIdx] at e1 e2
  by_cases hj : j < i
  · rw [if_pos hj] at e1 e2
    exact h.at' j r p e1 e2
  · rw [if_neg hj] at e1 e2
    exact h.at' (j + 1) r p e1 e2
theorem take_succ_of {α : Type} {xs : List α} {i : Nat} {x : α} (h : xs[i]? = some x) : xs.take (i + 1) = xs.take i ++ [x] := by
  rw [List.take_add_one, h]
  rfl
theorem filterMap_some {α β : Type} (f : α → β) (xs : List α) : xs.filterMap (fun x => some (f x)) = xs.map f := by
  induction xs with
  | nil => rfl
  | cons x r ih => simp [ih]
/-- what comes of each place -/
theorem range_filterMap {α β : Type} (f : α → Option β) : ∀ xs : List α, (List.range xs.length).filterMap (fun i => xs[i]?.bind f) = xs.filterMap f := by
  intro xs
  suffices h : ∀ n, n ≤ xs.length → (List.range n).filterMap (fun i => xs[i]?.bind f) = (xs.take n).filterMap f by
    rw [h _ (Nat.le_refl _), List.take_length]
  intro n
  induction n with
  | zero => intro _; simp
  | succ n ih =>
    intro hn
    have e : xs[n]? = some xs[n] := List.getElem?_eq_getElem (by omega)
    rw [range_snoc, ih (by omega), take_succ_of e, List.filterMap_append, e]
    congr 1
/-- [.. for .. in a tuple if ..]: what comes of each place told -/
theorem lc_tupO {K : PySem.W.Frag} {a : Addr} {xs : List V} {g : TG} {tt : TT} {te : TE} {vs : List Nat} {σ : L2.St} {H1 : Hp} {Qd : Addr → Hp → Prop} (hl : SqT K H1 a xs) (f : Nat → Option V) (hn : xs.length ≤ 100000)
    (hs : ∀ (i : Nat) x H, xs[i]? = some x → Same H1 H → ∀ (R : V → Hp → Prop) (N : Hp → Prop), (∀ v H', f i = some v → Same H H' → R v H') → (∀ H', f i = none → Same H H' → N H') →
      g x (wipe σ vs) H fun σ2 H2 => wipe σ2 vs = wipe σ vs ∧ tt σ2 H2 fun b H3 => if b = true then te σ2 H3 R else N H3)
    (hd : ∀ D H', Same H1 H' → H' D = some (.lst ((List.range xs.length).filterMap f)) → H1 D = none → Qd D H') :
    ∀ D, H1 D = none → ∃ W : Nat → Nat → Hp → Prop, (∃ m, W 0 m (upd H1 D (.lst []))) ∧ ∀ i m H, W i m H →
      ((Itt K a).stop i H ∧ Qd D H) ∨ ((Itt K a).go i H ∧ ∃ Nx : Hp → Prop, (∀ H', Nx H' → ∃ m', m' < m ∧ W (i + 1) m' H') ∧ ∀ x H', (Itt K a).yld i H x H' → g x (wipe σ vs) H' fun σ2 H2 => wipe σ2 vs = wipe σ vs ∧ tt σ2 H2 fun b H3 =>
        if b = true then te σ2 H3 fun y H4 => ∃ acc, H4 D = some (.lst acc) ∧ acc.length < sizeLine ∧ Nx (upd H4 D (.lst (acc ++ [y]))) else Nx H3) := fun D nD =>
  lc_tup (K := K) (a := a) (xs := xs) (fun i H => Same H1 H ∧ i ≤ xs.length ∧ H D = some (.lst ((List.range i).filterMap f))) ⟨same_new nD, Nat.zero_le _, upd_same⟩ (fun i H _ ⟨sm, _⟩ => sT sm hl) (fun i x H hx ⟨sm, hi, hD⟩ => by
    have hi' := (List.getElem?_eq_some_iff.mp hx).1
    refine hs i x H hx sm _ _ (fun v H' e s => ?_) (fun H' e s => ?_)
    · refine ⟨_, s _ _ hD, szlt ?_, fun b o hb => ?_, hi', ?_⟩
      · have := List.length_filterMap_le f (List.range i)
        rw [List.length_range] at this
        omega
      · rw [upd_ne (ne_of_none hb nD)]
        exact s _ _ (sm _ _ hb)
      · rw [upd_same, range_snoc, e]
        rfl
    · refine ⟨sm.trans s, hi', ?_⟩
      rw [range_snoc, e, s _ _ hD, Option.toList, List.append_nil]) fun H ⟨sm, _, hD⟩ => hd D H sm hD nD
/-- [.. for .. in range(n)] of new things: what each is stands -/
theorem lc_rangeR {n : Nat} {g : TG} {tt : TT} {te : TE} {vs : List Nat} {σ : L2.St} {H1 : Hp} {Qd : Addr → Hp → Prop} (R : Nat → V → Hp → Prop) (st : ∀ i v H H', Same H H' → R i v H → R i v H')
    (sm : ∀ i v H D ys zs, H D = some (.lst ys) → R i v H → R i v (upd H D (.lst zs))) (hn : n ≤ 100000)
    (hs : ∀ i H, i < n → Same H1 H → ∀ (Rk : V → Hp → Prop) (N : Hp → Prop), (∀ v H', Same H H' → R i v H' → Rk v H') →
      g (.int (i : Int)) (wipe σ vs) H fun σ2 H2 => wipe σ2 vs = wipe σ vs ∧ tt σ2 H2 fun b H3 => if b = true then te σ2 H3 Rk else N H3)
    (hd : ∀ D H' xs, Same H1 H' → H' D = some (.lst xs) → xs.length = n → (∀ i v, xs[i]? = some v → R i v H') → H1 D = none → Qd D H') :
    ∀ D, H1 D = none → ∃ W : Nat → Nat → Hp → Prop, (∃ m, W 0 m (upd H1 D (.lst []))) ∧ ∀ i m H, W i m H →
      ((Itr 0 n).stop i H ∧ Qd D H) ∨ ((Itr 0 n).go i H ∧ ∃ Nx : Hp → Prop, (∀ H', Nx H' → ∃ m', m' < m ∧ W (i + 1) m' H') ∧ ∀ x H', (Itr 0 n).yld i H x H' → g x (wipe σ vs) H' fun σ2 H2 => wipe σ2 vs = wipe σ vs ∧ tt σ2 H2 fun b H3 =>
        if b = true then te σ2 H3 fun y H4 => ∃ acc, H4 D = some (.lst acc) ∧ acc.length < sizeLine ∧ Nx (upd H4 D (.lst (acc ++ [y]))) else Nx H3) := fun D nD =>
  lc_rangeN (n := n) (fun i H => Same H1 H ∧ ∃ xs, H D = some (.lst xs) ∧ xs.length = i ∧ ∀ j v, xs[j]? = some v → R j v H) ⟨same_new nD, [], upd_same, rfl, fun j v e => nomatch e⟩ (fun i H hi ⟨s1, xs, hD, hl, hR⟩ => by
    refine hs i H hi s1 _ _ (fun v H' s2 r => ?_)
    · refine ⟨xs, s2 _ _ hD, szlt (by omega), fun b o hb => ?_, xs ++ [v], upd_same, by simp [hl], fun j u e => ?_⟩
      · rw [upd_ne (ne_of_none hb nD)]
        exact s2 _ _ (s1 _ _ hb)
      · by_cases hj : j < xs.length
        · rw [List.getElem?_append_left hj] at e
          exact sm _ _ _ _ _ _ (s2 _ _ hD) (st _ _ _ _ s2 (hR j u e))
        · rw [List.getElem?_append_right (by omega)] at e
          have hj' : j = i := by
            have := (List.getElem?_eq_some_iff.mp e).1
            simp at this
            omega
          subst hj'
          rw [show j - xs.length = 0 by omega] at e
          cases e
          exact sm _ _ _ _ _ _ (s2 _ _ hD) r) fun H ⟨s1, xs, hD, hl, hR⟩ => hd D H xs s1 hD hl hR nD
end TB
namespace TB
open PySem PySem.Spec PyProof.Rows L2
/-! ### only what stands in lists may have changed -/
structure LMut (H H' : Hp) : Prop where
  k : ∀ b o, H b = some o → (∀ xs, o ≠ .lst xs) → H' b = some o
  l : ∀ b xs, H b = some (.lst xs) → ∃ ys, H' b = some (.lst ys)
theorem LMut.refl (H : Hp) : LMut H H := ⟨fun _ _ e _ => e, fun _ xs e => ⟨xs, e⟩⟩
theorem LMut.trans {H H1 H2 : Hp} (a : LMut H H1) (b : LMut H1 H2) : LMut H H2 := ⟨fun c o e n => b.k c o (a.k c o e n) n, fun c xs e => let ⟨ys, e'⟩ := a.l c xs e; b.l c ys e'⟩
theorem LMut.of {H H' : Hp} (s : Same H H') : LMut H H' := ⟨fun b o e _ => s b o e, fun b xs e => ⟨xs, s _ _ e⟩⟩
theorem Ext.lm {d : Addr} {H H' : Hp} (x : Ext d H H') (hd : Dice H d) : LMut H H' := by
  obtain ⟨a1, a2, a3, e⟩ := hd
  obtain ⟨b1, b2, b3, e'⟩ := x.d
  refine ⟨fun b o eb n => x.s b o (fun z => ?_) eb, fun b xs eb => ?_⟩
  · rw [z, e] at eb
    cases eb
    exact n _ rfl
  · by_cases hb : b = d
    · rw [hb]
      exact ⟨_, e'⟩
    · exact ⟨xs, x.s b _ hb eb⟩
theorem LMut.mut {H : Hp} {l : Addr} {ys : List V} (zs : List V) (h : H l = some (.lst ys)) : LMut H (upd H l (.lst zs)) := by
  refine ⟨fun b o eb n => ?_, fun b xs eb => ?_⟩
  · have nb : b ≠ l := fun z => by
      rw [z, h] at eb
      cases eb
      exact n _ rfl
    rw [upd_ne nb]
    exact eb
  · by_cases hb : b = l
    · rw [hb]
      exact ⟨zs, upd_same⟩
    · exact ⟨xs, by rw [upd_ne hb]; exact eb⟩
section
variable {K : PySem.W.Frag} {H H' : Hp} {a : Addr} {xs : List V} {v : V} {T : String}
theorem LMut.seqT (m : LMut H H') (h : SqT K H a xs) : SqT K H' a xs := by
  rcases h with (h | ⟨o, h⟩) | h
  · exact .inl (.inl (m.k _ _ h fun ys z => by cases z))
  · exact .inl (.inr ⟨o, m.k _ _ h fun ys z => by cases z⟩)
  · exact .inr h
theorem LMut.pairs {rs : List V} {ps : List (Int × Int)} (m : LMut H H') (h : PairsL K H rs ps) : PairsL K H' rs ps := h.map fun a xs t => m.seqT t
theorem LMut.knd (m : LMut H H') (h : Knd K H v T) : Knd K H' v T := by
  obtain ⟨h, hm⟩ := h
  refine ⟨?_, hm⟩
  cases h with
  | base h =>
    cases h with
    | non => exact .base .non
    | bl b => exact .base (.bl b)
    | int i => exact .base (.int i)
    | str x => exact .base (.str x)
    | flt x => exact .base (.flt x)
    | lst h =>
      obtain ⟨ys, e⟩ := m.l _ _ h
      exact .base (.lst e)
    | frz h => exact .base (.frz (m.k _ _ h fun ys z => by cases z))
    | tup h => exact .base (.tup (m.k _ _ h fun ys z => by cases z))
    | dK h => exact .base (.dK (m.k _ _ h fun ys z => by cases z))
    | dT h => exact .base (.dT (m.k _ _ h fun ys z => by cases z))
  | byt b => exact .byt b
  | set h => exact .set (m.k _ _ h fun ys z => by cases z)
  | kList h1 h2 => exact .kList h1 h2
  | kTuple h1 h2 => exact .kTuple h1 h2
  | kDict h1 h2 => exact .kDict h1 h2
  | fTuple h => exact .fTuple (m.k _ _ h fun ys z => by cases z)
  | fDict h => exact .fDict (m.k _ _ h fun ys z => by cases z)
end
/-- [.. for .. in a tuple] of new things: what each is stands -/
theorem lc_tupR {K : PySem.W.Frag} {a : Addr} {xs : List V} {g : TG} {tt : TT} {te : TE} {vs : List Nat} {σ : L2.St} {H1 : Hp} {Qd : Addr → Hp → Prop} (hl : SqT K H1 a xs) (R : Nat → V → Hp → Prop) (st : ∀ i v H H', LMut H H' → R i v H → R i v H') (hn : xs.length ≤ 100000)
    (hs : ∀ (i : Nat) x H, xs[i]? = some x → Same H1 H → ∀ (Rk : V → Hp → Prop) (N : Hp → Prop), (∀ v H', Same H H' → R i v H' → Rk v H') →
      g x (wipe σ vs) H fun σ2 H2 => wipe σ2 vs = wipe σ vs ∧ tt σ2 H2 fun b H3 => if b = true then te σ2 H3 Rk else N H3)
    (hd : ∀ D H' ys, Same H1 H' → H' D = some (.lst ys) → ys.length = xs.length → (∀ i v, ys[i]? = some v → R i v H') → H1 D = none → Qd D H') :
    ∀ D, H1 D = none → ∃ W : Nat → Nat → Hp → Prop, (∃ m, W 0 m (upd H1 D (.lst []))) ∧ ∀ i m H, W i m H →
      ((Itt K a).stop i H ∧ Qd D H) ∨ ((Itt K a).go i H ∧ ∃ Nx : Hp → Prop, (∀ H', Nx H' → ∃ m', m' < m ∧ W (i + 1) m' H') ∧ ∀ x H', (Itt K a).yld i H x H' → g x (wipe σ vs) H' fun σ2 H2 => wipe σ2 vs = wipe σ vs ∧ tt σ2 H2 fun b H3 =>
        if b = true then te σ2 H3 fun y H4 => ∃ acc, H4 D = some (.lst acc) ∧ acc.length < sizeLine ∧ Nx (upd H4 D (.lst (acc ++ [y]))) else Nx H3) := fun D nD =>
  lc_tup (K := K) (a := a) (xs := xs) (fun i H => Same H1 H ∧ ∃ ys, H D = some (.lst ys) ∧ ys.length = i ∧ ∀ j v, ys[j]? = some v → R j v H) ⟨same_new nD, [], upd_same, rfl, fun j v e => nomatch e⟩ (fun i H _ ⟨sm, _⟩ => sT sm hl) (fun i x H hx ⟨s1, ys, hD, hl, hR⟩ => by
    have hi := (List.getElem?_eq_some_iff.mp hx).1
    refine hs i x H hx s1 _ _ (fun v H' s2 r => ?_)
    refine ⟨ys, s2 _ _ hD, szlt (by omega), fun b o hb => ?_, ys ++ [v], upd_same, by simp [hl], fun j u e => ?_⟩
    · rw [upd_ne (ne_of_none hb nD)]
      exact s2 _ _ (s1 _ _ hb)
    · have lm := LMut.mut (ys ++ [v]) (s2 _ _ hD)
      by_cases hj : j < ys.length
      · rw [List.getElem?_append_left hj] at e
        exact st _ _ _ _ ((LMut.of s2).trans lm) (hR j u e)
      · rw [List.getElem?_append_right (by omega)] at e
        have hj' : j = i := by
          have := (List.getElem?_eq_some_iff.mp e).1
          simp at this
          omega
        subst hj'
        rw [show j - ys.length = 0 by omega] at e
        cases e
        exact st _ _ _ _ lm r) fun H ⟨s1, ys, hD, hl, hR⟩ => hd D H ys s1 hD hl hR nD
end TB
namespace PL
open PySem PySem.Spec PyProof.Rows L2 TB
/-! ### data without a heap -/
inductive D where
  | non | bl (b : Bool) | int (i : Int) | str (x : Str) | opq (v : V)
  | tup (ds : List D) | ktup (ds : List D) | lst (ds : List D) | arr (ds : List D) | dct (kvs : List (Key × D)) | dcu (kvs : List (List Key × D))
mutual
inductive Rep (K : PySem.W.Frag) (H : Hp) : V → D → Prop
  | non : Rep K H .non .non
  | bl (b : Bool) : Rep K H (.bl b) (.bl b)
  | int (i : Int) : Rep K H (.int i) (.int i)
  | str (x : Str) : Rep K H (.str x) (.str x)
  | opq (v : V) : Rep K H v (.opq v)
  | tup {a : Addr} {xs : List V} {ds : List D} : H a = some (.tup xs) → RepAll K H xs ds → Rep K H (.ref a) (.tup ds)
  | ktup {a : Addr} {xs : List V} {ds : List D} : (∀ H', SqT K H' a xs) → RepAll K H xs ds → Rep K H (.ref a) (.ktup ds)
  | lst {a : Addr} {xs : List V} {ds : List D} : H a = some (.lst xs) → RepAll K H xs ds → Rep K H (.ref a) (.lst ds)
  | arr {a : Addr} {xs : List V} {ds : List D} : SqL K H a xs → RepAll K H xs ds → Rep K H (.ref a) (.arr ds)
  | dct {a : Addr} {kvs : List (Key × V)} {es : List (Key × D)} : Rd H a (.dK kvs) → RepKV K H kvs es → Rep K H (.ref a) (.dct es)
  | dcu {a : Addr} {kvs : List (List Key × V)} {es : List (List Key × D)} : Rd H a (.dT kvs) → RepKT K H kvs es → Rep K H (.ref a) (.dcu es)
inductive RepAll (K : PySem.W.Frag) (H : Hp) : List V → List D → Prop
  | nil : RepAll K H [] []
  | cons {v : V} {vs : List V} {d : D} {ds : List D} : Rep K H v d → RepAll K H vs ds → RepAll K H (v :: vs) (d :: ds)
inductive RepKV (K : PySem.W.Frag) (H : Hp) : List (Key × V) → List (Key × D) → Prop
  | nil : RepKV K H [] []
  | cons {k : Key} {v : V} {vs : List (Key × V)} {d : D} {ds : List (Key × D)} : Rep K H v d → RepKV K H vs ds → RepKV K H ((k, v) :: vs) ((k, d) :: ds)
inductive RepKT (K : PySem.W.Frag) (H : Hp) : List (List Key × V) → List (List Key × D) → Prop
  | nil : RepKT K H [] []
  | cons {k : List Key} {v : V} {vs : List (List Key × V)} {d : D} {ds : List (List Key × D)} : Rep K H v d → RepKT K H vs ds → RepKT K H ((k, v) :: vs) ((k, d) :: ds)
end
/-- the same data may be read -/
structure RdS (H H' : Hp) : Prop where
  t : ∀ a xs, H a = some (.tup xs) → H' a = some (.tup xs)
  l : ∀ a xs, Rd H a (.lst xs) → Rd H' a (.lst xs)
  l' : ∀ a xs, H a = some (.lst xs) → H' a = some (.lst xs)
  k : ∀ a kvs, Rd H a (.dK kvs) → Rd H' a (.dK kvs)
  u : ∀ a kvs, Rd H a (.dT kvs) → Rd H' a (.dT kvs)
theorem Rd.same {H H' : Hp} (s : Same H H') {a : Addr} {u : HO} : Rd H a u → Rd H' a u
  | .inl h => .inl (s _ _ h)
  | .inr ⟨o, h⟩ => .inr ⟨o, s _ _ h⟩
theorem RdS.of {H H' : Hp} (s : Same H H') : RdS H H' := ⟨fun _ _ e => s _ _ e, fun _ _ => Rd.same s, fun _ _ e => s _ _ e, fun _ _ => Rd.same s, fun _ _ => Rd.same s⟩
mutual
theorem Rep.rd {K : PySem.W.Frag} {H H' : Hp} (s : RdS H H') : ∀ (d : D) (v : V), Rep K H v d → Rep K H' v d
  | .non, _, h => by cases h; exact .non
  | .bl b, _, h => by cases h; exact .bl b
  | .int i, _, h => by cases h; exact .int i
  | .str x, _, h => by cases h; exact .str x
  | .opq v, _, h => by cases h; exact .opq v
  | .tup ds, _, h => by
    cases h with
    | tup h1 h2 => exact .tup (s.t _ _ h1) (RepAll.rd s ds _ h2)
  | .ktup ds, _, h => by
    cases h with
    | ktup h1 h2 => exact .ktup h1 (RepAll.rd s ds _ h2)
  | .lst ds, _, h => by
    cases h with
    | lst h1 h2 => exact .lst (s.l' _ _ h1) (RepAll.rd s ds _ h2)
  | .arr ds, _, h => by
    cases h with
    | arr h1 h2 => exact .arr (h1.elim (fun z => .inl (s.l _ _ z)) .inr) (RepAll.rd s ds _ h2)
  | .dct es, _, h => by
    cases h with
    | dct h1 h2 => exact .dct (s.k _ _ h1) (RepKV.rd s es _ h2)
  | .dcu es, _, h => by
    cases h with
    | dcu h1 h2 => exact .dcu (s.u _ _ h1) (RepKT.rd s es _ h2)
theorem RepAll.rd {K : PySem.W.Frag} {H H' : Hp} (s : RdS H H') : ∀ (ds : List D) (vs : List V), RepAll K H vs ds → RepAll K H' vs ds
  | [], _, h => by cases h; exact .nil
  | d :: ds, _, h => by
    cases h with
    | cons h1 h2 => exact .cons (Rep.rd s d _ h1) (RepAll.rd s ds _ h2)
theorem RepKV.rd {K : PySem.W.Frag} {H H' : Hp} (s : RdS H H') : ∀ (es : List (Key × D)) (kvs : List (Key × V)), RepKV K H kvs es → RepKV K H' kvs es
  | [], _, h => by cases h; exact .nil
  | (k, d) :: ds, _, h => by
    cases h with
    | cons h1 h2 => exact .cons (Rep.rd s d _ h1) (RepKV.rd s ds _ h2)
theorem RepKT.rd {K : PySem.W.Frag} {H H' : Hp} (s : RdS H H') : ∀ (es : List (List Key × D)) (kvs : List (List Key × V)), RepKT K H kvs es → RepKT K H' kvs es
  | [], _, h => by cases h; exact .nil
  | (k, d) :: ds, _, h => by
    cases h with
    | cons h1 h2 => exact .cons (Rep.rd s d _ h1) (RepKT.rd s ds _ h2)
end
theorem Rep.mono {K : PySem.W.Frag} {H H' : Hp} (s : Same H H') (d : D) (v : V) (h : Rep K H v d) : Rep K H' v d := Rep.rd (.of s) d v h
theorem RepAll.mono {K : PySem.W.Frag} {H H' : Hp} (s : Same H H') (ds : List D) (vs : List V) (h : RepAll K H vs ds) : RepAll K H' vs ds := RepAll.rd (.of s) ds vs h
theorem RepKV.mono {K : PySem.W.Frag} {H H' : Hp} (s : Same H H') (es : List (Key × D)) (kvs : List (Key × V)) (h : RepKV K H kvs es) : RepKV K H' kvs es := RepKV.rd (.of s) es kvs h
theorem RepKT.mono {K : PySem.W.Frag} {H H' : Hp} (s : Same H H') (es : List (List Key × D)) (kvs : List (List Key × V)) (h : RepKT K H kvs es) : RepKT K H' kvs es := RepKT.rd (.of s) es kvs h
section
variable {K : PySem.W.Frag} {H : Hp}
theorem RepAll.len : ∀ {vs : List V} {ds : List D}, RepAll K H vs ds → vs.length = ds.length
  | _, _, .nil => rfl
  | _, _, .cons _ h => congrArg Nat.succ h.len
theorem RepAll.get : ∀ {vs : List V} {ds : List D} {i : Nat} {d : D}, RepAll K H vs ds → ds[i]? = some d → ∃ v, vs[i]? = some v ∧ Rep K H v d
  | _, _, 0, _, .cons h _, e => by cases e; exact ⟨_, rfl, h⟩
  | _, _, i + 1, _, .cons _ h, e => RepAll.get (i := i) h e
theorem RepAll.get' : ∀ {vs : List V} {ds : List D} {i : Nat} {v : V}, RepAll K H vs ds → vs[i]? = some v → ∃ d, ds[i]? = some d ∧ Rep K H v d
  | _, _, 0, _, .cons h _, e => by cases e; exact ⟨_, rfl, h⟩
  | _, _, i + 1, _, .cons _ h, e => RepAll.get' (i := i) h e
theorem RepAll.append : ∀ {vs ws : List V} {ds es : List D}, RepAll K H vs ds → RepAll K H ws es → RepAll K H (vs ++ ws) (ds ++ es)
  | _, _, _, _, .nil, h => h
  | _, _, _, _, .cons h1 h2, h => .cons h1 (h2.append h)
theorem RepAll.take : ∀ {vs : List V} {ds : List D} (n : Nat), RepAll K H vs ds → RepAll K H (vs.take n) (ds.take n)
  | _, _, 0, _ => .nil
  | _, _, _ + 1, .nil => .nil
  | _, _, n + 1, .cons h t => .cons h (t.take n)
theorem RepAll.drop : ∀ {vs : List V} {ds : List D} (n : Nat), RepAll K H vs ds → RepAll K H (vs.drop n) (ds.drop n)
  | _, _, 0, h => h
  | _, _, _ + 1, .nil => .nil
  | _, _, n + 1, .cons _ t => RepAll.drop n t
theorem RepAll.one {v : V} {d : D} (h : Rep K H v d) : RepAll K H [v] [d] := .cons h .nil
theorem RepAll.reverse {vs : List V} {ds : List D} (h : RepAll K H vs ds) : RepAll K H vs.reverse ds.reverse := by
  induction h using RepAll.rec (motive_1 := fun _ _ _ => True) (motive_3 := fun _ _ _ => True) (motive_4 := fun _ _ _ => True) with
  | nil => exact .nil
  | cons h1 _ _ ih => rw [List.reverse_cons, List.reverse_cons]; exact ih.append (.one h1)
  | _ => trivial
theorem RepAll.set : ∀ {vs : List V} {ds : List D} {v : V} {d : D} (i : Nat), RepAll K H vs ds → Rep K H v d → RepAll K H (vs.set i v) (ds.set i d)
  | _, _, _, _, _, .nil, _ => .nil
  | _, _, _, _, 0, .cons _ t, h => .cons h t
  | _, _, _, _, i + 1, .cons h0 t, h => .cons h0 (t.set i h)
theorem RepAll.eraseIdx : ∀ {vs : List V} {ds : List D} (i : Nat), RepAll K H vs ds → RepAll K H (vs.eraseIdx i) (ds.eraseIdx i)
  | _, _, _, .nil => .nil
  | _, _, 0, .cons _ t => t
  | _, _, i + 1, .cons h t => .cons h (t.eraseIdx i)
theorem RepAll.rep {v : V} {d : D} (h : Rep K H v d) : ∀ n, RepAll K H (List.replicate n v) (List.replicate n d)
  | 0 => .nil
  | n + 1 => .cons h (RepAll.rep h n)
end
/-! ### what a frame's slots hold: data, or an object of the frame's own that it changes -/
inductive M where
  | lst (ds : List D) | dct (kvs : List (Key × D)) | dcu (kvs : List (List Key × D)) | dice
inductive Cell where
  | no | val (d : D) | own (m : M) | io (a : Addr) (m : M) | lck (a : Addr) (m : M)
def MAt (K : PySem.W.Frag) (Hb H : Hp) (a : Addr) : M → Prop
  | .lst ds => ∃ vs, H a = some (.lst vs) ∧ RepAll K Hb vs ds
  | .dct es => ∃ kvs, H a = some (.dK kvs) ∧ RepKV K Hb kvs es
  | .dcu es => ∃ kvs, H a = some (.dT kvs) ∧ RepKT K Hb kvs es
  | .dice => Dice H a
theorem MAt.ne {K : PySem.W.Frag} {Hb H : Hp} {a : Addr} : ∀ {m : M}, MAt K Hb H a m → H a ≠ none
  | .lst _, ⟨_, e, _⟩ => by rw [e]; exact fun z => nomatch z
  | .dct _, ⟨_, e, _⟩ => by rw [e]; exact fun z => nomatch z
  | .dcu _, ⟨_, e, _⟩ => by rw [e]; exact fun z => nomatch z
  | .dice, ⟨_, _, _, e⟩ => by rw [e]; exact fun z => nomatch z
theorem MAt.noTup {K : PySem.W.Frag} {Hb H : Hp} {a : Addr} {xs : List V} : ∀ {m : M}, MAt K Hb H a m → Rd H a (.tup xs) → False
  | .lst _, ⟨_, e, _⟩, r => by rcases r with r | ⟨o, r⟩ <;> (rw [e] at r; cases r)
  | .dct _, ⟨_, e, _⟩, r => by rcases r with r | ⟨o, r⟩ <;> (rw [e] at r; cases r)
  | .dcu _, ⟨_, e, _⟩, r => by rcases r with r | ⟨o, r⟩ <;> (rw [e] at r; cases r)
  | .dice, ⟨_, _, _, e⟩, r => by rcases r with r | ⟨o, r⟩ <;> (rw [e] at r; cases r)
theorem MAt.mono {K : PySem.W.Frag} {Hb Hb' H H' : Hp} {a : Addr} (b : Same Hb Hb') (e : ∀ o, H a = some o → H' a = some o) : ∀ {m : M}, MAt K Hb H a m → MAt K Hb' H' a m
  | .lst _, ⟨_, e1, r⟩ => ⟨_, e _ e1, RepAll.mono b _ _ r⟩
  | .dct _, ⟨_, e1, r⟩ => ⟨_, e _ e1, RepKV.mono b _ _ r⟩
  | .dcu _, ⟨_, e1, r⟩ => ⟨_, e _ e1, RepKT.mono b _ _ r⟩
  | .dice, ⟨_, _, _, e1⟩ => ⟨_, _, _, e _ e1⟩
/-- where a frame stands: what must stay (fr), what may become data (al) -/
structure Fx where
  K : PySem.W.Frag
  fr : Hp
  al : Addr → Prop
/-- a dict's object is told by the frame alone (it is locked) -/
def DictIs (K : PySem.W.Frag) (Hb : Hp) (u : HO) : M → Prop
  | .dct es => ∃ kvs, u = .dK kvs ∧ RepKV K Hb kvs es
  | .dcu es => ∃ kvs, u = .dT kvs ∧ RepKT K Hb kvs es
  | _ => False
theorem DictIs.mono {K : PySem.W.Frag} {Hb Hb' : Hp} {u : HO} (b : Same Hb Hb') : ∀ {m : M}, DictIs K Hb u m → DictIs K Hb' u m
  | .dct _, ⟨kvs, e, r⟩ => ⟨kvs, e, RepKV.mono b _ _ r⟩
  | .dcu _, ⟨kvs, e, r⟩ => ⟨kvs, e, RepKT.mono b _ _ r⟩
  | .lst _, h => h.elim
  | .dice, h => h.elim
def CellAt (F : Fx) (H Hb : Hp) (v : Option V) : Cell → Prop
  | .no => True
  | .val d => ∃ x, v = some x ∧ Rep F.K Hb x d
  | .own m => ∃ a, v = some (.ref a) ∧ MAt F.K Hb H a m ∧ Hb a = none ∧ F.fr a = none ∧ F.al a
  | .io a m => v = some (.ref a) ∧ MAt F.K Hb H a m ∧ Hb a = none ∧ F.fr a = none
  | .lck a m => v = some (.ref a) ∧ ∃ o u, F.fr a = some (.frz o u) ∧ DictIs F.K Hb u m
def Cell.mine : Cell → Bool
  | .own _ => true
  | .io _ _ => true
  | _ => false
structure R (F : Fx) (σ : L2.St) (H Hb : Hp) (ρ : List Cell) : Prop where
  sub : Same Hb H
  fr : Same F.fr H
  al : ∀ b, Hb b ≠ none → F.al b ∨ ∃ xs, Rd H b (.tup xs)
  nw : ∀ b, H b = none → F.al b
  len : σ.length = ρ.length
  cell : ∀ (i : Nat) c v, ρ[i]? = some c → σ[i]? = some v → CellAt F H Hb v c
  dis : ∀ (i j : Nat) c d a, i ≠ j → ρ[i]? = some c → ρ[j]? = some d → c.mine = true → d.mine = true → σ[i]? = some (some (.ref a)) → σ[j]? ≠ some (some (.ref a))
/-- more data, nothing else -/
structure Gr (H Hb H' Hb' : Hp) : Prop where
  s : Same H H'
  b : Same Hb Hb'
  sub : Same Hb' H'
  nw : ∀ a, Hb' a ≠ none → Hb a ≠ none ∨ H a = none ∨ ∃ xs, Rd H' a (.tup xs)
theorem Gr.refl {H Hb : Hp} (h : Same Hb H) : Gr H Hb H Hb := ⟨Same.refl _, Same.refl _, h, fun _ e => .inl e⟩
theorem Gr.trans {H Hb H1 Hb1 H2 Hb2 : Hp} (g : Gr H Hb H1 Hb1) (k : Gr H1 Hb1 H2 Hb2) : Gr H Hb H2 Hb2 := ⟨g.s.trans k.s, g.b.trans k.b, k.sub, fun a e => by
  rcases k.nw a e with e | e | e
  · rcases g.nw a e with e | e | ⟨xs, e⟩
    · exact .inl e
    · exact .inr (.inl e)
    · exact .inr (.inr ⟨xs, Rd.same k.s e⟩)
  · right
    left
    cases q : H a with
    | none => rfl
    | some o => rw [g.s _ _ q] at e; cases e
  · exact .inr (.inr e)⟩
/-- a new object that is data -/
theorem Gr.new {H Hb : Hp} {p : Addr} {o : HO} (h : Same Hb H) (n : H p = none) : Gr H Hb (upd H p o) (upd Hb p o) := by
  have nb : Hb p = none := by
    cases q : Hb p with
    | none => rfl
    | some o => rw [h _ _ q] at n; cases n
  refine ⟨same_new n, same_new nb, fun b u e => ?_, fun b e => ?_⟩
  · by_cases hb : b = p
    · subst hb
      rw [upd_same] at e ⊢
      exact e
    · rw [upd_ne hb] at e ⊢
      exact h _ _ e
  · by_cases hb : b = p
    · subst hb; exact .inr (.inl n)
    · rw [upd_ne hb] at e; exact .inl e
/-- a new object in H' is laid as data as well -/
theorem Gr.at {H Hb H' : Hp} {p : Addr} {o : HO} (h : Same Hb H) (s : Same H H') (n : H p = none) (e : H' p = some o) : Gr H Hb H' (upd Hb p o) := by
  have nb : Hb p = none := by
    cases q : Hb p with
    | none => rfl
    | some o => rw [h _ _ q] at n; cases n
  refine ⟨s, same_new nb, fun b u e2 => ?_, fun b e2 => ?_⟩
  · by_cases hb : b = p
    · subst hb
      rw [upd_same] at e2
      cases e2
      exact e
    · rw [upd_ne hb] at e2
      exact s _ _ (h _ _ e2)
  · by_cases hb : b = p
    · subst hb; exact .inr (.inl n)
    · rw [upd_ne hb] at e2; exact .inl e2
/-- a tuple that stands is data -/
def with1 (Hb H : Hp) (p : Addr) : Hp := fun b => if b = p then H p else Hb b
theorem Gr.tupS {H Hb H' : Hp} {p : Addr} {xs : List V} (h : Same Hb H) (s : Same H H') (t : H' p = some (.tup xs)) : ∃ Hb', Gr H Hb H' Hb' ∧ Hb' p = some (.tup xs) := by
  have e : with1 Hb H' p p = H' p := if_pos rfl
  refine ⟨with1 Hb H' p, ⟨s, fun b o eb => ?_, fun b o eb => ?_, fun b eb => ?_⟩, e.trans t⟩
  · unfold with1
    by_cases hb : b = p
    · rw [if_pos hb, ← hb]; exact s _ _ (h _ _ eb)
    · rw [if_neg hb]; exact eb
  · unfold with1 at eb
    by_cases hb : b = p
    · rw [if_pos hb] at eb; rw [hb]; exact eb
    · rw [if_neg hb] at eb; exact s _ _ (h _ _ eb)
  · unfold with1 at eb
    by_cases hb : b = p
    · exact .inr (.inr ⟨xs, .inl (by rw [hb]; exact t)⟩)
    · rw [if_neg hb] at eb; exact .inl eb
theorem nonne {α : Type} {o : Option α} : o ≠ none → ∃ x, o = some x := by
  cases o with
  | none => exact fun h => absurd rfl h
  | some x => exact fun _ => ⟨x, rfl⟩
section
variable {F : Fx} {σ : L2.St} {H Hb H' Hb' : Hp} {ρ : List Cell}
theorem CellAt.grow {v : Option V} {c : Cell} (g : Gr H Hb H' Hb') (h : CellAt F H Hb v c) : CellAt F H' Hb' v c := by
  have key : ∀ a {m : M}, MAt F.K Hb H a m → Hb a = none → Hb' a = none := fun a _ n e => by
    cases q : Hb' a with
    | none => rfl
    | some o =>
      rcases g.nw a (by rw [q]; exact fun z => nomatch z) with z | z | ⟨xs, z⟩
      · exact absurd e z
      · exact absurd z (MAt.ne n)
      · exact (MAt.noTup (MAt.mono g.b (fun o => g.s a o) n) z).elim
  cases c with
  | no => trivial
  | val d => obtain ⟨x, e, r⟩ := h; exact ⟨x, e, Rep.mono g.b _ _ r⟩
  | own m => obtain ⟨a, e, m1, n, f, al⟩ := h; exact ⟨a, e, MAt.mono g.b (fun o => g.s a o) m1, key a m1 n, f, al⟩
  | io a m => obtain ⟨e, m1, n, f⟩ := h; exact ⟨e, MAt.mono g.b (fun o => g.s a o) m1, key a m1 n, f⟩
  | lck a m => obtain ⟨e, o, u, f, d⟩ := h; exact ⟨e, o, u, f, d.mono g.b⟩
theorem R.grow (r : R F σ H Hb ρ) (g : Gr H Hb H' Hb') : R F σ H' Hb' ρ := by
  refine ⟨g.sub, r.fr.trans g.s, fun b e => ?_, fun b e => ?_, r.len, fun i c v e1 e2 => (r.cell i c v e1 e2).grow g, r.dis⟩
  · rcases g.nw b e with z | z | z
    · rcases r.al b z with z | ⟨xs, z⟩
      · exact .inl z
      · exact .inr ⟨xs, Rd.same g.s z⟩
    · exact .inl (r.nw b z)
    · exact .inr z
  · refine r.nw b ?_
    cases q : H b with
    | none => rfl
    | some o => rw [g.s _ _ q] at e; cases e
/-- a slot takes data -/
theorem R.setV (r : R F σ H Hb ρ) {v : V} {d : D} (h : Rep F.K Hb v d) (i : Nat) : R F (σ.set i (some v)) H Hb (ρ.set i (.val d)) := by
  refine ⟨r.sub, r.fr, r.al, r.nw, by rw [List.length_set, List.length_set]; exact r.len, fun j c x e1 e2 => ?_, fun j k c d' a n e1 e2 m1 m2 f1 => ?_⟩
  · rw [List.getElem?_set] at e1 e2
    by_cases hj : i = j
    · rw [if_pos hj] at e1 e2
      split at e1
      · split at e2
        · cases e1
          cases e2
          exact ⟨v, rfl, h⟩
        · cases e2
      · cases e1
    · rw [if_neg hj] at e1 e2
      exact r.cell j c x e1 e2
  · rw [List.getElem?_set] at e1 e2 f1 ⊢
    by_cases hj : i = j
    · rw [if_pos hj] at e1
      split at e1
      · cases e1; cases m1
      · cases e1
    · rw [if_neg hj] at e1 f1
      by_cases hk : i = k
      · rw [if_pos hk] at e2
        split at e2
        · cases e2; cases m2
        · cases e2
      · rw [if_neg hk] at e2 ⊢
        exact r.dis j k c d' a n e1 e2 m1 m2 f1
/-- a slot is forgotten -/
theorem R.forget (r : R F σ H Hb ρ) (i : Nat) (x : Option V) : R F (σ.set i x) H Hb (ρ.set i .no) := by
  refine ⟨r.sub, r.fr, r.al, r.nw, by rw [List.length_set, List.length_set]; exact r.len, fun j c x e1 e2 => ?_, fun j k c d' a n e1 e2 m1 m2 f1 => ?_⟩
  · rw [List.getElem?_set] at e1 e2
    by_cases hj : i = j
    · rw [if_pos hj] at e1
      split at e1
      · cases e1; trivial
      · cases e1
    · rw [if_neg hj] at e1 e2
      exact r.cell j c x e1 e2
  · rw [List.getElem?_set] at e1 e2 f1 ⊢
    by_cases hj : i = j
    · rw [if_pos hj] at e1
      split at e1
      · cases e1; cases m1
      · cases e1
    · rw [if_neg hj] at e1 f1
      by_cases hk : i = k
      · rw [if_pos hk] at e2
        split at e2
        · cases e2; cases m2
        · cases e2
      · rw [if_neg hk] at e2 ⊢
        exact r.dis j k c d' a n e1 e2 m1 m2 f1
theorem R.at (r : R F σ H Hb ρ) {i : Nat} {c : Cell} (e : ρ[i]? = some c) : ∃ v, σ[i]? = some v ∧ CellAt F H Hb v c := by
  have hi := (List.getElem?_eq_some_iff.mp e).1
  have hj : i < σ.length := by rw [r.len]; exact hi
  exact ⟨σ[i], List.getElem?_eq_getElem hj, r.cell i c _ e (List.getElem?_eq_getElem hj)⟩
theorem R.val (r : R F σ H Hb ρ) {i : Nat} {d : D} (e : ρ[i]? = some (.val d)) : ∃ v, σ[i]? = some (some v) ∧ Rep F.K Hb v d := by
  obtain ⟨v, h1, x, h2, h3⟩ := r.at e
  exact ⟨x, by rw [h1, h2], h3⟩
/-- what stands of one's own -/
theorem R.mine (r : R F σ H Hb ρ) {i : Nat} {c : Cell} (e : ρ[i]? = some c) (h : c.mine = true) : ∃ a m, σ[i]? = some (some (.ref a)) ∧ MAt F.K Hb H a m ∧ Hb a = none ∧ F.fr a = none ∧ (c = .own m ∧ F.al a ∨ c = .io a m) := by
  obtain ⟨v, h1, h2⟩ := r.at e
  cases c with
  | no => cases h
  | val d => cases h
  | own m => obtain ⟨a, rfl, m1, n, f, al⟩ := h2; exact ⟨a, m, h1, m1, n, f, .inl ⟨rfl, al⟩⟩
  | io a m => obtain ⟨rfl, m1, n, f⟩ := h2; exact ⟨a, m, h1, m1, n, f, .inr rfl⟩
  | lck a m => cases h
def Cell.put : Cell → M → Cell
  | .own _, m => .own m
  | .io a _, m => .io a m
  | c, _ => c
def Cell.get : Cell → Option M
  | .own m => some m
  | .io _ m => some m
  | _ => none
theorem getM {c : Cell} {m : M} (h : c.get = some m) : c.mine = true := by
  cases c <;> first | rfl | cases h
theorem R.mineG (r : R F σ H Hb ρ) {i : Nat} {c : Cell} {m : M} (e : ρ[i]? = some c) (h : c.get = some m) : ∃ a, σ[i]? = some (some (.ref a)) ∧ MAt F.K Hb H a m ∧ Hb a = none ∧ F.fr a = none := by
  obtain ⟨a, m', h1, h2, h3, h4, h5⟩ := r.mine e (getM h)
  refine ⟨a, h1, ?_, h3, h4⟩
  rcases h5 with ⟨rfl, _⟩ | rfl
  · cases h; exact h2
  · cases h; exact h2
/-- one's own object is changed -/
theorem R.mut (r : R F σ H Hb ρ) {i : Nat} {c : Cell} {a : Addr} {m : M} (e : ρ[i]? = some c) (hc : c.mine = true) (es : σ[i]? = some (some (.ref a))) (g : ∀ b o, b ≠ a → H b = some o → H' b = some o) (hm : MAt F.K Hb H' a m) : R F σ H' Hb (ρ.set i (c.put m)) := by
  obtain ⟨a', m0, h1, h2, h3, h4, h5⟩ := r.mine e hc
  rw [es] at h1
  cases h1
  have hi := (List.getElem?_eq_some_iff.mp e).1
  refine ⟨fun b o eb => g b o (fun z => by rw [z, h3] at eb; cases eb) (r.sub _ _ eb), fun b o eb => g b o (fun z => by rw [z, h4] at eb; cases eb) (r.fr _ _ eb), fun b eb => ?_, fun b eb => ?_, by rw [List.length_set]; exact r.len, fun j c' v e1 e2 => ?_, fun j k c1 d1 b n e1 e2 m1 m2 f1 => ?_⟩
  · rcases r.al b eb with z | ⟨xs, z⟩
    · exact .inl z
    · refine .inr ⟨xs, ?_⟩
      have nb : b ≠ a := fun q => eb (by rw [q, h3])
      rcases z with z | ⟨o, z⟩
      · exact .inl (g b _ nb z)
      · exact .inr ⟨o, g b _ nb z⟩
  · refine r.nw b ?_
    cases q : H b with
    | none => rfl
    | some o =>
      by_cases z : b = a
      · rw [z] at eb; exact absurd eb (MAt.ne hm)
      · rw [g b o z q] at eb; cases eb
  · rw [List.getElem?_set] at e1
    by_cases hj : i = j
    · subst hj
      rw [if_pos rfl, if_pos hi] at e1
      cases e1
      rw [es] at e2
      cases e2
      rcases h5 with ⟨rfl, al⟩ | rfl
      · exact ⟨a, rfl, hm, h3, h4, al⟩
      · exact ⟨rfl, hm, h3, h4⟩
    · rw [if_neg hj] at e1
      have old := r.cell j c' v e1 e2
      cases c' with
      | no => trivial
      | val d => exact old
      | own m' =>
        obtain ⟨b, rfl, m1, n, f, al⟩ := old
        have nb : b ≠ a := fun z => r.dis i j c (.own m') a hj e e1 hc rfl es (by rw [e2, z])
        exact ⟨b, rfl, MAt.mono (Same.refl _) (fun o => g b o nb) m1, n, f, al⟩
      | io b m' =>
        obtain ⟨rfl, m1, n, f⟩ := old
        have nb : b ≠ a := fun z => r.dis i j c (.io b m') a hj e e1 hc rfl es (by rw [e2, z])
        exact ⟨rfl, MAt.mono (Same.refl _) (fun o => g b o nb) m1, n, f⟩
      | lck b m' => exact old
  · have same : ∀ (l : Nat) c2, (ρ.set i (c.put m))[l]? = some c2 → c2.mine = true → ∃ c3, ρ[l]? = some c3 ∧ c3.mine = true := fun l c2 q1 q2 => by
      rw [List.getElem?_set] at q1
      by_cases hl : i = l
      · subst hl; exact ⟨c, e, hc⟩
      · rw [if_neg hl] at q1; exact ⟨c2, q1, q2⟩
    obtain ⟨c3, q1, q2⟩ := same j c1 e1 m1
    obtain ⟨c4, q3, q4⟩ := same k d1 e2 m2
    exact r.dis j k c3 c4 b n q1 q3 q2 q4 f1
/-- a slot takes a new object of one's own -/
theorem R.newM (r : R F σ H Hb ρ) {p : Addr} {m : M} (n : H p = none) (s : Same H H') (hm : MAt F.K Hb H' p m) (i : Nat) : R F (σ.set i (some (.ref p))) H' Hb (ρ.set i (.own m)) := by
  have nb : Hb p = none := by
    cases q : Hb p with
    | none => rfl
    | some o => rw [r.sub _ _ q] at n; cases n
  have nf : F.fr p = none := by
    cases q : F.fr p with
    | none => rfl
    | some o => rw [r.fr _ _ q] at n; cases n
  have g : Gr H Hb H' Hb := ⟨s, Same.refl _, r.sub.trans s, fun _ e => .inl e⟩
  have r2 := r.grow g
  refine ⟨r2.sub, r2.fr, r2.al, r2.nw, by rw [List.length_set, List.length_set]; exact r.len, fun j c x e1 e2 => ?_, fun j k c d' a nn e1 e2 m1 m2 f1 f2 => ?_⟩
  · rw [List.getElem?_set] at e1 e2
    by_cases hj : i = j
    · rw [if_pos hj] at e1 e2
      split at e1
      · split at e2
        · cases e1
          cases e2
          exact ⟨p, rfl, hm, nb, nf, r.nw p n⟩
        · cases e2
      · cases e1
    · rw [if_neg hj] at e1 e2
      exact r2.cell j c x e1 e2
  · have old : ∀ (l : Nat) c1, ρ[l]? = some c1 → c1.mine = true → σ[l]? = some (some (.ref p)) → False := fun l c1 q1 q2 q3 => by
      obtain ⟨a2, m2, h1, h2, _⟩ := r.mine q1 q2
      rw [q3] at h1
      cases h1
      exact (MAt.ne h2) n
    rw [List.getElem?_set] at e1 e2 f1 f2
    by_cases hj : i = j
    · subst hj
      rw [if_neg nn] at e2 f2
      rw [if_pos rfl] at f1
      split at f1
      · cases f1
        exact old k d' e2 m2 f2
      · cases f1
    · rw [if_neg hj] at e1 f1
      by_cases hk : i = k
      · subst hk
        rw [if_pos rfl] at f2
        split at f2
        · cases f2
          exact old j c e1 m1 f1
        · cases f2
      · rw [if_neg hk] at e2 f2
        exact r.dis j k c d' a nn e1 e2 m1 m2 f1 f2
end
end PL
namespace PL
open PySem PySem.Spec PyProof.Rows L2 TB
abbrev Rho := List Cell
abbrev DE := Rho → (D → Rho → Prop) → Prop
abbrev DN := Rho → (M → Rho → Prop) → Prop
abbrev DT := Rho → (Bool → Rho → Prop) → Prop
abbrev DA := Rho → (List D → Rho → Prop) → Prop
/-- an expression by data -/
def SndE (K : PySem.W.Frag) (t : TE) (de : DE) : Prop := ∀ (F : Fx) σ H Hb ρ (Q : VK) (Qd : D → Rho → Prop), F.K = K → R F σ H Hb ρ → de ρ Qd →
  (∀ v d H' Hb' ρ', R F σ H' Hb' ρ' → Same Hb Hb' → Rep K Hb' v d → Qd d ρ' → Q v H') → t σ H Q
/-- an expression that makes a new list, a new dict -/
def SndN (K : PySem.W.Frag) (t : TE) (dn : DN) : Prop := ∀ (F : Fx) σ H Hb ρ (Q : VK) (Qd : M → Rho → Prop), F.K = K → R F σ H Hb ρ → dn ρ Qd →
  (∀ p m H1 H' Hb' ρ', R F σ H1 Hb' ρ' → Same Hb Hb' → H1 p = none → Same H1 H' → MAt K Hb' H' p m → Qd m ρ' → Q (.ref p) H') → t σ H Q
def SndT (K : PySem.W.Frag) (t : TT) (dt : DT) : Prop := ∀ (F : Fx) σ H Hb ρ (Q : Bool → Hp → Prop) (Qd : Bool → Rho → Prop), F.K = K → R F σ H Hb ρ → dt ρ Qd →
  (∀ b H' Hb' ρ', R F σ H' Hb' ρ' → Same Hb Hb' → Qd b ρ' → Q b H') → t σ H Q
def SndA (K : PySem.W.Frag) (n : Nat) (t : TA) (da : DA) : Prop := ∀ (F : Fx) σ H Hb ρ (Q : List V → Hp → Prop) (Qd : List D → Rho → Prop), F.K = K → R F σ H Hb ρ → da ρ Qd →
  (∀ vs ds H' Hb' ρ', R F σ H' Hb' ρ' → Same Hb Hb' → RepAll K Hb' vs ds → ds.length = n → Qd ds ρ' → Q vs H') → t σ H Q
section
variable {K : PySem.W.Frag}
/-! ### names, constants -/
def cellV : Option Cell → (D → Prop) → Prop
  | some (.val d), k => k d
  | _, _ => False
def dVar (i : Nat) : DE := fun ρ Q => cellV ρ[i]? fun d => Q d ρ
theorem snd_var (i : Nat) : SndE K (tVar i) (dVar i) := fun F σ H Hb ρ Q Qd hK r h q => by
  subst hK
  unfold dVar at h
  cases e : ρ[i]? with
  | none => rw [e] at h; exact h.elim
  | some c =>
    rw [e] at h
    cases c with
    | val d =>
      obtain ⟨v, h1, h2⟩ := r.val e
      exact ⟨v, h1, q v d H Hb ρ r (Same.refl _) h2 h⟩
    | _ => exact h.elim
def dC (d : D) : DE := fun ρ Q => Q d ρ
theorem snd_c {v : V} {d : D} (h : ∀ Hb, Rep K Hb v d) : SndE K (tC v) (dC d) := fun F σ H Hb ρ Q Qd hK r hd q => q v d H Hb ρ r (Same.refl _) (h Hb) hd
theorem snd_int {i : Int} : SndE K (tC (.int i)) (dC (.int i)) := snd_c fun _ => .int i
theorem snd_str {x : Str} : SndE K (tC (.str x)) (dC (.str x)) := snd_c fun _ => .str x
theorem snd_bl {b : Bool} : SndE K (tC (.bl b)) (dC (.bl b)) := snd_c fun _ => .bl b
theorem snd_non : SndE K (tC .non) (dC .non) := snd_c fun _ => .non
theorem snd_opq {v : V} : SndE K (tC v) (dC (.opq v)) := snd_c fun _ => .opq v
/-! ### a value, seen: data, or one's own list, dict as it stands now -/
inductive View (K : PySem.W.Frag) (Hb H : Hp) : V → D → Prop
  | rep {v : V} {d : D} : Rep K Hb v d → View K Hb H v d
  | lst {a : Addr} {vs : List V} {ds : List D} : H a = some (.lst vs) → RepAll K Hb vs ds → View K Hb H (.ref a) (.lst ds)
  | dct {a : Addr} {kvs : List (Key × V)} {es : List (Key × D)} : H a = some (.dK kvs) → RepKV K Hb kvs es → View K Hb H (.ref a) (.dct es)
  | dcu {a : Addr} {kvs : List (List Key × V)} {es : List (List Key × D)} : H a = some (.dT kvs) → RepKT K Hb kvs es → View K Hb H (.ref a) (.dcu es)
inductive Opd where
  | e (de : DE) | o (i : Nat)
abbrev Op := D ⊕ Nat
def mineC : Option Cell → Prop → Prop
  | some (.own _), p => p
  | some (.io _ _), p => p
  | _, _ => False
def anyC : Option Cell → Prop → Prop
  | some (.own _), p => p
  | some (.io _ _), p => p
  | some (.val _), p => p
  | _, _ => False
def Opd.run : Opd → Rho → (Op → Rho → Prop) → Prop
  | .e de, ρ, k => de ρ fun d ρ' => k (.inl d) ρ'
  | .o i, ρ, k => anyC ρ[i]? (k (.inr i) ρ)
def viewM : Option Cell → (D → Prop) → Prop
  | some (.own (.lst ds)), k => k (.lst ds)
  | some (.own (.dct es)), k => k (.dct es)
  | some (.own (.dcu es)), k => k (.dcu es)
  | some (.io _ (.lst ds)), k => k (.lst ds)
  | some (.io _ (.dct es)), k => k (.dct es)
  | some (.io _ (.dcu es)), k => k (.dcu es)
  | some (.val d), k => k d
  | _, _ => False
def Op.res : Op → Rho → (D → Prop) → Prop
  | .inl d, _, k => k d
  | .inr i, ρ, k => viewM ρ[i]? k
def SndO (K : PySem.W.Frag) (t : TE) : Opd → Prop
  | .e de => SndE K t de
  | .o i => t = tVar i
/-- what an operand's value is, until it is used -/
def OpAt (K : PySem.W.Frag) (σ : L2.St) (Hb : Hp) (v : V) : Op → Prop
  | .inl d => Rep K Hb v d
  | .inr i => σ[i]? = some (some v)
theorem OpAt.mono {σ : L2.St} {Hb Hb' : Hp} {v : V} (s : Same Hb Hb') : ∀ {p : Op}, OpAt K σ Hb v p → OpAt K σ Hb' v p
  | .inl d, h => Rep.mono s d v h
  | .inr _, h => h
theorem OpAt.res {F : Fx} {σ : L2.St} {H Hb : Hp} {ρ : Rho} {v : V} {k : D → Prop} (r : R F σ H Hb ρ) : ∀ {p : Op}, OpAt F.K σ Hb v p → p.res ρ k → ∃ d, View F.K Hb H v d ∧ k d
  | .inl d, h, q => ⟨d, .rep h, q⟩
  | .inr i, h, q => by
    have q : viewM ρ[i]? k := q
    cases e : ρ[i]? with
    | none => rw [e] at q; exact q.elim
    | some c =>
      rw [e] at q
      have go : ∀ m, c.get = some m → MAt F.K Hb H (match v with | .ref a => a | _ => 0) m ∧ ∃ a, v = .ref a := fun m g => by
        obtain ⟨a, h1, h2, _⟩ := r.mineG e g
        have h : σ[i]? = some (some v) := h
        rw [h] at h1
        cases h1
        exact ⟨h2, a, rfl⟩
      cases c with
      | no => exact q.elim
      | lck b m => exact q.elim
      | val d =>
        obtain ⟨v', h1, h2⟩ := r.val e
        have h : σ[i]? = some (some v) := h
        rw [h] at h1
        cases h1
        exact ⟨d, .rep h2, q⟩
      | own m =>
        obtain ⟨h2, a, rfl⟩ := go m rfl
        cases m with
        | lst ds => obtain ⟨vs, e1, e2⟩ := h2; exact ⟨_, .lst e1 e2, q⟩
        | dct es => obtain ⟨vs, e1, e2⟩ := h2; exact ⟨_, .dct e1 e2, q⟩
        | dcu es => obtain ⟨vs, e1, e2⟩ := h2; exact ⟨_, .dcu e1 e2, q⟩
        | dice => exact q.elim
      | io b m =>
        obtain ⟨h2, a, rfl⟩ := go m rfl
        cases m with
        | lst ds => obtain ⟨vs, e1, e2⟩ := h2; exact ⟨_, .lst e1 e2, q⟩
        | dct es => obtain ⟨vs, e1, e2⟩ := h2; exact ⟨_, .dct e1 e2, q⟩
        | dcu es => obtain ⟨vs, e1, e2⟩ := h2; exact ⟨_, .dcu e1 e2, q⟩
        | dice => exact q.elim
theorem SndO.use {t : TE} {F : Fx} {σ : L2.St} {H Hb : Hp} {ρ : Rho} {Q : VK} {Qd : Op → Rho → Prop} (hK : F.K = K) (r : R F σ H Hb ρ) : ∀ {o : Opd}, SndO K t o → o.run ρ Qd →
    (∀ v p H' Hb' ρ', R F σ H' Hb' ρ' → Same Hb Hb' → OpAt K σ Hb' v p → Qd p ρ' → Q v H') → t σ H Q
  | .e de, s, h, q => s F σ H Hb ρ Q _ hK r h fun v d H' Hb' ρ' r' b rp hq => q v (.inl d) H' Hb' ρ' r' b rp hq
  | .o i, s, h, q => by
    have s : t = tVar i := s
    subst s
    have h : anyC ρ[i]? (Qd (.inr i) ρ) := h
    cases e : ρ[i]? with
    | none => rw [e] at h; exact h.elim
    | some c =>
      rw [e] at h
      have go : ∀ m, c.get = some m → Qd (.inr i) ρ → tVar i σ H Q := fun m g hq => by
        obtain ⟨a, h1, _⟩ := r.mineG e g
        exact ⟨_, h1, q _ (.inr i) H Hb ρ r (Same.refl _) h1 hq⟩
      cases c with
      | own m => exact go m rfl h
      | io b m => exact go m rfl h
      | val d =>
        obtain ⟨v, h1, _⟩ := r.val e
        exact ⟨_, h1, q _ (.inr i) H Hb ρ r (Same.refl _) h1 h⟩
      | _ => exact h.elim
theorem sE {t : TE} {de : DE} (h : SndE K t de) : SndO K t (.e de) := h
theorem sO (i : Nat) : SndO K (tVar i) (.o i) := rfl
/-! ### operators by values -/
/-- a rule of two values: f tells what is asked of the data, and what comes -/
def OpS (K : PySem.W.Frag) (r : R2) (f : D → D → (D → Prop) → Prop) : Prop := ∀ H Hb v w d e (Q : VK) (Qd : D → Prop), Same Hb H → View K Hb H v d → View K Hb H w e → f d e Qd →
  (∀ u x H' Hb', Gr H Hb H' Hb' → Rep K Hb' u x → Qd x → Q u H') → r v w H Q
def UnS (K : PySem.W.Frag) (r : V → Hp → VK → Prop) (f : D → (D → Prop) → Prop) : Prop := ∀ H Hb v d (Q : VK) (Qd : D → Prop), Same Hb H → View K Hb H v d → f d Qd →
  (∀ u x H' Hb', Gr H Hb H' Hb' → Rep K Hb' u x → Qd x → Q u H') → r v H Q
def dOp (f : D → D → (D → Prop) → Prop) (a b : Opd) : DE := fun ρ Q => a.run ρ fun p ρ1 => b.run ρ1 fun q ρ2 => p.res ρ2 fun d => q.res ρ2 fun e => f d e fun z => Q z ρ2
theorem snd_op {r : R2} {f : D → D → (D → Prop) → Prop} {ta tb : TE} {a b : Opd} (hr : OpS K r f) (ha : SndO K ta a) (hb : SndO K tb b) : SndE K (tOp r ta tb) (dOp f a b) := fun F σ H Hb ρ Q Qd hK rr h q => by
  subst hK
  refine SndO.use (t := ta) rfl rr ha h fun v p H1 Hb1 ρ1 r1 b1 o1 h1 => ?_
  refine SndO.use (t := tb) rfl r1 hb h1 fun w p2 H2 Hb2 ρ2 r2 b2 o2 h2 => ?_
  obtain ⟨d, vd, h3⟩ := OpAt.res r2 (o1.mono b2) h2
  obtain ⟨e, ve, h4⟩ := OpAt.res r2 o2 h3
  exact hr H2 Hb2 v w d e Q _ r2.sub vd ve h4 fun u x H3 Hb3 g rp hq => q u x H3 Hb3 ρ2 (r2.grow g) ((b1.trans b2).trans g.b) rp hq
def dUn (f : D → (D → Prop) → Prop) (a : Opd) : DE := fun ρ Q => a.run ρ fun p ρ1 => p.res ρ1 fun d => f d fun z => Q z ρ1
theorem snd_un {r : V → Hp → VK → Prop} {f : D → (D → Prop) → Prop} {ta : TE} {a : Opd} (hr : UnS K r f) (ha : SndO K ta a) : SndE K (tUn r ta) (dUn f a) := fun F σ H Hb ρ Q Qd hK rr h q => by
  subst hK
  refine SndO.use (t := ta) rfl rr ha h fun v p H1 Hb1 ρ1 r1 b1 o1 h1 => ?_
  obtain ⟨d, vd, h3⟩ := OpAt.res r1 o1 h1
  exact hr H1 Hb1 v d Q _ r1.sub vd h3 fun u x H3 Hb3 g rp hq => q u x H3 Hb3 ρ1 (r1.grow g) (b1.trans g.b) rp hq
/-! ### what a view tells -/
section
variable {Hb H : Hp} {v : V}
theorem View.int {i : Int} (h : View K Hb H v (.int i)) : v = .int i := by
  cases h with
  | rep h => cases h; rfl
theorem View.str {x : Str} (h : View K Hb H v (.str x)) : v = .str x := by
  cases h with
  | rep h => cases h; rfl
theorem View.bl {b : Bool} (h : View K Hb H v (.bl b)) : v = .bl b := by
  cases h with
  | rep h => cases h; rfl
theorem View.non (h : View K Hb H v .non) : v = .non := by
  cases h with
  | rep h => cases h; rfl
theorem View.opq {w : V} (h : View K Hb H v (.opq w)) : v = w := by
  cases h with
  | rep h => cases h; rfl
theorem View.tupS {ds : List D} (s : Same Hb H) (h : View K Hb H v (.tup ds)) : ∃ a vs, v = .ref a ∧ H a = some (.tup vs) ∧ Hb a = some (.tup vs) ∧ RepAll K Hb vs ds := by
  cases h with
  | rep h =>
    cases h with
    | tup h1 h2 => exact ⟨_, _, rfl, s _ _ h1, h1, h2⟩
theorem View.tup {ds : List D} (s : Same Hb H) (h : View K Hb H v (.tup ds)) : ∃ a vs, v = .ref a ∧ SqT K H a vs ∧ Hb a = some (.tup vs) ∧ RepAll K Hb vs ds := by
  obtain ⟨a, vs, e, h1, h2, h3⟩ := h.tupS s
  exact ⟨a, vs, e, SqT.of h1, h2, h3⟩
theorem View.ktup {ds : List D} (h : View K Hb H v (.ktup ds)) : ∃ a vs, v = .ref a ∧ SqT K H a vs ∧ RepAll K Hb vs ds := by
  cases h with
  | rep h =>
    cases h with
    | ktup h1 h2 => exact ⟨_, _, rfl, h1 _, h2⟩
theorem View.lst' {ds : List D} (s : Same Hb H) (h : View K Hb H v (.lst ds)) : ∃ a vs, v = .ref a ∧ H a = some (.lst vs) ∧ RepAll K Hb vs ds := by
  cases h with
  | rep h =>
    cases h with
    | lst h1 h2 => exact ⟨_, _, rfl, s _ _ h1, h2⟩
  | lst h1 h2 => exact ⟨_, _, rfl, h1, h2⟩
theorem View.arr' {ds : List D} (s : Same Hb H) (h : View K Hb H v (.arr ds)) : ∃ a vs, v = .ref a ∧ SqL K H a vs ∧ RepAll K Hb vs ds := by
  cases h with
  | rep h =>
    cases h with
    | arr h1 h2 => exact ⟨_, _, rfl, s.seq h1, h2⟩
theorem View.dct' {es : List (Key × D)} (s : Same Hb H) (h : View K Hb H v (.dct es)) : ∃ a kvs, v = .ref a ∧ Rd H a (.dK kvs) ∧ RepKV K Hb kvs es := by
  cases h with
  | rep h =>
    cases h with
    | dct h1 h2 => exact ⟨_, _, rfl, Rd.same s h1, h2⟩
  | dct h1 h2 => exact ⟨_, _, rfl, .inl h1, h2⟩
theorem View.dcu' {es : List (List Key × D)} (s : Same Hb H) (h : View K Hb H v (.dcu es)) : ∃ a kvs, v = .ref a ∧ Rd H a (.dT kvs) ∧ RepKT K Hb kvs es := by
  cases h with
  | rep h =>
    cases h with
    | dcu h1 h2 => exact ⟨_, _, rfl, Rd.same s h1, h2⟩
  | dcu h1 h2 => exact ⟨_, _, rfl, .inl h1, h2⟩
end
/-! ### whole numbers -/
def int2 : D → D → (Int → Int → Prop) → Prop
  | .int i, .int j, k => k i j
  | _, _, _ => False
def int1 : D → (Int → Prop) → Prop
  | .int i, k => k i
  | _, _ => False
theorem int2_ok {d e : D} {k : Int → Int → Prop} (h : int2 d e k) : ∃ i j, d = .int i ∧ e = .int j ∧ k i j := by
  cases d <;> first | exact h.elim | (cases e <;> first | exact h.elim | exact ⟨_, _, rfl, rfl, h⟩)
theorem int1_ok {d : D} {k : Int → Prop} (h : int1 d k) : ∃ i, d = .int i ∧ k i := by
  cases d <;> first | exact h.elim | exact ⟨_, rfl, h⟩
def fI (C : Int → Int → Prop) (g : Int → Int → D) (d e : D) (k : D → Prop) : Prop := int2 d e fun i j => C i j ∧ k (g i j)
def fI0 (g : Int → Int → D) (d e : D) (k : D → Prop) : Prop := int2 d e fun i j => k (g i j)
theorem s_I {C : Int → Int → Prop} {g : Int → Int → V} {g' : Int → Int → D} (hg : ∀ i j Hb, Rep K Hb (g i j) (g' i j) := by intros; constructor) : OpS K (rI C g) (fI C g') := fun H Hb v w d e Q Qd s hv hw h q => by
  obtain ⟨i, j, rfl, rfl, c, h⟩ := int2_ok h
  cases hv.int
  cases hw.int
  exact ⟨i, j, rfl, rfl, c, q _ _ H Hb (Gr.refl s) (hg i j Hb) h⟩
theorem s_I0 {g : Int → Int → V} {g' : Int → Int → D} (hg : ∀ i j Hb, Rep K Hb (g i j) (g' i j) := by intros; constructor) : OpS K (rI0 g) (fI0 g') := fun H Hb v w d e Q Qd s hv hw h q => by
  obtain ⟨i, j, rfl, rfl, h⟩ := int2_ok h
  cases hv.int
  cases hw.int
  exact ⟨i, j, rfl, rfl, q _ _ H Hb (Gr.refl s) (hg i j Hb) h⟩
def fU (g : Int → D) (d : D) (k : D → Prop) : Prop := int1 d fun i => k (g i)
theorem s_U {g : Int → V} {g' : Int → D} (hg : ∀ i Hb, Rep K Hb (g i) (g' i) := by intros; constructor) : UnS K (rU g) (fU g') := fun H Hb v d Q Qd s hv h q => by
  obtain ⟨i, rfl, h⟩ := int1_ok h
  cases hv.int
  exact ⟨i, rfl, q _ _ H Hb (Gr.refl s) (hg i Hb) h⟩
theorem s_add : OpS K (rI0 fun i j => .int (i + j)) (fI0 fun i j => .int (i + j)) := s_I0
theorem s_sub : OpS K (rI0 fun i j => .int (i - j)) (fI0 fun i j => .int (i - j)) := s_I0
theorem s_mul : OpS K (rI CMul fun i j => .int (i * j)) (fI CMul fun i j => .int (i * j)) := s_I
theorem s_mulW : OpS K (rI CMulW fun i j => .int (i * j)) (fI CMulW fun i j => .int (i * j)) := s_I
theorem s_fdiv : OpS K (rI CDiv fun i j => .int (i / j)) (fI CDiv fun i j => .int (i / j)) := s_I
theorem s_fdivW : OpS K (rI CDivW fun i j => .int (i / j)) (fI CDivW fun i j => .int (i / j)) := s_I
theorem s_mod : OpS K (rI (fun _ j => 0 < j) fun i j => .int (i % j)) (fI (fun _ j => 0 < j) fun i j => .int (i % j)) := s_I
theorem s_pow : OpS K (rI CPow fun i j => .int (i ^ j.toNat)) (fI CPow fun i j => .int (i ^ j.toNat)) := s_I
theorem s_powW : OpS K (rI CPowW fun i j => .int (i ^ j.toNat)) (fI CPowW fun i j => .int (i ^ j.toNat)) := s_I
theorem s_shlW : OpS K (rI CShl fun i j => .int (i * 2 ^ j.toNat)) (fI CShl fun i j => .int (i * 2 ^ j.toNat)) := s_I
theorem s_shr : OpS K (rI (fun _ j => 0 ≤ j) fun i j => .int (i / 2 ^ j.toNat)) (fI (fun _ j => 0 ≤ j) fun i j => .int (i / 2 ^ j.toNat)) := s_I
theorem s_and : OpS K (rI0 fun i j => .int (Builtin.bitAnd i j)) (fI0 fun i j => .int (Builtin.bitAnd i j)) := s_I0
theorem s_or : OpS K (rI0 fun i j => .int (Builtin.bitOr i j)) (fI0 fun i j => .int (Builtin.bitOr i j)) := s_I0
theorem s_xor : OpS K (rI0 fun i j => .int (Builtin.bitXor i j)) (fI0 fun i j => .int (Builtin.bitXor i j)) := s_I0
theorem s_lt : OpS K (rI0 fun i j => .bl (decide (i < j))) (fI0 fun i j => .bl (decide (i < j))) := s_I0
theorem s_le : OpS K (rI0 fun i j => .bl (decide (i ≤ j))) (fI0 fun i j => .bl (decide (i ≤ j))) := s_I0
theorem s_gt : OpS K (rI0 fun i j => .bl (decide (j < i))) (fI0 fun i j => .bl (decide (j < i))) := s_I0
theorem s_ge : OpS K (rI0 fun i j => .bl (decide (j ≤ i))) (fI0 fun i j => .bl (decide (j ≤ i))) := s_I0
theorem s_neg : UnS K (rU fun i => .int (-i)) (fU fun i => .int (-i)) := s_U
/-! ### == and != of flat values, of data; is None -/
def flat : D → Option V
  | .non => some .non
  | .bl b => some (.bl b)
  | .int i => some (.int i)
  | .str x => some (.str x)
  | _ => none
theorem View.flat {Hb H : Hp} {v w : V} {d : D} (h : View K Hb H v d) (e : flat d = some w) : v = w := by
  cases d <;> cases e
  · exact h.non
  · exact h.bl
  · exact h.int
  · exact h.str
def flat2 : Option V → Option V → (V → V → Prop) → Prop
  | some v, some w, k => k v w
  | _, _, _ => False
def fEq (d e : D) (k : D → Prop) : Prop := flat2 (flat d) (flat e) fun v w => scal v w = true ∧ k (.bl (decide (v = w)))
def fNe (d e : D) (k : D → Prop) : Prop := flat2 (flat d) (flat e) fun v w => scal v w = true ∧ k (.bl (!decide (v = w)))
theorem flat2_ok {a b : Option V} {k : V → V → Prop} (h : flat2 a b k) : ∃ v w, a = some v ∧ b = some w ∧ k v w := by
  cases a <;> first | exact h.elim | (cases b <;> first | exact h.elim | exact ⟨_, _, rfl, rfl, h⟩)
theorem s_eq : OpS K rEq fEq := fun H Hb v w d e Q Qd s hv hw h q => by
  obtain ⟨x, y, e1, e2, c, h⟩ := flat2_ok h
  cases hv.flat e1
  cases hw.flat e2
  exact ⟨c, q _ _ H Hb (Gr.refl s) (.bl _) h⟩
theorem s_ne : OpS K rNe fNe := fun H Hb v w d e Q Qd s hv hw h q => by
  obtain ⟨x, y, e1, e2, c, h⟩ := flat2_ok h
  cases hv.flat e1
  cases hw.flat e2
  exact ⟨c, q _ _ H Hb (Gr.refl s) (.bl _) h⟩
mutual
def toP : D → PyData
  | .non => .none
  | .bl b => .bool b
  | .int i => .int i
  | .str x => .str x
  | .tup ds => .tuple (toPs ds)
  | .ktup ds => .tuple (toPs ds)
  | .lst ds => .list (toPs ds)
  | _ => .none
def toPs : List D → List PyData
  | [] => []
  | d :: r => toP d :: toPs r
end
mutual
def cmp : D → Bool
  | .tup ds => cmps ds
  | .ktup ds => cmps ds
  | .lst ds => cmps ds
  | .opq _ => false
  | .dct _ => false
  | .dcu _ => false
  | .arr _ => false
  | _ => true
def cmps : List D → Bool
  | [] => true
  | d :: r => cmp d && cmps r
end
mutual
theorem Rep.dp {H : Hp} : ∀ (d : D) (v : V), Rep K H v d → cmp d = true → Dp K H v (toP d)
  | .non, _, h, _ => by cases h; exact .non
  | .bl b, _, h, _ => by cases h; exact .bl b
  | .int i, _, h, _ => by cases h; exact .int i
  | .str x, _, h, _ => by cases h; exact .str x
  | .opq v, _, h, c => nomatch c
  | .tup ds, _, h, c => by
    cases h with
    | tup h1 h2 => exact .tup (SqT.of h1) (RepAll.dp ds _ h2 c)
  | .ktup ds, _, h, c => by
    cases h with
    | ktup h1 h2 => exact .tup (h1 _) (RepAll.dp ds _ h2 c)
  | .lst ds, _, h, c => by
    cases h with
    | lst h1 h2 => exact .lst (SqL.of h1) (RepAll.dp ds _ h2 c)
  | .arr ds, _, h, c => nomatch c
  | .dct es, _, h, c => nomatch c
  | .dcu es, _, h, c => nomatch c
theorem RepAll.dp {H : Hp} : ∀ (ds : List D) (vs : List V), RepAll K H vs ds → cmps ds = true → DpAll K H vs (toPs ds)
  | [], _, h, _ => by cases h; exact .nil
  | d :: ds, _, h, c => by
    cases h with
    | cons h1 h2 =>
      have c : (cmp d && cmps ds) = true := c
      rw [Bool.and_eq_true] at c
      exact .cons (Rep.dp d _ h1 c.1) (RepAll.dp ds _ h2 c.2)
end
theorem View.dp {Hb H : Hp} {v : V} {d : D} (s : Same Hb H) (h : View K Hb H v d) (c : cmp d = true) : Dp K H v (toP d) := by
  cases h with
  | rep h => exact Rep.dp d v (Rep.mono s d v h) c
  | lst h1 h2 => exact .lst (SqL.of h1) (RepAll.dp _ _ (RepAll.mono s _ _ h2) c)
  | dct h1 h2 => cases c
  | dcu h1 h2 => cases c
/-- it can be compared -/
structure CmpOk (d : D) : Prop where
  c : cmp d = true
  s : SeqAt.shaped (toP d) = true
def eqD (d e : D) : Bool := PyData.eqv (toP d) (toP e)
def fEqD (d e : D) (k : D → Prop) : Prop := (CmpOk d ∧ CmpOk e) ∧ k (.bl (eqD d e))
def fNeD (d e : D) (k : D → Prop) : Prop := (CmpOk d ∧ CmpOk e) ∧ k (.bl (!eqD d e))
theorem s_eqD : OpS K (rEqD K) fEqD := fun H Hb v w d e Q Qd s hv hw h q => by
  obtain ⟨⟨c1, c2⟩, h⟩ := h
  exact ⟨_, _, hv.dp s c1.c, hw.dp s c2.c, c1.s, c2.s, q _ _ H Hb (Gr.refl s) (.bl _) h⟩
theorem s_neD : OpS K (rNeD K) fNeD := fun H Hb v w d e Q Qd s hv hw h q => by
  obtain ⟨⟨c1, c2⟩, h⟩ := h
  exact ⟨_, _, hv.dp s c1.c, hw.dp s c2.c, c1.s, c2.s, q _ _ H Hb (Gr.refl s) (.bl _) h⟩
def isNon : D → Bool
  | .non => true
  | .opq v => decide (v = .non)
  | _ => false
theorem View.isNon {Hb H : Hp} {v : V} {d : D} (h : View K Hb H v d) : decide (v = .non) = isNon d := by
  cases h with
  | rep h =>
    cases h <;> first | rfl | exact decide_eq_false fun z => nomatch z
  | lst _ _ => exact decide_eq_false fun z => nomatch z
  | dct _ _ => exact decide_eq_false fun z => nomatch z
  | dcu _ _ => exact decide_eq_false fun z => nomatch z
def fIsN (d e : D) (k : D → Prop) : Prop := match e with
  | .non => k (.bl (isNon d))
  | _ => False
def fNotN (d e : D) (k : D → Prop) : Prop := match e with
  | .non => k (.bl (!isNon d))
  | _ => False
theorem s_isN : OpS K (fun x y H Q => y = .non ∧ Q (.bl (decide (x = .non))) H) fIsN := fun H Hb v w d e Q Qd s hv hw h q => by
  cases e <;> first | exact h.elim | skip
  refine ⟨hw.non, q _ _ H Hb (Gr.refl s) ?_ h⟩
  rw [hv.isNon]
  exact .bl _
theorem s_notN : OpS K (fun x y H Q => y = .non ∧ Q (.bl (!decide (x = .non))) H) fNotN := fun H Hb v w d e Q Qd s hv hw h q => by
  cases e <;> first | exact h.elim | skip
  refine ⟨hw.non, q _ _ H Hb (Gr.refl s) ?_ h⟩
  rw [hv.isNon]
  exact .bl _
/-! ### tests -/
def bl1 : D → (Bool → Prop) → Prop
  | .bl b, k => k b
  | _, _ => False
theorem bl1_ok {d : D} {k : Bool → Prop} (h : bl1 d k) : ∃ b, d = .bl b ∧ k b := by
  cases d <;> first | exact h.elim | exact ⟨_, rfl, h⟩
def dB (de : DE) : DT := fun ρ Q => de ρ fun d ρ' => bl1 d fun b => Q b ρ'
theorem snd_b {t : TE} {de : DE} (h : SndE K t de) : SndT K (tB t) (dB de) := fun F σ H Hb ρ Q Qd hK r hd q =>
  h F σ H Hb ρ _ _ hK r hd fun v d H' Hb' ρ' r' b rp hq => by
    obtain ⟨c, rfl, hq⟩ := bl1_ok hq
    cases rp
    exact ⟨c, rfl, q c H' Hb' ρ' r' b hq⟩
theorem snd_test {t : TE} {de : DE} (h : SndE K t de) : SndT K (tTest t) (dB de) := fun F σ H Hb ρ Q Qd hK r hd q =>
  h F σ H Hb ρ _ _ hK r hd fun v d H' Hb' ρ' r' b rp hq => by
    obtain ⟨c, rfl, hq⟩ := bl1_ok hq
    cases rp
    exact ⟨c, rfl, q c H' Hb' ρ' r' b hq⟩
def ifD (b : Bool) (p q : Prop) : Prop := match b with
  | true => p
  | false => q
theorem ifD_ite {b : Bool} {p q : Prop} (h : ifD b p q) : if b = true then p else q := by
  cases b with
  | true => exact iteT h
  | false => exact iteF h
def dAnd (a b : DT) : DT := fun ρ Q => a ρ fun c ρ1 => ifD c (b ρ1 Q) (Q false ρ1)
def dOr (a b : DT) : DT := fun ρ Q => a ρ fun c ρ1 => ifD c (Q true ρ1) (b ρ1 Q)
def dNot (a : DT) : DT := fun ρ Q => a ρ fun c ρ1 => Q (!c) ρ1
theorem snd_and {t u : TT} {a b : DT} (ha : SndT K t a) (hb : SndT K u b) : SndT K (tAnd t u) (dAnd a b) := fun F σ H Hb ρ Q Qd hK r hd q =>
  ha F σ H Hb ρ _ _ hK r hd fun c H1 Hb1 ρ1 r1 b1 hq => by
    cases c with
    | true => exact iteT (hb F σ H1 Hb1 ρ1 Q Qd hK r1 hq fun b H' Hb' ρ' r' b' => q b H' Hb' ρ' r' (b1.trans b'))
    | false => exact iteF (q false H1 Hb1 ρ1 r1 b1 hq)
theorem snd_or {t u : TT} {a b : DT} (ha : SndT K t a) (hb : SndT K u b) : SndT K (tOr t u) (dOr a b) := fun F σ H Hb ρ Q Qd hK r hd q =>
  ha F σ H Hb ρ _ _ hK r hd fun c H1 Hb1 ρ1 r1 b1 hq => by
    cases c with
    | true => exact iteT (q true H1 Hb1 ρ1 r1 b1 hq)
    | false => exact iteF (hb F σ H1 Hb1 ρ1 Q Qd hK r1 hq fun b H' Hb' ρ' r' b' => q b H' Hb' ρ' r' (b1.trans b'))
theorem snd_not {t : TT} {a : DT} (ha : SndT K t a) : SndT K (tNot t) (dNot a) := fun F σ H Hb ρ Q Qd hK r hd q =>
  ha F σ H Hb ρ _ _ hK r hd fun c H1 Hb1 ρ1 r1 b1 hq => q (!c) H1 Hb1 ρ1 r1 b1 hq
def dAndV (a b : DE) : DE := fun ρ Q => a ρ fun x ρ1 => bl1 x fun c => ifD c (b ρ1 Q) (Q (.bl false) ρ1)
def dOrV (a b : DE) : DE := fun ρ Q => a ρ fun x ρ1 => bl1 x fun c => ifD c (Q (.bl true) ρ1) (b ρ1 Q)
def dNotV (a : DE) : DE := fun ρ Q => a ρ fun x ρ1 => bl1 x fun c => Q (.bl (!c)) ρ1
theorem snd_andV {t u : TE} {a b : DE} (ha : SndE K t a) (hb : SndE K u b) : SndE K (tAndV t u) (dAndV a b) := fun F σ H Hb ρ Q Qd hK r hd q =>
  ha F σ H Hb ρ _ _ hK r hd fun v d H1 Hb1 ρ1 r1 b1 rp hq => by
    obtain ⟨c, rfl, hq⟩ := bl1_ok hq
    cases rp
    refine ⟨c, rfl, ?_⟩
    cases c with
    | true => exact iteT (hb F σ H1 Hb1 ρ1 Q Qd hK r1 hq fun v d H' Hb' ρ' r' b' => q v d H' Hb' ρ' r' (b1.trans b'))
    | false => exact iteF (q _ _ H1 Hb1 ρ1 r1 b1 (.bl _) hq)
theorem snd_orV {t u : TE} {a b : DE} (ha : SndE K t a) (hb : SndE K u b) : SndE K (tOrV t u) (dOrV a b) := fun F σ H Hb ρ Q Qd hK r hd q =>
  ha F σ H Hb ρ _ _ hK r hd fun v d H1 Hb1 ρ1 r1 b1 rp hq => by
    obtain ⟨c, rfl, hq⟩ := bl1_ok hq
    cases rp
    refine ⟨c, rfl, ?_⟩
    cases c with
    | true => exact iteT (q _ _ H1 Hb1 ρ1 r1 b1 (.bl _) hq)
    | false => exact iteF (hb F σ H1 Hb1 ρ1 Q Qd hK r1 hq fun v d H' Hb' ρ' r' b' => q v d H' Hb' ρ' r' (b1.trans b'))
theorem snd_notV {t : TE} {a : DE} (ha : SndE K t a) : SndE K (tNotV t) (dNotV a) := fun F σ H Hb ρ Q Qd hK r hd q =>
  ha F σ H Hb ρ _ _ hK r hd fun v d H1 Hb1 ρ1 r1 b1 rp hq => by
    obtain ⟨c, rfl, hq⟩ := bl1_ok hq
    cases rp
    exact ⟨c, rfl, q _ _ H1 Hb1 ρ1 r1 b1 (.bl _) hq⟩
def dIf (t : DT) (a b : DE) : DE := fun ρ Q => t ρ fun c ρ1 => ifD c (a ρ1 Q) (b ρ1 Q)
theorem snd_if {c : TT} {t u : TE} {dc : DT} {a b : DE} (hc : SndT K c dc) (ha : SndE K t a) (hb : SndE K u b) : SndE K (tIf c t u) (dIf dc a b) := fun F σ H Hb ρ Q Qd hK r hd q =>
  hc F σ H Hb ρ _ _ hK r hd fun c H1 Hb1 ρ1 r1 b1 hq => by
    cases c with
    | true => exact iteT (ha F σ H1 Hb1 ρ1 Q Qd hK r1 hq fun v d H' Hb' ρ' r' b' => q v d H' Hb' ρ' r' (b1.trans b'))
    | false => exact iteF (hb F σ H1 Hb1 ρ1 Q Qd hK r1 hq fun v d H' Hb' ρ' r' b' => q v d H' Hb' ρ' r' (b1.trans b'))
/-! ### truth of any value -/
def truth : D → Option Bool
  | .non => some false
  | .bl b => some b
  | .int i => some (i != 0)
  | .tup ds => some (!ds.isEmpty)
  | .ktup ds => some (!ds.isEmpty)
  | .lst ds => some (!ds.isEmpty)
  | _ => none
def optD {α : Type} : Option α → (α → Prop) → Prop
  | some x, k => k x
  | none, _ => False
theorem optD_ok {α : Type} {o : Option α} {k : α → Prop} (h : optD o k) : ∃ x, o = some x ∧ k x := by
  cases o with
  | none => exact h.elim
  | some x => exact ⟨x, rfl, h⟩
theorem optD_of {α : Type} {o : Option α} {k : α → Prop} {x : α} (e : o = some x) (h : k x) : optD o k := by
  rw [e]
  exact h
theorem isEmpty_len {α β : Type} {xs : List α} {ys : List β} (h : xs.length = ys.length) : xs.isEmpty = ys.isEmpty := by
  cases xs <;> cases ys <;> first | rfl | cases h
theorem View.tru {Hb H : Hp} {v : V} {d : D} {b : Bool} (s : Same Hb H) (h : View K Hb H v d) (e : truth d = some b) : TruV K v H b := by
  cases d with
  | non => cases h.non; cases e; rfl
  | bl c => cases h.bl; cases e; rfl
  | int i => cases h.int; cases e; rfl
  | tup ds =>
    obtain ⟨a, vs, rfl, h1, _, h2⟩ := h.tup s
    cases e
    exact .inr (.inl ⟨vs, h1, by rw [isEmpty_len h2.len]⟩)
  | ktup ds =>
    obtain ⟨a, vs, rfl, h1, h2⟩ := h.ktup
    cases e
    exact .inr (.inl ⟨vs, h1, by rw [isEmpty_len h2.len]⟩)
  | lst ds =>
    obtain ⟨a, vs, rfl, h1, h2⟩ := h.lst' s
    cases e
    exact .inl ⟨vs, SqL.of h1, by rw [isEmpty_len h2.len]⟩
  | _ => cases e
def dTru (a : Opd) : DT := fun ρ Q => a.run ρ fun p ρ1 => p.res ρ1 fun d => optD (truth d) fun b => Q b ρ1
theorem snd_tru {t : TE} {a : Opd} (ha : SndO K t a) : SndT K (fun σ H Q => t σ H fun x H' => ∃ k, TruV K x H' k ∧ Q k H') (dTru a) := fun F σ H Hb ρ Q Qd hK r hd q => by
  subst hK
  refine SndO.use (t := t) rfl r ha hd fun v p H1 Hb1 ρ1 r1 b1 o1 h1 => ?_
  obtain ⟨d, vd, h3⟩ := OpAt.res r1 o1 h1
  obtain ⟨b, e, h3⟩ := optD_ok h3
  exact ⟨b, vd.tru r1.sub e, q b H1 Hb1 ρ1 r1 b1 h3⟩
/-! ### a < b < c -/
def dChain (f g : D → D → (D → Prop) → Prop) (a b c : DE) : DE := fun ρ Q => a ρ fun x ρ1 => b ρ1 fun y ρ2 => f x y fun z => bl1 z fun k => ifD k (c ρ2 fun w ρ3 => g y w fun u => Q u ρ3) (Q (.bl false) ρ2)
theorem snd_chain {r r' : R2} {f g : D → D → (D → Prop) → Prop} {ta tb tc : TE} {a b c : DE} (hf : OpS K r f) (hg : OpS K r' g) (ha : SndE K ta a) (hb : SndE K tb b) (hc : SndE K tc c) : SndE K (tChain r r' ta tb tc) (dChain f g a b c) := fun F σ H Hb ρ Q Qd hK rr h q => by
  subst hK
  refine ha F σ H Hb ρ _ _ rfl rr h fun v d H1 Hb1 ρ1 r1 b1 p1 h1 => ?_
  refine hb F σ H1 Hb1 ρ1 _ _ rfl r1 h1 fun w e H2 Hb2 ρ2 r2 b2 p2 h2 => ?_
  refine hf H2 Hb2 v w d e _ _ r2.sub (.rep (Rep.mono b2 _ _ p1)) (.rep p2) h2 fun u x H3 Hb3 g3 rp hq => ?_
  obtain ⟨k, rfl, hq⟩ := bl1_ok hq
  cases rp
  have r3 := r2.grow g3
  refine ⟨k, rfl, ?_⟩
  cases k with
  | true => exact iteT (hc F σ H3 Hb3 ρ2 _ _ rfl r3 hq fun v' d' H4 Hb4 ρ4 r4 b4 p4 h4 => hg H4 Hb4 w v' e d' Q _ r4.sub (.rep (Rep.mono (g3.b.trans b4) _ _ p2)) (.rep p4) h4 fun u x H5 Hb5 g5 rp hq => q u x H5 Hb5 ρ4 (r4.grow g5) ((((b1.trans b2).trans g3.b).trans b4).trans g5.b) rp hq)
  | false => exact iteF (q _ _ H3 Hb3 ρ2 r3 ((b1.trans b2).trans g3.b) (.bl _) hq)
end
end PL
namespace PL
open PySem PySem.Spec PyProof.Rows L2 TB
structure DEnds where
  nx : Rho → Prop
  rt : D → Rho → Prop
  bk : Rho → Prop
  ct : Rho → Prop
abbrev DS := DEnds → Rho → Prop
structure EndsOk (F : Fx) (B : Hp) (D : Ends) (E : DEnds) : Prop where
  nx : ∀ σ H Hb ρ, R F σ H Hb ρ → Same B Hb → E.nx ρ → D.nx σ H
  rt : ∀ v d σ H Hb ρ, R F σ H Hb ρ → Same B Hb → Rep F.K Hb v d → E.rt d ρ → D.rt v H
  bk : ∀ σ H Hb ρ, R F σ H Hb ρ → Same B Hb → E.bk ρ → D.bk σ H
  ct : ∀ σ H Hb ρ, R F σ H Hb ρ → Same B Hb → E.ct ρ → D.ct σ H
theorem EndsOk.up {F : Fx} {B B' : Hp} {D : Ends} {E : DEnds} (e : EndsOk F B D E) (s : Same B B') : EndsOk F B' D E :=
  ⟨fun σ H Hb ρ r b => e.nx σ H Hb ρ r (s.trans b), fun v d σ H Hb ρ r b => e.rt v d σ H Hb ρ r (s.trans b), fun σ H Hb ρ r b => e.bk σ H Hb ρ r (s.trans b), fun σ H Hb ρ r b => e.ct σ H Hb ρ r (s.trans b)⟩
def SndS (K : PySem.W.Frag) (t : TS) (ds : DS) : Prop := ∀ (F : Fx) σ H Hb ρ (D : Ends) (E : DEnds), F.K = K → R F σ H Hb ρ → ds E ρ → EndsOk F Hb D E → t D σ H
abbrev DG := D → Rho → (Rho → Prop) → Prop
abbrev DGs := List D → Rho → (Rho → Prop) → Prop
def SndG (K : PySem.W.Frag) (g : TG) (dg : DG) : Prop := ∀ (F : Fx) σ H Hb ρ v d (Q : L2.St → Hp → Prop) (Qd : Rho → Prop), F.K = K → R F σ H Hb ρ → Rep K Hb v d → dg d ρ Qd → (∀ σ' H' Hb' ρ', R F σ' H' Hb' ρ' → Same Hb Hb' → Qd ρ' → Q σ' H') → g v σ H Q
def SndGs (K : PySem.W.Frag) (g : TGs) (dg : DGs) : Prop := ∀ (F : Fx) σ H Hb ρ vs ds (Q : L2.St → Hp → Prop) (Qd : Rho → Prop), F.K = K → R F σ H Hb ρ → RepAll K Hb vs ds → dg ds ρ Qd → (∀ σ' H' Hb' ρ', R F σ' H' Hb' ρ' → Same Hb Hb' → Qd ρ' → Q σ' H') → g vs σ H Q
section
variable {K : PySem.W.Frag}
def dNext : DS := fun E ρ => E.nx ρ
theorem sns_next : SndS K tNext dNext := fun F σ H Hb ρ D E hK r h e => e.nx σ H Hb ρ r (Same.refl _) h
def dBreak : DS := fun E ρ => E.bk ρ
theorem sns_break : SndS K tBreak dBreak := fun F σ H Hb ρ D E hK r h e => e.bk σ H Hb ρ r (Same.refl _) h
def dCont : DS := fun E ρ => E.ct ρ
theorem sns_cont : SndS K tCont dCont := fun F σ H Hb ρ D E hK r h e => e.ct σ H Hb ρ r (Same.refl _) h
def dNever : DS := fun _ _ => False
theorem sns_never : SndS K tNever dNever := fun F σ H Hb ρ D E hK r h e => h.elim
def dSeq (a b : DS) : DS := fun E ρ => a { E with nx := b E } ρ
theorem sns_seq {t u : TS} {a b : DS} (ha : SndS K t a) (hb : SndS K u b) : SndS K (tSeq t u) (dSeq a b) := fun F σ H Hb ρ D E hK r h e =>
  ha F σ H Hb ρ _ _ hK r h ⟨fun σ' H' Hb' ρ' r' s h' => hb F σ' H' Hb' ρ' D E hK r' h' (e.up s), e.rt, e.bk, e.ct⟩
def dDrop (de : DE) : DS := fun E ρ => de ρ fun _ ρ' => E.nx ρ'
theorem sns_drop {t : TE} {de : DE} (h : SndE K t de) : SndS K (tDrop t) (dDrop de) := fun F σ H Hb ρ D E hK r hd e =>
  h F σ H Hb ρ _ _ hK r hd fun v d H' Hb' ρ' r' b rp q => e.nx σ H' Hb' ρ' r' b q
def dRet (de : DE) : DS := fun E ρ => de ρ E.rt
theorem sns_ret {t : TE} {de : DE} (h : SndE K t de) : SndS K (tRet t) (dRet de) := fun F σ H Hb ρ D E hK r hd e =>
  h F σ H Hb ρ _ _ hK r hd fun v d H' Hb' ρ' r' b rp q => e.rt v d σ H' Hb' ρ' r' b (by subst hK; exact rp) q
def dRetN : DS := fun E ρ => E.rt .non ρ
theorem sns_retN : SndS K tRetN dRetN := fun F σ H Hb ρ D E hK r h e => e.rt .non .non σ H Hb ρ r (Same.refl _) .non h
def dIfS (c : DT) (a b : DS) : DS := fun E ρ => c ρ fun k ρ1 => ifD k (a E ρ1) (b E ρ1)
theorem sns_if {c : TT} {t u : TS} {dc : DT} {a b : DS} (hc : SndT K c dc) (ha : SndS K t a) (hb : SndS K u b) : SndS K (tIfS c t u) (dIfS dc a b) := fun F σ H Hb ρ D E hK r hd e =>
  hc F σ H Hb ρ _ _ hK r hd fun k H1 Hb1 ρ1 r1 b1 q => by
    cases k with
    | true => exact iteT (ha F σ H1 Hb1 ρ1 D E hK r1 q (e.up b1))
    | false => exact iteF (hb F σ H1 Hb1 ρ1 D E hK r1 q (e.up b1))
def dJoin (a : DS) : DS := fun E ρ => ∃ P : Rho → Prop, a { E with nx := P } ρ ∧ ∀ ρ', P ρ' → E.nx ρ'
theorem sns_join {t : TS} {a : DS} (h : SndS K t a) : SndS K (jS t) (dJoin a) := fun F σ H Hb ρ D E hK r ⟨P, h1, h2⟩ e =>
  ⟨fun σ' H' => ∃ Hb' ρ', R F σ' H' Hb' ρ' ∧ Same Hb Hb' ∧ P ρ', h F σ H Hb ρ _ _ hK r h1 ⟨fun σ' H' Hb' ρ' r' s p => ⟨Hb', ρ', r', s, p⟩, e.rt, e.bk, e.ct⟩, fun σ' H' ⟨Hb', ρ', r', s, p⟩ => e.nx σ' H' Hb' ρ' r' s (h2 ρ' p)⟩
/-! ### targets -/
def gN (i : Nat) : DG := fun d ρ Q => Q (ρ.set i (.val d))
theorem sng_name (i : Nat) : SndG K (gName i) (gN i) := fun F σ H Hb ρ v d Q Qd hK r rp h q => by
  subst hK
  exact q _ H Hb _ (r.setV rp i) (Same.refl _) h
def gsNil : DGs := fun ds ρ Q => match ds with
  | [] => Q ρ
  | _ => False
theorem sng_nil : SndGs K gNil gsNil := fun F σ H Hb ρ vs ds Q Qd hK r rp h q => by
  cases rp with
  | nil => exact ⟨rfl, q σ H Hb ρ r (Same.refl _) h⟩
  | cons _ _ => exact h.elim
def gsCons (g : DG) (gs : DGs) : DGs := fun ds ρ Q => match ds with
  | d :: r => g d ρ fun ρ1 => gs r ρ1 Q
  | _ => False
theorem sng_cons {t : TG} {u : TGs} {g : DG} {gs : DGs} (hg : SndG K t g) (hs : SndGs K u gs) : SndGs K (gCons t u) (gsCons g gs) := fun F σ H Hb ρ vs ds Q Qd hK r rp h q => by
  cases rp with
  | nil => exact h.elim
  | cons h1 h2 => exact ⟨_, _, rfl, hg F σ H Hb ρ _ _ _ _ hK r h1 h fun σ1 H1 Hb1 ρ1 r1 b1 q1 => hs F σ1 H1 Hb1 ρ1 _ _ _ _ hK r1 (RepAll.mono b1 _ _ h2) q1 fun σ' H' Hb' ρ' r' b' => q σ' H' Hb' ρ' r' (b1.trans b')⟩
def gT (n : Nat) (gs : DGs) : DG := fun d ρ Q => match d with
  | .tup ds => ds.length = n ∧ gs ds ρ Q
  | _ => False
theorem sng_tup {n : Nat} {u : TGs} {gs : DGs} (hs : SndGs K u gs) : SndG K (gTup K n u) (gT n gs) := fun F σ H Hb ρ v d Q Qd hK r rp h q => by
  cases rp with
  | tup h1 h2 =>
    obtain ⟨hl, h⟩ := h
    exact ⟨_, _, rfl, SqT.of (r.sub _ _ h1), h2.len.trans hl, hs F σ H Hb ρ _ _ _ _ hK r h2 h q⟩
  | _ => exact h.elim
def dAsg (de : DE) (g : DG) : DS := fun E ρ => de ρ fun d ρ1 => g d ρ1 E.nx
theorem sns_asg {t : TE} {de : DE} {g : TG} {dg : DG} (he : SndE K t de) (hg : SndG K g dg) : SndS K (tAsg t g) (dAsg de dg) := fun F σ H Hb ρ D E hK r hd e =>
  he F σ H Hb ρ _ _ hK r hd fun v d H' Hb' ρ' r' b rp q => hg F σ H' Hb' ρ' v d _ _ hK r' rp q fun σ2 H2 Hb2 ρ2 r2 b2 q2 => e.nx σ2 H2 Hb2 ρ2 r2 (b.trans b2) q2
/-- the slot takes a list, a dict of one's own -/
def dSetN (i : Nat) (dn : DN) : DS := fun E ρ => dn ρ fun m ρ1 => E.nx (ρ1.set i (.own m))
theorem sns_setN (i : Nat) {t : TE} {dn : DN} (h : SndN K t dn) : SndS K (tAsg t (gName i)) (dSetN i dn) := fun F σ H Hb ρ D E hK r hd e =>
  h F σ H Hb ρ _ _ hK r hd fun p m H1 H' Hb' ρ' r' b n s hm q => by
    subst hK
    exact e.nx _ H' Hb' _ (r'.newM n s hm i) b q
theorem R.lenS {F : Fx} {σ : L2.St} {H Hb : Hp} {ρ : Rho} (r : R F σ H Hb ρ) {i : Nat} {v : Option V} (e : σ[i]? = some v) : ∃ c, ρ[i]? = some c := by
  have hi := (List.getElem?_eq_some_iff.mp e).1
  rw [r.len] at hi
  exact ⟨_, List.getElem?_eq_getElem hi⟩
/-- one's own object goes to another slot -/
theorem R.move {F : Fx} {σ : L2.St} {H Hb : Hp} {ρ : Rho} (r : R F σ H Hb ρ) {i j : Nat} {m : M} {v : V} (e : ρ[j]? = some (.own m)) (es : σ[j]? = some (some v)) : R F (σ.set i (some v)) H Hb ((ρ.set j .no).set i (.own m)) := by
  have old := r.cell j _ _ e es
  have look : ∀ (k : Nat) c, ((ρ.set j .no).set i (.own m))[k]? = some c → (i = k ∧ c = .own m) ∨ (i ≠ k ∧ c = .no) ∨ (i ≠ k ∧ j ≠ k ∧ ρ[k]? = some c) := fun k c h => by
    rw [List.getElem?_set] at h
    by_cases hk : i = k
    · rw [if_pos hk] at h
      split at h
      · cases h; exact .inl ⟨hk, rfl⟩
      · cases h
    · rw [if_neg hk, List.getElem?_set] at h
      by_cases hj : j = k
      · rw [if_pos hj] at h
        split at h
        · cases h; exact .inr (.inl ⟨hk, rfl⟩)
        · cases h
      · rw [if_neg hj] at h
        exact .inr (.inr ⟨hk, hj, h⟩)
  refine ⟨r.sub, r.fr, r.al, r.nw, by rw [List.length_set, List.length_set, List.length_set]; exact r.len, fun k c x e1 e2 => ?_, fun k l c d a n e1 e2 m1 m2 f1 f2 => ?_⟩
  · rw [List.getElem?_set] at e2
    rcases look k c e1 with ⟨h1, rfl⟩ | ⟨h1, rfl⟩ | ⟨h1, h2, h3⟩
    · rw [if_pos h1] at e2
      split at e2
      · cases e2; exact old
      · cases e2
    · trivial
    · rw [if_neg h1] at e2
      exact r.cell k c x h3 e2
  · rw [List.getElem?_set] at f1 f2
    rcases look k c e1 with ⟨h1, rfl⟩ | ⟨h1, rfl⟩ | ⟨h1, h2, h3⟩
    · rcases look l d e2 with ⟨g1, rfl⟩ | ⟨g1, rfl⟩ | ⟨g1, g2, g3⟩
      · exact n (h1.symm.trans g1)
      · cases m2
      · rw [if_pos h1] at f1
        rw [if_neg g1] at f2
        split at f1
        · cases f1
          exact r.dis j l _ d a g2 e g3 rfl m2 es f2
        · cases f1
    · cases m1
    · rcases look l d e2 with ⟨g1, rfl⟩ | ⟨g1, rfl⟩ | ⟨g1, g2, g3⟩
      · rw [if_neg h1] at f1
        rw [if_pos g1] at f2
        split at f2
        · cases f2
          exact r.dis j k _ c a h2 e h3 rfl m1 es f1
        · cases f2
      · cases m2
      · rw [if_neg h1] at f1
        rw [if_neg g1] at f2
        exact r.dis k l c d a n h3 g3 m1 m2 f1 f2
def ownM : Option Cell → (M → Prop) → Prop
  | some (.own m), k => k m
  | _, _ => False
theorem ownM_ok {c : Option Cell} {k : M → Prop} (h : ownM c k) : ∃ m, c = some (.own m) ∧ k m := by
  cases c with
  | none => exact h.elim
  | some c =>
    cases c with
    | own m => exact ⟨m, rfl, h⟩
    | _ => exact h.elim
def dMove (i j : Nat) : DS := fun E ρ => ownM ρ[j]? fun m => E.nx ((ρ.set j .no).set i (.own m))
theorem sns_move (i j : Nat) : SndS K (tAsg (tVar j) (gName i)) (dMove i j) := fun F σ H Hb ρ D E hK r hd e => by
  obtain ⟨m, h1, h2⟩ := ownM_ok hd
  obtain ⟨a, m', e1, _⟩ := r.mine h1 rfl
  exact ⟨_, e1, e.nx _ H Hb _ (r.move h1 e1) (Same.refl _) h2⟩
/-- one's own object is one's own no more: it is data -/
def frzM : M → (D → Prop) → Prop
  | .lst ds, k => k (.lst ds)
  | .dct es, k => k (.dct es)
  | .dcu es, k => k (.dcu es)
  | .dice, _ => False
theorem R.freeze {F : Fx} {σ : L2.St} {H Hb : Hp} {ρ : Rho} (r : R F σ H Hb ρ) {i : Nat} {m : M} {k : D → Prop} (e : ρ[i]? = some (.own m)) (h : frzM m k) : ∃ d v Hb', k d ∧ Same Hb Hb' ∧ σ[i]? = some (some v) ∧ Rep F.K Hb' v d ∧ R F σ H Hb' (ρ.set i (.val d)) := by
  obtain ⟨a, m', e1, hm, nb, nf, h5⟩ := r.mine e rfl
  have hal : F.al a ∧ m' = m := by
    rcases h5 with ⟨h6, h7⟩ | h6
    · cases h6; exact ⟨h7, rfl⟩
    · cases h6
  obtain ⟨hal, rfl⟩ := hal
  have sb : Same Hb (with1 Hb H a) := fun b o eb => by
    unfold with1
    have hb : b ≠ a := fun z => by rw [z, nb] at eb; cases eb
    rw [if_neg hb]; exact eb
  have ea : with1 Hb H a a = H a := if_pos rfl
  have hi := (List.getElem?_eq_some_iff.mp e).1
  have fin : ∀ d, Rep F.K (with1 Hb H a) (.ref a) d → k d → ∃ d v Hb', k d ∧ Same Hb Hb' ∧ σ[i]? = some (some v) ∧ Rep F.K Hb' v d ∧ R F σ H Hb' (ρ.set i (.val d)) := fun d hd hk => by
    refine ⟨d, _, with1 Hb H a, hk, sb, e1, hd, ⟨fun b o eb => ?_, r.fr, fun b eb => ?_, r.nw, by rw [List.length_set]; exact r.len, fun j c v e2 e3 => ?_, fun j l c d' b n e2 e3 m1 m2 f1 => ?_⟩⟩
    · unfold with1 at eb
      by_cases hb : b = a
      · rw [if_pos hb] at eb; rw [hb]; exact eb
      · rw [if_neg hb] at eb; exact r.sub _ _ eb
    · unfold with1 at eb
      by_cases hb : b = a
      · rw [hb]; exact .inl hal
      · rw [if_neg hb] at eb; exact r.al b eb
    · rw [List.getElem?_set] at e2
      by_cases hj : i = j
      · subst hj
        rw [if_pos rfl, if_pos hi] at e2
        cases e2
        rw [e1] at e3
        cases e3
        exact ⟨_, rfl, hd⟩
      · rw [if_neg hj] at e2
        have old := r.cell j c v e2 e3
        have far : ∀ b, c.mine = true → σ[j]? = some (some (.ref b)) → b ≠ a := fun b hc q z => r.dis i j (.own m') c a hj e e2 rfl hc e1 (by rw [q, z])
        cases c with
        | no => trivial
        | val d => obtain ⟨x, q1, q2⟩ := old; exact ⟨x, q1, Rep.mono sb _ _ q2⟩
        | own m2 =>
          obtain ⟨b, rfl, m1, n, f, al⟩ := old
          exact ⟨b, rfl, MAt.mono sb (fun o q => q) m1, by unfold with1; rw [if_neg (far b rfl e3)]; exact n, f, al⟩
        | io b m2 =>
          obtain ⟨rfl, m1, n, f⟩ := old
          exact ⟨rfl, MAt.mono sb (fun o q => q) m1, by unfold with1; rw [if_neg (far b rfl e3)]; exact n, f⟩
        | lck b m2 =>
          obtain ⟨q1, o, u, q2, q3⟩ := old
          exact ⟨q1, o, u, q2, q3.mono sb⟩
    · rw [List.getElem?_set] at e2 e3
      by_cases hj : i = j
      · rw [if_pos hj] at e2
        rw [if_pos hi] at e2
        cases e2; cases m1
      · rw [if_neg hj] at e2
        by_cases hl : i = l
        · rw [if_pos hl, if_pos hi] at e3
          cases e3; cases m2
        · rw [if_neg hl] at e3
          exact r.dis j l c d' b n e2 e3 m1 m2 f1
  cases m' with
  | lst ds =>
    obtain ⟨vs, h1, h2⟩ := hm
    exact fin _ (.lst (ea.trans h1) (RepAll.mono sb _ _ h2)) h
  | dct es =>
    obtain ⟨vs, h1, h2⟩ := hm
    exact fin _ (.dct (.inl (ea.trans h1)) (RepKV.mono sb _ _ h2)) h
  | dcu es =>
    obtain ⟨vs, h1, h2⟩ := hm
    exact fin _ (.dcu (.inl (ea.trans h1)) (RepKT.mono sb _ _ h2)) h
  | dice => exact h.elim
def dFrz (i : Nat) (a : DS) : DS := fun E ρ => ownM ρ[i]? fun m => frzM m fun d => a E (ρ.set i (.val d))
theorem sns_frz (i : Nat) {t : TS} {a : DS} (h : SndS K t a) : SndS K t (dFrz i a) := fun F σ H Hb ρ D E hK r hd e => by
  obtain ⟨m, h1, h2⟩ := ownM_ok hd
  obtain ⟨d, v, Hb', hk, sb, _, _, r'⟩ := r.freeze h1 h2
  exact h F σ H Hb' _ D E hK r' hk (e.up sb)
def dFrzE (i : Nat) (a : DE) : DE := fun ρ Q => ownM ρ[i]? fun m => frzM m fun d => a (ρ.set i (.val d)) Q
theorem snd_frz (i : Nat) {t : TE} {a : DE} (h : SndE K t a) : SndE K t (dFrzE i a) := fun F σ H Hb ρ Q Qd hK r hd e => by
  obtain ⟨m, h1, h2⟩ := ownM_ok hd
  obtain ⟨d, v, Hb', hk, sb, _, _, r'⟩ := r.freeze h1 h2
  exact h F σ H Hb' _ Q Qd hK r' hk fun v d H' Hb2 ρ' r2 b2 => e v d H' Hb2 ρ' r2 (sb.trans b2)
/-- return of one's own -/
def dRetO (i : Nat) : DS := dFrz i (dRet (dVar i))
theorem sns_retO (i : Nat) : SndS K (tRet (tVar i)) (dRetO i) := sns_frz i (sns_ret (snd_var i))
/-! ### x += e; a, b = e, f -/
def ip2 (f : Int → Int → Int) (d e : D) (k : D → Prop) : Prop := int2 d e fun i j => k (.int (f i j))
def dAug (i : Nat) (f : Int → Int → Int) (de : DE) : DS := fun E ρ => cellV ρ[i]? fun x => de ρ fun y ρ1 => ip2 f x y fun z => E.nx (ρ1.set i (.val z))
theorem sns_aug (i : Nat) {f : Int → Int → Int} {t : TE} {de : DE} (h : SndE K t de) : SndS K (tAug i t (ipI f)) (dAug i f de) := fun F σ H Hb ρ D E hK r hd e => by
  subst hK
  unfold dAug at hd
  cases e1 : ρ[i]? with
  | none => rw [e1] at hd; exact hd.elim
  | some c =>
    rw [e1] at hd
    cases c with
    | val d =>
      obtain ⟨v, h1, h2⟩ := r.val e1
      refine ⟨v, h1, h F σ H Hb ρ _ _ rfl r hd fun w y H1 Hb1 ρ1 r1 b1 p1 q1 => ?_⟩
      obtain ⟨x, z, rfl, rfl, q1⟩ := int2_ok q1
      cases h2
      cases p1
      exact ⟨x, z, rfl, rfl, e.nx _ H1 Hb1 _ (r1.setV (.int _) i) b1 q1⟩
    | _ => exact hd.elim
def dNilA : DA := fun ρ Q => Q [] ρ
def dConsA (a : DE) (r : DA) : DA := fun ρ Q => a ρ fun d ρ1 => r ρ1 fun ds ρ2 => Q (d :: ds) ρ2
theorem sna_nil : SndA K 0 tNil dNilA := fun F σ H Hb ρ Q Qd hK r h q => q [] [] H Hb ρ r (Same.refl _) .nil rfl h
theorem sna_cons {n : Nat} {t : TE} {u : TA} {a : DE} {b : DA} (ha : SndE K t a) (hb : SndA K n u b) : SndA K (n + 1) (tCons t u) (dConsA a b) := fun F σ H Hb ρ Q Qd hK r h q =>
  ha F σ H Hb ρ _ _ hK r h fun v d H1 Hb1 ρ1 r1 b1 p1 q1 => hb F σ H1 Hb1 ρ1 _ _ hK r1 q1 fun vs ds H2 Hb2 ρ2 r2 b2 p2 l2 q2 => q _ _ H2 Hb2 ρ2 r2 (b1.trans b2) (.cons (Rep.mono b2 _ _ p1) p2) (congrArg Nat.succ l2) q2
def dPar (i j : Nat) (a : DA) : DS := fun E ρ => a ρ fun ds ρ1 => match ds with
  | [x, y] => E.nx ((ρ1.set i (.val x)).set j (.val y))
  | _ => False
theorem sns_par (i j : Nat) {n : Nat} {t : TA} {a : DA} (h : SndA K n t a) : SndS K (tPar i j t) (dPar i j a) := fun F σ H Hb ρ D E hK r hd e =>
  h F σ H Hb ρ _ _ hK r hd fun vs ds H' Hb' ρ' r' b rp hl q => by
    subst hK
    cases rp with
    | nil => exact q.elim
    | cons h1 h2 =>
      cases h2 with
      | nil => exact q.elim
      | cons h3 h4 =>
        cases h4 with
        | nil => exact ⟨_, _, rfl, e.nx _ H' Hb' _ ((r'.setV h1 i).setV h3 j) b q⟩
        | cons _ _ => exact q.elim
/-! ### loops -/
/-- the frozen part of a frame -/
def fzH (fr : Hp) : Hp := fun b => match fr b with
  | some (.frz o u) => some (.frz o u)
  | _ => none
theorem fz_at {fr : Hp} {b : Addr} {o : Obj} {u : HO} (e : fr b = some (.frz o u)) : fzH fr b = some (.frz o u) := by
  unfold fzH
  rw [e]
theorem fz_same {fr H : Hp} (s : Same fr H) : Same (fzH fr) H := fun b o e => by
  unfold fzH at e
  split at e
  · rename_i q
    cases e
    exact s _ _ q
  · cases e
structure JAt (K : PySem.W.Frag) (J : It) (Hb fr : Hp) (items : List D) : Prop where
  go : ∀ (i : Nat) d H Hb1, Same Hb Hb1 → Same Hb1 H → Same fr H → items[i]? = some d → J.go i H ∧ ∀ x H', J.yld i H x H' → ∃ Hb', Gr H Hb1 H' Hb' ∧ Rep K Hb' x d
  stop : ∀ (i : Nat) H Hb1, Same Hb Hb1 → Same Hb1 H → Same fr H → items.length ≤ i → J.stop i H
abbrev DI := Rho → (List D → Rho → Prop) → Prop
def SndI (K : PySem.W.Frag) (wi : TI) (di : DI) : Prop := ∀ (F : Fx) σ H Hb ρ (Rk : It → Hp → Prop) (Qd : List D → Rho → Prop), F.K = K → R F σ H Hb ρ → di ρ Qd →
  (∀ J items H' Hb' ρ', R F σ H' Hb' ρ' → Same Hb Hb' → JAt K J Hb' (fzH F.fr) items → Qd items ρ' → Rk J H') → wi σ H Rk
def loopP (g : DG) (b : DS) (E : DEnds) (items : List D) (ρ : Rho) : Prop := ∃ P : Nat → Rho → Prop, P 0 ρ ∧ (∀ (i : Nat) x ρ, items[i]? = some x → P i ρ → g x ρ fun ρ1 => b ⟨P (i + 1), E.rt, E.nx, P (i + 1)⟩ ρ1) ∧ ∀ ρ, P items.length ρ → E.nx ρ
def dFor (di : DI) (g : DG) (b : DS) : DS := fun E ρ => di ρ fun items ρ1 => loopP g b E items ρ1
theorem sns_for {wi : TI} {g : TG} {tb : TS} {di : DI} {dg : DG} {db : DS} (hi : SndI K wi di) (hg : SndG K g dg) (hb : SndS K tb db) : SndS K (tFor wi g tb) (dFor di dg db) := fun F σ H Hb ρ D E hK r hd e => by
  refine hi F σ H Hb ρ _ _ hK r hd fun J items H1 Hb1 ρ1 r1 b1 ja ⟨P, p0, pt, pd⟩ => ?_
  refine ⟨fun i m σ H => m = items.length - i ∧ i ≤ items.length ∧ ∃ Hb ρ, R F σ H Hb ρ ∧ Same Hb1 Hb ∧ P i ρ, ⟨_, rfl, Nat.zero_le _, Hb1, ρ1, r1, Same.refl _, p0⟩, ?_⟩
  rintro i m σ2 H2 ⟨rfl, hl, Hb2, ρ2, r2, b2, q2⟩
  by_cases h : i < items.length
  · have ex : items[i]? = some items[i] := List.getElem?_eq_getElem h
    obtain ⟨go, yl⟩ := ja.go i _ H2 Hb2 b2 r2.sub (fz_same r2.fr) ex
    refine .inr ⟨go, fun σ H => i + 1 ≤ items.length ∧ ∃ Hb ρ, R F σ H Hb ρ ∧ Same Hb1 Hb ∧ P (i + 1) ρ, fun σ' H' ⟨h1, h2⟩ => ⟨_, by omega, rfl, h1, h2⟩, fun x H3 y => ?_⟩
    obtain ⟨Hb3, g3, rp⟩ := yl x H3 y
    refine hg F σ2 H3 Hb3 ρ2 x _ _ _ hK (r2.grow g3) rp (pt i _ ρ2 ex q2) fun σ4 H4 Hb4 ρ4 r4 b4 q4 => ?_
    have b14 : Same Hb1 Hb4 := (b2.trans g3.b).trans b4
    exact hb F σ4 H4 Hb4 ρ4 _ _ hK r4 q4 ⟨fun σ H Hb ρ r s h => ⟨by omega, Hb, ρ, r, b14.trans s, h⟩, fun v d σ H Hb ρ r s => e.rt v d σ H Hb ρ r ((b1.trans b14).trans s), fun σ H Hb ρ r s => e.nx σ H Hb ρ r ((b1.trans b14).trans s), fun σ H Hb ρ r s h => ⟨by omega, Hb, ρ, r, b14.trans s, h⟩⟩
  · have hi' : i = items.length := by omega
    subst hi'
    exact .inl ⟨ja.stop _ H2 Hb2 b2 r2.sub (fz_same r2.fr) (Nat.le_refl _), e.nx σ2 H2 Hb2 ρ2 r2 (b1.trans b2) (pd ρ2 q2)⟩
def dWhile (c : DT) (b : DS) : DS := fun E ρ => ∃ P : Nat → Rho → Prop, (∃ m, P m ρ) ∧ ∀ m ρ, P m ρ → c ρ fun k ρ1 => ifD k (b ⟨fun ρ' => ∃ m', m' < m ∧ P m' ρ', E.rt, E.nx, fun ρ' => ∃ m', m' < m ∧ P m' ρ'⟩ ρ1) (E.nx ρ1)
theorem sns_while {c : TT} {tb : TS} {dc : DT} {db : DS} (hc : SndT K c dc) (hb : SndS K tb db) : SndS K (tWhile c tb) (dWhile dc db) := fun F σ H Hb ρ D E hK r ⟨P, ⟨m0, p0⟩, pt⟩ e => by
  refine ⟨fun m σ H => ∃ Hb2 ρ, R F σ H Hb2 ρ ∧ Same Hb Hb2 ∧ P m ρ, ⟨m0, Hb, ρ, r, Same.refl _, p0⟩, ?_⟩
  rintro m σ1 H1 ⟨Hb1, ρ1, r1, b1, p1⟩
  refine hc F σ1 H1 Hb1 ρ1 _ _ hK r1 (pt m ρ1 p1) fun k H2 Hb2 ρ2 r2 b2 q2 => ?_
  have b12 := b1.trans b2
  cases k with
  | true =>
    refine iteT ⟨fun σ' H' => ∃ m', m' < m ∧ ∃ Hb2 ρ, R F σ' H' Hb2 ρ ∧ Same Hb Hb2 ∧ P m' ρ, fun σ' H' h => h, ?_⟩
    exact hb F σ1 H2 Hb2 ρ2 _ _ hK r2 q2 ⟨fun σ H Hb3 ρ r s ⟨m', h1, h2⟩ => ⟨m', h1, Hb3, ρ, r, b12.trans s, h2⟩, fun v d σ H Hb ρ r s => e.rt v d σ H Hb ρ r (b12.trans s), fun σ H Hb ρ r s => e.nx σ H Hb ρ r (b12.trans s), fun σ H Hb3 ρ r s ⟨m', h1, h2⟩ => ⟨m', h1, Hb3, ρ, r, b12.trans s, h2⟩⟩
  | false => exact iteF (e.nx σ1 H2 Hb2 ρ2 r2 b12 q2)
/-! ### what is walked -/
def dISeq (de : DE) : DI := fun ρ Q => de ρ fun d ρ1 => match d with
  | .tup ds => Q ds ρ1
  | .ktup ds => Q ds ρ1
  | _ => False
def dIList (de : DE) : DI := fun ρ Q => de ρ fun d ρ1 => match d with
  | .lst ds => Q ds ρ1
  | _ => False
theorem sni_tup {t : TE} {de : DE} (h : SndE K t de) : SndI K (iTup K t) (dISeq de) := fun F σ H Hb ρ Rk Qd hK r hd q =>
  h F σ H Hb ρ _ _ hK r hd fun v d H' Hb' ρ' r' b rp hq => by
    have go : ∀ {a : Addr} {xs : List V} {ds : List D}, (∀ H1 Hb1, Same Hb' Hb1 → Same Hb1 H1 → SqT K H1 a xs) → RepAll K Hb' xs ds → Qd ds ρ' → ∃ a', V.ref a = .ref a' ∧ (∃ xs, SqT K H' a' xs) ∧ Rk (Itt K a') H' := fun {a xs ds} h1 h2 hq => by
      refine ⟨a, rfl, ⟨_, h1 H' Hb' (Same.refl _) r'.sub⟩, q _ ds H' Hb' ρ' r' b ⟨fun i d H Hb1 s1 s2 _ e => ?_, fun i H Hb1 s1 s2 _ e => ⟨_, h1 H Hb1 s1 s2, by rw [h2.len]; exact e⟩⟩ hq⟩
      obtain ⟨v, e1, e2⟩ := h2.get e
      refine ⟨⟨_, v, h1 H Hb1 s1 s2, e1⟩, fun x H' ⟨y1, y2⟩ => ?_⟩
      subst y1
      have := y2 _ (h1 H' Hb1 s1 s2)
      rw [e1] at this
      cases this
      exact ⟨Hb1, Gr.refl s2, Rep.mono s1 _ _ e2⟩
    cases rp with
    | tup h1 h2 => exact go (fun H1 Hb1 s1 s2 => SqT.of (s2 _ _ (s1 _ _ h1))) h2 hq
    | ktup h1 h2 => exact go (fun H1 Hb1 s1 s2 => h1 H1) h2 hq
    | _ => exact hq.elim
theorem sni_list {t : TE} {de : DE} (h : SndE K t de) : SndI K (iList K t) (dIList de) := fun F σ H Hb ρ Rk Qd hK r hd q =>
  h F σ H Hb ρ _ _ hK r hd fun v d H' Hb' ρ' r' b rp hq => by
    cases rp with
    | lst h1 h2 =>
      rename_i a xs ds
      have h1 := SqL.of (K := K) h1
      refine ⟨a, rfl, ⟨_, r'.sub.seq h1⟩, q _ ds H' Hb' ρ' r' b ⟨fun i d H Hb1 s1 s2 _ e => ?_, fun i H Hb1 s1 s2 _ e => ⟨_, (s1.trans s2).seq h1, by rw [h2.len]; exact e⟩⟩ hq⟩
      obtain ⟨v, e1, e2⟩ := h2.get e
      refine ⟨⟨_, v, (s1.trans s2).seq h1, e1⟩, fun x H' ⟨y1, y2⟩ => ?_⟩
      subst y1
      have := y2 _ ((s1.trans s2).seq h1)
      rw [e1] at this
      cases this
      exact ⟨Hb1, Gr.refl s2, Rep.mono s1 _ _ e2⟩
    | _ => exact hq.elim
def rngD (lo : Int) (n : Nat) : List D := (List.range n).map fun i => .int (lo + (i : Nat))
theorem rngD_get {lo : Int} {n i : Nat} {d : D} (h : (rngD lo n)[i]? = some d) : i < n ∧ d = .int (lo + i) := by
  unfold rngD at h
  rw [List.getElem?_map] at h
  by_cases hi : i < n
  · rw [List.getElem?_range hi] at h
    cases h
    exact ⟨hi, rfl⟩
  · rw [List.getElem?_eq_none (by rw [List.length_range]; omega)] at h
    cases h
theorem rngD_len {lo : Int} {n : Nat} : (rngD lo n).length = n := by unfold rngD; rw [List.length_map, List.length_range]
theorem jat_rng {lo : Int} {n : Nat} {Hb fr : Hp} : JAt K (Itr lo n) Hb fr (rngD lo n) := ⟨fun i d H Hb1 s1 s2 _ e => by
  obtain ⟨h1, rfl⟩ := rngD_get e
  exact ⟨h1, fun x H' ⟨y1, y2⟩ => by subst y1 y2; exact ⟨Hb1, Gr.refl s2, .int _⟩⟩, fun i H Hb1 s1 s2 _ e => by rw [rngD_len] at e; exact e⟩
def dIRng1 (da : DA) : DI := fun ρ Q => da ρ fun ds ρ1 => match ds with
  | [.int j] => (-(2 ^ 62) ≤ j ∧ j < 2 ^ 62) ∧ Q (rngD 0 j.toNat) ρ1
  | _ => False
theorem sni_rng1 {n : Nat} {t : TA} {da : DA} (h : SndA K n t da) : SndI K (iRng1 t) (dIRng1 da) := fun F σ H Hb ρ Rk Qd hK r hd q =>
  h F σ H Hb ρ _ _ hK r hd fun vs ds H' Hb' ρ' r' b rp hl hq => by
    cases rp with
    | nil => exact hq.elim
    | cons h1 h2 =>
      cases h1 <;> first
        | exact hq.elim
        | (cases h2 with
          | cons _ _ => exact hq.elim
          | nil => exact ⟨_, rfl, hq.1.1, hq.1.2, q _ _ H' Hb' ρ' r' b jat_rng hq.2⟩)
def dIRng2 (da : DA) : DI := fun ρ Q => da ρ fun ds ρ1 => match ds with
  | [.int i, .int j] => (-(2 ^ 62) ≤ i ∧ i < 2 ^ 62 ∧ -(2 ^ 62) ≤ j ∧ j < 2 ^ 62) ∧ Q (rngD i (j - i).toNat) ρ1
  | _ => False
theorem sni_rng2 {n : Nat} {t : TA} {da : DA} (h : SndA K n t da) : SndI K (iRng2 t) (dIRng2 da) := fun F σ H Hb ρ Rk Qd hK r hd q =>
  h F σ H Hb ρ _ _ hK r hd fun vs ds H' Hb' ρ' r' b rp hl hq => by
    cases rp with
    | nil => exact hq.elim
    | cons h1 h2 =>
      cases h2 with
      | nil => cases h1 <;> exact hq.elim
      | cons h3 h4 =>
        cases h4 with
        | cons _ _ => cases h1 <;> cases h3 <;> exact hq.elim
        | nil => cases h1 <;> first | exact hq.elim | (cases h3 <;> first | exact hq.elim | exact ⟨_, _, rfl, hq.1, q _ _ H' Hb' ρ' r' b jat_rng hq.2⟩)
/-! ### comprehensions -/
def wipeR (ρ : Rho) : List Nat → Rho
  | [] => ρ
  | v :: vs => (wipeR ρ vs).set v .no
def freeC (ρ : Rho) : List Nat → Prop
  | [] => True
  | v :: vs => (match ρ[v]? with
    | some (.own _) => False
    | some (.io _ _) => False
    | _ => True) ∧ freeC ρ vs
/-- the block's own slots as they were outside -/
def backR (ρ : Rho) (vs : List Nat) (ρ' : Rho) : Rho := match vs with
  | [] => ρ'
  | v :: vs => (backR ρ vs ρ').set v (match ρ[v]? with
    | some c => c
    | none => .no)
theorem R.wiped {F : Fx} {σ : L2.St} {H Hb : Hp} {ρ : Rho} (r : R F σ H Hb ρ) : ∀ vs : List Nat, R F (wipe σ vs) H Hb (wipeR ρ vs)
  | [] => r
  | v :: vs => (r.wiped vs).forget v none
theorem R.len' {F : Fx} {σ : L2.St} {H Hb : Hp} {ρ : Rho} (r : R F σ H Hb ρ) : σ.length = ρ.length := r.len
theorem wipe_get {σ : L2.St} {i : Nat} : ∀ {vs : List Nat}, i ∉ vs → (wipe σ vs)[i]? = σ[i]?
  | [], _ => rfl
  | v :: vs, h => by
    unfold wipe
    rw [List.getElem?_set_ne (fun e => h (by rw [e]; exact List.mem_cons_self ..))]
    exact wipe_get fun m => h (List.mem_cons_of_mem _ m)
theorem backR_len {ρ ρ' : Rho} : ∀ {vs : List Nat}, (backR ρ vs ρ').length = ρ'.length
  | [] => rfl
  | v :: vs => by unfold backR; rw [List.length_set]; exact backR_len
theorem backR_out {ρ ρ' : Rho} {i : Nat} : ∀ {vs : List Nat}, i ∉ vs → (backR ρ vs ρ')[i]? = ρ'[i]?
  | [], _ => rfl
  | v :: vs, h => by
    unfold backR
    rw [List.getElem?_set_ne (fun e => h (by rw [e]; exact List.mem_cons_self ..))]
    exact backR_out fun m => h (List.mem_cons_of_mem _ m)
theorem backR_in {ρ ρ' : Rho} (hl : ρ.length = ρ'.length) {i : Nat} {c : Cell} : ∀ {vs : List Nat}, i ∈ vs → (backR ρ vs ρ')[i]? = some c → ρ[i]? = some c
  | v :: vs, h, e => by
    unfold backR at e
    by_cases hv : v = i
    · subst hv
      rw [List.getElem?_set, if_pos rfl] at e
      split at e
      · rename_i hlt
        rw [backR_len] at hlt
        rw [List.getElem?_eq_getElem (by omega)] at e ⊢
        exact e
      · cases e
    · rw [List.getElem?_set_ne hv] at e
      rcases List.mem_cons.mp h with z | z
      · exact absurd z.symm hv
      · exact backR_in hl z e
theorem freeC_at {ρ : Rho} {i : Nat} {c : Cell} : ∀ {vs : List Nat}, freeC ρ vs → i ∈ vs → ρ[i]? = some c → c.mine = false
  | v :: vs, ⟨h1, h2⟩, hm, e => by
    rcases List.mem_cons.mp hm with rfl | hm
    · rw [e] at h1
      cases c <;> first | rfl | exact h1.elim
    · exact freeC_at h2 hm e
/-- behind a block: the outer frame's slots, what is one's own as it is now -/
theorem R.back {F : Fx} {σ σ2 : L2.St} {H H0 Hb Hb0 : Hp} {ρ ρ' : Rho} {vs : List Nat} (r0 : R F σ H0 Hb0 ρ) (s : Same Hb0 Hb) (hf : freeC ρ vs) (r : R F σ2 H Hb ρ') (hw : wipe σ2 vs = wipe σ vs) : R F σ H Hb (backR ρ vs ρ') := by
  have hl : ρ.length = ρ'.length := by
    have := congrArg List.length hw
    rw [wipe_length, wipe_length, r.len, r0.len] at this
    exact this.symm
  have same : ∀ i, i ∉ vs → σ2[i]? = σ[i]? := fun i h => by rw [← wipe_get (σ := σ2) h, hw, wipe_get h]
  refine ⟨r.sub, r.fr, r.al, r.nw, by rw [backR_len, ← hl]; exact r0.len, fun i c v e1 e2 => ?_, fun i j c d a n e1 e2 m1 m2 f1 f2 => ?_⟩
  · by_cases hi : i ∈ vs
    · have e3 := backR_in hl hi e1
      have nm := freeC_at hf hi e3
      have old := r0.cell i c v e3 e2
      cases c with
      | no => trivial
      | val d => obtain ⟨x, q1, q2⟩ := old; exact ⟨x, q1, Rep.mono s _ _ q2⟩
      | own _ => cases nm
      | io _ _ => cases nm
      | lck a m => obtain ⟨q1, o, u, q2, q3⟩ := old; exact ⟨q1, o, u, q2, q3.mono s⟩
    · rw [backR_out hi] at e1
      exact r.cell i c v e1 (by rw [same i hi]; exact e2)
  · have out : ∀ k c, (backR ρ vs ρ')[k]? = some c → c.mine = true → k ∉ vs := fun k c q m hk => by
      have := freeC_at hf hk (backR_in hl hk q)
      rw [m] at this
      cases this
    have hi := out i c e1 m1
    have hj := out j d e2 m2
    rw [backR_out hi] at e1
    rw [backR_out hj] at e2
    exact r.dis i j c d a n e1 e2 m1 m2 (by rw [same i hi]; exact f1) (by rw [same j hj]; exact f2)
/-- the frame in which the new list at D grows -/
def Fx.at (F : Fx) (D : Addr) (acc : List V) : Fx := ⟨F.K, upd F.fr D (.lst acc), fun b => b ≠ D ∧ F.al b⟩
theorem R.enter {F : Fx} {σ : L2.St} {H Hb : Hp} {ρ : Rho} {D : Addr} (r : R F σ H Hb ρ) (n : H D = none) : R (F.at D []) σ (upd H D (.lst [])) Hb ρ := by
  have g : Gr H Hb (upd H D (.lst [])) Hb := ⟨same_new n, Same.refl _, r.sub.trans (same_new n), fun _ e => .inl e⟩
  have r2 := r.grow g
  have nH : ∀ a, H a ≠ none → a ≠ D := fun a h z => h (by rw [z]; exact n)
  refine ⟨r2.sub, fun b o e => ?_, fun b e => ?_, fun b e => ?_, r.len, fun i c v e1 e2 => ?_, r.dis⟩
  · by_cases hb : b = D
    · subst hb
      have e : upd F.fr b (.lst []) b = some o := e
      rw [upd_same] at e ⊢
      exact e
    · have e : upd F.fr D (.lst []) b = some o := e
      rw [upd_ne hb] at e ⊢
      exact r.fr _ _ e
  · rcases r2.al b e with z | z
    · refine .inl ⟨nH b ?_, z⟩
      obtain ⟨o, q⟩ := nonne e
      rw [r.sub _ _ q]
      exact fun z => nomatch z
    · exact .inr z
  · by_cases hb : b = D
    · subst hb; rw [upd_same] at e; cases e
    · rw [upd_ne hb] at e
      exact ⟨hb, r.nw b e⟩
  · have old := r2.cell i c v e1 e2
    have old1 := r.cell i c v e1 e2
    cases c with
    | no => trivial
    | val d => exact old
    | own m =>
      obtain ⟨a, q1, q2, q3, q4, q5⟩ := old
      obtain ⟨a', p1, p2, _⟩ := old1
      rw [q1] at p1
      cases p1
      have na := nH a (MAt.ne p2)
      exact ⟨a, q1, q2, q3, by show upd F.fr D _ a = none; rw [upd_ne na]; exact q4, na, q5⟩
    | io a m =>
      obtain ⟨q1, q2, q3, q4⟩ := old
      obtain ⟨p1, p2, _⟩ := old1
      have na := nH a (MAt.ne p2)
      exact ⟨q1, q2, q3, by show upd F.fr D _ a = none; rw [upd_ne na]; exact q4⟩
    | lck a m =>
      obtain ⟨q1, o, u, q2, q3⟩ := old
      have na := nH a (by rw [r.fr _ _ q2]; exact fun z => nomatch z)
      exact ⟨q1, o, u, by show upd F.fr D _ a = _; rw [upd_ne na]; exact q2, q3⟩
theorem R.frU {F : Fx} {σ : L2.St} {H Hb : Hp} {ρ : Rho} {D : Addr} {acc : List V} (r : R (F.at D acc) σ H Hb ρ) (nf : F.fr D = none) : Same F.fr H := fun b o e => by
  have hb : b ≠ D := fun z => by rw [z, nf] at e; cases e
  exact r.fr _ _ (show upd F.fr D _ b = _ by rw [upd_ne hb]; exact e)
theorem R.atD {F : Fx} {σ : L2.St} {H Hb : Hp} {ρ : Rho} {D : Addr} {acc : List V} (r : R (F.at D acc) σ H Hb ρ) : H D = some (.lst acc) ∧ Hb D = none := by
  have e : H D = some (.lst acc) := r.fr _ _ (show upd F.fr D _ D = _ from upd_same)
  refine ⟨e, ?_⟩
  cases q : Hb D with
  | none => rfl
  | some o =>
    rcases r.al D (by rw [q]; exact fun z => nomatch z) with z | ⟨xs, z⟩
    · exact absurd rfl z.1
    · rcases z with z | ⟨o, z⟩ <;> (rw [e] at z; cases z)
theorem R.grown {F : Fx} {σ : L2.St} {H Hb : Hp} {ρ : Rho} {D : Addr} {acc acc' : List V} (r : R (F.at D acc) σ H Hb ρ) : R (F.at D acc') σ (upd H D (.lst acc')) Hb ρ := by
  obtain ⟨hD, nb⟩ := r.atD
  refine ⟨fun b o e => ?_, fun b o e => ?_, fun b e => ?_, fun b e => ?_, r.len, fun i c v e1 e2 => ?_, r.dis⟩
  · have hb : b ≠ D := fun z => by rw [z, nb] at e; cases e
    rw [upd_ne hb]
    exact r.sub _ _ e
  · have e : upd F.fr D (.lst acc') b = some o := e
    by_cases hb : b = D
    · subst hb; rw [upd_same] at e ⊢; exact e
    · rw [upd_ne hb] at e ⊢
      exact r.fr _ _ (show upd F.fr D _ b = _ by rw [upd_ne hb]; exact e)
  · rcases r.al b e with z | ⟨xs, z⟩
    · exact .inl z
    · have hb : b ≠ D := fun q => e (by rw [q]; exact nb)
      refine .inr ⟨xs, ?_⟩
      rcases z with z | ⟨o, z⟩
      · exact .inl (by rw [upd_ne hb]; exact z)
      · exact .inr ⟨o, by rw [upd_ne hb]; exact z⟩
  · by_cases hb : b = D
    · subst hb; rw [upd_same] at e; cases e
    · rw [upd_ne hb] at e; exact r.nw b e
  · have old := r.cell i c v e1 e2
    have far : ∀ a, (F.at D acc).fr a = none → a ≠ D ∧ (F.at D acc').fr a = none := fun a h => by
      have h : upd F.fr D (.lst acc) a = none := h
      by_cases ha : a = D
      · subst ha; rw [upd_same] at h; cases h
      · rw [upd_ne ha] at h
        exact ⟨ha, by show upd F.fr D _ a = none; rw [upd_ne ha]; exact h⟩
    cases c with
    | no => trivial
    | val d => exact old
    | own m =>
      obtain ⟨a, q1, q2, q3, q4, q5⟩ := old
      obtain ⟨na, f⟩ := far a q4
      exact ⟨a, q1, MAt.mono (Same.refl _) (fun o e => by rw [upd_ne na]; exact e) q2, q3, f, q5⟩
    | io a m =>
      obtain ⟨q1, q2, q3, q4⟩ := old
      obtain ⟨na, f⟩ := far a q4
      exact ⟨q1, MAt.mono (Same.refl _) (fun o e => by rw [upd_ne na]; exact e) q2, q3, f⟩
    | lck a m =>
      obtain ⟨q1, o, u, q2, q3⟩ := old
      have q2 : upd F.fr D (.lst acc) a = some (.frz o u) := q2
      have na : a ≠ D := fun z => by rw [z, upd_same] at q2; cases q2
      rw [upd_ne na] at q2
      exact ⟨q1, o, u, by show upd F.fr D _ a = _; rw [upd_ne na]; exact q2, q3⟩
/-- the heap ahead of D -/
def sans (H : Hp) (D : Addr) : Hp := fun b => if b = D then none else H b
theorem R.leave {F : Fx} {σ : L2.St} {H Hb : Hp} {ρ : Rho} {D : Addr} {acc : List V} (r : R (F.at D acc) σ H Hb ρ) (nf : F.fr D = none) (al : F.al D) : R F σ (sans H D) Hb ρ ∧ Same (sans H D) H ∧ sans H D D = none := by
  obtain ⟨hD, nb⟩ := r.atD
  have ne : ∀ b, b ≠ D → sans H D b = H b := fun b h => if_neg h
  refine ⟨⟨fun b o e => ?_, fun b o e => ?_, fun b e => ?_, fun b e => ?_, r.len, fun i c v e1 e2 => ?_, r.dis⟩, fun b o e => ?_, if_pos rfl⟩
  · have hb : b ≠ D := fun z => by rw [z, nb] at e; cases e
    rw [ne b hb]; exact r.sub _ _ e
  · have hb : b ≠ D := fun z => by rw [z, nf] at e; cases e
    rw [ne b hb]
    exact r.fr _ _ (show upd F.fr D _ b = _ by rw [upd_ne hb]; exact e)
  · have hb : b ≠ D := fun q => e (by rw [q]; exact nb)
    rcases r.al b e with z | ⟨xs, z⟩
    · exact .inl z.2
    · refine .inr ⟨xs, ?_⟩
      rcases z with z | ⟨o, z⟩
      · exact .inl (by rw [ne b hb]; exact z)
      · exact .inr ⟨o, by rw [ne b hb]; exact z⟩
  · by_cases hb : b = D
    · rw [hb]; exact al
    · rw [ne b hb] at e; exact (r.nw b e).2
  · have old := r.cell i c v e1 e2
    have far : ∀ a, (F.at D acc).fr a = none → a ≠ D ∧ F.fr a = none := fun a h => by
      have h : upd F.fr D (.lst acc) a = none := h
      by_cases ha : a = D
      · subst ha; rw [upd_same] at h; cases h
      · rw [upd_ne ha] at h; exact ⟨ha, h⟩
    cases c with
    | no => trivial
    | val d => exact old
    | own m =>
      obtain ⟨a, q1, q2, q3, q4, q5⟩ := old
      obtain ⟨na, f⟩ := far a q4
      exact ⟨a, q1, MAt.mono (Same.refl _) (fun o e => by rw [ne a na]; exact e) q2, q3, f, q5.2⟩
    | io a m =>
      obtain ⟨q1, q2, q3, q4⟩ := old
      obtain ⟨na, f⟩ := far a q4
      exact ⟨q1, MAt.mono (Same.refl _) (fun o e => by rw [ne a na]; exact e) q2, q3, f⟩
    | lck a m =>
      obtain ⟨q1, o, u, q2, q3⟩ := old
      have q2 : upd F.fr D (.lst acc) a = some (.frz o u) := q2
      have na : a ≠ D := fun z => by rw [z, upd_same] at q2; cases q2
      rw [upd_ne na] at q2
      exact ⟨q1, o, u, q2, q3⟩
  · by_cases hb : b = D
    · rw [hb] at e; rw [show sans H D D = none from if_pos rfl] at e; cases e
    · rw [ne b hb] at e; exact e
def lcP (g : DG) (dt : DT) (de : DE) (vs : List Nat) (items : List D) (ρ : Rho) (Q : List D → Rho → Prop) : Prop := ∃ P : Nat → Rho → List D → Prop, P 0 ρ [] ∧
  (∀ (i : Nat) x ρ acc, items[i]? = some x → P i ρ acc → freeC ρ vs ∧ g x (wipeR ρ vs) fun ρ2 => dt ρ2 fun b ρ3 => ifD b (de ρ3 fun y ρ4 => P (i + 1) (backR ρ vs ρ4) (acc ++ [y])) (P (i + 1) (backR ρ vs ρ3) acc)) ∧ ∀ ρ acc, P items.length ρ acc → Q acc ρ
def dLc (di : DI) (g : DG) (dt : DT) (de : DE) (vs : List Nat) : DN := fun ρ Q => di ρ fun items ρ1 => items.length ≤ 1000000 ∧ lcP g dt de vs items ρ1 fun acc ρ2 => Q (.lst acc) ρ2
theorem wipe_set {σ : L2.St} {i : Nat} {x : Option V} : ∀ {vs : List Nat}, i ∈ vs → wipe (σ.set i x) vs = wipe σ vs
  | v :: vs, h => by
    unfold wipe
    by_cases hi : i ∈ vs
    · rw [wipe_set hi]
    · have e : i = v := by
        rcases List.mem_cons.mp h with z | z
        · exact z
        · exact absurd z hi
      subst e
      have : ∀ (ws : List Nat), i ∉ ws → wipe (σ.set i x) ws = (wipe σ ws).set i x := fun ws => by
        induction ws with
        | nil => intro _; rfl
        | cons w ws ih =>
          intro hw
          unfold wipe
          rw [ih fun m => hw (List.mem_cons_of_mem _ m), List.set_comm _ _ (fun e => hw (by rw [← e]; exact List.mem_cons_self ..))]
      rw [this vs hi, List.set_set]
/-- a target that stores names of the block alone -/
def SndGI (K : PySem.W.Frag) (g : TG) (dg : DG) (ws : List Nat) : Prop := ∀ (F : Fx) σ H Hb ρ v d (Q : L2.St → Hp → Prop) (Qd : Rho → Prop), F.K = K → R F σ H Hb ρ → Rep K Hb v d → dg d ρ Qd → (∀ σ' H' Hb' ρ', wipe σ' ws = wipe σ ws → R F σ' H' Hb' ρ' → Same Hb Hb' → Qd ρ' → Q σ' H') → g v σ H Q
def SndGsI (K : PySem.W.Frag) (g : TGs) (dg : DGs) (ws : List Nat) : Prop := ∀ (F : Fx) σ H Hb ρ vs ds (Q : L2.St → Hp → Prop) (Qd : Rho → Prop), F.K = K → R F σ H Hb ρ → RepAll K Hb vs ds → dg ds ρ Qd → (∀ σ' H' Hb' ρ', wipe σ' ws = wipe σ ws → R F σ' H' Hb' ρ' → Same Hb Hb' → Qd ρ' → Q σ' H') → g vs σ H Q
theorem sgi_name {i : Nat} {ws : List Nat} (hi : i ∈ ws) : SndGI K (gName i) (gN i) ws := fun F σ H Hb ρ v d Q Qd hK r rp h q => by
  subst hK
  exact q _ H Hb _ (wipe_set hi) (r.setV rp i) (Same.refl _) h
theorem sgi_nil {ws : List Nat} : SndGsI K gNil gsNil ws := fun F σ H Hb ρ vs ds Q Qd hK r rp h q => by
  cases rp with
  | nil => exact ⟨rfl, q σ H Hb ρ rfl r (Same.refl _) h⟩
  | cons _ _ => exact h.elim
theorem sgi_cons {t : TG} {u : TGs} {g : DG} {gs : DGs} {ws : List Nat} (hg : SndGI K t g ws) (hs : SndGsI K u gs ws) : SndGsI K (gCons t u) (gsCons g gs) ws := fun F σ H Hb ρ vs ds Q Qd hK r rp h q => by
  cases rp with
  | nil => exact h.elim
  | cons h1 h2 => exact ⟨_, _, rfl, hg F σ H Hb ρ _ _ _ _ hK r h1 h fun σ1 H1 Hb1 ρ1 w1 r1 b1 q1 => hs F σ1 H1 Hb1 ρ1 _ _ _ _ hK r1 (RepAll.mono b1 _ _ h2) q1 fun σ' H' Hb' ρ' w' r' b' => q σ' H' Hb' ρ' (w'.trans w1) r' (b1.trans b')⟩
theorem sgi_tup {n : Nat} {u : TGs} {gs : DGs} {ws : List Nat} (hs : SndGsI K u gs ws) : SndGI K (gTup K n u) (gT n gs) ws := fun F σ H Hb ρ v d Q Qd hK r rp h q => by
  cases rp with
  | tup h1 h2 =>
    obtain ⟨hl, h⟩ := h
    exact ⟨_, _, rfl, SqT.of (r.sub _ _ h1), h2.len.trans hl, hs F σ H Hb ρ _ _ _ _ hK r h2 h q⟩
  | _ => exact h.elim
theorem wipe_wipe {σ : L2.St} : ∀ {vs : List Nat}, wipe (wipe σ vs) vs = wipe σ vs := fun {vs} => by
  have key : ∀ (ws : List Nat) (τ : L2.St), (∀ w ∈ ws, ∀ x, τ[w]? = some x → x = none) → wipe τ ws = τ := fun ws => by
    induction ws with
    | nil => intro τ _; rfl
    | cons w ws ih =>
      intro τ h
      unfold wipe
      rw [ih τ fun v hv => h v (List.mem_cons_of_mem _ hv)]
      refine List.ext_getElem? fun j => ?_
      rw [List.getElem?_set]
      by_cases hj : w = j
      · subst hj
        rw [if_pos rfl]
        split
        · rename_i hl
          rw [List.getElem?_eq_getElem hl, h w (List.mem_cons_self ..) _ (List.getElem?_eq_getElem hl)]
        · rename_i hl
          rw [List.getElem?_eq_none (by omega)]
      · rw [if_neg hj]
  refine key vs _ fun w hw x e => ?_
  cases x with
  | none => rfl
  | some y => exact absurd hw (wipe_some e).2
theorem snd_lc {wi : TI} {g : TG} {tt : TT} {te : TE} {vs : List Nat} {di : DI} {dg : DG} {dt : DT} {de : DE} (hi : SndI K wi di) (hg : SndGI K g dg vs) (ht : SndT K tt dt) (he : SndE K te de) : SndN K (tLc wi g tt te vs) (dLc di dg dt de vs) := fun F σ H Hb ρ Q Qd hK r hd q => by
  subst hK
  refine hi F σ H Hb ρ _ _ rfl r hd fun J items H1 Hb1 ρ1 r1 b1 ja ⟨hz, P, p0, pt, pd⟩ => ?_
  intro D nD
  have nf : F.fr D = none := by
    cases e : F.fr D with
    | none => rfl
    | some o => rw [r1.fr _ _ e] at nD; cases nD
  have al : F.al D := r1.nw D nD
  refine ⟨fun i m H' => m = items.length - i ∧ i ≤ items.length ∧ ∃ Hb2 ρ2 accV acc, R (F.at D accV) σ H' Hb2 ρ2 ∧ Same Hb1 Hb2 ∧ RepAll F.K Hb2 accV acc ∧ acc.length ≤ i ∧ P i ρ2 acc,
    ⟨_, rfl, Nat.zero_le _, Hb1, ρ1, [], [], r1.enter nD, Same.refl _, .nil, Nat.le_refl _, p0⟩, ?_⟩
  rintro i m H2 ⟨rfl, hl, Hb2, ρ2, accV, acc, r2, b2, ra, hn, p2⟩
  by_cases h : i < items.length
  · have ex : items[i]? = some items[i] := List.getElem?_eq_getElem h
    obtain ⟨go, yl⟩ := ja.go i _ H2 Hb2 b2 r2.sub (fz_same (r2.frU nf)) ex
    refine .inr ⟨go, fun H' => i + 1 ≤ items.length ∧ ∃ Hb2 ρ2 accV acc, R (F.at D accV) σ H' Hb2 ρ2 ∧ Same Hb1 Hb2 ∧ RepAll F.K Hb2 accV acc ∧ acc.length ≤ i + 1 ∧ P (i + 1) ρ2 acc, fun H' ⟨h1, h2⟩ => ⟨_, by omega, rfl, h1, h2⟩, fun x H3 y => ?_⟩
    obtain ⟨Hb3, g3, rp⟩ := yl x H3 y
    obtain ⟨fc, st⟩ := pt i _ ρ2 acc ex p2
    have r3 := r2.grow g3
    have b3 := b2.trans g3.b
    have ra3 := RepAll.mono g3.b _ _ ra
    refine hg (F.at D accV) (wipe σ vs) H3 Hb3 (wipeR ρ2 vs) x items[i] _ _ rfl (r3.wiped vs) rp st fun σ4 H4 Hb4 ρ4 w4 r4 b4 q4 => ?_
    rw [wipe_wipe] at w4
    refine ⟨w4, ht (F.at D accV) σ4 H4 Hb4 ρ4 _ _ rfl r4 q4 fun k H5 Hb5 ρ5 r5 b5 q5 => ?_⟩
    have b35 := b4.trans b5
    cases k with
    | true =>
      refine iteT (he (F.at D accV) σ4 H5 Hb5 ρ5 _ _ rfl r5 q5 fun u e H6 Hb6 ρ6 r6 b6 rp6 q6 => ?_)
      obtain ⟨eD, nb⟩ := r6.atD
      have r7 := r3.back (b35.trans b6) fc r6 w4
      refine ⟨accV, eD, ?_, h, Hb6, _, accV ++ [u], acc ++ [e], r7.grown, b3.trans (b35.trans b6), (RepAll.mono (b35.trans b6) _ _ ra3).append (.one rp6), by rw [List.length_append, List.length_singleton]; omega, q6⟩
      have := ra.len
      rw [sizeLine_eq]
      omega
    | false =>
      refine iteF ⟨h, Hb5, _, accV, acc, r3.back b35 fc r5 w4, b3.trans b35, RepAll.mono b35 _ _ ra3, by omega, q5⟩
  · have hi' : i = items.length := by omega
    subst hi'
    obtain ⟨r4, s4, n4⟩ := r2.leave nf al
    exact .inl ⟨ja.stop _ H2 Hb2 b2 r2.sub (fz_same (r2.frU nf)) (Nat.le_refl _), q D (.lst acc) (sans H2 D) H2 Hb2 ρ2 r4 (b1.trans b2) n4 s4 ⟨accV, r2.atD.1, ra⟩ (pd ρ2 acc p2)⟩
end
end PL
namespace PL
open PySem PySem.Spec PyProof.Rows L2 TB
section
variable {K : PySem.W.Frag}
/-! ### what a def promises, by data -/
abbrev PD := List D → (D → Prop) → Prop
abbrev PI' := M → List D → (D → M → Prop) → Prop
def spP (K : PySem.W.Frag) (p : PD) : Sp := fun vs H Q _ => ∃ Hb ds Qd, Same Hb H ∧ RepAll K Hb vs ds ∧ p ds Qd ∧ ∀ v d H' Hb', Gr H Hb H' Hb' → Rep K Hb' v d → Qd d → Q v H'
/-- only the object at a has changed, more data -/
structure GrI (a : Addr) (H Hb H' Hb' : Hp) : Prop where
  s : ∀ b o, b ≠ a → H b = some o → H' b = some o
  b : Same Hb Hb'
  sub : Same Hb' H'
  nw : ∀ c, Hb' c ≠ none → Hb c ≠ none ∨ H c = none ∨ ∃ xs, Rd H' c (.tup xs)
  na : Hb' a = none
def spI (K : PySem.W.Frag) (p : PI') : Sp := fun vs H Q _ => ∃ a us Hb m ds Qd, vs = .ref a :: us ∧ Same Hb H ∧ Hb a = none ∧ MAt K Hb H a m ∧ RepAll K Hb us ds ∧ p m ds Qd ∧ ∀ v d m' H' Hb', GrI a H Hb H' Hb' → MAt K Hb' H' a m' → Rep K Hb' v d → Qd d m' → Q v H'
def startC (n : Nat) (cs : List Cell) : Rho := cs ++ List.replicate (n - cs.length) .no
theorem start_at {N : List Str} {vs : List V} {cs : List Cell} (hl : vs.length = cs.length) {i : Nat} {c : Cell} {v : Option V} (e1 : (startC N.length cs)[i]? = some c) (e2 : (L2.start N vs)[i]? = some v) : (cs[i]? = some c ∧ ∃ x, vs[i]? = some x ∧ v = some x) ∨ c = .no := by
  unfold startC at e1
  unfold L2.start at e2
  by_cases hi : i < cs.length
  · rw [List.getElem?_append_left hi] at e1
    rw [List.getElem?_append_left (by rw [List.length_map]; omega), List.getElem?_map, List.getElem?_eq_getElem (by omega)] at e2
    cases e2
    exact .inl ⟨e1, _, List.getElem?_eq_getElem (by omega), rfl⟩
  · rw [List.getElem?_append_right (by omega), List.getElem?_replicate] at e1
    split at e1
    · cases e1; exact .inr rfl
    · cases e1
theorem runP {t : TS} {ds : DS} {N : List Str} {p : PD} {vs : List V} {H : Hp} {Q : VK} {E : XK} (hs : SndS K t ds) (h : spP K p vs H Q E) (hn : ∀ as Qd, p as Qd → as.length ≤ N.length)
    (body : ∀ as Qd, p as Qd → ds ⟨fun _ => Qd .non, fun d _ => Qd d, fun _ => False, fun _ => False⟩ (startC N.length (as.map .val))) : t { nx := fun _ H' => Q .non H', rt := Q } (L2.start N vs) H := by
  obtain ⟨Hb, as, Qd, sb, ra, hp, q⟩ := h
  have hl := ra.len
  have hn := hn _ _ hp
  have r0 : R ⟨K, H, fun b => Hb b ≠ none ∨ H b = none⟩ (L2.start N vs) H Hb (startC N.length (as.map .val)) := by
    refine ⟨sb, Same.refl _, fun b e => .inl (.inl e), fun b e => .inr e, ?_, fun i c v e1 e2 => ?_, fun i j c d a n e1 _ m1 _ _ => ?_⟩
    · unfold L2.start startC
      simp
      omega
    · rcases start_at (by rw [List.length_map]; exact hl) e1 e2 with ⟨h1, x, h2, rfl⟩ | rfl
      · rw [List.getElem?_map] at h1
        obtain ⟨d, h3, h4⟩ := ra.get' h2
        rw [h3] at h1
        cases h1
        exact ⟨x, rfl, h4⟩
      · trivial
    · unfold startC at e1
      by_cases hi : i < (as.map Cell.val).length
      · rw [List.getElem?_append_left hi, List.getElem?_map] at e1
        cases q : as[i]? with
        | none => rw [q] at e1; cases e1
        | some d => rw [q] at e1; cases e1; cases m1
      · rw [List.getElem?_append_right (by omega), List.getElem?_replicate] at e1
        split at e1
        · cases e1; cases m1
        · cases e1
  have fin : ∀ {σ' H' Hb' ρ'} v d, R ⟨K, H, fun b => Hb b ≠ none ∨ H b = none⟩ σ' H' Hb' ρ' → Same Hb Hb' → Rep K Hb' v d → Qd d → Q v H' := fun {σ' H' Hb' ρ'} v d r s rp hq => by
    refine q v d H' Hb' ⟨r.fr, s, r.sub, fun b e => ?_⟩ rp hq
    rcases r.al b e with (z | z) | z
    · exact .inl z
    · exact .inr (.inl z)
    · exact .inr (.inr z)
  exact hs _ _ H Hb _ _ _ rfl r0 (body as Qd hp) ⟨fun σ' H' Hb' ρ' r s hq => fin .non .non r s .non hq, fun v d σ' H' Hb' ρ' r s rp hq => fin v d r s rp hq, fun _ _ _ _ _ _ z => z.elim, fun _ _ _ _ _ _ z => z.elim⟩
def io0 (a : Addr) (k : M → Prop) : Option Cell → Prop
  | some (.io b m) => b = a ∧ k m
  | _ => False
theorem runI {t : TS} {ds : DS} {N : List Str} {p : PI'} {vs : List V} {H : Hp} {Q : VK} {E : XK} (hs : SndS K t ds) (h : spI K p vs H Q E) (hn : ∀ m as Qd, p m as Qd → as.length + 1 ≤ N.length)
    (body : ∀ a m as Qd, p m as Qd → ds ⟨fun ρ => io0 a (Qd .non) ρ[0]?, fun d ρ => io0 a (Qd d) ρ[0]?, fun _ => False, fun _ => False⟩ (startC N.length (.io a m :: as.map .val))) : t { nx := fun _ H' => Q .non H', rt := Q } (L2.start N vs) H := by
  obtain ⟨a, us, Hb, m, as, Qd, rfl, sb, na, hm, ra, hp, q⟩ := h
  have hl := ra.len
  have hn := hn _ _ _ hp
  have r0 : R ⟨K, fun b => if b = a then none else H b, fun b => Hb b ≠ none ∨ H b = none⟩ (L2.start N (.ref a :: us)) H Hb (startC N.length (.io a m :: as.map .val)) := by
    have only : ∀ (i : Nat) c, (startC N.length (.io a m :: as.map .val))[i]? = some c → c.mine = true → i = 0 := fun i c e hm => by
      unfold startC at e
      cases i with
      | zero => rfl
      | succ i =>
        by_cases hi : i + 1 < (Cell.io a m :: as.map Cell.val).length
        · rw [List.getElem?_append_left hi, List.getElem?_cons_succ, List.getElem?_map] at e
          cases q : as[i]? with
          | none => rw [q] at e; cases e
          | some d => rw [q] at e; cases e; cases hm
        · rw [List.getElem?_append_right (by omega), List.getElem?_replicate] at e
          split at e
          · cases e; cases hm
          · cases e
    refine ⟨sb, fun b o e => ?_, fun b e => .inl (.inl e), fun b e => .inr e, ?_, fun i c v e1 e2 => ?_, fun i j c d a n e1 e2 m1 m2 _ => ?_⟩
    · have e : (if b = a then none else H b) = some o := e
      split at e
      · cases e
      · exact e
    · unfold L2.start startC
      simp
      omega
    · rcases start_at (by rw [List.length_cons, List.length_cons, List.length_map, hl]) e1 e2 with ⟨h1, x, h2, rfl⟩ | rfl
      · cases i with
        | zero => cases h1; cases h2; exact ⟨rfl, hm, na, if_pos rfl⟩
        | succ i =>
          rw [List.getElem?_cons_succ, List.getElem?_map] at h1
          rw [List.getElem?_cons_succ] at h2
          obtain ⟨d, h3, h4⟩ := ra.get' h2
          rw [h3] at h1
          cases h1
          exact ⟨x, rfl, h4⟩
      · trivial
    · exact absurd ((only i c e1 m1).trans (only j d e2 m2).symm) n
  have fin : ∀ {σ' H' Hb' ρ'} v d, R ⟨K, fun b => if b = a then none else H b, fun b => Hb b ≠ none ∨ H b = none⟩ σ' H' Hb' ρ' → Same Hb Hb' → Rep K Hb' v d → io0 a (Qd d) ρ'[0]? → Q v H' := fun {σ' H' Hb' ρ'} v d r s rp hq => by
    cases e : ρ'[0]? with
    | none => rw [e] at hq; exact hq.elim
    | some c =>
      rw [e] at hq
      cases c with
      | io b m' =>
        obtain ⟨rfl, hq⟩ := hq
        obtain ⟨x, q1, q2, q3, q4, q5⟩ := r.at e
        refine q v d m' H' Hb' ⟨fun c o n ec => r.fr c o (by show (if c = b then none else H c) = _; rw [if_neg n]; exact ec), s, r.sub, fun c ec => ?_, q4⟩ q3 rp hq
        rcases r.al c ec with (z | z) | z
        · exact .inl z
        · exact .inr (.inl z)
        · exact .inr (.inr z)
      | _ => exact hq.elim
  exact hs _ _ H Hb _ _ _ rfl r0 (body a m as Qd hp) ⟨fun σ' H' Hb' ρ' r s hq => fin .non .non r s .non hq, fun v d σ' H' Hb' ρ' r s rp hq => fin v d r s rp hq, fun _ _ _ _ _ _ z => z.elim, fun _ _ _ _ _ _ z => z.elim⟩
/-! ### calls of defs -/
def dCall (p : PD) (da : DA) : DE := fun ρ Q => da ρ fun ds ρ1 => p ds fun d => Q d ρ1
theorem snd_call {p : PD} {n : Nat} {t : TA} {da : DA} {E : XK} (h : SndA K n t da) : SndE K (tCall (spP K p) [] E t) (dCall p da) := fun F σ H Hb ρ Q Qd hK r hd q =>
  h F σ H Hb ρ _ _ hK r hd fun vs ds H1 Hb1 ρ1 r1 b1 ra _ hp => by
    rw [List.append_nil]
    exact ⟨Hb1, ds, _, r1.sub, ra, hp, fun v d H' Hb' g rp hq => q v d H' Hb' ρ1 (r1.grow g) (b1.trans g.b) rp hq⟩
theorem snd_call0 {p : PD} {E : XK} : SndE K (tCall (spP K p) [] E tNil) (dCall p dNilA) := snd_call sna_nil
theorem R.call {F : Fx} {σ : L2.St} {H Hb H' Hb' : Hp} {ρ : Rho} {i : Nat} {c : Cell} {a : Addr} {m' : M} (r : R F σ H Hb ρ) (e : ρ[i]? = some c) (hc : c.mine = true) (es : σ[i]? = some (some (.ref a))) (g : GrI a H Hb H' Hb') (hm : MAt F.K Hb' H' a m') : R F σ H' Hb' (ρ.set i (c.put m')) := by
  have g1 : Gr H Hb (fun b => if b = a then H a else H' b) Hb' := by
    refine ⟨fun b o eb => ?_, g.b, fun b o eb => ?_, fun b eb => ?_⟩
    · show (if b = a then H a else H' b) = some o
      by_cases hb : b = a
      · rw [if_pos hb, ← hb]; exact eb
      · rw [if_neg hb]; exact g.s b o hb eb
    · show (if b = a then H a else H' b) = some o
      have hb : b ≠ a := fun z => by rw [z, g.na] at eb; cases eb
      rw [if_neg hb]; exact g.sub _ _ eb
    · rcases g.nw b eb with z | z | ⟨xs, z⟩
      · exact .inl z
      · exact .inr (.inl z)
      · have hb : b ≠ a := fun q => eb (by rw [q]; exact g.na)
        refine .inr (.inr ⟨xs, ?_⟩)
        rcases z with z | ⟨o, z⟩
        · exact .inl (by show (if b = a then H a else H' b) = _; rw [if_neg hb]; exact z)
        · exact .inr ⟨o, by show (if b = a then H a else H' b) = _; rw [if_neg hb]; exact z⟩
  have r1 := r.grow g1
  refine r1.mut e hc es (fun b o n eb => ?_) hm
  have eb : (if b = a then H a else H' b) = some o := eb
  rw [if_neg n] at eb
  exact eb
def cellM : Option Cell → (Cell → M → Prop) → Prop
  | some (.own m), k => k (.own m) m
  | some (.io a m), k => k (.io a m) m
  | _, _ => False
theorem cellM_ok {o : Option Cell} {k : Cell → M → Prop} (h : cellM o k) : ∃ c m, o = some c ∧ c.get = some m ∧ k c m := by
  cases o with
  | none => exact h.elim
  | some c =>
    cases c with
    | own m => exact ⟨_, m, rfl, rfl, h⟩
    | io a m => exact ⟨_, m, rfl, rfl, h⟩
    | _ => exact h.elim
theorem mineC_ok {o : Option Cell} {p : Prop} (h : mineC o p) : ∃ c, o = some c ∧ c.mine = true ∧ p := by
  cases o with
  | none => exact h.elim
  | some c =>
    cases c with
    | own m => exact ⟨_, rfl, rfl, h⟩
    | io a m => exact ⟨_, rfl, rfl, h⟩
    | _ => exact h.elim
/-- a call that may change what stands in the first argument's slot -/
def dCallI (i : Nat) (p : PI') (da : DA) : DE := fun ρ Q => mineC ρ[i]? (da ρ fun ds ρ1 => cellM ρ1[i]? fun c m => p m ds fun d m' => Q d (ρ1.set i (c.put m')))
theorem snd_callI (i : Nat) {p : PI'} {n : Nat} {t : TA} {da : DA} {E : XK} (h : SndA K n t da) : SndE K (tCall (spI K p) [] E (tCons (tVar i) t)) (dCallI i p da) := fun F σ H Hb ρ Q Qd hK r hd q => by
  subst hK
  obtain ⟨c0, e0, m0, hd⟩ := mineC_ok hd
  obtain ⟨a, m, es, _⟩ := r.mine e0 m0
  refine ⟨_, es, h F σ H Hb ρ _ _ rfl r hd fun vs ds H1 Hb1 ρ1 r1 b1 ra _ hp => ?_⟩
  show spI F.K p ((V.ref a :: vs) ++ []) H1 Q E
  rw [List.append_nil]
  obtain ⟨c, m1, e1, g1, hp⟩ := cellM_ok hp
  obtain ⟨a', es', hm, nb, nf⟩ := r1.mineG e1 g1
  rw [es] at es'
  cases es'
  exact ⟨a, vs, Hb1, m1, ds, _, rfl, r1.sub, nb, hm, ra, hp, fun v d m' H' Hb' g hm' rp hq => q v d H' Hb' _ (r1.call e1 (getM g1) es g hm') (b1.trans g.b) rp hq⟩
/-! ### new lists as data -/
def dNE (dn : DN) : DE := fun ρ Q => dn ρ fun m ρ1 => frzM m fun d => Q d ρ1
theorem snd_ne {t : TE} {dn : DN} (h : SndN K t dn) : SndE K t (dNE dn) := fun F σ H Hb ρ Q Qd hK r hd q =>
  h F σ H Hb ρ _ _ hK r hd fun p m H1 H' Hb1 ρ1 r1 b1 n s hm hq => by
    cases m with
    | lst ds =>
      obtain ⟨vs, e, ra⟩ := hm
      have g := Gr.at r1.sub s n e
      exact q _ (.lst ds) H' _ ρ1 (r1.grow g) (b1.trans g.b) (.lst upd_same (RepAll.mono g.b _ _ ra)) hq
    | dct es =>
      obtain ⟨kvs, e, ra⟩ := hm
      have g := Gr.at r1.sub s n e
      exact q _ (.dct es) H' _ ρ1 (r1.grow g) (b1.trans g.b) (.dct (.inl upd_same) (RepKV.mono g.b _ _ ra)) hq
    | dcu es =>
      obtain ⟨kvs, e, ra⟩ := hm
      have g := Gr.at r1.sub s n e
      exact q _ (.dcu es) H' _ ρ1 (r1.grow g) (b1.trans g.b) (.dcu (.inl upd_same) (RepKT.mono g.b _ _ ra)) hq
    | dice => exact hq.elim
def dTup (da : DA) : DE := fun ρ Q => da ρ fun ds ρ1 => Q (.tup ds) ρ1
theorem snd_tup {n : Nat} {t : TA} {da : DA} (h : SndA K n t da) (hn : n ≤ 1000 := by decide) : SndE K (tTup t) (dTup da) := fun F σ H Hb ρ Q Qd hK r hd q => by
  subst hK
  refine h F σ H Hb ρ _ _ rfl r hd fun vs ds H1 Hb1 ρ1 r1 b1 ra hl hq => ⟨by rw [ra.len, hl, sizeLine_eq]; omega, fun p n => ?_⟩
  have g := Gr.new (o := .tup vs) r1.sub n
  exact q _ (.tup ds) _ _ ρ1 (r1.grow g) (b1.trans g.b) (.tup upd_same (RepAll.mono g.b _ _ ra)) hq
def dLst (da : DA) : DN := fun ρ Q => da ρ fun ds ρ1 => Q (.lst ds) ρ1
theorem snd_lst {n : Nat} {t : TA} {da : DA} (h : SndA K n t da) (hn : n ≤ 1000 := by decide) : SndN K (tLstA t) (dLst da) := fun F σ H Hb ρ Q Qd hK r hd q => by
  subst hK
  refine h F σ H Hb ρ _ _ rfl r hd fun vs ds H1 Hb1 ρ1 r1 b1 ra hl hq => ⟨by rw [ra.len, hl, sizeLine_eq]; omega, fun p H' s e n => ?_⟩
  exact q p (.lst ds) H1 H' Hb1 ρ1 r1 b1 n s ⟨vs, e, ra⟩ hq
/-! ### built-in functions -/
inductive SndOs (K : PySem.W.Frag) : TA → List Opd → Prop
  | nil : SndOs K tNil []
  | cons {t : TE} {u : TA} {o : Opd} {os : List Opd} : SndO K t o → SndOs K u os → SndOs K (tCons t u) (o :: os)
def runOs : List Opd → Rho → (List Op → Rho → Prop) → Prop
  | [], ρ, k => k [] ρ
  | o :: os, ρ, k => o.run ρ fun p ρ1 => runOs os ρ1 fun ps ρ2 => k (p :: ps) ρ2
def resOs : List Op → Rho → (List D → Prop) → Prop
  | [], _, k => k []
  | p :: ps, ρ, k => p.res ρ fun d => resOs ps ρ fun ds => k (d :: ds)
inductive OpsAt (K : PySem.W.Frag) (σ : L2.St) (Hb : Hp) : List V → List Op → Prop
  | nil : OpsAt K σ Hb [] []
  | cons {v : V} {vs : List V} {p : Op} {ps : List Op} : OpAt K σ Hb v p → OpsAt K σ Hb vs ps → OpsAt K σ Hb (v :: vs) (p :: ps)
inductive Views (K : PySem.W.Frag) (Hb H : Hp) : List V → List D → Prop
  | nil : Views K Hb H [] []
  | cons {v : V} {vs : List V} {d : D} {ds : List D} : View K Hb H v d → Views K Hb H vs ds → Views K Hb H (v :: vs) (d :: ds)
theorem SndOs.use {t : TA} {os : List Opd} (h : SndOs K t os) : ∀ {F : Fx} {σ : L2.St} {H Hb : Hp} {ρ : Rho} {Q : List V → Hp → Prop} {Qd : List Op → Rho → Prop}, F.K = K → R F σ H Hb ρ → runOs os ρ Qd →
    (∀ vs ps H' Hb' ρ', R F σ H' Hb' ρ' → Same Hb Hb' → OpsAt K σ Hb' vs ps → Qd ps ρ' → Q vs H') → t σ H Q := by
  induction h with
  | nil => exact fun {F σ H Hb ρ Q Qd} hK r h q => q [] [] H Hb ρ r (Same.refl _) .nil h
  | cons h1 _ ih =>
    rename_i t u o os _
    intro F σ H Hb ρ Q Qd hK r h q
    refine SndO.use (t := t) hK r h1 h fun v p H1 Hb1 ρ1 r1 b1 o1 q1 => ?_
    exact ih hK r1 q1 fun vs ps H2 Hb2 ρ2 r2 b2 o2 q2 => q _ _ H2 Hb2 ρ2 r2 (b1.trans b2) (.cons (o1.mono b2) o2) q2
theorem OpsAt.res {F : Fx} {σ : L2.St} {H Hb : Hp} {ρ : Rho} (r : R F σ H Hb ρ) : ∀ {vs : List V} {ps : List Op} {k : List D → Prop}, OpsAt F.K σ Hb vs ps → resOs ps ρ k → ∃ ds, Views F.K Hb H vs ds ∧ k ds
  | _, _, _, .nil, q => ⟨[], .nil, q⟩
  | _, _, _, .cons h1 h2, q => by
    obtain ⟨d, v1, q1⟩ := OpAt.res r h1 q
    obtain ⟨ds, v2, q2⟩ := OpsAt.res r h2 q1
    exact ⟨d :: ds, .cons v1 v2, q2⟩
def CallS (K : PySem.W.Frag) (r : List V → Hp → VK → Prop) (f : List D → (D → Prop) → Prop) : Prop := ∀ H Hb vs ds (Q : VK) (Qd : D → Prop), Same Hb H → Views K Hb H vs ds → f ds Qd →
  (∀ u x H' Hb', Gr H Hb H' Hb' → Rep K Hb' u x → Qd x → Q u H') → r vs H Q
def CallN (K : PySem.W.Frag) (r : List V → Hp → VK → Prop) (f : List D → (M → Prop) → Prop) : Prop := ∀ H Hb vs ds (Q : VK) (Qd : M → Prop), Same Hb H → Views K Hb H vs ds → f ds Qd →
  (∀ p m H', H p = none → Same H H' → MAt K Hb H' p m → Qd m → Q (.ref p) H') → r vs H Q
def dCb (f : List D → (D → Prop) → Prop) (os : List Opd) : DE := fun ρ Q => runOs os ρ fun ps ρ1 => resOs ps ρ1 fun ds => f ds fun d => Q d ρ1
def dCbN (f : List D → (M → Prop) → Prop) (os : List Opd) : DN := fun ρ Q => runOs os ρ fun ps ρ1 => resOs ps ρ1 fun ds => f ds fun m => Q m ρ1
theorem snd_cb {r : List V → Hp → VK → Prop} {f : List D → (D → Prop) → Prop} {t : TA} {os : List Opd} (hr : CallS K r f) (h : SndOs K t os) : SndE K (tCB r t) (dCb f os) := fun F σ H Hb ρ Q Qd hK rr hd q => by
  subst hK
  refine SndOs.use (t := t) h rfl rr hd fun vs ps H1 Hb1 ρ1 r1 b1 o1 h1 => ?_
  obtain ⟨ds, v1, h2⟩ := OpsAt.res r1 o1 h1
  exact hr H1 Hb1 vs ds Q _ r1.sub v1 h2 fun u x H' Hb' g rp hq => q u x H' Hb' ρ1 (r1.grow g) (b1.trans g.b) rp hq
theorem snd_cbN {r : List V → Hp → VK → Prop} {f : List D → (M → Prop) → Prop} {t : TA} {os : List Opd} (hr : CallN K r f) (h : SndOs K t os) : SndN K (tCB r t) (dCbN f os) := fun F σ H Hb ρ Q Qd hK rr hd q => by
  subst hK
  refine SndOs.use (t := t) h rfl rr hd fun vs ps H1 Hb1 ρ1 r1 b1 o1 h1 => ?_
  obtain ⟨ds, v1, h2⟩ := OpsAt.res r1 o1 h1
  exact hr H1 Hb1 vs ds Q _ r1.sub v1 h2 fun p m H' n s hm hq => q p m H1 H' Hb1 ρ1 r1 b1 n s hm hq
def OpN (K : PySem.W.Frag) (r : R2) (f : D → D → (M → Prop) → Prop) : Prop := ∀ H Hb v w d e (Q : VK) (Qd : M → Prop), Same Hb H → View K Hb H v d → View K Hb H w e → f d e Qd →
  (∀ p m H', H p = none → Same H H' → MAt K Hb H' p m → Qd m → Q (.ref p) H') → r v w H Q
def dOpN (f : D → D → (M → Prop) → Prop) (a b : Opd) : DN := fun ρ Q => a.run ρ fun p ρ1 => b.run ρ1 fun q ρ2 => p.res ρ2 fun d => q.res ρ2 fun e => f d e fun z => Q z ρ2
theorem snd_opN {r : R2} {f : D → D → (M → Prop) → Prop} {ta tb : TE} {a b : Opd} (hr : OpN K r f) (ha : SndO K ta a) (hb : SndO K tb b) : SndN K (tOp r ta tb) (dOpN f a b) := fun F σ H Hb ρ Q Qd hK rr h q => by
  subst hK
  refine SndO.use (t := ta) rfl rr ha h fun v p H1 Hb1 ρ1 r1 b1 o1 h1 => ?_
  refine SndO.use (t := tb) rfl r1 hb h1 fun w p2 H2 Hb2 ρ2 r2 b2 o2 h2 => ?_
  obtain ⟨d, vd, h3⟩ := OpAt.res r2 (o1.mono b2) h2
  obtain ⟨e, ve, h4⟩ := OpAt.res r2 o2 h3
  exact hr H2 Hb2 v w d e Q _ r2.sub vd ve h4 fun p m H' n s hm hq => q p m H2 H' Hb2 ρ2 r2 (b1.trans b2) n s hm hq
/-! one argument, two arguments -/
def arg1 : List D → (D → Prop) → Prop
  | [d], k => k d
  | _, _ => False
def arg2 : List D → (D → D → Prop) → Prop
  | [d, e], k => k d e
  | _, _ => False
theorem Views.one {Hb H : Hp} {vs : List V} {ds : List D} {k : D → Prop} (h : Views K Hb H vs ds) (q : arg1 ds k) : ∃ v d, vs = [v] ∧ ds = [d] ∧ View K Hb H v d ∧ k d := by
  cases h with
  | nil => exact q.elim
  | cons h1 h2 =>
    cases h2 with
    | nil => exact ⟨_, _, rfl, rfl, h1, q⟩
    | cons _ _ => exact q.elim
theorem Views.two {Hb H : Hp} {vs : List V} {ds : List D} {k : D → D → Prop} (h : Views K Hb H vs ds) (q : arg2 ds k) : ∃ v w d e, vs = [v, w] ∧ ds = [d, e] ∧ View K Hb H v d ∧ View K Hb H w e ∧ k d e := by
  cases h with
  | nil => exact q.elim
  | cons h1 h2 =>
    cases h2 with
    | nil => exact q.elim
    | cons h3 h4 =>
      cases h4 with
      | nil => exact ⟨_, _, _, _, rfl, rfl, h1, h3, q⟩
      | cons _ _ => exact q.elim
/-- the items of a list, of a tuple -/
def items : D → Option (List D)
  | .tup ds => some ds
  | .ktup ds => some ds
  | .lst ds => some ds
  | .arr ds => some ds
  | _ => none
theorem View.items {Hb H : Hp} {v : V} {d : D} {ds : List D} (s : Same Hb H) (h : View K Hb H v d) (e : items d = some ds) : ∃ a vs, v = .ref a ∧ (SqL K H a vs ∨ SqT K H a vs) ∧ RepAll K Hb vs ds := by
  cases d with
  | tup es => cases e; obtain ⟨a, vs, h1, h2, _, h3⟩ := h.tup s; exact ⟨a, vs, h1, .inr h2, h3⟩
  | ktup es => cases e; obtain ⟨a, vs, h1, h2, h3⟩ := h.ktup; exact ⟨a, vs, h1, .inr h2, h3⟩
  | lst es => cases e; obtain ⟨a, vs, h1, h2, h3⟩ := h.lst' s; exact ⟨a, vs, h1, .inl (SqL.of h2), h3⟩
  | arr es => cases e; obtain ⟨a, vs, h1, h2, h3⟩ := h.arr' s; exact ⟨a, vs, h1, .inl h2, h3⟩
  | _ => cases e
def fLen (ds : List D) (k : D → Prop) : Prop := arg1 ds fun d => optD (items d) fun xs => k (.int xs.length)
theorem s_len : CallS K (fun xs H Q => ∃ p ys, xs = [.ref p] ∧ (SqL K H p ys ∨ SqT K H p ys) ∧ Q (.int ys.length) H) fLen := fun H Hb vs ds Q Qd s hv h q => by
  obtain ⟨v, d, rfl, rfl, vd, h⟩ := hv.one h
  obtain ⟨xs, e, h⟩ := optD_ok h
  obtain ⟨a, us, rfl, hs, ra⟩ := vd.items s e
  exact ⟨a, us, rfl, hs, q _ _ H Hb (Gr.refl s) (by rw [ra.len]; exact .int _) h⟩
def fLenS (ds : List D) (k : D → Prop) : Prop := arg1 ds fun d => match d with
  | .str x => x.length ≤ sizeLine ∧ k (.int x.length)
  | _ => False
theorem s_lenS : CallS K (fun xs H Q => ∃ a, xs = [.str a] ∧ a.length ≤ sizeLine ∧ Q (.int a.length) H) fLenS := fun H Hb vs ds Q Qd s hv h q => by
  obtain ⟨v, d, rfl, rfl, vd, h⟩ := hv.one h
  cases d with
  | str x => cases vd.str; exact ⟨x, rfl, h.1, q _ _ H Hb (Gr.refl s) (.int _) h.2⟩
  | _ => exact h.elim
def tupOf : D → Option D
  | .lst ds => some (.tup ds)
  | .arr ds => some (.tup ds)
  | .tup ds => some (.tup ds)
  | .ktup ds => some (.ktup ds)
  | _ => none
def fTuple (ds : List D) (k : D → Prop) : Prop := arg1 ds fun d => optD (tupOf d) k
theorem s_tuple : CallS K (fun xs H Q => ∃ p ys, xs = [.ref p] ∧ ((SqL K H p ys ∧ ∀ l, H l = none → Q (.ref l) (upd H l (.tup ys))) ∨ (SqT K H p ys ∧ Q (.ref p) H))) fTuple := fun H Hb vs ds Q Qd s hv h q => by
  obtain ⟨v, d, rfl, rfl, vd, h⟩ := hv.one h
  obtain ⟨x, e, h⟩ := optD_ok h
  have new : ∀ {us : List V} {es : List D}, RepAll K Hb us es → Qd (.tup es) → ∀ l, H l = none → Q (.ref l) (upd H l (.tup us)) := fun {us es} ra h l n => by
    have g := Gr.new (o := .tup us) s n
    exact q _ _ _ _ g (.tup upd_same (RepAll.mono g.b _ _ ra)) h
  cases d <;> cases e
  · obtain ⟨a, us, rfl, h1, h2, h3⟩ := vd.tup s
    exact ⟨a, us, rfl, .inr ⟨h1, q _ _ H Hb (Gr.refl s) (.tup h2 h3) h⟩⟩
  · obtain ⟨a, us, rfl, h1, h3⟩ := vd.ktup
    cases vd with
    | rep r => exact ⟨a, us, rfl, .inr ⟨h1, q _ _ H Hb (Gr.refl s) r h⟩⟩
  · obtain ⟨a, us, rfl, h1, h2⟩ := vd.lst' s
    exact ⟨a, us, rfl, .inl ⟨SqL.of h1, new h2 h⟩⟩
  · obtain ⟨a, us, rfl, h1, h2⟩ := vd.arr' s
    exact ⟨a, us, rfl, .inl ⟨h1, new h2 h⟩⟩
def fList (ds : List D) (k : M → Prop) : Prop := arg1 ds fun d => optD (items d) fun xs => k (.lst xs)
theorem s_list : CallN K (fun xs H Q => ∃ p ys, xs = [.ref p] ∧ (SqL K H p ys ∨ SqT K H p ys) ∧ NewL ys H Q) fList := fun H Hb vs ds Q Qd s hv h q => by
  obtain ⟨v, d, rfl, rfl, vd, h⟩ := hv.one h
  obtain ⟨xs, e, h⟩ := optD_ok h
  obtain ⟨a, us, rfl, hs, ra⟩ := vd.items s e
  exact ⟨a, us, rfl, hs, fun p H' s' e n => q p (.lst xs) H' n s' ⟨us, e, ra⟩ h⟩
def fAbs (ds : List D) (k : D → Prop) : Prop := arg1 ds fun d => int1 d fun i => k (.int (if i < 0 then -i else i))
theorem s_abs : CallS K (fun xs H Q => ∃ i, xs = [.int i] ∧ Q (.int (if i < 0 then -i else i)) H) fAbs := fun H Hb vs ds Q Qd s hv h q => by
  obtain ⟨v, d, rfl, rfl, vd, h⟩ := hv.one h
  obtain ⟨i, rfl, h⟩ := int1_ok h
  cases vd.int
  exact ⟨i, rfl, q _ _ H Hb (Gr.refl s) (.int _) h⟩
def fInt (ds : List D) (k : D → Prop) : Prop := arg1 ds fun d => match d with
  | .int i => k (.int i)
  | .bl b => k (.int (if b then 1 else 0))
  | _ => False
theorem s_int : CallS K (fun xs H Q => (∃ i, xs = [.int i] ∧ Q (.int i) H) ∨ ∃ k, xs = [.bl k] ∧ Q (.int (if k then 1 else 0)) H) fInt := fun H Hb vs ds Q Qd s hv h q => by
  obtain ⟨v, d, rfl, rfl, vd, h⟩ := hv.one h
  cases d with
  | int i => cases vd.int; exact .inl ⟨i, rfl, q _ _ H Hb (Gr.refl s) (.int _) h⟩
  | bl b => cases vd.bl; exact .inr ⟨b, rfl, q _ _ H Hb (Gr.refl s) (.int _) h⟩
  | _ => exact h.elim
def fMax2 (ds : List D) (k : D → Prop) : Prop := arg2 ds fun d e => int2 d e fun i j => k (.int (if j > i then j else i))
theorem s_max2 : CallS K (fun xs H Q => ∃ i j, xs = [.int i, .int j] ∧ Q (.int (if j > i then j else i)) H) fMax2 := fun H Hb vs ds Q Qd s hv h q => by
  obtain ⟨v, w, d, e, rfl, rfl, vd, ve, h⟩ := hv.two h
  obtain ⟨i, j, rfl, rfl, h⟩ := int2_ok h
  cases vd.int
  cases ve.int
  exact ⟨i, j, rfl, q _ _ H Hb (Gr.refl s) (.int _) h⟩
def fMin2 (ds : List D) (k : D → Prop) : Prop := arg2 ds fun d e => int2 d e fun i j => k (.int (if j < i then j else i))
theorem s_min2 : CallS K (fun xs H Q => ∃ i j, xs = [.int i, .int j] ∧ Q (.int (if j < i then j else i)) H) fMin2 := fun H Hb vs ds Q Qd s hv h q => by
  obtain ⟨v, w, d, e, rfl, rfl, vd, ve, h⟩ := hv.two h
  obtain ⟨i, j, rfl, rfl, h⟩ := int2_ok h
  cases vd.int
  cases ve.int
  exact ⟨i, j, rfl, q _ _ H Hb (Gr.refl s) (.int _) h⟩
/-- a list of ints, of bools -/
def intL : List D → Option (List Int)
  | [] => some []
  | .int i :: r => (intL r).map (i :: ·)
  | _ => none
def blL : List D → Option (List Bool)
  | [] => some []
  | .bl i :: r => (blL r).map (i :: ·)
  | _ => none
theorem intL_rep {Hb : Hp} : ∀ {ds : List D} {vs : List V} {ns : List Int}, RepAll K Hb vs ds → intL ds = some ns → vs = ns.map V.int
  | [], _, _, h, e => by cases h; cases e; rfl
  | d :: r, _, ns, h, e => by
    cases h with
    | cons h1 h2 =>
      cases d with
      | int i =>
        have e : (intL r).map (i :: ·) = some ns := e
        cases q : intL r with
        | none => rw [q] at e; cases e
        | some ms => rw [q] at e; cases e; cases h1; rw [intL_rep h2 q]; rfl
      | _ => cases e
theorem blL_rep {Hb : Hp} : ∀ {ds : List D} {vs : List V} {ns : List Bool}, RepAll K Hb vs ds → blL ds = some ns → vs = ns.map V.bl
  | [], _, _, h, e => by cases h; cases e; rfl
  | d :: r, _, ns, h, e => by
    cases h with
    | cons h1 h2 =>
      cases d with
      | bl i =>
        have e : (blL r).map (i :: ·) = some ns := e
        cases q : blL r with
        | none => rw [q] at e; cases e
        | some ms => rw [q] at e; cases e; cases h1; rw [blL_rep h2 q]; rfl
      | _ => cases e
theorem intL_map : ∀ ns : List Int, intL (ns.map D.int) = some ns
  | [] => rfl
  | n :: r => by show (intL (r.map D.int)).map (n :: ·) = _; rw [intL_map r]; rfl
theorem blL_map : ∀ ns : List Bool, blL (ns.map D.bl) = some ns
  | [] => rfl
  | n :: r => by show (blL (r.map D.bl)).map (n :: ·) = _; rw [blL_map r]; rfl
def lst1 : D → (List D → Prop) → Prop
  | .lst ds, k => k ds
  | _, _ => False
theorem lst1_ok {d : D} {k : List D → Prop} (h : lst1 d k) : ∃ ds, d = .lst ds ∧ k ds := by
  cases d <;> first | exact h.elim | exact ⟨_, rfl, h⟩
def fSum (ds : List D) (k : D → Prop) : Prop := arg1 ds fun d => lst1 d fun xs => optD (intL xs) fun ns => k (.int ns.sum)
theorem s_sum : CallS K (rSum K) fSum := fun H Hb vs ds Q Qd s hv h q => by
  obtain ⟨v, d, rfl, rfl, vd, h⟩ := hv.one h
  obtain ⟨xs, rfl, h⟩ := lst1_ok h
  obtain ⟨ns, e, h⟩ := optD_ok h
  obtain ⟨a, us, rfl, h1, h2⟩ := vd.lst' s
  cases intL_rep h2 e
  exact ⟨a, ns, rfl, SqL.of h1, q _ _ H Hb (Gr.refl s) (.int _) h⟩
def fAll (ds : List D) (k : D → Prop) : Prop := arg1 ds fun d => lst1 d fun xs => optD (blL xs) fun bs => k (.bl (bs.all id))
theorem s_all : CallS K (rAll K) fAll := fun H Hb vs ds Q Qd s hv h q => by
  obtain ⟨v, d, rfl, rfl, vd, h⟩ := hv.one h
  obtain ⟨xs, rfl, h⟩ := lst1_ok h
  obtain ⟨ns, e, h⟩ := optD_ok h
  obtain ⟨a, us, rfl, h1, h2⟩ := vd.lst' s
  cases blL_rep h2 e
  exact ⟨a, ns, rfl, SqL.of h1, q _ _ H Hb (Gr.refl s) (.bl _) h⟩
def fAny (ds : List D) (k : D → Prop) : Prop := arg1 ds fun d => lst1 d fun xs => optD (blL xs) fun bs => k (.bl (bs.any id))
theorem s_any : CallS K (rAny K) fAny := fun H Hb vs ds Q Qd s hv h q => by
  obtain ⟨v, d, rfl, rfl, vd, h⟩ := hv.one h
  obtain ⟨xs, rfl, h⟩ := lst1_ok h
  obtain ⟨ns, e, h⟩ := optD_ok h
  obtain ⟨a, us, rfl, h1, h2⟩ := vd.lst' s
  cases blL_rep h2 e
  exact ⟨a, ns, rfl, SqL.of h1, q _ _ H Hb (Gr.refl s) (.bl _) h⟩
/-- isinstance -/
def kindOf : D → Option String
  | .non => some "NoneType"
  | .bl _ => some "bool"
  | .int _ => some "int"
  | .str _ => some "str"
  | .tup _ => some "tuple"
  | .ktup _ => some "tuple"
  | .lst _ => some "list"
  | .dct _ => some "dict"
  | .dcu _ => none
  | .arr _ => some "list"
  | .opq _ => none
theorem kndD {H : Hp} {a : Addr} {kvs : List (Key × V)} (h : Rd H a (.dK kvs)) : Knd K H (.ref a) "dict" := by
  rcases h with h | ⟨o, h⟩
  · exact ⟨.base (.dK h), by decide⟩
  · exact ⟨.fDict h, by decide⟩
theorem View.knd {Hb H : Hp} {v : V} {d : D} {T : String} (s : Same Hb H) (h : View K Hb H v d) (e : kindOf d = some T) : Knd K H v T := by
  cases d with
  | non => cases h.non; cases e; exact .n
  | bl b => cases h.bl; cases e; exact .b b
  | int i => cases h.int; cases e; exact .i i
  | str x => cases h.str; cases e; exact .s x
  | tup ds => obtain ⟨a, vs, rfl, h1, _⟩ := h.tup s; cases e; exact .t h1
  | ktup ds => obtain ⟨a, vs, rfl, h1, _⟩ := h.ktup; cases e; exact .t h1
  | lst ds => obtain ⟨a, vs, rfl, h1, _⟩ := h.lst' s; cases e; exact .l (SqL.of h1)
  | arr ds => obtain ⟨a, vs, rfl, h1, _⟩ := h.arr' s; cases e; exact .l h1
  | dct es => obtain ⟨a, kvs, rfl, h1, _⟩ := h.dct' s; cases e; exact kndD h1
  | dcu es => cases e
  | opq v => cases e
def tyN : D → (String → Prop) → Prop
  | .opq (.ty c), k => c ∈ ["int", "bool", "str", "list", "tuple", "dict"] ∧ k c
  | _, _ => False
def fIsi (ds : List D) (k : D → Prop) : Prop := arg2 ds fun d e => optD (kindOf d) fun T => tyN e fun c => k (.bl (isK T c))
theorem s_isi : CallS K (fun xs H Q => ∃ v T c, xs = [v, .ty c] ∧ Knd K H v T ∧ c ∈ ["int", "bool", "str", "list", "tuple", "dict"] ∧ Q (.bl (isK T c)) H) fIsi := fun H Hb vs ds Q Qd s hv h q => by
  obtain ⟨v, w, d, e, rfl, rfl, vd, ve, h⟩ := hv.two h
  obtain ⟨T, eT, h⟩ := optD_ok h
  cases e with
  | opq u =>
    have ew := ve.opq
    subst ew
    cases w with
    | ty c => exact ⟨v, T, c, rfl, vd.knd s eT, h.1, q _ _ H Hb (Gr.refl s) (.bl _) h.2⟩
    | _ => exact h.elim
  | _ => exact h.elim
/-! ### subscripts, slices -/
theorem atI_rep {Hb : Hp} {vs : List V} {ds : List D} {i : Int} {d : D} (h : RepAll K Hb vs ds) (e : atI ds i = some d) : ∃ v, atI vs i = some v ∧ Rep K Hb v d := by
  unfold atI at e ⊢
  rw [h.len]
  cases q : ixN ds.length i with
  | none => rw [q] at e; cases e
  | some j => rw [q] at e; exact h.get (i := j) e
def fIxT (d e : D) (k : D → Prop) : Prop := match d with
  | .tup ds => int1 e fun i => optD (atI ds i) k
  | .ktup ds => int1 e fun i => optD (atI ds i) k
  | _ => False
def fIxL (d e : D) (k : D → Prop) : Prop := match d with
  | .lst ds => int1 e fun i => optD (atI ds i) k
  | .arr ds => int1 e fun i => optD (atI ds i) k
  | _ => False
theorem s_ixT : OpS K (rIxT K) fIxT := fun H Hb v w d e Q Qd s hv hw h q => by
  cases d with
  | tup ds =>
    obtain ⟨i, rfl, h⟩ := int1_ok h
    obtain ⟨x, ex, h⟩ := optD_ok h
    obtain ⟨a, vs, rfl, h1, _, h2⟩ := hv.tup s
    cases hw.int
    obtain ⟨u, eu, ru⟩ := atI_rep h2 ex
    exact ⟨a, vs, i, u, rfl, rfl, h1, eu, q _ _ H Hb (Gr.refl s) ru h⟩
  | ktup ds =>
    obtain ⟨i, rfl, h⟩ := int1_ok h
    obtain ⟨x, ex, h⟩ := optD_ok h
    obtain ⟨a, vs, rfl, h1, h2⟩ := hv.ktup
    cases hw.int
    obtain ⟨u, eu, ru⟩ := atI_rep h2 ex
    exact ⟨a, vs, i, u, rfl, rfl, h1, eu, q _ _ H Hb (Gr.refl s) ru h⟩
  | _ => exact h.elim
theorem s_ixL : OpS K (rIxL K) fIxL := fun H Hb v w d e Q Qd s hv hw h q => by
  cases d with
  | lst ds =>
    obtain ⟨i, rfl, h⟩ := int1_ok h
    obtain ⟨x, ex, h⟩ := optD_ok h
    obtain ⟨a, vs, rfl, h1, h2⟩ := hv.lst' s
    cases hw.int
    obtain ⟨u, eu, ru⟩ := atI_rep h2 ex
    exact ⟨a, vs, i, u, rfl, rfl, SqL.of h1, eu, q _ _ H Hb (Gr.refl s) ru h⟩
  | arr ds =>
    obtain ⟨i, rfl, h⟩ := int1_ok h
    obtain ⟨x, ex, h⟩ := optD_ok h
    obtain ⟨a, vs, rfl, h1, h2⟩ := hv.arr' s
    cases hw.int
    obtain ⟨u, eu, ru⟩ := atI_rep h2 ex
    exact ⟨a, vs, i, u, rfl, rfl, h1, eu, q _ _ H Hb (Gr.refl s) ru h⟩
  | _ => exact h.elim
def fIxS (d e : D) (k : D → Prop) : Prop := match d with
  | .str z => int1 e fun i => z.length ≤ sizeLine ∧ optD (atI z.cps.toList i) fun c => k (.str ⟨#[c]⟩)
  | _ => False
theorem s_ixS : OpS K rIxS fIxS := fun H Hb v w d e Q Qd s hv hw h q => by
  cases d with
  | str z =>
    obtain ⟨i, rfl, hz, h⟩ := int1_ok h
    obtain ⟨x, ex, h⟩ := optD_ok h
    cases hv.str
    cases hw.int
    exact ⟨z, i, x, rfl, rfl, hz, ex, q _ _ H Hb (Gr.refl s) (.str _) h⟩
  | _ => exact h.elim
def cutD (xs : List D) (lo hi : Option Int) : List D := (xs.drop (HT.sIx xs.length 0 lo)).take (HT.sIx xs.length xs.length hi - HT.sIx xs.length 0 lo)
theorem cut_rep {Hb : Hp} {vs : List V} {ds : List D} (h : RepAll K Hb vs ds) (lo hi : Option Int) : RepAll K Hb (cutV vs lo hi) (cutD ds lo hi) := by
  unfold cutV cutD
  rw [h.len]
  exact (h.drop _).take _
abbrev DO := Rho → (Option Int → Rho → Prop) → Prop
def SndP (K : PySem.W.Frag) (t : TO) (dp : DO) : Prop := ∀ (F : Fx) σ H Hb ρ (Q : Option Int → Hp → Prop) (Qd : Option Int → Rho → Prop), F.K = K → R F σ H Hb ρ → dp ρ Qd →
  (∀ i H' Hb' ρ', R F σ H' Hb' ρ' → Same Hb Hb' → Qd i ρ' → Q i H') → t σ H Q
def dNoP : DO := fun ρ Q => Q none ρ
theorem snp_none : SndP K tNoPart dNoP := fun F σ H Hb ρ Q Qd hK r h q => q none H Hb ρ r (Same.refl _) h
def dP (de : DE) : DO := fun ρ Q => de ρ fun d ρ1 => int1 d fun i => Q (some i) ρ1
theorem snp_some {t : TE} {de : DE} (h : SndE K t de) : SndP K (tPart t) (dP de) := fun F σ H Hb ρ Q Qd hK r hd q =>
  h F σ H Hb ρ _ _ hK r hd fun v d H' Hb' ρ' r' b rp hq => by
    obtain ⟨i, rfl, hq⟩ := int1_ok hq
    cases rp
    exact ⟨i, rfl, q (some i) H' Hb' ρ' r' b hq⟩
def SlS (K : PySem.W.Frag) (r : V → Option Int → Option Int → Hp → VK → Prop) (f : D → Option Int → Option Int → (D → Prop) → Prop) : Prop := ∀ H Hb v d lo hi (Q : VK) (Qd : D → Prop), Same Hb H → View K Hb H v d → f d lo hi Qd →
  (∀ u x H' Hb', Gr H Hb H' Hb' → Rep K Hb' u x → Qd x → Q u H') → r v lo hi H Q
def SlN (K : PySem.W.Frag) (r : V → Option Int → Option Int → Hp → VK → Prop) (f : D → Option Int → Option Int → (M → Prop) → Prop) : Prop := ∀ H Hb v d lo hi (Q : VK) (Qd : M → Prop), Same Hb H → View K Hb H v d → f d lo hi Qd →
  (∀ p m H', H p = none → Same H H' → MAt K Hb H' p m → Qd m → Q (.ref p) H') → r v lo hi H Q
def dSl (f : D → Option Int → Option Int → (D → Prop) → Prop) (a : Opd) (lo hi : DO) : DE := fun ρ Q => a.run ρ fun p ρ1 => lo ρ1 fun l ρ2 => hi ρ2 fun u ρ3 => p.res ρ3 fun d => f d l u fun z => Q z ρ3
def dSlN (f : D → Option Int → Option Int → (M → Prop) → Prop) (a : Opd) (lo hi : DO) : DN := fun ρ Q => a.run ρ fun p ρ1 => lo ρ1 fun l ρ2 => hi ρ2 fun u ρ3 => p.res ρ3 fun d => f d l u fun z => Q z ρ3
theorem snd_sl {r : V → Option Int → Option Int → Hp → VK → Prop} {f : D → Option Int → Option Int → (D → Prop) → Prop} {te : TE} {tl th : TO} {a : Opd} {lo hi : DO} (hr : SlS K r f) (ha : SndO K te a) (hl : SndP K tl lo) (hh : SndP K th hi) : SndE K (tSl r te tl th) (dSl f a lo hi) := fun F σ H Hb ρ Q Qd hK rr h q => by
  subst hK
  refine SndO.use (t := te) rfl rr ha h fun v p H1 Hb1 ρ1 r1 b1 o1 h1 => ?_
  refine hl F σ H1 Hb1 ρ1 _ _ rfl r1 h1 fun l H2 Hb2 ρ2 r2 b2 h2 => hh F σ H2 Hb2 ρ2 _ _ rfl r2 h2 fun u H3 Hb3 ρ3 r3 b3 h3 => ?_
  obtain ⟨d, vd, h4⟩ := OpAt.res r3 (o1.mono (b2.trans b3)) h3
  exact hr H3 Hb3 v d l u Q _ r3.sub vd h4 fun u x H' Hb' g rp hq => q u x H' Hb' ρ3 (r3.grow g) (((b1.trans b2).trans b3).trans g.b) rp hq
theorem snd_slN {r : V → Option Int → Option Int → Hp → VK → Prop} {f : D → Option Int → Option Int → (M → Prop) → Prop} {te : TE} {tl th : TO} {a : Opd} {lo hi : DO} (hr : SlN K r f) (ha : SndO K te a) (hl : SndP K tl lo) (hh : SndP K th hi) : SndN K (tSl r te tl th) (dSlN f a lo hi) := fun F σ H Hb ρ Q Qd hK rr h q => by
  subst hK
  refine SndO.use (t := te) rfl rr ha h fun v p H1 Hb1 ρ1 r1 b1 o1 h1 => ?_
  refine hl F σ H1 Hb1 ρ1 _ _ rfl r1 h1 fun l H2 Hb2 ρ2 r2 b2 h2 => hh F σ H2 Hb2 ρ2 _ _ rfl r2 h2 fun u H3 Hb3 ρ3 r3 b3 h3 => ?_
  obtain ⟨d, vd, h4⟩ := OpAt.res r3 (o1.mono (b2.trans b3)) h3
  exact hr H3 Hb3 v d l u Q _ r3.sub vd h4 fun p m H' n s hm hq => q p m H3 H' Hb3 ρ3 r3 ((b1.trans b2).trans b3) n s hm hq
def fSlT (d : D) (lo hi : Option Int) (k : D → Prop) : Prop := match d with
  | .tup ds => k (.tup (cutD ds lo hi))
  | _ => False
theorem cut_all {xs : List D} {lo hi : Option Int} (h : HT.sIx xs.length 0 lo = 0 ∧ HT.sIx xs.length xs.length hi = xs.length) : cutD xs lo hi = xs := by
  unfold cutD
  rw [h.1, h.2, List.drop_zero, Nat.sub_zero, List.take_length]
theorem s_slT : SlS K (rSlA K) fSlT := fun H Hb v d lo hi Q Qd s hv h q => by
  cases d with
  | tup ds =>
    obtain ⟨a, vs, rfl, h1, h0, h2⟩ := hv.tup s
    refine ⟨a, vs, rfl, h1, fun hw => ?_, fun _ p n => ?_⟩
    · rw [h2.len] at hw
      have h : Qd (.tup (cutD ds lo hi)) := h
      rw [cut_all hw] at h
      exact q _ _ H Hb (Gr.refl s) (.tup h0 h2) h
    · have g := Gr.new (o := .tup (cutV vs lo hi)) s n
      exact q _ _ _ _ g (.tup upd_same (RepAll.mono g.b _ _ (cut_rep h2 lo hi))) h
  | _ => exact h.elim
def fSlL (d : D) (lo hi : Option Int) (k : M → Prop) : Prop := match d with
  | .lst ds => k (.lst (cutD ds lo hi))
  | _ => False
theorem s_slL : SlN K (fun x lo hi H Q => ∃ a xs, x = .ref a ∧ SqL K H a xs ∧ NewL (cutV xs lo hi) H Q) fSlL := fun H Hb v d lo hi Q Qd s hv h q => by
  cases d with
  | lst ds =>
    obtain ⟨a, vs, rfl, h1, h2⟩ := hv.lst' s
    exact ⟨a, vs, rfl, SqL.of h1, fun p H' s' e n => q p (.lst (cutD ds lo hi)) H' n s' ⟨_, e, cut_rep h2 lo hi⟩ h⟩
  | _ => exact h.elim
/-! ### t + u, xs + ys, t * k, xs * k, in -/
def fCatT (d e : D) (k : D → Prop) : Prop := match d, e with
  | .tup ds, .tup es => ds.length + es.length ≤ 1000000 ∧ k (.tup (ds ++ es))
  | _, _ => False
theorem s_catT : OpS K (rCatA K) fCatT := fun H Hb v w d e Q Qd s hv hw h q => by
  cases d with
  | tup ds =>
    cases e with
    | tup es =>
      obtain ⟨a, vs, rfl, h1, h10, h2⟩ := hv.tup s
      obtain ⟨b, ws, rfl, h3, h30, h4⟩ := hw.tup s
      obtain ⟨hz, h⟩ := h
      refine ⟨a, b, vs, ws, rfl, rfl, h1, h3, by rw [h2.len, h4.len, sizeLine_eq]; omega, fun e1 => ?_, fun _ e2 => ?_, fun _ _ p n => ?_⟩
      · subst e1
        cases h2
        exact q _ _ H Hb (Gr.refl s) (.tup h30 h4) h
      · subst e2
        cases h4
        rw [List.append_nil] at h
        exact q _ _ H Hb (Gr.refl s) (.tup h10 h2) h
      · have g := Gr.new (o := .tup (vs ++ ws)) s n
        exact q _ _ _ _ g (.tup upd_same (RepAll.mono g.b _ _ (h2.append h4))) h
    | _ => exact h.elim
  | _ => exact h.elim
def fCatL (d e : D) (k : M → Prop) : Prop := match d, e with
  | .lst ds, .lst es => ds.length + es.length ≤ 1000000 ∧ k (.lst (ds ++ es))
  | _, _ => False
theorem s_catL : OpN K (fun x y H Q => ∃ l b xs zs, x = .ref l ∧ y = .ref b ∧ H l = some (.lst xs) ∧ H b = some (.lst zs) ∧ xs.length + zs.length ≤ sizeLine ∧ NewL (xs ++ zs) H Q) fCatL := fun H Hb v w d e Q Qd s hv hw h q => by
  cases d with
  | lst ds =>
    cases e with
    | lst es =>
      obtain ⟨a, vs, rfl, h1, h2⟩ := hv.lst' s
      obtain ⟨b, ws, rfl, h3, h4⟩ := hw.lst' s
      exact ⟨a, b, vs, ws, rfl, rfl, h1, h3, by rw [h2.len, h4.len, sizeLine_eq]; have := h.1; omega, fun p H' s' e n => q p (.lst (ds ++ es)) H' n s' ⟨_, e, h2.append h4⟩ h.2⟩
    | _ => exact h.elim
  | _ => exact h.elim
def repD (ds : List D) (k : Int) : List D := (List.replicate k.toNat ds).flatten
theorem rep_flat {Hb : Hp} {vs : List V} {ds : List D} (h : RepAll K Hb vs ds) : ∀ n, RepAll K Hb (List.replicate n vs).flatten (List.replicate n ds).flatten
  | 0 => .nil
  | n + 1 => h.append (rep_flat h n)
def fRepL (d e : D) (k : M → Prop) : Prop := match d with
  | .lst ds => int1 e fun i => (-(2 ^ 63) ≤ i ∧ i < 2 ^ 63 ∧ ds.length * i.toNat ≤ 1000000) ∧ k (.lst (repD ds i))
  | _ => False
theorem s_repL : OpN K (fun x y H Q => ∃ l k xs, x = .ref l ∧ y = .int k ∧ H l = some (.lst xs) ∧ -(2 ^ 63) ≤ k ∧ k < 2 ^ 63 ∧ xs.length * k.toNat ≤ sizeLine ∧ NewL (List.replicate k.toNat xs).flatten H Q) fRepL := fun H Hb v w d e Q Qd s hv hw h q => by
  cases d with
  | lst ds =>
    obtain ⟨i, rfl, h⟩ := int1_ok h
    obtain ⟨a, vs, rfl, h1, h2⟩ := hv.lst' s
    cases hw.int
    exact ⟨a, i, vs, rfl, rfl, h1, h.1.1, h.1.2.1, by rw [h2.len, sizeLine_eq]; have := h.1.2.2; omega, fun p H' s' e n => q p (.lst (repD ds i)) H' n s' ⟨_, e, rep_flat h2 _⟩ h.2⟩
  | _ => exact h.elim
def fRepT (d e : D) (k : D → Prop) : Prop := match d with
  | .tup ds => int1 e fun i => (ds ≠ [] ∧ 0 ≤ i ∧ i ≤ 1000 ∧ ds.length ≤ 1000) ∧ k (.tup (repD ds i))
  | _ => False
theorem s_repT : OpS K (fun x y H Q => ∃ l k xs, x = .ref l ∧ y = .int k ∧ H l = some (.tup xs) ∧ xs ≠ [] ∧ 0 ≤ k ∧ k ≤ 1000 ∧ xs.length ≤ 1000 ∧ ∀ p H', H' p = some (.tup (List.replicate k.toNat xs).flatten) → (H' = H ∨ (H p = none ∧ H' = upd H p (.tup (List.replicate k.toNat xs).flatten))) → Q (.ref p) H') fRepT := fun H Hb v w d e Q Qd s hv hw h q => by
  cases d with
  | tup ds =>
    obtain ⟨i, rfl, ⟨c1, c2, c3, c4⟩, h⟩ := int1_ok h
    obtain ⟨a, vs, rfl, h1, h0, h2⟩ := hv.tupS s
    cases hw.int
    refine ⟨a, i, vs, rfl, rfl, h1, fun z => c1 ?_, c2, c3, by rw [h2.len]; exact c4, fun p H' e hH => ?_⟩
    · rw [z] at h2; cases h2; rfl
    rcases hH with rfl | ⟨n, rfl⟩
    · have hs : Same H' H' := Same.refl _
      obtain ⟨Hb', g, e'⟩ := Gr.tupS s hs e
      exact q _ _ H' Hb' g (.tup e' (RepAll.mono g.b _ _ (rep_flat h2 _))) h
    · have g := Gr.new (o := .tup (List.replicate i.toNat vs).flatten) s n
      exact q _ _ _ _ g (.tup upd_same (RepAll.mono g.b _ _ (rep_flat h2 _))) h
  | _ => exact h.elim
/-- flat items -/
def flats : List D → Option (List V)
  | [] => some []
  | d :: r => match PL.flat d, flats r with
    | some v, some vs => some (v :: vs)
    | _, _ => none
theorem Rep.flat {Hb : Hp} {v w : V} {d : D} (h : Rep K Hb v d) (e : PL.flat d = some w) : v = w ∧ flatV w = true := by
  cases d <;> cases e <;> (cases h; exact ⟨rfl, rfl⟩)
theorem flats_rep {Hb : Hp} : ∀ {ds : List D} {vs ws : List V}, RepAll K Hb vs ds → flats ds = some ws → vs = ws ∧ ws.all flatV = true
  | [], _, _, h, e => by cases h; cases e; exact ⟨rfl, rfl⟩
  | d :: r, _, ws, h, e => by
    cases h with
    | cons h1 h2 =>
      unfold flats at e
      cases e1 : PL.flat d with
      | none => rw [e1] at e; cases e
      | some u =>
        cases e2 : flats r with
        | none => rw [e1, e2] at e; cases e
        | some us =>
          rw [e1, e2] at e
          cases e
          obtain ⟨rfl, f1⟩ := h1.flat e1
          obtain ⟨rfl, f2⟩ := flats_rep h2 e2
          exact ⟨rfl, by rw [List.all_cons, f1, f2]; rfl⟩
def fIn (neg : Bool) (d e : D) (k : D → Prop) : Prop := optD (PL.flat d) fun x => optD (PL.items e) fun xs => optD (flats xs) fun ys => k (.bl (if neg then !inV x ys else inV x ys))
theorem s_in (neg : Bool) : OpS K (rIn K neg) (fIn neg) := fun H Hb v w d e Q Qd s hv hw h q => by
  obtain ⟨x, e1, h⟩ := optD_ok h
  obtain ⟨xs, e2, h⟩ := optD_ok h
  obtain ⟨ys, e3, h⟩ := optD_ok h
  cases hv.flat e1
  obtain ⟨a, vs, rfl, h1, h2⟩ := hw.items s e2
  obtain ⟨rfl, fl⟩ := flats_rep h2 e3
  refine ⟨a, vs, rfl, h1, ?_, fl, q _ _ H Hb (Gr.refl s) (.bl _) h⟩
  cases d <;> cases e1 <;> rfl
def fAddS (d e : D) (k : D → Prop) : Prop := match d, e with
  | .str x, .str y => x.length + y.length ≤ sizeLine ∧ k (.str (x ++ y))
  | _, _ => False
theorem s_addS : OpS K (fun x y H Q => ∃ i j, x = .str i ∧ y = .str j ∧ i.length + j.length ≤ sizeLine ∧ Q (.str (i ++ j)) H) fAddS := fun H Hb v w d e Q Qd s hv hw h q => by
  cases d with
  | str x =>
    cases e with
    | str y => cases hv.str; cases hw.str; exact ⟨x, y, rfl, rfl, h.1, q _ _ H Hb (Gr.refl s) (.str _) h.2⟩
    | _ => exact h.elim
  | _ => exact h.elim
/-! ### what changes one's own lists -/
theorem tyL {H : Hp} {a : Addr} {vs : List V} (e : H a = some (.lst vs)) : tyV K "list" (.ref a) H := .inl ⟨rfl, vs, SqL.of e⟩
def lstM : M → (List D → Prop) → Prop
  | .lst ds, k => k ds
  | _, _ => False
theorem lstM_ok {m : M} {k : List D → Prop} (h : lstM m k) : ∃ ds, m = .lst ds ∧ k ds := by
  cases m <;> first | exact h.elim | exact ⟨_, rfl, h⟩
/-- s.append(e) -/
def dAppend (i : Nat) (de : DE) : DE := fun ρ Q => mineC ρ[i]? (de ρ fun d ρ1 => cellM ρ1[i]? fun c m => lstM m fun ds => ds.length ≤ 1000000 ∧ Q .non (ρ1.set i (c.put (.lst (ds ++ [d])))))
theorem mine_lst {F : Fx} {σ : L2.St} {H Hb : Hp} {ρ : Rho} {i : Nat} {c : Cell} {a : Addr} (r : R F σ H Hb ρ) (e : ρ[i]? = some c) (hc : c.mine = true) (es : σ[i]? = some (some (.ref a))) {T : String} (hT : T = "list") (hl : ∀ m, c.get = some m → ∃ ds, m = .lst ds) : tyV F.K T (.ref a) H := by
  subst hT
  obtain ⟨a', m, h1, h2, _, _, h5⟩ := r.mine e hc
  rw [es] at h1
  cases h1
  have hg : c.get = some m := by rcases h5 with ⟨rfl, _⟩ | rfl <;> rfl
  obtain ⟨ds, rfl⟩ := hl m hg
  obtain ⟨vs, e1, _⟩ := h2
  exact tyL e1
theorem put_get {c : Cell} {m m' : M} (h : c.get = some m) : (c.put m').get = some m' := by
  cases c <;> first | rfl | cases h
def mineL : Option Cell → Prop → Prop
  | some (.own (.lst _)), p => p
  | some (.io _ (.lst _)), p => p
  | _, _ => False
theorem mineL_ok {o : Option Cell} {p : Prop} (h : mineL o p) : ∃ c ds, o = some c ∧ c.get = some (.lst ds) ∧ p := by
  cases o with
  | none => exact h.elim
  | some c =>
    cases c with
    | own m => cases m <;> first | exact h.elim | exact ⟨_, _, rfl, rfl, h⟩
    | io a m => cases m <;> first | exact h.elim | exact ⟨_, _, rfl, rfl, h⟩
    | _ => exact h.elim
def dMeth (i : Nat) (f : List D → List D → (D → List D → Prop) → Prop) (da : DA) : DE := fun ρ Q => mineL ρ[i]? (da ρ fun xs ρ1 => cellM ρ1[i]? fun c m => lstM m fun ds => f ds xs fun d ds' => Q d (ρ1.set i (c.put (.lst ds'))))
/-- a method that changes its list -/
def MtS (K : PySem.W.Frag) (r : V → List V → Hp → VK → Prop) (f : List D → List D → (D → List D → Prop) → Prop) : Prop := ∀ H Hb a ys vs ds xs (Q : VK) (Qd : D → List D → Prop), Same Hb H → H a = some (.lst ys) → RepAll K Hb ys ds → RepAll K Hb vs xs → f ds xs Qd →
  (∀ u x ys' ds', RepAll K Hb ys' ds' → Rep K Hb u x → Qd x ds' → Q u (upd H a (.lst ys'))) → r (.ref a) vs H Q
theorem meth_core {F : Fx} {σ : L2.St} {H Hb : Hp} {ρ : Rho} {Q : VK} {Qd : D → Rho → Prop} {i : Nat} {r : V → List V → Hp → VK → Prop} {f : List D → List D → (D → List D → Prop) → Prop} {a : Addr} {vs : List V} {xs : List D} (hr : MtS F.K r f) (rr : R F σ H Hb ρ) (es : σ[i]? = some (some (.ref a))) (ra : RepAll F.K Hb vs xs)
    (h : cellM ρ[i]? fun c m => lstM m fun ds => f ds xs fun d ds' => Qd d (ρ.set i (c.put (.lst ds')))) (q : ∀ v d H' ρ', R F σ H' Hb ρ' → Rep F.K Hb v d → Qd d ρ' → Q v H') : r (.ref a) vs H Q := by
  obtain ⟨c, m, e1, g1, h⟩ := cellM_ok h
  obtain ⟨ds, rfl, h⟩ := lstM_ok h
  obtain ⟨a', es', ⟨ys, e2, ry⟩, nb, nf⟩ := rr.mineG e1 g1
  rw [es] at es'
  cases es'
  exact hr H Hb a ys vs ds xs Q _ rr.sub e2 ry ra h fun u x ys' ds' ry' ru hq => q u x _ _ (rr.mut e1 (getM g1) es (fun b o n eb => by rw [upd_ne n]; exact eb) (show MAt F.K Hb (upd H a (.lst ys')) a (.lst ds') from ⟨ys', upd_same, ry'⟩)) ru hq
theorem snd_meth (i : Nat) {r : V → List V → Hp → VK → Prop} {f : List D → List D → (D → List D → Prop) → Prop} {n : Nat} {t : TA} {da : DA} (hr : MtS K r f) (ha : SndA K n t da) : SndE K (tBM K "list" r (tVar i) t) (dMeth i f da) := fun F σ H Hb ρ Q Qd hK rr h q => by
  subst hK
  obtain ⟨c, ds, e0, g0, h⟩ := mineL_ok h
  obtain ⟨a, es, ⟨ys, e2, _⟩, _⟩ := rr.mineG e0 g0
  refine ⟨_, es, tyL e2, ha F σ H Hb ρ _ _ rfl rr h fun vs xs H1 Hb1 ρ1 r1 b1 ra _ h1 => ?_⟩
  exact meth_core hr r1 es ra h1 fun v d H' ρ' r' rp hq => q v d H' Hb1 ρ' r' b1 rp hq
theorem snd_meth0 (i : Nat) {r : V → List V → Hp → VK → Prop} {f : List D → List D → (D → List D → Prop) → Prop} (hr : MtS K r f) : SndE K (tBM0 K "list" r (tVar i)) (dMeth i f dNilA) := fun F σ H Hb ρ Q Qd hK rr h q => by
  subst hK
  obtain ⟨c, ds, e0, g0, h⟩ := mineL_ok h
  obtain ⟨a, es, ⟨ys, e2, _⟩, _⟩ := rr.mineG e0 g0
  exact ⟨_, es, tyL e2, meth_core hr rr es .nil h fun v d H' ρ' r' rp hq => q v d H' Hb ρ' r' (Same.refl _) rp hq⟩
def mAppend (ds xs : List D) (k : D → List D → Prop) : Prop := arg1 xs fun d => ds.length ≤ 1000000 ∧ k .non (ds ++ [d])
theorem RepAll.one1 {Hb : Hp} {vs : List V} {ds : List D} {k : D → Prop} (h : RepAll K Hb vs ds) (q : arg1 ds k) : ∃ v d, vs = [v] ∧ ds = [d] ∧ Rep K Hb v d ∧ k d := by
  cases h with
  | nil => exact q.elim
  | cons h1 h2 =>
    cases h2 with
    | nil => exact ⟨_, _, rfl, rfl, h1, q⟩
    | cons _ _ => exact q.elim
theorem s_append : MtS K rAppend mAppend := fun H Hb a ys vs ds xs Q Qd s e ry ra h q => by
  obtain ⟨v, d, rfl, rfl, rp, h⟩ := ra.one1 h
  exact ⟨a, ys, v, rfl, rfl, e, by rw [ry.len, sizeLine_eq]; have := h.1; omega, q _ _ _ _ (ry.append (.one rp)) .non h.2⟩
def mPop (ds xs : List D) (k : D → List D → Prop) : Prop := match xs with
  | [] => optD ds[ds.length - 1]? fun d => k d ds.dropLast
  | _ => False
theorem dropLast_rep {Hb : Hp} : ∀ {vs : List V} {ds : List D}, RepAll K Hb vs ds → RepAll K Hb vs.dropLast ds.dropLast := fun {vs ds} h => by
  rw [List.dropLast_eq_take, List.dropLast_eq_take, h.len]
  exact h.take _
theorem s_pop : MtS K rPop mPop := fun H Hb a ys vs ds xs Q Qd s e ry ra h q => by
  cases ra with
  | cons _ _ => exact h.elim
  | nil =>
    obtain ⟨d, ed, h⟩ := optD_ok h
    obtain ⟨u, eu, ru⟩ := ry.get ed
    exact ⟨a, ys, u, rfl, rfl, e, by rw [ry.len]; exact eu, q _ _ _ _ (dropLast_rep ry) ru h⟩
def mPopAt (ds xs : List D) (k : D → List D → Prop) : Prop := arg1 xs fun e => int1 e fun i => (-(2 ^ 63) ≤ i ∧ i < 2 ^ 63) ∧ optD (seqIndex? i ds.length) fun j => optD ds[j]? fun d => k d (ds.eraseIdx j)
theorem s_popAt : MtS K rPopAt mPopAt := fun H Hb a ys vs ds xs Q Qd s e ry ra h q => by
  obtain ⟨v, d, rfl, rfl, rp, h⟩ := ra.one1 h
  obtain ⟨i, rfl, ⟨c1, c2⟩, h⟩ := int1_ok h
  obtain ⟨j, ej, h⟩ := optD_ok h
  obtain ⟨x, ex, h⟩ := optD_ok h
  cases rp
  obtain ⟨u, eu, ru⟩ := ry.get ex
  exact ⟨a, ys, i, j, u, rfl, rfl, e, c1, c2, by rw [ry.len]; exact ej, eu, q _ _ _ _ (ry.eraseIdx j) ru h⟩
/-- xs[i] = e, xs in a slot of one's own -/
def gIxL (s : Nat) (di : DE) : DG := fun d ρ Q => mineL ρ[s]? (di ρ fun x ρ1 => int1 x fun k => cellM ρ1[s]? fun c m => lstM m fun ds => optD (ixN ds.length k) fun j => Q (ρ1.set s (c.put (.lst (ds.set j d)))))
theorem sng_ixL (s : Nat) {ti : TE} {di : DE} (hi : SndE K ti di) : SndG K (gSub (tVar s) ti rSetL) (gIxL s di) := fun F σ H Hb ρ v d Q Qd hK rr rp h q => by
  subst hK
  obtain ⟨c, ds, e0, g0, h⟩ := mineL_ok h
  obtain ⟨a, es, ⟨ys, e2, _⟩, _⟩ := rr.mineG e0 g0
  refine ⟨_, es, hi F σ H Hb ρ _ _ rfl rr h fun u x H1 Hb1 ρ1 r1 b1 ru h1 => ?_⟩
  obtain ⟨k, rfl, h1⟩ := int1_ok h1
  obtain ⟨c1, m, e1, g1, h1⟩ := cellM_ok h1
  obtain ⟨ds1, rfl, h1⟩ := lstM_ok h1
  obtain ⟨j, ej, h1⟩ := optD_ok h1
  obtain ⟨a', es', ⟨zs, e3, rz⟩, nb, nf⟩ := r1.mineG e1 g1
  rw [es] at es'
  cases es'
  cases ru
  refine ⟨a, zs, k, j, rfl, rfl, e3, by rw [rz.len]; exact ej, q _ _ Hb1 _ (r1.mut e1 (getM g1) es (fun b o n eb => by rw [upd_ne n]; exact eb) (show MAt F.K Hb1 (upd H1 a (.lst (zs.set j v))) a (.lst (ds1.set j d)) from ⟨_, upd_same, rz.set j (Rep.mono b1 _ _ rp)⟩)) b1 h1⟩
end
end PL
namespace PL
open PySem PySem.Spec PyProof.Rows L2 TB
/-! ### xs[i] op= e -/
section
variable {X : Cx}
theorem pget_list : PGet X (rIxL X.K) := by
  intro pins s σ H x y v u Q I rx ry h
  obtain ⟨p, xs, i, z, rfl, rfl, hq, he, q⟩ := h
  cases rx
  obtain ⟨t, rfl⟩ := ry
  obtain ⟨its, r, pl, hz⟩ := I.list hq
  obtain ⟨j, h1, h2, h3, h4, h5⟩ := atI_get he
  obtain ⟨w, ew, rw'⟩ := r.get h2
  have hl := r.length
  have hn := line63
  have fin : EP X pins σ Q w s := ⟨z, H, I, rw', q⟩
  by_cases h0 : 0 ≤ i
  · have hj : i.toNat = j := by
      rw [seqIndex_of h0 h5] at h1
      exact Option.some.inj h1
    exact wpAny_getItem_list pl.isList h0 (by omega) (by rw [hj]; simpa using ew) fin
  · have hj : (i + (its.toArray.size : Int)).toNat = j := by
      rw [seqIndex_neg (by omega) h4] at h1
      rw [List.size_toArray, ← hl]
      exact Option.some.inj h1
    exact wpAny_getItem_list_neg pl.isList (by omega) (by rw [List.size_toArray] <;> omega) (by omega) (by rw [hj]; simpa using ew) fin
end
section
variable {K : PySem.W.Frag}
/-- xs[i] op= e, xs in a slot of one's own -/
def dAugL (s : Nat) (di : DE) (f : Int → Int → Int) (de : DE) : DS := fun E ρ => mineL ρ[s]? (di ρ fun x ρ1 => int1 x fun k => cellM ρ1[s]? fun _ m => lstM m fun ds => optD (atI ds k) fun old => de ρ1 fun y ρ2 => ip2 f old y fun z => cellM ρ2[s]? fun c m => lstM m fun ds => optD (ixN ds.length k) fun j => E.nx (ρ2.set s (c.put (.lst (ds.set j z)))))
theorem sns_augL (s : Nat) {ti te : TE} {di de : DE} {f : Int → Int → Int} (hi : SndE K ti di) (he : SndE K te de) : SndS K (tAugS (tVar s) ti te (rIxL K) (ipI f) rSetL) (dAugL s di f de) := fun F σ H Hb ρ D E hK rr h e => by
  subst hK
  obtain ⟨c, ds, e0, g0, h⟩ := mineL_ok h
  obtain ⟨a, es, ⟨ys, e2, _⟩, _⟩ := rr.mineG e0 g0
  refine ⟨_, es, hi F σ H Hb ρ _ _ rfl rr h fun u x H1 Hb1 ρ1 r1 b1 ru h1 => ?_⟩
  obtain ⟨k, rfl, h1⟩ := int1_ok h1
  obtain ⟨c1, m, e1, g1, h1⟩ := cellM_ok h1
  obtain ⟨ds1, rfl, h1⟩ := lstM_ok h1
  obtain ⟨old, eo, h1⟩ := optD_ok h1
  obtain ⟨a', es', ⟨zs, e3, rz⟩, nb, nf⟩ := r1.mineG e1 g1
  rw [es] at es'
  cases es'
  cases ru
  obtain ⟨v, ev, rv⟩ := atI_rep rz eo
  refine ⟨a, zs, k, v, rfl, rfl, SqL.of e3, ev, he F σ H1 Hb1 ρ1 _ _ rfl r1 h1 fun w y H2 Hb2 ρ2 r2 b2 rw' h2 => ?_⟩
  obtain ⟨i, j, rfl, rfl, h2⟩ := int2_ok h2
  cases rv
  cases rw'
  refine ⟨i, j, rfl, rfl, ?_⟩
  obtain ⟨c2, m2, e4, g4, h2⟩ := cellM_ok h2
  obtain ⟨ds2, rfl, h2⟩ := lstM_ok h2
  obtain ⟨n, en, h2⟩ := optD_ok h2
  obtain ⟨a', es', ⟨ws, e5, rw5⟩, nb2, nf2⟩ := r2.mineG e4 g4
  rw [es] at es'
  cases es'
  exact ⟨a, ws, k, n, rfl, rfl, e5, by rw [rw5.len]; exact en, e.nx _ _ Hb2 _ (r2.mut e4 (getM g4) es (fun b o n eb => by rw [upd_ne n]; exact eb) (show MAt F.K Hb2 (upd H2 a (.lst (ws.set n _))) a (.lst (ds2.set n _)) from ⟨_, upd_same, rw5.set n (.int _)⟩)) (b1.trans b2) h2⟩
end
/-! ### a dict of the module with text keys -/
inductive EsAre (P : Params) : List DictEntry → List (Str × V) → Prop
  | nil : EsAre P [] []
  | cons {x : Str} {t : Tok} {v : V} {u : Value} {es : List DictEntry} {kvs : List (Str × V)} : RelV v u → EsAre P es kvs → EsAre P (⟨PyData.keyHash P x, .str x t, u⟩ :: es) ((x, v) :: kvs)
theorem EsAre.lit {P : Params} : ∀ {es : List DictEntry} {kvs : List (Str × V)}, EsAre P es kvs → PySem.W.KeysLit P es
  | _, _, .nil => trivial
  | _, _, .cons _ h => ⟨⟨_, _, rfl, rfl⟩, h.lit⟩
theorem EsAre.find {P : Params} : ∀ {es : List DictEntry} {kvs : List (Str × V)} (x : Str), EsAre P es kvs → RelO (kvs.lookup x) ((es.find? fun e => Value.isStrOf x e.key).map (·.val))
  | _, _, x, .nil => trivial
  | _, _, x, .cons (x := y) (t := t) (v := v) (u := u) (es := es) (kvs := kvs) r h => by
    rw [List.find?_cons, List.lookup_cons]
    have e : Value.isStrOf x (.str y t) = (x == y) := by
      unfold Value.isStrOf
      exact Bool.beq_comm
    show RelO (match x == y with | true => some v | false => kvs.lookup x) (Option.map (fun (e : DictEntry) => e.val) (match Value.isStrOf x (.str y t) with | true => _ | false => _))
    rw [e]
    cases x == y with
    | true => exact r
    | false => exact h.find x
def KDC (K : PySem.W.Frag) (w : World) (a : Addr) (kvs : List (Str × V)) : Prop := ∃ es n, K.lookup a = some ⟨.type "dict", none, .dict es n, #[]⟩ ∧ EsAre w.params es.toList kvs ∧ (a == sysModules) = false
theorem KDC.find {K : PySem.W.Frag} {w : World} {es : Array DictEntry} {kvs : List (Str × V)} (h : EsAre w.params es.toList kvs) (x : Str) : RelO (kvs.lookup x) (findBy Value.isStrOf es x) := by
  obtain ⟨l⟩ := es
  unfold findBy
  rw [List.find?_toArray]
  exact h.find x
def rIxKD (K : PySem.W.Frag) (w : World) : R2 := fun x y H Q => ∃ p z kvs v, x = .ref p ∧ y = .str z ∧ KDC K w p kvs ∧ kvs.lookup z = some v ∧ Q v H
def rInKD (K : PySem.W.Frag) (w : World) (neg : Bool) : R2 := fun y x H Q => ∃ p z kvs, x = .ref p ∧ y = .str z ∧ KDC K w p kvs ∧ Q (.bl (if neg then !(kvs.lookup z).isSome else (kvs.lookup z).isSome)) H
section
variable {X : Cx}
theorem ix_kdc : IxR X (rIxKD X.K X.w) := by
  intro value slice pins s σ H x y v u Q I rx ry h hs
  obtain ⟨p, z, kvs, r, rfl, rfl, ⟨es, n, hl, hk, low⟩, el, q⟩ := h
  obtain rfl : v = Value.ref p := rx
  obtain ⟨t, rfl⟩ := ry
  have hm := PySem.W.mapOf_K (prog := X.prog) (w := X.w) I.kIn hl hk.lit
  have hf := KDC.find (K := X.K) hk z
  rw [el] at hf
  cases e : findBy Value.isStrOf es z with
  | none => rw [e] at hf; exact hf.elim
  | some u0 =>
    rw [e] at hf
    exact tail_any hm.typeIs slot_dict_getitem.lookup (wpAny_getItem_of (strKind_is X.prog X.w z t) hm e ⟨r, H, I.tok _, hf, q⟩) hs
theorem RelO.isSome {a : Option V} {b : Option Value} (h : RelO a b) : a.isSome = b.isSome := by
  cases a <;> cases b <;> first | rfl | exact h.elim
theorem op_inKD : OpR X (compareOp .In) (rInKD X.K X.w false) := by
  intro pins s σ H x y v u Q I rx ry h
  obtain ⟨p, z, kvs, rfl, rfl, ⟨es, n, hl, hk, low⟩, q⟩ := h
  obtain rfl : u = Value.ref p := ry
  obtain ⟨t, rfl⟩ := rx
  have hm := PySem.W.mapOf_K (prog := X.prog) (w := X.w) I.kIn hl hk.lit
  have hf := RelO.isSome (KDC.find (K := X.K) hk z)
  refine wpAny_in_of (strKind_is X.prog X.w z t) low hm ⟨.bl _, H, I.tok _, rfl, ?_⟩
  rw [← hf]
  exact q
theorem op_notInKD : OpR X (compareOp .NotIn) (rInKD X.K X.w true) := by
  intro pins s σ H x y v u Q I rx ry h
  obtain ⟨p, z, kvs, rfl, rfl, ⟨es, n, hl, hk, low⟩, q⟩ := h
  obtain rfl : u = Value.ref p := ry
  obtain ⟨t, rfl⟩ := rx
  have hm := PySem.W.mapOf_K (prog := X.prog) (w := X.w) I.kIn hl hk.lit
  have hf := RelO.isSome (KDC.find (K := X.K) hk z)
  refine wpAny_notIn_of (strKind_is X.prog X.w z t) low hm ⟨.bl _, H, I.tok _, rfl, ?_⟩
  rw [← hf]
  exact q
end
/-- where such a dict stands -/
structure ConD (K : PySem.W.Frag) (w : World) (mg : Str → Option Value) (x : Str) (kvs : List (Str × V)) where
  a : Addr
  g : mg x = some (.ref a)
  c : KDC K w a kvs
section
variable {K : PySem.W.Frag} {w : World} {a : Addr} {kvs : List (Str × V)} {es : List (Str × D)}
/-- its values as data -/
inductive KVs : List (Str × V) → List (Str × D) → Prop
  | nil : KVs [] []
  | cons {x : Str} {v : V} {d : D} {kvs : List (Str × V)} {es : List (Str × D)} : (∀ (K : PySem.W.Frag) (Hb : Hp), Rep K Hb v d) → KVs kvs es → KVs ((x, v) :: kvs) ((x, d) :: es)
theorem KVs.get : ∀ {kvs : List (Str × V)} {es : List (Str × D)} {x : Str} {d : D}, KVs kvs es → es.lookup x = some d → ∃ v, kvs.lookup x = some v ∧ ∀ (K : PySem.W.Frag) (Hb : Hp), Rep K Hb v d
  | _, _, x, d, .cons (x := y) h t, e => by
    rw [List.lookup_cons] at e ⊢
    cases q : x == y with
    | true => rw [q] at e; cases e; exact ⟨_, rfl, h⟩
    | false => rw [q] at e; exact t.get e
theorem KVs.some : ∀ {kvs : List (Str × V)} {es : List (Str × D)} {x : Str}, KVs kvs es → (kvs.lookup x).isSome = (es.lookup x).isSome
  | _, _, x, .nil => rfl
  | _, _, x, .cons (x := y) h t => by
    rw [List.lookup_cons, List.lookup_cons]
    cases q : x == y with
    | true => rfl
    | false => exact t.some
def opqR (a : Addr) : D → Prop → Prop
  | .opq (.ref b), p => b = a ∧ p
  | _, _ => False
def str1 : D → (Str → Prop) → Prop
  | .str x, k => k x
  | _, _ => False
theorem str1_ok {d : D} {k : Str → Prop} (h : str1 d k) : ∃ x, d = .str x ∧ k x := by
  cases d <;> first | exact h.elim | exact ⟨_, rfl, h⟩
theorem opqR_ok {d : D} {p : Prop} (h : opqR a d p) : d = .opq (.ref a) ∧ p := by
  cases d with
  | opq v =>
    cases v with
    | ref b => exact ⟨by rw [h.1], h.2⟩
    | _ => exact h.elim
  | _ => exact h.elim
def fIxKD (a : Addr) (es : List (Str × D)) (d e : D) (k : D → Prop) : Prop := opqR a d (str1 e fun z => optD (es.lookup z) k)
def fInKD (a : Addr) (es : List (Str × D)) (neg : Bool) (e d : D) (k : D → Prop) : Prop := opqR a d (str1 e fun z => k (.bl (if neg then !(es.lookup z).isSome else (es.lookup z).isSome)))
theorem s_ixKD (c : KDC K w a kvs) (kv : KVs kvs es) : OpS K (rIxKD K w) (fIxKD a es) := fun H Hb v u d e Q Qd s hv hw h q => by
  obtain ⟨rfl, h2⟩ := opqR_ok h
  obtain ⟨z, rfl, h3⟩ := str1_ok h2
  obtain ⟨x, ex, h4⟩ := optD_ok h3
  obtain ⟨y, ey, ry⟩ := kv.get ex
  exact ⟨a, z, kvs, y, hv.opq, hw.str, c, ey, q _ _ H Hb (Gr.refl s) (ry K Hb) h4⟩
theorem s_inKD (c : KDC K w a kvs) (kv : KVs kvs es) (neg : Bool) : OpS K (rInKD K w neg) (fInKD a es neg) := fun H Hb v u d e Q Qd s hv hw h q => by
  obtain ⟨rfl, h2⟩ := opqR_ok h
  obtain ⟨z, rfl, h3⟩ := str1_ok h2
  refine ⟨a, z, kvs, hw.opq, hv.str, c, q _ _ H Hb (Gr.refl s) ?_ h3⟩
  rw [kv.some]
  exact .bl _
end
end PL
namespace PL
open PySem PySem.Spec PyProof.Rows L2 TB
section
variable {K : PySem.W.Frag}
/-- a name that may hold one's own: it is data from then on -/
def varF (i : Nat) (ρ : Rho) (Q : D → Rho → Prop) : Option Cell → Prop
  | some (.val d) => Q d ρ
  | some (.own m) => frzM m fun d => Q d (ρ.set i (.val d))
  | _ => False
def dVarF (i : Nat) : DE := fun ρ Q => varF i ρ Q ρ[i]?
theorem snd_varF (i : Nat) : SndE K (tVar i) (dVarF i) := fun F σ H Hb ρ Q Qd hK r h q => by
  subst hK
  unfold dVarF at h
  cases e : ρ[i]? with
  | none => rw [e] at h; exact h.elim
  | some c =>
    rw [e] at h
    cases c with
    | val d =>
      obtain ⟨v, h1, h2⟩ := r.val e
      exact ⟨v, h1, q v d H Hb ρ r (Same.refl _) h2 h⟩
    | own m =>
      obtain ⟨d, v, Hb', hk, sb, h1, h2, r'⟩ := r.freeze e h
      exact ⟨v, h1, q v d H Hb' _ r' sb h2 hk⟩
    | _ => exact h.elim
/-! ### several slots at once -/
inductive Rs where
  | v (d : D) | own (x : M)
def Rs.cell : Rs → Cell
  | .v d => .val d
  | .own x => .own x
def setAll : L2.St → List Nat → List V → L2.St
  | σ, i :: is, v :: vs => setAll (σ.set i (some v)) is vs
  | σ, _, _ => σ
def setAllR : Rho → List Nat → List Rs → Rho
  | ρ, i :: is, r :: rs => setAllR (ρ.set i r.cell) is rs
  | ρ, _, _ => ρ
theorem setAll_comm {i : Nat} {x : Option V} : ∀ {is : List Nat} {vs : List V} {σ : L2.St}, i ∉ is → setAll (σ.set i x) is vs = (setAll σ is vs).set i x
  | [], _, _, _ => by cases ‹List V› <;> rfl
  | j :: js, [], _, _ => rfl
  | j :: js, v :: vs, σ, h => by
    have hij : i ≠ j := fun e => h (by rw [e]; exact List.mem_cons_self ..)
    show setAll ((σ.set i x).set j (some v)) js vs = (setAll (σ.set j (some v)) js vs).set i x
    rw [List.set_comm _ _ hij]
    exact setAll_comm fun m => h (List.mem_cons_of_mem _ m)
theorem setAllR_comm {i : Nat} {x : Cell} : ∀ {is : List Nat} {rs : List Rs} {ρ : Rho}, i ∉ is → setAllR (ρ.set i x) is rs = (setAllR ρ is rs).set i x
  | [], _, _, _ => by cases ‹List Rs› <;> rfl
  | j :: js, [], _, _ => rfl
  | j :: js, v :: vs, ρ, h => by
    have hij : i ≠ j := fun e => h (by rw [e]; exact List.mem_cons_self ..)
    show setAllR ((ρ.set i x).set j v.cell) js vs = (setAllR (ρ.set j v.cell) js vs).set i x
    rw [List.set_comm _ _ hij]
    exact setAllR_comm fun m => h (List.mem_cons_of_mem _ m)
/-- the results stand: stored, the frame holds -/
def PendAt (F : Fx) (σ : L2.St) (H Hb : Hp) (ρ : Rho) (vs : List V) (rs : List Rs) : Prop := ∀ is H', is.length = rs.length → is.Nodup → Same H H' → R F (setAll σ is vs) H' Hb (setAllR ρ is rs)
/-- a new object kept aside -/
def Fx.keep (F : Fx) (D : Addr) (o : HO) : Fx := ⟨F.K, upd F.fr D o, fun b => b ≠ D ∧ F.al b⟩
def NoTup : HO → Prop
  | .lst _ => True
  | .dK _ => True
  | .dT _ => True
  | _ => False
theorem noTup_rd {H : Hp} {a : Addr} {o : HO} {xs : List V} (h : NoTup o) (e : H a = some o) (r : Rd H a (.tup xs)) : False := by
  rcases r with r | ⟨ob, r⟩
  · rw [e] at r; cases r; exact h
  · rw [e] at r; cases r; exact h
theorem R.enterK {F : Fx} {σ : L2.St} {H H' Hb : Hp} {ρ : Rho} {D : Addr} {o : HO} (r : R F σ H Hb ρ) (n : H D = none) (s : Same H H') (e : H' D = some o) : R (F.keep D o) σ H' Hb ρ := by
  have g : Gr H Hb H' Hb := ⟨s, Same.refl _, r.sub.trans s, fun _ e => .inl e⟩
  have r2 := r.grow g
  have nH : ∀ a, H a ≠ none → a ≠ D := fun a h z => h (by rw [z]; exact n)
  refine ⟨r2.sub, fun b u eb => ?_, fun b eb => ?_, fun b eb => ?_, r.len, fun i c v e1 e2 => ?_, r.dis⟩
  · have eb : upd F.fr D o b = some u := eb
    by_cases hb : b = D
    · subst hb; rw [upd_same] at eb; cases eb; exact e
    · rw [upd_ne hb] at eb; exact r2.fr _ _ eb
  · rcases r2.al b eb with z | z
    · refine .inl ⟨nH b ?_, z⟩
      obtain ⟨u, q⟩ := nonne eb
      rw [r.sub _ _ q]
      exact fun z => nomatch z
    · exact .inr z
  · exact ⟨fun z => (by rw [z, e] at eb; cases eb), r2.nw b eb⟩
  · have old := r2.cell i c v e1 e2
    have old1 := r.cell i c v e1 e2
    cases c with
    | no => trivial
    | val d => exact old
    | own m =>
      obtain ⟨a, q1, q2, q3, q4, q5⟩ := old
      obtain ⟨a', p1, p2, _⟩ := old1
      rw [q1] at p1
      cases p1
      have na := nH a (MAt.ne p2)
      exact ⟨a, q1, q2, q3, by show upd F.fr D _ a = none; rw [upd_ne na]; exact q4, na, q5⟩
    | io a m =>
      obtain ⟨q1, q2, q3, q4⟩ := old
      obtain ⟨p1, p2, _⟩ := old1
      have na := nH a (MAt.ne p2)
      exact ⟨q1, q2, q3, by show upd F.fr D _ a = none; rw [upd_ne na]; exact q4⟩
    | lck a m =>
      obtain ⟨q1, ob, u, q2, q3⟩ := old
      have na := nH a (by rw [r.fr _ _ q2]; exact fun z => nomatch z)
      exact ⟨q1, ob, u, by show upd F.fr D _ a = _; rw [upd_ne na]; exact q2, q3⟩
theorem R.leaveK {F : Fx} {σ : L2.St} {H Hb : Hp} {ρ : Rho} {D : Addr} {o : HO} (r : R (F.keep D o) σ H Hb ρ) (ho : NoTup o) (nf : F.fr D = none) (al : F.al D) : R F σ (sans H D) Hb ρ ∧ Same (sans H D) H ∧ sans H D D = none ∧ H D = some o := by
  have hD : H D = some o := r.fr _ _ (show upd F.fr D _ D = _ from upd_same)
  have nb : Hb D = none := by
    cases q : Hb D with
    | none => rfl
    | some u =>
      rcases r.al D (by rw [q]; exact fun z => nomatch z) with z | ⟨xs, z⟩
      · exact absurd rfl z.1
      · exact (noTup_rd ho hD z).elim
  have ne : ∀ b, b ≠ D → sans H D b = H b := fun b h => if_neg h
  refine ⟨⟨fun b u e => ?_, fun b u e => ?_, fun b e => ?_, fun b e => ?_, r.len, fun i c v e1 e2 => ?_, r.dis⟩, fun b u e => ?_, if_pos rfl, hD⟩
  · have hb : b ≠ D := fun z => by rw [z, nb] at e; cases e
    rw [ne b hb]; exact r.sub _ _ e
  · have hb : b ≠ D := fun z => by rw [z, nf] at e; cases e
    rw [ne b hb]
    exact r.fr _ _ (show upd F.fr D _ b = _ by rw [upd_ne hb]; exact e)
  · have hb : b ≠ D := fun q => e (by rw [q]; exact nb)
    rcases r.al b e with z | ⟨xs, z⟩
    · exact .inl z.2
    · refine .inr ⟨xs, ?_⟩
      rcases z with z | ⟨u, z⟩
      · exact .inl (by rw [ne b hb]; exact z)
      · exact .inr ⟨u, by rw [ne b hb]; exact z⟩
  · by_cases hb : b = D
    · rw [hb]; exact al
    · rw [ne b hb] at e; exact (r.nw b e).2
  · have old := r.cell i c v e1 e2
    have far : ∀ a, (F.keep D o).fr a = none → a ≠ D ∧ F.fr a = none := fun a h => by
      have h : upd F.fr D o a = none := h
      by_cases ha : a = D
      · subst ha; rw [upd_same] at h; cases h
      · rw [upd_ne ha] at h; exact ⟨ha, h⟩
    cases c with
    | no => trivial
    | val d => exact old
    | own m =>
      obtain ⟨a, q1, q2, q3, q4, q5⟩ := old
      obtain ⟨na, f⟩ := far a q4
      exact ⟨a, q1, MAt.mono (Same.refl _) (fun u e => by rw [ne a na]; exact e) q2, q3, f, q5.2⟩
    | io a m =>
      obtain ⟨q1, q2, q3, q4⟩ := old
      obtain ⟨na, f⟩ := far a q4
      exact ⟨q1, MAt.mono (Same.refl _) (fun u e => by rw [ne a na]; exact e) q2, q3, f⟩
    | lck a m =>
      obtain ⟨q1, ob, u, q2, q3⟩ := old
      have q2 : upd F.fr D o a = some (.frz ob u) := q2
      have na : a ≠ D := fun z => by
        rw [z, upd_same] at q2
        cases q2
        exact ho
      rw [upd_ne na] at q2
      exact ⟨q1, ob, u, q2, q3⟩
  · by_cases hb : b = D
    · rw [hb] at e; rw [show sans H D D = none from if_pos rfl] at e; cases e
    · rw [ne b hb] at e; exact e
theorem MAt.obj {Hb H : Hp} {a : Addr} : ∀ {m : M} {k : D → Prop}, frzM m k → MAt K Hb H a m → ∃ o : HO, H a = some o ∧ PL.NoTup o
  | .lst _, _, _, ⟨_, e, _⟩ => ⟨_, e, trivial⟩
  | .dct _, _, _, ⟨_, e, _⟩ => ⟨_, e, trivial⟩
  | .dcu _, _, _, ⟨_, e, _⟩ => ⟨_, e, trivial⟩
  | .dice, _, h, _ => h.elim
/-- makers: a value, or a new object of one's own -/
abbrev DMs := Rho → (List Rs → Rho → Prop) → Prop
def SndMs (K : PySem.W.Frag) (n : Nat) (t : TA) (dm : DMs) : Prop := ∀ (F : Fx) σ H Hb ρ (Q : List V → Hp → Prop) (Qd : List Rs → Rho → Prop), F.K = K → R F σ H Hb ρ → dm ρ Qd →
  (∀ vs rs H' Hb' ρ', Same Hb Hb' → rs.length = n → vs.length = n → PendAt F σ H' Hb' ρ' vs rs → Qd rs ρ' → Q vs H') → t σ H Q
def dmNil : DMs := fun ρ Q => Q [] ρ
theorem sm_nil : SndMs K 0 tNil dmNil := fun F σ H Hb ρ Q Qd hK r h q => q [] [] H Hb ρ (Same.refl _) rfl rfl (fun is H' hl _ s => by
  cases is with
  | nil => exact r.grow ⟨s, Same.refl _, r.sub.trans s, fun _ e => .inl e⟩
  | cons _ _ => cases hl) h
def dmE (de : DE) (dm : DMs) : DMs := fun ρ Q => de ρ fun d ρ1 => dm ρ1 fun rs ρ2 => Q (.v d :: rs) ρ2
theorem sm_e {n : Nat} {t : TE} {u : TA} {de : DE} {dm : DMs} (he : SndE K t de) (hm : SndMs K n u dm) : SndMs K (n + 1) (tCons t u) (dmE de dm) := fun F σ H Hb ρ Q Qd hK r h q => by
  subst hK
  exact he F σ H Hb ρ _ _ rfl r h fun v d H1 Hb1 ρ1 r1 b1 rp h1 => hm F σ H1 Hb1 ρ1 _ _ rfl r1 h1 fun vs rs H2 Hb2 ρ2 b2 l1 l2 pd h2 =>
    q _ (.v d :: rs) H2 Hb2 ρ2 (b1.trans b2) (congrArg Nat.succ l1) (congrArg Nat.succ l2) (fun is H' hl nd s => by
      cases is with
      | nil => cases hl
      | cons i is =>
        have ni := (List.nodup_cons.mp nd).1
        have := (pd is H' (Nat.succ.inj hl) (List.nodup_cons.mp nd).2 s).setV (Rep.mono b2 _ _ rp) i
        show R F (setAll (σ.set i (some v)) is vs) H' Hb2 (setAllR (ρ2.set i (.val d)) is rs)
        rw [setAll_comm ni, setAllR_comm ni]
        exact this) h2
def dmN (dn : DN) (dm : DMs) : DMs := fun ρ Q => dn ρ fun m ρ1 => frzM m fun _ => dm ρ1 fun rs ρ2 => Q (.own m :: rs) ρ2
theorem frzM_const {m : M} {p : Prop} (h : frzM m fun _ => p) : p := by
  cases m <;> first | exact h | exact h.elim
theorem sm_n {n : Nat} {t : TE} {u : TA} {dn : DN} {dm : DMs} (he : SndN K t dn) (hm : SndMs K n u dm) : SndMs K (n + 1) (tCons t u) (dmN dn dm) := fun F σ H Hb ρ Q Qd hK r h q => by
  subst hK
  refine he F σ H Hb ρ _ _ rfl r h fun p m H1 H' Hb1 ρ1 r1 b1 np s hmm h1 => ?_
  obtain ⟨o, eo, no⟩ := MAt.obj h1 hmm
  have h1 := frzM_const h1
  have nf : F.fr p = none := by
    cases e : F.fr p with
    | none => rfl
    | some u => rw [r1.fr _ _ e] at np; cases np
  have al : F.al p := r1.nw p np
  have rk := r1.enterK np s eo
  refine hm (F.keep p o) σ H' Hb1 ρ1 _ _ rfl rk h1 fun vs rs H2 Hb2 ρ2 b2 l1 l2 pd h2 => ?_
  refine q _ (.own m :: rs) H2 Hb2 ρ2 (b1.trans b2) (congrArg Nat.succ l1) (congrArg Nat.succ l2) (fun is H3 hl nd s3 => ?_) h2
  cases is with
  | nil => cases hl
  | cons i is =>
    have ni := (List.nodup_cons.mp nd).1
    obtain ⟨q1, q2, q3, q4⟩ := (pd is H3 (Nat.succ.inj hl) (List.nodup_cons.mp nd).2 s3).leaveK no nf al
    have hm3 : MAt F.K Hb2 H3 p m := MAt.mono b2 (fun u e => by rw [eo] at e; cases e; exact q4) hmm
    have := q1.newM q3 q2 hm3 i
    show R F (setAll (σ.set i (some (.ref p))) is vs) H3 Hb2 (setAllR (ρ2.set i (.own m)) is rs)
    rw [setAll_comm ni, setAllR_comm ni]
    exact this
def dParM (is : List Nat) (dm : DMs) : DS := fun E ρ => dm ρ fun rs ρ1 => E.nx (setAllR ρ1 is rs)
theorem sns_par2 (i j : Nat) {t : TA} {dm : DMs} (h : SndMs K 2 t dm) (hij : i ≠ j := by decide) : SndS K (tPar i j t) (dParM [i, j] dm) := fun F σ H Hb ρ D E hK r hd e =>
  h F σ H Hb ρ _ _ hK r hd fun vs rs H' Hb' ρ' b l1 l2 pd q => by
    match vs, l2 with
    | [v, w], _ => exact ⟨v, w, rfl, e.nx _ H' Hb' _ (pd [i, j] H' l1.symm (by simp [hij]) (Same.refl _)) b q⟩
theorem sns_par3 (i j l : Nat) {t : TA} {dm : DMs} (h : SndMs K 3 t dm) (hij : [i, j, l].Nodup := by decide) : SndS K (tPar3 i j l t) (dParM [i, j, l] dm) := fun F σ H Hb ρ D E hK r hd e =>
  h F σ H Hb ρ _ _ hK r hd fun vs rs H' Hb' ρ' b l1 l2 pd q => by
    match vs, l2 with
    | [v, w, x], _ => exact ⟨v, w, x, rfl, e.nx _ H' Hb' _ (pd [i, j, l] H' l1.symm hij (Same.refl _)) b q⟩
/-- the targets' names in a row -/
inductive GNames : TGs → List Nat → Prop
  | nil : GNames gNil []
  | cons {i : Nat} {u : TGs} {is : List Nat} : GNames u is → GNames (gCons (gName i) u) (i :: is)
theorem GNames.run {u : TGs} {is : List Nat} (g : GNames u is) : ∀ {vs : List V} {σ : L2.St} {H : Hp} {Q : L2.St → Hp → Prop}, vs.length = is.length → Q (setAll σ is vs) H → u vs σ H Q := by
  induction g with
  | nil => exact fun {vs σ H Q} hl q => by cases vs <;> first | exact ⟨rfl, q⟩ | cases hl
  | cons _ ih =>
    intro vs σ H Q hl q
    cases vs with
    | nil => cases hl
    | cons v vs => exact ⟨v, vs, rfl, ih (Nat.succ.inj hl) q⟩
/-- the same by way of a made tuple -/
theorem sns_parT (is : List Nat) {n : Nat} {t : TA} {u : TGs} {dm : DMs} (h : SndMs K n t dm) (g : GNames u is) (hn : is.length = n) (nd : is.Nodup := by decide) (hz : n ≤ 1000 := by decide) : SndS K (tAsg (tTup t) (gTup K n u)) (dParM is dm) := fun F σ H Hb ρ D E hK r hd e =>
  h F σ H Hb ρ _ _ hK r hd fun vs rs H' Hb' ρ' b l1 l2 pd q => by
    refine ⟨by rw [l2, sizeLine_eq]; omega, fun p np => ⟨p, vs, rfl, SqT.of upd_same, l2, g.run (by rw [l2, hn]) ?_⟩⟩
    exact e.nx _ _ Hb' _ (pd is _ (by rw [l1, hn]) nd (same_new np)) b q
def dYes : DT := fun ρ Q => Q true ρ
theorem snd_yes : SndT K tYes dYes := fun F σ H Hb ρ Q Qd hK r h q => q true H Hb ρ r (Same.refl _) h
/-! ### enumerate, zip -/
def enD : Nat → List D → List D
  | _, [] => []
  | i, d :: r => .tup [.int (i : Nat), d] :: enD (i + 1) r
theorem enD_len : ∀ {i : Nat} {ds : List D}, (enD i ds).length = ds.length
  | _, [] => rfl
  | i, d :: r => congrArg Nat.succ enD_len
theorem enD_get : ∀ {k i : Nat} {ds : List D} {x : D}, (enD k ds)[i]? = some x → ∃ d, ds[i]? = some d ∧ x = .tup [.int ((k + i : Nat) : Int), d]
  | k, 0, d :: r, x, h => by cases h; exact ⟨d, rfl, rfl⟩
  | k, i + 1, d :: r, x, h => by
    obtain ⟨e, h1, h2⟩ := enD_get (k := k + 1) (i := i) h
    exact ⟨e, h1, by rw [h2, show k + 1 + i = k + (i + 1) by omega]⟩
theorem enD_at {k i : Nat} {ds : List D} {d : D} (h : ds[i]? = some d) : (enD k ds)[i]? = some (.tup [.int ((k + i : Nat) : Int), d]) := by
  have hi := (List.getElem?_eq_some_iff.mp h).1
  have hi2 : i < (enD k ds).length := by rw [enD_len]; exact hi
  have e : (enD k ds)[i]? = some (enD k ds)[i] := List.getElem?_eq_getElem hi2
  obtain ⟨d', h1, h2⟩ := enD_get e
  rw [h] at h1
  cases h1
  rw [e, h2]
theorem gr_pair {H Hb : Hp} {T : Addr} {x y : V} {d e : D} (s : Same Hb H) (n : H T = none) (hx : Rep K Hb x d) (hy : Rep K Hb y e) : ∃ Hb', Gr H Hb (upd H T (.tup [x, y])) Hb' ∧ Rep K Hb' (.ref T) (.tup [d, e]) := by
  have g := Gr.new (o := .tup [x, y]) s n
  exact ⟨_, g, .tup upd_same (.cons (Rep.mono g.b _ _ hx) (.cons (Rep.mono g.b _ _ hy) .nil))⟩
def dIEnT (da : DA) : DI := fun ρ Q => da ρ fun ds ρ1 => match ds with
  | [.tup xs] => Q (enD 0 xs) ρ1
  | _ => False
theorem sni_enumT {n : Nat} {t : TA} {da : DA} (h : SndA K n t da) : SndI K (iEnumT K t) (dIEnT da) := fun F σ H Hb ρ Rk Qd hK r hd q =>
  h F σ H Hb ρ _ _ hK r hd fun vs ds H' Hb' ρ' r' b rp hl hq => by
    cases rp with
    | nil => exact hq.elim
    | cons h1 h2 =>
      cases h1 with
      | tup t1 t2 =>
        cases h2 with
        | cons _ _ => exact hq.elim
        | nil =>
          rename_i a xs es
          have t1 := SqT.of (K := K) t1
          refine ⟨a, xs, rfl, sT r'.sub t1, q _ _ H' Hb' ρ' r' b ⟨fun i d H Hb1 s1 s2 _ e => ?_, fun i H Hb1 s1 s2 _ e => ⟨xs, sT (s1.trans s2) t1, rfl, by rw [t2.len]; rw [enD_len] at e; exact e⟩⟩ hq⟩
          obtain ⟨d', e1, rfl⟩ := enD_get e
          obtain ⟨v, e2, e3⟩ := t2.get e1
          refine ⟨⟨xs, v, sT (s1.trans s2) t1, e2, rfl⟩, fun x H' ⟨T, y, ex, nT, eH, fy⟩ => ?_⟩
          subst ex eH
          have := fy _ (sT (s1.trans s2) t1)
          rw [e2] at this
          cases this
          rw [Nat.zero_add]
          exact gr_pair s2 nT (.int _) (Rep.mono s1 _ _ e3)
      | _ => exact hq.elim
/-! ### a call that makes a new list -/
def spN (K : PySem.W.Frag) (p : List D → (M → Prop) → Prop) : Sp := fun vs H Q _ => ∃ Hb ds Qd, Same Hb H ∧ RepAll K Hb vs ds ∧ p ds Qd ∧ ∀ q m H', H q = none → Same H H' → MAt K Hb H' q m → Qd m → Q (.ref q) H'
def dCallN (p : List D → (M → Prop) → Prop) (da : DA) : DN := fun ρ Q => da ρ fun ds ρ1 => p ds fun m => Q m ρ1
theorem snd_callN {p : List D → (M → Prop) → Prop} {n : Nat} {t : TA} {da : DA} {E : XK} (h : SndA K n t da) : SndN K (tCall (spN K p) [] E t) (dCallN p da) := fun F σ H Hb ρ Q Qd hK r hd q =>
  h F σ H Hb ρ _ _ hK r hd fun vs ds H1 Hb1 ρ1 r1 b1 ra _ hp => by
    rw [List.append_nil]
    exact ⟨Hb1, ds, _, r1.sub, ra, hp, fun a m H' n s hm hq => q a m H1 H' Hb1 ρ1 r1 b1 n s hm hq⟩
/-! ### promises with the number of arguments told -/
def pdn (n : Nat) (p : PD) : PD := fun as Q => as.length = n ∧ p as Q
def pdi (n : Nat) (p : PI') : PI' := fun m as Q => as.length = n ∧ p m as Q
theorem lenP {n : Nat} {p : PD} {vs : List V} {H : Hp} {Q : VK} {E : XK} (h : spP K (pdn n p) vs H Q E) : vs.length = n := by
  obtain ⟨Hb, ds, Qd, _, ra, hp, _⟩ := h
  rw [ra.len]
  exact hp.1
theorem lenI {n : Nat} {p : PI'} {vs : List V} {H : Hp} {Q : VK} {E : XK} (h : spI K (pdi n p) vs H Q E) : vs.length = n + 1 := by
  obtain ⟨a, us, Hb, m, ds, Qd, rfl, _, _, _, ra, hp, _⟩ := h
  rw [List.length_cons, ra.len, hp.1]
theorem reps_int {Hb : Hp} : ∀ ns : List Int, RepAll K Hb (ns.map V.int) (ns.map D.int)
  | [] => .nil
  | n :: r => .cons (.int n) (reps_int r)
end
/-! ### rules named apart, for comprehensions -/
section
variable {X : Cx} {K : PySem.W.Frag} {w : World}
theorem ix_kdcK (hK : X.K = K) (hw : X.w = w) : IxR X (rIxKD K w) := by
  subst hK hw
  exact ix_kdc
theorem op_inKDK (hK : X.K = K) (hw : X.w = w) : OpR X (compareOp .In) (rInKD K w false) := by
  subst hK hw
  exact op_inKD
theorem op_notInKDK (hK : X.K = K) (hw : X.w = w) : OpR X (compareOp .NotIn) (rInKD K w true) := by
  subst hK hw
  exact op_notInKD
theorem op_eqDK (hK : X.K = K) (hu : X.A.units + 64 < cLine) : OpR X (compareOp .Eq) (rEqD K) := by
  subst hK
  exact op_eqD hu
theorem op_neDK (hK : X.K = K) (hu : X.A.units + 64 < cLine) : OpR X (compareOp .NotEq) (rNeD K) := by
  subst hK
  exact op_neD hu
end
/-! ### ways in the data's reading -/
theorem ifD_t {b : Bool} {p q : Prop} (h : b = true) (hp : p) : ifD b p q := by
  rw [h]
  exact hp
theorem ifD_f {b : Bool} {p q : Prop} (h : b = false) (hq : q) : ifD b p q := by
  rw [h]
  exact hq
theorem ifD2 {b : Bool} {p q : Prop} (h1 : b = true → p) (h2 : b = false → q) : ifD b p q := by
  cases b with
  | true => exact h1 rfl
  | false => exact h2 rfl
theorem ifDd {c : Prop} [Decidable c] {p q : Prop} (h1 : c → p) (h2 : ¬c → q) : ifD (decide c) p q := by
  by_cases h : c
  · rw [decide_eq_true h]; exact h1 h
  · rw [decide_eq_false h]; exact h2 h
theorem ifDn {c : Prop} [Decidable c] {p q : Prop} (h1 : ¬c → p) (h2 : c → q) : ifD (!decide c) p q := by
  by_cases h : c
  · rw [decide_eq_true h]; exact h2 h
  · rw [decide_eq_false h]; exact h1 h
/-- a comprehension of pure elements: what comes of each item -/
theorem lcP_f {g : DG} {dt : DT} {de : DE} {vs : List Nat} {items : List D} {ρ : Rho} {Q : List D → Rho → Prop} (f : D → Option D)
    (h : ∀ x ∈ items, ∀ (N : Rho → Prop) (Y : D → Rho → Prop), (f x = none → N ρ) → (∀ y, f x = some y → Y y ρ) → freeC ρ vs ∧ g x (wipeR ρ vs) fun ρ2 => dt ρ2 fun b ρ3 => ifD b (de ρ3 fun y ρ4 => Y y (backR ρ vs ρ4)) (N (backR ρ vs ρ3)))
    (hd : Q (items.filterMap f) ρ) : lcP g dt de vs items ρ Q := by
  refine ⟨fun i ρ' acc => ρ' = ρ ∧ acc = (items.take i).filterMap f, ⟨rfl, rfl⟩, ?_, ?_⟩
  · rintro i x ρ' acc hx ⟨rfl, rfl⟩
    refine h x (List.mem_of_getElem? hx) (fun r => r = ρ' ∧ _) (fun y r => r = ρ' ∧ _) (fun e => ⟨rfl, ?_⟩) (fun y e => ⟨rfl, ?_⟩)
    · rw [take_snoc f hx, e, Option.toList, List.append_nil]
    · rw [take_snoc f hx, e]; rfl
  · rintro ρ' acc ⟨rfl, rfl⟩
    rw [List.take_length]
    exact hd
/-- [.. for ..], no test: each item's element -/
theorem lcP_m {g : DG} {de : DE} {vs : List Nat} {items : List D} {ρ : Rho} {Q : List D → Rho → Prop} (f : D → D)
    (h : ∀ x ∈ items, ∀ (Y : D → Rho → Prop), Y (f x) ρ → freeC ρ vs ∧ g x (wipeR ρ vs) fun ρ2 => de ρ2 fun y ρ4 => Y y (backR ρ vs ρ4))
    (hd : Q (items.map f) ρ) : lcP g dYes de vs items ρ Q :=
  lcP_f (fun x => some (f x)) (fun x hx N Y _ hY => h x hx Y (hY _ rfl)) (by rw [filterMap_some]; exact hd)
theorem atD {α : Type} {xs : List α} {z : Int} {j : Nat} {v : α} (e : z = (j : Int)) (h : xs[j]? = some v) : atI xs z = some v := by
  subst e
  unfold atI ixN
  have := (List.getElem?_eq_some_iff.mp h).1
  rw [if_pos (by omega), if_pos (by omega)]
  exact h
theorem ixD {n : Nat} {z : Int} {j : Nat} (e : z = (j : Int)) (h : j < n) : ixN n z = some j := by
  subst e
  unfold ixN
  rw [if_pos (by omega), if_pos (by omega)]
  rfl
/-! ### t * k, the tuple told -/
theorem op_repS {X : Cx} : OpR X (binaryOp .Mult) (fun x y H Q => ∃ l k xs, x = .ref l ∧ y = .int k ∧ H l = some (.tup xs) ∧ xs ≠ [] ∧ 0 ≤ k ∧ k ≤ 1000 ∧ xs.length ≤ 1000 ∧ ∀ p H', H' p = some (.tup (List.replicate k.toNat xs).flatten) → (H' = H ∨ (H p = none ∧ H' = upd H p (.tup (List.replicate k.toNat xs).flatten))) → Q (.ref p) H') := by
  intro pins s σ H x y v u Q I rx ry h
  obtain ⟨l, k, xs, e1, e2, hT, hne, h1, h2, hz, q⟩ := h
  by_cases hk : 2 ≤ k
  · exact op_repT pins s σ H x y v u Q I rx ry ⟨l, k, xs, e1, e2, SqT.of hT, hne, hk, h2, hz, fun p n => q p _ upd_same (.inr ⟨n, rfl⟩)⟩
  subst e1 e2
  cases rx
  obtain ⟨t, rfl⟩ := ry
  obtain ⟨its, r, ⟨⟨cls, dd, data, sl⟩, ho, hc, n, hd⟩, hs⟩ := I.tuple (SqT.of hT)
  simp only at hc hd
  subst hc hd
  have hle : its.length = xs.length := r.length.symm
  have hi : its.toArray.isEmpty = false := by
    cases its with
    | nil => exact absurd (List.eq_nil_of_length_eq_zero hle.symm) hne
    | cons a b => rfl
  by_cases h0 : k = 0
  · subst h0
    refine wpAny_binaryOp_repeat_ref (T := "tuple") (U := "int") (by decide) ⟨_, ho, rfl⟩ (fun s' => typeIs_int s' 0 t) noFill_tuple_mul F.fills_int_mul F.slot_int_rmul repeat_tuple F.slot_int_index.lookup
      (call_meets F.slot_int_rmul (typeIs_int s 0 t) F.entry_int_rmul (F.args_int_rmul_2 _ _) (int_rmul_tuple 0 t l its.toArray n dd sl)
        ⟨ho, rfl, ⟨_, ho, rfl⟩, call_meets F.slot_tuple_mul ⟨_, ho, rfl⟩ F.entry_tuple_mul (F.args_tuple_mul_2 _ _) (tuple_mul0 l its.toArray n dd sl t hi) ⟨ho, ?_⟩⟩)
    have fr := I.hok.fresh (Nat.le_refl s.heap.objs.size)
    have new : ObjOk X.prog X.w (upd H s.heap.objs.size (.tup [])) (s.heap.push { cls := .type "tuple", data := .seq #[] }) s.heap.objs.size (.tup []) := ⟨Nat.zero_le _, [], .nil, IsTup.new _ _⟩
    exact ⟨.ref s.heap.objs.size, _, I.laid (t' := s.toks) (o := .tup []) (fun b ob z => Heap.get?_push_of_some _ z) (Nat.le_refl _) new, rfl, q _ _ upd_same (.inr ⟨fr, rfl⟩)⟩
  · have e : k = 1 := by omega
    subst e
    refine wpAny_binaryOp_repeat_ref (T := "tuple") (U := "int") (by decide) ⟨_, ho, rfl⟩ (fun s' => typeIs_int s' 1 t) noFill_tuple_mul F.fills_int_mul F.slot_int_rmul repeat_tuple F.slot_int_index.lookup
      (call_meets F.slot_int_rmul (typeIs_int s 1 t) F.entry_int_rmul (F.args_int_rmul_2 _ _) (int_rmul_tuple 1 t l its.toArray n dd sl)
        ⟨ho, rfl, ⟨_, ho, rfl⟩, call_meets F.slot_tuple_mul ⟨_, ho, rfl⟩ F.entry_tuple_mul (F.args_tuple_mul_2 _ _) (tuple_mul1 l its.toArray n dd sl t) ⟨ho, ?_⟩⟩)
    have e1 : (List.replicate (1 : Int).toNat xs).flatten = xs := by
      show (List.replicate 1 xs).flatten = xs
      simp
    exact ⟨.ref l, H, I.tok _, rfl, q l H (by rw [e1]; exact hT) (.inl rfl)⟩
section
variable {X : Cx} {K : PySem.W.Frag}
theorem call_tupleSK (hK : X.K = K) : CallR X (.type "tuple") (fun xs H Q => ∃ p ys, xs = [.ref p] ∧ ((SqL K H p ys ∧ ∀ l, H l = none → Q (.ref l) (upd H l (.tup ys))) ∨ (SqT K H p ys ∧ Q (.ref p) H))) := by
  subst hK
  exact call_tuple_of
theorem sl_tupleSK (hK : X.K = K) : L2.SlR X (rSlA K) := by
  subst hK
  exact sl_tupA
theorem op_catSK (hK : X.K = K) : OpR X (binaryOp .Add) (rCatA K) := by
  subst hK
  exact op_catA
end
end PL
namespace PL
open PySem PySem.Spec PyProof.Rows L2 TB
section
variable {K : PySem.W.Frag}
/-! ### range with a step; list(range(..)) -/
def rngC (lo c : Int) (n : Nat) : List D := (List.range n).map fun i => .int (lo + (i : Nat) * c)
theorem rngC_len {lo c : Int} {n : Nat} : (rngC lo c n).length = n := by unfold rngC; rw [List.length_map, List.length_range]
theorem rngC_get {lo c : Int} {n i : Nat} {d : D} (h : (rngC lo c n)[i]? = some d) : i < n ∧ d = .int (lo + i * c) := by
  unfold rngC at h
  rw [List.getElem?_map] at h
  by_cases hi : i < n
  · rw [List.getElem?_range hi] at h
    cases h
    exact ⟨hi, rfl⟩
  · rw [List.getElem?_eq_none (by rw [List.length_range]; omega)] at h
    cases h
theorem jat_rngC {lo c : Int} {n : Nat} {Hb fr : Hp} : JAt K (Itc lo c n) Hb fr (rngC lo c n) := ⟨fun i d H Hb1 s1 s2 _ e => by
  obtain ⟨h1, rfl⟩ := rngC_get e
  exact ⟨h1, fun x H' ⟨y1, y2⟩ => by subst y1 y2; exact ⟨Hb1, Gr.refl s2, .int _⟩⟩, fun i H Hb1 s1 s2 _ e => by rw [rngC_len] at e; exact e⟩
def dIRng3 (da : DA) : DI := fun ρ Q => da ρ fun ds ρ1 => match ds with
  | [.int i, .int j, .int c] => ∃ n, RgC i j c n ∧ Q (rngC i c n) ρ1
  | _ => False
theorem sni_rng3 {n : Nat} {t : TA} {da : DA} (h : SndA K n t da) : SndI K (iRng3 t) (dIRng3 da) := fun F σ H Hb ρ Rk Qd hK r hd q =>
  h F σ H Hb ρ _ _ hK r hd fun vs ds H' Hb' ρ' r' b rp hl hq => by
    match ds, rp, hq with
    | [.int i, .int j, .int c], rp, ⟨n, hr, hq⟩ =>
      cases rp with
      | cons h1 h2 =>
        cases h2 with
        | cons h3 h4 =>
          cases h4 with
          | cons h5 h6 =>
            cases h6
            cases h1
            cases h3
            cases h5
            exact ⟨i, j, c, n, rfl, hr, q _ _ H' Hb' ρ' r' b jat_rngC hq⟩
theorem rg_rep {Hb : Hp} (a b : Int) : RepAll K Hb (rgV a b) (rngD a (b - a).toNat) := by
  unfold rgV rngD
  induction List.range (b - a).toNat with
  | nil => exact .nil
  | cons i r ih => exact .cons (.int _) ih
def dLstRg1 (de : DE) : DN := fun ρ Q => de ρ fun d ρ1 => int1 d fun j => RgOk 0 j ∧ Q (.lst (rngD 0 (j - 0).toNat)) ρ1
theorem snd_lstRg1 {t : TE} {de : DE} (h : SndE K t de) : SndN K (tLstRg (tRg1 t)) (dLstRg1 de) := fun F σ H Hb ρ Q Qd hK r hd q => by
  subst hK
  refine h F σ H Hb ρ _ _ rfl r hd fun v d H' Hb' ρ' r' b rp hq => ?_
  obtain ⟨j, rfl, ok, hq⟩ := int1_ok hq
  cases rp
  exact ⟨j, rfl, ok, fun p n => q p (.lst (rngD 0 (j - 0).toNat)) H' _ Hb' ρ' r' b n (same_new n) ⟨_, upd_same, rg_rep 0 j⟩ hq⟩
def dTupRg1 (de : DE) : DE := fun ρ Q => de ρ fun d ρ1 => int1 d fun j => RgOk 0 j ∧ Q (.tup (rngD 0 (j - 0).toNat)) ρ1
theorem snd_tupRg1 {t : TE} {de : DE} (h : SndE K t de) : SndE K (tTupRg (tRg1 t)) (dTupRg1 de) := fun F σ H Hb ρ Q Qd hK r hd q => by
  subst hK
  refine h F σ H Hb ρ _ _ rfl r hd fun v d H' Hb' ρ' r' b rp hq => ?_
  obtain ⟨j, rfl, ok, hq⟩ := int1_ok hq
  cases rp
  refine ⟨j, rfl, ok, fun p n => ?_⟩
  have g := Gr.new (o := .tup (rgV 0 j)) r'.sub n
  exact q _ _ _ _ ρ' (r'.grow g) (b.trans g.b) (.tup upd_same (rg_rep 0 j)) hq
/-! ### arguments with stars -/
def SndU (K : PySem.W.Frag) (t : TA) (da : DA) : Prop := ∀ (F : Fx) σ H Hb ρ (Q : List V → Hp → Prop) (Qd : List D → Rho → Prop), F.K = K → R F σ H Hb ρ → da ρ Qd →
  (∀ vs ds H' Hb' ρ', R F σ H' Hb' ρ' → Same Hb Hb' → RepAll K Hb' vs ds → Qd ds ρ' → Q vs H') → t σ H Q
theorem snu_nil : SndU K tNil dNilA := fun F σ H Hb ρ Q Qd hK r h q => q [] [] H Hb ρ r (Same.refl _) .nil h
theorem snu_cons {t : TE} {u : TA} {a : DE} {b : DA} (ha : SndE K t a) (hb : SndU K u b) : SndU K (tCons t u) (dConsA a b) := fun F σ H Hb ρ Q Qd hK r h q =>
  ha F σ H Hb ρ _ _ hK r h fun v d H1 Hb1 ρ1 r1 b1 p1 q1 => hb F σ H1 Hb1 ρ1 _ _ hK r1 q1 fun vs ds H2 Hb2 ρ2 r2 b2 p2 q2 => q _ _ H2 Hb2 ρ2 r2 (b1.trans b2) (.cons (Rep.mono b2 _ _ p1) p2) q2
def dStarA (a : Opd) (r : DA) : DA := fun ρ Q => a.run ρ fun p ρ1 => p.res ρ1 fun d => optD (items d) fun xs => r ρ1 fun ds ρ2 => Q (xs ++ ds) ρ2
theorem snu_star {t : TE} {u : TA} {a : Opd} {b : DA} (ha : SndO K t a) (hb : SndU K u b) : SndU K (StX.tStar K t u) (dStarA a b) := fun F σ H Hb ρ Q Qd hK r h q => by
  subst hK
  refine SndO.use (t := t) rfl r ha h fun v p H1 Hb1 ρ1 r1 b1 o1 h1 => ?_
  obtain ⟨d, vd, h2⟩ := OpAt.res r1 o1 h1
  obtain ⟨xs, ex, h2⟩ := optD_ok h2
  obtain ⟨a, us, rfl, hs, ra⟩ := vd.items r1.sub ex
  refine ⟨a, us, rfl, hs.symm, hb F σ H1 Hb1 ρ1 _ _ rfl r1 h2 fun vs ds H2 Hb2 ρ2 r2 b2 p2 q2 => ?_⟩
  exact q _ _ H2 Hb2 ρ2 r2 (b1.trans b2) ((RepAll.mono b2 _ _ ra).append p2) q2
def dTupU (da : DA) : DE := fun ρ Q => da ρ fun ds ρ1 => ds.length ≤ 1000000 ∧ Q (.tup ds) ρ1
theorem snd_tupU {t : TA} {da : DA} (h : SndU K t da) : SndE K (tTup t) (dTupU da) := fun F σ H Hb ρ Q Qd hK r hd q => by
  subst hK
  refine h F σ H Hb ρ _ _ rfl r hd fun vs ds H1 Hb1 ρ1 r1 b1 ra hq => ⟨by rw [ra.len, sizeLine_eq]; have := hq.1; omega, fun p n => ?_⟩
  have g := Gr.new (o := .tup vs) r1.sub n
  exact q _ (.tup ds) _ _ ρ1 (r1.grow g) (b1.trans g.b) (.tup upd_same (RepAll.mono g.b _ _ ra)) hq.2
/-! ### xs[::-1] -/
def dRevL (a : Opd) : DN := fun ρ Q => a.run ρ fun p ρ1 => p.res ρ1 fun d => lst1 d fun xs => Q (.lst xs.reverse) ρ1
theorem snd_revLN {t : TE} {a : Opd} (ha : SndO K t a) : SndN K (tRevLA K t) (dRevL a) := fun F σ H Hb ρ Q Qd hK r h q => by
  subst hK
  refine SndO.use (t := t) rfl r ha h fun v p H1 Hb1 ρ1 r1 b1 o1 h1 => ?_
  obtain ⟨d, vd, h2⟩ := OpAt.res r1 o1 h1
  obtain ⟨xs, rfl, h2⟩ := lst1_ok h2
  obtain ⟨a, us, rfl, e, ra⟩ := vd.lst' r1.sub
  exact ⟨a, us, rfl, SqL.of e, fun p H' s e n => q p (.lst xs.reverse) H1 H' Hb1 ρ1 r1 b1 n s ⟨_, e, ra.reverse⟩ h2⟩
/-! ### max, min of a list -/
def fMax (ds : List D) (k : D → Prop) : Prop := arg1 ds fun d => lst1 d fun xs => optD (intL xs) fun ns => ns ≠ [] ∧ ∀ m, m ∈ ns → (∀ y, y ∈ ns → y ≤ m) → k (.int m)
theorem s_max : CallS K (rMax K) fMax := fun H Hb vs ds Q Qd s hv h q => by
  obtain ⟨v, d, rfl, rfl, vd, h⟩ := hv.one h
  obtain ⟨xs, rfl, h⟩ := lst1_ok h
  obtain ⟨ns, e, n0, h⟩ := optD_ok h
  obtain ⟨a, us, rfl, h1, h2⟩ := vd.lst' s
  cases intL_rep h2 e
  exact ⟨a, ns, rfl, SqL.of h1, List.length_pos_iff.mpr n0, fun m hm hy => q _ _ H Hb (Gr.refl s) (.int _) (h m hm hy)⟩
def fMin (ds : List D) (k : D → Prop) : Prop := arg1 ds fun d => lst1 d fun xs => optD (intL xs) fun ns => ns ≠ [] ∧ ∀ m, m ∈ ns → (∀ y, y ∈ ns → m ≤ y) → k (.int m)
theorem s_min : CallS K (rMin K) fMin := fun H Hb vs ds Q Qd s hv h q => by
  obtain ⟨v, d, rfl, rfl, vd, h⟩ := hv.one h
  obtain ⟨xs, rfl, h⟩ := lst1_ok h
  obtain ⟨ns, e, n0, h⟩ := optD_ok h
  obtain ⟨a, us, rfl, h1, h2⟩ := vd.lst' s
  cases intL_rep h2 e
  exact ⟨a, ns, rfl, SqL.of h1, List.length_pos_iff.mpr n0, fun m hm hy => q _ _ H Hb (Gr.refl s) (.int _) (h m hm hy)⟩
/-! ### shifts -/
def nat1 : Int → (Nat → Prop) → Prop
  | .ofNat n, k => k n
  | _, _ => False
theorem nat1_ok {i : Int} {k : Nat → Prop} (h : nat1 i k) : ∃ n : Nat, i = (n : Int) ∧ k n := by
  cases i with
  | ofNat n => exact ⟨n, rfl, h⟩
  | negSucc n => exact h.elim
theorem nat1_of {k : Nat → Prop} {n : Nat} {i : Int} (e : i = (n : Int)) (h : k n) : nat1 i k := by subst e; exact h
def fShr (d e : D) (k : D → Prop) : Prop := int2 d e fun i j => ∃ n : Nat, j = (n : Int) ∧ k (.int (i / 2 ^ n))
theorem s_shrN : OpS K (fun x y H Q => ∃ (i : Int) (k : Nat), x = .int i ∧ y = .int (k : Int) ∧ Q (.int (i / 2 ^ k)) H) fShr := fun H Hb v w d e Q Qd s hv hw h q => by
  obtain ⟨i, j, rfl, rfl, n, rfl, h2⟩ := int2_ok h
  cases hv.int
  cases hw.int
  exact ⟨i, n, rfl, rfl, q _ _ H Hb (Gr.refl s) (.int _) h2⟩
def fShl (d e : D) (k : D → Prop) : Prop := int2 d e fun i j => ∃ n : Nat, j = (n : Int) ∧ CShl i (n : Int) ∧ k (.int (i * 2 ^ n))
theorem s_shlN : OpS K (fun x y H Q => ∃ (i : Int) (k : Nat), x = .int i ∧ y = .int (k : Int) ∧ CShl i (k : Int) ∧ Q (.int (i * 2 ^ k)) H) fShl := fun H Hb v w d e Q Qd s hv hw h q => by
  obtain ⟨i, j, rfl, rfl, n, rfl, c, h2⟩ := int2_ok h
  cases hv.int
  cases hw.int
  exact ⟨i, n, rfl, rfl, c, q _ _ H Hb (Gr.refl s) (.int _) h2⟩
def fOneShl (d e : D) (k : D → Prop) : Prop := int2 d e fun i j => i = 1 ∧ ∃ n : Nat, j = (n : Int) ∧ n ≤ 134217727 ∧ k (.int (2 ^ n))
theorem s_oneShl : OpS K (fun x y H Q => ∃ k : Nat, x = .int 1 ∧ y = .int (k : Int) ∧ k ≤ 134217727 ∧ Q (.int (2 ^ k)) H) fOneShl := fun H Hb v w d e Q Qd s hv hw h q => by
  obtain ⟨i, j, rfl, rfl, rfl, n, rfl, c, h2⟩ := int2_ok h
  cases hv.int
  cases hw.int
  exact ⟨n, rfl, rfl, c, q _ _ H Hb (Gr.refl s) (.int _) h2⟩
/-! ### x op= e, by any operator -/
def dAugO (i : Nat) (f : D → D → (D → Prop) → Prop) (de : DE) : DS := fun E ρ => cellV ρ[i]? fun x => de ρ fun y ρ1 => f x y fun z => E.nx (ρ1.set i (.val z))
theorem sns_augO (i : Nat) {r : R2} {f : D → D → (D → Prop) → Prop} {t : TE} {de : DE} (hr : OpS K r f) (h : SndE K t de) : SndS K (tAug i t r) (dAugO i f de) := fun F σ H Hb ρ D E hK rr hd e => by
  subst hK
  unfold dAugO at hd
  cases e1 : ρ[i]? with
  | none => rw [e1] at hd; exact hd.elim
  | some c =>
    rw [e1] at hd
    cases c with
    | val d =>
      obtain ⟨v, h1, h2⟩ := rr.val e1
      refine ⟨v, h1, h F σ H Hb ρ _ _ rfl rr hd fun w y H1 Hb1 ρ1 r1 b1 p1 q1 => ?_⟩
      exact hr H1 Hb1 v w d y _ _ r1.sub (.rep (Rep.mono b1 _ _ h2)) (.rep p1) q1 fun u x H2 Hb2 g rp hq => e.nx _ H2 Hb2 _ ((r1.grow g).setV rp i) (b1.trans g.b) hq
    | _ => exact hd.elim
/-! ### enumerate(list) -/
def dIEnL (da : DA) : DI := fun ρ Q => da ρ fun ds ρ1 => match ds with
  | [.lst xs] => Q (enD 0 xs) ρ1
  | _ => False
theorem sni_enum {n : Nat} {t : TA} {da : DA} (h : SndA K n t da) : SndI K (iEnum K t) (dIEnL da) := fun F σ H Hb ρ Rk Qd hK r hd q =>
  h F σ H Hb ρ _ _ hK r hd fun vs ds H' Hb' ρ' r' b rp hl hq => by
    cases rp with
    | nil => exact hq.elim
    | cons h1 h2 =>
      cases h1 with
      | lst t1 t2 =>
        cases h2 with
        | cons _ _ => exact hq.elim
        | nil =>
          rename_i a xs es
          have t1 := SqL.of (K := K) t1
          refine ⟨a, xs, rfl, r'.sub.seq t1, q _ _ H' Hb' ρ' r' b ⟨fun i d H Hb1 s1 s2 _ e => ?_, fun i H Hb1 s1 s2 _ e => ⟨xs, (s1.trans s2).seq t1, by rw [t2.len]; rw [enD_len] at e; exact e⟩⟩ hq⟩
          obtain ⟨d', e1, rfl⟩ := enD_get e
          obtain ⟨v, e2, e3⟩ := t2.get e1
          refine ⟨⟨xs, v, (s1.trans s2).seq t1, e2⟩, fun x H' ⟨T, y, ex, nT, eH, fy⟩ => ?_⟩
          subst ex eH
          have := fy _ ((s1.trans s2).seq t1)
          rw [e2] at this
          cases this
          rw [Nat.zero_add]
          exact gr_pair s2 nT (.int _) (Rep.mono s1 _ _ e3)
      | _ => exact hq.elim
end
end PL
namespace PL
open PySem PySem.Spec PyProof.Rows L2 TB
/-! ### tables as data -/
section
variable {κ : Type} [DecidableEq κ]
def lookD (es : List (κ × D)) (k : κ) : Option D := match es with
  | [] => none
  | (j, d) :: r => if j = k then some d else lookD r k
def hasD (es : List (κ × D)) (k : κ) : Bool := (lookD es k).isSome
def putD (es : List (κ × D)) (k : κ) (d : D) : List (κ × D) := if hasD es k = true then es.map (fun p => if p.1 = k then (p.1, d) else p) else es ++ [(k, d)]
end
section
variable {K : PySem.W.Frag} {Hb : Hp}
theorem RepKV.look : ∀ {kvs : List (Key × V)} {es : List (Key × D)} (k : Key), RepKV K Hb kvs es → (∃ v d, valV kvs k = some v ∧ lookD es k = some d ∧ Rep K Hb v d) ∨ (valV kvs k = none ∧ lookD es k = none)
  | _, _, k, .nil => .inr ⟨rfl, rfl⟩
  | _, _, k, .cons (k := j) (v := v) (d := d) h t => by
    unfold lookD
    by_cases e : j = k
    · exact .inl ⟨v, d, valV_pos (p := (j, v)) e, if_pos e, h⟩
    · rw [if_neg e, valV_neg (p := (j, v)) e]
      exact t.look k
theorem RepKT.look : ∀ {kvs : List (List Key × V)} {es : List (List Key × D)} (k : List Key), RepKT K Hb kvs es → (∃ v d, valV kvs k = some v ∧ lookD es k = some d ∧ Rep K Hb v d) ∨ (valV kvs k = none ∧ lookD es k = none)
  | _, _, k, .nil => .inr ⟨rfl, rfl⟩
  | _, _, k, .cons (k := j) (v := v) (d := d) h t => by
    unfold lookD
    by_cases e : j = k
    · exact .inl ⟨v, d, valV_pos (p := (j, v)) e, if_pos e, h⟩
    · rw [if_neg e, valV_neg (p := (j, v)) e]
      exact t.look k
theorem RepKV.len : ∀ {kvs : List (Key × V)} {es : List (Key × D)}, RepKV K Hb kvs es → kvs.length = es.length
  | _, _, .nil => rfl
  | _, _, .cons _ t => congrArg Nat.succ t.len
theorem RepKT.len : ∀ {kvs : List (List Key × V)} {es : List (List Key × D)}, RepKT K Hb kvs es → kvs.length = es.length
  | _, _, .nil => rfl
  | _, _, .cons _ t => congrArg Nat.succ t.len
theorem RepKV.snoc {k : Key} {v : V} {d : D} (h : Rep K Hb v d) : ∀ {kvs : List (Key × V)} {es : List (Key × D)}, RepKV K Hb kvs es → RepKV K Hb (kvs ++ [(k, v)]) (es ++ [(k, d)])
  | _, _, .nil => .cons h .nil
  | _, _, .cons h1 t => .cons h1 (RepKV.snoc h t)
theorem RepKT.snoc {k : List Key} {v : V} {d : D} (h : Rep K Hb v d) : ∀ {kvs : List (List Key × V)} {es : List (List Key × D)}, RepKT K Hb kvs es → RepKT K Hb (kvs ++ [(k, v)]) (es ++ [(k, d)])
  | _, _, .nil => .cons h .nil
  | _, _, .cons h1 t => .cons h1 (RepKT.snoc h t)
theorem RepKV.upd {k : Key} {v : V} {d : D} (h : Rep K Hb v d) : ∀ {kvs : List (Key × V)} {es : List (Key × D)}, RepKV K Hb kvs es → RepKV K Hb (kvs.map fun kv => if kv.1 = k then (kv.1, v) else kv) (es.map fun p => if p.1 = k then (p.1, d) else p)
  | _, _, .nil => .nil
  | _, _, .cons (k := j) h1 t => by
    rw [List.map_cons, List.map_cons]
    by_cases e : j = k
    · rw [if_pos e, if_pos e]; exact .cons h (t.upd h)
    · rw [if_neg e, if_neg e]; exact .cons h1 (t.upd h)
theorem RepKT.upd {k : List Key} {v : V} {d : D} (h : Rep K Hb v d) : ∀ {kvs : List (List Key × V)} {es : List (List Key × D)}, RepKT K Hb kvs es → RepKT K Hb (kvs.map fun kv => if kv.1 = k then (kv.1, v) else kv) (es.map fun p => if p.1 = k then (p.1, d) else p)
  | _, _, .nil => .nil
  | _, _, .cons (k := j) h1 t => by
    rw [List.map_cons, List.map_cons]
    by_cases e : j = k
    · rw [if_pos e, if_pos e]; exact .cons h (t.upd h)
    · rw [if_neg e, if_neg e]; exact .cons h1 (t.upd h)
theorem RepKV.put {k : Key} {v : V} {d : D} {kvs : List (Key × V)} {es : List (Key × D)} (r : RepKV K Hb kvs es) (h : Rep K Hb v d) : RepKV K Hb (putK kvs k v) (putD es k d) := by
  unfold putK putD hasD
  rw [valV_any]
  rcases r.look k with ⟨u, x, e1, e2, _⟩ | ⟨e1, e2⟩
  · rw [e1, e2]; exact r.upd h
  · rw [e1, e2]; exact r.snoc h
theorem RepKT.put {k : List Key} {v : V} {d : D} {kvs : List (List Key × V)} {es : List (List Key × D)} (r : RepKT K Hb kvs es) (h : Rep K Hb v d) : RepKT K Hb (putK kvs k v) (putD es k d) := by
  unfold putK putD hasD
  rw [valV_any]
  rcases r.look k with ⟨u, x, e1, e2, _⟩ | ⟨e1, e2⟩
  · rw [e1, e2]; exact r.upd h
  · rw [e1, e2]; exact r.snoc h
end
/-! ### keys -/
def keyF : D → Option Key
  | .int i => some (.inl i)
  | .str x => some (.inr x)
  | _ => none
def keyFs : List D → Option (List Key)
  | [] => some []
  | d :: r => match keyF d, keyFs r with
    | some k, some ks => some (k :: ks)
    | _, _ => none
section
variable {K : PySem.W.Frag} {Hb H : Hp}
theorem Rep.keyF {v : V} {d : D} {k : Key} (h : Rep K Hb v d) (e : PL.keyF d = some k) : v = kV k := by
  cases d <;> cases e <;> (cases h; rfl)
theorem View.keyF {v : V} {d : D} {k : Key} (h : View K Hb H v d) (e : PL.keyF d = some k) : v = kV k := by
  cases d <;> cases e
  · exact h.int
  · exact h.str
theorem RepAll.keyFs : ∀ {ds : List D} {vs : List V} {ks : List Key}, RepAll K Hb vs ds → PL.keyFs ds = some ks → vs = ks.map kV
  | [], _, _, h, e => by cases h; cases e; rfl
  | d :: r, _, ks, h, e => by
    cases h with
    | cons h1 h2 =>
      unfold PL.keyFs at e
      cases e1 : PL.keyF d with
      | none => rw [e1] at e; cases e
      | some u =>
        cases e2 : PL.keyFs r with
        | none => rw [e1, e2] at e; cases e
        | some us =>
          rw [e1, e2] at e
          cases e
          rw [h1.keyF e1, RepAll.keyFs h2 e2]
          rfl
end
/-- what a dict holds at a key -/
def dgetD (d k : D) : Option (Option D) := match d with
  | .dct es => (keyF k).map (lookD es)
  | .dcu es => match k with
    | .tup ks => (keyFs ks).map (lookD es)
    | _ => none
  | _ => none
section
variable {K : PySem.W.Frag} {Hb H : Hp}
theorem dgetD_ok {v w : V} {d k : D} {r : Option D} (s : Same Hb H) (hv : View K Hb H v d) (hw : View K Hb H w k) (e : dgetD d k = some r) : ∃ a o, v = .ref a ∧ DGet H a w o ∧ ((∃ u x, o = some u ∧ r = some x ∧ Rep K Hb u x) ∨ (o = none ∧ r = none)) := by
  cases d with
  | dct es =>
    obtain ⟨a, kvs, rfl, h1, h2⟩ := hv.dct' s
    have e : (PL.keyF k).map (lookD es) = some r := e
    cases ek : PL.keyF k with
    | none => rw [ek] at e; cases e
    | some j =>
      rw [ek] at e
      cases e
      have ew := hw.keyF ek
      refine ⟨a, valV kvs j, rfl, .inl ⟨kvs, j, h1, ew, rfl⟩, ?_⟩
      rcases h2.look j with ⟨u, x, q1, q2, q3⟩ | ⟨q1, q2⟩
      · exact .inl ⟨u, x, q1, q2, q3⟩
      · exact .inr ⟨q1, q2⟩
  | dcu es =>
    obtain ⟨a, kvs, rfl, h1, h2⟩ := hv.dcu' s
    cases k with
    | tup ks =>
      have e : (PL.keyFs ks).map (lookD es) = some r := e
      cases ek : PL.keyFs ks with
      | none => rw [ek] at e; cases e
      | some j =>
        rw [ek] at e
        cases e
        obtain ⟨b, vs, rfl, q4, _, q5⟩ := hw.tupS s
        have ew := q5.keyFs ek
        subst ew
        refine ⟨a, valV kvs j, rfl, .inr ⟨kvs, j, b, h1, rfl, q4, rfl⟩, ?_⟩
        rcases h2.look j with ⟨u, x, q1, q2, q3⟩ | ⟨q1, q2⟩
        · exact .inl ⟨u, x, q1, q2, q3⟩
        · exact .inr ⟨q1, q2⟩
    | _ => cases e
  | _ => cases e
def dDGet (a b : Opd) : DE := fun ρ Q => a.run ρ fun p ρ1 => b.run ρ1 fun q ρ2 => p.res ρ2 fun d => q.res ρ2 fun k => optD (dgetD d k) fun r => optD r fun x => Q x ρ2
theorem snd_dget {ta tb : TE} {a b : Opd} (ha : SndO K ta a) (hb : SndO K tb b) : SndE K (tDGet ta tb) (dDGet a b) := fun F σ H Hb ρ Q Qd hK rr h q => by
  subst hK
  refine SndO.use (t := ta) rfl rr ha h fun v p H1 Hb1 ρ1 r1 b1 o1 h1 => ?_
  refine SndO.use (t := tb) rfl r1 hb h1 fun w p2 H2 Hb2 ρ2 r2 b2 o2 h2 => ?_
  obtain ⟨d, vd, h3⟩ := OpAt.res r2 (o1.mono b2) h2
  obtain ⟨k, vk, h4⟩ := OpAt.res r2 o2 h3
  obtain ⟨r, er, h5⟩ := optD_ok h4
  obtain ⟨x, ex, h6⟩ := optD_ok h5
  obtain ⟨a', o, rfl, g, z⟩ := dgetD_ok r2.sub vd vk er
  rcases z with ⟨u, y, eo, ey, ru⟩ | ⟨_, ey⟩
  · subst eo ey
    cases ex
    exact ⟨a', u, rfl, g, q u _ H2 Hb2 ρ2 r2 (b1.trans b2) ru h6⟩
  · rw [ey] at ex; cases ex
def dDIn (neg : Bool) (b a : Opd) : DE := fun ρ Q => b.run ρ fun q ρ1 => a.run ρ1 fun p ρ2 => q.res ρ2 fun k => p.res ρ2 fun d => optD (dgetD d k) fun r => Q (.bl (if neg then !r.isSome else r.isSome)) ρ2
theorem dIn_core {F : Fx} {σ : L2.St} {H Hb : Hp} {ρ : Rho} {ta tb : TE} {a b : Opd} {neg : Bool} {Qd : D → Rho → Prop} {Q : VK} (ha : SndO F.K ta a) (hb : SndO F.K tb b) (rr : R F σ H Hb ρ) (h : dDIn neg b a ρ Qd) (q : ∀ v d H' Hb' ρ', R F σ H' Hb' ρ' → Same Hb Hb' → Rep F.K Hb' v d → Qd d ρ' → Q v H') :
    tb σ H fun y H1 => ta σ H1 fun x H2 => ∃ a o, x = .ref a ∧ DGet H2 a y o ∧ Q (.bl (if neg then !o.isSome else o.isSome)) H2 := by
  refine SndO.use (t := tb) rfl rr hb h fun w p H1 Hb1 ρ1 r1 b1 o1 h1 => ?_
  show ta σ H1 fun x H2 => ∃ a o, x = .ref a ∧ DGet H2 a w o ∧ Q (.bl (if neg then !o.isSome else o.isSome)) H2
  refine SndO.use (t := ta) rfl r1 ha h1 fun v p2 H2 Hb2 ρ2 r2 b2 o2 h2 => ?_
  obtain ⟨k, vk, h3⟩ := OpAt.res r2 (o1.mono b2) h2
  obtain ⟨d, vd, h4⟩ := OpAt.res r2 o2 h3
  obtain ⟨r, er, h5⟩ := optD_ok h4
  obtain ⟨a', o, rfl, g, z⟩ := dgetD_ok r2.sub vd vk er
  refine ⟨a', o, rfl, g, q _ _ H2 Hb2 ρ2 r2 (b1.trans b2) ?_ h5⟩
  rcases z with ⟨u, y, eo, ey, ru⟩ | ⟨eo, ey⟩
  · subst eo ey; exact .bl _
  · subst eo ey; exact .bl _
theorem snd_din {ta tb : TE} {a b : Opd} (hb : SndO K tb b) (ha : SndO K ta a) : SndE K (tDIn tb ta) (dDIn false b a) := fun F σ H Hb ρ Q Qd hK rr h q => by
  subst hK
  exact dIn_core (neg := false) ha hb rr h q
theorem snd_dnotin {ta tb : TE} {a b : Opd} (hb : SndO K tb b) (ha : SndO K ta a) : SndE K (tDNotIn tb ta) (dDIn true b a) := fun F σ H Hb ρ Q Qd hK rr h q => by
  subst hK
  exact dIn_core (neg := true) ha hb rr h q
/-! ### new dicts, stores -/
def dNewK : DN := fun ρ Q => Q (.dct []) ρ
theorem snd_dnewK : SndN K tDNewK dNewK := fun F σ H Hb ρ Q Qd hK r h q p n => q p (.dct []) H _ Hb ρ r (Same.refl _) n (same_new n) ⟨[], upd_same, .nil⟩ h
def dNewT : DN := fun ρ Q => Q (.dcu []) ρ
theorem snd_dnewT : SndN K tDNewT dNewT := fun F σ H Hb ρ Q Qd hK r h q p n => q p (.dcu []) H _ Hb ρ r (Same.refl _) n (same_new n) ⟨[], upd_same, .nil⟩ h
def dputM (m : M) (k d : D) : Option M := match m with
  | .dct es => (keyF k).map fun j => .dct (putD es j d)
  | .dcu es => match k with
    | .tup ks => (keyFs ks).map fun j => .dcu (putD es j d)
    | _ => none
  | _ => none
def szM : M → Nat
  | .dct es => es.length
  | .dcu es => es.length
  | _ => 0
def dDPut (i : Nat) (dk dv : DE) : DS := fun E ρ => dv ρ fun v ρ1 => mineC ρ1[i]? (dk ρ1 fun k ρ2 => cellM ρ2[i]? fun c m => szM m ≤ 1000000 ∧ optD (dputM m k v) fun m' => E.nx (ρ2.set i (c.put m')))
theorem sns_dput (i : Nat) {ty tv : TE} {dk dv : DE} (hk : SndE K ty dk) (hv : SndE K tv dv) : SndS K (sDPut (tVar i) ty tv) (dDPut i dk dv) := fun F σ H Hb ρ D E hK rr h e => by
  subst hK
  refine hv F σ H Hb ρ _ _ rfl rr h fun v d H1 Hb1 ρ1 r1 b1 rv h1 => ?_
  obtain ⟨c0, e0, m0, h1⟩ := mineC_ok h1
  obtain ⟨a, _, es, _⟩ := r1.mine e0 m0
  refine ⟨_, es, hk F σ H1 Hb1 ρ1 _ _ rfl r1 h1 fun y k H2 Hb2 ρ2 r2 b2 rk h2 => ?_⟩
  obtain ⟨c, m, e1, g1, hz, h2⟩ := cellM_ok h2
  obtain ⟨m', em, h2⟩ := optD_ok h2
  obtain ⟨a', es', hm, nb, nf⟩ := r2.mineG e1 g1
  rw [es] at es'
  cases es'
  have rv2 := Rep.mono b2 _ _ rv
  have fin : ∀ o, MAt F.K Hb2 (upd H2 a o) a m' → D.nx σ (upd H2 a o) := fun o ho => e.nx _ _ Hb2 _ (r2.mut e1 (getM g1) es (fun b o n eb => by rw [upd_ne n]; exact eb) ho) (b1.trans b2) h2
  cases m with
  | dct xs =>
    have em : (keyF k).map (fun j => M.dct (putD xs j d)) = some m' := em
    cases ek : keyF k with
    | none => rw [ek] at em; cases em
    | some j =>
      rw [ek] at em
      cases em
      obtain ⟨kvs, q1, q2⟩ := hm
      have ey := rk.keyF ek
      subst ey
      exact ⟨a, _, rfl, .inl ⟨kvs, j, q1, rfl, by rw [q2.len, sizeLine_eq]; have : xs.length ≤ 1000000 := hz; omega, rfl⟩, fin _ ⟨_, upd_same, q2.put rv2⟩⟩
  | dcu xs =>
    cases k with
    | tup ks =>
      have em : (keyFs ks).map (fun j => M.dcu (putD xs j d)) = some m' := em
      cases ek : keyFs ks with
      | none => rw [ek] at em; cases em
      | some j =>
        rw [ek] at em
        cases em
        obtain ⟨kvs, q1, q2⟩ := hm
        cases rk with
        | tup t1 t2 =>
          have ey := t2.keyFs ek
          subst ey
          exact ⟨a, _, rfl, .inr ⟨kvs, j, _, q1, rfl, r2.sub _ _ t1, by rw [q2.len, sizeLine_eq]; have : xs.length ≤ 1000000 := hz; omega, rfl⟩, fin _ ⟨_, upd_same, q2.put rv2⟩⟩
    | _ => cases em
  | _ => cases em
/-! ### {k: v, ..} -/
inductive SndPs (K : PySem.W.Frag) : List (TE × TE) → List (DE × DE) → Prop
  | nil : SndPs K [] []
  | cons {tk tv : TE} {dk dv : DE} {ts : List (TE × TE)} {ds : List (DE × DE)} : SndE K tk dk → SndE K tv dv → SndPs K ts ds → SndPs K ((tk, tv) :: ts) ((dk, dv) :: ds)
def runPs : List (DE × DE) → Rho → (List (D × D) → Rho → Prop) → Prop
  | [], ρ, k => k [] ρ
  | (a, b) :: r, ρ, k => a ρ fun x ρ1 => b ρ1 fun y ρ2 => runPs r ρ2 fun ps ρ3 => k ((x, y) :: ps) ρ3
def keyPs : List (D × D) → Option (List (Key × D))
  | [] => some []
  | (x, y) :: r => match keyF x, keyPs r with
    | some k, some es => some ((k, y) :: es)
    | _, _ => none
inductive RepPs (K : PySem.W.Frag) (H : Hp) : List (V × V) → List (D × D) → Prop
  | nil : RepPs K H [] []
  | cons {v w : V} {d e : D} {vs : List (V × V)} {ds : List (D × D)} : Rep K H v d → Rep K H w e → RepPs K H vs ds → RepPs K H ((v, w) :: vs) ((d, e) :: ds)
theorem SndPs.use {ts : List (TE × TE)} {ds : List (DE × DE)} (h : SndPs K ts ds) : ∀ {F : Fx} {σ : L2.St} {H Hb : Hp} {ρ : Rho} {Q : List (V × V) → Hp → Prop} {Qd : List (D × D) → Rho → Prop}, F.K = K → R F σ H Hb ρ → runPs ds ρ Qd →
    (∀ vs ps H' Hb' ρ', R F σ H' Hb' ρ' → Same Hb Hb' → RepPs K Hb' vs ps → ps.length = ds.length → Qd ps ρ' → Q vs H') → tPairs ts σ H Q := by
  induction h with
  | nil => exact fun {F σ H Hb ρ Q Qd} hK r h q => q [] [] H Hb ρ r (Same.refl _) .nil rfl h
  | cons h1 h2 _ ih =>
    intro F σ H Hb ρ Q Qd hK r h q
    refine h1 F σ H Hb ρ _ _ hK r h fun v d H1 Hb1 ρ1 r1 b1 p1 q1 => h2 F σ H1 Hb1 ρ1 _ _ hK r1 q1 fun w e H2 Hb2 ρ2 r2 b2 p2 q2 => ?_
    refine ih hK r2 q2 fun vs ps H3 Hb3 ρ3 r3 b3 p3 l3 q3 => ?_
    exact q _ _ H3 Hb3 ρ3 r3 ((b1.trans b2).trans b3) (.cons (Rep.mono (b2.trans b3) _ _ p1) (Rep.mono b3 _ _ p2) p3) (congrArg Nat.succ l3) q3
theorem keyPs_rep {Hb : Hp} : ∀ {ps : List (D × D)} {vs : List (V × V)} {es : List (Key × D)}, RepPs K Hb vs ps → keyPs ps = some es → ∃ kvs : List (Key × V), vs = kvs.map (fun kv => (kV kv.1, kv.2)) ∧ RepKV K Hb kvs es ∧ kvs.length = ps.length
  | [], _, _, h, e => by cases h; cases e; exact ⟨[], rfl, .nil, rfl⟩
  | (x, y) :: r, _, es, h, e => by
    cases h with
    | cons h1 h2 h3 =>
      unfold keyPs at e
      cases e1 : keyF x with
      | none => rw [e1] at e; cases e
      | some k =>
        cases e2 : keyPs r with
        | none => rw [e1, e2] at e; cases e
        | some rs =>
          rw [e1, e2] at e
          cases e
          obtain ⟨kvs, q1, q2, q3⟩ := keyPs_rep h3 e2
          have ev := h1.keyF e1
          subst ev
          exact ⟨(k, _) :: kvs, by rw [q1]; rfl, .cons h2 q2, congrArg Nat.succ q3⟩
def mergeD (es more : List (Key × D)) : List (Key × D) := more.foldl (fun acc p => putD acc p.1 p.2) es
theorem RepKV.merge {Hb : Hp} : ∀ {more : List (Key × V)} {ms : List (Key × D)} {kvs : List (Key × V)} {es : List (Key × D)}, RepKV K Hb more ms → RepKV K Hb kvs es → RepKV K Hb (mergeK kvs more) (mergeD es ms)
  | _, _, _, _, .nil, r => r
  | _, _, _, _, .cons (k := k) (vs := vs) (ds := ds) h t, r => RepKV.merge (more := vs) (ms := ds) t (r.put (k := k) h)
def dDisp (ds : List (DE × DE)) : DN := fun ρ Q => runPs ds ρ fun ps ρ1 => optD (keyPs ps) fun es => Q (.dct (mergeD [] es)) ρ1
theorem snd_disp {ts : List (TE × TE)} {ds : List (DE × DE)} (h : SndPs K ts ds) (hn : ds.length ≤ 15 := by decide) : SndN K (tDisp ts) (dDisp ds) := fun F σ H Hb ρ Q Qd hK r hd q p np => by
  subst hK
  have nf : F.fr p = none := by
    cases e : F.fr p with
    | none => rfl
    | some u => rw [r.fr _ _ e] at np; cases np
  have al := r.nw p np
  have rk := r.enterK np (same_new np) (upd_same (o := .dK []))
  refine SndPs.use (F := F.keep p (.dK [])) h rfl rk hd fun vs ps H2 Hb2 ρ2 r2 b2 rp lp q2 => ?_
  obtain ⟨q3, q4, q5, q6⟩ := r2.leaveK trivial nf al
  obtain ⟨es, ek, q2⟩ := optD_ok q2
  obtain ⟨kvs, ev, rkv, lk⟩ := keyPs_rep rp ek
  refine ⟨q6, kvs, ev, by omega, ?_⟩
  have s2 : Same (sans H2 p) (upd H2 p (.dK (mergeK [] kvs))) := fun b o e => by
    have hb : b ≠ p := fun z => by rw [z, q5] at e; cases e
    rw [upd_ne hb]
    exact q4 _ _ e
  exact q p (.dct (mergeD [] es)) (sans H2 p) _ Hb2 ρ2 q3 b2 q5 s2 ⟨_, upd_same, RepKV.merge rkv .nil⟩ q2
/-! ### a def that an expression gives -/
def tCallAV (L : List (Addr × Sp)) (tf : TE) (t : TA) : TE := fun σ H Q => tf σ H fun y H1 => ∃ p ∈ L, y = .ref p.1 ∧ t σ H1 fun vs H2 => p.2 vs H2 Q (fun _ _ _ => False)
def dCallAV (L : List (Addr × PD)) (df : DE) (da : DA) : DE := fun ρ Q => df ρ fun d ρ1 => ∃ p ∈ L, d = .opq (.ref p.1) ∧ da ρ1 fun ds ρ2 => p.2 ds fun x => Q x ρ2
theorem snd_callAV {L : List (Addr × PD)} {tf : TE} {t : TA} {df : DE} {n : Nat} {da : DA} (hf : SndE K tf df) (ha : SndA K n t da) : SndE K (tCallAV (L.map fun p => (p.1, spP K p.2)) tf t) (dCallAV L df da) := fun F σ H Hb ρ Q Qd hK r hd q => by
  subst hK
  refine hf F σ H Hb ρ _ _ rfl r hd fun v d H1 Hb1 ρ1 r1 b1 rp ⟨p, hp, ed, h1⟩ => ?_
  subst ed
  cases rp
  refine ⟨(p.1, spP F.K p.2), List.mem_map.mpr ⟨p, hp, rfl⟩, rfl, ha F σ H1 Hb1 ρ1 _ _ rfl r1 h1 fun vs ds H2 Hb2 ρ2 r2 b2 ra _ h2 => ?_⟩
  exact ⟨Hb2, ds, _, r2.sub, ra, h2, fun v d H' Hb' g rp hq => q v d H' Hb' ρ2 (r2.grow g) ((b1.trans b2).trans g.b) rp hq⟩
end
section
variable {X : Cx} {fe e : Expr} {es : List Expr} {tf : TE} {t : TA} {pos : Pos} {k : Nat}
theorem pe_callAV {L : List (Addr × Sp)} (A : ∀ p ∈ L, Held X.prog X.w X.K X.mg X.base k p.1 p.2) (hr : Room k X.A) (hf : PE X fe tf) (ha : PA X (e :: es) t)
    (ht : eval (.Call fe (e :: es) [] pos) X.env = (do callWith pos (← eval fe X.env) [] (backTo pos (starEach (e :: es) X.env)) (backToKw pos (keywordEach [] X.env))) := by rfl)
    (he : starEach (e :: es) X.env = (false, eval e X.env) :: starEach es X.env := by rfl) (hpl : (backTo pos (starEach es X.env)).any (·.1) = false := by rfl) : PE X (.Call fe (e :: es) [] pos) (tCallAV L tf t) := by
  refine ⟨fun pins s σ H Q I h => ?_⟩
  refine Call_ (thn (hf.run pins s σ H _ I h) fun u s1 ⟨y, H1, I1, ry, p, hp, ey, q⟩ => ?_) ht
  subst ey
  obtain rfl : u = Value.ref p.1 := ry
  obtain ⟨fd, ps, F, hk, hb⟩ := (A p hp).ex
  refine PySem.W.callWith_K (h₀ := X.base) I.ok.mod.kin hk (thn (ha.run pos pins s1 σ _ _ I1 q) fun us s2 ⟨vs, H2, I2, r, q'⟩ => ⟨I2.kIn, ?_⟩) he hpl
  exact run_fn (dvs := []) (ds := []) F hr hb .nil (fun _ _ _ _ _ _ _ z => z.elim) I2 r (by rw [List.append_nil]; exact q')
/-! ### a def with a star parameter, called without a star -/
theorem pe_callFR {CX : CXT} {f : Addr} {sp : Sp} {E : XK} {x : Str} {p : Pos} (F : FnR X.prog X.w X.K X.mg X.base CX k f sp) (hr : Room k X.A) (hk : PySem.W.keepIn X.K (.ref f) = true) (hg : Gl X x) (hm : X.mg x = some (.ref f)) (hx : Passes CX X E) (ha : PA X (e :: es) t) (hd : (x == ("__debug__" : Str)) = false := by decide)
    (he : starEach (e :: es) X.env = (false, eval e X.env) :: starEach es X.env := by rfl) (hpl : (backTo pos (starEach es X.env)).any (·.1) = false := by rfl) : PE X (.Call (.Name x p) (e :: es) [] pos) (tCall sp [] E t) := by
  refine ⟨fun pins s σ H Q I h => ?_⟩
  refine wpAny_Call_Name_kw (ld_glob I hg hm ?_ hd)
  refine PySem.W.callWith_K (h₀ := X.base) I.ok.mod.kin hk (thn (ha.run pos pins s σ H _ I h) fun us s1 ⟨vs, H1, I1, r, q⟩ => ⟨I1.kIn, ?_⟩) he hpl
  have q : sp (vs ++ []) H1 Q E := q
  rw [List.append_nil] at q
  exact wpAny_call (run_fnR F hr hx I1 r q)
/-! ### tuple(range(a, b, c)) -/
def rgCV (i c : Int) (n : Nat) : List V := (List.range n).map fun j => V.int (i + (j : Nat) * c)
def tTupRg3 (ta : TA) : TE := fun σ H Q => ta σ H fun vs H1 => ∃ i j c n, vs = [.int i, .int j, .int c] ∧ RgC i j c n ∧ n ≤ 2 ^ 24 ∧ ∀ p, H1 p = none → Q (.ref p) (upd H1 p (.tup (rgCV i c n)))
theorem pe_tupRg3 {a b c : Expr} {ta : TA} {p p2 q : Pos} (hc : X.calm = true) (hg : Gl X "tuple") (hm : X.mg "tuple" = none) (hg2 : Gl X "range") (hm2 : X.mg "range" = none) (ha : PA X [a, b, c] ta)
    (hs : starEach [a, b, c] X.env = (false, eval a X.env) :: starEach [b, c] X.env := by rfl) (hpl : (backTo q (starEach [b, c] X.env)).any (·.1) = false := by rfl)
    (na : starEach [Expr.Call (.Name "range" p2) [a, b, c] [] q] X.env = (false, eval (.Call (.Name "range" p2) [a, b, c] [] q) X.env) :: starEach [] X.env := by rfl) : PE X (.Call (.Name "tuple" p) [.Call (.Name "range" p2) [a, b, c] [] q] [] pos) (tTupRg3 ta) := by
  refine ⟨fun pins s σ H Q I h => ?_⟩
  have hout : tTupRg3 ta σ H Q := h
  refine Call_ (ld_blt I hg hm boot_tuple (PyProof.Rows.callWith_type1 (PyProof.Rows.args_cons ?_ na) na))
  refine Call_ (ld_blt I hg2 hm2 boot_range (PyProof.Rows.callWith_type1 ?_ hs hpl))
  refine thn (ha.run q pins s σ H _ I hout) fun us s1 ⟨vs, H1, I1, r1, i, j, c, n, ev, rc, hn, w⟩ => ?_
  subst ev
  obtain ⟨c0, c1, c2, c3⟩ := rc
  cases r1 with
  | cons a1 a2 =>
    cases a2 with
    | cons a3 a4 =>
      cases a4 with
      | cons a5 a6 =>
        cases a6
        obtain ⟨t1, rfl⟩ := a1
        obtain ⟨t2, rfl⟩ := a3
        obtain ⟨t3, rfl⟩ := a5
        refine call_range_3 c0 ?_ (.inl (PyProof.noPylong_small c1))
        refine PyProof.Rows.args_nil ?_
        have I2 : Inv X pins σ H1 { s1 with heap := s1.heap.push { cls := .type "range", data := .fields #[.int i t1, .int j t2, .int c t3] }, toks := s1.toks } := I1.kept (t' := s1.toks) fun b o e => Heap.get?_push_of_some _ e
        refine call_tuple_range (n := n) (I2.ok.hd hc) (IsRange.new _ _ _ _ _ _ _) c2 c3 hn fun h' tk acc hk hi => ?_
        have I3 := I2.kept (t' := tk) hk
        have ev : Vals (rgCV i c n) acc.toList := by
          have e : acc.toList.length = n := by
            rw [Array.length_toList]
            exact hi.1
          have key := vals_of_get acc.toList (fun k => V.int (i + (k : Nat) * c)) fun k u hku => by
            rw [Array.getElem?_toList] at hku
            exact hi.2 k u hku
          rw [e] at key
          exact key
        have hz : (rgCV i c n).length ≤ sizeLine := by
          unfold rgCV
          rw [List.length_map, List.length_range, sizeLine_eq]
          omega
        refine ⟨.ref h'.objs.size, _, I3.laid (t' := tk) (o := .tup (rgCV i c n)) (fun b o e => Heap.get?_push_of_some _ e) (Nat.le_refl _) ⟨hz, acc.toList, ev, ?_⟩, rfl, w _ (I3.hok.fresh (Nat.le_refl _))⟩
        rw [Array.toArray_toList]
        exact IsTup.new _ _
end
section
variable {K : PySem.W.Frag}
theorem rgC_rep {Hb : Hp} (i c : Int) (n : Nat) : RepAll K Hb (rgCV i c n) (rngC i c n) := by
  unfold rgCV rngC
  induction List.range n with
  | nil => exact .nil
  | cons i r ih => exact .cons (.int _) ih
def dTupRg3 (da : DA) : DE := fun ρ Q => da ρ fun ds ρ1 => match ds with
  | [.int i, .int j, .int c] => ∃ n, RgC i j c n ∧ n ≤ 2 ^ 24 ∧ Q (.tup (rngC i c n)) ρ1
  | _ => False
theorem snd_tupRg3 {m : Nat} {t : TA} {da : DA} (h : SndA K m t da) : SndE K (tTupRg3 t) (dTupRg3 da) := fun F σ H Hb ρ Q Qd hK r hd q => by
  subst hK
  refine h F σ H Hb ρ _ _ rfl r hd fun vs ds H' Hb' ρ' r' b rp hl hq => ?_
  match ds, rp, hq with
  | [.int i, .int j, .int c], rp, ⟨n, hr, hn, hq⟩ =>
    cases rp with
    | cons h1 h2 =>
      cases h2 with
      | cons h3 h4 =>
        cases h4 with
        | cons h5 h6 =>
          cases h6
          cases h1
          cases h3
          cases h5
          refine ⟨i, j, c, n, rfl, hr, hn, fun p np => ?_⟩
          have g := Gr.new (o := .tup (rgCV i c n)) r'.sub np
          exact q _ _ _ _ ρ' (r'.grow g) (b.trans g.b) (.tup upd_same (rgC_rep i c n)) hq
end
end PL
namespace PL
open PySem PySem.Spec PyProof.Rows L2 TB
/-! ### loops that a computed walk leads -/
theorem foldM_cons {S α : Type} {f : S → α → Option S} {x : α} {xs : List α} {s t : S} (h : (x :: xs).foldlM f s = some t) : ∃ u, f s x = some u ∧ xs.foldlM f u = some t := by
  rw [List.foldlM_cons] at h
  cases e : f s x with
  | none => rw [e] at h; cases h
  | some u => rw [e] at h; exact ⟨u, rfl, h⟩
theorem loopP_M {S α : Type} (St : S → Rho → Prop) (f : S → α → Option S) (tD : α → D) {xs : List α} {s0 s1 : S} {g : DG} {b : DS} {E : DEnds} {ρ : Rho} (hf : xs.foldlM f s0 = some s1) (h0 : St s0 ρ)
    (hstep : ∀ s x s' ρ, x ∈ xs → St s ρ → f s x = some s' → ∀ nx : Rho → Prop, (∀ ρ', St s' ρ' → nx ρ') → g (tD x) ρ fun ρ1 => b ⟨nx, E.rt, E.nx, nx⟩ ρ1)
    (hd : ∀ ρ, St s1 ρ → E.nx ρ) : loopP g b E (xs.map tD) ρ := by
  refine ⟨fun i ρ => ∃ s, St s ρ ∧ (xs.drop i).foldlM f s = some s1, ⟨s0, h0, hf⟩, ?_, ?_⟩
  · rintro i d ρ hx ⟨s, hs, hr⟩
    rw [List.getElem?_map] at hx
    cases ex : xs[i]? with
    | none => rw [ex] at hx; cases hx
    | some x =>
      rw [ex] at hx
      cases hx
      have hi := (List.getElem?_eq_some_iff.mp ex).1
      rw [List.drop_eq_getElem_cons hi] at hr
      have ex' : xs[i] = x := (List.getElem?_eq_some_iff.mp ex).2
      rw [ex'] at hr
      obtain ⟨u, h1, h2⟩ := foldM_cons hr
      exact hstep s x u ρ (List.mem_of_getElem? ex) hs h1 _ fun ρ' h => ⟨u, h, h2⟩
  · rintro ρ ⟨s, hs, hr⟩
    rw [List.length_map, List.drop_length] at hr
    cases hr
    exact hd ρ hs
theorem loopP_Mi {S α : Type} {items : List D} {xs : List α} {tD : α → D} (hi : items = xs.map tD) (St : S → Rho → Prop) (f : S → α → Option S) {s0 s1 : S} {g : DG} {b : DS} {E : DEnds} {ρ : Rho} (hf : xs.foldlM f s0 = some s1) (h0 : St s0 ρ)
    (hstep : ∀ s x s' ρ, x ∈ xs → St s ρ → f s x = some s' → ∀ nx : Rho → Prop, (∀ ρ', St s' ρ' → nx ρ') → g (tD x) ρ fun ρ1 => b ⟨nx, E.rt, E.nx, nx⟩ ρ1)
    (hd : ∀ ρ, St s1 ρ → E.nx ρ) : loopP g b E items ρ := by
  rw [hi]
  exact loopP_M St f tD hf h0 hstep hd
def runW {S : Type} (c : S → Bool) (f : S → Option S) : Nat → S → Option S
  | 0, _ => none
  | k + 1, s => if c s = true then (f s).bind (runW c f k) else some s
theorem dWhile_M {S : Type} (St : S → Rho → Prop) (c : S → Bool) (f : S → Option S) (k : Nat) {s0 s1 : S} {dc : DT} {b : DS} {E : DEnds} {ρ : Rho} (hf : runW c f k s0 = some s1) (h0 : St s0 ρ)
    (hc : ∀ s ρ, St s ρ → ∀ Q : Bool → Rho → Prop, Q (c s) ρ → dc ρ Q)
    (hstep : ∀ s s' ρ, St s ρ → c s = true → f s = some s' → ∀ nx : Rho → Prop, (∀ ρ', St s' ρ' → nx ρ') → b ⟨nx, E.rt, E.nx, nx⟩ ρ)
    (hd : ∀ ρ, St s1 ρ → E.nx ρ) : dWhile dc b E ρ := by
  refine ⟨fun m ρ => ∃ s, St s ρ ∧ runW c f m s = some s1, ⟨k, s0, h0, hf⟩, ?_⟩
  rintro m ρ ⟨s, hs, hr⟩
  refine hc s ρ hs _ ?_
  cases m with
  | zero => cases hr
  | succ m =>
    unfold runW at hr
    cases e : c s with
    | false =>
      rw [e] at hr
      cases hr
      exact hd ρ hs
    | true =>
      rw [e, if_pos rfl] at hr
      cases e2 : f s with
      | none => rw [e2] at hr; cases hr
      | some s' =>
        rw [e2] at hr
        exact hstep s s' ρ hs e e2 _ fun ρ' h => ⟨m, by omega, s', h, hr⟩
theorem atI_map {α β : Type} (g : α → β) {xs : List α} {z : Int} {x : α} (h : atI xs z = some x) : atI (xs.map g) z = some (g x) := by
  unfold atI at h ⊢
  rw [List.length_map]
  cases e : ixN xs.length z with
  | none => rw [e] at h; cases h
  | some j =>
    rw [e] at h
    have h : xs[j]? = some x := h
    show (xs.map g)[j]? = some (g x)
    rw [List.getElem?_map, h]
    rfl
/-- [.. for .. if ..] over a computed row -/
theorem lcP_x {α : Type} {tD : α → D} {items : List D} {xs : List α} (hi : items = xs.map tD) (f : α → Option D) {g : DG} {dt : DT} {de : DE} {vs : List Nat} {ρ : Rho} {Q : List D → Rho → Prop}
    (h : ∀ x ∈ xs, ∀ (N : Rho → Prop) (Y : D → Rho → Prop), (f x = none → N ρ) → (∀ y, f x = some y → Y y ρ) → freeC ρ vs ∧ g (tD x) (wipeR ρ vs) fun ρ2 => dt ρ2 fun b ρ3 => ifD b (de ρ3 fun y ρ4 => Y y (backR ρ vs ρ4)) (N (backR ρ vs ρ3)))
    (hd : Q (xs.filterMap f) ρ) : lcP g dt de vs items ρ Q := by
  subst hi
  refine ⟨fun i ρ' acc => ρ' = ρ ∧ acc = (xs.take i).filterMap f, ⟨rfl, rfl⟩, ?_, ?_⟩
  · rintro i d ρ' acc hx ⟨rfl, rfl⟩
    rw [List.getElem?_map] at hx
    cases ex : xs[i]? with
    | none => rw [ex] at hx; cases hx
    | some x =>
      rw [ex] at hx
      cases hx
      refine h x (List.mem_of_getElem? ex) (fun r => r = ρ' ∧ _) (fun y r => r = ρ' ∧ _) (fun e => ⟨rfl, ?_⟩) (fun y e => ⟨rfl, ?_⟩)
      · rw [take_snoc f ex, e, Option.toList, List.append_nil]
      · rw [take_snoc f ex, e]; rfl
  · rintro ρ' acc ⟨rfl, rfl⟩
    rw [List.length_map, List.take_length]
    exact hd
theorem lcP_y {α : Type} {tD : α → D} {items : List D} {xs : List α} (hi : items = xs.map tD) (f : α → D) {g : DG} {de : DE} {vs : List Nat} {ρ : Rho} {Q : List D → Rho → Prop}
    (h : ∀ x ∈ xs, ∀ (Y : D → Rho → Prop), Y (f x) ρ → freeC ρ vs ∧ g (tD x) (wipeR ρ vs) fun ρ2 => de ρ2 fun y ρ4 => Y y (backR ρ vs ρ4))
    (hd : Q (xs.map f) ρ) : lcP g dYes de vs items ρ Q :=
  lcP_x hi (fun x => some (f x)) (fun x hx N Y _ hY => h x hx Y (hY _ rfl)) (by rw [filterMap_some]; exact hd)
theorem foldM_snoc {α β : Type} (g : α → β) : ∀ (xs : List α) (s : List β), xs.foldlM (fun acc x => some (acc ++ [g x])) s = some (s ++ xs.map g)
  | [], s => by rw [List.map_nil, List.append_nil]; rfl
  | x :: xs, s => by
    rw [List.foldlM_cons]
    show xs.foldlM _ (s ++ [g x]) = _
    rw [foldM_snoc g xs, List.map_cons, List.append_assoc]
    rfl
theorem filterMap_at {α : Type} {f : α → Option D} {h : Nat → D} : ∀ {k : Nat} {xs : List α}, (∀ i x, xs[i]? = some x → f x = some (h (k + i))) → xs.filterMap f = (List.range xs.length).map fun i => h (k + i)
  | k, [], _ => rfl
  | k, x :: xs, e => by
    rw [List.filterMap_cons_some (e 0 x rfl), filterMap_at (k := k + 1) (xs := xs) fun i y hy => by rw [e (i + 1) y hy, show k + (i + 1) = k + 1 + i by omega], List.length_cons, List.range_succ_eq_map, List.map_cons, List.map_map]
    congr 1
    refine List.map_congr_left fun i _ => ?_
    show h (k + 1 + i) = h (k + (i + 1))
    rw [show k + 1 + i = k + (i + 1) by omega]
/-! ### what can be compared, and is equal to itself -/
structure CmpD (n : Nat) (d : D) : Prop where
  c : cmp d = true
  o : OkD n (toP d)
theorem CmpD.int {n : Nat} (i : Int) : CmpD n (.int i) := ⟨rfl, OkD.int i⟩
theorem CmpD.bl {n : Nat} (b : Bool) : CmpD n (.bl b) := ⟨rfl, OkD.bool b⟩
theorem CmpD.all {n : Nat} : ∀ {ds : List D}, (∀ x ∈ ds, CmpD n x) → cmps ds = true ∧ ∀ y ∈ toPs ds, OkD n y
  | [], _ => ⟨rfl, fun y hy => by cases hy⟩
  | x :: r, h => by
    have h1 := h x (List.mem_cons_self ..)
    obtain ⟨a, b⟩ := CmpD.all (ds := r) fun y hy => h y (List.mem_cons_of_mem _ hy)
    refine ⟨?_, fun y hy => ?_⟩
    · show (cmp x && cmps r) = true
      rw [h1.c, a]
      rfl
    · have hy : y ∈ toP x :: toPs r := hy
      cases hy with
      | head => exact h1.o
      | tail _ hy => exact b y hy
theorem CmpD.tup {n : Nat} {ds : List D} (h : ∀ x ∈ ds, CmpD n x) : CmpD (n + 1) (.tup ds) := ⟨(CmpD.all h).1, OkD.tup (CmpD.all h).2⟩
theorem CmpD.lst {n : Nat} {ds : List D} (h : ∀ x ∈ ds, CmpD n x) : CmpD (n + 1) (.lst ds) := ⟨(CmpD.all h).1, OkD.list (CmpD.all h).2⟩
theorem CmpD.map {α : Type} {n : Nat} {f : α → D} {xs : List α} (h : ∀ x ∈ xs, CmpD n (f x)) : ∀ y ∈ xs.map f, CmpD n y := fun y hy => by
  obtain ⟨x, hx, rfl⟩ := List.mem_map.mp hy
  exact h x hx
theorem CmpD.ok {n : Nat} {d : D} (h : CmpD n d) (hn : n ≤ 64 := by decide) : CmpOk d := ⟨h.c, h.o.sh hn⟩
theorem CmpOk.self {d : D} (h : CmpOk d) : eqD d d = true := eqvR h.s
theorem CmpOk.nself {d e : D} (h : CmpOk d) (he : d = e) : (!eqD d e) = false := by subst he; rw [h.self]; rfl
/-! ### rows of numbers -/
def rgI (lo : Int) (n : Nat) : List Int := (List.range n).map fun i => lo + (i : Nat)
theorem rngD_eq {lo : Int} {n : Nat} : rngD lo n = (rgI lo n).map .int := by unfold rngD rgI; rw [List.map_map]; rfl
def rg3 (lo hi c : Int) : Option (List Int) := if c ≠ 0 ∧ c.natAbs < 1073741824 ∧ Builtin.Range.small lo hi c = true ∧ 0 ≤ Builtin.Range.rangeSize lo hi c then some ((List.range (Builtin.Range.rangeSize lo hi c).toNat).map fun i => lo + (i : Nat) * c) else none
theorem rg3_ok {lo hi c : Int} {xs : List Int} (h : rg3 lo hi c = some xs) : ∃ n, RgC lo hi c n ∧ rngC lo c n = xs.map .int := by
  unfold rg3 at h
  split at h
  · rename_i hc
    cases h
    refine ⟨_, ⟨hc.1, hc.2.1, hc.2.2.1, (Int.toNat_of_nonneg hc.2.2.2).symm⟩, ?_⟩
    unfold rngC
    rw [List.map_map]
    rfl
  · cases h
/-! ### a def with a star parameter behind one other -/
structure DefSt (K : PySem.W.Frag) (mg : Str → Option Value) (x : Str) (st : Stmt) (p pv : Str) where
  f : Addr
  fd : FuncData
  F : Fun K x x st f fd
  hb : ∀ us rest : List Value, us.length = [p].length → bindArgs fd ⟨us ++ rest, []⟩ = (newTuple rest >>= fun t => pure ([p].zip us ++ [(pv, t)]))
  g : mg x = some (.ref f)
def defSt {K : PySem.W.Frag} {h : Heap} {mg : Str → Option Value} {x : Str} {st : Stmt} {p pv : Str} (X : K.In h) (G : h.Ns mainGlobals mg) {f : Addr} {od an : Option Addr} {sl : Array (Option Value)} {oc kV dc pm cd ct : Value}
    (a : PySem.W.nsIn K mainGlobals x = some (some (.ref f))) (l : K.lookup f = some ⟨oc, od, .func (PySem.W.fnOf x x (defArgs st) (defBody st) (defScope st) .none kV dc pm an cd ct), sl⟩) (c : PySem.W.codeIn K cd x = true) (k : PySem.W.keepIn K (.ref f) = true)
    (h0 : ∀ a, bindArgs (PySem.W.fnOf x x (defArgs st) (defBody st) (defScope st) .none kV dc pm an cd ct) ⟨[a], []⟩ = (newTuple [] >>= fun t => pure [(p, a), (pv, t)]))
    (h1 : ∀ a r rs, bindArgs (PySem.W.fnOf x x (defArgs st) (defBody st) (defScope st) .none kV dc pm an cd ct) ⟨a :: r :: rs, []⟩ = (newTuple (r :: rs) >>= fun t => pure [(p, a), (pv, t)])) : DefSt K mg x st p pv :=
  ⟨f, _, fun_mk l c k, StX.bind_star1 (B := fun us => bindArgs _ ⟨us, []⟩) h0 h1, PySem.W.mg_of X G a⟩
section
variable {P : Program} {w : World} {K : PySem.W.Frag} {mg : Str → Option Value} {base : Heap} {k : Nat}
theorem defSt_ok {x : Str} {st : Stmt} {p pv : Str} {N : List Str} {sp : Sp} (T : DefSt K mg x st p pv) (S : FnScope N ([p] ++ [pv]) (defScope st))
    (h : ∀ (cdv : Value) (A : Around) (outer : List Env) (s : Shared) (H : Hp) (vs : List V) (Q : VK) (E : XK), Room k (A.deeper (envOfC x (defScope st) s.heap.objs.size T.f cdv)) → sp vs H Q E →
      ∃ t, PSs (cxOf CX0 P w K mg base N x (defScope st) T.f cdv A outer s H E).nox (defBody st) t ∧ t { nx := fun _ H' => Q .non H', rt := Q } (start N vs) H) :
    FnR P w K mg base CX0 (k + 1) T.f (fun vs H Q E => ∃ ws rest, vs = ws ++ rest ∧ ws.length = 1 ∧ rest.length ≤ sizeLine ∧ ∀ p, H p = Option.none → sp (ws ++ [V.ref p]) (upd H p (.tup rest)) Q E) := by
  obtain ⟨f, fd, F, hb, g⟩ := T
  obtain ⟨oc, od, kV, doc, pm, an, cdv, ct, osl, e, lk, hcd⟩ := F.ex
  subst e
  exact StX.fn_star (ps := [p]) (pv := pv) (k := k) (sp := sp) lk hcd S StX.cxUp_none hb fun A outer s H vs Q E hr hsp => by
    obtain ⟨t, h1, q⟩ := h cdv A outer s H vs Q E hr hsp
    exact ⟨t, h1.nox, q⟩
/-- the promise of a def f(a, *v): of its arguments, and of its body, where they stand as a tuple -/
def pdStar (pd : PD) : PD := fun as Q => match as with
  | a :: r => r.length ≤ 1000 ∧ pd [a, .tup r] Q
  | [] => False
theorem spStar {pd : PD} {vs : List V} {H : Hp} {Q : VK} {E : XK} (h : spP K (pdStar pd) vs H Q E) : ∃ ws rest, vs = ws ++ rest ∧ ws.length = 1 ∧ rest.length ≤ sizeLine ∧ ∀ p, H p = Option.none → spP K pd (ws ++ [V.ref p]) (upd H p (.tup rest)) Q E := by
  obtain ⟨Hb, ds, Qd, sb, ra, hp, q⟩ := h
  cases ra with
  | nil => exact hp.elim
  | cons h1 h2 =>
    rename_i v vs a r
    obtain ⟨hl, hp⟩ := hp
    refine ⟨[v], vs, rfl, rfl, by rw [h2.len, sizeLine_eq]; omega, fun p np => ?_⟩
    have gr := Gr.new (o := .tup vs) sb np
    refine ⟨_, [a, .tup r], Qd, gr.sub, .cons (Rep.mono gr.b _ _ h1) (.cons (.tup upd_same (RepAll.mono gr.b _ _ h2)) .nil), hp, fun v d H' Hb' g2 rp hq => ?_⟩
    exact q v d H' Hb' (gr.trans g2) rp hq
end
end PL
namespace PL
open PySem PySem.Spec PyProof.Rows L2 TB
/-! ### one's own dict is locked while it is walked -/
def M.isDict : M → Bool
  | .dct _ => true
  | .dcu _ => true
  | _ => false
theorem MAt.dictIs {K : PySem.W.Frag} {Hb H : Hp} {a : Addr} {m : M} (h : MAt K Hb H a m) (hd : m.isDict = true) : ∃ u, H a = some u ∧ DictIs K Hb u m ∧ Mut (some u) := by
  cases m with
  | dct es => obtain ⟨kvs, e, r⟩ := h; exact ⟨_, e, ⟨kvs, rfl, r⟩, trivial⟩
  | dcu es => obtain ⟨kvs, e, r⟩ := h; exact ⟨_, e, ⟨kvs, rfl, r⟩, trivial⟩
  | lst _ => cases hd
  | dice => cases hd
theorem DictIs.at {K : PySem.W.Frag} {Hb H : Hp} {a : Addr} {u : HO} {m : M} (h : DictIs K Hb u m) (e : H a = some u) : MAt K Hb H a m := by
  cases m with
  | dct es => obtain ⟨kvs, rfl, r⟩ := h; exact ⟨kvs, e, r⟩
  | dcu es => obtain ⟨kvs, rfl, r⟩ := h; exact ⟨kvs, e, r⟩
  | lst _ => exact h.elim
  | dice => exact h.elim
theorem DictIs.noTup {K : PySem.W.Frag} {Hb : Hp} {u : HO} {m : M} {xs : List V} (h : DictIs K Hb u m) (e : u = .tup xs) : False := by
  subst e
  cases m with
  | dct es => obtain ⟨kvs, e, r⟩ := h; cases e
  | dcu es => obtain ⟨kvs, e, r⟩ := h; cases e
  | lst _ => exact h.elim
  | dice => exact h.elim
theorem R.lockIn {F : Fx} {σ : L2.St} {H Hb : Hp} {ρ : Rho} (r : R F σ H Hb ρ) {i : Nat} {a : Addr} {m : M} {u : HO} {od : Obj} (e : ρ[i]? = some (.own m)) (es : σ[i]? = some (some (.ref a))) (nb : Hb a = none) (nf : F.fr a = none) (d : DictIs F.K Hb u m) (hu : H a = some u) :
    R (F.keep a (.frz od u)) σ (upd H a (.frz od u)) Hb (ρ.set i (.lck a m)) := by
  have hi := (List.getElem?_eq_some_iff.mp e).1
  refine ⟨fun b o eb => ?_, fun b o eb => ?_, fun b eb => ?_, fun b eb => ?_, by rw [List.length_set]; exact r.len, fun j c v e1 e2 => ?_, fun j k c1 d1 b n e1 e2 m1 m2 f1 => ?_⟩
  · have hb : b ≠ a := fun z => by rw [z, nb] at eb; cases eb
    rw [upd_ne hb]
    exact r.sub _ _ eb
  · have eb : upd F.fr a (.frz od u) b = some o := eb
    by_cases hb : b = a
    · subst hb; rw [upd_same] at eb ⊢; exact eb
    · rw [upd_ne hb] at eb ⊢; exact r.fr _ _ eb
  · have hb : b ≠ a := fun z => eb (by rw [z]; exact nb)
    rcases r.al b eb with z | ⟨xs, z⟩
    · exact .inl ⟨hb, z⟩
    · refine .inr ⟨xs, ?_⟩
      rcases z with z | ⟨o, z⟩
      · exact .inl (by rw [upd_ne hb]; exact z)
      · exact .inr ⟨o, by rw [upd_ne hb]; exact z⟩
  · have hb : b ≠ a := fun z => by rw [z, upd_same] at eb; cases eb
    rw [upd_ne hb] at eb
    exact ⟨hb, r.nw b eb⟩
  · rw [List.getElem?_set] at e1
    by_cases hj : i = j
    · subst hj
      rw [if_pos rfl, if_pos hi] at e1
      cases e1
      rw [es] at e2
      cases e2
      exact ⟨rfl, od, u, upd_same, d⟩
    · rw [if_neg hj] at e1
      have old := r.cell j c v e1 e2
      have far : ∀ b, F.fr b = none → b ≠ a → (F.keep a (.frz od u)).fr b = none := fun b h hb => by show upd F.fr a _ b = none; rw [upd_ne hb]; exact h
      cases c with
      | no => trivial
      | val d => exact old
      | own m' =>
        obtain ⟨b, rfl, m1, n, f, al⟩ := old
        have hb : b ≠ a := fun z => r.dis i j (.own m) (.own m') a hj e e1 rfl rfl es (by rw [e2, z])
        exact ⟨b, rfl, MAt.mono (Same.refl _) (fun o q => by rw [upd_ne hb]; exact q) m1, n, far b f hb, hb, al⟩
      | io b m' =>
        obtain ⟨rfl, m1, n, f⟩ := old
        have hb : b ≠ a := fun z => r.dis i j (.own m) (.io b m') a hj e e1 rfl rfl es (by rw [e2, z])
        exact ⟨rfl, MAt.mono (Same.refl _) (fun o q => by rw [upd_ne hb]; exact q) m1, n, far b f hb⟩
      | lck b m' =>
        obtain ⟨q1, o, u', q2, q3⟩ := old
        have hb : b ≠ a := fun z => by rw [z, nf] at q2; cases q2
        exact ⟨q1, o, u', by show upd F.fr a _ b = _; rw [upd_ne hb]; exact q2, q3⟩
  · have same : ∀ (l : Nat) c2, (ρ.set i (.lck a m))[l]? = some c2 → c2.mine = true → ρ[l]? = some c2 := fun l c2 q1 q2 => by
      rw [List.getElem?_set] at q1
      by_cases hl : i = l
      · subst hl; rw [if_pos rfl, if_pos hi] at q1; cases q1; cases q2
      · rw [if_neg hl] at q1; exact q1
    exact r.dis j k c1 d1 b n (same j c1 e1 m1) (same k d1 e2 m2) m1 m2 f1
/-- no other slot is locked -/
def noL (ρ : Rho) (i : Nat) : Prop := ∀ j a m, ρ[j]? = some (.lck a m) → j = i
theorem R.lockOut {F : Fx} {σ : L2.St} {H Hb : Hp} {ρ : Rho} {i : Nat} {a : Addr} {m : M} {u : HO} {od : Obj} (r : R (F.keep a (.frz od u)) σ H Hb ρ) (e : ρ[i]? = some (.lck a m)) (nl : noL ρ i) (nf : F.fr a = none) (al : F.al a) :
    H a = some (.frz od u) ∧ R F σ (upd H a u) Hb (ρ.set i (.own m)) := by
  have hi := (List.getElem?_eq_some_iff.mp e).1
  obtain ⟨v, es, ev, o', u', q2, d⟩ := r.at e
  subst ev
  have q2 : upd F.fr a (.frz od u) a = some (.frz o' u') := q2
  rw [upd_same] at q2
  cases q2
  have hH : H a = some (.frz od u) := r.fr _ _ (show upd F.fr a _ a = _ from upd_same)
  have nb : Hb a = none := by
    cases q : Hb a with
    | none => rfl
    | some o =>
      rcases r.al a (by rw [q]; exact fun z => nomatch z) with z | ⟨xs, z⟩
      · exact absurd rfl z.1
      · rcases z with z | ⟨o, z⟩
        · rw [hH] at z; cases z
        · rw [hH] at z; cases z; exact (d.noTup rfl).elim
  have far : ∀ b, (F.keep a (.frz od u)).fr b = none → b ≠ a ∧ F.fr b = none := fun b h => by
    have h : upd F.fr a (.frz od u) b = none := h
    by_cases hb : b = a
    · subst hb; rw [upd_same] at h; cases h
    · rw [upd_ne hb] at h; exact ⟨hb, h⟩
  refine ⟨hH, fun b o eb => ?_, fun b o eb => ?_, fun b eb => ?_, fun b eb => ?_, by rw [List.length_set]; exact r.len, fun j c v e1 e2 => ?_, fun j k c1 d1 b n e1 e2 m1 m2 f1 f2 => ?_⟩
  · have hb : b ≠ a := fun z => by rw [z, nb] at eb; cases eb
    rw [upd_ne hb]
    exact r.sub _ _ eb
  · have hb : b ≠ a := fun z => by rw [z, nf] at eb; cases eb
    rw [upd_ne hb]
    exact r.fr _ _ (show upd F.fr a _ b = _ by rw [upd_ne hb]; exact eb)
  · have hb : b ≠ a := fun z => eb (by rw [z]; exact nb)
    rcases r.al b eb with z | ⟨xs, z⟩
    · exact .inl z.2
    · refine .inr ⟨xs, ?_⟩
      rcases z with z | ⟨o, z⟩
      · exact .inl (by rw [upd_ne hb]; exact z)
      · exact .inr ⟨o, by rw [upd_ne hb]; exact z⟩
  · have hb : b ≠ a := fun z => by rw [z, upd_same] at eb; cases eb
    rw [upd_ne hb] at eb
    exact (r.nw b eb).2
  · rw [List.getElem?_set] at e1
    by_cases hj : i = j
    · subst hj
      rw [if_pos rfl, if_pos hi] at e1
      cases e1
      rw [es] at e2
      cases e2
      exact ⟨a, rfl, d.at upd_same, nb, nf, al⟩
    · rw [if_neg hj] at e1
      have old := r.cell j c v e1 e2
      cases c with
      | no => trivial
      | val d => exact old
      | own m' =>
        obtain ⟨b, rfl, m1, n, f, al⟩ := old
        obtain ⟨hb, f⟩ := far b f
        exact ⟨b, rfl, MAt.mono (Same.refl _) (fun o q => by rw [upd_ne hb]; exact q) m1, n, f, al.2⟩
      | io b m' =>
        obtain ⟨rfl, m1, n, f⟩ := old
        obtain ⟨hb, f⟩ := far b f
        exact ⟨rfl, MAt.mono (Same.refl _) (fun o q => by rw [upd_ne hb]; exact q) m1, n, f⟩
      | lck b m' => exact absurd (nl j b m' e1) (fun z => hj z.symm)
  · have new : ∀ (l : Nat) c2 b, (ρ.set i (.own m))[l]? = some c2 → c2.mine = true → σ[l]? = some (some (.ref b)) → (l = i ∧ b = a) ∨ (l ≠ i ∧ ρ[l]? = some c2 ∧ b ≠ a) := fun l c2 b q1 q2 q3 => by
      rw [List.getElem?_set] at q1
      by_cases hl : i = l
      · subst hl
        rw [es] at q3
        cases q3
        exact .inl ⟨rfl, rfl⟩
      · rw [if_neg hl] at q1
        obtain ⟨b', m', h1, _, _, h4, _⟩ := r.mine q1 q2
        rw [q3] at h1
        cases h1
        exact .inr ⟨fun z => hl z.symm, q1, (far _ h4).1⟩
    rcases new j c1 b e1 m1 f1 with ⟨rfl, rfl⟩ | ⟨hj, h1, hb⟩
    · rcases new k d1 _ e2 m2 f2 with ⟨rfl, _⟩ | ⟨_, _, hb⟩
      · exact n rfl
      · exact hb rfl
    · rcases new k d1 b e2 m2 f2 with ⟨rfl, rfl⟩ | ⟨hk, h2, _⟩
      · exact hb rfl
      · exact r.dis j k c1 d1 b n h1 h2 m1 m2 f1 f2
/-- what a walk over one's own dict in the slot i may do -/
def lckP (ρ : Rho) (i : Nat) (k : Addr → M → Prop) : Prop := match ρ[i]? with
  | some (.own (.dct es)) => ∀ a, k a (.dct es)
  | some (.own (.dcu es)) => ∀ a, k a (.dcu es)
  | _ => False
theorem lckP_ok {ρ : Rho} {i : Nat} {k : Addr → M → Prop} (h : lckP ρ i k) : ∃ m, ρ[i]? = some (.own m) ∧ m.isDict = true ∧ ∀ a, k a m := by
  unfold lckP at h
  split at h
  · rename_i e; exact ⟨_, e, rfl, h⟩
  · rename_i e; exact ⟨_, e, rfl, h⟩
  · exact h.elim
variable {K : PySem.W.Frag}
def dLkN (i : Nat) (dn : DN) : DN := fun ρ Q => lckP ρ i fun a m => dn (ρ.set i (.lck a m)) fun x ρ1 => (ρ1[i]? = some (.lck a m) ∧ noL ρ1 i) ∧ Q x (ρ1.set i (.own m))
theorem snd_lkN (i : Nat) {t : TE} {dn : DN} (h : SndN K t dn) : SndN K (tLockE t) (dLkN i dn) := fun F σ H Hb ρ Q Qd hK r hd q => by
  subst hK
  obtain ⟨m, e, hm, hd⟩ := lckP_ok hd
  obtain ⟨a, m', es, hat, nb, nf, h5⟩ := r.mine e rfl
  have em : m' = m ∧ F.al a := by rcases h5 with ⟨z, al⟩ | z <;> cases z; exact ⟨rfl, al⟩
  obtain ⟨rfl, al⟩ := em
  obtain ⟨u, hu, d, mu⟩ := hat.dictIs hm
  refine ⟨a, u, hu, mu, fun od => ?_⟩
  refine h (F.keep a (.frz od u)) σ _ Hb _ _ _ rfl (r.lockIn (od := od) e es nb nf d hu) (hd a) fun p x H1 H' Hb' ρ' r' b n s hx ⟨⟨e1, nl⟩, hq⟩ => ?_
  obtain ⟨hH, r2⟩ := r'.lockOut e1 nl nf al
  have hp : p ≠ a := fun z => by rw [z, hH] at n; cases n
  refine ⟨s _ _ hH, q p x (upd H1 a u) (upd H' a u) Hb' _ r2 b (by rw [upd_ne hp]; exact n) (fun b o eb => ?_) (MAt.mono (Same.refl _) (fun o eo => by rw [upd_ne hp]; exact eo) hx) hq⟩
  by_cases hb : b = a
  · subst hb; rw [upd_same] at eb ⊢; exact eb
  · rw [upd_ne hb] at eb ⊢; exact s _ _ eb
def dLkE (i : Nat) (de : DE) : DE := fun ρ Q => lckP ρ i fun a m => de (ρ.set i (.lck a m)) fun x ρ1 => (ρ1[i]? = some (.lck a m) ∧ noL ρ1 i) ∧ Q x (ρ1.set i (.own m))
theorem snd_lkE (i : Nat) {t : TE} {de : DE} (h : SndE K t de) : SndE K (tLockE t) (dLkE i de) := fun F σ H Hb ρ Q Qd hK r hd q => by
  subst hK
  obtain ⟨m, e, hm, hd⟩ := lckP_ok hd
  obtain ⟨a, m', es, hat, nb, nf, h5⟩ := r.mine e rfl
  have em : m' = m ∧ F.al a := by rcases h5 with ⟨z, al⟩ | z <;> cases z; exact ⟨rfl, al⟩
  obtain ⟨rfl, al⟩ := em
  obtain ⟨u, hu, d, mu⟩ := hat.dictIs hm
  refine ⟨a, u, hu, mu, fun od => ?_⟩
  refine h (F.keep a (.frz od u)) σ _ Hb _ _ _ rfl (r.lockIn (od := od) e es nb nf d hu) (hd a) fun v x H' Hb' ρ' r' b rp ⟨⟨e1, nl⟩, hq⟩ => ?_
  obtain ⟨hH, r2⟩ := r'.lockOut e1 nl nf al
  exact ⟨hH, q v x _ Hb' _ r2 b rp hq⟩
def lkEnds (i : Nat) (a : Addr) (m : M) (E : DEnds) : DEnds :=
  ⟨fun ρ => (ρ[i]? = some (.lck a m) ∧ noL ρ i) ∧ E.nx (ρ.set i (.own m)), fun d ρ => (ρ[i]? = some (.lck a m) ∧ noL ρ i) ∧ E.rt d (ρ.set i (.own m)), fun ρ => (ρ[i]? = some (.lck a m) ∧ noL ρ i) ∧ E.bk (ρ.set i (.own m)), fun ρ => (ρ[i]? = some (.lck a m) ∧ noL ρ i) ∧ E.ct (ρ.set i (.own m))⟩
def dLkS (i : Nat) (ds : DS) : DS := fun E ρ => lckP ρ i fun a m => ds (lkEnds i a m E) (ρ.set i (.lck a m))
theorem sns_lk (i : Nat) {t : TS} {ds : DS} (h : SndS K t ds) : SndS K (tLock t) (dLkS i ds) := fun F σ H Hb ρ D E hK r hd en => by
  subst hK
  obtain ⟨m, e, hm, hd⟩ := lckP_ok hd
  obtain ⟨a, m', es, hat, nb, nf, h5⟩ := r.mine e rfl
  have em : m' = m ∧ F.al a := by rcases h5 with ⟨z, al⟩ | z <;> cases z; exact ⟨rfl, al⟩
  obtain ⟨rfl, al⟩ := em
  obtain ⟨u, hu, d, mu⟩ := hat.dictIs hm
  refine ⟨a, u, hu, mu, fun od => ?_⟩
  have out : ∀ {σ' : L2.St} {H' Hb' : Hp} {ρ' : Rho}, R (F.keep a (.frz od u)) σ' H' Hb' ρ' → ρ'[i]? = some (.lck a m') ∧ noL ρ' i → H' a = some (.frz od u) ∧ R F σ' (upd H' a u) Hb' (ρ'.set i (.own m')) := fun r' z => r'.lockOut z.1 z.2 nf al
  exact h (F.keep a (.frz od u)) σ _ Hb _ _ _ rfl (r.lockIn (od := od) e es nb nf d hu) (hd a)
    ⟨fun σ' H' Hb' ρ' r' b ⟨z, hq⟩ => ⟨(out r' z).1, en.nx _ _ Hb' _ (out r' z).2 b hq⟩, fun v x σ' H' Hb' ρ' r' b rp ⟨z, hq⟩ => ⟨(out r' z).1, en.rt _ x _ _ Hb' _ (out r' z).2 b rp hq⟩,
      fun σ' H' Hb' ρ' r' b ⟨z, hq⟩ => ⟨(out r' z).1, en.bk _ _ Hb' _ (out r' z).2 b hq⟩, fun σ' H' Hb' ρ' r' b ⟨z, hq⟩ => ⟨(out r' z).1, en.ct _ _ Hb' _ (out r' z).2 b hq⟩⟩
/-! ### what is walked -/
def keyD : Key → D
  | .inl i => .int i
  | .inr s => .str s
theorem rep_key {Hb : Hp} : ∀ k : Key, Rep K Hb (kV k) (keyD k)
  | .inl i => .int i
  | .inr s => .str s
theorem reps_key {Hb : Hp} : ∀ ks : List Key, RepAll K Hb (ks.map kV) (ks.map keyD)
  | [] => .nil
  | k :: r => .cons (rep_key k) (reps_key r)
def dIKeys (i : Nat) : DI := fun ρ Q => match ρ[i]? with
  | some (.lck _ (.dct es)) => Q (es.map fun p => keyD p.1) ρ
  | some (.lck _ (.dcu es)) => Q (es.map fun p => .tup (p.1.map keyD)) ρ
  | _ => False
theorem repKV_at {Hb : Hp} : ∀ {kvs : List (Key × V)} {es : List (Key × D)} {i : Nat} {p : Key × V}, RepKV K Hb kvs es → kvs[i]? = some p → ∃ d, es[i]? = some (p.1, d) ∧ Rep K Hb p.2 d
  | _, _, 0, _, .cons h _, e => by cases e; exact ⟨_, rfl, h⟩
  | _, _, i + 1, _, .cons _ t, e => repKV_at (i := i) t e
theorem repKT_at {Hb : Hp} : ∀ {kvs : List (List Key × V)} {es : List (List Key × D)} {i : Nat} {p : List Key × V}, RepKT K Hb kvs es → kvs[i]? = some p → ∃ d, es[i]? = some (p.1, d) ∧ Rep K Hb p.2 d
  | _, _, 0, _, .cons h _, e => by cases e; exact ⟨_, rfl, h⟩
  | _, _, i + 1, _, .cons _ t, e => repKT_at (i := i) t e
theorem sni_keys (i : Nat) : SndI K (iKeys (tVar i)) (dIKeys i) := fun F σ H Hb ρ Rk Qd hK r hd q => by
  subst hK
  unfold dIKeys at hd
  split at hd
  · rename_i a es e
    obtain ⟨v, es', ev, o, u, hf, d⟩ := r.at e
    subst ev
    obtain ⟨kvs, rfl, rk⟩ := d
    refine ⟨_, es', a, o, rfl, .inl ⟨kvs, r.fr _ _ hf, q _ _ H Hb ρ r (Same.refl _) ⟨fun j x H1 Hb1 s1 s2 s3 ex => ?_, fun j H1 Hb1 s1 s2 s3 ex => ⟨s3 _ _ (fz_at hf), by rw [List.length_map, ← rk.len] at ex; exact ex⟩⟩ hd⟩⟩
    rw [List.getElem?_map] at ex
    have hj : j < es.length := by
      cases z : es[j]? with
      | none => rw [z] at ex; cases ex
      | some _ => exact (List.getElem?_eq_some_iff.mp z).1
    refine ⟨⟨s3 _ _ (fz_at hf), by rw [rk.len]; exact hj⟩, ?_⟩
    rintro y H' ⟨rfl, k, v, ek, rfl⟩
    obtain ⟨d, ed, _⟩ := repKV_at rk ek
    rw [ed] at ex
    cases ex
    exact ⟨Hb1, Gr.refl s2, rep_key k⟩
  · rename_i a es e
    obtain ⟨v, es', ev, o, u, hf, d⟩ := r.at e
    subst ev
    obtain ⟨kvs, rfl, rk⟩ := d
    refine ⟨_, es', a, o, rfl, .inr ⟨kvs, r.fr _ _ hf, q _ _ H Hb ρ r (Same.refl _) ⟨fun j x H1 Hb1 s1 s2 s3 ex => ?_, fun j H1 Hb1 s1 s2 s3 ex => ⟨s3 _ _ (fz_at hf), by rw [List.length_map, ← rk.len] at ex; exact ex⟩⟩ hd⟩⟩
    rw [List.getElem?_map] at ex
    have hj : j < es.length := by
      cases z : es[j]? with
      | none => rw [z] at ex; cases ex
      | some _ => exact (List.getElem?_eq_some_iff.mp z).1
    refine ⟨⟨s3 _ _ (fz_at hf), by rw [rk.len]; exact hj⟩, ?_⟩
    rintro y H' ⟨rfl, k, v, p, ek, rfl, hp⟩
    obtain ⟨d, ed, _⟩ := repKT_at rk ek
    rw [ed] at ex
    cases ex
    obtain ⟨Hb', g, e'⟩ := Gr.tupS s2 (Same.refl _) hp
    exact ⟨Hb', g, .tup e' (reps_key k)⟩
  · exact hd.elim
end PL
namespace PL
open PySem PySem.Spec PyProof.Rows L2 TB
/-! ### {t: v}, one pair, its key a tuple -/
def tDispT (tk tv : TE) : TE := fun σ H Q => ∀ p, H p = none → tPairs [(tk, tv)] σ (upd H p (.dT [])) fun ps H2 => H2 p = some (.dT []) ∧ ∃ (k : List Key) (b : Addr) (y : V), ps = [(.ref b, y)] ∧ H2 b = some (.tup (k.map kV)) ∧ Q (.ref p) (upd H2 p (.dT (putK [] k y)))
theorem pe_dispT {X : Cx} {pos : Pos} {k v : Expr} {tk tv : TE} (hu : X.A.units + 64 < cLine) (hk : PE X k tk) (hv : PE X v tv) : PE X (.Dict [some k] [v] pos) (tDispT tk tv) := by
  refine ⟨fun pins s σ H Q I q => ?_⟩
  have hn := I.hok.fresh (Nat.le_refl s.heap.objs.size)
  have I1 := I.laid (a := s.heap.objs.size) (o := .dT []) (h' := s.heap.push { cls := .type "dict", data := .dict #[] }) (t' := s.toks) (fun _ _ q => Heap.get?_push_of_some _ q) (Nat.le_refl _) (dt_empty s.heap I.big)
  refine wpAny_Dict_any (by rfl) (by rfl) nofun (by show 1 ≤ 15; decide) (thn ((pps_cons hk hv pps_nil).run pins _ σ _ _ I1 (q _ hn)) fun ws s2 ⟨ps, H2, I2, rel, e, ks, b, y, ep, eb, q2⟩ => ?_)
  subst ep
  cases rel with
  | @cons a0 w as0 ws0 h t =>
    cases t
    obtain ⟨h1, h2⟩ := h
    obtain ⟨w1, w2⟩ := w
    cases (show w1 = Value.ref b from h1)
    obtain ⟨z, hd, xs, r0, dd⟩ := dt_of I2.hok e
    have hz : xs.length ≤ sizeLine := by rw [← Paired.length r0]; exact Nat.zero_le _
    unfold storeAll
    rw [List.forIn_cons]
    refine wpAny_bind (wpAny_bind ?_)
    refine wpAny_dictSet_heap (knd := tupleKind (mixKind X.prog X.w)) (hsz := hz) (Nat.lt_of_le_of_lt (Nat.le_add_right _ 64) hu) (key_of I2.hok eb) dd fun h' dd' hs => ?_
    refine wpAny_pure ?_
    refine wpAny_pure ?_
    obtain ⟨q, es, ep, hq, h2', h3, h4, _, h5⟩ := dd'
    have new : ObjOk X.prog X.w (upd H2 s.heap.objs.size (.dT (putK [] ks y))) h' s.heap.objs.size (.dT (putK [] ks y)) := by
      refine ⟨?_, hd, _, (r0.put ks eb h2).keeps fun c ys ec => ?_, q, es, ep, hq, h2', h3, h4, h5⟩
      · show 1 ≤ sizeLine
        rw [sizeLine_eq]
        decide
      · rw [upd_ne (ne_of ec e (fun z => nomatch z))]
        exact ec
    exact ⟨.ref s.heap.objs.size, _, d_write I2 (by rw [e]; exact True.intro) hs ⟨q, hq⟩ new, rfl, q2⟩
/-! ### the same over data -/
def dDispT (da dv : DE) : DN := fun ρ Q => da ρ fun x ρ1 => dv ρ1 fun y ρ2 => match x with
  | .tup ds => optD (keyFs ds) fun ks => Q (.dcu (putD [] ks y)) ρ2
  | _ => False
variable {K : PySem.W.Frag}
theorem snd_dispT {tk tv : TE} {da dv : DE} (hk : SndE K tk da) (hv : SndE K tv dv) : SndN K (tDispT tk tv) (dDispT da dv) := fun F σ H Hb ρ Q Qd hK r hd q p np => by
  subst hK
  have nf : F.fr p = none := by
    cases e : F.fr p with
    | none => rfl
    | some u => rw [r.fr _ _ e] at np; cases np
  have al := r.nw p np
  have rk := r.enterK np (same_new np) (upd_same (o := .dT []))
  refine hk (F.keep p (.dT [])) σ _ Hb ρ _ _ rfl rk hd fun v d H1 Hb1 ρ1 r1 b1 p1 q1 => hv (F.keep p (.dT [])) σ H1 Hb1 ρ1 _ _ rfl r1 q1 fun w y H2 Hb2 ρ2 r2 b2 p2 q2 => ?_
  obtain ⟨q3, q4, q5, q6⟩ := r2.leaveK trivial nf al
  have p1 := Rep.mono b2 _ _ p1
  cases d with
  | tup ds =>
    obtain ⟨ks, ek, q2⟩ := optD_ok q2
    cases p1 with
    | tup h1 h2 =>
      rename_i b xs
      have ev := h2.keyFs ek
      subst ev
      refine ⟨q6, ks, b, w, rfl, r2.sub _ _ h1, ?_⟩
      have s2 : Same (sans H2 p) (upd H2 p (.dT (putK [] ks w))) := fun c o e => by
        have hb : c ≠ p := fun z => by rw [z, q5] at e; cases e
        rw [upd_ne hb]
        exact q4 _ _ e
      exact q p (.dcu (putD [] ks y)) (sans H2 p) _ Hb2 ρ2 q3 (b1.trans b2) q5 s2 ⟨_, upd_same, RepKT.put .nil p2⟩ q2
  | _ => exact q2.elim
end PL
namespace PL
open PySem PySem.Spec PyProof.Rows L2 TB
/-! ### max(t), t a tuple of ints -/
def rMaxT (K : PySem.W.Frag) : List V → Hp → VK → Prop := fun vs H Q => ∃ (a : Addr) (ns : List Int), vs = [V.ref a] ∧ SqT K H a (ns.map V.int) ∧ 0 < ns.length ∧ ∀ m, m ∈ ns → (∀ y, y ∈ ns → y ≤ m) → Q (.int m) H
def maxI (x : Int) (xs : List Int) : Int := xs.foldl (fun a y => if a < y then y else a) x
theorem maxI_ge : ∀ (xs : List Int) (x : Int), x ≤ maxI x xs ∧ ∀ y ∈ xs, y ≤ maxI x xs
  | [], x => ⟨Int.le_refl _, fun y hy => by cases hy⟩
  | z :: r, x => by
    have e : maxI x (z :: r) = maxI (if x < z then z else x) r := rfl
    rw [e]
    by_cases c : x < z
    · rw [if_pos c]
      obtain ⟨h1, h2⟩ := maxI_ge r z
      refine ⟨by omega, fun y hy => ?_⟩
      cases hy with
      | head => exact h1
      | tail _ hy => exact h2 y hy
    · rw [if_neg c]
      obtain ⟨h1, h2⟩ := maxI_ge r x
      refine ⟨h1, fun y hy => ?_⟩
      cases hy with
      | head => omega
      | tail _ hy => exact h2 y hy
theorem maxI_mem : ∀ (xs : List Int) (x : Int), maxI x xs ∈ x :: xs
  | [], x => List.mem_cons_self ..
  | z :: r, x => by
    have e : maxI x (z :: r) = maxI (if x < z then z else x) r := rfl
    rw [e]
    have h := maxI_mem r (if x < z then z else x)
    split at h
    · rename_i c
      rw [if_pos c]
      exact List.mem_cons_of_mem _ h
    · rename_i c
      rw [if_neg c]
      rcases List.mem_cons.mp h with h | h
      · rw [h]; exact List.mem_cons_self ..
      · exact List.mem_cons_of_mem _ (List.mem_cons_of_mem _ h)
theorem maxD_int : ∀ (xs : List Int) (x : Int), PySem.W.maxD (.int x) (xs.map .int) = .int (maxI x xs)
  | [], x => rfl
  | z :: r, x => by
    have e : PySem.W.maxD (.int x) ((z :: r).map .int) = PySem.W.maxD (if PySem.W.dataLt (.int x) (.int z) = true then .int z else .int x) (r.map .int) := rfl
    rw [e, PySem.W.dataLt_int]
    have e2 : maxI x (z :: r) = maxI (if x < z then z else x) r := rfl
    rw [e2]
    by_cases c : x < z
    · rw [if_pos c, if_pos (decide_eq_true c)]; exact maxD_int r z
    · rw [if_neg c, if_neg (by rw [decide_eq_false c]; decide)]; exact maxD_int r x
theorem reads_ints {h : Heap} : ∀ {vs : List Value} {ns : List Int}, Vals (ns.map V.int) vs → ReadsAll h vs (ns.map PyData.int) []
  | _, [], r => by cases r; exact .nil
  | _, n :: ns, r => by
    rw [List.map_cons] at r ⊢
    cases r with
    | cons h1 h2 =>
      obtain ⟨t, rfl⟩ := h1
      exact ReadsAll.cons (as := []) (bs := []) (.int n t) (reads_ints h2)
theorem ints_alike (ns : List Int) : PySem.W.AlikeAll (ns.map PyData.int) := ⟨fun x hx y hy => by
  obtain ⟨a, _, rfl⟩ := List.mem_map.mp hx
  obtain ⟨b, _, rfl⟩ := List.mem_map.mp hy
  rfl, fun x hx => by
  obtain ⟨a, _, rfl⟩ := List.mem_map.mp hx
  exact fun z => nomatch z⟩
theorem ints_depth : ∀ ns : List Int, PyData.depthAll (ns.map PyData.int) = 0
  | [] => rfl
  | n :: r => by
    show max (PyData.depth (.int n)) (PyData.depthAll (r.map PyData.int)) = 0
    rw [ints_depth r]
    rfl
theorem call_maxT {X : Cx} (hc : X.calm = true) (hu : X.A.units + 64 < cLine) : CallR X (.builtin "max") (rMaxT X.K) := by
  intro pins s σ H vs us Q I r h
  obtain ⟨a, ns, rfl, hs, hne, q⟩ := h
  obtain ⟨its, rv, hl, _⟩ := I.tuple hs
  rw [Vals.ref1 r]
  cases ns with
  | nil => cases hne
  | cons x xs =>
    refine PySem.W.max_tuple_data (I.ok.hd hc) hl (reads_ints rv) (ints_alike (x :: xs)) (by rw [show PyData.depthAll (PyData.int x :: xs.map PyData.int) = 0 from ints_depth (x :: xs)]; omega) fun i v h' tk bs hi hr hk => ?_
    rw [maxD_int] at hr
    cases hr with
    | int _ t =>
      refine ⟨.int (maxI x xs), H, I.kept hk, ⟨t, rfl⟩, q _ (maxI_mem xs x) fun y hy => ?_⟩
      cases hy with
      | head => exact (maxI_ge xs x).1
      | tail _ hy => exact (maxI_ge xs x).2 y hy
/-! ### over data: max(t), divmod, xs.extend(ys) -/
variable {K : PySem.W.Frag}
def fMaxT (ds : List D) (k : D → Prop) : Prop := arg1 ds fun d => match d with
  | .tup xs => optD (intL xs) fun ns => ns ≠ [] ∧ ∀ m, m ∈ ns → (∀ y, y ∈ ns → y ≤ m) → k (.int m)
  | _ => False
theorem s_maxT : CallS K (rMaxT K) fMaxT := fun H Hb vs ds Q Qd s hv h q => by
  obtain ⟨v, d, rfl, rfl, vd, h⟩ := hv.one h
  cases d with
  | tup xs =>
    obtain ⟨ns, e, n0, h⟩ := optD_ok h
    obtain ⟨a, us, rfl, h1, h2, h3⟩ := vd.tup s
    cases intL_rep h3 e
    exact ⟨a, ns, rfl, h1, List.length_pos_iff.mpr n0, fun m hm hy => q _ _ H Hb (Gr.refl s) (.int _) (h m hm hy)⟩
  | _ => exact h.elim
def fDivmod (ds : List D) (k : D → Prop) : Prop := arg2 ds fun d e => int2 d e fun i j => CDivP i j ∧ k (.tup [.int (i / j), .int (i % j)])
theorem s_divmod : CallS K (fun xs H Q => ∃ i j, xs = [.int i, .int j] ∧ CDivP i j ∧ ∀ p, H p = none → Q (.ref p) (upd H p (.tup [.int (i / j), .int (i % j)]))) fDivmod := fun H Hb vs ds Q Qd s hv h q => by
  obtain ⟨v, w, d, e, rfl, rfl, vd, ve, h⟩ := hv.two h
  obtain ⟨i, j, rfl, rfl, c, h⟩ := int2_ok h
  cases vd.int
  cases ve.int
  refine ⟨i, j, rfl, c, fun p n => ?_⟩
  have g := Gr.new (o := .tup [.int (i / j), .int (i % j)]) s n
  exact q _ _ _ _ g (.tup upd_same (.cons (.int _) (.cons (.int _) .nil))) h
def mExtend (ds xs : List D) (k : D → List D → Prop) : Prop := arg1 xs fun d => lst1 d fun es => ds.length + es.length ≤ 1000000 ∧ k .non (ds ++ es)
theorem s_extend : MtS K rExtend mExtend := fun H Hb a ys vs ds xs Q Qd s e ry ra h q => by
  obtain ⟨v, d, rfl, rfl, rp, h⟩ := ra.one1 h
  obtain ⟨es, rfl, hz, h⟩ := lst1_ok h
  cases rp with
  | lst h1 h2 =>
    refine ⟨a, _, ys, _, rfl, rfl, e, s _ _ h1, by rw [ry.len, h2.len, sizeLine_eq]; omega, q _ _ _ _ (ry.append h2) .non h⟩
end PL
namespace PL
open PySem PySem.Spec PyProof.Rows L2 TB
/-! ### a def that makes a list or a dict and gives it away -/
def spM (K : PySem.W.Frag) (p : List D → (M → Prop) → Prop) : Sp := fun vs H Q _ => ∃ Hb ds Qd, Same Hb H ∧ RepAll K Hb vs ds ∧ p ds Qd ∧ ∀ q m H1 H' Hb', Gr H Hb H1 Hb' → H1 q = none → Same H1 H' → MAt K Hb' H' q m → Qd m → Q (.ref q) H'
def pdm (n : Nat) (p : List D → (M → Prop) → Prop) : List D → (M → Prop) → Prop := fun as Q => as.length = n ∧ p as Q
theorem lenM {K : PySem.W.Frag} {n : Nat} {p : List D → (M → Prop) → Prop} {vs : List V} {H : Hp} {Q : VK} {E : XK} (h : spM K (pdm n p) vs H Q E) : vs.length = n := by
  obtain ⟨Hb, ds, Qd, _, ra, hp, _⟩ := h
  rw [ra.len]
  exact hp.1
def retM (i : Nat) (Qd : M → Prop) (ρ : Rho) : Prop := match ρ[i]? with
  | some (.own m) => Qd m
  | _ => False
variable {K : PySem.W.Frag}
theorem runM {t tp : TS} {ds : DS} {N : List Str} {p : List D → (M → Prop) → Prop} {vs : List V} {H : Hp} {Q : VK} {E : XK} (i : Nat) (ht : ∀ D σ H, tp { D with nx := tRet (tVar i) D } σ H → t D σ H) (hs : SndS K tp ds) (h : spM K p vs H Q E) (hn : ∀ as Qd, p as Qd → as.length ≤ N.length)
    (body : ∀ as Qd, p as Qd → ds ⟨retM i Qd, fun _ _ => False, fun _ => False, fun _ => False⟩ (startC N.length (as.map .val))) : t { nx := fun _ H' => Q .non H', rt := Q } (L2.start N vs) H := by
  obtain ⟨Hb, as, Qd, sb, ra, hp, q⟩ := h
  have hl := ra.len
  have hn := hn _ _ hp
  have r0 : R ⟨K, H, fun b => Hb b ≠ none ∨ H b = none⟩ (L2.start N vs) H Hb (startC N.length (as.map .val)) := by
    refine ⟨sb, Same.refl _, fun b e => .inl (.inl e), fun b e => .inr e, ?_, fun i c v e1 e2 => ?_, fun i j c d a n e1 _ m1 _ _ => ?_⟩
    · unfold L2.start startC
      simp
      omega
    · rcases start_at (by rw [List.length_map]; exact hl) e1 e2 with ⟨h1, x, h2, rfl⟩ | rfl
      · rw [List.getElem?_map] at h1
        obtain ⟨d, h3, h4⟩ := ra.get' h2
        rw [h3] at h1
        cases h1
        exact ⟨x, rfl, h4⟩
      · trivial
    · unfold startC at e1
      by_cases hi : i < (as.map Cell.val).length
      · rw [List.getElem?_append_left hi, List.getElem?_map] at e1
        cases q : as[i]? with
        | none => rw [q] at e1; cases e1
        | some d => rw [q] at e1; cases e1; cases m1
      · rw [List.getElem?_append_right (by omega), List.getElem?_replicate] at e1
        split at e1
        · cases e1; cases m1
        · cases e1
  refine ht _ _ _ (hs _ _ H Hb _ _ _ rfl r0 (body as Qd hp) ⟨fun σ' H' Hb' ρ' r s hq => ?_, fun _ _ _ _ _ _ _ _ _ z => z.elim, fun _ _ _ _ _ _ z => z.elim, fun _ _ _ _ _ _ z => z.elim⟩)
  have hq : retM i Qd ρ' := hq
  unfold retM at hq
  split at hq
  · rename_i m e
    obtain ⟨a, m', es, hm, nb, nf, h5⟩ := r.mine e rfl
    have em : m' = m := by rcases h5 with ⟨z, _⟩ | z <;> cases z; rfl
    subst em
    have nf : H a = none := nf
    have ne : ∀ b, b ≠ a → sans H' a b = H' b := fun b h => if_neg h
    refine ⟨.ref a, es, q a m' (sans H' a) H' Hb' ⟨fun b o eb => ?_, s, fun b o eb => ?_, fun c ec => ?_⟩ (if_pos rfl) (fun b o eb => ?_) hm hq⟩
    · have hb : b ≠ a := fun z => by rw [z, nf] at eb; cases eb
      rw [ne b hb]
      exact r.fr _ _ eb
    · have hb : b ≠ a := fun z => by rw [z, nb] at eb; cases eb
      rw [ne b hb]
      exact r.sub _ _ eb
    · have hc : c ≠ a := fun z => ec (by rw [z]; exact nb)
      rcases r.al c ec with (z | z) | ⟨xs, z⟩
      · exact .inl z
      · exact .inr (.inl z)
      · refine .inr (.inr ⟨xs, ?_⟩)
        rcases z with z | ⟨o, z⟩
        · exact .inl (by rw [ne c hc]; exact z)
        · exact .inr ⟨o, by rw [ne c hc]; exact z⟩
    · by_cases hb : b = a
      · rw [hb, show sans H' a a = none from if_pos rfl] at eb; cases eb
      · rw [ne b hb] at eb; exact eb
  · exact hq.elim
theorem snd_callM {p : List D → (M → Prop) → Prop} {n : Nat} {t : TA} {da : DA} {E : XK} (h : SndA K n t da) : SndN K (tCall (spM K p) [] E t) (dCallN p da) := fun F σ H Hb ρ Q Qd hK r hd q =>
  h F σ H Hb ρ _ _ hK r hd fun vs ds H1 Hb1 ρ1 r1 b1 ra _ hp => by
    rw [List.append_nil]
    exact ⟨Hb1, ds, _, r1.sub, ra, hp, fun a m H2 H' Hb' g n s hm hq => q a m H2 H' Hb' ρ1 (r1.grow g) (b1.trans g.b) n s hm hq⟩
end PL
namespace PL
open PySem PySem.Spec PyProof.Rows L2 TB
/-! ### sorted(d), d one's own dict whose keys are tuples: its keys in some order -/
/-- ints and texts at the same places -/
def kShape (sh : Nat → Bool) : Nat → List Key → Bool
  | _, [] => true
  | i, .inl _ :: r => !sh i && kShape sh (i + 1) r
  | i, .inr _ :: r => sh i && kShape sh (i + 1) r
theorem kShape_items {sh : Nat → Bool} : ∀ {ks : List Key} {its : List Value} (i : Nat), Vals (ks.map kV) its → kShape sh i ks = true → ∃ l, PyProof.Rows.tupItems sh i its = some l
  | [], _, _, .nil, _ => ⟨[], by simp [PyProof.Rows.tupItems]⟩
  | .inl n :: r, _ :: us, i, .cons h t, e => by
    obtain ⟨t0, rfl⟩ := h
    have e' : (!sh i && kShape sh (i + 1) r) = true := e
    rw [Bool.and_eq_true] at e'
    obtain ⟨l, el⟩ := kShape_items (i + 1) t e'.2
    have es : sh i = false := by simpa using e'.1
    exact ⟨Sum.inl n :: l, by simp [PyProof.Rows.tupItems, es, el]⟩
  | .inr x :: r, _ :: us, i, .cons h t, e => by
    obtain ⟨t0, rfl⟩ := h
    have e' : (sh i && kShape sh (i + 1) r) = true := e
    rw [Bool.and_eq_true] at e'
    obtain ⟨l, el⟩ := kShape_items (i + 1) t e'.2
    exact ⟨Sum.inr x.cps.toList :: l, by simp [PyProof.Rows.tupItems, e'.1, el]⟩
theorem kShape_tup {sh : Nat → Bool} {h : Heap} {a : Addr} {ks : List Key} {its : List Value} (hv : Vals (ks.map kV) its) (hT : IsTup h a its.toArray) (hn : ks ≠ []) (e : kShape sh 0 ks = true) :
    (∃ f, PyProof.Rows.TupOf h sh (.ref a) f) ∧ ∃ l, PyProof.Rows.G.tupKeyC h sh (.ref a) = some l := by
  obtain ⟨o, ho, hc, n, hd⟩ := hT
  refine ⟨?_, ?_⟩
  · match ks, its, hv, e with
    | [], _, _, _ => exact absurd rfl hn
    | .inl i :: r, _ :: us, .cons h t, e =>
      obtain ⟨t0, rfl⟩ := h
      have e' : (!sh 0 && kShape sh 1 r) = true := e
      rw [Bool.and_eq_true] at e'
      have es : sh 0 = false := by simpa using e'.1
      exact ⟨_, a, o, _, n, rfl, ho, hc, hd, rfl, fun _ => ⟨_, _, rfl⟩, fun z => (by rw [es] at z; cases z)⟩
    | .inr x :: r, _ :: us, .cons h t, e =>
      obtain ⟨t0, rfl⟩ := h
      have e' : (sh 0 && kShape sh 1 r) = true := e
      rw [Bool.and_eq_true] at e'
      exact ⟨_, a, o, _, n, rfl, ho, hc, hd, rfl, fun z => (by rw [e'.1] at z; cases z), fun _ => ⟨_, _, rfl⟩⟩
  · obtain ⟨l, el⟩ := kShape_items 0 hv e
    refine ⟨l, ?_⟩
    have e1 : PyProof.Rows.G.isTupObj h (.ref a) = true := by simp [PyProof.Rows.G.isTupObj, ho, hc]
    unfold PyProof.Rows.G.tupKeyC
    rw [if_pos e1]
    simp [PyProof.Rows.tupKey, ho, hd, el]
theorem perm_of_map {α β : Type} (f : α → β) : ∀ (m : List α) (l : List β), l.Perm (m.map f) → ∃ m' : List α, m'.Perm m ∧ l = m'.map f
  | [], l, h => ⟨[], .refl _, by simpa using h⟩
  | x :: m, l, h => by
    have hx : f x ∈ l := h.symm.subset (by simp)
    obtain ⟨l1, l2, rfl⟩ := List.append_of_mem hx
    have h2 : (f x :: (l1 ++ l2)).Perm (f x :: m.map f) := List.perm_middle.symm.trans h
    obtain ⟨m', p, e⟩ := perm_of_map f m (l1 ++ l2) h2.cons_inv
    obtain ⟨a, b, em, ea, eb⟩ := List.map_eq_append_iff.mp e.symm
    subst em ea eb
    exact ⟨a ++ x :: b, List.perm_middle.trans (p.cons x), by simp⟩
def rSortD (K : PySem.W.Frag) : List V → Hp → VK → Prop := fun vs H Q => ∃ (a : Addr) (kvs : List (List Key × V)) (sh : Nat → Bool), vs = [V.ref a] ∧ Rd H a (.dT kvs) ∧ (∀ p ∈ kvs, p.1 ≠ [] ∧ kShape sh 0 p.1 = true) ∧
  ∀ (zs : List (Addr × List Key)) (p : Addr), (zs.map (·.2)).Perm (kvs.map (·.1)) → (∀ z ∈ zs, H z.1 = some (.tup (z.2.map kV))) → H p = none → Q (.ref p) (upd H p (.lst (zs.map fun z => V.ref z.1)))
theorem paired_fst {H : Hp} : ∀ {kvs : List (List Key × V)} {xs : List (List Key × Addr × Value)}, KT H kvs xs → kvs.map (·.1) = xs.map (·.1) ∧ ∀ x ∈ xs, H x.2.1 = some (.tup (x.1.map kV))
  | _, _, .nil => ⟨rfl, fun _ h => nomatch h⟩
  | _, _, .cons h t => by
    obtain ⟨e1, e2⟩ := paired_fst t
    obtain ⟨h1, h2, h3⟩ := h
    refine ⟨by rw [List.map_cons, List.map_cons, e1, h1], fun x hx => ?_⟩
    rcases List.mem_cons.mp hx with rfl | hx
    · rw [← h1]; exact h2
    · exact e2 x hx
theorem tupsOf_all {h : Heap} {sh : Nat → Bool} : ∀ (vs : List Value), (∀ v ∈ vs, ∃ f, PyProof.Rows.TupOf h sh v f) → ∃ fs, PyProof.Rows.TupsOf h sh vs fs
  | [], _ => ⟨[], .nil⟩
  | v :: vs, q => by
    obtain ⟨f, hf⟩ := q v List.mem_cons_self
    obtain ⟨fs, hfs⟩ := tupsOf_all vs fun u hu => q u (List.mem_cons_of_mem _ hu)
    exact ⟨f :: fs, .cons hf hfs⟩
theorem vals_refs {κ : Type} : ∀ zs : List (Addr × κ), Vals (zs.map fun z => V.ref z.1) (zs.map fun z => Value.ref z.1)
  | [] => .nil
  | _ :: r => .cons rfl (vals_refs r)
theorem objOk_some {P : Program} {w : World} {H : Hp} {h : Heap} {a : Addr} {o : HO} (x : ObjOk P w H h a o) : ∃ u, h.get? a = some u := by
  cases o with
  | lst xs => obtain ⟨_, _, _, _, e⟩ := x; exact ⟨_, e⟩
  | tup xs => obtain ⟨_, _, _, o, e, _⟩ := x; exact ⟨_, e⟩
  | dK kvs => obtain ⟨_, _, _, _, o, _, _, e, _⟩ := x; exact ⟨_, e⟩
  | dT kvs => obtain ⟨_, _, _, _, o, _, _, e, _⟩ := x; exact ⟨_, e⟩
  | set S n => obtain ⟨o, _, _, _, e, _⟩ := x; exact ⟨_, e⟩
  | ins C dx fs => obtain ⟨_, _, _, e, _⟩ := x; exact ⟨_, e⟩
  | own y => exact x
  | xd fs => obtain ⟨_, ⟨_, _, _, e, _⟩, _⟩ := x; exact ⟨_, e⟩
  | rng lo hi => obtain ⟨_, _, _, e⟩ := x; exact ⟨_, e⟩
  | frz ob u => obtain ⟨e, _⟩ := x; exact ⟨_, e⟩
  | tbl ps => exact ⟨_, (show h.get? a = some _ from x)⟩
  | met f y => exact ⟨_, (show h.get? a = some _ from x)⟩
  | ext φ => exact x.2.1
variable {X : Cx}
theorem cr_sortD (hc : X.calm = true) : CallR X (.builtin "sorted") (rSortD X.K) := by
  intro pins s σ H vs us Q I r h
  obtain ⟨a, kvs, sh, rfl, ha, hsh, q⟩ := h
  obtain rfl := Vals.ref1 r
  obtain ⟨z, hsys, xs, rel, o, es, ep, ho, hx, hdat, hes, his, hn⟩ := dt_rd I.hok ha
  obtain ⟨ek, hkt⟩ := paired_fst rel
  have l2 : es.size = xs.length := size_of_entries hes
  have l1 : kvs.length = xs.length := Paired.length rel
  have hz : es.size ≤ sizeLine := by rw [l2, ← l1]; exact z
  have hraw : s.heap.DictRaw a es ep := ⟨o, ho, hx, hdat⟩
  refine Calls.call_function_entry kind_sorted plain_sorted entry_sorted (args_sorted1 _) ?_
  unfold Builtin.«sorted»
  refine wpAny_bind (m := checkCount "sorted" 1 1 _) (wpAny_pure ?_)
  refine wpAny_bind (PySem.W.kdu_collect (A := X.A.in1) (KdlSrc.rawDict hsys) (I.ok.hd hc) hraw hz fun h' tk acc hk hacc => ?_)
  -- what was collected
  have eacc : acc.toList = (xs.map fun x => ((x.2.1, x.1) : Addr × List Key)).map fun z => Value.ref z.1 := by
    refine List.ext_getElem? fun j => ?_
    cases ej : acc.toList[j]? with
    | none =>
      have hj := List.getElem?_eq_none_iff.mp ej
      rw [Array.length_toList, hacc.1, l2] at hj
      rw [List.getElem?_eq_none (by simpa using hj)]
    | some v =>
      obtain ⟨hi, rfl⟩ := hacc.2 j v (by rw [← Array.getElem?_toList]; exact ej)
      have e1 := entry_at hes j
      rw [Array.getElem?_eq_getElem hi] at e1
      cases e2 : xs[j]? with
      | none => rw [e2] at e1; cases e1
      | some x =>
        rw [e2] at e1
        have e3 : es[j] = entryOfKey (tupleKind (mixKind X.prog X.w)) x := Option.some.inj e1
        rw [e3, List.map_map, List.getElem?_map, e2] <;> rfl
  generalize hL : (xs.map fun x => ((x.2.1, x.1) : Addr × List Key)) = L at eacc
  have hLk : ∀ z ∈ L, H z.1 = some (.tup (z.2.map kV)) ∧ z.2 ≠ [] ∧ kShape sh 0 z.2 = true := fun z hz => by
    rw [← hL] at hz
    obtain ⟨x, hx, rfl⟩ := List.mem_map.mp hz
    refine ⟨hkt x hx, ?_⟩
    have hm : x.1 ∈ kvs.map (·.1) := by rw [ek]; exact List.mem_map.mpr ⟨x, hx, rfl⟩
    obtain ⟨p, hp, e⟩ := List.mem_map.mp hm
    rw [← e]
    exact hsh p hp
  have eL : L.map (·.2) = kvs.map (·.1) := by rw [ek, ← hL, List.map_map]; rfl
  have lL : L.length ≤ sizeLine := by
    have e := congrArg List.length eL
    rw [List.length_map, List.length_map] at e
    rw [e]; exact z
  rw [eacc]
  refine wpAny_bind (wpAny_newList ?_ (by rw [List.length_map]; exact lL))
  have hoL : (h'.push { cls := .type "list", data := .seq (L.map fun z => Value.ref z.1).toArray }).get? h'.objs.size = some (seqObj "list" (L.map fun z => Value.ref z.1).toArray 0) := Heap.get?_push_size _ rfl
  have kb : ∀ b o, s.heap.get? b = some o → (h'.push { cls := .type "list", data := .seq (L.map fun z => Value.ref z.1).toArray }).get? b = some o := fun b o e => Heap.get?_push_of_some _ (hk b o e)
  have gone : s.heap.get? h'.objs.size = none := by
    cases e : s.heap.get? h'.objs.size with
    | none => rfl
    | some u => exact absurd (Heap.lt_size (hk _ _ e)) (Nat.lt_irrefl _)
  have hfr : H h'.objs.size = none := by
    cases e : H h'.objs.size with
    | none => rfl
    | some u =>
      obtain ⟨o', e'⟩ := objOk_some (I.hok _ _ e)
      rw [gone] at e'; cases e'
  have tup : ∀ z ∈ L, ∃ its : List Value, Vals (z.2.map kV) its ∧ IsTup (h'.push { cls := .type "list", data := .seq (L.map fun z => Value.ref z.1).toArray }) z.1 its.toArray := fun z hz => by
    obtain ⟨its, rv, hT, _⟩ := I.tuple (.inl (.inl (hLk z hz).1))
    obtain ⟨o, h1, h2⟩ := hT
    exact ⟨its, rv, o, kb _ _ h1, h2⟩
  obtain ⟨fs, hfs⟩ := tupsOf_all (h := h'.push { cls := .type "list", data := .seq (L.map fun z => Value.ref z.1).toArray }) (sh := sh) (L.map fun z => Value.ref z.1) fun v hv => by
    obtain ⟨z, hz, rfl⟩ := List.mem_map.mp hv
    obtain ⟨its, rv, hT⟩ := tup z hz
    exact (kShape_tup rv hT (hLk z hz).2.1 (hLk z hz).2.2).1
  have hks : ∀ v, v ∈ (L.map fun z => Value.ref z.1) → ∃ l, PyProof.Rows.G.tupKeyC (h'.push { cls := .type "list", data := .seq (L.map fun z => Value.ref z.1).toArray }) sh v = some l := fun v hv => by
    obtain ⟨z, hz, rfl⟩ := List.mem_map.mp hv
    obtain ⟨its, rv, hT⟩ := tup z hz
    exact (kShape_tup rv hT (hLk z hz).2.1 (hLk z hz).2.2).2
  generalize hh2 : h'.push { cls := .type "list", data := .seq (L.map fun z => Value.ref z.1).toArray } = h2 at hoL kb hfs hks ⊢
  refine wpAny_bind (wpAny_holding (wpAny_call_entry slot_list_sort ⟨_, hoL, rfl⟩ entry_list_sort (PyProof.Rows.G.list_sort_tups (s := { s with heap := h2, toks := tk }) hoL hfs hks (by rw [List.length_map]; exact lL) fun st' a1 a2 a3 => ⟨_, rfl, ?_⟩) (args_list_sort _)))
  refine wpAny_pure ⟨_, rfl, ?_⟩
  have hp : ((arrOf st').map (·.2)).toList.Perm (L.map fun z => Value.ref z.1) := by
    have e1 := (Array.perm_iff_toList_perm.mp a1).map (·.2)
    rw [pairsOf_toList, List.map_snd_zip (Nat.le_refl _)] at e1
    rw [Array.toList_map]
    exact e1
  obtain ⟨zs, pz, ez⟩ := perm_of_map _ _ _ hp
  obtain ⟨ee, he⟩ := sortedHeap_at (out := (arrOf st').map (·.2)) hoL
  have old : ∀ b o, s.heap.get? b = some o → (sortedHeap h2 h'.objs.size (L.map fun z => Value.ref z.1) ((arrOf st').map (·.2))).get? b = some o := fun b o e => by
    have hb : b < h'.objs.size := Heap.lt_size (hk _ _ e)
    have hb2 : b < h2.objs.size := Heap.lt_size (kb _ _ e)
    rw [sortedHeap_old (Nat.ne_of_lt hb) hb2]
    exact kb _ _ e
  have lz : zs.length ≤ sizeLine := by rw [pz.length_eq]; exact lL
  exact ⟨.ref _, upd H h'.objs.size (.lst (zs.map fun z => V.ref z.1)), I.laidN (o := .lst (zs.map fun z => V.ref z.1)) (t' := tk) old gone hfr ⟨by rw [List.length_map]; exact lz, zs.map (fun z => Value.ref z.1), ee, vals_refs zs, by rw [← ez]; exact he⟩, rfl, q zs _ ((pz.map _).trans (by rw [eL])) (fun z hz => (hLk z (pz.subset hz)).1) hfr⟩
/-! ### the same over data -/
variable {K : PySem.W.Frag}
def fSortU (sh : Nat → Bool) : D → (M → Prop) → Prop
  | .dcu es, k => (∀ p ∈ es, p.1 ≠ [] ∧ kShape sh 0 p.1 = true) ∧ ∀ ks : List (List Key), ks.Perm (es.map (·.1)) → k (.lst (ks.map fun k => .tup (k.map keyD)))
  | _, _ => False
theorem repKT_keys {Hb : Hp} : ∀ {kvs : List (List Key × V)} {es : List (List Key × D)}, RepKT K Hb kvs es → kvs.map (·.1) = es.map (·.1)
  | _, _, .nil => rfl
  | _, _, .cons _ t => congrArg (List.cons _) (repKT_keys t)
theorem gr_keys {H Hb : Hp} (h : Same Hb H) : ∀ zs : List (Addr × List Key), (∀ z ∈ zs, H z.1 = some (.tup (z.2.map kV))) → ∃ Hb', Gr H Hb H Hb' ∧ ∀ z ∈ zs, Hb' z.1 = some (.tup (z.2.map kV))
  | [], _ => ⟨Hb, Gr.refl h, fun _ z => nomatch z⟩
  | z :: zs, q => by
    obtain ⟨Hb1, g1, h1⟩ := gr_keys h zs fun y hy => q y (List.mem_cons_of_mem _ hy)
    obtain ⟨Hb2, g2, h2⟩ := Gr.tupS g1.sub (Same.refl _) (q z List.mem_cons_self)
    refine ⟨Hb2, g1.trans g2, fun y hy => ?_⟩
    rcases List.mem_cons.mp hy with rfl | hy
    · exact h2
    · exact g2.b _ _ (h1 y hy)
theorem rep_keys {Hb : Hp} : ∀ zs : List (Addr × List Key), (∀ z ∈ zs, Hb z.1 = some (.tup (z.2.map kV))) → RepAll K Hb (zs.map fun z => V.ref z.1) (zs.map fun z => D.tup (z.2.map keyD))
  | [], _ => .nil
  | z :: zs, q => .cons (.tup (q z List.mem_cons_self) (reps_key _)) (rep_keys zs fun y hy => q y (List.mem_cons_of_mem _ hy))
def dSortU (sh : Nat → Bool) (a : Opd) : DN := fun ρ Q => a.run ρ fun p ρ1 => p.res ρ1 fun d => fSortU sh d fun m => Q m ρ1
theorem snd_sortU (sh : Nat → Bool) {ta : TE} {a : Opd} (ha : SndO K ta a) : SndN K (tCB (rSortD K) (tCons ta tNil)) (dSortU sh a) := fun F σ H Hb ρ Q Qd hK rr h q => by
  subst hK
  show ta σ H fun x H1 => tNil σ H1 fun xs H2 => rSortD F.K (x :: xs) H2 Q
  refine SndO.use (t := ta) rfl rr ha h fun v p H1 Hb1 ρ1 r1 b1 o1 h1 => ?_
  obtain ⟨d, vd, h2⟩ := OpAt.res r1 o1 h1
  show rSortD F.K [v] H1 Q
  cases d with
  | dcu es =>
    obtain ⟨h3, h4⟩ := h2
    obtain ⟨a', kvs, rfl, rd, rk⟩ := vd.dcu' r1.sub
    have ek := repKT_keys rk
    refine ⟨a', kvs, sh, rfl, rd, fun p hp => ?_, fun zs p pz hz n => ?_⟩
    · have hm : p.1 ∈ es.map (·.1) := by rw [← ek]; exact List.mem_map.mpr ⟨p, hp, rfl⟩
      obtain ⟨x, hx, e⟩ := List.mem_map.mp hm
      rw [← e]
      exact h3 x hx
    · have hq := h4 (zs.map (·.2)) (by rw [← ek]; exact pz)
      have em : (zs.map (·.2)).map (fun k : List Key => D.tup (k.map keyD)) = zs.map fun z : Addr × List Key => D.tup (z.2.map keyD) := by rw [List.map_map]; rfl
      rw [em] at hq
      obtain ⟨Hb2, g, ht⟩ := gr_keys r1.sub zs hz
      exact q p (.lst (zs.map fun z : Addr × List Key => D.tup (z.2.map keyD))) H1 _ Hb2 ρ1 (r1.grow g) (b1.trans g.b) n (same_new n) ⟨_, upd_same, rep_keys zs ht⟩ hq
  | _ => exact h2.elim
/-! ### a walk over a list or a tuple -/
def iAny (K : PySem.W.Frag) (tl : TE) : TI := fun σ H R => tl σ H fun x H1 => ∃ a, x = .ref a ∧ (((∃ xs, SqL K H1 a xs) ∧ R (Itl K a) H1) ∨ ((∃ xs, SqT K H1 a xs) ∧ R (Itt K a) H1))
theorem pi_any {tg l : Expr} {tl : TE} (hl : PE X l tl) : PI X tg l (iAny X.K tl) := by
  refine ⟨fun pins s σ H R I h => ?_⟩
  refine thn (hl.run pins s σ H _ I h) fun v s1 ⟨x, H1, I1, r1, a, e, q⟩ => ?_
  subst e
  cases r1
  rcases q with ⟨⟨xs, hq⟩, q⟩ | ⟨⟨xs, hq⟩, q⟩
  · obtain ⟨its, rv, p, hz⟩ := I1.list hq
    refine wpAny_pyIter_list p.isList ?_
    exact ⟨s1.heap.objs.size, [s1.heap.objs.size], _, _, H1, rfl, I1.kept (t' := s1.toks) fun b o e => Heap.get?_push_of_some _ e, turn_list a _, ⟨_, Heap.get?_push_size _ rfl, rfl, rfl⟩, fun b hb => (by rw [List.mem_singleton.mp hb]; exact I1.fpOk (Nat.le_refl _) (I1.hok.fresh (Nat.le_refl _))), q⟩
  · obtain ⟨its, rv, p, hz⟩ := I1.tuple hq
    refine wpAny_pyIter_tuple (show s1.heap.IsTuple a its.toArray from p) ?_
    exact ⟨s1.heap.objs.size, [s1.heap.objs.size], _, _, H1, rfl, I1.kept (t' := s1.toks) fun b o e => Heap.get?_push_of_some _ e, turn_tuple a _, ⟨_, Heap.get?_push_size _ rfl, rfl, rfl⟩, fun b hb => (by rw [List.mem_singleton.mp hb]; exact I1.fpOk (Nat.le_refl _) (I1.hok.fresh (Nat.le_refl _))), q⟩
def dIAny (de : DE) : DI := fun ρ Q => de ρ fun d ρ1 => match d with
  | .tup ds => Q ds ρ1
  | .ktup ds => Q ds ρ1
  | .lst ds => Q ds ρ1
  | _ => False
theorem sni_any {t : TE} {de : DE} (h : SndE K t de) : SndI K (iAny K t) (dIAny de) := fun F σ H Hb ρ Rk Qd hK r hd q =>
  h F σ H Hb ρ _ _ hK r hd fun v d H' Hb' ρ' r' b rp hq => by
    have goT : ∀ {a : Addr} {xs : List V} {ds : List D}, (∀ H1 Hb1, Same Hb' Hb1 → Same Hb1 H1 → SqT K H1 a xs) → RepAll K Hb' xs ds → Qd ds ρ' → (∃ xs, SqT K H' a xs) ∧ Rk (Itt K a) H' := fun {a xs ds} h1 h2 hq => by
      refine ⟨⟨_, h1 H' Hb' (Same.refl _) r'.sub⟩, q _ ds H' Hb' ρ' r' b ⟨fun i d H Hb1 s1 s2 _ e => ?_, fun i H Hb1 s1 s2 _ e => ⟨_, h1 H Hb1 s1 s2, by rw [h2.len]; exact e⟩⟩ hq⟩
      obtain ⟨v, e1, e2⟩ := h2.get e
      refine ⟨⟨_, v, h1 H Hb1 s1 s2, e1⟩, fun x H' ⟨y1, y2⟩ => ?_⟩
      subst y1
      have := y2 _ (h1 H' Hb1 s1 s2)
      rw [e1] at this
      cases this
      exact ⟨Hb1, Gr.refl s2, Rep.mono s1 _ _ e2⟩
    cases rp with
    | tup h1 h2 => exact ⟨_, rfl, .inr (goT (fun H1 Hb1 s1 s2 => SqT.of (s2 _ _ (s1 _ _ h1))) h2 hq)⟩
    | ktup h1 h2 => exact ⟨_, rfl, .inr (goT (fun H1 Hb1 s1 s2 => h1 H1) h2 hq)⟩
    | lst h1 h2 =>
      rename_i a xs ds
      have h1 := SqL.of (K := K) h1
      refine ⟨a, rfl, .inl ⟨⟨_, r'.sub.seq h1⟩, q _ ds H' Hb' ρ' r' b ⟨fun i d H Hb1 s1 s2 _ e => ?_, fun i H Hb1 s1 s2 _ e => ⟨_, (s1.trans s2).seq h1, by rw [h2.len]; exact e⟩⟩ hq⟩⟩
      obtain ⟨v, e1, e2⟩ := h2.get e
      refine ⟨⟨_, v, (s1.trans s2).seq h1, e1⟩, fun x H' ⟨y1, y2⟩ => ?_⟩
      subst y1
      have := y2 _ ((s1.trans s2).seq h1)
      rw [e1] at this
      cases this
      exact ⟨Hb1, Gr.refl s2, Rep.mono s1 _ _ e2⟩
    | _ => exact hq.elim
/-! ### loops that may return early, led by a computed walk -/
def runR {S α : Type} (f : S → α → S ⊕ D) : List α → S → S ⊕ D
  | [], s => .inl s
  | x :: xs, s => match f s x with
    | .inl s' => runR f xs s'
    | .inr d => .inr d
theorem runR_cons {S α : Type} {f : S → α → S ⊕ D} {x : α} {xs : List α} {s : S} : runR f (x :: xs) s = (f s x).elim (fun s' => runR f xs s') .inr := by
  show (match f s x with | .inl s' => runR f xs s' | .inr d => .inr d) = _
  cases f s x <;> rfl
theorem loopP_R {S α : Type} (St : S → Rho → Prop) (f : S → α → S ⊕ D) (tD : α → D) {items : List D} {xs : List α} (hi : items = xs.map tD) {s0 : S} {g : DG} {b : DS} {E : DEnds} {ρ : Rho} (h0 : St s0 ρ)
    (hstep : ∀ s x ρ, x ∈ xs → St s ρ → ∀ nx : Rho → Prop, (∀ s' ρ', f s x = .inl s' → St s' ρ' → nx ρ') → (∀ d, f s x = .inr d → runR f xs s0 = .inr d) → g (tD x) ρ fun ρ1 => b ⟨nx, E.rt, E.nx, nx⟩ ρ1)
    (hd : ∀ s1 ρ, runR f xs s0 = .inl s1 → St s1 ρ → E.nx ρ) : loopP g b E items ρ := by
  subst hi
  refine ⟨fun i ρ => ∃ s, St s ρ ∧ runR f (xs.drop i) s = runR f xs s0, ⟨s0, h0, rfl⟩, ?_, ?_⟩
  · rintro i d ρ hx ⟨s, hs, hr⟩
    rw [List.getElem?_map] at hx
    cases ex : xs[i]? with
    | none => rw [ex] at hx; cases hx
    | some x =>
      rw [ex] at hx
      cases hx
      have hi := (List.getElem?_eq_some_iff.mp ex).1
      rw [List.drop_eq_getElem_cons hi, (List.getElem?_eq_some_iff.mp ex).2, runR_cons] at hr
      have hm := List.mem_of_getElem? ex
      exact hstep s x ρ hm hs _ (fun s' ρ' e h => ⟨s', h, by rw [e] at hr; exact hr⟩) fun d e => by rw [e] at hr; exact hr.symm
  · rintro ρ ⟨s, hs, hr⟩
    rw [List.length_map, List.drop_length] at hr
    exact hd s ρ hr.symm hs
end PL
namespace PL
open PySem PySem.Spec PyProof.Rows L2 TB HT
/-! ### t[::-1], t a tuple -/
section
variable {prog : Program} {w : World} {A : Around} {E : Value → Shared → Prop} {s : Shared}
theorem sliceApplied_rev {sl : Addr} {vs : Value} {n : Nat} {Q : Int × Int × Nat → Shared → Prop} (hs : s.heap.IsSliceOf sl .none .none vs) (ps : IsPart vs (some (-1)))
    (h : Q ((n : Int) - 1, -1, n) s) : wpAny (model prog w) A (Builtin.Slice.sliceApplied (.ref sl) (pure (n : Int))) Q E s := by
  obtain ⟨os, hos, hcs, hds⟩ := id hs
  unfold Builtin.Slice.sliceApplied Builtin.Slice.sliceFields
  refine wpAny_bind (wpAny_bind (wpAny_field hos hds (x := .none) rfl (wpAny_bind (wpAny_field hos hds (x := .none) rfl (wpAny_bind (wpAny_field hos hds (x := vs) rfl (wpAny_pure ?_)))))))
  refine wpAny_bind (slicePart_ ps ?_)
  show wpAny _ _ (if ((-1 : Int) == 0) = true then _ else _) _ _ s
  rw [if_neg (by decide)]
  refine wpAny_bind (slicePart_none (wpAny_bind (slicePart_none (wpAny_bind (wpAny_pure ?_)))))
  show wpAny _ _ (match Builtin.Slice.sliceAdjust none none (-1) (n : Int) with | (lo, hi) => pure (lo, (-1 : Int), Builtin.Slice.slicePlaces lo hi (-1))) _ _ s
  show wpAny _ _ (pure ((n : Int) - 1, (-1 : Int), Builtin.Slice.slicePlaces ((n : Int) - 1) (-1) (-1))) _ _ s
  have e : Builtin.Slice.slicePlaces ((n : Int) - 1) (-1) (-1) = n := by
    unfold Builtin.Slice.slicePlaces
    rw [if_neg (by decide)]
    split
    · rw [show (-(-1) : Int) = 1 by decide, Int.ediv_one]
      omega
    · omega
  rw [e]
  exact wpAny_pure h
theorem fmap_congr {α β : Type} {f g : α → Option β} : ∀ (xs : List α), (∀ x ∈ xs, f x = g x) → xs.filterMap f = xs.filterMap g
  | [], _ => rfl
  | x :: r, h => by
    rw [List.filterMap_cons, List.filterMap_cons, h x List.mem_cons_self, fmap_congr r fun y hy => h y (List.mem_cons_of_mem _ hy)]
theorem pick_rev (xs : Array Value) : ((List.range xs.size).filterMap fun (m : Nat) => xs[(((xs.size : Int) - 1) + (m : Int) * (-1)).toNat]?).toArray = xs.toList.reverse.toArray := by
  have e : (List.range xs.size).filterMap (fun (m : Nat) => xs[(((xs.size : Int) - 1) + (m : Int) * (-1)).toNat]?) = (List.range xs.size).filterMap fun m => xs[xs.size - 1 - m]? := by
    refine fmap_congr _ fun m hm => ?_
    have := List.mem_range.mp hm
    rw [show (((xs.size : Int) - 1) + (m : Int) * (-1)).toNat = xs.size - 1 - m by omega]
  rw [e]
  have e2 : (List.range xs.size).filterMap (fun m => xs[xs.size - 1 - m]?) = ((List.range xs.size).map fun k => xs.size - 1 - k).filterMap (xs[·]?) := by
    rw [List.filterMap_map]
    rfl
  rw [e2, PySem.W.krv_range, List.filterMap_reverse, PySem.W.krv_all]
theorem getItem_tuple_rev {t sl : Addr} {items : Array Value} {vs : Value} {Q : Value → Shared → Prop} (ht : IsTup s.heap t items) (hs : s.heap.IsSliceOf sl .none .none vs) (ps : IsPart vs (some (-1)))
    (h : Q (.ref s.heap.objs.size) { s with heap := s.heap.push { cls := .type "tuple", data := .seq items.toList.reverse.toArray } })
    (hsz : items.size ≤ sizeLine) : wpAny (model prog w) A (getItem (.ref t) (.ref sl)) Q E s := by
  have htake : sizeOk (.seq items.toList.reverse.toArray) := by
    show items.toList.reverse.toArray.size ≤ sizeLine
    rw [List.size_toArray, List.length_reverse, Array.length_toList]
    exact hsz
  obtain ⟨os, hos, hcs, hds⟩ := id hs
  have hTs : s.TypeIs (.ref sl) "slice" := ⟨os, hos, hcs⟩
  unfold getItem
  try with_reducible refine wpAny_holding ?_
  first | refine wpAny_bind (wpAny_pure ?_) | skip
  refine wpAny_bind (wpAny_sequenceKey ht.typeIs (by decide) ?_)
  refine wpAny_bind (wpAny_callSpecial?_slot (name := Str.ofString "__getitem__") ht.typeIs PyProof.Rows.slot_tuple_getitem
    (wpAny_call_entry PyProof.Rows.slot_tuple_getitem ht.typeIs entry_tuple_getitem ?_ (args_tuple_getitem _ _)))
  show wpAny _ _ (Builtin.Tuple.tupleItemsOf (.ref t) >>= _) _ _ s
  refine wpAny_bind (tupleItemsOf_ ht ?_)
  refine wpAny_bind (wpAny_typeOf hTs ?_)
  rw [if_pos (by decide)]
  refine wpAny_bind (sliceApplied_rev hs ps ?_)
  have hno : ¬ ((((items.size : Int) - 1) == 0 && (-1 : Int) == 1 && items.size == items.size) = true) := by
    rw [show ((-1 : Int) == 1) = false from rfl, Bool.and_false, Bool.false_and]
    exact Bool.false_ne_true
  show wpAny _ _ (if (((items.size : Int) - 1) == 0 && (-1 : Int) == 1 && items.size == items.size) = true then _ else _) _ _ s
  rw [if_neg hno, pick_rev]
  first
    | exact wpAny_bind (m := Builtin.Tuple.tupleExact _) (wpAny_newObj_type (wpAny_pure ⟨_, rfl, wpAny_pure h⟩) htake)
    | exact wpAny_bind (m := Builtin.Tuple.tupleExact _) (wpAny_newObj_type (wpAny_bind (wpAny_pure (wpAny_pure ⟨_, rfl, wpAny_pure h⟩))) htake)
    | exact wpAny_bind (wpAny_bind (m := Builtin.Tuple.tupleExact _) (wpAny_newObj_type (wpAny_pure (wpAny_pure ⟨_, rfl, wpAny_pure h⟩)) htake))
    | exact wpAny_bind (wpAny_bind (m := Builtin.Tuple.tupleExact _) (wpAny_newObj_type (wpAny_pure ⟨_, rfl, wpAny_pure h⟩) htake))
end
def tRevT (K : PySem.W.Frag) (te : TE) : TE := fun σ H Q => te σ H fun x H1 => ∃ a xs, x = .ref a ∧ SqT K H1 a xs ∧ ∀ p, H1 p = none → Q (.ref p) (upd H1 p (.tup xs.reverse))
variable {X : Cx}
theorem pe_revT {e : Expr} {te : TE} {k : Nat} {p1 p2 p3 pos : Pos} (he : PE X e te) : PE X (.Subscript e (.Slice none none (some (.UnaryOp .USub (.Constant (.int 1) k p1) p2)) p3) pos) (tRevT X.K te) := by
  refine ⟨fun pins s σ H Q I h => ?_⟩
  refine Subscript_ (thn (he.run pins s σ H _ I h) fun v s1 ⟨x, H1, I1, r1, q1⟩ => ?_)
  obtain ⟨a, xs, ex, hx, q⟩ := q1
  subst ex
  cases r1
  have hst : PO X (some (.UnaryOp .USub (.Constant (.int 1) k p1) p2)) (tPart (tUn (rU fun i => .int (-i)) (tC (.int 1)))) := po_some (pe_un un_neg pe_int)
  refine wpAny_Slice (thn (po_none.run pins s1 σ H1 (fun o H2 => o = none ∧ H2 = H1) I1 ⟨rfl, rfl⟩) fun vl s2 ⟨l, H2, I2, pl, el, e2⟩ => ?_)
  subst el e2
  refine thn (po_none.run pins s2 σ H2 (fun o H3 => o = none ∧ H3 = H2) I2 ⟨rfl, rfl⟩) fun vu s3 ⟨u, H3, I3, pu, eu, e3⟩ => ?_
  subst eu e3
  refine thn (hst.run pins s3 σ H3 (fun o H4 => o = some (-1) ∧ H4 = H3) I3 ⟨1, rfl, -1, rfl, rfl, rfl⟩) fun vs s4 ⟨o, H4, I4, ps, eo, e4⟩ => ?_
  subst eo e4
  cases pl
  cases pu
  have I5 : Inv X pins σ H4 { s4 with heap := s4.heap.push { cls := .type "slice", data := .fields #[.none, .none, vs] } } := I4.kept (t' := s4.toks) fun b ob q => Heap.get?_push_of_some _ q
  obtain ⟨its, r, ht, hz⟩ := I5.tuple hx
  have hlen := r.length
  show wpAny (model X.prog X.w) X.A (subscriptTail e (.Slice none none (some (.UnaryOp .USub (.Constant (.int 1) k p1) p2)) p3) (.ref a) (.ref s4.heap.objs.size)) (EP X pins σ Q) X.xe { s4 with heap := s4.heap.push { cls := .type "slice", data := .fields #[.none, .none, vs] } }
  refine tail_any (ops := [.ref a, .ref s4.heap.objs.size]) ht.typeIs (PyProof.Rows.slot_tuple_getitem.lookup) ?_ (by with_unfolding_all rfl)
  refine getItem_tuple_rev ht (Heap.IsSliceOf.new _ .none .none vs) ps ?_ (by rw [List.size_toArray]; omega)
  refine ⟨.ref _, _, I5.laid (t' := s4.toks) (o := .tup xs.reverse) (fun b ob q => Heap.get?_push_of_some _ q) (Nat.le_refl _) ?_, rfl, q _ (I5.hok.fresh (Nat.le_refl _))⟩
  exact ⟨by rw [List.length_reverse]; exact hz, _, r.reverse, _, Heap.get?_push_size _ rfl, rfl, 0, rfl⟩
/-! ### the same over data -/
variable {K : PySem.W.Frag}
def dRevT (a : Opd) : DE := fun ρ Q => a.run ρ fun p ρ1 => p.res ρ1 fun d => match d with
  | .tup xs => Q (.tup xs.reverse) ρ1
  | .ktup xs => Q (.tup xs.reverse) ρ1
  | _ => False
theorem snd_revT {t : TE} {a : Opd} (ha : SndO K t a) : SndE K (tRevT K t) (dRevT a) := fun F σ H Hb ρ Q Qd hK r h q => by
  subst hK
  refine SndO.use (t := t) rfl r ha h fun v p H1 Hb1 ρ1 r1 b1 o1 h1 => ?_
  obtain ⟨d, vd, h2⟩ := OpAt.res r1 o1 h1
  have new : ∀ {us : List V} {es : List D}, RepAll F.K Hb1 us es → Qd (.tup es) ρ1 → ∀ l, H1 l = none → Q (.ref l) (upd H1 l (.tup us)) := fun {us es} ra h l n => by
    have g := Gr.new (o := .tup us) r1.sub n
    exact q _ (.tup es) _ _ ρ1 (r1.grow g) (b1.trans g.b) (.tup upd_same (RepAll.mono g.b _ _ ra)) h
  cases d with
  | tup xs =>
    obtain ⟨a, us, rfl, e1, _, e3⟩ := vd.tup r1.sub
    exact ⟨a, us, rfl, e1, new e3.reverse h2⟩
  | ktup xs =>
    obtain ⟨a, us, rfl, e1, e3⟩ := vd.ktup
    exact ⟨a, us, rfl, e1, new e3.reverse h2⟩
  | _ => exact h2.elim
def dTupRg2 (da db : DE) : DE := fun ρ Q => da ρ fun d ρ1 => db ρ1 fun e ρ2 => int2 d e fun i j => RgOk i j ∧ Q (.tup (rngD i (j - i).toNat)) ρ2
theorem snd_tupRg2 {ta tb : TE} {da db : DE} (ha : SndE K ta da) (hb : SndE K tb db) : SndE K (tTupRg (tRg2 ta tb)) (dTupRg2 da db) := fun F σ H Hb ρ Q Qd hK r hd q => by
  subst hK
  refine ha F σ H Hb ρ _ _ rfl r hd fun v d H1 Hb1 ρ1 r1 b1 p1 q1 => ?_
  refine hb F σ H1 Hb1 ρ1 _ _ rfl r1 q1 fun w e H2 Hb2 ρ2 r2 b2 p2 q2 => ?_
  obtain ⟨i, j, rfl, rfl, ok, hq⟩ := int2_ok q2
  cases p1
  cases p2
  refine ⟨i, j, rfl, rfl, ok, fun p n => ?_⟩
  have g := Gr.new (o := .tup (rgV i j)) r2.sub n
  exact q _ _ _ _ ρ2 (r2.grow g) ((b1.trans b2).trans g.b) (.tup upd_same (rg_rep i j)) hq
end PL
namespace PL
open PySem PySem.Spec PyProof.Rows L2 TB
/-! ### match e: case "a": .. case name: .. (e a text) -/
/-- the cases from one on, by the value looked at -/
structure PCs (X : Cx) (cs : List MatchCase) (t : V → TS) : Prop where
  run : ∀ (pins : List (Addr × Obj)) (s : Shared) (σ : L2.St) (H : Hp) (D : Ends) (v : V) (u : Value) (fst : Bool), Inv X pins σ H s → RelV v u → t v D σ H → wpAny (model X.prog X.w) X.A (matchCases cs X.env u fst) (SP X pins D) X.xe s
def tcNil : V → TS := fun _ D σ H => D.nx σ H
def tcVal (z : Str) (tb : TS) (tr : V → TS) : V → TS := fun v D σ H => ∃ y, v = .str y ∧ ((y = z ∧ tb D σ H) ∨ (y ≠ z ∧ tr v D σ H))
def tcCap (i : Nat) (tb : TS) : V → TS := fun v D σ H => tb D (σ.set i (some v)) H
def tMatch (te : TE) (tc : V → TS) : TS := fun D σ H => te σ H fun v H1 => tc v D σ H1
section
variable {X : Cx}
theorem pcs_nil : PCs X [] tcNil := ⟨fun pins s σ H D v u fst I r h => wpAny_matchCases_nil (by exact ⟨σ, H, I, h⟩)⟩
theorem pcs_val {z : Str} {k : Nat} {p p2 : Pos} {body : List Stmt} {rest : List MatchCase} {tb : TS} {tr : V → TS} (hb : PSs X body tb) (hr : PCs X rest tr) :
    PCs X (⟨.MatchValue (.Constant (.str z) k p) p2, none, body⟩ :: rest) (tcVal z tb tr) := by
  refine ⟨fun pins s σ H D v u fst I r h => ?_⟩
  obtain ⟨y, rfl, h⟩ := h
  have rv : RelV (.str y) u := r
  refine wpAny_matchCases_cons (wpAny_matchPattern_Value (thn ((pe_str (X := X)).run pins s σ H (fun x H1 => x = .str z ∧ H1 = H) I ⟨rfl, rfl⟩) fun w s1 ⟨x, H1, I1, r1, ex, eh⟩ => ?_))
  subst ex eh
  refine thn (op_eq (X := X) pins s1 σ H1 (.str y) (.str z) u w (fun x H2 => x = .bl (decide (V.str y = V.str z)) ∧ H2 = H1) I1 rv r1 ⟨rfl, rfl, rfl⟩) fun c s2 ⟨x, H2, I2, r2, ec, eh⟩ => ?_
  subst ec eh
  cases (show c = .bool (decide (V.str y = V.str z)) from r2)
  refine wpAny_truthy_bool ?_
  rcases h with ⟨e, h⟩ | ⟨e, h⟩
  · rw [if_pos (decide_eq_true (by rw [e]))]
    refine wpAny_assignInOrder_none ?_
    exact hb.run pins s2 σ _ D I2 h
  · rw [if_neg (by rw [decide_eq_false (fun z => e (V.str.inj z))]; exact Bool.false_ne_true)]
    exact hr.run pins s2 σ _ D _ _ false I2 rv h
theorem pcs_cap {i : Nat} {x : Str} {p2 : Pos} {body : List Stmt} {rest : List MatchCase} {tb : TS} (hN : X.N.Nodup) (hi : X.N[i]? = some x) (hx : Loc X.env.scope x) (hb : PSs X body tb) (hf : X.fn x = true ∨ X.env.scope.names.lookup x = some .local := by first | exact .inl rfl | exact .inr rfl | assumption) :
    PCs X (⟨.MatchAs none (some x) p2, none, body⟩ :: rest) (tcCap i tb) := by
  refine ⟨fun pins s σ H D v u fst I r h => ?_⟩
  refine wpAny_matchCases_cons (wpAny_matchPattern_Capture ?_)
  show wpAny _ _ (assignInOrder [bindName X.env x] [u]) _ _ _
  refine wpAny_assignInOrder_more ?_
  unfold bindName
  refine wpAny_bind (wpAny_holding (wpAny_point ?_))
  refine wpAny_bind (store_ok I hN hi hx r (fun s' I' => ?_) hf)
  refine wpAny_point ?_
  refine wpAny_assignInOrder_none ?_
  exact hb.run pins s' _ H D I' h
theorem ps_match {e : Expr} {cs : List MatchCase} {te : TE} {tc : V → TS} {pos : Pos} (he : PE X e te) (hc : PCs X cs tc) : PS X (.Match e cs pos) (tMatch te tc) := by
  refine ⟨fun pins s σ H D I h => ?_⟩
  exact wpAny_Match (thn (he.run pins s σ H _ I h) fun u s1 ⟨v, H1, I1, r1, q1⟩ => hc.run pins s1 σ H1 D v u true I1 r1 q1)
end
/-! ### the same over data -/
section
variable {K : PySem.W.Frag}
def SndC (K : PySem.W.Frag) (tc : V → TS) (dc : D → DS) : Prop := ∀ (F : Fx) σ H Hb ρ v d (D : Ends) (E : DEnds), F.K = K → R F σ H Hb ρ → Rep K Hb v d → dc d E ρ → EndsOk F Hb D E → tc v D σ H
def dcNil : D → DS := fun _ E ρ => E.nx ρ
def dcVal (z : Str) (b : DS) (r : D → DS) : D → DS := fun d E ρ => str1 d fun y => ifD (decide (y = z)) (b E ρ) (r d E ρ)
def dcCap (i : Nat) (b : DS) : D → DS := fun d E ρ => b E (ρ.set i (.val d))
def dMatch (de : DE) (dc : D → DS) : DS := fun E ρ => de ρ fun d ρ1 => dc d E ρ1
theorem snc_nil : SndC K tcNil dcNil := fun F σ H Hb ρ v d D E hK r rp h e => e.nx σ H Hb ρ r (Same.refl _) h
theorem snc_val {z : Str} {tb : TS} {b : DS} {tr : V → TS} {dr : D → DS} (hb : SndS K tb b) (hr : SndC K tr dr) : SndC K (tcVal z tb tr) (dcVal z b dr) := fun F σ H Hb ρ v d D E hK r rp h e => by
  obtain ⟨y, rfl, h⟩ := str1_ok h
  have rp' := rp
  cases rp
  refine ⟨y, rfl, ?_⟩
  by_cases ey : y = z
  · rw [decide_eq_true ey] at h
    exact .inl ⟨ey, hb F σ H Hb ρ D E hK r h e⟩
  · rw [decide_eq_false ey] at h
    exact .inr ⟨ey, hr F σ H Hb ρ _ _ D E hK r rp' h e⟩
theorem snc_cap (i : Nat) {tb : TS} {b : DS} (hb : SndS K tb b) : SndC K (tcCap i tb) (dcCap i b) := fun F σ H Hb ρ v d D E hK r rp h e => by
  subst hK
  exact hb F _ H Hb _ D E rfl (r.setV rp i) h e
theorem sns_match {te : TE} {de : DE} {tc : V → TS} {dc : D → DS} (he : SndE K te de) (hc : SndC K tc dc) : SndS K (tMatch te tc) (dMatch de dc) := fun F σ H Hb ρ D E hK r hd e =>
  he F σ H Hb ρ _ _ hK r hd fun v d H' Hb' ρ' r' b rp q => hc F σ H' Hb' ρ' v d D E hK r' rp q (e.up b)
end
end PL
namespace PL
open PySem PySem.Spec PyProof.Rows L2 TB
/-! ### set(xs), its number alone: xs a list or a tuple of texts, of whole numbers -/
section
variable {κ : Type} [DecidableEq κ]
/-- each one once -/
def nub (xs : List κ) : List κ := xs.foldl (fun a x => if x ∈ a then a else a ++ [x]) []
theorem nub_snoc (xs : List κ) (x : κ) : nub (xs ++ [x]) = if x ∈ nub xs then nub xs else nub xs ++ [x] := by
  unfold nub
  rw [List.foldl_append]
  rfl
theorem nub_mem {xs : List κ} {x : κ} : x ∈ nub xs ↔ x ∈ xs := by
  have key : ∀ (ys a : List κ), x ∈ ys.foldl (fun a x => if x ∈ a then a else a ++ [x]) a ↔ x ∈ a ∨ x ∈ ys := by
    intro ys
    induction ys with
    | nil => intro a; simp
    | cons y ys ih =>
      intro a
      rw [List.foldl_cons, ih, List.mem_cons]
      split
      · rename_i h
        constructor
        · rintro (q | q)
          · exact .inl q
          · exact .inr (.inr q)
        · rintro (q | rfl | q)
          · exact .inl q
          · exact .inl h
          · exact .inr q
      · rw [List.mem_append, List.mem_singleton, or_assoc]
  have := key xs []
  simpa [nub] using this
theorem nub_le (xs : List κ) : (nub xs).length ≤ xs.length := by
  have key : ∀ (ys a : List κ), (ys.foldl (fun a x => if x ∈ a then a else a ++ [x]) a).length ≤ a.length + ys.length := by
    intro ys
    induction ys with
    | nil => intro a; exact Nat.le_refl _
    | cons y ys ih =>
      intro a
      rw [List.foldl_cons]
      refine Nat.le_trans (ih _) ?_
      rw [List.length_cons]
      split
      · omega
      · rw [List.length_append, List.length_singleton]; omega
  have := key xs []
  simpa [nub] using this
theorem nub_nodup (xs : List κ) : (nub xs).Nodup := by
  have key : ∀ (ys a : List κ), a.Nodup → (ys.foldl (fun a x => if x ∈ a then a else a ++ [x]) a).Nodup := by
    intro ys
    induction ys with
    | nil => intro a h; exact h
    | cons y ys ih =>
      intro a h
      rw [List.foldl_cons]
      refine ih _ ?_
      split
      · exact h
      · rename_i hn
        rw [List.nodup_append]
        exact ⟨h, by simp, fun b hb c hc e => hn (by rw [← List.mem_singleton.mp hc, ← e]; exact hb)⟩
  exact key xs [] List.nodup_nil
theorem nub_of {xs : List κ} (h : xs.Nodup) : nub xs = xs := by
  have key : ∀ (ys a : List κ), (a ++ ys).Nodup → ys.foldl (fun a x => if x ∈ a then a else a ++ [x]) a = a ++ ys := by
    intro ys
    induction ys with
    | nil => intro a _; simp
    | cons y ys ih =>
      intro a h
      rw [List.foldl_cons]
      have hn : y ∉ a := fun hy => by
        rw [List.nodup_append] at h
        exact h.2.2 y hy y List.mem_cons_self rfl
      rw [if_neg hn, ih (a ++ [y]) (by rw [List.append_assoc]; exact h), List.append_assoc]
      rfl
  have := key xs [] (by simpa using h)
  simpa [nub] using this
end
/-- what is walked, and is no set, no dict -/
structure Src (prog : Program) (w : World) (T : String) (r d : Addr) (n : Nat) (P : Nat → Value → Prop) (OK : Heap → Prop) : Prop where
  set0 : isSubtype (.type T) (.type "set") = pure false
  frz0 : isSubtype (.type T) (.type "frozenset") = pure false
  dct0 : (Value.type T == Value.type "dict") = false
  typ : ∀ s : Shared, OK s.heap → s.TypeIs (.ref r) T
  low : ∀ h : Heap, OK h → d < h.objs.size
  push : ∀ (h : Heap) (o : Obj), OK h → OK (h.push o)
  itr : ∀ s : Shared, OK s.heap → ∃ (oI : Obj) (St : Nat → Heap → Prop), (∀ (A : Around) (E : Value → Shared → Prop) (Q : Value → Shared → Prop), Q (.ref s.heap.objs.size) { s with heap := s.heap.push oI } → wpAny (model prog w) A (pyIter (.ref r)) Q E s) ∧
    (∀ A : Around, A.handled = none → Walks prog w A s.heap.objs.size [s.heap.objs.size, d] [s.heap.objs.size] n P St) ∧ St 0 (s.heap.push oI)
section
variable {prog : Program} {w : World} {A : Around}
theorem src_list {l : Addr} {its : Array Value} : Src prog w "list" l l its.size (fun i v => its[i]? = some v) (fun h => h.IsList l its) where
  set0 := PySem.F.sub_list_set
  frz0 := PySem.F.sub_list_frozenset
  dct0 := by decide
  typ := fun s h => h.typeIs
  low := fun h ⟨_, e, _⟩ => Heap.lt_size e
  push := fun h o x => x.push o
  itr := fun s x => ⟨_, _, fun A E Q q => wpAny_pyIter_list x q, fun A hh => Walks.list hh _ l (Nat.ne_of_lt (let ⟨_, e, _⟩ := x; Heap.lt_size e)) its, ⟨⟨_, Heap.get?_push_size _ rfl, rfl, rfl⟩, x.push _⟩⟩
theorem src_tup {l : Addr} {its : Array Value} : Src prog w "tuple" l l its.size (fun i v => its[i]? = some v) (fun h => h.IsTuple l its) where
  set0 := PySem.F.sub_tuple_set
  frz0 := PySem.F.sub_tuple_frozenset
  dct0 := by decide
  typ := fun s h => h.typeIs
  low := fun h ⟨_, e, _⟩ => Heap.lt_size e
  push := fun h o x => x.push o
  itr := fun s x => ⟨_, _, fun A E Q q => wpAny_pyIter_tuple x q, fun A hh => Walks.tuple hh _ l (Nat.ne_of_lt (let ⟨_, e, _⟩ := x; Heap.lt_size e)) its, ⟨⟨_, Heap.get?_push_size _ rfl, rfl, rfl⟩, x.push _⟩⟩
end
section
variable {prog : Program} {w : World} {A : Around} {κ : Type} [DecidableEq κ] {knd : KeyKind prog w κ}
def SetL (knd : KeyKind prog w κ) (h : Heap) (a : Addr) (l : List κ) : Prop := h.SetOf knd a (fun k => decide (k ∈ nub l)) (nub l).length
theorem SetL.keep {h h' : Heap} {a : Addr} {l : List κ} (x : SetL knd h a l) (k : ∀ o, h.get? a = some o → h'.get? a = some o) : SetL knd h' a l := by
  obtain ⟨o, es, ep, t, ho, q⟩ := x
  exact ⟨o, es, ep, t, k o ho, q⟩
theorem SetL.snoc {h : Heap} {a : Addr} {l : List κ} {k : κ} (x : h.SetOf knd a (fun k' => decide (k' ∈ nub l) || decide (k' = k)) (if decide (k ∈ nub l) = true then (nub l).length else (nub l).length + 1)) : SetL knd h a (l ++ [k]) := by
  unfold SetL
  rw [nub_snoc]
  by_cases hk : k ∈ nub l
  · rw [if_pos (decide_eq_true hk)] at x
    rw [if_pos hk]
    have e : (fun k' => decide (k' ∈ nub l) || decide (k' = k)) = fun k' => decide (k' ∈ nub l) := by
      funext k'
      by_cases e : k' = k
      · rw [e, decide_eq_true hk]; rfl
      · rw [decide_eq_false e, Bool.or_false]
    rw [e] at x
    exact x
  · rw [if_neg (by rw [decide_eq_false hk]; exact Bool.false_ne_true)] at x
    rw [if_neg hk, List.length_append, List.length_singleton]
    have e : (fun k' => decide (k' ∈ nub l) || decide (k' = k)) = fun k' => decide (k' ∈ nub l ++ [k]) := by
      funext k'
      rw [Bool.eq_iff_iff, Bool.or_eq_true, decide_eq_true_iff, decide_eq_true_iff, decide_eq_true_iff, List.mem_append, List.mem_singleton]
    rw [e] at x
    exact x
/-- the loop that puts them in, one by one -/
theorem set_loop {R : Result → Shared → Prop} {I S : Addr} {fp wr : List Addr} {G : Array GenState → Array GenState → Prop} {P : Nat → Value → Prop} {St : Nat → Shared → Prop} {keys : List κ} (W : WalksS prog w A.in1 I fp wr G keys.length P St) (out : S ∉ fp) (few : keys.length + 1 < scanBound)
    (val : ∀ i v, P i v → ∃ k, keys[i]? = some k ∧ knd.is k v = true ∧ v.scannable = true) : ∀ (m i : Nat) (s : Shared), keys.length - i = m → i ≤ keys.length → St i s → SetL knd s.heap S (keys.take i) →
    (∀ s', Moved (S :: wr) G s s' → SetL knd s'.heap S keys → R (.ok (.ret .none)) s') → codeAny (model prog w) A (.builtin "set.update.loop" ⟨[.ref S, .ref I], []⟩) R s := by
  have nw : S ∉ wr := fun h => out (W.sub _ h)
  intro m
  induction m with
  | zero =>
    intro i s hm hi st hs fin
    obtain rfl : i = keys.length := by omega
    refine codeAny_builtin PyProof.Rows.F.entry_set_update_loop ?_
    rw [Around.under_plainId PyProof.Rows.F.plain_set_update_loop _]
    show wpAny _ A.in1 (pyNext (.ref I) >>= _) _ _ s
    refine wpAny_bind (W.done s _ _ st fun s1 mv => wpAny_pure (fin s1 (mv.mono fun b hb => List.mem_cons_of_mem _ hb) ?_))
    rw [List.take_length] at hs
    exact hs.keep fun o e => mv.heap S _ nw e
  | succ m ih =>
    intro i s hm hi st hs fin
    have lt : i < keys.length := by omega
    refine codeAny_builtin PyProof.Rows.F.entry_set_update_loop ?_
    rw [Around.under_plainId PyProof.Rows.F.plain_set_update_loop _]
    show wpAny _ A.in1 (pyNext (.ref I) >>= _) _ _ s
    refine wpAny_bind (W.item i s _ _ lt st fun v s1 pv st1 mv => ?_)
    obtain ⟨k, ek, is, sc⟩ := val i v pv
    have hs1 := hs.keep fun o e => mv.heap S _ nw e
    show wpAny _ A.in1 (holding [v] (setAdd S v) >>= _) _ _ s1
    refine wpAny_bind (wpAny_holding ?_)
    unfold setAdd
    refine wpAny_holding (wpAny_bind (knd.pyHash (k := k) is ?_))
    have room : (nub (keys.take i)).length + 1 < scanBound := by
      have := nub_le (keys.take i)
      rw [List.length_take] at this
      omega
    refine wpAny_setAddHashed_of (knd := knd) (s := { s1 with toks := s1.toks + 1 }) is sc hs1 room fun h2 same hs2 => ?_
    have hs3 : SetL knd h2 S (keys.take (i + 1)) := by
      have et : keys.take (i + 1) = keys.take i ++ [k] := by rw [List.take_succ, ek]; rfl
      rw [et]
      exact SetL.snoc hs2
    refine wpAny_pure ⟨plainId_quiet PyProof.Rows.F.plain_set_update_loop _, ih (i + 1) _ (by omega) lt (W.frame _ s1 _ _ st1 (Nat.le_succ _) fun b hb o e => ?_) hs3 fun s2 mv2 q => fin s2 ?_ q⟩
    · rw [same.2 b (fun z : b = S => out (by rw [← z]; exact hb))]
      exact e
    · refine Moved.trans W.gtrans ((mv.mono fun b hb => List.mem_cons_of_mem _ hb).then_heap (Nat.le_succ _) fun b o hb e => ?_) mv2
      rw [same.2 b (fun z : b = S => hb (by rw [z]; exact List.mem_cons_self))]
      exact e
/-- a call of a type whose __init__ is checked by the caller -/
theorem type_call {E : Value → Shared → Prop} {Q N : Value → Shared → Prop} {s : Shared} {T nw ini : String} {Bi : Builtin} {xs : List Value} (tc : TypeCalled T nw ini) (chk : checkTypeCall T ⟨xs, []⟩ = pure ()) (en : entryFor table ini = some Bi)
    (made : codeAny (model prog w) A.in1 (.call (.builtin nw) ⟨.type T :: xs, []⟩) (wants N E) s)
    (go : ∀ o s1, N o s1 → codeAny (model prog w) A.in1 (.call (.builtin ini) ⟨o :: xs, []⟩) (wants (fun r s2 => r = .none ∧ Q o s2) E) s1 ∧ s1.TypeIs o T) :
    wpAny (model prog w) A (call (.type T) xs) Q E s := by
  obtain ⟨c, tl, m0⟩ := tc.mro
  have m1 := tc.made; have m2 := tc.sub; have m3 := tc.notType; have m4 := tc.canCreate
  refine wpAny_call (codeAny_of_tree (show wpAny (model prog w) _ (callAny (.type T) _) _ _ s from wpAny_pure ⟨Code.quiet_builtin _ (by decide +kernel), codeAny_builtin PySem.F.entry_type_call ?_⟩))
  rw [Around.under_plain (weight_type_call_type T xs []) (by rfl)]
  repeat any_goals (first | wp_step | assumption)
  refine codeAny_mono made fun r s1 hr => ?_
  rcases r with e | f
  · exact hr
  · cases f with
    | ret o =>
      obtain ⟨g1, g2⟩ := go _ _ hr
      have m5 := tc.init.lookup; have m6 := tc.init.bind o
      repeat any_goals (first | wp_step | assumption)
      refine codeAny_mono g1 fun r2 s2 h2 => ?_
      rcases r2 with e | f2
      · exact h2
      · cases f2 with
        | ret u =>
          obtain ⟨rfl, q⟩ := h2
          repeat any_goals (first | wp_step | assumption)
        | _ => exact h2.elim
    | _ => exact hr.elim
theorem set_call {E : Value → Shared → Prop} {Q : Value → Shared → Prop} {s : Shared} {T : String} {r d : Addr} {P : Nat → Value → Prop} {OK : Heap → Prop} {keys : List κ} (C : Src prog w T r d keys.length P OK) (hh : A.handled = none) (ok : OK s.heap) (few : keys.length + 1 < scanBound)
    (val : ∀ i v, P i v → ∃ k, keys[i]? = some k ∧ knd.is k v = true ∧ v.scannable = true)
    (h : ∀ h' tk, SetL knd h' s.heap.objs.size keys → (∀ b o, s.heap.get? b = some o → h'.get? b = some o) → Q (.ref s.heap.objs.size) { s with heap := h', toks := tk }) :
    wpAny (model prog w) A (call (.type "set") [.ref r]) Q E s := by
  refine type_call (N := fun obj s1 => ∃ led : Bool, obj = .ref s.heap.objs.size ∧ s1 = { s with heap := s.heap.push { cls := .type "set", dict := none, data := .set #[] 0 (.fresh 0 0 led) } }) PySem.F.called_set (PySem.F.typeCall_set_1 _) PySem.F.entry_set_init
    (code_set_new_1 _ fun led => ⟨led, rfl, rfl⟩) fun obj s1 h1 => ?_
  obtain ⟨led, rfl, rfl⟩ := h1
  have at0 : (s.heap.push { cls := .type "set", dict := none, data := .set #[] 0 (.fresh 0 0 led) }).get? s.heap.objs.size = some { cls := .type "set", dict := none, data := .set #[] 0 (.fresh 0 0 led) } := Heap.get?_push_size _ rfl
  have ok1 := C.push s.heap { cls := .type "set", dict := none, data := .set #[] 0 (.fresh 0 0 led) } ok
  have ty1 := C.typ { s with heap := s.heap.push { cls := .type "set", dict := none, data := .set #[] 0 (.fresh 0 0 led) } } ok1
  have n1 := C.set0
  have n2 := C.frz0
  have n3 := C.dct0
  have tS : Shared.TypeIs { s with heap := s.heap.push { cls := .type "set", dict := none, data := .set #[] 0 (.fresh 0 0 led) } } (.ref s.heap.objs.size) "set" := ⟨_, at0, rfl⟩
  refine ⟨codeAny_call_builtin PySem.F.called_set.init.plain PySem.F.entry_set_init (PySem.check_set_init_1 tS ?_), tS⟩
  unfold Builtin.«set.__init__» noKeywords Builtin.Frozenset.updateFrom
  generalize hPI : pyIter = PI
  wp_walk
  subst hPI
  obtain ⟨oI, St, hit, wk, st⟩ := C.itr { s with heap := s.heap.push { cls := .type "set", dict := none, data := .set #[] 0 (.fresh 0 0 led) } } ok1
  refine hit _ _ _ (wpAny_bind (wpAny_runValue ?_))
  have big : s.heap.objs.size ∉ [(s.heap.push { cls := .type "set", dict := none, data := .set #[] 0 (.fresh 0 0 led) }).objs.size, d] := by
    intro z
    rcases List.mem_cons.mp z with z | z
    · rw [Heap.size_push] at z
      exact absurd z (Nat.ne_of_lt (Nat.lt_succ_self _))
    · have lo := C.low _ ok
      rw [← List.mem_singleton.mp z] at lo
      exact Nat.lt_irrefl _ lo
  have at1 : ((s.heap.push { cls := .type "set", dict := none, data := .set #[] 0 (.fresh 0 0 led) }).push oI).get? s.heap.objs.size = some { cls := .type "set", dict := none, data := .set #[] 0 (.fresh 0 0 led) } := Heap.get?_push_of_some _ at0
  have emp : SetL knd ((s.heap.push { cls := .type "set", dict := none, data := .set #[] 0 (.fresh 0 0 led) }).push oI) s.heap.objs.size (keys.take 0) :=
    PyProof.Rows.SetOf_congr ((PyProof.Rows.setObjOf_fresh (knd := knd) led).setOf at1 (by unfold scanBound; omega)) (fun _ => rfl) rfl
  refine set_loop ((wk _ (by simp [hh])).toS) big few val keys.length 0 _ (Nat.sub_zero _) (Nat.zero_le _) st emp fun s2 mv q => ?_
  rw [Moved.eq_with mv]
  refine wpAny_pure (wpAny_pure ⟨rfl, h _ _ q fun b o e => ?_⟩)
  have lt := Heap.lt_size e
  refine mv.heap b o (fun z => ?_) (Heap.get?_push_of_some _ (Heap.get?_push_of_some _ e))
  rcases List.mem_cons.mp z with z | z
  · rw [z] at lt
    exact Nat.lt_irrefl _ lt
  · have z : b = (s.heap.push { cls := .type "set", dict := none, data := .set #[] 0 (.fresh 0 0 led) }).objs.size := List.mem_singleton.mp z
    rw [z, Heap.size_push] at lt
    exact absurd lt (Nat.not_lt_of_lt (Nat.lt_succ_self _))
end
/-! ### len(set(xs)), xs a list or a tuple of texts -/
def tLenSetX (K : PySem.W.Frag) (ta : TE) : TE := fun σ H Q => ta σ H fun x H1 => ∃ (l : Addr) (xs : List Str), x = .ref l ∧ (SqL K H1 l (xs.map V.str) ∨ SqT K H1 l (xs.map V.str)) ∧ xs.length ≤ 4000 ∧ Q (.int (nub xs).length) H1
theorem strs_get : ∀ {xs : List Str} {us : List Value}, Vals (xs.map V.str) us → ∀ (i : Nat) (v : Value), us[i]? = some v → ∃ (k : Str) (t : Tok), xs[i]? = some k ∧ v = .str k t
  | [], _, .nil, i, v, h => by simp at h
  | x :: xs, _, .cons r t, 0, v, h => by
    obtain ⟨u, rfl⟩ := r
    cases h
    exact ⟨x, u, rfl, rfl⟩
  | x :: xs, _, .cons r t, i + 1, v, h => strs_get t i v h
section
variable {X : Cx}
theorem pe_lenSetX {a : Expr} {ta : TE} {p p2 q pos : Pos} (hc : X.calm = true) (hg : Gl X "len") (hm : X.mg "len" = none) (hg2 : Gl X "set") (hm2 : X.mg "set" = none) (ha : PE X a ta)
    (na : starEach [a] X.env = (false, eval a X.env) :: starEach [] X.env := by rfl) : PE X (.Call (.Name "len" p) [.Call (.Name "set" p2) [a] [] q] [] pos) (tLenSetX X.K ta) := by
  refine ⟨fun pins s σ H Q I h => ?_⟩
  refine Call_ (ld_blt I hg hm boot_len (PyProof.Rows.callWith_builtin1 (PyProof.Rows.args_cons ?_ rfl) rfl rfl))
  refine Call_ (ld_blt I hg2 hm2 PyProof.Rows.boot_set (PyProof.Rows.callWith_type1 (PyProof.Rows.args_cons (thn (ha.run pins s σ H _ I h) fun v s1 ⟨x, H1, I1, r1, l, xs, ex, hq, hz, q1⟩ => PyProof.Rows.args_nil ?_) na) na rfl))
  subst ex
  cases r1
  have fin : ∀ (its : List Value), Vals (xs.map V.str) its → ∀ (h' : Heap) (tk : Nat), SetL (PySem.strKind X.prog X.w) h' s1.heap.objs.size xs → (∀ b o, s1.heap.get? b = some o → h'.get? b = some o) →
      wpAny (model X.prog X.w) X.A (spliced (backTo pos (starEach [] X.env))) (fun vs s₂ => wpAny (model X.prog X.w) X.A (call (.builtin "len") (Value.ref s1.heap.objs.size :: vs)) (EP X pins σ Q) X.xe s₂) X.xe { s1 with heap := h', toks := tk } := fun its r h' tk hS k => by
    refine PyProof.Rows.args_nil ?_
    obtain ⟨o, es, ep, t, ho, hex, hd, _, _, _, hf, hn⟩ := hS
    have few := nub_le xs
    exact call_len_set ho hex hd hf (by rw [hn]; omega) ⟨.int (nub xs).length, H1, (I1.kept (t' := tk) k).tok _, ⟨_, by rw [hn]⟩, q1⟩
  have sb : xs.length + 1 < scanBound := by unfold scanBound; omega
  rcases hq with hq | hq
  · obtain ⟨its, r, pl, _⟩ := I1.list hq
    have el : its.toArray.size = xs.length := by rw [List.size_toArray, ← r.length, List.length_map]
    have src := src_list (prog := X.prog) (w := X.w) (l := l) (its := its.toArray)
    rw [el] at src
    refine set_call (knd := PySem.strKind X.prog X.w) src (I1.ok.hd hc) pl.isList sb (fun i v e => ?_) fun h' tk hS k => fin its r h' tk hS k
    obtain ⟨y, t, e1, rfl⟩ := strs_get r i v (by simpa using e)
    exact ⟨y, e1, PySem.strKind_is _ _ _ _, rfl⟩
  · obtain ⟨its, r, pl, _⟩ := I1.tuple hq
    have el : its.toArray.size = xs.length := by rw [List.size_toArray, ← r.length, List.length_map]
    have src := src_tup (prog := X.prog) (w := X.w) (l := l) (its := its.toArray)
    rw [el] at src
    refine set_call (knd := PySem.strKind X.prog X.w) src (I1.ok.hd hc) (show s1.heap.IsTuple l its.toArray from pl) sb (fun i v e => ?_) fun h' tk hS k => fin its r h' tk hS k
    obtain ⟨y, t, e1, rfl⟩ := strs_get r i v (by simpa using e)
    exact ⟨y, e1, PySem.strKind_is _ _ _ _, rfl⟩
end
end PL
namespace PL
open PySem PySem.Spec PyProof.Rows L2 TB
variable {K : PySem.W.Frag}
/-! ### len(set(xs)) over data -/
def strL : List D → Option (List Str)
  | [] => some []
  | .str x :: r => (strL r).map (x :: ·)
  | _ => none
theorem strL_rep {Hb : Hp} : ∀ {ds : List D} {vs : List V} {xs : List Str}, RepAll K Hb vs ds → strL ds = some xs → vs = xs.map V.str
  | [], _, _, h, e => by cases h; cases e; rfl
  | .str x :: r, _, xs, h, e => by
    cases h with
    | cons h1 h2 =>
      cases h1
      have e : (strL r).map (x :: ·) = some xs := e
      cases e1 : strL r with
      | none => rw [e1] at e; cases e
      | some ys =>
        rw [e1] at e
        cases e
        rw [strL_rep h2 e1]
        rfl
  | .non :: _, _, _, _, e => by cases e
  | .bl _ :: _, _, _, _, e => by cases e
  | .int _ :: _, _, _, _, e => by cases e
  | .opq _ :: _, _, _, _, e => by cases e
  | .tup _ :: _, _, _, _, e => by cases e
  | .ktup _ :: _, _, _, _, e => by cases e
  | .lst _ :: _, _, _, _, e => by cases e
  | .arr _ :: _, _, _, _, e => by cases e
  | .dct _ :: _, _, _, _, e => by cases e
  | .dcu _ :: _, _, _, _, e => by cases e
theorem strL_map {α : Type} (f : α → Str) : ∀ xs : List α, strL (xs.map fun x => D.str (f x)) = some (xs.map f)
  | [] => rfl
  | x :: r => by
    show (strL (r.map fun x => D.str (f x))).map (f x :: ·) = _
    rw [strL_map f r]
    rfl
def dLenSet (a : Opd) : DE := fun ρ Q => a.run ρ fun p ρ1 => p.res ρ1 fun d => optD (items d) fun ds => optD (strL ds) fun xs => xs.length ≤ 4000 ∧ Q (.int (nub xs).length) ρ1
theorem snd_lenSet {t : TE} {a : Opd} (ha : SndO K t a) : SndE K (tLenSetX K t) (dLenSet a) := fun F σ H Hb ρ Q Qd hK r h q => by
  subst hK
  refine SndO.use (t := t) rfl r ha h fun v p H1 Hb1 ρ1 r1 b1 o1 h1 => ?_
  obtain ⟨d, vd, h2⟩ := OpAt.res r1 o1 h1
  obtain ⟨ds, e1, h3⟩ := optD_ok h2
  obtain ⟨xs, e2, hz, h4⟩ := optD_ok h3
  obtain ⟨l, vs, rfl, hs, ra⟩ := vd.items r1.sub e1
  obtain rfl := strL_rep ra e2
  exact ⟨l, xs, rfl, hs, hz, q _ _ H1 Hb1 ρ1 r1 b1 (.int _) h4⟩
/-! ### one sign in a text -/
def fSign (neg : Bool) (d e : D) (k : D → Prop) : Prop := str1 d fun x => str1 e fun z => ∃ c, x = ⟨#[c]⟩ ∧ k (.bl (if neg then !decide (c ∈ z.cps.toList) else decide (c ∈ z.cps.toList)))
theorem s_inSign : OpS K (fun x y H Q => ∃ (c : Nat) (z : Str), x = .str ⟨#[c]⟩ ∧ y = .str z ∧ Q (.bl (decide (c ∈ z.cps.toList))) H) (fSign false) := fun H Hb v w d e Q Qd s hv hw h q => by
  obtain ⟨x, ed, h2⟩ := str1_ok h
  obtain ⟨z, ee, c, ex, h3⟩ := str1_ok h2
  subst ed ee ex
  exact ⟨c, z, hv.str, hw.str, q _ _ H Hb (Gr.refl s) (.bl _) h3⟩
theorem s_notInSign : OpS K (fun x y H Q => ∃ (c : Nat) (z : Str), x = .str ⟨#[c]⟩ ∧ y = .str z ∧ Q (.bl (!decide (c ∈ z.cps.toList))) H) (fSign true) := fun H Hb v w d e Q Qd s hv hw h q => by
  obtain ⟨x, ed, h2⟩ := str1_ok h
  obtain ⟨z, ee, c, ex, h3⟩ := str1_ok h2
  subst ed ee ex
  exact ⟨c, z, hv.str, hw.str, q _ _ H Hb (Gr.refl s) (.bl _) h3⟩
/-! ### for c in text -/
def dIStr (de : DE) : DI := fun ρ Q => de ρ fun d ρ1 => str1 d fun x => Q (x.cps.toList.map fun c => .str ⟨#[c]⟩) ρ1
theorem sni_str {t : TE} {de : DE} (h : SndE K t de) : SndI K (iStr t) (dIStr de) := fun F σ H Hb ρ Rk Qd hK r hd q =>
  h F σ H Hb ρ _ _ hK r hd fun v d H' Hb' ρ' r' b rp hq => by
    obtain ⟨x, rfl, hq⟩ := str1_ok hq
    cases rp
    refine ⟨x, rfl, q _ _ H' Hb' ρ' r' b ⟨fun i d H1 Hb1 s1 s2 _ e => ?_, fun i H1 Hb1 s1 s2 _ e => ?_⟩ hq⟩
    · rw [List.getElem?_map, Array.getElem?_toList] at e
      cases ec : x.cps[i]? with
      | none => rw [ec] at e; cases e
      | some c =>
        rw [ec] at e
        cases e
        have lt : i < x.cps.size := by
          rcases Nat.lt_or_ge i x.cps.size with z | z
          · exact z
          · rw [Array.getElem?_eq_none z] at ec; cases ec
        refine ⟨lt, fun y H2 ⟨e2, c', e3, e4⟩ => ?_⟩
        rw [ec] at e3
        cases e3
        subst e2 e4
        exact ⟨Hb1, Gr.refl s2, .str _⟩
    · rw [List.length_map, Array.length_toList] at e
      exact e
/-! ### tuple(reversed(xs)) -/
def dTupRev (a : Opd) : DE := fun ρ Q => a.run ρ fun p ρ1 => p.res ρ1 fun d => lst1 d fun xs => Q (.tup xs.reverse) ρ1
theorem snd_tupRev {t : TE} {a : Opd} (ha : SndO K t a) : SndE K (RT.tTupRev K t) (dTupRev a) := fun F σ H Hb ρ Q Qd hK r h q => by
  subst hK
  refine SndO.use (t := t) rfl r ha h fun v p H1 Hb1 ρ1 r1 b1 o1 h1 => ?_
  obtain ⟨d, vd, h2⟩ := OpAt.res r1 o1 h1
  obtain ⟨xs, rfl, h2⟩ := lst1_ok h2
  obtain ⟨a, us, rfl, e, ra⟩ := vd.lst' r1.sub
  refine ⟨a, us, rfl, SqL.of e, fun p n => ?_⟩
  have g := Gr.new (o := .tup us.reverse) r1.sub n
  exact q _ (.tup xs.reverse) _ _ ρ1 (r1.grow g) (b1.trans g.b) (.tup upd_same (RepAll.mono g.b _ _ ra.reverse)) h2
/-! ### xs.index(i), whole numbers -/
def dIndex (a b : Opd) : DE := fun ρ Q => a.run ρ fun p ρ1 => (p.res ρ1 fun d => ∃ xs, d = .lst xs) ∧ b.run ρ1 fun u ρ2 => p.res ρ2 fun d => u.res ρ2 fun e => lst1 d fun xs => optD (intL xs) fun ns => int1 e fun i => ∃ j, ns[j]? = some i ∧ (∀ m, m < j → ns[m]? ≠ some i) ∧ Q (.int (j : Nat)) ρ2
theorem ints_flat (ns : List Int) : (ns.map V.int).all flatV = true := by
  rw [List.all_eq_true]
  intro x hx
  obtain ⟨n, _, rfl⟩ := List.mem_map.mp hx
  rfl
theorem eqV_int (i j : Int) : eqV (V.int i) (V.int j) = decide (i = j) := by
  show (i == j) = _
  rw [Bool.eq_iff_iff]
  simp
theorem snd_index {ta tb : TE} {a b : Opd} (ha : SndO K ta a) (hb : SndO K tb b) : SndE K (tBM K "list" (rIndex K) ta (tCons tb tNil)) (dIndex a b) := fun F σ H Hb ρ Q Qd hK r h q => by
  subst hK
  show ta σ H fun x H1 => tyV F.K "list" x H1 ∧ (tb σ H1 fun y H2 => rIndex F.K x [y] H2 Q)
  refine SndO.use (t := ta) rfl r ha h fun v p H1 Hb1 ρ1 r1 b1 o1 ⟨h0, h1⟩ => ?_
  obtain ⟨d0, vd0, xs0, rfl⟩ := OpAt.res r1 o1 h0
  obtain ⟨l, us0, rfl, e0, _⟩ := vd0.lst' r1.sub
  refine ⟨.inl ⟨rfl, us0, SqL.of e0⟩, ?_⟩
  refine SndO.use (t := tb) rfl r1 hb h1 fun w p2 H2 Hb2 ρ2 r2 b2 o2 h2 => ?_
  obtain ⟨d, vd, h3⟩ := OpAt.res r2 (o1.mono b2) h2
  obtain ⟨e, ve, h4⟩ := OpAt.res r2 o2 h3
  obtain ⟨xs, rfl, h5⟩ := lst1_ok h4
  obtain ⟨ns, en, h6⟩ := optD_ok h5
  obtain ⟨i, rfl, j, ej, no, h7⟩ := int1_ok h6
  obtain ⟨l2, us, el, e2, ra⟩ := vd.lst' r2.sub
  cases el
  obtain rfl := intL_rep ra en
  cases ve.int
  refine ⟨l, ns.map V.int, .int i, j, .int i, rfl, rfl, SqL.of e2, rfl, ints_flat ns, by rw [List.getElem?_map, ej]; rfl, by rw [eqV_int]; exact decide_eq_true rfl, fun m z hm hz => ?_, q _ _ H2 Hb2 ρ2 r2 (b1.trans b2) (.int _) h7⟩
  rw [List.getElem?_map] at hz
  cases em : ns[m]? with
  | none => rw [em] at hz; cases hz
  | some y =>
    rw [em] at hz
    cases hz
    rw [eqV_int]
    exact decide_eq_false fun z => no m hm (by rw [em, z])
/-! ### [.. for .. for ..] -/
def lcP2 (g : DG) (dt : DT) (di1 : DI) (g1 : DG) (dt1 : DT) (de : DE) (vs vs1 : List Nat) (items : List D) (ρ : Rho) (Q : List D → Rho → Prop) : Prop := ∃ P : Nat → Rho → List D → Prop, P 0 ρ [] ∧
  (∀ (i : Nat) x ρ acc, items[i]? = some x → P i ρ acc → freeC ρ vs ∧ g x (wipeR ρ vs) fun ρ2 => dt ρ2 fun b ρ3 => ifD b
    (di1 ρ3 fun items1 ρ4 => ∃ P1 : Nat → Rho → List D → Prop, P1 0 ρ4 acc ∧
      (∀ (j : Nat) y ρ5 acc1, items1[j]? = some y → P1 j ρ5 acc1 → freeC ρ5 vs1 ∧ g1 y (wipeR ρ5 vs1) fun ρ6 => dt1 ρ6 fun b1 ρ7 => ifD b1 (de ρ7 fun z ρ8 => acc1.length ≤ 1000000 ∧ P1 (j + 1) (backR ρ5 vs1 ρ8) (acc1 ++ [z])) (P1 (j + 1) (backR ρ5 vs1 ρ7) acc1)) ∧
      ∀ ρ5 acc1, P1 items1.length ρ5 acc1 → P (i + 1) (backR ρ vs ρ5) acc1)
    (P (i + 1) (backR ρ vs ρ3) acc)) ∧ ∀ ρ acc, P items.length ρ acc → Q acc ρ
def dLc2 (di : DI) (g : DG) (dt : DT) (di1 : DI) (g1 : DG) (dt1 : DT) (de : DE) (vs vs1 : List Nat) : DN := fun ρ Q => di ρ fun items ρ1 => lcP2 g dt di1 g1 dt1 de vs vs1 items ρ1 fun acc ρ2 => Q (.lst acc) ρ2
theorem fz_in {F : Fx} {σ : L2.St} {H Hb : Hp} {ρ : Rho} {D : Addr} {acc acc' : List V} (r : R (F.at D acc) σ H Hb ρ) : Same (fzH (F.at D acc').fr) H := fun b o e => by
  by_cases hb : b = D
  · subst hb
    have z : (F.at b acc').fr b = some (.lst acc') := upd_same
    unfold fzH at e
    rw [z] at e
    cases e
  · refine fz_same r.fr b o ?_
    have z1 : (F.at D acc').fr b = F.fr b := upd_ne hb
    have z2 : (F.at D acc).fr b = F.fr b := upd_ne hb
    unfold fzH at e ⊢
    rw [z1] at e
    rw [z2]
    exact e
theorem snd_lc2 {wi wi1 : TI} {g g1 : TG} {tt tt1 : TT} {te : TE} {vs vs1 : List Nat} {di di1 : DI} {dg dg1 : DG} {dt dt1 : DT} {de : DE} (hi : SndI K wi di) (hg : SndGI K g dg vs) (ht : SndT K tt dt) (hi1 : SndI K wi1 di1) (hg1 : SndGI K g1 dg1 vs1) (ht1 : SndT K tt1 dt1) (he : SndE K te de) :
    SndN K (tLc2 wi g tt wi1 g1 tt1 te vs vs1) (dLc2 di dg dt di1 dg1 dt1 de vs vs1) := fun F σ H Hb ρ Q Qd hK r hd q => by
  subst hK
  refine hi F σ H Hb ρ _ _ rfl r hd fun J items H1 Hb1 ρ1 r1 b1 ja ⟨P, p0, pt, pd⟩ => ?_
  intro D nD
  have nf : F.fr D = none := by
    cases e : F.fr D with
    | none => rfl
    | some o => rw [r1.fr _ _ e] at nD; cases nD
  have al : F.al D := r1.nw D nD
  -- how a state stands, the list grown to acc
  let Sd : (Rho → List PL.D → Prop) → L2.St → Hp → Prop := fun p σ H => ∃ Hb2 ρ2 accV acc, R (F.at D accV) σ H Hb2 ρ2 ∧ Same Hb1 Hb2 ∧ RepAll F.K Hb2 accV acc ∧ p ρ2 acc
  refine ⟨fun i m H' => m = items.length - i ∧ i ≤ items.length ∧ Sd (P i) σ H', ⟨_, rfl, Nat.zero_le _, Hb1, ρ1, [], [], r1.enter nD, Same.refl _, .nil, p0⟩, ?_⟩
  rintro i m H2 ⟨rfl, hl, Hb2, ρ2, accV, acc, r2, b2, ra, p2⟩
  by_cases h : i < items.length
  · have ex : items[i]? = some items[i] := List.getElem?_eq_getElem h
    obtain ⟨go, yl⟩ := ja.go i _ H2 Hb2 b2 r2.sub (fz_same (r2.frU nf)) ex
    refine .inr ⟨go, fun H' => i + 1 ≤ items.length ∧ Sd (P (i + 1)) σ H', fun H' ⟨h1, h2⟩ => ⟨_, by omega, rfl, h1, h2⟩, fun x H3 y => ?_⟩
    obtain ⟨Hb3, g3, rp⟩ := yl x H3 y
    obtain ⟨fc, st⟩ := pt i _ ρ2 acc ex p2
    have r3 := r2.grow g3
    have b3 := b2.trans g3.b
    have ra3 := RepAll.mono g3.b _ _ ra
    refine hg (F.at D accV) (wipe σ vs) H3 Hb3 (wipeR ρ2 vs) x items[i] _ _ rfl (r3.wiped vs) rp st fun σ4 H4 Hb4 ρ4 w4 r4 b4 q4 => ?_
    rw [wipe_wipe] at w4
    refine ⟨w4, ht (F.at D accV) σ4 H4 Hb4 ρ4 _ _ rfl r4 q4 fun k H5 Hb5 ρ5 r5 b5 q5 => ?_⟩
    have b35 := b4.trans b5
    cases k with
    | false => exact iteF ⟨h, Hb5, _, accV, acc, r3.back b35 fc r5 w4, b3.trans b35, RepAll.mono b35 _ _ ra3, q5⟩
    | true =>
      refine iteT (hi1 (F.at D accV) σ4 H5 Hb5 ρ5 _ _ rfl r5 q5 fun J1 items1 H6 Hb6 ρ6 r6 b6 ja1 ⟨P1, s0, st1, sd⟩ => ?_)
      have b36 := b35.trans b6
      refine ⟨fun j k H' => k = items1.length - j ∧ j ≤ items1.length ∧ ∃ Hb7 ρ7 accW acc1, R (F.at D accW) σ4 H' Hb7 ρ7 ∧ Same Hb6 Hb7 ∧ RepAll F.K Hb7 accW acc1 ∧ P1 j ρ7 acc1, ⟨_, rfl, Nat.zero_le _, Hb6, ρ6, accV, acc, r6, Same.refl _, RepAll.mono b36 _ _ ra3, s0⟩, ?_⟩
      rintro j k H7 ⟨rfl, hl1, Hb7, ρ7, accW, acc1, r7, b7, ra7, p7⟩
      by_cases h1 : j < items1.length
      · have ey : items1[j]? = some items1[j] := List.getElem?_eq_getElem h1
        obtain ⟨go1, yl1⟩ := ja1.go j _ H7 Hb7 b7 r7.sub (fz_in r7) ey
        refine .inr ⟨go1, fun H' => j + 1 ≤ items1.length ∧ ∃ Hb7 ρ7 accW acc1, R (F.at D accW) σ4 H' Hb7 ρ7 ∧ Same Hb6 Hb7 ∧ RepAll F.K Hb7 accW acc1 ∧ P1 (j + 1) ρ7 acc1, fun H' ⟨n1, n2⟩ => ⟨_, by omega, rfl, n1, n2⟩, fun z H8 yz => ?_⟩
        obtain ⟨Hb8, g8, rp8⟩ := yl1 z H8 yz
        obtain ⟨fc1, st2⟩ := st1 j _ ρ7 acc1 ey p7
        have r8 := r7.grow g8
        have b8 := b7.trans g8.b
        have ra8 := RepAll.mono g8.b _ _ ra7
        refine hg1 (F.at D accW) (wipe σ4 vs1) H8 Hb8 (wipeR ρ7 vs1) z items1[j] _ _ rfl (r8.wiped vs1) rp8 st2 fun σ9 H9 Hb9 ρ9 w9 r9 b9 q9 => ?_
        rw [wipe_wipe] at w9
        refine ⟨w9, ht1 (F.at D accW) σ9 H9 Hb9 ρ9 _ _ rfl r9 q9 fun k1 H10 Hb10 ρ10 r10 b10 q10 => ?_⟩
        have b910 := b9.trans b10
        cases k1 with
        | false => exact iteF ⟨h1, Hb10, _, accW, acc1, r8.back b910 fc1 r10 w9, b8.trans b910, RepAll.mono b910 _ _ ra8, q10⟩
        | true =>
          refine iteT (he (F.at D accW) σ9 H10 Hb10 ρ10 _ _ rfl r10 q10 fun u e H11 Hb11 ρ11 r11 b11 rp11 ⟨hz, q11⟩ => ?_)
          obtain ⟨eD, nb⟩ := r11.atD
          have r12 := r8.back (b910.trans b11) fc1 r11 w9
          refine ⟨accW, eD, ?_, h1, Hb11, _, accW ++ [u], acc1 ++ [e], r12.grown, b8.trans (b910.trans b11), (RepAll.mono (b910.trans b11) _ _ ra8).append (.one rp11), q11⟩
          have := ra7.len
          rw [sizeLine_eq]
          omega
      · have ej : j = items1.length := by omega
        subst ej
        refine .inl ⟨ja1.stop _ H7 Hb7 b7 r7.sub (fz_in r7) (Nat.le_refl _), h, Hb7, _, accW, acc1, (r3.grown (acc' := accW)).back (b36.trans b7) fc r7 w4, b3.trans (b36.trans b7), ra7, sd ρ7 acc1 p7⟩
  · have hi' : i = items.length := by omega
    subst hi'
    obtain ⟨r4, s4, n4⟩ := r2.leave nf al
    exact .inl ⟨ja.stop _ H2 Hb2 b2 r2.sub (fz_same (r2.frU nf)) (Nat.le_refl _), q D (.lst acc) (sans H2 D) H2 Hb2 ρ2 r4 (b1.trans b2) n4 s4 ⟨accV, r2.atD.1, ra⟩ (pd ρ2 acc p2)⟩
/-! ### max(xs, default=d), whole numbers -/
def rMaxDf (K : PySem.W.Frag) : List V → List V → Hp → VK → Prop := fun vs zs H Q => ∃ (a : Addr) (ns : List Int) (d : Int), vs = [V.ref a] ∧ zs = [V.int d] ∧ SqL K H a (ns.map V.int) ∧ (ns = [] → Q (.int d) H) ∧ ∀ m, m ∈ ns → (∀ y, y ∈ ns → y ≤ m) → Q (.int m) H
theorem cr_maxDf {X : Cx} (hc : X.calm = true) (hu : X.A.units + 64 < cLine) : CallRK X (.builtin "max") [Str.ofString "default"] (rMaxDf X.K) := by
  intro pins s σ H vs zs us ws Q I r rz h
  obtain ⟨a, ns, d, rfl, rfl, hs, q0, q⟩ := h
  obtain rfl := Vals.ref1 r
  obtain ⟨w1, rfl, t, rfl⟩ : ∃ w1, ws = [w1] ∧ ∃ t, w1 = Value.int d t := by
    cases rz with
    | cons h1 h2 => cases h2; exact ⟨_, rfl, h1⟩
  obtain ⟨its, rv, pl, _⟩ := I.list hs
  refine PySem.W.max_list_default (I.ok.hd hc) pl.isList (by simpa using reads_ints rv) (ints_alike ns) (by rw [ints_depth]; omega) ?_ ?_
  · intro e h' tk k
    have en : ns = [] := List.map_eq_nil_iff.mp e
    exact ⟨.int d, H, I.kept k, ⟨t, rfl⟩, q0 en⟩
  · intro y ys i v h' tk bs e hv hr k
    cases ns with
    | nil => cases e
    | cons x xs =>
      rw [List.map_cons] at e
      obtain ⟨rfl, rfl⟩ := List.cons.inj e
      rw [maxD_int] at hr
      cases hr with
      | int _ t =>
        refine ⟨.int (maxI x xs), H, I.kept k, ⟨t, rfl⟩, q _ (maxI_mem xs x) fun y hy => ?_⟩
        cases hy with
        | head => exact (maxI_ge xs x).1
        | tail _ hy => exact (maxI_ge xs x).2 y hy
def dMaxDf (a b : Opd) : DE := fun ρ Q => a.run ρ fun p ρ1 => b.run ρ1 fun u ρ2 => p.res ρ2 fun d => u.res ρ2 fun e => lst1 d fun xs => optD (intL xs) fun ns => int1 e fun i => (ns = [] → Q (.int i) ρ2) ∧ ∀ m, m ∈ ns → (∀ y, y ∈ ns → y ≤ m) → Q (.int m) ρ2
theorem snd_maxDf {ta tb : TE} {a b : Opd} (ha : SndO K ta a) (hb : SndO K tb b) : SndE K (tCKw (rMaxDf K) (tCons ta tNil) (tCons tb tNil)) (dMaxDf a b) := fun F σ H Hb ρ Q Qd hK r h q => by
  subst hK
  show ta σ H fun x H1 => tb σ H1 fun y H2 => rMaxDf F.K [x] [y] H2 Q
  refine SndO.use (t := ta) rfl r ha h fun v p H1 Hb1 ρ1 r1 b1 o1 h1 => ?_
  refine SndO.use (t := tb) rfl r1 hb h1 fun w p2 H2 Hb2 ρ2 r2 b2 o2 h2 => ?_
  obtain ⟨d, vd, h3⟩ := OpAt.res r2 (o1.mono b2) h2
  obtain ⟨e, ve, h4⟩ := OpAt.res r2 o2 h3
  obtain ⟨xs, rfl, h5⟩ := lst1_ok h4
  obtain ⟨ns, en, h6⟩ := optD_ok h5
  obtain ⟨i, rfl, h7, h8⟩ := int1_ok h6
  obtain ⟨l, us, rfl, e2, ra⟩ := vd.lst' r2.sub
  obtain rfl := intL_rep ra en
  cases ve.int
  exact ⟨l, ns, i, rfl, rfl, SqL.of e2, fun z => q _ _ H2 Hb2 ρ2 r2 (b1.trans b2) (.int _) (h7 z), fun m hm hy => q _ _ H2 Hb2 ρ2 r2 (b1.trans b2) (.int _) (h8 m hm hy)⟩
/-! ### zip of two tuples -/
section
variable {K : PySem.W.Frag}
def zpD : List D → List D → List D
  | x :: xs, y :: ys => .tup [x, y] :: zpD xs ys
  | _, _ => []
theorem zpD_get : ∀ {i : Nat} {xs ys : List D} {z : D}, (zpD xs ys)[i]? = some z → ∃ x y, xs[i]? = some x ∧ ys[i]? = some y ∧ z = .tup [x, y]
  | 0, x :: xs, y :: ys, z, h => by cases h; exact ⟨x, y, rfl, rfl, rfl⟩
  | i + 1, x :: xs, y :: ys, z, h => zpD_get (i := i) (xs := xs) (ys := ys) h
  | i, [], ys, z, h => by cases h
  | i, x :: xs, [], z, h => by cases h
theorem zpD_end : ∀ {i : Nat} {xs ys : List D}, (zpD xs ys).length ≤ i → xs.length ≤ i ∨ ys.length ≤ i
  | i, [], ys, h => .inl (Nat.zero_le _)
  | i, x :: xs, [], h => .inr (Nat.zero_le _)
  | 0, x :: xs, y :: ys, h => absurd h (Nat.not_succ_le_zero _)
  | i + 1, x :: xs, y :: ys, h => by
    rcases zpD_end (Nat.le_of_succ_le_succ h) with h | h
    · exact .inl (Nat.succ_le_succ h)
    · exact .inr (Nat.succ_le_succ h)
def dIZip (da : DA) : DI := fun ρ Q => da ρ fun ds ρ1 => match ds with
  | [.tup xs, .tup ys] => Q (zpD xs ys) ρ1
  | _ => False
theorem sni_zipA {n : Nat} {t : TA} {da : DA} (h : SndA K n t da) : SndI K (RZ.iZipA K t) (dIZip da) := fun F σ H Hb ρ Rk Qd hK r hd q =>
  h F σ H Hb ρ _ _ hK r hd fun vs ds H' Hb' ρ' r' b rp hl hq => by
    cases rp with
    | nil => exact hq.elim
    | cons h1 h2 =>
      cases h1 with
      | tup t1 t2 =>
        cases h2 with
        | nil => exact hq.elim
        | cons h3 h4 =>
          cases h3 with
          | tup u1 u2 =>
            cases h4 with
            | cons _ _ => exact hq.elim
            | nil =>
              rename_i a xs es a2 ys fs
              have t1 := SqT.of (K := K) t1
              have u1 := SqT.of (K := K) u1
              refine ⟨a, a2, xs, ys, rfl, .inr ⟨sT r'.sub t1, sT r'.sub u1, q _ _ H' Hb' ρ' r' b ⟨fun i d H Hb1 s1 s2 _ e => ?_, fun i H Hb1 s1 s2 _ e => ⟨xs, ys, sT (s1.trans s2) t1, sT (s1.trans s2) u1, by rw [t2.len, u2.len]; exact zpD_end e⟩⟩ hq⟩⟩
              obtain ⟨d1, d2, e1, e2, rfl⟩ := zpD_get e
              obtain ⟨v1, f1, g1⟩ := t2.get e1
              obtain ⟨v2, f2, g2⟩ := u2.get e2
              refine ⟨⟨xs, ys, v1, v2, sT (s1.trans s2) t1, sT (s1.trans s2) u1, f1, f2⟩, fun x H' ⟨T, y1, y2, ex, nT, eH, fx, fy⟩ => ?_⟩
              subst ex eH
              have w1 := fx _ (sT (s1.trans s2) t1)
              have w2 := fy _ (sT (s1.trans s2) u1)
              rw [f1] at w1
              rw [f2] at w2
              cases w1
              cases w2
              exact gr_pair s2 nT (Rep.mono s1 _ _ g1) (Rep.mono s1 _ _ g2)
          | _ => cases h4 <;> exact hq.elim
      | _ => cases h2 with
        | nil => exact hq.elim
        | cons h3 h4 => exact hq.elim
end
/-! ### str of a whole number -/
section
variable {K : PySem.W.Frag}
def fStr (ds : List D) (k : D → Prop) : Prop := arg1 ds fun d => int1 d fun i => i.natAbs.log2 < 1920 ∧ k (.str (toString i))
theorem s_str : CallS K (fun xs H Q => ∃ i, xs = [.int i] ∧ i.natAbs.log2 < 1920 ∧ Q (.str (toString i)) H) fStr := fun H Hb vs ds Q Qd s hv h q => by
  obtain ⟨v, d, rfl, rfl, vd, h⟩ := hv.one h
  obtain ⟨i, rfl, hi, h⟩ := int1_ok h
  cases vd.int
  exact ⟨i, rfl, hi, q _ _ H Hb (Gr.refl s) (.str _) h⟩
end
end PL
namespace PL
open PySem PySem.Spec PyProof.Rows L2
/-! ### a text beside another -/
section
variable {K : PySem.W.Frag}
def fLeS (d e : D) (k : D → Prop) : Prop := match d, e with
  | .str x, .str y => k (.bl (!decide (y.cps.toList < x.cps.toList)))
  | _, _ => False
theorem s_leS : OpS K (fun x y H Q => ∃ i j, x = .str i ∧ y = .str j ∧ Q (.bl (!decide (j.cps.toList < i.cps.toList))) H) fLeS := fun H Hb v w d e Q Qd s hv hw h q => by
  cases d with
  | str x => cases e with
    | str y =>
      cases hv.str
      cases hw.str
      exact ⟨x, y, rfl, rfl, q _ _ H Hb (Gr.refl s) (.bl _) h⟩
    | _ => exact h.elim
  | _ => exact h.elim
/-! ### d.get(k, z) -/
def isDct : D → Prop
  | .dct _ => True
  | .dcu _ => True
  | _ => False
theorem isDct_ok {Hb H : Hp} {v : V} {d : D} (s : Same Hb H) (hv : View K Hb H v d) (h : isDct d) : ∃ a, v = .ref a ∧ L2.IsD H a := by
  cases d with
  | dct es =>
    obtain ⟨a, kvs, rfl, h1, _⟩ := hv.dct' s
    exact ⟨a, rfl, .inl ⟨kvs, h1⟩⟩
  | dcu es =>
    obtain ⟨a, kvs, rfl, h1, _⟩ := hv.dcu' s
    exact ⟨a, rfl, .inr ⟨kvs, h1⟩⟩
  | _ => exact h.elim
def dDGet2 (a b : Opd) (c : DE) : DE := fun ρ Q => a.run ρ fun p ρ1 => (p.res ρ1 fun d => isDct d) ∧ b.run ρ1 fun q ρ2 => c ρ2 fun z ρ3 => p.res ρ3 fun d => q.res ρ3 fun k => ∃ r, dgetD d k = some r ∧ Q (r.getD z) ρ3
theorem snd_dget2 {ta tb tc : TE} {a b : Opd} {c : DE} (ha : SndO K ta a) (hb : SndO K tb b) (hc : SndE K tc c) : SndE K (tDGet2 ta tb tc) (dDGet2 a b c) := fun F σ H Hb ρ Q Qd hK rr h q => by
  subst hK
  refine SndO.use (t := ta) rfl rr ha h fun v p H1 Hb1 ρ1 r1 b1 o1 ⟨h0, h1⟩ => ?_
  obtain ⟨d0, vd0, hd0⟩ := OpAt.res r1 o1 h0
  obtain ⟨a0, e0, is0⟩ := isDct_ok r1.sub vd0 hd0
  refine ⟨a0, e0, is0, ?_⟩
  refine SndO.use (t := tb) rfl r1 hb h1 fun w p2 H2 Hb2 ρ2 r2 b2 o2 h2 => ?_
  refine hc F σ H2 Hb2 ρ2 _ _ rfl r2 h2 fun z y H3 Hb3 ρ3 r3 b3 ry h3 => ?_
  obtain ⟨d, vd, h4⟩ := OpAt.res r3 (o1.mono (b2.trans b3)) h3
  obtain ⟨k, vk, h5⟩ := OpAt.res r3 (o2.mono b3) h4
  obtain ⟨r, er, h7⟩ := h5
  obtain ⟨a', o, ea, g, hz⟩ := dgetD_ok r3.sub vd vk er
  rw [e0] at ea
  cases ea
  refine ⟨o, g, ?_⟩
  rcases hz with ⟨u, x, eo, ex, ru⟩ | ⟨eo, ex⟩
  · subst eo ex
    exact q _ _ H3 Hb3 ρ3 r3 (b1.trans (b2.trans b3)) ru h7
  · subst eo ex
    exact q _ _ H3 Hb3 ρ3 r3 (b1.trans (b2.trans b3)) ry h7
/-! ### (x,) * k, k great -/
theorem op_repBig {X : Cx} : OpR X (binaryOp .Mult) (fun x y H Q => ∃ l k z, x = .ref l ∧ y = .int k ∧ SqT X.K H l [z] ∧ 2 ≤ k ∧ k ≤ 10000 ∧ ∀ p, H p = none → Q (.ref p) (upd H p (.tup (List.replicate k.toNat [z]).flatten))) := by
  intro pins s σ H x y v u Q I rx ry h
  obtain ⟨l, k, z, rfl, rfl, hT, h1, h2, q⟩ := h
  cases rx
  obtain ⟨t, rfl⟩ := ry
  obtain ⟨ws, rv, ⟨⟨cl, di, da, so⟩, at0, ec, m, ed⟩, _⟩ := I.tuple hT
  simp only at ec ed
  subst ec ed
  have one : ws.length = 1 := rv.length.symm
  obtain ⟨w, rfl⟩ : ∃ w, ws = [w] := by
    match ws, one with
    | [w], _ => exact ⟨w, rfl⟩
  have few : (List.replicate k.toNat [w]).flatten.length ≤ sizeLine := by
    rw [PyProof.Rows.lm_len_rep_flat, sizeLine_eq]
    show k.toNat * 1 ≤ _
    omega
  have few2 : (List.replicate k.toNat [z]).flatten.length ≤ sizeLine := by
    rw [PyProof.Rows.lm_len_rep_flat, sizeLine_eq]
    show k.toNat * 1 ≤ _
    omega
  have g0 : (decide (k < -(2 ^ 63)) || decide (k ≥ 2 ^ 63)) = false := by
    rw [Bool.or_eq_false_iff]
    exact ⟨decide_eq_false (by omega), decide_eq_false (by omega)⟩
  have g1 : (([w] : List Value).toArray.isEmpty || k == 1) = false := by
    rw [Bool.or_eq_false_iff]
    exact ⟨rfl, beq_eq_false_iff_ne.mpr (by omega)⟩
  have g2 : (decide (k ≤ 0) || ([w] : List Value).toArray.isEmpty) = false := by
    rw [Bool.or_eq_false_iff]
    exact ⟨decide_eq_false (by omega), rfl⟩
  have g4 : Builtin.Tuple.tupleTooMany (((([w] : List Value).toArray.size : Nat) : Int) * k) = false := by
    unfold Builtin.Tuple.tupleTooMany
    rw [sizeLine_eq]
    exact decide_eq_false (by show ¬ _; have : ((([w] : List Value).toArray.size : Nat) : Int) = 1 := rfl; rw [this]; omega)
  have g3 : ¬ (((([w] : List Value).toArray.size : Nat) : Int) * k > (2 ^ 63 - 1) / 8) := by
    have : ((([w] : List Value).toArray.size : Nat) : Int) = 1 := rfl
    rw [this]
    omega
  have mul := tuple_mulW l [w].toArray m di so k t g0 g1 g2 g3 g4 (by rw [size_rep, List.size_toArray]; exact few)
  refine wpAny_binaryOp_repeat_ref (T := "tuple") (U := "int") (by decide) ⟨_, at0, rfl⟩ (fun s' => typeIs_int s' k t) noFill_tuple_mul F.fills_int_mul F.slot_int_rmul repeat_tuple F.slot_int_index.lookup ?_
  refine call_meets F.slot_int_rmul (typeIs_int s k t) F.entry_int_rmul (F.args_int_rmul_2 _ _) (int_rmul_tuple k t l [w].toArray m di so) ⟨at0, rfl, ⟨_, at0, rfl⟩, ?_⟩
  refine call_meets F.slot_tuple_mul ⟨_, at0, rfl⟩ F.entry_tuple_mul (F.args_tuple_mul_2 _ _) mul ⟨at0, ?_⟩
  rw [size_rep]
  exact ⟨.ref s.heap.objs.size, _, I.laid (t' := s.toks) (o := .tup (List.replicate k.toNat [z]).flatten) (fun b ob e => Heap.get?_push_of_some _ e) (Nat.le_refl _) ⟨few2, _, rv.rep k.toNat, IsTup.new _ _⟩, rfl, q _ (I.hok.fresh (Nat.le_refl _))⟩
def fRepB (d e : D) (k : D → Prop) : Prop := match d with
  | .tup [x] => int1 e fun i => (2 ≤ i ∧ i ≤ 10000) ∧ k (.tup (List.replicate i.toNat [x]).flatten)
  | _ => False
theorem s_repB : OpS K (fun x y H Q => ∃ l k z, x = .ref l ∧ y = .int k ∧ SqT K H l [z] ∧ 2 ≤ k ∧ k ≤ 10000 ∧ ∀ p, H p = none → Q (.ref p) (upd H p (.tup (List.replicate k.toNat [z]).flatten))) fRepB := fun H Hb v w d e Q Qd s hv hw h q => by
  cases d with
  | tup ds =>
    cases ds with
    | nil => exact h.elim
    | cons x r =>
      cases r with
      | cons _ _ => exact h.elim
      | nil =>
        obtain ⟨i, rfl, ⟨c1, c2⟩, h⟩ := int1_ok h
        obtain ⟨a, vs, rfl, at1, _, rs⟩ := hv.tupS s
        cases hw.int
        cases rs with
        | cons r1 r2 =>
          cases r2
          rename_i v0 _
          refine ⟨a, i, _, rfl, rfl, SqT.of at1, c1, c2, fun p n => ?_⟩
          have g := Gr.new (o := .tup (List.replicate i.toNat [v0]).flatten) s n
          exact q _ _ _ _ g (.tup upd_same (RepAll.mono g.b _ _ (rep_flat (.cons r1 .nil) _))) h
  | _ => exact h.elim
/-! ### a text * k -/
def mulX (a : Str) (n : Int) : Str := ⟨(List.replicate n.toNat a.cps).foldl (· ++ ·) #[]⟩
theorem fold_size (c : Array Nat) : ∀ (k : Nat) (acc : Array Nat), (List.foldl (· ++ ·) acc (List.replicate k c)).size = acc.size + k * c.size
  | 0, acc => by rw [Nat.zero_mul]; rfl
  | k + 1, acc => by
    rw [List.replicate_succ, List.foldl_cons, fold_size c k, Array.size_append, Nat.succ_mul]
    omega
theorem op_mulS {X : Cx} : OpR X (binaryOp .Mult) (fun x y H Q => ∃ a n, x = .str a ∧ y = .int n ∧ 2 ≤ n ∧ n ≤ 1000 ∧ 1 ≤ a.length ∧ a.length ≤ 1000 ∧ Q (.str (mulX a n)) H) := by
  intro pins s σ H x y v u Q I rx ry h
  obtain ⟨a, n, rfl, rfl, h1, h2, h3, h4, q⟩ := h
  obtain ⟨t, rfl⟩ := rx
  obtain ⟨t', rfl⟩ := ry
  have one : (n == 1 || a.length == 0) = false := by
    rw [Bool.or_eq_false_iff]
    exact ⟨beq_eq_false_iff_ne.mpr (by omega), beq_eq_false_iff_ne.mpr (by omega)⟩
  have less : ¬ n < 1 := by omega
  have big : a.length * n.toNat ≤ 1000000 := Nat.le_trans (Nat.mul_le_mul h4 (show n.toNat ≤ 1000 by omega)) (by decide)
  refine P.mul_str (by rw [Bool.or_eq_false_iff]; exact ⟨decide_eq_false (by omega), decide_eq_false (by omega)⟩) (fun _ _ z => ?_) (fun _ _ => ?_) ?_
  · have : (2 ^ 63 - 1 : Int) / 1000 ≤ (2 ^ 63 - 1) / n := by
      refine (Int.le_ediv_iff_mul_le (by omega)).mpr ?_
      have : (2 ^ 63 - 1 : Int) / 1000 * n ≤ (2 ^ 63 - 1 : Int) / 1000 * 1000 := Int.mul_le_mul_of_nonneg_left h2 (by decide)
      have : (2 ^ 63 - 1 : Int) / 1000 * 1000 ≤ 2 ^ 63 - 1 := by decide
      omega
    have : (1000 : Int) < (2 ^ 63 - 1 : Int) / 1000 := by decide
    omega
  · unfold Builtin.Str.tooLong
    rw [decide_eq_false (by rw [sizeLine_eq]; omega)]
  · rw [if_neg less, if_neg (by rw [one]; decide)]
    refine ⟨?_, .str (mulX a n), H, I.tok _, ⟨_, rfl⟩, q⟩
    show (List.foldl (· ++ ·) #[] (List.replicate n.toNat a.cps)).size ≤ sizeLine
    rw [fold_size, sizeLine_eq]
    have : n.toNat * a.cps.size ≤ 1000000 := by
      rw [Nat.mul_comm]
      exact big
    show 0 + _ ≤ _
    omega
def fMulS (d e : D) (k : D → Prop) : Prop := match d with
  | .str a => int1 e fun i => (2 ≤ i ∧ i ≤ 1000 ∧ 1 ≤ a.length ∧ a.length ≤ 1000) ∧ k (.str (mulX a i))
  | _ => False
theorem s_mulS : OpS K (fun x y H Q => ∃ a n, x = .str a ∧ y = .int n ∧ 2 ≤ n ∧ n ≤ 1000 ∧ 1 ≤ a.length ∧ a.length ≤ 1000 ∧ Q (.str (mulX a n)) H) fMulS := fun H Hb v w d e Q Qd s hv hw h q => by
  cases d with
  | str x =>
    obtain ⟨i, rfl, ⟨c1, c2, c3, c4⟩, h⟩ := int1_ok h
    cases hv.str
    cases hw.int
    exact ⟨x, i, rfl, rfl, c1, c2, c3, c4, q _ _ H Hb (Gr.refl s) (.str _) h⟩
  | _ => exact h.elim
/-! ### a, b, .. = a list -/
def gL (n : Nat) (gs : DGs) : DG := fun d ρ Q => match d with
  | .lst ds => ds.length = n ∧ gs ds ρ Q
  | _ => False
theorem sng_lst {n : Nat} {u : TGs} {gs : DGs} (hs : SndGs K u gs) : SndG K (gLst K n u) (gL n gs) := fun F σ H Hb ρ v d Q Qd hK r rp h q => by
  cases rp with
  | lst h1 h2 =>
    obtain ⟨hl, h⟩ := h
    exact ⟨_, _, rfl, SqL.of (r.sub _ _ h1), h2.len.trans hl, hs F σ H Hb ρ _ _ _ _ hK r h2 h q⟩
  | _ => exact h.elim
end
end PL
namespace PL
open PySem PySem.Spec PyProof.Rows L2 TB
def topS (i : Nat) : Stmt := PySem.Challenge.pw_truebeat_k09_whole_nets_told_from_others.main.body.getD i (.Pass ⟨0, 0, 0, 0⟩)
abbrev s_is_integer : Stmt := topS 1
theorem sc_is_integer : FnScope ["value"] ["value"] (defScope s_is_integer) := ⟨rfl, rfl, rfl, by decide +kernel, rfl, by decide +kernel, by decide +kernel⟩
abbrev s_is_within : Stmt := topS 2
theorem sc_is_within : FnScope ["value", "least", "most"] ["value", "least", "most"] (defScope s_is_within) := ⟨rfl, rfl, rfl, by decide +kernel, rfl, by decide +kernel, by decide +kernel⟩
abbrev s_is_name : Stmt := topS 15
theorem sc_is_name : FnScope ["value", "sign"] ["value"] (defScope s_is_name) := ⟨rfl, rfl, rfl, by decide +kernel, rfl, by decide +kernel, by decide +kernel⟩
abbrev s_is_first : Stmt := topS 16
theorem sc_is_first : FnScope ["value"] ["value"] (defScope s_is_first) := ⟨rfl, rfl, rfl, by decide +kernel, rfl, by decide +kernel, by decide +kernel⟩
abbrev s_is_cell : Stmt := topS 17
theorem sc_is_cell : FnScope ["value", "size", "kind", "index"] ["value", "size"] (defScope s_is_cell) := ⟨rfl, rfl, rfl, by decide +kernel, rfl, by decide +kernel, by decide +kernel⟩
abbrev s_names_of : Stmt := topS 18
theorem sc_names_of : FnScope ["cells", "kind", "cell"] ["cells", "kind"] (defScope s_names_of) := ⟨rfl, rfl, rfl, by decide +kernel, rfl, by decide +kernel, by decide +kernel⟩
abbrev s_is_lot : Stmt := topS 19
theorem sc_is_lot : FnScope ["value", "ports", "kept", "cell"] ["value"] (defScope s_is_lot) := ⟨rfl, rfl, rfl, by decide +kernel, rfl, by decide +kernel, by decide +kernel⟩
abbrev s_is_output : Stmt := topS 20
theorem sc_is_output : FnScope ["value", "size"] ["value", "size"] (defScope s_is_output) := ⟨rfl, rfl, rfl, by decide +kernel, rfl, by decide +kernel, by decide +kernel⟩
abbrev s_are_outputs : Stmt := topS 21
theorem sc_are_outputs : FnScope ["cells", "value", "pair", "name", "index"] ["cells", "value"] (defScope s_are_outputs) := ⟨rfl, rfl, rfl, by decide +kernel, rfl, by decide +kernel, by decide +kernel⟩
abbrev s_is_net : Stmt := topS 22
theorem sc_is_net : FnScope ["value", "at", "cell", "index"] ["value"] (defScope s_is_net) := ⟨rfl, rfl, rfl, by decide +kernel, rfl, by decide +kernel, by decide +kernel⟩
abbrev s_looks_of : Stmt := topS 23
theorem sc_looks_of : FnScope ["cell"] ["cell"] (defScope s_looks_of) := ⟨rfl, rfl, rfl, by decide +kernel, rfl, by decide +kernel, by decide +kernel⟩
abbrev s__law_dice : Stmt := topS 25
theorem sc__law_dice : FnScope ["_law_script", "_law_at", "_law_cell", "_law_great", "_law_left", "_law_mixed"] ["_law_script", "_law_at"] (defScope s__law_dice) := ⟨rfl, rfl, rfl, by decide +kernel, rfl, by decide +kernel, by decide +kernel⟩
abbrev s__law_roll : Stmt := topS 26
theorem sc__law_roll : FnScope ["_law_dice_here", "_law_total", "_law_size", "_law_drawn", "_law_one", "_law_two"] ["_law_dice_here", "_law_total"] (defScope s__law_roll) := ⟨rfl, rfl, rfl, by decide +kernel, rfl, by decide +kernel, by decide +kernel⟩
abbrev s__law_one_of : Stmt := topS 27
theorem sc__law_one_of : FnScope ["_law_dice_here", "_law_items"] ["_law_dice_here", "_law_items"] (defScope s__law_one_of) := ⟨rfl, rfl, rfl, by decide +kernel, rfl, by decide +kernel, by decide +kernel⟩
abbrev s__law_is_index : Stmt := topS 28
theorem sc__law_is_index : FnScope ["_law_value", "_law_size"] ["_law_value", "_law_size"] (defScope s__law_is_index) := ⟨rfl, rfl, rfl, by decide +kernel, rfl, by decide +kernel, by decide +kernel⟩
abbrev s__law_is_name : Stmt := topS 29
theorem sc__law_is_name : FnScope ["_law_value", "_law_sign"] ["_law_value"] (defScope s__law_is_name) := ⟨rfl, rfl, rfl, by decide +kernel, rfl, by decide +kernel, by decide +kernel⟩
abbrev s__law_is_cell : Stmt := topS 30
theorem sc__law_is_cell : FnScope ["_law_value", "_law_size", "_law_many", "_law_is_first", "_law_index"] ["_law_value", "_law_size"] (defScope s__law_is_cell) := ⟨rfl, rfl, rfl, by decide +kernel, rfl, by decide +kernel, by decide +kernel⟩
abbrev s__law_is_lot : Stmt := topS 31
theorem sc__law_is_lot : FnScope ["_law_value", "_law_ports", "_law_kept", "_law_cell"] ["_law_value"] (defScope s__law_is_lot) := ⟨rfl, rfl, rfl, by decide +kernel, rfl, by decide +kernel, by decide +kernel⟩
abbrev s__law_is_net : Stmt := topS 32
theorem sc__law_is_net : FnScope ["_law_value", "_law_pair", "_law_at", "_law_cell", "_law_index"] ["_law_value"] (defScope s__law_is_net) := ⟨rfl, rfl, rfl, by decide +kernel, rfl, by decide +kernel, by decide +kernel⟩
abbrev s__law_net_drawn : Stmt := topS 33
theorem sc__law_net_drawn : FnScope ["_law_dice_here", "_law_size", "_law_found", "_law_at", "_law_one", "_law_other", "_law_third", "_law_keeper", "_law_some", "_law_turn"] ["_law_dice_here", "_law_size"] (defScope s__law_net_drawn) := ⟨rfl, rfl, rfl, by decide +kernel, rfl, by decide +kernel, by decide +kernel⟩
abbrev s__law_bent_cell : Stmt := topS 34
theorem sc__law_bent_cell : FnScope ["_law_dice_here", "_law_cell", "_law_size", "_law_odd", "_law_at", "_law_some", "_law_names", "_law_one", "_law_name"] ["_law_dice_here", "_law_cell", "_law_size"] (defScope s__law_bent_cell) := ⟨rfl, rfl, rfl, by decide +kernel, rfl, by decide +kernel, by decide +kernel⟩
abbrev s__law_bent_outputs : Stmt := topS 35
theorem sc__law_bent_outputs : FnScope ["_law_dice_here", "_law_outputs", "_law_size", "_law_some"] ["_law_dice_here", "_law_outputs", "_law_size"] (defScope s__law_bent_outputs) := ⟨rfl, rfl, rfl, by decide +kernel, rfl, by decide +kernel, by decide +kernel⟩
abbrev s__law_right : Stmt := topS 36
theorem sc__law_right : FnScope ["_law_dice_here", "_law_size", "_law_net", "_law_at", "_law_bent", "_law_some", "_law_value", "_law_lots"] ["_law_dice_here"] (defScope s__law_right) := ⟨rfl, rfl, rfl, by decide +kernel, rfl, by decide +kernel, by decide +kernel⟩
abbrev s__law_great_right : Stmt := topS 37
theorem sc__law_great_right : FnScope ["_law_ports", "_law_kept", "_law_told", "_law_outputs", "_law_at"] [] (defScope s__law_great_right) := ⟨rfl, rfl, rfl, by decide +kernel, rfl, by decide +kernel, by decide +kernel⟩
abbrev s_law : Stmt := topS 38
theorem sc_law : FnScope ["_law_script", "_law_at", "_law_dice_here", "_law_turn"] ["_law_script"] (defScope s_law) := ⟨rfl, rfl, rfl, by decide +kernel, rfl, by decide +kernel, by decide +kernel⟩
structure Txt (K : PySem.W.Frag) (w : World) (mg : Str → Option Value) where
  is_integer : DefAt K mg "is_integer" s_is_integer ["value"]
  is_within : DefAt K mg "is_within" s_is_within ["value", "least", "most"]
  is_name : DefAt K mg "is_name" s_is_name ["value"]
  is_first : DefAt K mg "is_first" s_is_first ["value"]
  is_cell : DefAt K mg "is_cell" s_is_cell ["value", "size"]
  names_of : DefAt K mg "names_of" s_names_of ["cells", "kind"]
  is_lot : DefAt K mg "is_lot" s_is_lot ["value"]
  is_output : DefAt K mg "is_output" s_is_output ["value", "size"]
  are_outputs : DefAt K mg "are_outputs" s_are_outputs ["cells", "value"]
  is_net : DefAt K mg "is_net" s_is_net ["value"]
  looks_of : DefAt K mg "looks_of" s_looks_of ["cell"]
  _law_dice : DefAt K mg "_law_dice" s__law_dice ["_law_script", "_law_at"]
  _law_roll : DefAt K mg "_law_roll" s__law_roll ["_law_dice_here", "_law_total"]
  _law_one_of : DefAt K mg "_law_one_of" s__law_one_of ["_law_dice_here", "_law_items"]
  _law_is_index : DefAt K mg "_law_is_index" s__law_is_index ["_law_value", "_law_size"]
  _law_is_name : DefAt K mg "_law_is_name" s__law_is_name ["_law_value"]
  _law_is_cell : DefAt K mg "_law_is_cell" s__law_is_cell ["_law_value", "_law_size"]
  _law_is_lot : DefAt K mg "_law_is_lot" s__law_is_lot ["_law_value"]
  _law_is_net : DefAt K mg "_law_is_net" s__law_is_net ["_law_value"]
  _law_net_drawn : DefAt K mg "_law_net_drawn" s__law_net_drawn ["_law_dice_here", "_law_size"]
  _law_bent_cell : DefAt K mg "_law_bent_cell" s__law_bent_cell ["_law_dice_here", "_law_cell", "_law_size"]
  _law_bent_outputs : DefAt K mg "_law_bent_outputs" s__law_bent_outputs ["_law_dice_here", "_law_outputs", "_law_size"]
  _law_right : DefAt K mg "_law_right" s__law_right ["_law_dice_here"]
  _law_great_right : DefAt K mg "_law_great_right" s__law_great_right []
  law : DefAt K mg "law" s_law ["_law_script"]
  MAX_CELLS : ConAt mg "MAX_CELLS" (.int 6000)
  MAX_NAMED : ConAt mg "MAX_NAMED" (.int 400)
  MOST_SIGNS : ConAt mg "MOST_SIGNS" (.int 24)
  FIRST_SIGNS : ConAt mg "FIRST_SIGNS" (.str "abcdefghijklmnopqrstuvwxyz")
  MORE_SIGNS : ConAt mg "MORE_SIGNS" (.str "abcdefghijklmnopqrstuvwxyz0123456789_.")
  IN : ConAt mg "IN" (.str "in")
  KEEP : ConAt mg "KEEP" (.str "keep")
  IN_SIZE : ConAt mg "IN_SIZE" (.int 2)
  KEEP_SIZE : ConAt mg "KEEP_SIZE" (.int 4)
  PAIR_SIZE : ConAt mg "PAIR_SIZE" (.int 2)
  LOOKS : ConD K w mg "LOOKS" [("not", .int 1), ("and", .int 2), ("or", .int 2), ("xor", .int 2), ("pick", .int 3)]
  z_isinstance : mg "isinstance" = none
  z_int : mg "int" = none
  z_bool : mg "bool" = none
  z_all : mg "all" = none
  z_str : mg "str" = none
  z_len : mg "len" = none
  z_tuple : mg "tuple" = none
  z_set : mg "set" = none
  z_enumerate : mg "enumerate" = none
  z_abs : mg "abs" = none
  z_range : mg "range" = none
  z_max : mg "max" = none
  z_list : mg "list" = none
  z_min : mg "min" = none
section
variable {P : Program} {w : World} {K : PySem.W.Frag} {mg : Str → Option Value} {base : Heap}
theorem kv_LOOKS : KVs [("not", .int 1), ("and", .int 2), ("or", .int 2), ("xor", .int 2), ("pick", .int 3)] [("not", .int 1), ("and", .int 2), ("or", .int 2), ("xor", .int 2), ("pick", .int 3)] := .cons (fun _ _ => .int _) (.cons (fun _ _ => .int _) (.cons (fun _ _ => .int _) (.cons (fun _ _ => .int _) (.cons (fun _ _ => .int _) .nil))))
def sp__law_dice (K : PySem.W.Frag) : Sp := fun vs H Q _ => ∃ (a : Addr) (ns : List Int) (i : Nat), vs = [.ref a, .int i] ∧ SqL K H a (ns.map V.int) ∧ ∀ x y z : Int, NewL [.int x, .int y, .int z] H Q
theorem oko__law_dice (T : Txt K w mg) : FnOk P w K mg base CX0 1 T._law_dice.f T._law_dice.fd ["_law_script", "_law_at"] (sp__law_dice K) := by
  refine T._law_dice.F.ok sc__law_dice (fun vs H Q E h => ?_) (fun cdv A outer s H vs Q E hr h => ?_)
  · obtain ⟨a, ns, i, rfl, _⟩ := h
    rfl
  · obtain ⟨a, ns, i, rfl, hS, q⟩ := h
    refine ⟨_, (pss_cons (ps_set (i := 2) sc__law_dice.nd rfl (.inl rfl) (pe_op op_add (pe_op op_mul pe_int (pv 1)) pe_int)) 
      (pss_cons (ps_if (pt_cmpR op_lt (pv 1) (pe_callB call_len_seq (by rfl) T.z_len PySem.boot_len (pa_cons (pv 0) pa_nil)) (nomark _)) 
        (pss_one (ps_set (i := 2) sc__law_dice.nd rfl (.inl rfl) (pe_ix ix_list (pv 0) (pv 1) (fun _ _ => rfl)))) pss_nil) 
      (pss_cons (ps_set (i := 3) sc__law_dice.nd rfl (.inl rfl) (pe_op op_mod (pe_callTy call_int1 (by rfl) T.z_int (by decide +kernel) (pa_cons (pe_callB call_abs (by rfl) T.z_abs (by decide +kernel) (pa_cons (pv 2) pa_nil)) pa_nil)) (pe_op op_powW (pe_op op_pow pe_int pe_int) pe_int))) 
      (pss_cons (ps_set (i := 4) sc__law_dice.nd rfl (.inl rfl) (pe_op op_fdivW (pv 3) (pe_op op_pow pe_int pe_int))) 
      (pss_cons (ps_set (i := 5) sc__law_dice.nd rfl (.inl rfl) (pe_op op_add (pe_op op_add (pe_op op_add (pe_op op_mul (pe_op op_mod (pv 3) pe_int) pe_int) (pe_op op_mul pe_int (pv 1))) (pe_op op_mul pe_int (pe_callTy call_int1 (by rfl) T.z_int (by decide +kernel) (pa_cons (pe_cmpR op_lt (pv 2) pe_int (nomark _)) pa_nil)))) pe_int)) 
      (pss_one (ps_ret (pe_lstA (pa_cons (pv 4) (pa_cons (pe_op op_mod (pv 5) pe_int) (pa_cons pe_int pa_nil))))))))))), ?_⟩
    refine ⟨_, rfl, 127, i, rfl, rfl, .inl (by decide), _, _, rfl, rfl, ?_⟩
    refine ⟨_, rfl, _, rfl, a, _, rfl, .inl hS, _, _, rfl, rfl, _, rfl, ite3 (fun e => ?_) (fun e => ?_)⟩
    · have hi : i < ns.length := by
        have := of_decide_eq_true e
        rw [List.length_map] at this
        omega
      refine ⟨_, rfl, _, rfl, a, _, i, .int ns[i], rfl, rfl, hS, atI_nat (by rw [List.getElem?_map, List.getElem?_eq_getElem hi]; rfl), ?_⟩
      refine ⟨_, rfl, _, rfl, .inl ⟨_, rfl, _, _, rfl, rfl, ⟨by decide, by decide, by decide⟩, _, _, rfl, rfl, ⟨by decide, by decide⟩, _, _, rfl, rfl, (show (0 : Int) < (10 ^ 62) ^ 10 by decide +kernel), ?_⟩⟩
      refine ⟨_, rfl, 10, 18, rfl, rfl, ⟨by decide, by decide, by decide⟩, _, _, rfl, rfl, ⟨by decide, by decide⟩, ?_⟩
      refine ⟨_, rfl, _, _, rfl, rfl, p0, _, _, rfl, rfl, cmulR, _, rfl, _, _, rfl, rfl, cmulL, _, _, rfl, rfl, _, rfl, _, _, rfl, rfl, .inr ⟨_, rfl, _, _, rfl, rfl, cmulL, _, _, rfl, rfl, _, _, rfl, rfl, ?_⟩⟩
      exact ⟨_, rfl, _, rfl, _, _, rfl, rfl, p0, sz, q _ _ _⟩
    · refine ⟨_, rfl, _, rfl, .inl ⟨_, rfl, _, _, rfl, rfl, ⟨by decide, by decide, by decide⟩, _, _, rfl, rfl, ⟨by decide, by decide⟩, _, _, rfl, rfl, (show (0 : Int) < (10 ^ 62) ^ 10 by decide +kernel), ?_⟩⟩
      refine ⟨_, rfl, 10, 18, rfl, rfl, ⟨by decide, by decide, by decide⟩, _, _, rfl, rfl, ⟨by decide, by decide⟩, ?_⟩
      refine ⟨_, rfl, _, _, rfl, rfl, p0, _, _, rfl, rfl, cmulR, _, rfl, _, _, rfl, rfl, cmulL, _, _, rfl, rfl, _, rfl, _, _, rfl, rfl, .inr ⟨_, rfl, _, _, rfl, rfl, cmulL, _, _, rfl, rfl, _, _, rfl, rfl, ?_⟩⟩
      exact ⟨_, rfl, _, rfl, _, _, rfl, rfl, p0, sz, q _ _ _⟩
def sp__law_roll (K : PySem.W.Frag) : Sp := fun vs H Q _ => ∃ (d : Addr) (n : Int), vs = [.ref d, .int n] ∧ Dice H d ∧ 0 < n ∧ n ≤ 2 ^ 64 ∧ ∀ r H', 0 ≤ r → r < n → Ext d H H' → Q (.int r) H'
theorem oko__law_roll (T : Txt K w mg) : FnOk P w K mg base CX0 1 T._law_roll.f T._law_roll.fd ["_law_dice_here", "_law_total"] (sp__law_roll K) := by
  refine T._law_roll.F.ok sc__law_roll (fun vs H Q E h => ?_) (fun cdv A outer s H vs Q E hr h => ?_)
  · obtain ⟨d, n, rfl, _⟩ := h
    rfl
  · obtain ⟨d, n, rfl, ⟨x, y, z, hd⟩, h0, h1, q⟩ := h
    have sz : sizeLine = 16777216 := sizeLine_eq
    have f0 : ∀ {x y z : Int}, atI [V.int x, V.int y, V.int z] 0 = some (.int x) := rfl
    have f1 : ∀ {x y z : Int}, atI [V.int x, V.int y, V.int z] 1 = some (.int y) := rfl
    have f2 : ∀ {x y z : Int}, atI [V.int x, V.int y, V.int z] 2 = some (.int z) := rfl
    refine ⟨_, (pss_cons (ps_set (i := 2) sc__law_roll.nd rfl (.inl rfl) (pe_callTy call_int1 (by rfl) T.z_int (by decide +kernel) (pa_cons (pv 1) pa_nil))) 
      (pss_cons (ps_if (pt_cmpR op_gt (pe_ix ix_list (pv 0) pe_int (fun _ _ => rfl)) pe_int (nomark _)) 
        (pss_cons (ps_set (i := 3) sc__law_roll.nd rfl (.inl rfl) (pe_op op_mod (pe_ix ix_list (pv 0) pe_int (fun _ _ => rfl)) (pv 2))) 
        (pss_cons (ps_asg (pe_op op_fdivW (pe_ix ix_list (pv 0) pe_int (fun _ _ => rfl)) (pv 2)) (pg_sub (pv 0) pe_int set_list)) 
        (pss_one (ps_ret (pe_callTy call_int1 (by rfl) T.z_int (by decide +kernel) (pa_cons (pv 3) pa_nil)))))) pss_nil) 
      (pss_cons (ps_asg (pe_op op_add (pe_ix ix_list (pv 0) pe_int (fun _ _ => rfl)) pe_int) (pg_sub (pv 0) pe_int set_list)) 
      (pss_cons (ps_set (i := 4) sc__law_roll.nd rfl (.inl rfl) (pe_op op_mod (pe_op op_add (pe_ix ix_list (pv 0) pe_int (fun _ _ => rfl)) (pe_op op_mul pe_int (pe_ix ix_list (pv 0) pe_int (fun _ _ => rfl)))) pe_int)) 
      (pss_cons (ps_set (i := 5) sc__law_roll.nd rfl (.inl rfl) (pe_op op_add (pe_op op_mul (pe_op op_mod (pe_op op_mul (pv 4) (pv 4)) pe_int) (pv 4)) (pe_op op_mul pe_int (pe_ix ix_list (pv 0) pe_int (fun _ _ => rfl))))) 
      (pss_cons (ps_set (i := 5) sc__law_roll.nd rfl (.inl rfl) (pe_op op_mod (pv 5) pe_int)) 
      (pss_one (ps_ret (pe_callTy call_int1 (by rfl) T.z_int (by decide +kernel) (pa_cons (pe_op op_mod (pe_op op_fdiv (pv 5) pe_int) (pv 2)) pa_nil)))))))))), ?_⟩
    refine ⟨_, rfl, .inl ⟨_, rfl, ?_⟩⟩
    refine ⟨_, rfl, d, _, 0, _, rfl, rfl, SqL.of hd, f0, x, 0, rfl, rfl, _, rfl, ite3 (fun e => ?_) (fun e => ?_)⟩
    · have hw : CDivW x n := wide_div (b := 65) h0 (by omega) (by decide) (by decide)
      refine ⟨_, rfl, d, _, 0, _, rfl, rfl, SqL.of hd, f0, _, rfl, _, _, rfl, rfl, h0, ?_⟩
      refine ⟨_, rfl, d, _, 0, _, rfl, rfl, SqL.of hd, f0, _, rfl, _, _, rfl, rfl, hw, _, rfl, d, _, 0, 0, rfl, rfl, hd, rfl, ?_⟩
      exact ⟨_, rfl, .inl ⟨_, rfl, q _ _ (Int.emod_nonneg _ (by omega)) (Int.emod_lt_of_pos _ h0) Ext.roll⟩⟩
    · refine ⟨_, rfl, d, _, 2, _, rfl, rfl, SqL.of hd, f2, _, _, rfl, rfl, _, rfl, d, _, 2, 2, rfl, rfl, hd, rfl, ?_⟩
      have h2 : (upd H d (dl x y (z + 1))) d = some (dl x y (z + 1)) := upd_same
      refine ⟨_, rfl, d, _, 1, _, rfl, rfl, SqL.of h2, f1, _, rfl, d, _, 2, _, rfl, rfl, SqL.of h2, f2, 1000427, _, rfl, rfl, .inl (by decide), _, _, rfl, rfl, _, _, rfl, rfl, p0, ?_⟩
      have m0 := Int.emod_nonneg (y + 1000427 * (z + 1)) (by decide : (2305843009213693951 : Int) ≠ 0)
      have m1 := Int.emod_lt_of_pos (y + 1000427 * (z + 1)) (by decide : (0 : Int) < 2305843009213693951)
      refine ⟨_, rfl, _, rfl, _, _, rfl, rfl, .inl ⟨by omega, by omega⟩, _, _, rfl, rfl, p0, _, rfl, _, _, rfl, rfl, .inr ⟨by omega, by omega⟩, _, rfl, d, _, 2, _, rfl, rfl, SqL.of h2, f2, 9539, _, rfl, rfl, .inl (by decide), _, _, rfl, rfl, ?_⟩
      refine ⟨_, rfl, _, _, rfl, rfl, p0, ?_⟩
      exact ⟨_, rfl, _, _, rfl, rfl, cdiv, _, rfl, _, _, rfl, rfl, h0, .inl ⟨_, rfl, q _ _ (Int.emod_nonneg _ (by omega)) (Int.emod_lt_of_pos _ h0) Ext.roll⟩⟩
def pd__law_dice : List D → (M → Prop) → Prop := fun as Q => as.length = 2 ∧ ∃ (ns : List Int) (i : Nat), as = [.arr (ns.map .int), .int i] ∧ Q .dice
theorem ok__law_dice (T : Txt K w mg) : FnOk P w K mg base CX0 1 T._law_dice.f T._law_dice.fd ["_law_script", "_law_at"] (spN K pd__law_dice) := (oko__law_dice T).imp fun vs H Q E ⟨Hb, ds, Qd, sb, ra, ⟨_, ns, i, e, hq⟩, q⟩ => by
  subst e
  cases ra with
  | cons h1 h2 =>
    cases h2 with
    | cons h3 h4 =>
      cases h4
      cases h3
      cases h1 with
      | arr h5 h6 =>
        have e := intL_rep h6 (intL_map ns)
        subst e
        exact ⟨_, ns, i, rfl, sb.seq h5, fun x y z p H' s eH n => q p .dice H' n s ⟨x, y, z, eH⟩ hq⟩
def pd__law_roll : PI' := pdi 1 fun m as Q => m = .dice ∧ ∃ n : Int, as = [.int n] ∧ 0 < n ∧ n ≤ 2 ^ 64 ∧ ∀ r, 0 ≤ r → r < n → Q (.int r) .dice
theorem ext_gri {d : Addr} {H H' Hb : Hp} (x : Ext d H H') (sb : Same Hb H) (nb : Hb d = none) : GrI d H Hb H' Hb :=
  ⟨x.s, Same.refl _, fun b o e => x.s b o (fun z => by rw [z, nb] at e; cases e) (sb _ _ e), fun b e => .inl e, nb⟩
theorem ok__law_roll (T : Txt K w mg) : FnOk P w K mg base CX0 1 T._law_roll.f T._law_roll.fd ["_law_dice_here", "_law_total"] (spI K pd__law_roll) := (oko__law_roll T).imp fun vs H Q E ⟨a, us, Hb, m, ds, Qd, ev, sb, nb, hm, ra, ⟨_, em, n, e, n0, n1, hq⟩, q⟩ => by
  subst e em ev
  cases ra with
  | cons h1 h2 =>
    cases h2
    cases h1
    exact ⟨a, n, rfl, hm, n0, n1, fun r H' r0 r1 x => q _ _ .dice H' Hb (ext_gri x sb nb) x.d (.int r) (hq r r0 r1)⟩
def pd__law_one_of : PI' := pdi 1 fun m as Q => m = .dice ∧ ∃ xs : List D, as = [.lst xs] ∧ 0 < xs.length ∧ xs.length ≤ 100000 ∧ ∀ x ∈ xs, Q x .dice
theorem ok__law_one_of (T : Txt K w mg) : FnOk P w K mg base CX0 2 T._law_one_of.f T._law_one_of.fd ["_law_dice_here", "_law_items"] (spI K pd__law_one_of) := by
  refine T._law_one_of.F.ok sc__law_one_of (fun vs H Q E h => lenI h) (fun cdv A outer s H vs Q E hr h => ⟨_, (pss_one (ps_ret (pe_ix ix_list (pv 1) (pe_call (ok__law_roll T) (hr.mono (by decide)) (by rfl) T._law_roll.g T._law_roll.F.kp T._law_roll.b .nil pass0 (pa_cons (pv 0) (pa_cons (pe_callB call_len_seq (by rfl) T.z_len PySem.boot_len (pa_cons (pv 1) pa_nil)) pa_nil))) (fun _ _ => rfl)))),
    runI ((sns_ret (snd_op s_ixL (sO 1) (sE (snd_callI 0 (sna_cons (snd_cb s_len (.cons (sO 1) .nil)) sna_nil)))))) h (fun m as Qd hp => by rw [hp.1]; decide) ?_⟩)
  rintro a m as Qd ⟨_, rfl, xs, rfl, h0, h1, q⟩
  refine ⟨rfl, rfl, xs.length, rfl, by omega, by omega, fun r r0 r1 => ?_⟩
  have e : xs[r.toNat]? = some xs[r.toNat] := List.getElem?_eq_getElem (by omega)
  exact optD_of (atD (j := r.toNat) (by omega) e) ⟨rfl, q _ (List.getElem_mem _)⟩
def isInt : D → Bool
  | .int _ => true
  | _ => false
def within (lo hi : Int) : D → Bool
  | .int i => decide (lo ≤ i) && decide (i ≤ hi)
  | _ => false
def plain : D → Prop
  | .opq _ => False
  | .dcu _ => False
  | _ => True
def pd_is_integer : PD := pdn 1 fun as Q => ∃ d, as = [d] ∧ plain d ∧ Q (.bl (isInt d))
theorem ok_is_integer (T : Txt K w mg) : FnOk P w K mg base CX0 1 T.is_integer.f T.is_integer.fd ["value"] (spP K pd_is_integer) := by
  refine T.is_integer.F.ok sc_is_integer (fun vs H Q E h => lenP h) (fun cdv A outer s H vs Q E hr h => ⟨_, (pss_one (ps_ret (pe_and (pe_callB TB.call_isiK (by rfl) T.z_isinstance (by decide +kernel) (pa_cons (pv 0) (pa_cons (pe_bltn (v := .ty "int") (by rfl) T.z_int (by decide +kernel) rfl) pa_nil))) (pe_one (pe_not (pe_callB TB.call_isiK (by rfl) T.z_isinstance (by decide +kernel) (pa_cons (pv 0) (pa_cons (pe_bltn (v := .ty "bool") (by rfl) T.z_bool (by decide +kernel) rfl) pa_nil)))))))),
    runP ((sns_ret (snd_andV (snd_cb s_isi (.cons (sO 0) (.cons (sE snd_opq) .nil))) (snd_notV (snd_cb s_isi (.cons (sO 0) (.cons (sE snd_opq) .nil))))))) h (fun as Qd hp => by rw [hp.1]; decide) ?_⟩)
  rintro as Qd ⟨_, d, rfl, hp, q⟩
  cases d <;> first | exact hp.elim | exact ⟨by decide, q⟩ | exact ⟨by decide, by decide, q⟩
def pd_is_within : PD := pdn 3 fun as Q => ∃ d lo hi, as = [d, .int lo, .int hi] ∧ plain d ∧ Q (.bl (within lo hi d))
theorem ok_is_within (T : Txt K w mg) : FnOk P w K mg base CX0 2 T.is_within.f T.is_within.fd ["value", "least", "most"] (spP K pd_is_within) := by
  refine T.is_within.F.ok sc_is_within (fun vs H Q E h => lenP h) (fun cdv A outer s H vs Q E hr h => ⟨_, (pss_one (ps_ret (pe_and (pe_call (ok_is_integer T) (hr.mono (by decide)) (by rfl) T.is_integer.g T.is_integer.F.kp T.is_integer.b .nil pass0 (pa_cons (pv 0) pa_nil)) (pe_one (pe_chain op_le op_le (pv 1) (pv 0) (pv 2)))))),
    runP ((sns_ret (snd_andV (snd_call (sna_cons (snd_var 0) sna_nil)) (snd_chain s_le s_le (snd_var 1) (snd_var 0) (snd_var 2))))) h (fun as Qd hp => by rw [hp.1]; decide) ?_⟩)
  rintro as Qd ⟨_, d, lo, hi, rfl, hp, q⟩
  refine ⟨rfl, d, rfl, hp, ?_⟩
  cases d with
  | int i =>
    have q : Qd (.bl (decide (lo ≤ i) && decide (i ≤ hi))) := q
    refine ifDd (fun h => ?_) fun h => ?_
    · rw [decide_eq_true h] at q; exact q
    · rw [decide_eq_false h] at q; exact q
  | opq _ => exact hp.elim
  | dcu _ => exact hp.elim
  | _ => exact q
/-! ### names -/
def firstS : List Nat := ("abcdefghijklmnopqrstuvwxyz" : Str).cps.toList
def moreS : List Nat := ("abcdefghijklmnopqrstuvwxyz0123456789_." : Str).cps.toList
def nameB (x : Str) : Bool := decide (1 ≤ x.length ∧ x.length ≤ 24) && (match x.cps.toList with
  | [] => false
  | c :: _ => decide (c ∈ firstS)) && x.cps.toList.all fun c => decide (c ∈ moreS)
theorem len_le {α β : Type} {f : α → β} {xs : List α} {k : Nat} (h : xs.length ≤ k) (hk : k ≤ 1000000) : (xs.map f).length ≤ 1000000 := by
  rw [List.length_map]
  omega
theorem blL_map' {α : Type} (f : α → Bool) : ∀ xs : List α, blL (xs.map fun x => D.bl (f x)) = some (xs.map f)
  | [] => rfl
  | x :: r => by
    show (blL (r.map fun x => D.bl (f x))).map (f x :: ·) = _
    rw [blL_map' f r]; rfl
theorem all_map' {α : Type} (f : α → Bool) (xs : List α) : (xs.map f).all id = xs.all f := by rw [List.all_map]; rfl
/-! ### plain values of any kind -/
inductive Pv : Nat → D → Prop
  | non {n : Nat} : Pv n .non
  | bl {n : Nat} (b : Bool) : Pv n (.bl b)
  | int {n : Nat} (i : Int) : Pv n (.int i)
  | str {n : Nat} (x : Str) : (PyData.str x).canLay0 = true → x.length ≤ sizeLine → Pv n (.str x)
  | tup {n : Nat} (ds : List D) : (∀ d ∈ ds, Pv n d) → ds.length ≤ 20000 → Pv (n + 1) (.tup ds)
  | lst {n : Nat} (ds : List D) : (∀ d ∈ ds, Pv n d) → Pv (n + 1) (.lst ds)
theorem Pv.plain {n : Nat} {d : D} (h : Pv n d) : plain d := by cases h <;> trivial
theorem Pv.up {n : Nat} {d : D} (h : Pv n d) : Pv (n + 1) d := by
  induction h with
  | non => exact .non
  | bl b => exact .bl b
  | int i => exact .int i
  | str x a b => exact .str x a b
  | tup ds _ hl ih => exact .tup ds ih hl
  | lst ds _ ih => exact .lst ds ih
theorem Pv.cmp {n : Nat} {d : D} (h : Pv n d) : CmpD n d := by
  induction h with
  | non => exact ⟨rfl, OkD.none⟩
  | bl b => exact .bl b
  | int i => exact .int i
  | str x a b => exact ⟨rfl, a, Nat.zero_le _⟩
  | tup ds _ _ ih => exact .tup ih
  | lst ds _ ih => exact .lst ih
theorem Pv.items {n : Nat} {ds : List D} (h : Pv n (.tup ds)) : ∃ m, n = m + 1 ∧ (∀ d ∈ ds, Pv m d) ∧ ds.length ≤ 20000 := by
  cases h with
  | tup _ h hl => exact ⟨_, rfl, h, hl⟩
def nmB : D → Bool
  | .str x => nameB x
  | _ => false
def pd_is_name : PD := pdn 1 fun as Q => ∃ (d : D) (n : Nat), as = [d] ∧ Pv n d ∧ Q (.bl (nmB d))
theorem ok_is_name (T : Txt K w mg) : FnOk P w K mg base CX0 1 T.is_name.f T.is_name.fd ["value"] (spP K pd_is_name) := by
  refine T.is_name.F.ok sc_is_name (fun vs H Q E h => lenP h) (fun cdv A outer s H vs Q E hr h => ⟨_, (pss_cons (ps_if (PW.pt (pw_or (pt_not (pt_val (pe_callB TB.call_isiK (by rfl) T.z_isinstance (by decide +kernel) (pa_cons (pv 0) (pa_cons (pe_bltn (v := .ty "str") (by rfl) T.z_str (by decide +kernel) rfl) pa_nil))))) (pw_or (pt_not (pt_chain op_le op_le pe_int (pe_callB call_len_str (by rfl) T.z_len PySem.boot_len (pa_cons (pv 0) pa_nil)) (pe_glob rfl T.MOST_SIGNS.g T.MOST_SIGNS.r))) (pw_or1 (pt_cmpR op_notIn_sign (pe_ix ix_str (pv 0) pe_int (fun _ _ => rfl)) (pe_glob rfl T.FIRST_SIGNS.g T.FIRST_SIGNS.r) rfl))))) 
        (pss_one (ps_ret pe_bl)) pss_nil) 
      (pss_one (ps_ret (pe_callB (cr_all rfl) (by rfl) T.z_all (by decide +kernel) (pa_cons (pe_lc (own := [("sign", 1)]) (by rfl) sc_is_name.nd (pi_str (pv 0)) (blkOk_by (own := [("sign", 1)]) (N := ["value", "sign"]) (sc := defScope s_is_name) (by decide +kernel)) (fun _ _ _ _ _ => (pg_name (i := 1) sc_is_name.nd rfl (.inl rfl))) (fun _ _ _ _ _ => pts_nil) (fun _ _ _ _ _ => (pe_cmpR op_in_sign (pv 1) (pe_glob rfl T.MORE_SIGNS.g T.MORE_SIGNS.r) rfl))) pa_nil))))),
    runP ((sns_seq (sns_if (snd_or (snd_not (snd_b (snd_cb s_isi (.cons (sO 0) (.cons (sE snd_opq) .nil))))) (snd_or (snd_not (snd_test (snd_chain s_le s_le snd_int (snd_cb s_lenS (.cons (sO 0) .nil)) snd_int))) (snd_test (snd_op s_notInSign (sE (snd_op s_ixS (sO 0) (sE snd_int))) (sE snd_str))))) 
          (sns_ret snd_bl) sns_next) 
        (sns_ret (snd_cb s_all (.cons (sE (snd_ne (snd_lc (sni_str (snd_var 0)) (sgi_name (i := 1) (by decide)) snd_yes (snd_op s_inSign (sO 1) (sE snd_str))))) .nil))))) h (fun as Qd hp => by rw [hp.1]; decide) ?_⟩)
  rintro as Qd ⟨_, d, n, rfl, hd, q⟩
  cases hd with
  | str x hx hz =>
    have q : Qd (.bl (nameB x)) := q
    refine ⟨by decide, hz, ifD2 (fun h1 => ?_) fun h1 => ?_⟩
    · refine ifD2 (fun h2 => ?_) fun h2 => ?_
      · rw [Bool.not_eq_true'] at h2
        have h2 := of_decide_eq_false h2
        have e : nameB x = false := by
          unfold nameB
          rw [decide_eq_false (by omega)]
          rfl
        rw [e] at q
        exact q
      · rw [Bool.not_eq_false'] at h2
        have h1 := of_decide_eq_true h1
        have h2 := of_decide_eq_true h2
        unfold nameB at q
        rw [decide_eq_true (by omega), Bool.true_and] at q
        cases ex : x.cps.toList with
        | nil =>
          have : x.cps.toList.length = x.length := by rw [Array.length_toList]; rfl
          rw [ex] at this
          have : (0 : Nat) = x.length := this
          omega
        | cons c r =>
          rw [ex] at q
          have q : Qd (.bl (decide (c ∈ firstS) && (c :: r).all fun c => decide (c ∈ moreS))) := q
          refine ⟨hz, optD_of (x := c) (atD (j := 0) rfl (by rw [ex]; rfl)) ⟨c, rfl, ifD2 (fun h3 => ?_) fun h3 => ?_⟩⟩
          · have h3 : (!decide (c ∈ firstS)) = true := h3
            rw [Bool.not_eq_true'] at h3
            rw [h3] at q
            exact q
          · have h3 : (!decide (c ∈ firstS)) = false := h3
            rw [Bool.not_eq_false'] at h3
            rw [h3, Bool.true_and] at q
            refine ⟨len_le (k := 24) (by rw [Array.length_toList]; show x.length ≤ 24; omega) (by decide), lcP_y (tD := fun c => .str ⟨#[c]⟩) rfl (fun c => .bl (decide (c ∈ moreS))) (fun c hc Y hY => ⟨⟨trivial, trivial⟩, ⟨c, rfl, hY⟩⟩) ?_⟩
            refine optD_of (blL_map' _ _) ?_
            rw [all_map', ex]
            exact q
    · have h1 := of_decide_eq_false h1
      have e : nameB x = false := by
        unfold nameB
        rw [decide_eq_false (by omega)]
        rfl
      rw [e] at q
      exact q
  | _ => exact ⟨by decide, q⟩
end
end PL
namespace PL
open PySem PySem.Spec PyProof.Rows L2 TB
section
variable {P : Program} {w : World} {K : PySem.W.Frag} {mg : Str → Option Value} {base : Heap}
/-! ### nets as data -/
inductive G5 where
  | nt | an | orr | xr | pk
def G5.s : G5 → Str
  | .nt => "not" | .an => "and" | .orr => "or" | .xr => "xor" | .pk => "pick"
def G5.n : G5 → Nat
  | .nt => 1 | .an => 2 | .orr => 2 | .xr => 2 | .pk => 3
inductive NC where
  | inp (x : Str) | one | keep (x : Str) (f : Option Bool) (t : Nat) | gate (g : G5) (xs : List Nat)
def fD : Option Bool → D
  | none => .non
  | some false => .int 0
  | some true => .int 1
def nD (xs : List Nat) : List D := xs.map fun (x : Nat) => D.int (x : Int)
def cD : NC → D
  | .inp x => .tup [.str "in", .str x]
  | .one => .tup [.str "one"]
  | .keep x f t => .tup [.str "keep", .str x, fD f, .int (t : Int)]
  | .gate g xs => .tup (.str g.s :: nD xs)
def NC.looks : NC → List Nat
  | .gate _ xs => xs
  | _ => []
def NC.ok (n : Nat) : NC → Prop
  | .inp x => nameB x = true
  | .one => True
  | .keep x f t => nameB x = true ∧ t < n
  | .gate g xs => xs.length = g.n ∧ ∀ x ∈ xs, x < n
def NC.ports : NC → Option Str
  | .inp x => some x
  | _ => none
def NC.kept : NC → Option Str
  | .keep x _ _ => some x
  | _ => none
structure Net where
  cs : List NC
  os : List (Str × Nat)
def oD (p : Str × Nat) : D := .tup [.str p.1, .int (p.2 : Int)]
def csD (cs : List NC) : D := .tup (cs.map cD)
def netD (n : Net) : D := .tup [csD n.cs, .tup (n.os.map oD)]
structure Net.ok (n : Net) : Prop where
  few : n.cs.length ≤ 400
  ofew : n.os.length ≤ 400
  cell : ∀ c ∈ n.cs, c.ok n.cs.length
  names : (n.cs.filterMap NC.ports ++ n.cs.filterMap NC.kept).Nodup
  onames : ∀ p ∈ n.os, nameB p.1 = true ∧ p.2 < n.cs.length
  odist : (n.os.map (·.1)).Nodup
  back : ∀ (i : Nat) c, n.cs[i]? = some c → ∀ x ∈ c.looks, x < i
theorem at0 {α : Type} {x : α} {xs : List α} : atI (x :: xs) 0 = some x := atD (j := 0) rfl rfl
theorem cut1 (x : D) (xs : List D) : cutD (x :: xs) (some 1) none = xs := by
  unfold cutD
  have h1 : HT.sIx (x :: xs).length 0 (some 1) = 1 := by
    unfold HT.sIx
    simp
  have h2 : HT.sIx (x :: xs).length (x :: xs).length none = (x :: xs).length := rfl
  rw [h1, h2]
  show (xs.take (xs.length + 1 - 1)) = xs
  rw [Nat.add_sub_cancel, List.take_length]
theorem name_str {n : Nat} {x : Str} (h : nameB x = true) : CmpD n (.str x) := by
  refine ⟨rfl, ?_, Nat.zero_le _⟩
  show PySem.PyData.canLay0 (.str x) = true
  unfold PySem.PyData.canLay0
  unfold nameB at h
  rw [Bool.and_eq_true] at h
  have h4 := h.2
  show PySem.PyData.strOk x = true
  unfold PySem.PyData.strOk
  rw [← Array.all_toList]
  rw [List.all_eq_true] at h4 ⊢
  intro c hc
  have hm := of_decide_eq_true (h4 c hc)
  have all : ∀ c ∈ moreS, c < 0x110000 := by decide +kernel
  exact decide_eq_true (all c hm)
theorem fD_cmp {n : Nat} (f : Option Bool) : CmpD n (fD f) := by
  cases f with
  | none => exact ⟨rfl, OkD.none⟩
  | some b => cases b <;> exact .int _
theorem lit_str {n : Nat} (x : Str) (h : (PyData.str x).canLay0 = true := by decide +kernel) : CmpD n (.str x) := ⟨rfl, h, Nat.zero_le _⟩
theorem cD_cmp {n : Nat} {c : NC} (h : c.ok n) : CmpD 1 (cD c) := by
  cases c with
  | inp x =>
    refine .tup fun y hy => ?_
    simp only [List.mem_cons, List.not_mem_nil, or_false] at hy
    rcases hy with rfl | rfl
    · exact lit_str _
    · exact name_str h
  | one =>
    refine .tup fun y hy => ?_
    rw [List.mem_singleton.mp hy]
    exact lit_str _
  | keep x f t =>
    refine .tup fun y hy => ?_
    simp only [List.mem_cons, List.not_mem_nil, or_false] at hy
    rcases hy with rfl | rfl | rfl | rfl
    · exact lit_str _
    · exact name_str h.1
    · exact fD_cmp f
    · exact .int _
  | gate g xs =>
    refine .tup fun y hy => ?_
    rcases List.mem_cons.mp hy with rfl | hy
    · cases g <;> exact lit_str _
    · exact CmpD.map (fun z _ => .int _) y hy
/-! ### the defs -/
theorem within_ok {x n : Nat} (h : x < n) : within 0 ((n : Int) - 1) (.int (x : Int)) = true := by
  show (decide (0 ≤ (x : Int)) && decide ((x : Int) ≤ (n : Int) - 1)) = true
  rw [decide_eq_true (by omega), decide_eq_true (by omega)]
  rfl
def firB : D → Bool
  | .non => true
  | d => within 0 1 d
def pd_is_first : PD := pdn 1 fun as Q => ∃ (d : D) (n : Nat), as = [d] ∧ Pv n d ∧ Q (.bl (firB d))
theorem ok_is_first (T : Txt K w mg) : FnOk P w K mg base CX0 3 T.is_first.f T.is_first.fd ["value"] (spP K pd_is_first) := by
  refine T.is_first.F.ok sc_is_first (fun vs H Q E h => lenP h) (fun cdv A outer s H vs Q E hr h => ⟨_, (pss_one (ps_ret (pe_or (pe_cmpR op_isN (pv 0) pe_non (nomark _)) (pe_one (pe_call (ok_is_within T) (hr.mono (by decide)) (by rfl) T.is_within.g T.is_within.F.kp T.is_within.b .nil pass0 (pa_cons (pv 0) (pa_cons pe_int (pa_cons pe_int pa_nil)))))))),
    runP ((sns_ret (snd_orV (snd_op s_isN (sO 0) (sE snd_non)) (snd_call (sna_cons (snd_var 0) (sna_cons snd_int (sna_cons snd_int sna_nil))))))) h (fun as Qd hp => by rw [hp.1]; decide) ?_⟩)
  rintro as Qd ⟨_, d, n, rfl, hd, q⟩
  cases hd <;> first | exact q | exact ⟨rfl, _, _, _, rfl, trivial, q⟩
def pd_looks_of : PD := pdn 1 fun as Q => ∃ c : NC, as = [cD c] ∧ Q (.tup (nD c.looks))
theorem ok_looks_of (T : Txt K w mg) : FnOk P w K mg base CX0 1 T.looks_of.f T.looks_of.fd ["cell"] (spP K pd_looks_of) := by
  refine T.looks_of.F.ok sc_looks_of (fun vs H Q E h => lenP h) (fun cdv A outer s H vs Q E hr h => ⟨_, (pss_one (ps_ret (pe_ifExp (pt_cmpR (op_inKDK (K := K) (w := w) rfl rfl) (pe_ix ix_tup (pv 0) pe_int (fun _ _ => rfl)) (pe_glob (v := .ref T.LOOKS.a) rfl T.LOOKS.g rfl) rfl) (pe_slice (sl_tupleSK (K := K) rfl) (pv 0) (po_some pe_int) po_none) (pe_tup pa_nil)))),
    runP ((sns_ret (snd_if (snd_test (snd_op (s_inKD T.LOOKS.c kv_LOOKS false) (sE (snd_op s_ixT (sO 0) (sE snd_int))) (sE snd_opq))) (snd_sl s_slT (sO 0) (snp_some snd_int) snp_none) (snd_tup sna_nil)))) h (fun as Qd hp => by rw [hp.1]; decide) ?_⟩)
  rintro as Qd ⟨_, c, rfl, q⟩
  cases c with
  | inp x => exact ⟨rfl, q⟩
  | one => exact ⟨rfl, q⟩
  | keep x f t => exact ⟨rfl, q⟩
  | gate g xs =>
    have e : cutD (.str g.s :: nD xs) (some 1) none = nD xs := cut1 _ _
    refine optD_of (x := .str g.s) at0 ?_
    have q : Qd (.tup (cutD (.str g.s :: nD xs) (some 1) none)) := by rw [e]; exact q
    cases g <;> exact ⟨rfl, q⟩
def idxB (n : Nat) (d : D) : Bool := within 0 ((n : Int) - 1) d
def arity (k : Str) : Nat := if k = "not" then 1 else if k = "and" then 2 else if k = "or" then 2 else if k = "xor" then 2 else if k = "pick" then 3 else 0
def inB : List D → Bool
  | [a] => nmB a
  | _ => false
def keepB (n : Nat) : List D → Bool
  | [a, b, c] => nmB a && firB b && idxB n c
  | _ => false
def gateB (n m : Nat) (r : List D) : Bool := decide (m ≠ 0) && decide (r.length = m) && r.all (idxB n)
def tailB (n : Nat) (k : Str) (r : List D) : Bool := if k = "in" then inB r else if k = "one" then r.isEmpty else if k = "keep" then keepB n r else gateB n (arity k) r
def cellB (n : Nat) : D → Bool
  | .tup (.str k :: r) => tailB n k r
  | _ => false
theorem len_dec {x : D} {r : List D} {m : Nat} : decide (V.int (((x :: r).length : Nat) : Int) = V.int ((m : Int) + 1)) = true ↔ r.length = m := by
  rw [decide_eq_true_iff, List.length_cons]
  constructor
  · intro h
    have := V.int.inj h
    omega
  · intro h
    rw [h]
    rfl
theorem len_decF {x : D} {r : List D} {m : Nat} : decide (V.int (((x :: r).length : Nat) : Int) = V.int ((m : Int) + 1)) = false ↔ r.length ≠ m := by
  rw [← Bool.not_eq_true, len_dec]
theorem one_dec {x : D} {r : List D} : decide (V.int (((x :: r).length : Nat) : Int) = V.int 1) = r.isEmpty := by
  cases r with
  | nil => rfl
  | cons y r =>
    refine decide_eq_false fun z => ?_
    have := V.int.inj z
    rw [List.length_cons, List.length_cons] at this
    omega
theorem len1 {r : List D} (h : r.length = 1) : ∃ a, r = [a] := by
  match r, h with
  | [a], _ => exact ⟨a, rfl⟩
theorem len3 {r : List D} (h : r.length = 3) : ∃ a b c, r = [a, b, c] := by
  match r, h with
  | [a, b, c], _ => exact ⟨a, b, c, rfl⟩
theorem pv_nil_ne {d : D} {r : List D} : eqD (.tup (d :: r)) (.tup []) = false := rfl
def pd_is_cell : PD := pdn 2 fun as Q => ∃ (d : D) (n m : Nat), as = [d, .int (n : Int)] ∧ Pv m d ∧ m ≤ 60 ∧ Q (.bl (cellB n d))
theorem ok_is_cell (T : Txt K w mg) : FnOk P w K mg base CX0 4 T.is_cell.f T.is_cell.fd ["value", "size"] (spP K pd_is_cell) := by
  refine T.is_cell.F.ok sc_is_cell (fun vs H Q E h => lenP h) (fun cdv A outer s H vs Q E hr h => ⟨_, (pss_cons (ps_if (PW.pt (pw_or (pt_not (pt_val (pe_callB TB.call_isiK (by rfl) T.z_isinstance (by decide +kernel) (pa_cons (pv 0) (pa_cons (pe_bltn (v := .ty "tuple") (by rfl) T.z_tuple (by decide +kernel) rfl) pa_nil))))) (pw_or (pt_cmpR (op_eqDK (K := K) rfl hr.units) (pv 0) (pe_tup pa_nil) (nomark _)) (pw_or1 (pt_not (pt_val (pe_callB TB.call_isiK (by rfl) T.z_isinstance (by decide +kernel) (pa_cons (pe_ix ix_tup (pv 0) pe_int (fun _ _ => rfl)) (pa_cons (pe_bltn (v := .ty "str") (by rfl) T.z_str (by decide +kernel) rfl) pa_nil))))))))) 
        (pss_one (ps_ret pe_bl)) pss_nil) 
      (pss_one (ps_match (pe_ix ix_tup (pv 0) pe_int (fun _ _ => rfl)) (pcs_val 
        (pss_one (ps_ret (pe_and (pe_cmpR op_eq (pe_callB call_len_seq (by rfl) T.z_len PySem.boot_len (pa_cons (pv 0) pa_nil)) (pe_glob rfl T.IN_SIZE.g T.IN_SIZE.r) (nomark _)) (pe_one (pe_call (ok_is_name T) (hr.mono (by decide)) (by rfl) T.is_name.g T.is_name.F.kp T.is_name.b .nil pass0 (pa_cons (pe_ix ix_tup (pv 0) pe_int (fun _ _ => rfl)) pa_nil)))))) (pcs_val 
        (pss_one (ps_ret (pe_cmpR op_eq (pe_callB call_len_seq (by rfl) T.z_len PySem.boot_len (pa_cons (pv 0) pa_nil)) pe_int (nomark _)))) (pcs_val 
        (pss_cons (ps_if (PW.pt (pw_or (pt_cmpR op_ne (pe_callB call_len_seq (by rfl) T.z_len PySem.boot_len (pa_cons (pv 0) pa_nil)) (pe_glob rfl T.KEEP_SIZE.g T.KEEP_SIZE.r) (nomark _)) (pw_or (pt_not (pt_val (pe_call (ok_is_name T) (hr.mono (by decide)) (by rfl) T.is_name.g T.is_name.F.kp T.is_name.b .nil pass0 (pa_cons (pe_ix ix_tup (pv 0) pe_int (fun _ _ => rfl)) pa_nil)))) (pw_or1 (pt_not (pt_val (pe_call (ok_is_first T) (hr.mono (by decide)) (by rfl) T.is_first.g T.is_first.F.kp T.is_first.b .nil pass0 (pa_cons (pe_ix ix_tup (pv 0) pe_int (fun _ _ => rfl)) pa_nil)))))))) 
          (pss_one (ps_ret pe_bl)) pss_nil) 
        (pss_one (ps_ret (pe_call (ok_is_within T) (hr.mono (by decide)) (by rfl) T.is_within.g T.is_within.F.kp T.is_within.b .nil pass0 (pa_cons (pe_ix ix_tup (pv 0) pe_int (fun _ _ => rfl)) (pa_cons pe_int (pa_cons (pe_op op_sub (pv 1) pe_int) pa_nil))))))) (pcs_cap (i := 2) sc_is_cell.nd rfl (.inl rfl) 
        (pss_cons (ps_if (PW.pt (pw_or (pt_cmpR (op_notInKDK (K := K) (w := w) rfl rfl) (pv 2) (pe_glob (v := .ref T.LOOKS.a) rfl T.LOOKS.g rfl) rfl) (pw_or1 (pt_cmpR op_ne (pe_callB call_len_seq (by rfl) T.z_len PySem.boot_len (pa_cons (pv 0) pa_nil)) (pe_op op_add (pe_ix (ix_kdcK (K := K) (w := w) rfl rfl) (pe_glob (v := .ref T.LOOKS.a) rfl T.LOOKS.g rfl) (pv 2) (fun _ _ => rfl)) pe_int) (nomark _))))) 
          (pss_one (ps_ret pe_bl)) pss_nil) 
        (pss_one (ps_ret (pe_callB (cr_all rfl) (by rfl) T.z_all (by decide +kernel) (pa_cons (pe_lc (own := [("index", 3)]) (by rfl) sc_is_cell.nd (pi_tup (pe_slice (sl_tupleSK (K := K) rfl) (pv 0) (po_some pe_int) po_none)) (blkOk_by (own := [("index", 3)]) (N := ["value", "size", "kind", "index"]) (sc := defScope s_is_cell) (by decide +kernel)) (fun _ _ _ _ _ => (pg_name (i := 3) sc_is_cell.nd rfl (.inl rfl))) (fun _ _ _ _ _ => pts_nil) (fun _ _ _ _ _ => (pe_call (ok_is_within T) (hr.mono (by decide)) (by rfl) T.is_within.g T.is_within.F.kp T.is_within.b .nil pass0 (pa_cons (pv 3) (pa_cons pe_int (pa_cons (pe_op op_sub (pv 1) pe_int) pa_nil)))))) pa_nil)))))))))))),
    runP ((sns_seq (sns_if (snd_or (snd_not (snd_b (snd_cb s_isi (.cons (sO 0) (.cons (sE snd_opq) .nil))))) (snd_or (snd_test (snd_op s_eqD (sO 0) (sE (snd_tup sna_nil)))) (snd_not (snd_b (snd_cb s_isi (.cons (sE (snd_op s_ixT (sO 0) (sE snd_int))) (.cons (sE snd_opq) .nil))))))) 
          (sns_ret snd_bl) sns_next) 
        (sns_match (snd_op s_ixT (sO 0) (sE snd_int)) (snc_val 
          (sns_ret (snd_andV (snd_op s_eq (sE (snd_cb s_len (.cons (sO 0) .nil))) (sE snd_int)) (snd_call (sna_cons (snd_op s_ixT (sO 0) (sE snd_int)) sna_nil)))) (snc_val 
          (sns_ret (snd_op s_eq (sE (snd_cb s_len (.cons (sO 0) .nil))) (sE snd_int))) (snc_val 
          (sns_seq (sns_if (snd_or (snd_test (snd_op s_ne (sE (snd_cb s_len (.cons (sO 0) .nil))) (sE snd_int))) (snd_or (snd_not (snd_b (snd_call (sna_cons (snd_op s_ixT (sO 0) (sE snd_int)) sna_nil)))) (snd_not (snd_b (snd_call (sna_cons (snd_op s_ixT (sO 0) (sE snd_int)) sna_nil)))))) 
            (sns_ret snd_bl) sns_next) 
          (sns_ret (snd_call (sna_cons (snd_op s_ixT (sO 0) (sE snd_int)) (sna_cons snd_int (sna_cons (snd_op s_sub (sO 1) (sE snd_int)) sna_nil)))))) (snc_cap 2 
          (sns_seq (sns_if (snd_or (snd_test (snd_op (s_inKD T.LOOKS.c kv_LOOKS true) (sO 2) (sE snd_opq))) (snd_test (snd_op s_ne (sE (snd_cb s_len (.cons (sO 0) .nil))) (sE (snd_op s_add (sE (snd_op (s_ixKD T.LOOKS.c kv_LOOKS) (sE snd_opq) (sO 2))) (sE snd_int)))))) 
            (sns_ret snd_bl) sns_next) 
          (sns_ret (snd_cb s_all (.cons (sE (snd_ne (snd_lc (sni_tup (snd_sl s_slT (sO 0) (snp_some snd_int) snp_none)) (sgi_name (i := 3) (by decide)) snd_yes (snd_call (sna_cons (snd_var 3) (sna_cons snd_int (sna_cons (snd_op s_sub (sO 1) (sE snd_int)) sna_nil))))))) .nil))))))))))) h (fun as Qd hp => by rw [hp.1]; decide) ?_⟩)
  rintro as Qd ⟨_, d, n, m, rfl, hd, hm, q⟩
  have ce : CmpOk (.tup []) := (CmpD.tup (n := 0) (fun x hx => by cases hx)).ok
  have cc := hd.cmp.ok (by omega)
  cases d with
  | tup ds =>
    obtain ⟨m', rfl, hi, hz⟩ := hd.items
    refine ⟨by decide, ⟨cc, ce⟩, ?_⟩
    cases ds with
    | nil => exact q
    | cons d r =>
      refine optD_of (x := d) at0 ?_
      have h0 := hi d List.mem_cons_self
      cases h0 with
      | str k hk hkz =>
        have q : Qd (.bl (tailB n k r)) := q
        have hp : ∀ d ∈ r, Pv m' d := fun d hd => hi d (List.mem_cons_of_mem _ hd)
        unfold tailB at q
        refine ⟨by decide, optD_of (x := .str k) at0 (ifD2 (fun e1 => ?_) fun e1 => ifD2 (fun e2 => ?_) fun e2 => ifD2 (fun e3 => ?_) fun e3 => ?_)⟩
        · rw [if_pos (of_decide_eq_true e1)] at q
          refine ⟨rfl, ifD2 (fun h => ?_) fun h => ?_⟩
          · obtain ⟨a, rfl⟩ := len1 ((len_dec (m := 1)).mp h)
            exact ⟨rfl, a, m', rfl, hp a (by simp), q⟩
          · have := (len_decF (m := 1)).mp h
            have e : inB r = false := by
              unfold inB
              split
              · exact absurd rfl this
              · rfl
            rw [e] at q
            exact q
        · rw [if_neg (of_decide_eq_false e1), if_pos (of_decide_eq_true e2)] at q
          have e : decide (V.int (((D.str k :: r).length : Nat) : Int) = V.int 1) = r.isEmpty := one_dec
          have q' : Qd (.bl (decide (V.int (((D.str k :: r).length : Nat) : Int) = V.int 1))) := by rw [e]; exact q
          exact ⟨rfl, q'⟩
        · rw [if_neg (of_decide_eq_false e1), if_neg (of_decide_eq_false e2), if_pos (of_decide_eq_true e3)] at q
          refine ⟨rfl, ifD2 (fun h => ?_) fun h => ?_⟩
          · rw [Bool.not_eq_true'] at h
            have := (len_decF (m := 3)).mp h
            have e : keepB n r = false := by
              unfold keepB
              split
              · exact absurd rfl this
              · rfl
            rw [e] at q
            exact q
          · rw [Bool.not_eq_false'] at h
            obtain ⟨a, b, c, rfl⟩ := len3 ((len_dec (m := 3)).mp h)
            have q : Qd (.bl (nmB a && firB b && idxB n c)) := q
            refine ⟨rfl, a, m', rfl, hp a (by simp), ifD2 (fun h2 => ?_) fun h2 => ⟨rfl, b, m', rfl, hp b (by simp), ifD2 (fun h3 => ?_) fun h3 => ?_⟩⟩
            · rw [Bool.not_eq_true'] at h2
              rw [h2] at q
              exact q
            · rw [Bool.not_eq_true'] at h3
              rw [h3, Bool.and_false] at q
              exact q
            · rw [Bool.not_eq_false'] at h2 h3
              rw [h2, h3] at q
              exact ⟨rfl, c, _, _, rfl, (hp c (by simp)).plain, q⟩
        · rw [if_neg (of_decide_eq_false e1), if_neg (of_decide_eq_false e2), if_neg (of_decide_eq_false e3)] at q
          have gate : ∀ m : Nat, m ≠ 0 → m ≤ 3 → arity k = m → Qd (.bl (decide (r.length = m) && r.all (idxB n))) := fun m m0 m1 hm => by
            have := q
            unfold gateB at this
            rw [hm, decide_eq_true m0, Bool.true_and] at this
            exact this
          have q0 := q
          clear q
          have hx : cutD (.str k :: r) (some 1) none = r := cut1 _ _
          have hz : r.length ≤ 20000 := by rw [List.length_cons] at hz; omega
          by_cases k0 : k = "not"
          · subst k0
            have q := gate 1 (by decide) (by decide) rfl
            refine ⟨rfl, rfl, rfl, ifD2 (fun h => ?_) fun h => ?_⟩
            · rw [Bool.not_eq_true'] at h
              rw [decide_eq_false ((len_decF (m := 1)).mp h), Bool.false_and] at q
              exact q
            · rw [Bool.not_eq_false'] at h
              rw [decide_eq_true ((len_dec (m := 1)).mp h), Bool.true_and] at q
              exact ⟨by rw [hx]; omega, lcP_y (tD := fun d : D => d) (xs := r) (hx.trans (List.map_id r).symm) (fun d => .bl (idxB n d)) (fun d hd Y hY => ⟨⟨trivial, trivial⟩, rfl, d, _, _, rfl, (hp d hd).plain, hY⟩) (optD_of (blL_map' (idxB n) r) (by rw [all_map']; exact q))⟩
          by_cases k1 : k = "and"
          · subst k1
            have q := gate 2 (by decide) (by decide) rfl
            refine ⟨rfl, rfl, rfl, ifD2 (fun h => ?_) fun h => ?_⟩
            · rw [Bool.not_eq_true'] at h
              rw [decide_eq_false ((len_decF (m := 2)).mp h), Bool.false_and] at q
              exact q
            · rw [Bool.not_eq_false'] at h
              rw [decide_eq_true ((len_dec (m := 2)).mp h), Bool.true_and] at q
              exact ⟨by rw [hx]; omega, lcP_y (tD := fun d : D => d) (xs := r) (hx.trans (List.map_id r).symm) (fun d => .bl (idxB n d)) (fun d hd Y hY => ⟨⟨trivial, trivial⟩, rfl, d, _, _, rfl, (hp d hd).plain, hY⟩) (optD_of (blL_map' (idxB n) r) (by rw [all_map']; exact q))⟩
          by_cases k2 : k = "or"
          · subst k2
            have q := gate 2 (by decide) (by decide) rfl
            refine ⟨rfl, rfl, rfl, ifD2 (fun h => ?_) fun h => ?_⟩
            · rw [Bool.not_eq_true'] at h
              rw [decide_eq_false ((len_decF (m := 2)).mp h), Bool.false_and] at q
              exact q
            · rw [Bool.not_eq_false'] at h
              rw [decide_eq_true ((len_dec (m := 2)).mp h), Bool.true_and] at q
              exact ⟨by rw [hx]; omega, lcP_y (tD := fun d : D => d) (xs := r) (hx.trans (List.map_id r).symm) (fun d => .bl (idxB n d)) (fun d hd Y hY => ⟨⟨trivial, trivial⟩, rfl, d, _, _, rfl, (hp d hd).plain, hY⟩) (optD_of (blL_map' (idxB n) r) (by rw [all_map']; exact q))⟩
          by_cases k3 : k = "xor"
          · subst k3
            have q := gate 2 (by decide) (by decide) rfl
            refine ⟨rfl, rfl, rfl, ifD2 (fun h => ?_) fun h => ?_⟩
            · rw [Bool.not_eq_true'] at h
              rw [decide_eq_false ((len_decF (m := 2)).mp h), Bool.false_and] at q
              exact q
            · rw [Bool.not_eq_false'] at h
              rw [decide_eq_true ((len_dec (m := 2)).mp h), Bool.true_and] at q
              exact ⟨by rw [hx]; omega, lcP_y (tD := fun d : D => d) (xs := r) (hx.trans (List.map_id r).symm) (fun d => .bl (idxB n d)) (fun d hd Y hY => ⟨⟨trivial, trivial⟩, rfl, d, _, _, rfl, (hp d hd).plain, hY⟩) (optD_of (blL_map' (idxB n) r) (by rw [all_map']; exact q))⟩
          by_cases k4 : k = "pick"
          · subst k4
            have q := gate 3 (by decide) (by decide) rfl
            refine ⟨rfl, rfl, rfl, ifD2 (fun h => ?_) fun h => ?_⟩
            · rw [Bool.not_eq_true'] at h
              rw [decide_eq_false ((len_decF (m := 3)).mp h), Bool.false_and] at q
              exact q
            · rw [Bool.not_eq_false'] at h
              rw [decide_eq_true ((len_dec (m := 3)).mp h), Bool.true_and] at q
              exact ⟨by rw [hx]; omega, lcP_y (tD := fun d : D => d) (xs := r) (hx.trans (List.map_id r).symm) (fun d => .bl (idxB n d)) (fun d hd Y hY => ⟨⟨trivial, trivial⟩, rfl, d, _, _, rfl, (hp d hd).plain, hY⟩) (optD_of (blL_map' (idxB n) r) (by rw [all_map']; exact q))⟩
          have hl : List.lookup k [(("not" : Str), D.int 1), ("and", D.int 2), ("or", D.int 2), ("xor", D.int 2), ("pick", D.int 3)] = none := by
            simp only [List.lookup_cons, List.lookup_nil, beq_eq_false_iff_ne.mpr k0, beq_eq_false_iff_ne.mpr k1, beq_eq_false_iff_ne.mpr k2, beq_eq_false_iff_ne.mpr k3, beq_eq_false_iff_ne.mpr k4]
          refine ⟨rfl, ifD_t (by rw [hl]; rfl) ?_⟩
          have ea : arity k = 0 := by unfold arity; rw [if_neg k0, if_neg k1, if_neg k2, if_neg k3, if_neg k4]
          rw [ea] at q0
          exact q0
      | _ => exact ⟨by decide, q⟩
  | _ => first | exact ⟨by decide, q⟩ | cases hd
end
end PL
namespace PL
open PySem PySem.Spec PyProof.Rows L2 TB
section
variable {P : Program} {w : World} {K : PySem.W.Frag} {mg : Str → Option Value} {base : Heap}
def kS (k : Bool) : Str := if k then "keep" else "in"
def NC.nm (k : Bool) (c : NC) : Option Str := if k then c.kept else c.ports
def nmD (xs : List Str) : D := .tup (xs.map D.str)
theorem fm_map {α β γ : Type} (f : α → Option β) (g : β → γ) : ∀ xs : List α, (xs.filterMap fun x => (f x).map g) = (xs.filterMap f).map g
  | [] => rfl
  | x :: r => by
    cases e : f x with
    | none => rw [List.filterMap_cons_none (by rw [e]; rfl), List.filterMap_cons_none e]; exact fm_map f g r
    | some y => rw [List.filterMap_cons_some (by rw [e]; rfl), List.filterMap_cons_some e, List.map_cons, fm_map f g r]
theorem strL_str : ∀ xs : List Str, strL (xs.map D.str) = some xs
  | [] => rfl
  | x :: r => by
    show (strL (r.map D.str)).map (x :: ·) = _
    rw [strL_str r]; rfl
theorem getMp {α β : Type} {f : α → β} {xs : List α} {i : Nat} {y : β} (h : (xs.map f)[i]? = some y) : ∃ x, xs[i]? = some x ∧ y = f x := by
  rw [List.getElem?_map] at h
  cases e : xs[i]? with
  | none => rw [e] at h; cases h
  | some x => rw [e] at h; cases h; exact ⟨x, rfl, rfl⟩
def pd_names_of : PD := pdn 2 fun as Q => ∃ (cs : List NC) (k : Bool), as = [csD cs, .str (kS k)] ∧ cs.length ≤ 6000 ∧ Q (nmD (cs.filterMap (NC.nm k)))
theorem ok_names_of (T : Txt K w mg) : FnOk P w K mg base CX0 1 T.names_of.f T.names_of.fd ["cells", "kind"] (spP K pd_names_of) := by
  refine T.names_of.F.ok sc_names_of (fun vs H Q E h => lenP h) (fun cdv A outer s H vs Q E hr h => ⟨_, (pss_one (ps_ret (pe_callTy (call_tupleSK (K := K) rfl) (by rfl) T.z_tuple (by decide +kernel) (pa_cons (pe_lc (own := [("cell", 2)]) (by rfl) sc_names_of.nd (pi_tup (pv 0)) (blkOk_by (own := [("cell", 2)]) (N := ["cells", "kind", "cell"]) (sc := defScope s_names_of) (by decide +kernel)) (fun _ _ _ _ _ => (pg_name (i := 2) sc_names_of.nd rfl (.inl rfl))) (fun _ _ _ _ _ => (pts_one (pt_cmpR op_eq (pe_ix ix_tup (pv 2) pe_int (fun _ _ => rfl)) (pv 1) (nomark _)))) (fun _ _ _ _ _ => (pe_ix ix_tup (pv 2) pe_int (fun _ _ => rfl)))) pa_nil)))),
    runP ((sns_ret (snd_cb s_tuple (.cons (sE (snd_ne (snd_lc (sni_tup (snd_var 0)) (sgi_name (i := 2) (by decide)) (snd_test (snd_op s_eq (sE (snd_op s_ixT (sO 2) (sE snd_int))) (sO 1))) (snd_op s_ixT (sO 2) (sE snd_int))))) .nil)))) h (fun as Qd hp => by rw [hp.1]; decide) ?_⟩)
  rintro as Qd ⟨_, cs, k, rfl, hl, q⟩
  refine ⟨len_le hl (by decide), lcP_x (tD := cD) (xs := cs) rfl (fun c => (c.nm k).map D.str) (fun c hc N Y hN hY => ⟨⟨trivial, trivial⟩, ?_⟩) ?_⟩
  · cases c with
    | inp x => 
      cases k
      · exact ⟨rfl, hY _ rfl⟩
      · exact ⟨rfl, hN rfl⟩
    | one => cases k <;> exact ⟨rfl, hN rfl⟩
    | keep x f t => 
      cases k
      · exact ⟨rfl, hN rfl⟩
      · exact ⟨rfl, hY _ rfl⟩
    | gate g xs =>
      refine optD_of (x := .str g.s) at0 ?_
      cases g <;> cases k <;> exact ⟨rfl, hN rfl⟩
  · rw [fm_map]
    exact q
def nmOf (k : Str) : D → Option Str
  | .tup (.str y :: .str x :: _) => if y = k then some x else none
  | _ => none
def nms (k : Str) (ds : List D) : List Str := ds.filterMap (nmOf k)
def namB (p q : List Str) : Bool := decide (p.length ≤ 400) && (decide (q.length ≤ 400) && decide ((nub (p ++ q)).length = p.length + q.length))
def lotB : D → Bool
  | .tup ds => decide (ds.length ≤ 6000) && (ds.all (cellB ds.length) && namB (nms "in" ds) (nms "keep" ds))
  | _ => false
theorem idx_nat {n : Nat} {d : D} (h : idxB n d = true) : ∃ x : Nat, d = .int (x : Int) ∧ x < n := by
  cases d with
  | int i =>
    have h : (decide (0 ≤ i) && decide (i ≤ (n : Int) - 1)) = true := h
    rw [Bool.and_eq_true, decide_eq_true_iff, decide_eq_true_iff] at h
    exact ⟨i.toNat, by rw [Int.toNat_of_nonneg h.1], by omega⟩
  | _ => cases h
theorem all_idx {n : Nat} : ∀ {r : List D}, r.all (idxB n) = true → ∃ xs : List Nat, r = nD xs ∧ ∀ x ∈ xs, x < n
  | [], _ => ⟨[], rfl, fun x hx => by cases hx⟩
  | d :: r, h => by
    rw [List.all_cons, Bool.and_eq_true] at h
    obtain ⟨x, rfl, hx⟩ := idx_nat h.1
    obtain ⟨xs, rfl, hxs⟩ := all_idx h.2
    refine ⟨x :: xs, rfl, fun y hy => ?_⟩
    rcases List.mem_cons.mp hy with rfl | hy
    · exact hx
    · exact hxs y hy
theorem fir_f {d : D} (h : firB d = true) : ∃ f, d = fD f := by
  cases d with
  | non => exact ⟨none, rfl⟩
  | int i =>
    have h : (decide (0 ≤ i) && decide (i ≤ 1)) = true := h
    rw [Bool.and_eq_true, decide_eq_true_iff, decide_eq_true_iff] at h
    rcases (show i = 0 ∨ i = 1 by omega) with rfl | rfl
    · exact ⟨some false, rfl⟩
    · exact ⟨some true, rfl⟩
  | _ => cases h
theorem nm_str {d : D} (h : nmB d = true) : ∃ x, d = .str x ∧ nameB x = true := by
  cases d with
  | str x => exact ⟨x, rfl, h⟩
  | _ => cases h
theorem cell_nc {n : Nat} {d : D} (h : cellB n d = true) : ∃ c : NC, d = cD c ∧ c.ok n := by
  unfold cellB at h
  split at h
  · rename_i k r
    unfold tailB at h
    split at h
    · rename_i hk
      subst hk
      unfold inB at h
      split at h
      · obtain ⟨x, rfl, hx⟩ := nm_str h
        exact ⟨.inp x, rfl, hx⟩
      · cases h
    split at h
    · rename_i hk
      subst hk
      cases r with
      | nil => exact ⟨.one, rfl, trivial⟩
      | cons a b => cases h
    split at h
    · rename_i hk
      subst hk
      unfold keepB at h
      split at h
      · rw [Bool.and_eq_true, Bool.and_eq_true] at h
        obtain ⟨x, rfl, hx⟩ := nm_str h.1.1
        obtain ⟨f, rfl⟩ := fir_f h.1.2
        obtain ⟨t, rfl, ht⟩ := idx_nat h.2
        exact ⟨.keep x f t, rfl, hx, ht⟩
      · cases h
    · unfold gateB at h
      rw [Bool.and_eq_true, Bool.and_eq_true, decide_eq_true_iff, decide_eq_true_iff] at h
      obtain ⟨⟨h0, h1⟩, h2⟩ := h
      obtain ⟨xs, rfl, hx⟩ := all_idx h2
      rw [nD, List.length_map] at h1
      have hg : ∃ g : G5, k = g.s ∧ arity k = g.n := by
        unfold arity at h0 ⊢
        split at h0
        · rename_i e; exact ⟨.nt, e, by rw [if_pos e]; rfl⟩
        split at h0
        · rename_i e0 e; exact ⟨.an, e, by rw [if_neg e0, if_pos e]; rfl⟩
        split at h0
        · rename_i e0 e1 e; exact ⟨.orr, e, by rw [if_neg e0, if_neg e1, if_pos e]; rfl⟩
        split at h0
        · rename_i e0 e1 e2 e; exact ⟨.xr, e, by rw [if_neg e0, if_neg e1, if_neg e2, if_pos e]; rfl⟩
        split at h0
        · rename_i e0 e1 e2 e3 e; exact ⟨.pk, e, by rw [if_neg e0, if_neg e1, if_neg e2, if_neg e3, if_pos e]; rfl⟩
        · exact absurd rfl h0
      obtain ⟨g, rfl, eg⟩ := hg
      exact ⟨.gate g xs, rfl, by rw [h1, eg], hx⟩
  · cases h
theorem cells_nc {n : Nat} : ∀ {ds : List D}, ds.all (cellB n) = true → ∃ cs : List NC, ds = cs.map cD ∧ ∀ c ∈ cs, c.ok n
  | [], _ => ⟨[], rfl, fun c hc => by cases hc⟩
  | d :: ds, h => by
    rw [List.all_cons, Bool.and_eq_true] at h
    obtain ⟨c, rfl, hc⟩ := cell_nc h.1
    obtain ⟨cs, rfl, hcs⟩ := cells_nc h.2
    refine ⟨c :: cs, rfl, fun x hx => ?_⟩
    rcases List.mem_cons.mp hx with rfl | hx
    · exact hc
    · exact hcs x hx
theorem nms_cs (k : Bool) (cs : List NC) : nms (kS k) (cs.map cD) = cs.filterMap (NC.nm k) := by
  unfold nms
  rw [List.filterMap_map]
  refine congrArg (fun f => cs.filterMap f) (funext fun c => ?_)
  cases c with
  | inp x => cases k <;> rfl
  | one => cases k <;> rfl
  | keep x f t => cases k <;> rfl
  | gate g xs =>
    cases xs with
    | nil => cases g <;> cases k <;> rfl
    | cons y ys => cases g <;> cases k <;> rfl
def pd_is_lot : PD := pdn 1 fun as Q => ∃ (d : D) (m : Nat), as = [d] ∧ Pv m d ∧ m ≤ 60 ∧ Q (.bl (lotB d))
theorem ok_is_lot (T : Txt K w mg) : FnOk P w K mg base CX0 5 T.is_lot.f T.is_lot.fd ["value"] (spP K pd_is_lot) := by
  refine T.is_lot.F.ok sc_is_lot (fun vs H Q E h => lenP h) (fun cdv A outer s H vs Q E hr h => ⟨_, (pss_cons (ps_if (PW.pt (pw_or (pt_not (pt_val (pe_callB TB.call_isiK (by rfl) T.z_isinstance (by decide +kernel) (pa_cons (pv 0) (pa_cons (pe_bltn (v := .ty "tuple") (by rfl) T.z_tuple (by decide +kernel) rfl) pa_nil))))) (pw_or1 (pt_cmpR op_gt (pe_callB call_len_seq (by rfl) T.z_len PySem.boot_len (pa_cons (pv 0) pa_nil)) (pe_glob rfl T.MAX_CELLS.g T.MAX_CELLS.r) (nomark _))))) 
        (pss_one (ps_ret pe_bl)) pss_nil) 
      (pss_cons (ps_if (pt_not (pt_val (pe_callB (cr_all rfl) (by rfl) T.z_all (by decide +kernel) (pa_cons (pe_lc (own := [("cell", 3)]) (by rfl) sc_is_lot.nd (pi_tup (pv 0)) (blkOk_by (own := [("cell", 3)]) (N := ["value", "ports", "kept", "cell"]) (sc := defScope s_is_lot) (by decide +kernel)) (fun _ _ _ _ _ => (pg_name (i := 3) sc_is_lot.nd rfl (.inl rfl))) (fun _ _ _ _ _ => pts_nil) (fun _ _ _ _ _ => (pe_call (ok_is_cell T) (hr.mono (by decide)) (by rfl) T.is_cell.g T.is_cell.F.kp T.is_cell.b .nil pass0 (pa_cons (pv 3) (pa_cons (pe_callB (call_len_seqK (K := K) rfl) (by rfl) T.z_len PySem.boot_len (pa_cons (pv 0) pa_nil)) pa_nil))))) pa_nil)))) 
        (pss_one (ps_ret pe_bl)) pss_nil) 
      (pss_cons (ps_par (i := 1) (j := 2) rfl sc_is_lot.nd rfl rfl (by decide) rfl rfl (pa_cons (pe_call (ok_names_of T) (hr.mono (by decide)) (by rfl) T.names_of.g T.names_of.F.kp T.names_of.b .nil pass0 (pa_cons (pv 0) (pa_cons (pe_glob rfl T.IN.g T.IN.r) pa_nil))) (pa_cons (pe_call (ok_names_of T) (hr.mono (by decide)) (by rfl) T.names_of.g T.names_of.F.kp T.names_of.b .nil pass0 (pa_cons (pv 0) (pa_cons (pe_glob rfl T.KEEP.g T.KEEP.r) pa_nil))) pa_nil)) (by rfl)) 
      (pss_cons (ps_if (PW.pt (pw_or (pt_cmpR op_gt (pe_callB call_len_seq (by rfl) T.z_len PySem.boot_len (pa_cons (pv 1) pa_nil)) (pe_glob rfl T.MAX_NAMED.g T.MAX_NAMED.r) (nomark _)) (pw_or1 (pt_cmpR op_gt (pe_callB call_len_seq (by rfl) T.z_len PySem.boot_len (pa_cons (pv 2) pa_nil)) (pe_glob rfl T.MAX_NAMED.g T.MAX_NAMED.r) (nomark _))))) 
        (pss_one (ps_ret pe_bl)) pss_nil) 
      (pss_one (ps_ret (pe_cmpR op_eq (pe_lenSetX rfl (by rfl) T.z_len (by rfl) T.z_set (pe_op (op_catSK (K := K) rfl) (pv 1) (pv 2))) (pe_op op_add (pe_callB call_len_seq (by rfl) T.z_len PySem.boot_len (pa_cons (pv 1) pa_nil)) (pe_callB call_len_seq (by rfl) T.z_len PySem.boot_len (pa_cons (pv 2) pa_nil))) (nomark _)))))))),
    runP ((sns_seq (sns_if (snd_or (snd_not (snd_b (snd_cb s_isi (.cons (sO 0) (.cons (sE snd_opq) .nil))))) (snd_test (snd_op s_gt (sE (snd_cb s_len (.cons (sO 0) .nil))) (sE snd_int)))) 
          (sns_ret snd_bl) sns_next) 
        (sns_seq (sns_if (snd_not (snd_b (snd_cb s_all (.cons (sE (snd_ne (snd_lc (sni_tup (snd_var 0)) (sgi_name (i := 3) (by decide)) snd_yes (snd_call (sna_cons (snd_var 3) (sna_cons (snd_cb s_len (.cons (sO 0) .nil)) sna_nil)))))) .nil)))) 
          (sns_ret snd_bl) sns_next) 
        (sns_seq (sns_par2 1 2 (sm_e (snd_call (sna_cons (snd_var 0) (sna_cons snd_str sna_nil))) (sm_e (snd_call (sna_cons (snd_var 0) (sna_cons snd_str sna_nil))) sm_nil))) 
        (sns_seq (sns_if (snd_or (snd_test (snd_op s_gt (sE (snd_cb s_len (.cons (sO 1) .nil))) (sE snd_int))) (snd_test (snd_op s_gt (sE (snd_cb s_len (.cons (sO 2) .nil))) (sE snd_int)))) 
          (sns_ret snd_bl) sns_next) 
        (sns_ret (snd_op s_eq (sE (snd_lenSet (sE (snd_op s_catT (sO 1) (sO 2))))) (sE (snd_op s_add (sE (snd_cb s_len (.cons (sO 1) .nil))) (sE (snd_cb s_len (.cons (sO 2) .nil)))))))))))) h (fun as Qd hp => by rw [hp.1]; decide) ?_⟩)
  rintro as Qd ⟨_, d, m, rfl, hd, hm, q⟩
  cases d with
  | tup ds =>
    obtain ⟨m', rfl, hi, hz⟩ := hd.items
    have q : Qd (.bl (decide (ds.length ≤ 6000) && (ds.all (cellB ds.length) && namB (nms "in" ds) (nms "keep" ds)))) := q
    refine ⟨by decide, ifD2 (fun h => ?_) fun h => ?_⟩
    · have h := of_decide_eq_true h
      rw [decide_eq_false (by omega), Bool.false_and] at q
      exact q
    have h := of_decide_eq_false h
    rw [decide_eq_true (by omega), Bool.true_and] at q
    refine ⟨by omega, lcP_y (tD := fun d : D => d) (xs := ds) (List.map_id ds).symm (fun d => .bl (cellB ds.length d)) (fun d hd Y hY => ⟨⟨trivial, trivial⟩, rfl, d, ds.length, m', rfl, hi d hd, by omega, hY⟩) (optD_of (blL_map' (cellB ds.length) ds) ?_)⟩
    rw [all_map']
    refine ifD2 (fun h2 => ?_) fun h2 => ?_
    · rw [Bool.not_eq_true'] at h2
      rw [h2, Bool.false_and] at q
      exact q
    rw [Bool.not_eq_false'] at h2
    rw [h2, Bool.true_and] at q
    obtain ⟨cs, rfl, hcs⟩ := cells_nc h2
    have hl : (cs.map cD).length = cs.length := List.length_map ..
    have q : Qd (.bl (namB (nms (kS false) (cs.map cD)) (nms (kS true) (cs.map cD)))) := q
    rw [nms_cs, nms_cs] at q
    refine ⟨rfl, cs, false, rfl, by omega, rfl, cs, true, rfl, by omega, ?_⟩
    generalize cs.filterMap (NC.nm false) = p1 at q ⊢
    generalize cs.filterMap (NC.nm true) = p2 at q ⊢
    unfold namB at q
    have l1 : ((p1.map D.str).length : Int) = (p1.length : Nat) := by rw [List.length_map]
    have l2 : ((p2.map D.str).length : Int) = (p2.length : Nat) := by rw [List.length_map]
    refine ifD2 (fun h3 => ?_) fun h3 => ifD2 (fun h4 => ?_) fun h4 => ?_
    · have h3 := of_decide_eq_true h3
      rw [decide_eq_false (p := p1.length ≤ 400) (by omega), Bool.false_and] at q
      exact q
    · have h4 := of_decide_eq_true h4
      rw [decide_eq_false (p := p2.length ≤ 400) (by omega), Bool.false_and, Bool.and_false] at q
      exact q
    · have h3 := of_decide_eq_false h3
      have h4 := of_decide_eq_false h4
      rw [decide_eq_true (p := p1.length ≤ 400) (by omega), decide_eq_true (p := p2.length ≤ 400) (by omega), Bool.true_and, Bool.true_and] at q
      have ea : p1.map D.str ++ p2.map D.str = (p1 ++ p2).map D.str := (List.map_append).symm
      have e : decide (V.int (((nub (p1 ++ p2)).length : Nat) : Int) = V.int (((p1.map D.str).length : Int) + ((p2.map D.str).length : Int))) = decide ((nub (p1 ++ p2)).length = p1.length + p2.length) := by
        rw [l1, l2, Bool.eq_iff_iff, decide_eq_true_iff, decide_eq_true_iff]
        constructor
        · intro z
          have := V.int.inj z
          omega
        · intro z
          rw [z, Int.natCast_add]
      have q' : Qd (.bl (decide (V.int (((nub (p1 ++ p2)).length : Nat) : Int) = V.int (((p1.map D.str).length : Int) + ((p2.map D.str).length : Int))))) := by rw [e]; exact q
      exact ⟨by rw [List.length_map, List.length_map]; omega, optD_of (x := p1 ++ p2) ((congrArg strL ea).trans (strL_str _)) ⟨by rw [List.length_append]; omega, rfl, q'⟩⟩
  | _ => first | exact ⟨by decide, q⟩ | cases hd
def onm : D → Option Str
  | .tup (.str x :: _) => some x
  | _ => none
def outB (n : Nat) : D → Bool
  | .tup [a, b] => nmB a && idxB n b
  | _ => false
def outsB (n : Nat) : D → Bool
  | .tup os => decide (os.length ≤ 400) && (os.all (outB n) && decide ((nub (os.filterMap onm)).length = os.length))
  | _ => false
theorem out_o {n : Nat} {d : D} (h : outB n d = true) : ∃ p : Str × Nat, d = oD p ∧ nameB p.1 = true ∧ p.2 < n := by
  unfold outB at h
  split at h
  · rw [Bool.and_eq_true] at h
    obtain ⟨x, rfl, hx⟩ := nm_str h.1
    obtain ⟨t, rfl, ht⟩ := idx_nat h.2
    exact ⟨(x, t), rfl, hx, ht⟩
  · cases h
theorem outs_o {n : Nat} : ∀ {os : List D}, os.all (outB n) = true → ∃ ps : List (Str × Nat), os = ps.map oD ∧ ∀ p ∈ ps, nameB p.1 = true ∧ p.2 < n
  | [], _ => ⟨[], rfl, fun c hc => by cases hc⟩
  | d :: ds, h => by
    rw [List.all_cons, Bool.and_eq_true] at h
    obtain ⟨c, rfl, hc⟩ := out_o h.1
    obtain ⟨cs, rfl, hcs⟩ := outs_o h.2
    refine ⟨c :: cs, rfl, fun x hx => ?_⟩
    rcases List.mem_cons.mp hx with rfl | hx
    · exact hc
    · exact hcs x hx
theorem onm_ps (ps : List (Str × Nat)) : (ps.map oD).filterMap onm = ps.map (·.1) := by
  induction ps with
  | nil => rfl
  | cons p ps ih => rw [List.map_cons, List.filterMap_cons_some (f := onm) (a := oD p) (b := p.1) rfl, ih]; rfl
theorem two_dec {os : List D} : decide (V.int ((os.length : Nat) : Int) = V.int 2) = decide (os.length = 2) := by
  rw [Bool.eq_iff_iff, decide_eq_true_iff, decide_eq_true_iff]
  constructor
  · intro z
    have := V.int.inj z
    omega
  · intro z
    rw [z]
    rfl
theorem two_of {r : List D} (h : r.length = 2) : ∃ a b, r = [a, b] := by
  match r, h with
  | [a, b], _ => exact ⟨a, b, rfl⟩
def pd_is_output : PD := pdn 2 fun as Q => ∃ (d : D) (n m : Nat), as = [d, .int (n : Int)] ∧ Pv m d ∧ Q (.bl (outB n d))
theorem ok_is_output (T : Txt K w mg) : FnOk P w K mg base CX0 3 T.is_output.f T.is_output.fd ["value", "size"] (spP K pd_is_output) := by
  refine T.is_output.F.ok sc_is_output (fun vs H Q E h => lenP h) (fun cdv A outer s H vs Q E hr h => ⟨_, (pss_cons (ps_if (PW.pt (pw_or (pt_not (pt_val (pe_callB TB.call_isiK (by rfl) T.z_isinstance (by decide +kernel) (pa_cons (pv 0) (pa_cons (pe_bltn (v := .ty "tuple") (by rfl) T.z_tuple (by decide +kernel) rfl) pa_nil))))) (pw_or1 (pt_cmpR op_ne (pe_callB call_len_seq (by rfl) T.z_len PySem.boot_len (pa_cons (pv 0) pa_nil)) (pe_glob rfl T.PAIR_SIZE.g T.PAIR_SIZE.r) (nomark _))))) 
        (pss_one (ps_ret pe_bl)) pss_nil) 
      (pss_one (ps_ret (pe_and (pe_call (ok_is_name T) (hr.mono (by decide)) (by rfl) T.is_name.g T.is_name.F.kp T.is_name.b .nil pass0 (pa_cons (pe_ix ix_tup (pv 0) pe_int (fun _ _ => rfl)) pa_nil)) (pe_one (pe_call (ok_is_within T) (hr.mono (by decide)) (by rfl) T.is_within.g T.is_within.F.kp T.is_within.b .nil pass0 (pa_cons (pe_ix ix_tup (pv 0) pe_int (fun _ _ => rfl)) (pa_cons pe_int (pa_cons (pe_op op_sub (pv 1) pe_int) pa_nil))))))))),
    runP ((sns_seq (sns_if (snd_or (snd_not (snd_b (snd_cb s_isi (.cons (sO 0) (.cons (sE snd_opq) .nil))))) (snd_test (snd_op s_ne (sE (snd_cb s_len (.cons (sO 0) .nil))) (sE snd_int)))) 
          (sns_ret snd_bl) sns_next) 
        (sns_ret (snd_andV (snd_call (sna_cons (snd_op s_ixT (sO 0) (sE snd_int)) sna_nil)) (snd_call (sna_cons (snd_op s_ixT (sO 0) (sE snd_int)) (sna_cons snd_int (sna_cons (snd_op s_sub (sO 1) (sE snd_int)) sna_nil)))))))) h (fun as Qd hp => by rw [hp.1]; decide) ?_⟩)
  rintro as Qd ⟨_, d, n, m, rfl, hd, q⟩
  cases d with
  | tup ds =>
    obtain ⟨m', rfl, hi, hz⟩ := hd.items
    refine ⟨by decide, rfl, ifD2 (fun h => ?_) fun h => ?_⟩
    · have h : (!decide (V.int ((ds.length : Nat) : Int) = V.int 2)) = true := h
      rw [two_dec, Bool.not_eq_true'] at h
      have h := of_decide_eq_false h
      have e : outB n (.tup ds) = false := by
        unfold outB
        split
        · rename_i e
          cases e
          exact absurd rfl h
        · rfl
      rw [e] at q
      exact q
    · have h : (!decide (V.int ((ds.length : Nat) : Int) = V.int 2)) = false := h
      rw [two_dec, Bool.not_eq_false'] at h
      obtain ⟨a, b, rfl⟩ := two_of (of_decide_eq_true h)
      have q : Qd (.bl (nmB a && idxB n b)) := q
      refine ⟨rfl, a, m', rfl, hi a (by simp), ?_⟩
      cases e : nmB a with
      | true =>
        rw [e, Bool.true_and] at q
        exact ⟨rfl, b, _, _, rfl, (hi b (by simp)).plain, q⟩
      | false =>
        rw [e] at q
        exact q
  | _ => first | exact ⟨by decide, q⟩ | cases hd
end
end PL
namespace PL
open PySem PySem.Spec PyProof.Rows L2 TB
section
variable {P : Program} {w : World} {K : PySem.W.Frag} {mg : Str → Option Value} {base : Heap}
def pd_are_outputs : PD := pdn 2 fun as Q => ∃ (cs : List D) (d : D) (m : Nat), as = [.tup cs, d] ∧ (Pv m d ∨ d = .dct []) ∧ Q (.bl (outsB cs.length d))
theorem ok_are_outputs (T : Txt K w mg) : FnOk P w K mg base CX0 4 T.are_outputs.f T.are_outputs.fd ["cells", "value"] (spP K pd_are_outputs) := by
  refine T.are_outputs.F.ok sc_are_outputs (fun vs H Q E h => lenP h) (fun cdv A outer s H vs Q E hr h => ⟨_, (pss_cons (ps_if (PW.pt (pw_or (pt_not (pt_val (pe_callB TB.call_isiK (by rfl) T.z_isinstance (by decide +kernel) (pa_cons (pv 1) (pa_cons (pe_bltn (v := .ty "tuple") (by rfl) T.z_tuple (by decide +kernel) rfl) pa_nil))))) (pw_or1 (pt_cmpR op_gt (pe_callB call_len_seq (by rfl) T.z_len PySem.boot_len (pa_cons (pv 1) pa_nil)) (pe_glob rfl T.MAX_NAMED.g T.MAX_NAMED.r) (nomark _))))) 
        (pss_one (ps_ret pe_bl)) pss_nil) 
      (pss_cons (ps_if (pt_not (pt_val (pe_callB (cr_all rfl) (by rfl) T.z_all (by decide +kernel) (pa_cons (pe_lc (own := [("pair", 2)]) (by rfl) sc_are_outputs.nd (pi_tup (pv 1)) (blkOk_by (own := [("pair", 2)]) (N := ["cells", "value", "pair", "name", "index"]) (sc := defScope s_are_outputs) (by decide +kernel)) (fun _ _ _ _ _ => (pg_name (i := 2) sc_are_outputs.nd rfl (.inl rfl))) (fun _ _ _ _ _ => pts_nil) (fun _ _ _ _ _ => (pe_call (ok_is_output T) (hr.mono (by decide)) (by rfl) T.is_output.g T.is_output.F.kp T.is_output.b .nil pass0 (pa_cons (pv 2) (pa_cons (pe_callB (call_len_seqK (K := K) rfl) (by rfl) T.z_len PySem.boot_len (pa_cons (pv 0) pa_nil)) pa_nil))))) pa_nil)))) 
        (pss_one (ps_ret pe_bl)) pss_nil) 
      (pss_one (ps_ret (pe_cmpR op_eq (pe_lenSetX rfl (by rfl) T.z_len (by rfl) T.z_set (pe_lc (own := [("name", 3), ("index", 4)]) (g := gTup K 2 (gCons (gName 3) (gCons (gName 4) gNil))) (by rfl) sc_are_outputs.nd (pi_tup (pv 1)) (blkOk_by (own := [("name", 3), ("index", 4)]) (N := ["cells", "value", "pair", "name", "index"]) (sc := defScope s_are_outputs) (by decide +kernel)) (fun _ _ _ _ _ => (pg_tup rfl (pgs_cons (pg_name (i := 3) sc_are_outputs.nd rfl (.inl rfl)) (pgs_cons (pg_name (i := 4) sc_are_outputs.nd rfl (.inl rfl)) pgs_nil)))) (fun _ _ _ _ _ => pts_nil) (fun _ _ _ _ _ => (pv 3)))) (pe_callB call_len_seq (by rfl) T.z_len PySem.boot_len (pa_cons (pv 1) pa_nil)) (nomark _)))))),
    runP ((sns_seq (sns_if (snd_or (snd_not (snd_b (snd_cb s_isi (.cons (sO 1) (.cons (sE snd_opq) .nil))))) (snd_test (snd_op s_gt (sE (snd_cb s_len (.cons (sO 1) .nil))) (sE snd_int)))) 
          (sns_ret snd_bl) sns_next) 
        (sns_seq (sns_if (snd_not (snd_b (snd_cb s_all (.cons (sE (snd_ne (snd_lc (sni_tup (snd_var 1)) (sgi_name (i := 2) (by decide)) snd_yes (snd_call (sna_cons (snd_var 2) (sna_cons (snd_cb s_len (.cons (sO 0) .nil)) sna_nil)))))) .nil)))) 
          (sns_ret snd_bl) sns_next) 
        (sns_ret (snd_op s_eq (sE (snd_lenSet (sE (snd_ne (snd_lc (sni_tup (snd_var 1)) (sgi_tup (sgi_cons (sgi_name (i := 3) (by decide)) (sgi_cons (sgi_name (i := 4) (by decide)) sgi_nil))) snd_yes (snd_var 3)))))) (sE (snd_cb s_len (.cons (sO 1) .nil)))))))) h (fun as Qd hp => by rw [hp.1]; decide) ?_⟩)
  rintro as Qd ⟨_, cs, d, m, rfl, hd, q⟩
  cases d with
  | tup ds =>
    obtain ⟨m', rfl, hi, hz⟩ := (hd.resolve_right (fun z => by cases z)).items
    have q : Qd (.bl (decide (ds.length ≤ 400) && (ds.all (outB cs.length) && decide ((nub (ds.filterMap onm)).length = ds.length)))) := q
    refine ⟨by decide, ifD2 (fun h => ?_) fun h => ?_⟩
    · have h := of_decide_eq_true h
      rw [decide_eq_false (by omega), Bool.false_and] at q
      exact q
    have h := of_decide_eq_false h
    rw [decide_eq_true (by omega), Bool.true_and] at q
    refine ⟨by omega, lcP_y (tD := fun d : D => d) (xs := ds) (List.map_id ds).symm (fun d => .bl (outB cs.length d)) (fun d hd Y hY => ⟨⟨trivial, trivial⟩, rfl, d, cs.length, m', rfl, hi d hd, hY⟩) (optD_of (blL_map' (outB cs.length) ds) ?_)⟩
    rw [all_map']
    refine ifD2 (fun h2 => ?_) fun h2 => ?_
    · rw [Bool.not_eq_true'] at h2
      rw [h2, Bool.false_and] at q
      exact q
    rw [Bool.not_eq_false'] at h2
    rw [h2, Bool.true_and] at q
    obtain ⟨ps, rfl, hps⟩ := outs_o h2
    rw [onm_ps] at q
    refine ⟨by omega, lcP_y (tD := oD) (xs := ps) rfl (fun c => .str c.1) (fun c hc Y hY => ⟨⟨trivial, trivial, trivial⟩, rfl, hY⟩) ?_⟩
    refine optD_of (strL_map (fun c : Str × Nat => c.1) ps) ⟨by rw [List.length_map] at h ⊢; omega, rfl, ?_⟩
    have e : decide (V.int (((nub (ps.map (·.1))).length : Nat) : Int) = V.int ((ps.map oD).length : Int)) = decide ((nub (ps.map (·.1))).length = (ps.map oD).length) := by
      rw [Bool.eq_iff_iff, decide_eq_true_iff, decide_eq_true_iff]
      exact ⟨fun z => Int.ofNat.inj (V.int.inj z), fun z => by rw [z]⟩
    have q' : Qd (.bl (decide (V.int (((nub (ps.map (·.1))).length : Nat) : Int) = V.int ((ps.map oD).length : Int)))) := by rw [e]; exact q
    exact q'
  | dct es => exact ⟨by decide, q⟩
  | _ => first | exact ⟨by decide, q⟩ | (rcases hd with hd | hd <;> cases hd)
/-! ### nets of any kind -/
def looksD : D → List Nat
  | .tup (.str k :: r) => if arity k = 0 then [] else r.map fun d => match d with | .int i => i.toNat | _ => 0
  | _ => []
theorem looksD_c {c : NC} {n : Nat} (h : c.ok n) : looksD (cD c) = c.looks := by
  cases c with
  | inp x => rfl
  | one => rfl
  | keep x f t => rfl
  | gate g xs =>
    have e : (nD xs).map (fun d => match d with | .int i => i.toNat | _ => 0) = xs := by
      rw [nD, List.map_map]
      exact (List.map_congr_left fun x _ => Int.toNat_natCast x).trans (List.map_id xs)
    cases g <;> exact e
def backF (cs : List NC) (i : Nat) : List Bool := match cs[i]? with
  | some c => c.looks.map fun x => decide (x < i)
  | none => []
def backB (cs : List NC) : Bool := ((List.range cs.length).flatMap (backF cs)).all id
def backD (ds : List D) : Bool := ((List.range ds.length).flatMap fun i => match ds[i]? with
  | some d => (looksD d).map fun x => decide (x < i)
  | none => []).all id
theorem backD_cs {cs : List NC} (h : ∀ c ∈ cs, c.ok cs.length) : backD (cs.map cD) = backB cs := by
  unfold backD backB
  rw [List.length_map]
  refine congrArg (fun f : Nat → List Bool => ((List.range cs.length).flatMap f).all id) (funext fun i => ?_)
  unfold backF
  rw [List.getElem?_map]
  cases e : cs[i]? with
  | none => rfl
  | some c =>
    show (looksD (cD c)).map _ = _
    rw [looksD_c (h c (List.mem_of_getElem? e))]
def netB : D → Bool
  | .tup [.tup cs, o] => lotB (.tup cs) && (outsB cs.length o && backD cs)
  | _ => false
theorem lcP2_y {g : DG} {dt : DT} {di1 : DI} {g1 : DG} {dt1 : DT} {de : DE} {vs vs1 : List Nat} {items : List D} {ρ : Rho} {Q : List D → Rho → Prop} (F : Nat → List D) (k : Nat) (hF : ∀ i, (F i).length ≤ k)
    (h : ∀ (i : Nat) (x : D), items[i]? = some x → ∀ (N : Rho → Prop) (W : List D → Rho → Prop), (∀ (ys : List D) ρ4, ys.length = (F i).length → backR ρ vs ρ4 = ρ → (∀ (j : Nat) (y d : D), ys[j]? = some y → (F i)[j]? = some d → ∀ (N : Rho → Prop) (Y : D → Rho → Prop), Y d ρ4 →
      freeC ρ4 vs1 ∧ g1 y (wipeR ρ4 vs1) fun ρ6 => dt1 ρ6 fun b1 ρ7 => ifD b1 (de ρ7 fun z ρ8 => Y z (backR ρ4 vs1 ρ8)) (N ρ7)) → W ys ρ4) → freeC ρ vs ∧ g x (wipeR ρ vs) fun ρ2 => dt ρ2 fun b ρ3 => ifD b (di1 ρ3 W) (N ρ3))
    (hb : items.length * k ≤ 1000000) (q : Q ((List.range items.length).flatMap F) ρ) : lcP2 g dt di1 g1 dt1 de vs vs1 items ρ Q := by
  have hlen : ∀ i, ((List.range i).flatMap F).length ≤ i * k := fun i => by
    induction i with
    | zero => exact Nat.zero_le _
    | succ i ih =>
      rw [List.range_succ, List.flatMap_append, List.length_append, Nat.succ_mul]
      have := hF i
      show _ + ([i].flatMap F).length ≤ _
      rw [List.flatMap_singleton]
      omega
  refine ⟨fun i ρ' acc => i ≤ items.length ∧ ρ' = ρ ∧ acc = (List.range i).flatMap F, ⟨Nat.zero_le _, rfl, rfl⟩, ?_, ?_⟩
  · rintro i x ρ' acc ex ⟨hi, rfl, rfl⟩
    have hi := (List.getElem?_eq_some_iff.mp ex).1
    refine h i x ex _ _ fun ys ρ4 hk hb4 hy => ?_
    refine ⟨fun j ρ5 acc => j ≤ ys.length ∧ ρ5 = ρ4 ∧ acc = (List.range i).flatMap F ++ (F i).take j, ⟨Nat.zero_le _, rfl, by rw [List.take_zero, List.append_nil]⟩, ?_, ?_⟩
    · rintro j y ρ5 acc ey ⟨hj, rfl, rfl⟩
      have hj := (List.getElem?_eq_some_iff.mp ey).1
      have hj2 : j < (F i).length := by omega
      have ed : (F i)[j]? = some (F i)[j] := List.getElem?_eq_getElem hj2
      have t : i * k + k ≤ items.length * k := by rw [← Nat.succ_mul]; exact Nat.mul_le_mul_right _ hi
      have a1 := hlen i
      have a2 := hF i
      refine hy j y _ ey ed _ (fun z ρ8 => ((List.range i).flatMap F ++ (F i).take j).length ≤ 1000000 ∧ (j + 1 ≤ ys.length ∧ ρ8 = ρ5 ∧ (List.range i).flatMap F ++ (F i).take j ++ [z] = (List.range i).flatMap F ++ (F i).take (j + 1))) ⟨by rw [List.length_append, List.length_take]; omega, hj, rfl, ?_⟩
      rw [List.append_assoc, List.take_succ, ed]
      rfl
    · rintro ρ5 acc ⟨_, rfl, rfl⟩
      refine ⟨hi, hb4, ?_⟩
      rw [hk, List.take_length, List.range_succ, List.flatMap_append, List.flatMap_singleton]
  · rintro ρ' acc ⟨_, rfl, rfl⟩
    exact q
theorem blL_flat {F : Nat → List Bool} : ∀ xs : List Nat, blL (xs.flatMap fun i => (F i).map D.bl) = some (xs.flatMap F)
  | [] => rfl
  | x :: xs => by
    rw [List.flatMap_cons, List.flatMap_cons]
    have : ∀ (a : List Bool) (r : List D) (b : List Bool), blL r = some b → blL (a.map D.bl ++ r) = some (a ++ b) := fun a r b h => by
      induction a with
      | nil => exact h
      | cons c a ih =>
        show (blL (a.map D.bl ++ r)).map (c :: ·) = _
        rw [ih]; rfl
    exact this _ _ _ (blL_flat xs)
theorem lot_cs {d : D} (h : lotB d = true) : ∃ cs : List NC, d = .tup (cs.map cD) ∧ (∀ c ∈ cs, c.ok cs.length) ∧ cs.length ≤ 6000 := by
  unfold lotB at h
  split at h
  · rename_i ds
    rw [Bool.and_eq_true, Bool.and_eq_true, decide_eq_true_iff] at h
    obtain ⟨cs, rfl, hcs⟩ := cells_nc h.2.1
    rw [List.length_map] at h hcs
    exact ⟨cs, rfl, hcs, h.1⟩
  · cases h
theorem looks_len {c : NC} {n : Nat} (h : c.ok n) : c.looks.length ≤ 3 := by
  cases c with
  | gate g xs =>
    show xs.length ≤ 3
    rw [h.1]
    cases g <;> decide
  | _ => exact Nat.zero_le _
def Pn (m : Nat) (d : D) : Prop := Pv m d ∨ d = .dct [] ∨ ∃ a, d = .tup [a, .dct []] ∧ Pv m a
def pd_is_net : PD := pdn 1 fun as Q => ∃ (d : D) (m : Nat), as = [d] ∧ Pn m d ∧ m ≤ 60 ∧ Q (.bl (netB d))
theorem ok_is_net (T : Txt K w mg) : FnOk P w K mg base CX0 6 T.is_net.f T.is_net.fd ["value"] (spP K pd_is_net) := by
  refine T.is_net.F.ok sc_is_net (fun vs H Q E h => lenP h) (fun cdv A outer s H vs Q E hr h => ⟨_, (pss_cons (ps_if (PW.pt (pw_or (pt_not (pt_val (pe_callB TB.call_isiK (by rfl) T.z_isinstance (by decide +kernel) (pa_cons (pv 0) (pa_cons (pe_bltn (v := .ty "tuple") (by rfl) T.z_tuple (by decide +kernel) rfl) pa_nil))))) (pw_or (pt_cmpR op_ne (pe_callB call_len_seq (by rfl) T.z_len PySem.boot_len (pa_cons (pv 0) pa_nil)) (pe_glob rfl T.PAIR_SIZE.g T.PAIR_SIZE.r) (nomark _)) (pw_or1 (pt_not (pt_val (pe_call (ok_is_lot T) (hr.mono (by decide)) (by rfl) T.is_lot.g T.is_lot.F.kp T.is_lot.b .nil pass0 (pa_cons (pe_ix ix_tup (pv 0) pe_int (fun _ _ => rfl)) pa_nil)))))))) 
        (pss_one (ps_ret pe_bl)) pss_nil) 
      (pss_cons (ps_if (pt_not (pt_val (pe_call (ok_are_outputs T) (hr.mono (by decide)) (by rfl) T.are_outputs.g T.are_outputs.F.kp T.are_outputs.b .nil pass0 (pa_cons (pe_ix ix_tup (pv 0) pe_int (fun _ _ => rfl)) (pa_cons (pe_ix ix_tup (pv 0) pe_int (fun _ _ => rfl)) pa_nil))))) 
        (pss_one (ps_ret pe_bl)) pss_nil) 
      (pss_one (ps_ret (pe_callB (cr_all rfl) (by rfl) T.z_all (by decide +kernel) (pa_cons (pe_lc2 (own := [("at", 1), ("cell", 2), ("index", 3)]) (g := gTup K 2 (gCons (gName 1) (gCons (gName 2) gNil))) (vs1 := [3]) (by rfl) sc_is_net.nd (pi_enumT (by rfl) T.z_enumerate (pa_cons (pe_ix ix_tup (pv 0) pe_int (fun _ _ => rfl)) pa_nil)) (blkOk_by (own := [("at", 1), ("cell", 2), ("index", 3)]) (N := ["value", "at", "cell", "index"]) (sc := defScope s_is_net) (by decide +kernel)) (by decide) (fun _ _ _ _ _ => (pg_tup rfl (pgs_cons (pg_name (i := 1) sc_is_net.nd rfl (.inl rfl)) (pgs_cons (pg_name (i := 2) sc_is_net.nd rfl (.inl rfl)) pgs_nil)))) (fun _ _ _ _ _ => pts_nil) (fun _ _ _ _ _ => (pi_tup (pe_call (ok_looks_of T) (hr.mono (by decide)) (by rfl) T.looks_of.g T.looks_of.F.kp T.looks_of.b .nil pass0 (pa_cons (pv 2) pa_nil)))) (fun _ _ _ _ _ => (pg_name (i := 3) sc_is_net.nd rfl (.inl rfl))) (fun _ _ _ _ _ => pts_nil) (fun _ _ _ _ _ => (pe_cmpR op_lt (pv 3) (pv 1) (nomark _)))) pa_nil)))))),
    runP ((sns_seq (sns_if (snd_or (snd_not (snd_b (snd_cb s_isi (.cons (sO 0) (.cons (sE snd_opq) .nil))))) (snd_or (snd_test (snd_op s_ne (sE (snd_cb s_len (.cons (sO 0) .nil))) (sE snd_int))) (snd_not (snd_b (snd_call (sna_cons (snd_op s_ixT (sO 0) (sE snd_int)) sna_nil)))))) 
          (sns_ret snd_bl) sns_next) 
        (sns_seq (sns_if (snd_not (snd_b (snd_call (sna_cons (snd_op s_ixT (sO 0) (sE snd_int)) (sna_cons (snd_op s_ixT (sO 0) (sE snd_int)) sna_nil))))) 
          (sns_ret snd_bl) sns_next) 
        (sns_ret (snd_cb s_all (.cons (sE (snd_ne (snd_lc2 (sni_enumT (sna_cons (snd_op s_ixT (sO 0) (sE snd_int)) sna_nil)) (sgi_tup (sgi_cons (sgi_name (i := 1) (by decide)) (sgi_cons (sgi_name (i := 2) (by decide)) sgi_nil))) snd_yes (sni_tup (snd_call (sna_cons (snd_var 2) sna_nil))) (sgi_name (i := 3) (by decide)) snd_yes (snd_op s_lt (sO 3) (sO 1))))) .nil)))))) h (fun as Qd hp => by rw [hp.1]; decide) ?_⟩)
  rintro as Qd ⟨_, d, m, rfl, hd, hm, q⟩
  cases d with
  | tup ds =>
    have hl : ds.length = 2 → ∃ a b, ds = [a, b] ∧ Pv m a ∧ (Pv m b ∨ b = .dct []) := fun h => by
      rcases hd with hd | hd | ⟨a, hd, ha⟩
      · obtain ⟨m', rfl, hi, hz⟩ := hd.items
        obtain ⟨a, b, rfl⟩ := two_of h
        exact ⟨a, b, rfl, (hi a (by simp)).up, .inl (hi b (by simp)).up⟩
      · cases hd
      · cases hd
        exact ⟨a, _, rfl, ha, .inr rfl⟩
    refine ⟨by decide, rfl, ifD2 (fun h => ?_) fun h => ?_⟩
    · have h : (!decide (V.int ((ds.length : Nat) : Int) = V.int 2)) = true := h
      rw [two_dec, Bool.not_eq_true'] at h
      have h := of_decide_eq_false h
      have e : netB (.tup ds) = false := by
        unfold netB
        split
        · rename_i e
          cases e
          exact absurd rfl h
        · rfl
      rw [e] at q
      exact q
    have h : (!decide (V.int ((ds.length : Nat) : Int) = V.int 2)) = false := h
    rw [two_dec, Bool.not_eq_false'] at h
    obtain ⟨a, b, rfl, ha, hb⟩ := hl (of_decide_eq_true h)
    refine ⟨rfl, a, m, rfl, ha, hm, ifD2 (fun h2 => ?_) fun h2 => ?_⟩
    · rw [Bool.not_eq_true'] at h2
      have e : netB (.tup [a, b]) = false := by
        unfold netB
        split
        · rename_i e
          cases e
          rw [h2]
          rfl
        · rfl
      rw [e] at q
      exact q
    · rw [Bool.not_eq_false'] at h2
      obtain ⟨cs, rfl, hcs, h6⟩ := lot_cs h2
      have q : Qd (.bl (lotB (.tup (cs.map cD)) && (outsB (cs.map cD).length b && backD (cs.map cD)))) := q
      rw [h2, Bool.true_and, backD_cs hcs] at q
      refine ⟨rfl, cs.map cD, b, m, rfl, hb, ifD2 (fun h3 => ?_) fun h3 => ?_⟩
      · rw [Bool.not_eq_true'] at h3
        rw [h3, Bool.false_and] at q
        exact q
      · rw [Bool.not_eq_false'] at h3
        rw [h3, Bool.true_and] at q
        refine lcP2_y (fun i => (backF cs i).map D.bl) 3 (fun i => ?_) (fun i x e N W hW => ?_) (by rw [enD_len, List.length_map]; omega) (optD_of (x := (List.range (enD 0 (cs.map cD)).length).flatMap (backF cs)) (blL_flat _) ?_)
        · rw [List.length_map]
          unfold backF
          split
          · rename_i c e
            rw [List.length_map]
            exact looks_len (hcs c (List.mem_of_getElem? e))
          · exact Nat.zero_le _
        · obtain ⟨d, e1, rfl⟩ := enD_get e
          obtain ⟨c, e2, rfl⟩ := getMp e1
          refine ⟨⟨trivial, trivial, trivial, trivial⟩, rfl, rfl, c, rfl, hW _ _ ?_ rfl fun j y d ey ed N Y hY => ?_⟩
          · show (nD c.looks).length = ((backF cs i).map D.bl).length
            unfold backF
            rw [e2, List.length_map, List.length_map]; exact List.length_map ..
          · obtain ⟨x, e3, rfl⟩ := getMp ey
            have ed2 : d = .bl (decide (x < i)) := by
              unfold backF at ed
              rw [e2] at ed
              obtain ⟨z, ez, rfl⟩ := getMp ed
              obtain ⟨y, ey2, rfl⟩ := getMp ez
              rw [e3] at ey2
              cases ey2
              rfl
            have e4 : decide ((x : Int) < ((0 + i : Nat) : Int)) = decide (x < i) := by
              rw [Bool.eq_iff_iff, decide_eq_true_iff, decide_eq_true_iff]
              omega
            refine ⟨⟨trivial, trivial⟩, ?_⟩
            show Y (.bl (decide ((x : Int) < ((0 + i : Nat) : Int)))) _
            rw [e4, ← ed2]
            exact hY
        · rw [enD_len, List.length_map]
          exact q
  | dct es => exact ⟨by decide, q⟩
  | _ => first | exact ⟨by decide, q⟩ | (rcases hd with hd | hd | ⟨a, hd, _⟩ <;> cases hd)
end
end PL
namespace PL
open PySem PySem.Spec PyProof.Rows L2 TB
section
variable {P : Program} {w : World} {K : PySem.W.Frag} {mg : Str → Option Value} {base : Heap}
/-! ### the law's own looks -/
def pd__law_is_index : PD := pdn 2 fun as Q => ∃ (d : D) (n m : Nat), as = [d, .int (n : Int)] ∧ Pv m d ∧ Q (.bl (idxB n d))
theorem ok__law_is_index (T : Txt K w mg) : FnOk P w K mg base CX0 1 T._law_is_index.f T._law_is_index.fd ["_law_value", "_law_size"] (spP K pd__law_is_index) := by
  refine T._law_is_index.F.ok sc__law_is_index (fun vs H Q E h => lenP h) (fun cdv A outer s H vs Q E hr h => ⟨_, (pss_one (ps_ret (pe_and (pe_callB TB.call_isiK (by rfl) T.z_isinstance (by decide +kernel) (pa_cons (pv 0) (pa_cons (pe_bltn (v := .ty "int") (by rfl) T.z_int (by decide +kernel) rfl) pa_nil))) (pe_and (pe_not (pe_callB TB.call_isiK (by rfl) T.z_isinstance (by decide +kernel) (pa_cons (pv 0) (pa_cons (pe_bltn (v := .ty "bool") (by rfl) T.z_bool (by decide +kernel) rfl) pa_nil)))) (pe_one (pe_chain op_le op_lt pe_int (pv 0) (pv 1))))))),
    runP ((sns_ret (snd_andV (snd_cb s_isi (.cons (sO 0) (.cons (sE snd_opq) .nil))) (snd_andV (snd_notV (snd_cb s_isi (.cons (sO 0) (.cons (sE snd_opq) .nil)))) (snd_chain s_le s_lt snd_int (snd_var 0) (snd_var 1)))))) h (fun as Qd hp => by rw [hp.1]; decide) ?_⟩)
  rintro as Qd ⟨_, d, n, m, rfl, hd, q⟩
  cases hd with
  | int i =>
    have q : Qd (.bl (decide (0 ≤ i) && decide (i ≤ (n : Int) - 1))) := q
    refine ⟨by decide, by decide, ifDd (fun h => ?_) fun h => ?_⟩
    · rw [decide_eq_true h, Bool.true_and] at q
      have e : decide (i < (n : Int)) = decide (i ≤ (n : Int) - 1) := by
        rw [Bool.eq_iff_iff, decide_eq_true_iff, decide_eq_true_iff]
        omega
      have q' : Qd (.bl (decide (i < (n : Int)))) := by rw [e]; exact q
      exact q'
    · rw [decide_eq_false h, Bool.false_and] at q
      exact q
  | bl b => exact ⟨by decide, by decide, q⟩
  | _ => exact ⟨by decide, q⟩
def signB (c : Nat) : Bool := (decide (97 ≤ c) && decide (c ≤ 122)) || ((decide (48 ≤ c) && decide (c ≤ 57)) || (decide (c = 95) || decide (c = 46)))
theorem low_more : ∀ c ∈ moreS, c < 128 := by decide +kernel
theorem sign_tab : ∀ c, c < 128 → decide (c ∈ moreS) = signB c := by decide +kernel
theorem sign_more (c : Nat) : decide (c ∈ moreS) = signB c := by
  by_cases h : c < 128
  · exact sign_tab c h
  · rw [decide_eq_false (fun z => h (low_more c z))]
    unfold signB
    rw [decide_eq_false (p := c ≤ 122) (by omega), decide_eq_false (p := c ≤ 57) (by omega), decide_eq_false (p := c = 95) (by omega), decide_eq_false (p := c = 46) (by omega), Bool.and_false, Bool.and_false]
    rfl
theorem low_first : ∀ c ∈ firstS, c < 128 := by decide +kernel
theorem first_tab : ∀ c, c < 128 → decide (c ∈ firstS) = (decide (97 ≤ c) && decide (c ≤ 122)) := by decide +kernel
theorem sign_first (c : Nat) : decide (c ∈ firstS) = (decide (97 ≤ c) && decide (c ≤ 122)) := by
  by_cases h : c < 128
  · exact first_tab c h
  · rw [decide_eq_false (fun z => h (low_first c z)), decide_eq_false (p := c ≤ 122) (by omega), Bool.and_false]
theorem lt_one (a b : Nat) : decide ([a] < [b]) = decide (a < b) := by
  rw [Bool.eq_iff_iff, decide_eq_true_iff, decide_eq_true_iff, List.cons_lt_cons_iff]
  constructor
  · rintro (h | ⟨_, h⟩)
    · exact h
    · exact absurd h (List.lt_irrefl _)
  · exact fun h => .inl h
theorem le_one (a b : Nat) : (!decide ([b] < [a])) = decide (a ≤ b) := by
  rw [lt_one, Bool.eq_iff_iff, Bool.not_eq_true', decide_eq_false_iff_not, decide_eq_true_iff]
  omega
theorem in_two (c a b : Nat) : inV (.str ⟨#[c]⟩) [.str ⟨#[a]⟩, .str ⟨#[b]⟩] = (decide (c = a) || decide (c = b)) := by
  have e : ∀ x y : Nat, eqV (V.str ⟨#[x]⟩) (V.str ⟨#[y]⟩) = decide (y = x) := fun x y => by
    show decide _ = _
    rw [Bool.eq_iff_iff, decide_eq_true_iff, decide_eq_true_iff]
    constructor
    · intro h
      cases h
      rfl
    · intro h
      rw [h]
  unfold inV
  rw [List.any_cons, List.any_cons, List.any_nil, e, e, Bool.or_false]
theorem noT {b : Bool} (h : (!b) = true) : b = false := by cases b <;> first | rfl | cases h
theorem noF {b : Bool} (h : (!b) = false) : b = true := by cases b <;> first | rfl | cases h
theorem sigA {c : Nat} (h1 : (!decide ([c] < [97])) = true) (h2 : (!decide ([122] < [c])) = true) : signB c = true := by
  rw [le_one] at h1 h2
  unfold signB
  rw [h1, h2]
  rfl
theorem sigB {c : Nat} (h1 : (!decide ([c] < [48])) = true) (h2 : (!decide ([57] < [c])) = true) : signB c = true := by
  rw [le_one] at h1 h2
  unfold signB
  rw [h1, h2, Bool.true_and, Bool.true_or, Bool.or_true]
theorem sigC {c : Nat} (h : inV (.str ⟨#[c]⟩) [.str "_", .str "."] = true) : signB c = true := by
  have h : inV (.str ⟨#[c]⟩) [.str ⟨#[95]⟩, .str ⟨#[46]⟩] = true := h
  rw [in_two] at h
  unfold signB
  rw [h, Bool.or_true, Bool.or_true]
theorem sigF {c : Nat} (h1 : (!decide ([c] < [97])) = false ∨ (!decide ([122] < [c])) = false) (h2 : (!decide ([c] < [48])) = false ∨ (!decide ([57] < [c])) = false) (h3 : inV (.str ⟨#[c]⟩) [.str "_", .str "."] = false) : signB c = false := by
  have h3 : inV (.str ⟨#[c]⟩) [.str ⟨#[95]⟩, .str ⟨#[46]⟩] = false := h3
  rw [in_two] at h3
  rw [le_one, le_one] at h1 h2
  unfold signB
  rw [h3, Bool.or_false]
  rcases h1 with h1 | h1 <;> rcases h2 with h2 | h2 <;> rw [h1, h2] <;> simp
theorem ones_cmp {α : Type} (p : α → Bool) (xs : List α) : CmpOk (.lst (xs.filterMap fun x => if p x = true then some (.int 1) else none)) := (CmpD.lst (n := 0) fun y hy => by
  obtain ⟨x, _, h⟩ := List.mem_filterMap.mp hy
  split at h
  · cases h
    exact .int _
  · cases h).ok
theorem ones_eq {α : Type} (p : α → Bool) : ∀ xs : List α, eqD (.lst (xs.filterMap fun x => if p x = true then some (.int 1) else none)) (.lst []) = !(xs.any p)
  | [] => rfl
  | x :: xs => by
    cases e : p x with
    | true =>
      rw [List.filterMap_cons_some (by rw [e]; rfl), List.any_cons, e]
      rfl
    | false =>
      rw [List.filterMap_cons_none (by rw [e]; rfl), List.any_cons, e, ones_eq p xs]
      rfl
theorem nil_cmp : CmpOk (.lst []) := (CmpD.lst (n := 0) fun y hy => by cases hy).ok
def pd__law_is_name : PD := pdn 1 fun as Q => ∃ (d : D) (n : Nat), as = [d] ∧ Pv n d ∧ Q (.bl (nmB d))
theorem ok__law_is_name (T : Txt K w mg) : FnOk P w K mg base CX0 1 T._law_is_name.f T._law_is_name.fd ["_law_value"] (spP K pd__law_is_name) := by
  refine T._law_is_name.F.ok sc__law_is_name (fun vs H Q E h => lenP h) (fun cdv A outer s H vs Q E hr h => ⟨_, (pss_cons (ps_if (PW.pt (pw_or (pt_not (pt_val (pe_callB TB.call_isiK (by rfl) T.z_isinstance (by decide +kernel) (pa_cons (pv 0) (pa_cons (pe_bltn (v := .ty "str") (by rfl) T.z_str (by decide +kernel) rfl) pa_nil))))) (pw_or (pt_not (pt_chain op_le op_le pe_int (pe_callB call_len_str (by rfl) T.z_len PySem.boot_len (pa_cons (pv 0) pa_nil)) pe_int)) (pw_or1 (pt_not (pt_chain op_le_str op_le_str pe_str (pe_ix ix_str (pv 0) pe_int (fun _ _ => rfl)) pe_str)))))) 
        (pss_one (ps_ret pe_bl)) pss_nil) 
      (pss_one (ps_ret (pe_cmpR (op_eqDK (K := K) rfl hr.units) (pe_lc (own := [("_law_sign", 1)]) (by rfl) sc__law_is_name.nd (pi_str (pv 0)) (blkOk_by (own := [("_law_sign", 1)]) (N := ["_law_value", "_law_sign"]) (sc := defScope s__law_is_name) (by decide +kernel)) (fun _ _ _ _ _ => (pg_name (i := 1) sc__law_is_name.nd rfl (.inl rfl))) (fun _ _ _ _ _ => (pts_one (pt_not (PW.pt (pw_or (pt_chain op_le_str op_le_str pe_str (pv 1) pe_str) (pw_or (pt_chain op_le_str op_le_str pe_str (pv 1) pe_str) (pw_or1 (pt_cmpR (op_in_seqK (K := K) rfl) (pv 1) (pe_tup (pa_cons pe_str (pa_cons pe_str pa_nil))) rfl)))))))) (fun _ _ _ _ _ => pe_int)) (pe_lstA pa_nil) (nomark _))))),
    runP ((sns_seq (sns_if (snd_or (snd_not (snd_b (snd_cb s_isi (.cons (sO 0) (.cons (sE snd_opq) .nil))))) (snd_or (snd_not (snd_test (snd_chain s_le s_le snd_int (snd_cb s_lenS (.cons (sO 0) .nil)) snd_int))) (snd_not (snd_test (snd_chain s_leS s_leS snd_str (snd_op s_ixS (sO 0) (sE snd_int)) snd_str))))) 
          (sns_ret snd_bl) sns_next) 
        (sns_ret (snd_op s_eqD (sE (snd_ne (snd_lc (sni_str (snd_var 0)) (sgi_name (i := 1) (by decide)) (snd_not (snd_or (snd_test (snd_chain s_leS s_leS snd_str (snd_var 1) snd_str)) (snd_or (snd_test (snd_chain s_leS s_leS snd_str (snd_var 1) snd_str)) (snd_test (snd_op (s_in false) (sO 1) (sE (snd_tup (sna_cons snd_str (sna_cons snd_str sna_nil))))))))) snd_int))) (sE (snd_ne (snd_lst sna_nil))))))) h (fun as Qd hp => by rw [hp.1]; decide) ?_⟩)
  rintro as Qd ⟨_, d, n, rfl, hd, q⟩
  cases hd with
  | str x hx hz =>
    have q : Qd (.bl (nameB x)) := q
    refine ⟨by decide, hz, ifD2 (fun h1 => ?_) fun h1 => ?_⟩
    · refine ifD2 (fun h2 => ?_) fun h2 => ?_
      · rw [Bool.not_eq_true'] at h2
        have h2 := of_decide_eq_false h2
        have e : nameB x = false := by
          unfold nameB
          rw [decide_eq_false (by omega)]
          rfl
        rw [e] at q
        exact q
      · rw [Bool.not_eq_false'] at h2
        have h1 := of_decide_eq_true h1
        have h2 := of_decide_eq_true h2
        unfold nameB at q
        rw [decide_eq_true (by omega), Bool.true_and] at q
        have hlx : x.cps.toList.length = x.length := by rw [Array.length_toList]; rfl
        cases ex : x.cps.toList with
        | nil =>
          rw [ex] at hlx
          have : (0 : Nat) = x.length := hlx
          omega
        | cons c r =>
          rw [ex] at q
          have q : Qd (.bl (decide (c ∈ firstS) && (c :: r).all fun c => decide (c ∈ moreS))) := q
          rw [sign_first] at q
          refine ⟨hz, optD_of (x := c) (atD (j := 0) rfl (by rw [ex]; rfl)) (ifD2 (fun h3 => ifD2 (fun h4 => ?_) fun h4 => ?_) fun h3 => ?_)⟩
          · have h4 : (!(!decide ([122] < [c]))) = true := h4
            rw [le_one, Bool.not_eq_true'] at h4
            rw [h4, Bool.and_false] at q
            exact q
          · have h3 : (!decide ([c] < [97])) = true := h3
            have h4 : (!(!decide ([122] < [c]))) = false := h4
            rw [le_one] at h3
            rw [le_one, Bool.not_eq_false'] at h4
            rw [h3, h4, Bool.true_and, Bool.true_and] at q
            rw [← ex] at q
            refine ⟨len_le (k := 24) (by rw [hlx]; omega) (by decide), lcP_x (tD := fun c => .str ⟨#[c]⟩) (xs := x.cps.toList) rfl (fun c => if (!signB c) = true then some (.int 1) else none) (fun c hc N Y hN hY => ⟨⟨trivial, trivial⟩, ?_⟩) ?_⟩
            · have n1 : signB c = true → _ := fun e => hN (if_neg (by rw [e]; decide))
              have y1 : signB c = false → _ := fun e => hY _ (if_pos (by rw [e]; rfl))
              exact ifD2 (fun h1 => ifD2 (fun h2 => n1 (sigA h1 h2)) fun h2 => ifD2 (fun h3 => ifD2 (fun h4 => n1 (sigB h3 h4)) fun h4 => ifD2 (fun h5 => y1 (sigF (.inr h2) (.inr h4) (noT h5))) fun h5 => n1 (sigC (noF h5))) fun h3 => ifD2 (fun h5 => y1 (sigF (.inr h2) (.inl h3) (noT h5))) fun h5 => n1 (sigC (noF h5)))
                fun h1 => ifD2 (fun h3 => ifD2 (fun h4 => n1 (sigB h3 h4)) fun h4 => ifD2 (fun h5 => y1 (sigF (.inl h1) (.inr h4) (noT h5))) fun h5 => n1 (sigC (noF h5))) fun h3 => ifD2 (fun h5 => y1 (sigF (.inl h1) (.inl h3) (noT h5))) fun h5 => n1 (sigC (noF h5))
            · refine ⟨⟨ones_cmp _ _, nil_cmp⟩, ?_⟩
              have e4 : eqD (.lst (x.cps.toList.filterMap fun c => if (!signB c) = true then some (.int 1) else none)) (.lst []) = x.cps.toList.all (fun c => decide (c ∈ moreS)) := by
                rw [ones_eq, List.all_eq_not_any_not]
                refine congrArg (fun f => !x.cps.toList.any f) (funext fun c => ?_)
                rw [sign_more]
              have q' : Qd (.bl (eqD (.lst (x.cps.toList.filterMap fun c => if (!signB c) = true then some (.int 1) else none)) (.lst []))) := by rw [e4]; exact q
              exact q'
          · have h3 : (!decide ([c] < [97])) = false := h3
            rw [le_one] at h3
            rw [h3] at q
            exact q
    · have h1 := of_decide_eq_false h1
      have e : nameB x = false := by
        unfold nameB
        rw [decide_eq_false (by omega)]
        rfl
      rw [e] at q
      exact q
  | _ => exact ⟨by decide, q⟩
end
end PL
namespace PL
open PySem PySem.Spec PyProof.Rows L2 TB
section
variable {P : Program} {w : World} {K : PySem.W.Frag} {mg : Str → Option Value} {base : Heap}
theorem idx_all (n : Nat) (r : List D) : eqD (.lst (r.filterMap fun d => if (!idxB n d) = true then some (.int 1) else none)) (.lst []) = r.all (idxB n) := by
  rw [ones_eq, List.all_eq_not_any_not]
def pd__law_is_cell : PD := pdn 2 fun as Q => ∃ (d : D) (n m : Nat), as = [d, .int (n : Int)] ∧ Pv m d ∧ m ≤ 60 ∧ Q (.bl (cellB n d))
theorem ok__law_is_cell (T : Txt K w mg) : FnOk P w K mg base CX0 2 T._law_is_cell.f T._law_is_cell.fd ["_law_value", "_law_size"] (spP K pd__law_is_cell) := by
  refine T._law_is_cell.F.ok sc__law_is_cell (fun vs H Q E h => lenP h) (fun cdv A outer s H vs Q E hr h => ⟨_, (pss_cons (ps_if (PW.pt (pw_or (pt_not (pt_val (pe_callB TB.call_isiK (by rfl) T.z_isinstance (by decide +kernel) (pa_cons (pv 0) (pa_cons (pe_bltn (v := .ty "tuple") (by rfl) T.z_tuple (by decide +kernel) rfl) pa_nil))))) (pw_or (pt_cmpR (op_eqDK (K := K) rfl hr.units) (pv 0) (pe_tup pa_nil) (nomark _)) (pw_or1 (pt_not (pt_val (pe_callB TB.call_isiK (by rfl) T.z_isinstance (by decide +kernel) (pa_cons (pe_ix ix_tup (pv 0) pe_int (fun _ _ => rfl)) (pa_cons (pe_bltn (v := .ty "str") (by rfl) T.z_str (by decide +kernel) rfl) pa_nil))))))))) 
        (pss_one (ps_ret pe_bl)) pss_nil) 
      (pss_cons (ps_set (i := 2) sc__law_is_cell.nd rfl (.inl rfl) (pe_dget2 (hu_of hr) (pe_disp (pps_cons pe_str pe_int (pps_cons pe_str pe_int (pps_cons pe_str pe_int (pps_cons pe_str pe_int (pps_cons pe_str pe_int (pps_cons pe_str pe_int (pps_cons pe_str pe_int (pps_cons pe_str pe_int pps_nil)))))))) (by rfl) (by rfl) nofun (by show 8 ≤ 15; decide)) (pe_ix ix_tup (pv 0) pe_int (fun _ _ => rfl)) pe_int ⟨by rfl, by rfl, by rfl, by rfl⟩)) 
      (pss_cons (ps_if (pt_cmpR op_ne (pe_callB call_len_seq (by rfl) T.z_len PySem.boot_len (pa_cons (pv 0) pa_nil)) (pv 2) (nomark _)) 
        (pss_one (ps_ret pe_bl)) pss_nil) 
      (pss_cons (ps_if (pt_cmpR op_in_seq (pe_ix ix_tup (pv 0) pe_int (fun _ _ => rfl)) (pe_tup (pa_cons pe_str (pa_cons pe_str pa_nil))) rfl) 
        (pss_cons (ps_if (pt_not (pt_val (pe_call (ok__law_is_name T) (hr.mono (by decide)) (by rfl) T._law_is_name.g T._law_is_name.F.kp T._law_is_name.b .nil pass0 (pa_cons (pe_ix ix_tup (pv 0) pe_int (fun _ _ => rfl)) pa_nil)))) 
          (pss_one (ps_ret pe_bl)) pss_nil) 
        (pss_cons (ps_set (i := 3) sc__law_is_cell.nd rfl (.inl rfl) (pe_or (pe_cmpR op_eq (pe_ix ix_tup (pv 0) pe_int (fun _ _ => rfl)) pe_str (nomark _)) (pe_or (pe_cmpR op_isN (pe_ix ix_tup (pv 0) pe_int (fun _ _ => rfl)) pe_non (nomark _)) (pe_one (pe_call (ok__law_is_index T) (hr.mono (by decide)) (by rfl) T._law_is_index.g T._law_is_index.F.kp T._law_is_index.b .nil pass0 (pa_cons (pe_ix ix_tup (pv 0) pe_int (fun _ _ => rfl)) (pa_cons pe_int pa_nil))))))) 
        (pss_one (ps_ret (pe_and (pv 3) (pe_one (pe_or (pe_cmpR op_eq (pe_ix ix_tup (pv 0) pe_int (fun _ _ => rfl)) pe_str (nomark _)) (pe_one (pe_call (ok__law_is_index T) (hr.mono (by decide)) (by rfl) T._law_is_index.g T._law_is_index.F.kp T._law_is_index.b .nil pass0 (pa_cons (pe_ix ix_tup (pv 0) pe_int (fun _ _ => rfl)) (pa_cons (pv 1) pa_nil))))))))))) pss_nil) 
      (pss_one (ps_ret (pe_cmpR (op_eqDK (K := K) rfl hr.units) (pe_lc (own := [("_law_index", 4)]) (by rfl) sc__law_is_cell.nd (pi_tup (pe_slice (sl_tupleSK (K := K) rfl) (pv 0) (po_some pe_int) po_none)) (blkOk_by (own := [("_law_index", 4)]) (N := ["_law_value", "_law_size", "_law_many", "_law_is_first", "_law_index"]) (sc := defScope s__law_is_cell) (by decide +kernel)) (fun _ _ _ _ _ => (pg_name (i := 4) sc__law_is_cell.nd rfl (.inl rfl))) (fun _ _ _ _ _ => (pts_one (pt_not (pt_val (pe_call (ok__law_is_index T) (hr.mono (by decide)) (by rfl) T._law_is_index.g T._law_is_index.F.kp T._law_is_index.b .nil pass0 (pa_cons (pv 4) (pa_cons (pv 1) pa_nil))))))) (fun _ _ _ _ _ => pe_int)) (pe_lstA pa_nil) (nomark _)))))))),
    runP ((sns_seq (sns_if (snd_or (snd_not (snd_b (snd_cb s_isi (.cons (sO 0) (.cons (sE snd_opq) .nil))))) (snd_or (snd_test (snd_op s_eqD (sO 0) (sE (snd_tup sna_nil)))) (snd_not (snd_b (snd_cb s_isi (.cons (sE (snd_op s_ixT (sO 0) (sE snd_int))) (.cons (sE snd_opq) .nil))))))) 
          (sns_ret snd_bl) sns_next) 
        (sns_seq (sns_asg (snd_dget2 (sE (snd_ne (snd_disp (.cons snd_str snd_int (.cons snd_str snd_int (.cons snd_str snd_int (.cons snd_str snd_int (.cons snd_str snd_int (.cons snd_str snd_int (.cons snd_str snd_int (.cons snd_str snd_int .nil)))))))) (by show 8 ≤ 15; decide)))) (sE (snd_op s_ixT (sO 0) (sE snd_int))) snd_int) (sng_name 2)) 
        (sns_seq (sns_if (snd_test (snd_op s_ne (sE (snd_cb s_len (.cons (sO 0) .nil))) (sO 2))) 
          (sns_ret snd_bl) sns_next) 
        (sns_seq (sns_if (snd_test (snd_op (s_in false) (sE (snd_op s_ixT (sO 0) (sE snd_int))) (sE (snd_tup (sna_cons snd_str (sna_cons snd_str sna_nil)))))) 
          (sns_seq (sns_if (snd_not (snd_b (snd_call (sna_cons (snd_op s_ixT (sO 0) (sE snd_int)) sna_nil)))) 
            (sns_ret snd_bl) sns_next) 
          (sns_seq (sns_asg (snd_orV (snd_op s_eq (sE (snd_op s_ixT (sO 0) (sE snd_int))) (sE snd_str)) (snd_orV (snd_op s_isN (sE (snd_op s_ixT (sO 0) (sE snd_int))) (sE snd_non)) (snd_call (sna_cons (snd_op s_ixT (sO 0) (sE snd_int)) (sna_cons snd_int sna_nil))))) (sng_name 3)) 
          (sns_ret (snd_andV (snd_var 3) (snd_orV (snd_op s_eq (sE (snd_op s_ixT (sO 0) (sE snd_int))) (sE snd_str)) (snd_call (sna_cons (snd_op s_ixT (sO 0) (sE snd_int)) (sna_cons (snd_var 1) sna_nil)))))))) sns_next) 
        (sns_ret (snd_op s_eqD (sE (snd_ne (snd_lc (sni_tup (snd_sl s_slT (sO 0) (snp_some snd_int) snp_none)) (sgi_name (i := 4) (by decide)) (snd_not (snd_b (snd_call (sna_cons (snd_var 4) (sna_cons (snd_var 1) sna_nil))))) snd_int))) (sE (snd_ne (snd_lst sna_nil)))))))))) h (fun as Qd hp => by rw [hp.1]; decide) ?_⟩)
  rintro as Qd ⟨_, d, n, m, rfl, hd, hm, q⟩
  have ce : CmpOk (.tup []) := (CmpD.tup (n := 0) (fun x hx => by cases hx)).ok
  have cc := hd.cmp.ok (by omega)
  cases d with
  | tup ds =>
    obtain ⟨m', rfl, hi, hz⟩ := hd.items
    refine ⟨by decide, ⟨cc, ce⟩, ?_⟩
    cases ds with
    | nil => exact q
    | cons d r =>
      refine optD_of (x := d) at0 ?_
      have h0 := hi d List.mem_cons_self
      cases h0 with
      | str k hk hkz =>
        have q : Qd (.bl (tailB n k r)) := q
        have hp : ∀ d ∈ r, Pv m' d := fun d hd => hi d (List.mem_cons_of_mem _ hd)
        unfold tailB at q
        refine ⟨by decide, trivial, optD_of (x := .str k) at0 ?_⟩
        by_cases e1 : k = "in"
        · subst e1
          rw [if_pos rfl] at q
          refine ⟨_, rfl, rfl, ifD2 (fun h => ?_) fun h => ?_⟩
          · rw [Bool.not_eq_true'] at h
            have := (len_decF (m := 1)).mp h
            have e : inB r = false := by
              unfold inB
              split
              · exact absurd rfl this
              · rfl
            rw [e] at q
            exact q
          · rw [Bool.not_eq_false'] at h
            obtain ⟨a, rfl⟩ := len1 ((len_dec (m := 1)).mp h)
            have q : Qd (.bl (nmB a)) := q
            refine ⟨rfl, a, m', rfl, hp a (by simp), ifD2 (fun h2 => ?_) fun h2 => ?_⟩
            · rw [Bool.not_eq_true'] at h2
              rw [h2] at q
              exact q
            · rw [Bool.not_eq_false'] at h2
              rw [h2] at q
              exact ⟨rfl, rfl, q⟩
        rw [if_neg e1] at q
        by_cases e2 : k = "one"
        · subst e2
          rw [if_pos rfl] at q
          refine ⟨_, rfl, rfl, ifD2 (fun h => ?_) fun h => ?_⟩
          · rw [Bool.not_eq_true'] at h
            have e : decide (V.int (((D.str "one" :: r).length : Nat) : Int) = V.int 1) = r.isEmpty := one_dec
            have h : decide (V.int (((D.str "one" :: r).length : Nat) : Int) = V.int 1) = false := h
            rw [e] at h
            rw [h] at q
            exact q
          · rw [Bool.not_eq_false'] at h
            have e : decide (V.int (((D.str "one" :: r).length : Nat) : Int) = V.int 1) = r.isEmpty := one_dec
            have h : decide (V.int (((D.str "one" :: r).length : Nat) : Int) = V.int 1) = true := h
            rw [e] at h
            obtain rfl := List.isEmpty_iff.mp h
            exact ⟨by decide, lcP_x (tD := fun d : D => d) (xs := []) rfl (fun d => none) (fun d hd => by cases hd) ⟨⟨nil_cmp, nil_cmp⟩, q⟩⟩
        rw [if_neg e2] at q
        by_cases e3 : k = "keep"
        · subst e3
          rw [if_pos rfl] at q
          refine ⟨_, rfl, rfl, ifD2 (fun h => ?_) fun h => ?_⟩
          · rw [Bool.not_eq_true'] at h
            have := (len_decF (m := 3)).mp h
            have e : keepB n r = false := by
              unfold keepB
              split
              · exact absurd rfl this
              · rfl
            rw [e] at q
            exact q
          · rw [Bool.not_eq_false'] at h
            obtain ⟨a, b, c, rfl⟩ := len3 ((len_dec (m := 3)).mp h)
            have q : Qd (.bl (nmB a && firB b && idxB n c)) := q
            refine ⟨rfl, a, m', rfl, hp a (by simp), ifD2 (fun h2 => ?_) fun h2 => ?_⟩
            · rw [Bool.not_eq_true'] at h2
              rw [h2] at q
              exact q
            · rw [Bool.not_eq_false'] at h2
              rw [h2, Bool.true_and] at q
              have last : ∀ z : Bool, firB b = z → Qd (.bl (z && idxB n c)) := fun z e => by rw [← e]; exact q
              clear q
              have hb := hp b (by simp)
              have hc := hp c (by simp)
              have t1 : isNon b = true → firB b = true := fun h => by cases hb <;> first | rfl | cases h
              have t2 : isNon b = false → firB b = idxB 2 b := fun h => by cases hb <;> first | rfl | cases h
              refine ⟨rfl, ifD2 (fun h5 => ?_) fun h5 => ⟨rfl, b, 2, m', rfl, hb, ?_⟩⟩
              · have := last true (t1 h5)
                exact ⟨rfl, rfl, c, n, m', rfl, hc, this⟩
              · have := last (idxB 2 b) (t2 h5)
                cases e : idxB 2 b with
                | true =>
                  rw [e] at this
                  exact ⟨rfl, rfl, c, n, m', rfl, hc, this⟩
                | false =>
                  rw [e] at this
                  exact this
        rw [if_neg e3] at q
        have q0 := q
        have hx : cutD (.str k :: r) (some 1) none = r := cut1 _ _
        have hz : r.length ≤ 20000 := by rw [List.length_cons] at hz; omega
        have gate : ∀ m : Nat, m ≠ 0 → m ≤ 3 → arity k = m → Qd (.bl (decide (r.length = m) && r.all (idxB n))) := fun m m0 m1 hm => by
          have := q
          unfold gateB at this
          rw [hm, decide_eq_true m0, Bool.true_and] at this
          exact this
        clear q
        by_cases k0 : k = "not"
        · subst k0
          have q := gate 1 (by decide) (by decide) rfl
          refine ⟨_, rfl, rfl, ifD2 (fun h => ?_) fun h => ?_⟩
          · rw [Bool.not_eq_true'] at h
            rw [decide_eq_false ((len_decF (m := 1)).mp h), Bool.false_and] at q
            exact q
          · rw [Bool.not_eq_false'] at h
            rw [decide_eq_true ((len_dec (m := 1)).mp h), Bool.true_and] at q
            exact optD_of (x := .str "not") at0 ⟨by rw [hx]; omega, lcP_x (tD := fun d : D => d) (xs := r) (hx.trans (List.map_id r).symm) (fun d => if (!idxB n d) = true then some (.int 1) else none) (fun d hd N Y hN hY => ⟨⟨trivial, trivial⟩, rfl, d, n, m', rfl, hp d hd, ifD2 (fun h => hY _ (if_pos h)) fun h => hN (if_neg (by rw [h]; decide))⟩) ⟨⟨ones_cmp _ _, nil_cmp⟩, by rw [idx_all]; exact q⟩⟩
        by_cases k1 : k = "and"
        · subst k1
          have q := gate 2 (by decide) (by decide) rfl
          refine ⟨_, rfl, rfl, ifD2 (fun h => ?_) fun h => ?_⟩
          · rw [Bool.not_eq_true'] at h
            rw [decide_eq_false ((len_decF (m := 2)).mp h), Bool.false_and] at q
            exact q
          · rw [Bool.not_eq_false'] at h
            rw [decide_eq_true ((len_dec (m := 2)).mp h), Bool.true_and] at q
            exact optD_of (x := .str "and") at0 ⟨by rw [hx]; omega, lcP_x (tD := fun d : D => d) (xs := r) (hx.trans (List.map_id r).symm) (fun d => if (!idxB n d) = true then some (.int 1) else none) (fun d hd N Y hN hY => ⟨⟨trivial, trivial⟩, rfl, d, n, m', rfl, hp d hd, ifD2 (fun h => hY _ (if_pos h)) fun h => hN (if_neg (by rw [h]; decide))⟩) ⟨⟨ones_cmp _ _, nil_cmp⟩, by rw [idx_all]; exact q⟩⟩
        by_cases k2 : k = "or"
        · subst k2
          have q := gate 2 (by decide) (by decide) rfl
          refine ⟨_, rfl, rfl, ifD2 (fun h => ?_) fun h => ?_⟩
          · rw [Bool.not_eq_true'] at h
            rw [decide_eq_false ((len_decF (m := 2)).mp h), Bool.false_and] at q
            exact q
          · rw [Bool.not_eq_false'] at h
            rw [decide_eq_true ((len_dec (m := 2)).mp h), Bool.true_and] at q
            exact optD_of (x := .str "or") at0 ⟨by rw [hx]; omega, lcP_x (tD := fun d : D => d) (xs := r) (hx.trans (List.map_id r).symm) (fun d => if (!idxB n d) = true then some (.int 1) else none) (fun d hd N Y hN hY => ⟨⟨trivial, trivial⟩, rfl, d, n, m', rfl, hp d hd, ifD2 (fun h => hY _ (if_pos h)) fun h => hN (if_neg (by rw [h]; decide))⟩) ⟨⟨ones_cmp _ _, nil_cmp⟩, by rw [idx_all]; exact q⟩⟩
        by_cases k3 : k = "xor"
        · subst k3
          have q := gate 2 (by decide) (by decide) rfl
          refine ⟨_, rfl, rfl, ifD2 (fun h => ?_) fun h => ?_⟩
          · rw [Bool.not_eq_true'] at h
            rw [decide_eq_false ((len_decF (m := 2)).mp h), Bool.false_and] at q
            exact q
          · rw [Bool.not_eq_false'] at h
            rw [decide_eq_true ((len_dec (m := 2)).mp h), Bool.true_and] at q
            exact optD_of (x := .str "xor") at0 ⟨by rw [hx]; omega, lcP_x (tD := fun d : D => d) (xs := r) (hx.trans (List.map_id r).symm) (fun d => if (!idxB n d) = true then some (.int 1) else none) (fun d hd N Y hN hY => ⟨⟨trivial, trivial⟩, rfl, d, n, m', rfl, hp d hd, ifD2 (fun h => hY _ (if_pos h)) fun h => hN (if_neg (by rw [h]; decide))⟩) ⟨⟨ones_cmp _ _, nil_cmp⟩, by rw [idx_all]; exact q⟩⟩
        by_cases k4 : k = "pick"
        · subst k4
          have q := gate 3 (by decide) (by decide) rfl
          refine ⟨_, rfl, rfl, ifD2 (fun h => ?_) fun h => ?_⟩
          · rw [Bool.not_eq_true'] at h
            rw [decide_eq_false ((len_decF (m := 3)).mp h), Bool.false_and] at q
            exact q
          · rw [Bool.not_eq_false'] at h
            rw [decide_eq_true ((len_dec (m := 3)).mp h), Bool.true_and] at q
            exact optD_of (x := .str "pick") at0 ⟨by rw [hx]; omega, lcP_x (tD := fun d : D => d) (xs := r) (hx.trans (List.map_id r).symm) (fun d => if (!idxB n d) = true then some (.int 1) else none) (fun d hd N Y hN hY => ⟨⟨trivial, trivial⟩, rfl, d, n, m', rfl, hp d hd, ifD2 (fun h => hY _ (if_pos h)) fun h => hN (if_neg (by rw [h]; decide))⟩) ⟨⟨ones_cmp _ _, nil_cmp⟩, by rw [idx_all]; exact q⟩⟩
        have hl : lookD (mergeD [] [((Sum.inr "one" : Key), D.int 1), (.inr "not", .int 2), (.inr "and", .int 3), (.inr "or", .int 3), (.inr "xor", .int 3), (.inr "pick", .int 4), (.inr "in", .int 2), (.inr "keep", .int 4)]) (.inr k) = none := by
          have hm : mergeD [] [((Sum.inr "one" : Key), D.int 1), (.inr "not", .int 2), (.inr "and", .int 3), (.inr "or", .int 3), (.inr "xor", .int 3), (.inr "pick", .int 4), (.inr "in", .int 2), (.inr "keep", .int 4)] = [((Sum.inr "one" : Key), D.int 1), (.inr "not", .int 2), (.inr "and", .int 3), (.inr "or", .int 3), (.inr "xor", .int 3), (.inr "pick", .int 4), (.inr "in", .int 2), (.inr "keep", .int 4)] := rfl
          rw [hm]
          have ne : ∀ z : Str, k ≠ z → ¬ (Sum.inr z : Key) = .inr k := fun z h e => h (Sum.inr.inj e).symm
          simp only [lookD, if_neg (ne _ e1), if_neg (ne _ e2), if_neg (ne _ e3), if_neg (ne _ k0), if_neg (ne _ k1), if_neg (ne _ k2), if_neg (ne _ k3), if_neg (ne _ k4)]
        have ea : arity k = 0 := by unfold arity; rw [if_neg k0, if_neg k1, if_neg k2, if_neg k3, if_neg k4]
        rw [ea] at q0
        have hg : dgetD (.dct (mergeD [] [((Sum.inr "one" : Key), D.int 1), (.inr "not", .int 2), (.inr "and", .int 3), (.inr "or", .int 3), (.inr "xor", .int 3), (.inr "pick", .int 4), (.inr "in", .int 2), (.inr "keep", .int 4)])) (.str k) = some none := congrArg some hl
        have q1 : Qd (.bl false) := q0
        exact ⟨none, hg, rfl, q1⟩
      | _ => exact ⟨by decide, q⟩
  | _ => first | exact ⟨by decide, q⟩ | cases hd
end
end PL
namespace PL
open PySem PySem.Spec PyProof.Rows L2 TB
section
variable {P : Program} {w : World} {K : PySem.W.Frag} {mg : Str → Option Value} {base : Heap}
def nmL (xs : List Str) : D := .lst (xs.map D.str)
def pd__law_is_lot : PD := pdn 1 fun as Q => ∃ (d : D) (m : Nat), as = [d] ∧ Pv m d ∧ m ≤ 60 ∧ Q (.bl (lotB d))
theorem ok__law_is_lot (T : Txt K w mg) : FnOk P w K mg base CX0 3 T._law_is_lot.f T._law_is_lot.fd ["_law_value"] (spP K pd__law_is_lot) := by
  refine T._law_is_lot.F.ok sc__law_is_lot (fun vs H Q E h => lenP h) (fun cdv A outer s H vs Q E hr h => ⟨_, (pss_cons (ps_if (PW.pt (pw_or (pt_not (pt_val (pe_callB TB.call_isiK (by rfl) T.z_isinstance (by decide +kernel) (pa_cons (pv 0) (pa_cons (pe_bltn (v := .ty "tuple") (by rfl) T.z_tuple (by decide +kernel) rfl) pa_nil))))) (pw_or1 (pt_cmpR op_gt (pe_callB call_len_seq (by rfl) T.z_len PySem.boot_len (pa_cons (pv 0) pa_nil)) pe_int (nomark _))))) 
        (pss_one (ps_ret pe_bl)) pss_nil) 
      (pss_cons (ps_if (pt_cmpR (op_neDK (K := K) rfl hr.units) (pe_lc (own := [("_law_cell", 3)]) (by rfl) sc__law_is_lot.nd (pi_tup (pv 0)) (blkOk_by (own := [("_law_cell", 3)]) (N := ["_law_value", "_law_ports", "_law_kept", "_law_cell"]) (sc := defScope s__law_is_lot) (by decide +kernel)) (fun _ _ _ _ _ => (pg_name (i := 3) sc__law_is_lot.nd rfl (.inl rfl))) (fun _ _ _ _ _ => (pts_one (pt_not (pt_val (pe_call (ok__law_is_cell T) (hr.mono (by decide)) (by rfl) T._law_is_cell.g T._law_is_cell.F.kp T._law_is_cell.b .nil pass0 (pa_cons (pv 3) (pa_cons (pe_callB (call_len_seqK (K := K) rfl) (by rfl) T.z_len PySem.boot_len (pa_cons (pv 0) pa_nil)) pa_nil))))))) (fun _ _ _ _ _ => pe_int)) (pe_lstA pa_nil) (nomark _)) 
        (pss_one (ps_ret pe_bl)) pss_nil) 
      (pss_cons (ps_setLc (i := 1) (own := [("_law_cell", 3)]) (by rfl) sc__law_is_lot.nd rfl rfl (sw_true rfl rfl rfl (by decide +kernel)) (pi_tup (pv 0)) (blkOk_by (own := [("_law_cell", 3)]) (N := ["_law_value", "_law_ports", "_law_kept", "_law_cell"]) (sc := defScope s__law_is_lot) (by decide +kernel)) (fun _ _ _ _ _ => (pg_name (i := 3) sc__law_is_lot.nd rfl (.inl rfl))) (fun _ _ _ _ _ => (pts_one (pt_cmpR op_eq (pe_ix ix_tup (pv 3) pe_int (fun _ _ => rfl)) pe_str (nomark _)))) (fun _ _ _ _ _ => (pe_ix ix_tup (pv 3) pe_int (fun _ _ => rfl)))) 
      (pss_cons (ps_setLc (i := 2) (own := [("_law_cell", 3)]) (by rfl) sc__law_is_lot.nd rfl rfl (sw_true rfl rfl rfl (by decide +kernel)) (pi_tup (pv 0)) (blkOk_by (own := [("_law_cell", 3)]) (N := ["_law_value", "_law_ports", "_law_kept", "_law_cell"]) (sc := defScope s__law_is_lot) (by decide +kernel)) (fun _ _ _ _ _ => (pg_name (i := 3) sc__law_is_lot.nd rfl (.inl rfl))) (fun _ _ _ _ _ => (pts_one (pt_cmpR op_eq (pe_ix ix_tup (pv 3) pe_int (fun _ _ => rfl)) pe_str (nomark _)))) (fun _ _ _ _ _ => (pe_ix ix_tup (pv 3) pe_int (fun _ _ => rfl)))) 
      (pss_cons (ps_if (PW.pt (pw_or (pt_cmpR op_gt (pe_callB call_len_seq (by rfl) T.z_len PySem.boot_len (pa_cons (pv 1) pa_nil)) pe_int (nomark _)) (pw_or1 (pt_cmpR op_gt (pe_callB call_len_seq (by rfl) T.z_len PySem.boot_len (pa_cons (pv 2) pa_nil)) pe_int (nomark _))))) 
        (pss_one (ps_ret pe_bl)) pss_nil) 
      (pss_one (ps_ret (pe_cmpR op_eq (pe_lenSetX rfl (by rfl) T.z_len (by rfl) T.z_set (pe_op op_catL (pv 1) (pv 2))) (pe_op op_add (pe_callB call_len_seq (by rfl) T.z_len PySem.boot_len (pa_cons (pv 1) pa_nil)) (pe_callB call_len_seq (by rfl) T.z_len PySem.boot_len (pa_cons (pv 2) pa_nil))) (nomark _))))))))),
    runP ((sns_seq (sns_if (snd_or (snd_not (snd_b (snd_cb s_isi (.cons (sO 0) (.cons (sE snd_opq) .nil))))) (snd_test (snd_op s_gt (sE (snd_cb s_len (.cons (sO 0) .nil))) (sE snd_int)))) 
          (sns_ret snd_bl) sns_next) 
        (sns_seq (sns_if (snd_test (snd_op s_neD (sE (snd_ne (snd_lc (sni_tup (snd_var 0)) (sgi_name (i := 3) (by decide)) (snd_not (snd_b (snd_call (sna_cons (snd_var 3) (sna_cons (snd_cb s_len (.cons (sO 0) .nil)) sna_nil))))) snd_int))) (sE (snd_ne (snd_lst sna_nil))))) 
          (sns_ret snd_bl) sns_next) 
        (sns_seq (sns_asg (snd_ne (snd_lc (sni_tup (snd_var 0)) (sgi_name (i := 3) (by decide)) (snd_test (snd_op s_eq (sE (snd_op s_ixT (sO 3) (sE snd_int))) (sE snd_str))) (snd_op s_ixT (sO 3) (sE snd_int)))) (sng_name 1)) 
        (sns_seq (sns_asg (snd_ne (snd_lc (sni_tup (snd_var 0)) (sgi_name (i := 3) (by decide)) (snd_test (snd_op s_eq (sE (snd_op s_ixT (sO 3) (sE snd_int))) (sE snd_str))) (snd_op s_ixT (sO 3) (sE snd_int)))) (sng_name 2)) 
        (sns_seq (sns_if (snd_or (snd_test (snd_op s_gt (sE (snd_cb s_len (.cons (sO 1) .nil))) (sE snd_int))) (snd_test (snd_op s_gt (sE (snd_cb s_len (.cons (sO 2) .nil))) (sE snd_int)))) 
          (sns_ret snd_bl) sns_next) 
        (sns_ret (snd_op s_eq (sE (snd_lenSet (sE (snd_ne (snd_opN s_catL (sO 1) (sO 2)))))) (sE (snd_op s_add (sE (snd_cb s_len (.cons (sO 1) .nil))) (sE (snd_cb s_len (.cons (sO 2) .nil))))))))))))) h (fun as Qd hp => by rw [hp.1]; decide) ?_⟩)
  rintro as Qd ⟨_, d, m, rfl, hd, hm, q⟩
  cases d with
  | tup ds =>
    obtain ⟨m', rfl, hi, hz⟩ := hd.items
    have q : Qd (.bl (decide (ds.length ≤ 6000) && (ds.all (cellB ds.length) && namB (nms "in" ds) (nms "keep" ds)))) := q
    refine ⟨by decide, ifD2 (fun h => ?_) fun h => ?_⟩
    · have h := of_decide_eq_true h
      rw [decide_eq_false (by omega), Bool.false_and] at q
      exact q
    have h := of_decide_eq_false h
    rw [decide_eq_true (by omega), Bool.true_and] at q
    refine ⟨by omega, lcP_x (tD := fun d : D => d) (xs := ds) (List.map_id ds).symm (fun d => if (!cellB ds.length d) = true then some (.int 1) else none) (fun d hd N Y hN hY => ⟨⟨trivial, trivial⟩, rfl, d, ds.length, m', rfl, hi d hd, by omega, ifD2 (fun h => hY _ (if_pos h)) fun h => hN (if_neg (by rw [h]; decide))⟩) ⟨⟨ones_cmp _ _, nil_cmp⟩, ?_⟩⟩
    have e0 : eqD (.lst (ds.filterMap fun d => if (!cellB ds.length d) = true then some (.int 1) else none)) (.lst []) = ds.all (cellB ds.length) := by
      rw [ones_eq, List.all_eq_not_any_not]
    rw [e0]
    refine ifD2 (fun h2 => ?_) fun h2 => ?_
    · rw [Bool.not_eq_true'] at h2
      rw [h2, Bool.false_and] at q
      exact q
    rw [Bool.not_eq_false'] at h2
    rw [h2, Bool.true_and] at q
    obtain ⟨cs, rfl, hcs⟩ := cells_nc h2
    have hl : (cs.map cD).length = cs.length := List.length_map ..
    have q : Qd (.bl (namB (nms (kS false) (cs.map cD)) (nms (kS true) (cs.map cD)))) := q
    rw [nms_cs, nms_cs] at q
    refine ⟨by omega, lcP_x (tD := cD) (xs := cs) rfl (fun c => (c.nm false).map D.str) (fun c hc N Y hN hY => ⟨⟨trivial, trivial⟩, ?_⟩) ⟨by omega, lcP_x (tD := cD) (xs := cs) rfl (fun c => (c.nm true).map D.str) (fun c hc N Y hN hY => ⟨⟨trivial, trivial⟩, ?_⟩) ?_⟩⟩
    · cases c with
      | inp x => exact ⟨rfl, hY _ rfl⟩
      | one => exact ⟨rfl, hN rfl⟩
      | keep x f t => exact ⟨rfl, hN rfl⟩
      | gate g xs =>
        refine optD_of (x := .str g.s) at0 ?_
        cases g <;> exact ⟨rfl, hN rfl⟩
    · cases c with
      | inp x => exact ⟨rfl, hN rfl⟩
      | one => exact ⟨rfl, hN rfl⟩
      | keep x f t => exact ⟨rfl, hY _ rfl⟩
      | gate g xs =>
        refine optD_of (x := .str g.s) at0 ?_
        cases g <;> exact ⟨rfl, hN rfl⟩
    rw [fm_map, fm_map]
    generalize cs.filterMap (NC.nm false) = p1 at q ⊢
    generalize cs.filterMap (NC.nm true) = p2 at q ⊢
    unfold namB at q
    have l1 : ((p1.map D.str).length : Int) = (p1.length : Nat) := by rw [List.length_map]
    have l2 : ((p2.map D.str).length : Int) = (p2.length : Nat) := by rw [List.length_map]
    refine ifD2 (fun h3 => ?_) fun h3 => ifD2 (fun h4 => ?_) fun h4 => ?_
    · have h3 := of_decide_eq_true h3
      rw [decide_eq_false (p := p1.length ≤ 400) (by omega), Bool.false_and] at q
      exact q
    · have h4 := of_decide_eq_true h4
      rw [decide_eq_false (p := p2.length ≤ 400) (by omega), Bool.false_and, Bool.and_false] at q
      exact q
    · have h3 := of_decide_eq_false h3
      have h4 := of_decide_eq_false h4
      rw [decide_eq_true (p := p1.length ≤ 400) (by omega), decide_eq_true (p := p2.length ≤ 400) (by omega), Bool.true_and, Bool.true_and] at q
      have ea : p1.map D.str ++ p2.map D.str = (p1 ++ p2).map D.str := (List.map_append).symm
      have e : decide (V.int (((nub (p1 ++ p2)).length : Nat) : Int) = V.int (((p1.map D.str).length : Int) + ((p2.map D.str).length : Int))) = decide ((nub (p1 ++ p2)).length = p1.length + p2.length) := by
        rw [l1, l2, Bool.eq_iff_iff, decide_eq_true_iff, decide_eq_true_iff]
        constructor
        · intro z
          have := V.int.inj z
          omega
        · intro z
          rw [z, Int.natCast_add]
      have q' : Qd (.bl (decide (V.int (((nub (p1 ++ p2)).length : Nat) : Int) = V.int (((p1.map D.str).length : Int) + ((p2.map D.str).length : Int))))) := by rw [e]; exact q
      exact ⟨by rw [List.length_map, List.length_map]; omega, optD_of (x := p1 ++ p2) ((congrArg strL ea).trans (strL_str _)) ⟨by rw [List.length_append]; omega, rfl, q'⟩⟩
  | _ => first | exact ⟨by decide, q⟩ | cases hd
def pd__law_is_net : PD := pdn 1 fun as Q => ∃ (d : D) (m : Nat), as = [d] ∧ Pn m d ∧ m ≤ 60 ∧ Q (.bl (netB d))
theorem ok__law_is_net (T : Txt K w mg) : FnOk P w K mg base CX0 4 T._law_is_net.f T._law_is_net.fd ["_law_value"] (spP K pd__law_is_net) := by
  refine T._law_is_net.F.ok sc__law_is_net (fun vs H Q E h => lenP h) (fun cdv A outer s H vs Q E hr h => ⟨_, (pss_cons (ps_if (PW.pt (pw_or (pt_not (pt_val (pe_callB TB.call_isiK (by rfl) T.z_isinstance (by decide +kernel) (pa_cons (pv 0) (pa_cons (pe_bltn (v := .ty "tuple") (by rfl) T.z_tuple (by decide +kernel) rfl) pa_nil))))) (pw_or (pt_cmpR op_ne (pe_callB call_len_seq (by rfl) T.z_len PySem.boot_len (pa_cons (pv 0) pa_nil)) pe_int (nomark _)) (pw_or1 (pt_not (pt_val (pe_call (ok__law_is_lot T) (hr.mono (by decide)) (by rfl) T._law_is_lot.g T._law_is_lot.F.kp T._law_is_lot.b .nil pass0 (pa_cons (pe_ix ix_tup (pv 0) pe_int (fun _ _ => rfl)) pa_nil)))))))) 
        (pss_one (ps_ret pe_bl)) pss_nil) 
      (pss_cons (ps_if (pt_not (pt_val (pe_callB TB.call_isiK (by rfl) T.z_isinstance (by decide +kernel) (pa_cons (pe_ix ix_tup (pv 0) pe_int (fun _ _ => rfl)) (pa_cons (pe_bltn (v := .ty "tuple") (by rfl) T.z_tuple (by decide +kernel) rfl) pa_nil))))) 
        (pss_one (ps_ret pe_bl)) pss_nil) 
      (pss_cons (ps_for PassesOwn.never rfl (pi_tup (pe_ix ix_tup (pv 0) pe_int (fun _ _ => rfl))) (pg_name (i := 1) sc__law_is_net.nd rfl (by first | exact .inl rfl | exact .inr rfl)) 
        (pss_cons (ps_if (PW.pt (pw_or (pt_not (pt_val (pe_callB TB.call_isiK (by rfl) T.z_isinstance (by decide +kernel) (pa_cons (pv 1) (pa_cons (pe_bltn (v := .ty "tuple") (by rfl) T.z_tuple (by decide +kernel) rfl) pa_nil))))) (pw_or (pt_cmpR op_ne (pe_callB call_len_seq (by rfl) T.z_len PySem.boot_len (pa_cons (pv 1) pa_nil)) pe_int (nomark _)) (pw_or1 (pt_not (pt_val (pe_call (ok__law_is_name T) (hr.mono (by decide)) (by rfl) T._law_is_name.g T._law_is_name.F.kp T._law_is_name.b .nil pass0 (pa_cons (pe_ix ix_tup (pv 1) pe_int (fun _ _ => rfl)) pa_nil)))))))) 
          (pss_one (ps_ret pe_bl)) pss_nil) 
        (pss_one (ps_if (pt_not (pt_val (pe_call (ok__law_is_index T) (hr.mono (by decide)) (by rfl) T._law_is_index.g T._law_is_index.F.kp T._law_is_index.b .nil pass0 (pa_cons (pe_ix ix_tup (pv 1) pe_int (fun _ _ => rfl)) (pa_cons (pe_callB call_len_seq (by rfl) T.z_len PySem.boot_len (pa_cons (pe_ix ix_tup (pv 0) pe_int (fun _ _ => rfl)) pa_nil)) pa_nil))))) 
          (pss_one (ps_ret pe_bl)) pss_nil)))) 
      (pss_cons (ps_if (PW.pt (pw_or (pt_cmpR op_gt (pe_callB call_len_seq (by rfl) T.z_len PySem.boot_len (pa_cons (pe_ix ix_tup (pv 0) pe_int (fun _ _ => rfl)) pa_nil)) pe_int (nomark _)) (pw_or1 (pt_cmpR op_ne (pe_lenSetX rfl (by rfl) T.z_len (by rfl) T.z_set (pe_lc (own := [("_law_pair", 1)]) (by rfl) sc__law_is_net.nd (pi_tup (pe_ix ix_tup (pv 0) pe_int (fun _ _ => rfl))) (blkOk_by (own := [("_law_pair", 1)]) (N := ["_law_value", "_law_pair", "_law_at", "_law_cell", "_law_index"]) (sc := defScope s__law_is_net) (by decide +kernel)) (fun _ _ _ _ _ => (pg_name (i := 1) sc__law_is_net.nd rfl (by first | exact .inl rfl | exact .inr rfl))) (fun _ _ _ _ _ => pts_nil) (fun _ _ _ _ _ => (pe_ix ix_tup (pv 1) pe_int (fun _ _ => rfl))))) (pe_callB call_len_seq (by rfl) T.z_len PySem.boot_len (pa_cons (pe_ix ix_tup (pv 0) pe_int (fun _ _ => rfl)) pa_nil)) (nomark _))))) 
        (pss_one (ps_ret pe_bl)) pss_nil) 
      (pss_cons (ps_for PassesOwn.never rfl (pi_enumT (by rfl) T.z_enumerate (pa_cons (pe_ix ix_tup (pv 0) pe_int (fun _ _ => rfl)) pa_nil)) (pg_tup rfl (pgs_cons (pg_name (i := 2) sc__law_is_net.nd rfl (.inr rfl)) (pgs_cons (pg_name (i := 3) sc__law_is_net.nd rfl (.inl rfl)) pgs_nil))) 
        (pss_one (ps_if (PW.pt (pw_and (pt_cmpR op_notIn_seq (pe_ix ix_tup (pv 3) pe_int (fun _ _ => rfl)) (pe_tup (pa_cons pe_str (pa_cons pe_str pa_nil))) rfl) (pw_and1 (pt_cmpR (op_neDK (K := K) rfl hr.units) (pe_lc (own := [("_law_index", 4)]) (by rfl) sc__law_is_net.nd (pi_tup (pe_slice (sl_tupleSK (K := K) rfl) (pv 3) (po_some pe_int) po_none)) (blkOk_by (own := [("_law_index", 4)]) (N := ["_law_value", "_law_pair", "_law_at", "_law_cell", "_law_index"]) (sc := defScope s__law_is_net) (by decide +kernel)) (fun _ _ _ _ _ => (pg_name (i := 4) sc__law_is_net.nd rfl (.inl rfl))) (fun _ _ _ _ _ => (pts_one (pt_cmpR op_ge (pv 4) (pv 2) (nomark _)))) (fun _ _ _ _ _ => pe_int)) (pe_lstA pa_nil) (nomark _))))) 
          (pss_one (ps_ret pe_bl)) pss_nil))) 
      (pss_one (ps_ret pe_bl))))))),
    runP ((sns_seq (sns_if (snd_or (snd_not (snd_b (snd_cb s_isi (.cons (sO 0) (.cons (sE snd_opq) .nil))))) (snd_or (snd_test (snd_op s_ne (sE (snd_cb s_len (.cons (sO 0) .nil))) (sE snd_int))) (snd_not (snd_b (snd_call (sna_cons (snd_op s_ixT (sO 0) (sE snd_int)) sna_nil)))))) 
          (sns_ret snd_bl) sns_next) 
        (sns_seq (sns_if (snd_not (snd_b (snd_cb s_isi (.cons (sE (snd_op s_ixT (sO 0) (sE snd_int))) (.cons (sE snd_opq) .nil))))) 
          (sns_ret snd_bl) sns_next) 
        (sns_seq (sns_for (sni_tup (snd_op s_ixT (sO 0) (sE snd_int))) (sng_name 1) 
          (sns_seq (sns_if (snd_or (snd_not (snd_b (snd_cb s_isi (.cons (sO 1) (.cons (sE snd_opq) .nil))))) (snd_or (snd_test (snd_op s_ne (sE (snd_cb s_len (.cons (sO 1) .nil))) (sE snd_int))) (snd_not (snd_b (snd_call (sna_cons (snd_op s_ixT (sO 1) (sE snd_int)) sna_nil)))))) 
            (sns_ret snd_bl) sns_next) 
          (sns_if (snd_not (snd_b (snd_call (sna_cons (snd_op s_ixT (sO 1) (sE snd_int)) (sna_cons (snd_cb s_len (.cons (sE (snd_op s_ixT (sO 0) (sE snd_int))) .nil)) sna_nil))))) 
            (sns_ret snd_bl) sns_next))) 
        (sns_seq (sns_if (snd_or (snd_test (snd_op s_gt (sE (snd_cb s_len (.cons (sE (snd_op s_ixT (sO 0) (sE snd_int))) .nil))) (sE snd_int))) (snd_test (snd_op s_ne (sE (snd_lenSet (sE (snd_ne (snd_lc (sni_tup (snd_op s_ixT (sO 0) (sE snd_int))) (sgi_name (i := 1) (by decide)) snd_yes (snd_op s_ixT (sO 1) (sE snd_int))))))) (sE (snd_cb s_len (.cons (sE (snd_op s_ixT (sO 0) (sE snd_int))) .nil)))))) 
          (sns_ret snd_bl) sns_next) 
        (sns_seq (sns_for (sni_enumT (sna_cons (snd_op s_ixT (sO 0) (sE snd_int)) sna_nil)) (sng_tup (sng_cons (sng_name 2) (sng_cons (sng_name 3) sng_nil))) 
          (sns_if (snd_and (snd_test (snd_op (s_in true) (sE (snd_op s_ixT (sO 3) (sE snd_int))) (sE (snd_tup (sna_cons snd_str (sna_cons snd_str sna_nil)))))) (snd_test (snd_op s_neD (sE (snd_ne (snd_lc (sni_tup (snd_sl s_slT (sO 3) (snp_some snd_int) snp_none)) (sgi_name (i := 4) (by decide)) (snd_test (snd_op s_ge (sO 4) (sO 2))) snd_int))) (sE (snd_ne (snd_lst sna_nil)))))) 
            (sns_ret snd_bl) sns_next)) 
        (sns_ret snd_bl))))))) h (fun as Qd hp => by rw [hp.1]; decide) ?_⟩)
  rintro as Qd ⟨_, d, m, rfl, hd, hm, q⟩
  cases d with
  | tup ds =>
    have hl : ds.length = 2 → ∃ a b, ds = [a, b] ∧ Pv m a ∧ (Pv m b ∨ b = .dct []) := fun h => by
      rcases hd with hd | hd | ⟨a, hd, ha⟩
      · obtain ⟨m', rfl, hi, hz⟩ := hd.items
        obtain ⟨a, b, rfl⟩ := two_of h
        exact ⟨a, b, rfl, (hi a (by simp)).up, .inl (hi b (by simp)).up⟩
      · cases hd
      · cases hd
        exact ⟨a, _, rfl, ha, .inr rfl⟩
    refine ⟨by decide, rfl, ifD2 (fun h => ?_) fun h => ?_⟩
    · have h : (!decide (V.int ((ds.length : Nat) : Int) = V.int 2)) = true := h
      rw [two_dec, Bool.not_eq_true'] at h
      have h := of_decide_eq_false h
      have e : netB (.tup ds) = false := by
        unfold netB
        split
        · rename_i e
          cases e
          exact absurd rfl h
        · rfl
      rw [e] at q
      exact q
    have h : (!decide (V.int ((ds.length : Nat) : Int) = V.int 2)) = false := h
    rw [two_dec, Bool.not_eq_false'] at h
    obtain ⟨a, b, rfl, ha, hb⟩ := hl (of_decide_eq_true h)
    refine ⟨rfl, a, m, rfl, ha, hm, ifD2 (fun h2 => ?_) fun h2 => ?_⟩
    · rw [Bool.not_eq_true'] at h2
      have e : netB (.tup [a, b]) = false := by
        unfold netB
        split
        · rename_i e
          cases e
          rw [h2]
          rfl
        · rfl
      rw [e] at q
      exact q
    · rw [Bool.not_eq_false'] at h2
      obtain ⟨cs, rfl, hcs, h6⟩ := lot_cs h2
      have q : Qd (.bl (lotB (.tup (cs.map cD)) && (outsB (cs.map cD).length b && backD (cs.map cD)))) := q
      rw [h2, Bool.true_and, backD_cs hcs] at q
      have hcl : ((cs.map cD).length : Int) = (cs.length : Nat) := by rw [List.length_map]
      rw [List.length_map] at q
      cases b with
      | tup os =>
        obtain ⟨m', rfl, hi, hz⟩ := (hb.resolve_right (fun z => by cases z)).items
        have q : Qd (.bl ((decide (os.length ≤ 400) && (os.all (outB cs.length) && decide ((nub (os.filterMap onm)).length = os.length))) && backB cs)) := q
        refine ⟨by decide, fun i ρ => ∃ c1, ρ = [.val (.tup [csD cs, .tup os]), c1, .no, .no, .no] ∧ (c1 = .no ∨ ∃ d, c1 = .val d) ∧ (os.take i).all (outB cs.length) = true, ⟨_, rfl, .inl rfl, rfl⟩, ?_, ?_⟩
        · rintro i x ρ hx ⟨c1, rfl, _, hA⟩
          have hxi := hi x (List.mem_of_getElem? hx)
          have bad : outB cs.length x = false → Qd (.bl false) := fun e => by
            have : os.all (outB cs.length) = false := List.all_eq_false.mpr ⟨x, List.mem_of_getElem? hx, by rw [e]; decide⟩
            rw [this, Bool.false_and, Bool.and_false, Bool.false_and] at q
            exact q
          have good : outB cs.length x = true → (os.take (i + 1)).all (outB cs.length) = true := fun e => by
            rw [List.take_succ, hx, List.all_append, hA, Bool.true_and]
            show (outB cs.length x && true) = true
            rw [e]
            rfl
          cases x with
          | tup ps =>
            obtain ⟨m2, rfl, hi2, hz2⟩ := hxi.items
            refine ⟨by decide, rfl, ifD2 (fun h3 => ?_) fun h3 => ?_⟩
            · have h3 : (!decide (V.int ((ps.length : Nat) : Int) = V.int 2)) = true := h3
              rw [two_dec, Bool.not_eq_true'] at h3
              have h3 := of_decide_eq_false h3
              refine bad ?_
              unfold outB
              split
              · rename_i e
                cases e
                exact absurd rfl h3
              · rfl
            · have h3 : (!decide (V.int ((ps.length : Nat) : Int) = V.int 2)) = false := h3
              rw [two_dec, Bool.not_eq_false'] at h3
              obtain ⟨a, b, rfl⟩ := two_of (of_decide_eq_true h3)
              refine ⟨rfl, a, m2, rfl, hi2 a (by simp), ifD2 (fun h4 => ?_) fun h4 => ?_⟩
              · rw [Bool.not_eq_true'] at h4
                exact bad (by show (nmB a && idxB cs.length b) = false; rw [h4]; rfl)
              · rw [Bool.not_eq_false'] at h4
                refine ⟨rfl, b, cs.length, m2, congrArg (fun z : Int => [b, D.int z]) hcl, hi2 b (by simp), ifD2 (fun h5 => ?_) fun h5 => ?_⟩
                · rw [Bool.not_eq_true'] at h5
                  exact bad (by show (nmB a && idxB cs.length b) = false; rw [h5, Bool.and_false])
                · rw [Bool.not_eq_false'] at h5
                  exact ⟨_, rfl, .inr ⟨_, rfl⟩, good (by show (nmB a && idxB cs.length b) = true; rw [h4, h5]; rfl)⟩
          | _ => first | exact ⟨by decide, bad rfl⟩ | cases hxi
        · rintro ρ ⟨c1, rfl, hc1, hA⟩
          rw [List.take_length] at hA
          rw [hA, Bool.true_and] at q
          obtain ⟨ps, rfl, hps⟩ := outs_o hA
          rw [onm_ps] at q
          have hpl : ((ps.map oD).length : Int) = (ps.length : Nat) := by rw [List.length_map]
          rw [List.length_map] at q
          refine ifD2 (fun h3 => ?_) fun h3 => ?_
          · have h3 := of_decide_eq_true h3
            rw [decide_eq_false (p := ps.length ≤ 400) (by omega), Bool.false_and, Bool.false_and] at q
            exact q
          have h3 := of_decide_eq_false h3
          rw [decide_eq_true (p := ps.length ≤ 400) (by omega), Bool.true_and] at q
          have hfr : freeC [.val (.tup [csD cs, .tup (ps.map oD)]), c1, .no, .no, .no] [1] := by
            rcases hc1 with rfl | ⟨d, rfl⟩ <;> exact ⟨trivial, trivial⟩
          refine ⟨by rw [List.length_map]; omega, lcP_y (tD := oD) (xs := ps) rfl (fun c => .str c.1) (fun c hc Y hY => ⟨hfr, hY⟩) (optD_of (strL_map (fun c : Str × Nat => c.1) ps) ⟨by rw [List.length_map]; omega, rfl, ?_⟩)⟩
          have e : decide (V.int (((nub (ps.map (·.1))).length : Nat) : Int) = V.int ((ps.map oD).length : Int)) = decide ((nub (ps.map (·.1))).length = ps.length) := by
            rw [hpl, Bool.eq_iff_iff, decide_eq_true_iff, decide_eq_true_iff]
            exact ⟨fun z => Int.ofNat.inj (V.int.inj z), fun z => by rw [z]⟩
          refine ifD2 (fun h4 => ?_) fun h4 => ?_
          · have h4 : (!decide (V.int (((nub (ps.map (·.1))).length : Nat) : Int) = V.int ((ps.map oD).length : Int))) = true := h4
            rw [e, Bool.not_eq_true'] at h4
            rw [h4, Bool.false_and] at q
            exact q
          have h4 : (!decide (V.int (((nub (ps.map (·.1))).length : Nat) : Int) = V.int ((ps.map oD).length : Int))) = false := h4
          rw [e, Bool.not_eq_false'] at h4
          rw [h4, Bool.true_and] at q
          refine ⟨fun i ρ => ∃ c2 c3, ρ = [.val (.tup [csD cs, .tup (ps.map oD)]), c1, c2, c3, .no] ∧ ∀ j, j < i → (backF cs j).all id = true, ⟨_, _, rfl, fun j hj => absurd hj (Nat.not_lt_zero _)⟩, ?_, ?_⟩
          · rintro i x ρ hx ⟨c2, c3, rfl, hB⟩
            obtain ⟨d, e1, rfl⟩ := enD_get hx
            obtain ⟨c, e2, rfl⟩ := getMp e1
            have hin : i < cs.length := (List.getElem?_eq_some_iff.mp e2).1
            have bad : (backF cs i).all id = false → Qd (.bl false) := fun e => by
              have : backB cs = false := by
                unfold backB
                rw [List.all_flatMap, List.all_eq_false]
                exact ⟨i, List.mem_range.mpr hin, by rw [e]; decide⟩
              rw [this] at q
              exact q
            have good : (backF cs i).all id = true → ∀ j, j < i + 1 → (backF cs j).all id = true := fun e j hj => by
              by_cases h : j = i
              · rw [h]; exact e
              · exact hB j (by omega)
            have eF : backF cs i = c.looks.map fun x => decide (x < i) := by
              unfold backF
              rw [e2]
            rw [eF] at bad good
            cases c with
            | inp x => exact ⟨rfl, _, _, rfl, good rfl⟩
            | keep x f t => exact ⟨rfl, _, _, rfl, good rfl⟩
            | one => exact ⟨rfl, by decide, lcP_x (tD := fun d : D => d) (xs := []) rfl (fun d => none) (fun d hd => by cases hd) ⟨⟨nil_cmp, nil_cmp⟩, _, _, rfl, good rfl⟩⟩
            | gate g xs =>
              have hx : cutD (.str g.s :: nD xs) (some 1) none = nD xs := cut1 _ _
              have hxl := (hcs _ (List.mem_of_getElem? e2)).1
              have hg3 : g.n ≤ 3 := by cases g <;> decide
              have e7 : eqD (.lst (xs.filterMap fun x => if (!decide (x < i)) = true then some (.int 1) else none)) (.lst []) = (xs.map fun x => decide (x < i)).all id := by
                rw [ones_eq, all_map', List.all_eq_not_any_not]
              have bad : (xs.map fun x => decide (x < i)).all id = false → Qd (.bl false) := bad
              have good : (xs.map fun x => decide (x < i)).all id = true → ∀ j, j < i + 1 → (backF cs j).all id = true := good
              have hz3 : (cutD (.str g.s :: nD xs) (some 1) none).length ≤ 1000000 := by rw [hx, nD, List.length_map]; omega
              refine ⟨rfl, optD_of (x := .str g.s) at0 ?_⟩
              cases g <;> refine ⟨hz3, lcP_x (tD := fun x : Nat => D.int (x : Int)) (xs := xs) hx (fun x => if (!decide (x < i)) = true then some (.int 1) else none) (fun x hm N Y hN hY => ⟨⟨trivial, trivial⟩, ifD2 (fun h => hY _ (if_pos ?_)) fun h => hN (if_neg ?_)⟩) ⟨⟨ones_cmp _ _, nil_cmp⟩, ifD2 (fun h => ?_) fun h => ?_⟩⟩
              all_goals first
                | (have h := of_decide_eq_true h; rw [decide_eq_false (by omega)]; rfl)
                | (have h := of_decide_eq_false h; rw [decide_eq_true (by omega)]; decide)
                | (have h : (!eqD (.lst (xs.filterMap fun x => if (!decide (x < i)) = true then some (.int 1) else none)) (.lst [])) = true := h
                   rw [e7, Bool.not_eq_true'] at h
                   exact bad h)
                | (have h : (!eqD (.lst (xs.filterMap fun x => if (!decide (x < i)) = true then some (.int 1) else none)) (.lst [])) = false := h
                   rw [e7, Bool.not_eq_false'] at h
                   exact ⟨_, _, rfl, good h⟩)
          · rintro ρ ⟨c2, c3, rfl, hB⟩
            have eb : backB cs = true := by
              unfold backB
              rw [List.all_flatMap, List.all_eq_true]
              intro j hj
              refine hB j ?_
              rw [enD_len, List.length_map]
              exact List.mem_range.mp hj
            rw [eb] at q
            exact q
      | dct es => exact ⟨by decide, q⟩
      | _ => first | exact ⟨by decide, q⟩ | (rcases hb with hb | hb <;> cases hb)
  | dct es => exact ⟨by decide, q⟩
  | _ => first | exact ⟨by decide, q⟩ | (rcases hd with hd | hd | ⟨a, hd, _⟩ <;> cases hd)
end
end PL
namespace PL
open PySem PySem.Spec PyProof.Rows L2 TB
section
variable {P : Program} {w : World} {K : PySem.W.Frag} {mg : Str → Option Value} {base : Heap}
/-! ### drawn nets -/
def iN (i : Nat) : Str := "i" ++ (toString (0 + (i : Int)) : Str)
def kN (i : Nat) : Str := "k." ++ (toString (0 + (i : Int)) : Str)
def oN (i : Nat) : Str := "o" ++ (toString (0 + (i : Int)) : Str)
structure CAt (n i : Nat) (c : NC) : Prop where
  ok : c.ok n
  back : ∀ x ∈ c.looks, x < i
  port : ∀ s, c.ports = some s → s = iN i
  kept : ∀ s, c.kept = some s → s = kN i
theorem gate_at {n i : Nat} (g : G5) {xs : List Nat} (h : xs.length = g.n) (hi : i ≤ n) (hx : ∀ x ∈ xs, x < i) : CAt n i (.gate g xs) :=
  ⟨⟨h, fun x h => by have := hx x h; omega⟩, hx, fun s hs => (by cases hs), fun s hs => by cases hs⟩
theorem three {l : List Nat} (h : l.length = 3) : ∃ a b c, l = [a, b, c] := by
  match l, h with
  | [a, b, c], _ => exact ⟨a, b, c, rfl⟩
theorem lg_ok {n : Nat} (h : n < 30) : (0 + (n : Int)).natAbs.log2 < 1920 := by
  rw [Int.zero_add, Int.natAbs_natCast]
  have : ∀ n, n < 30 → n.log2 < 1920 := by decide +kernel
  exact this n h
theorem nm_all : ∀ n, n < 30 → (nameB (iN n) = true ∧ nameB (kN n) = true ∧ nameB (oN n) = true) ∧ (toString (0 + (n : Int)) : Str).length ≤ 2 := by decide +kernel
theorem names_ok (n : Nat) (h : n < 30) : nameB (iN n) = true ∧ nameB (kN n) = true ∧ nameB (oN n) = true := (nm_all n h).1
theorem nm_len (n : Nat) (h : n < 30) {x : Str} (hx : x.length ≤ 10 := by decide) : x.length + (toString (0 + (n : Int)) : Str).length ≤ sizeLine := by
  have := nm_all n h
  rw [sizeLine_eq]
  have := this.2
  omega
theorem str0 (n : Nat) : (0 + (n : Int)) = n := Int.zero_add _
theorem nodup_snoc {α : Type} {xs : List α} {x : α} (h : xs.Nodup) (n : x ∉ xs) : (xs ++ [x]).Nodup :=
  List.nodup_append.mpr ⟨h, List.nodup_cons.mpr ⟨List.not_mem_nil, List.nodup_nil⟩, fun a ha b hb e => n (by rw [List.mem_singleton.mp hb] at e; rw [← e]; exact ha)⟩
theorem i_inj : ∀ i, i < 30 → ∀ j, j < 30 → iN i = iN j → i = j := by decide +kernel
theorem k_inj : ∀ i, i < 30 → ∀ j, j < 30 → kN i = kN j → i = j := by decide +kernel
theorem o_inj : ∀ i, i < 30 → ∀ j, j < 30 → oN i = oN j → i = j := by decide +kernel
theorem ik_ne : ∀ i, i < 30 → ∀ j, j < 30 → iN i ≠ kN j := by decide +kernel
theorem fm_nodup {f : NC → Option Str} {nm : Nat → Str} (inj : ∀ i, i < 30 → ∀ j, j < 30 → nm i = nm j → i = j) : ∀ (cs : List NC) (o : Nat), o + cs.length ≤ 30 → (∀ (j : Nat) c s, cs[j]? = some c → f c = some s → s = nm (o + j)) →
    (cs.filterMap f).Nodup ∧ ∀ s ∈ cs.filterMap f, ∃ k, o ≤ k ∧ k < o + cs.length ∧ s = nm k
  | [], o, _, _ => ⟨List.nodup_nil, fun s hs => by cases hs⟩
  | c :: cs, o, hl, h => by
    rw [List.length_cons] at hl ⊢
    obtain ⟨h1, h2⟩ := fm_nodup inj cs (o + 1) (by omega) fun j d s hd hs => by
      rw [h (j + 1) d s hd hs, show o + (j + 1) = o + 1 + j by omega]
    cases e : f c with
    | none =>
      rw [List.filterMap_cons_none e]
      refine ⟨h1, fun s hs => ?_⟩
      obtain ⟨k, a, b, r⟩ := h2 s hs
      exact ⟨k, by omega, by omega, r⟩
    | some x =>
      rw [List.filterMap_cons_some e]
      have ex : x = nm o := h 0 c x rfl e
      refine ⟨List.nodup_cons.mpr ⟨fun hx => ?_, h1⟩, fun s hs => ?_⟩
      · obtain ⟨k, a, b, r⟩ := h2 x hx
        rw [ex] at r
        have := inj o (by omega) k (by omega) r
        omega
      · rcases List.mem_cons.mp hs with rfl | hs
        · exact ⟨o, Nat.le_refl _, by omega, ex⟩
        · obtain ⟨k, a, b, r⟩ := h2 s hs
          exact ⟨k, by omega, by omega, r⟩
theorem map_nodup {f : Nat → Str} : ∀ {ks : List Nat}, ks.Nodup → (∀ j ∈ ks, j < 30) → (∀ i, i < 30 → ∀ j, j < 30 → f i = f j → i = j) → (ks.map f).Nodup
  | [], _, _, _ => List.nodup_nil
  | k :: ks, h, hk, inj => by
    have h := List.nodup_cons.mp h
    refine List.nodup_cons.mpr ⟨fun hx => ?_, map_nodup h.2 (fun j hj => hk j (List.mem_cons_of_mem _ hj)) inj⟩
    obtain ⟨j, hj, e⟩ := List.mem_map.mp hx
    have := inj j (hk j (List.mem_cons_of_mem _ hj)) k (hk k List.mem_cons_self) e
    rw [this] at hj
    exact h.1 hj
theorem net_ok {size n : Nat} (h2 : size ≤ 8) {cs : List NC} (hl : cs.length = size) (hc : ∀ (j : Nat) c, cs[j]? = some c → CAt size j c) {ps : List (Str × Nat)} (hn : n ≤ 4) (hp : ps.map (·.1) = (List.range n).map oN) (hk : ∀ p ∈ ps, p.2 < size) :
    Net.ok ⟨cs, ps⟩ where
  few := by show cs.length ≤ 400; omega
  ofew := by
    show ps.length ≤ 400
    have := congrArg List.length hp
    rw [List.length_map, List.length_map, List.length_range] at this
    omega
  cell := fun c hm => by
    obtain ⟨j, hj⟩ := List.getElem?_of_mem hm
    show c.ok cs.length
    rw [hl]
    exact (hc j c hj).ok
  names := by
    obtain ⟨a1, a2⟩ := fm_nodup i_inj cs 0 (by omega) fun j c s hj hs => by rw [Nat.zero_add]; exact (hc j c hj).port s hs
    obtain ⟨b1, b2⟩ := fm_nodup k_inj cs 0 (by omega) fun j c s hj hs => by rw [Nat.zero_add]; exact (hc j c hj).kept s hs
    refine List.nodup_append.mpr ⟨a1, b1, fun x hx y hy e => ?_⟩
    obtain ⟨i, _, hi, ei⟩ := a2 x hx
    obtain ⟨j, _, hj, ej⟩ := b2 y hy
    rw [ei, ej] at e
    exact ik_ne i (by omega) j (by omega) e
  onames := fun p hm => by
    have hin : p.1 ∈ ps.map (·.1) := List.mem_map.mpr ⟨p, hm, rfl⟩
    rw [hp] at hin
    obtain ⟨j, hj, e⟩ := List.mem_map.mp hin
    have := List.mem_range.mp hj
    refine ⟨by rw [← e]; exact (names_ok j (by omega)).2.2, by show p.2 < cs.length; rw [hl]; exact hk p hm⟩
  odist := by
    show (ps.map (·.1)).Nodup
    rw [hp]
    exact map_nodup List.nodup_range (fun j hj => by have := List.mem_range.mp hj; omega) o_inj
  back := fun i c e x hx => (hc i c e).back x hx
theorem nD_snoc (a : List Nat) (x : Nat) : nD (a ++ [x]) = nD a ++ [.int (x : Int)] := List.map_append
def pd__law_net_drawn : PI' := pdi 1 fun m as Q => m = .dice ∧ ∃ size : Nat, as = [.int (size : Int)] ∧ 1 ≤ size ∧ size ≤ 8 ∧ ∀ n : Net, n.ok → n.cs.length = size → n.os.length ≤ 3 → Q (netD n) .dice
theorem ok__law_net_drawn (T : Txt K w mg) : FnOk P w K mg base CX0 3 T._law_net_drawn.f T._law_net_drawn.fd ["_law_dice_here", "_law_size"] (spI K pd__law_net_drawn) := by
  refine T._law_net_drawn.F.ok sc__law_net_drawn (fun vs H Q E h => lenI h) (fun cdv A outer s H vs Q E hr h => ⟨_, (pss_cons (ps_set (i := 2) sc__law_net_drawn.nd rfl (.inl rfl) (pe_lstA pa_nil)) 
      (pss_cons (ps_for PassesOwn.never rfl (pi_range1 (by rfl) T.z_range (pa_cons (pv 1) pa_nil)) (pg_name (i := 3) sc__law_net_drawn.nd rfl (by first | exact .inl rfl | exact .inr rfl)) 
        (pss_cons (ps_asg (pe_lc (own := [("_law_turn", 9)]) (by rfl) sc__law_net_drawn.nd (pi_range1 (by rfl) T.z_range (pa_cons pe_int pa_nil)) (blkOk_by (own := [("_law_turn", 9)]) (N := ["_law_dice_here", "_law_size", "_law_found", "_law_at", "_law_one", "_law_other", "_law_third", "_law_keeper", "_law_some", "_law_turn"]) (sc := defScope s__law_net_drawn) (by decide +kernel)) (fun _ _ _ _ _ => (pg_name (i := 9) sc__law_net_drawn.nd rfl (.inl rfl))) (fun _ _ _ _ _ => pts_nil) (fun _ _ _ _ _ => (pe_call (ok__law_roll T) (hr.mono (by decide)) (by rfl) T._law_roll.g T._law_roll.F.kp T._law_roll.b .nil pass0 (pa_cons (pv 0) (pa_cons (pe_callB (call_max2 rfl) (by rfl) T.z_max (by decide +kernel) (pa_cons pe_int (pa_cons (pv 3) pa_nil))) pa_nil))))) (pg_lst rfl (pgs_cons (pg_name (i := 4) sc__law_net_drawn.nd rfl (.inl rfl)) (pgs_cons (pg_name (i := 5) sc__law_net_drawn.nd rfl (.inl rfl)) (pgs_cons (pg_name (i := 6) sc__law_net_drawn.nd rfl (.inl rfl)) pgs_nil))))) 
        (pss_cons (ps_set (i := 7) sc__law_net_drawn.nd rfl (.inl rfl) (pe_tup (pa_cons pe_str (pa_cons (pe_op op_add_str pe_str (pe_callTy call_str_int (by rfl) T.z_str (by decide +kernel) (pa_cons (pv 3) pa_nil))) (pa_cons (pe_call (ok__law_one_of T) (hr.mono (by decide)) (by rfl) T._law_one_of.g T._law_one_of.F.kp T._law_one_of.b .nil pass0 (pa_cons (pv 0) (pa_cons (pe_lstA (pa_cons pe_int (pa_cons pe_int (pa_cons pe_non pa_nil)))) pa_nil))) (pa_cons (pe_call (ok__law_roll T) (hr.mono (by decide)) (by rfl) T._law_roll.g T._law_roll.F.kp T._law_roll.b .nil pass0 (pa_cons (pv 0) (pa_cons (pv 1) pa_nil))) pa_nil)))))) 
        (pss_cons (ps_set (i := 8) sc__law_net_drawn.nd rfl (.inl rfl) (pe_lstA (pa_cons (pe_tup (pa_cons pe_str (pa_cons (pe_op op_add_str pe_str (pe_callTy call_str_int (by rfl) T.z_str (by decide +kernel) (pa_cons (pv 3) pa_nil))) pa_nil))) (pa_cons (pe_tup (pa_cons pe_str pa_nil)) (pa_cons (pv 7) pa_nil))))) 
        (pss_cons (ps_if (pt_cmpR op_gt (pv 3) pe_int (nomark _)) 
          (pss_cons (ps_set (i := 8) sc__law_net_drawn.nd rfl (.inl rfl) (pe_op op_catL (pv 8) (pe_lstA (pa_cons (pe_tup (pa_cons pe_str (pa_cons (pv 4) pa_nil))) (pa_cons (pe_tup (pa_cons pe_str (pa_cons (pv 4) (pa_cons (pv 5) pa_nil)))) (pa_cons (pe_tup (pa_cons pe_str (pa_cons (pv 4) (pa_cons (pv 5) pa_nil)))) (pa_cons (pe_tup (pa_cons pe_str (pa_cons (pv 4) (pa_cons (pv 5) pa_nil)))) pa_nil))))))) 
          (pss_one (ps_set (i := 8) sc__law_net_drawn.nd rfl (.inl rfl) (pe_op op_catL (pv 8) (pe_op op_repL (pe_lstA (pa_cons (pe_tup (pa_cons pe_str (pa_cons (pv 4) (pa_cons (pv 5) (pa_cons (pv 6) pa_nil))))) pa_nil)) pe_int))))) pss_nil) 
        (pss_one (ps_expr (pe_bm PySem.F.plainAttrs_list PySem.F.slot_list_append PySem.F.type_list_append mt_append (pv 2) (pa_cons (pe_call (ok__law_one_of T) (hr.mono (by decide)) (by rfl) T._law_one_of.g T._law_one_of.F.kp T._law_one_of.b .nil pass0 (pa_cons (pv 0) (pa_cons (pv 8) pa_nil))) pa_nil))))))))) 
      (pss_one (ps_ret (pe_tup (pa_cons (pe_callTy (call_tupleSK (K := K) rfl) (by rfl) T.z_tuple (by decide +kernel) (pa_cons (pv 2) pa_nil)) (pa_cons (pe_callTy (call_tupleSK (K := K) rfl) (by rfl) T.z_tuple (by decide +kernel) (pa_cons (pe_lc (own := [("_law_at", 3)]) (by rfl) sc__law_net_drawn.nd (pi_range1 (by rfl) T.z_range (pa_cons (pe_call (ok__law_roll T) (hr.mono (by decide)) (by rfl) T._law_roll.g T._law_roll.F.kp T._law_roll.b .nil pass0 (pa_cons (pv 0) (pa_cons pe_int pa_nil))) pa_nil)) (blkOk_by (own := [("_law_at", 3)]) (N := ["_law_dice_here", "_law_size", "_law_found", "_law_at", "_law_one", "_law_other", "_law_third", "_law_keeper", "_law_some", "_law_turn"]) (sc := defScope s__law_net_drawn) (by decide +kernel)) (fun _ _ _ _ _ => (pg_name (i := 3) sc__law_net_drawn.nd rfl (by first | exact .inl rfl | exact .inr rfl))) (fun _ _ _ _ _ => pts_nil) (fun _ _ _ _ _ => (pe_tup (pa_cons (pe_op op_add_str pe_str (pe_callTy call_str_int (by rfl) T.z_str (by decide +kernel) (pa_cons (pv 3) pa_nil))) (pa_cons (pe_call (ok__law_roll T) (hr.mono (by decide)) (by rfl) T._law_roll.g T._law_roll.F.kp T._law_roll.b .nil pass0 (pa_cons (pv 0) (pa_cons (pv 1) pa_nil))) pa_nil))))) pa_nil)) pa_nil))))))),
    runI ((sns_seq (sns_setN 2 (snd_lst sna_nil)) 
        (sns_seq (sns_for (sni_rng1 (sna_cons (snd_var 1) sna_nil)) (sng_name 3) 
          (sns_seq (sns_asg (snd_ne (snd_lc (sni_rng1 (sna_cons snd_int sna_nil)) (sgi_name (i := 9) (by decide)) snd_yes (snd_callI 0 (sna_cons (snd_cb s_max2 (.cons (sE snd_int) (.cons (sO 3) .nil))) sna_nil)))) (sng_lst (sng_cons (sng_name 4) (sng_cons (sng_name 5) (sng_cons (sng_name 6) sng_nil))))) 
          (sns_seq (sns_asg (snd_tup (sna_cons snd_str (sna_cons (snd_op s_addS (sE snd_str) (sE (snd_cb s_str (.cons (sO 3) .nil)))) (sna_cons (snd_callI 0 (sna_cons (snd_ne (snd_lst (sna_cons snd_int (sna_cons snd_int (sna_cons snd_non sna_nil))))) sna_nil)) (sna_cons (snd_callI 0 (sna_cons (snd_var 1) sna_nil)) sna_nil))))) (sng_name 7)) 
          (sns_seq (sns_asg (snd_ne (snd_lst (sna_cons (snd_tup (sna_cons snd_str (sna_cons (snd_op s_addS (sE snd_str) (sE (snd_cb s_str (.cons (sO 3) .nil)))) sna_nil))) (sna_cons (snd_tup (sna_cons snd_str sna_nil)) (sna_cons (snd_var 7) sna_nil))))) (sng_name 8)) 
          (sns_seq (sns_if (snd_test (snd_op s_gt (sO 3) (sE snd_int))) 
            (sns_seq (sns_asg (snd_ne (snd_opN s_catL (sO 8) (sE (snd_ne (snd_lst (sna_cons (snd_tup (sna_cons snd_str (sna_cons (snd_var 4) sna_nil))) (sna_cons (snd_tup (sna_cons snd_str (sna_cons (snd_var 4) (sna_cons (snd_var 5) sna_nil)))) (sna_cons (snd_tup (sna_cons snd_str (sna_cons (snd_var 4) (sna_cons (snd_var 5) sna_nil)))) (sna_cons (snd_tup (sna_cons snd_str (sna_cons (snd_var 4) (sna_cons (snd_var 5) sna_nil)))) sna_nil))))))))) (sng_name 8)) 
            (sns_asg (snd_ne (snd_opN s_catL (sO 8) (sE (snd_ne (snd_opN s_repL (sE (snd_ne (snd_lst (sna_cons (snd_tup (sna_cons snd_str (sna_cons (snd_var 4) (sna_cons (snd_var 5) (sna_cons (snd_var 6) sna_nil))))) sna_nil)))) (sE snd_int)))))) (sng_name 8))) sns_next) 
          (sns_drop (snd_meth 2 s_append (sna_cons (snd_callI 0 (sna_cons (snd_var 8) sna_nil)) sna_nil)))))))) 
        (sns_ret (snd_tup (sna_cons (snd_cb s_tuple (.cons (sO 2) .nil)) (sna_cons (snd_cb s_tuple (.cons (sE (snd_ne (snd_lc (sni_rng1 (sna_cons (snd_callI 0 (sna_cons snd_int sna_nil)) sna_nil)) (sgi_name (i := 3) (by decide)) snd_yes (snd_tup (sna_cons (snd_op s_addS (sE snd_str) (sE (snd_cb s_str (.cons (sO 3) .nil)))) (sna_cons (snd_callI 0 (sna_cons (snd_var 1) sna_nil)) sna_nil)))))) .nil)) sna_nil))))))) h (fun m as Qd hp => by rw [hp.1]; decide) ?_⟩)
  rintro ad m as Qd ⟨_, rfl, size, rfl, h1, h2, q⟩
  refine ⟨⟨by omega, by omega⟩, fun i ρ => ∃ L cs c3 c4 c5 c6 c7 c8, ρ = [.io ad .dice, .val (.int (size : Int)), .own (.lst L), c3, c4, c5, c6, c7, c8, .no] ∧ (c3 = .no ∨ ∃ d, c3 = .val d) ∧ L = cs.map cD ∧ cs.length = i ∧ ∀ (j : Nat) c, cs[j]? = some c → CAt size j c, ⟨_, [], _, _, _, _, _, _, rfl, .inl rfl, rfl, rfl, fun j c h => by cases h⟩, ?_, ?_⟩
  · rintro i x ρ hx ⟨L, cs, c3, c4, c5, c6, c7, c8, rfl, _, rfl, rfl, hc⟩
    obtain ⟨hi, rfl⟩ := rngD_get hx
    have hi : cs.length < size := by omega
    clear hx
    refine ⟨⟨by decide, by decide⟩, by decide, fun i ρ acc => ρ = [.io ad .dice, .val (.int (size : Int)), .own (.lst (cs.map cD)), .val (.int (0 + (cs.length : Int))), c4, c5, c6, c7, c8, .no] ∧ ∃ l : List Nat, acc = nD l ∧ l.length = i ∧ ∀ x ∈ l, x < max 1 cs.length, ⟨rfl, [], rfl, rfl, fun x hx => by cases hx⟩, ?_, ?_⟩
    · rintro i x ρ acc hx ⟨rfl, l, rfl, rfl, hl⟩
      obtain ⟨hi2, rfl⟩ := rngD_get hx
      refine ⟨⟨trivial, trivial⟩, rfl, rfl, _, rfl, ?_, ?_, fun r r0 r1 => ?_⟩
      · repeat' split
        all_goals omega
      · repeat' split
        all_goals omega
      have r2 : r < max 1 (cs.length : Int) := by
        revert r1
        repeat' split
        all_goals omega
      have q3 : ∃ l' : List Nat, nD l ++ [D.int r] = nD l' ∧ l'.length = l.length + 1 ∧ ∀ x ∈ l', x < max 1 cs.length := by
        refine ⟨l ++ [r.toNat], by rw [nD_snoc, Int.toNat_of_nonneg r0], by rw [List.length_append]; rfl, fun x hx => ?_⟩
        rcases List.mem_append.mp hx with h | h
        · exact hl x h
        · rw [List.mem_singleton.mp h]
          omega
      exact ⟨rfl, q3⟩
    · rintro ρ acc ⟨rfl, l, rfl, hl, hl2⟩
      have hl : l.length = 3 := hl
      obtain ⟨a, b, c, rfl⟩ := three hl
      have ha := hl2 a (by simp)
      have hb := hl2 b (by simp)
      have hd := hl2 c (by simp)
      clear hl hl2
      have fin : ∀ x, (∃ g, x = cD g ∧ CAt size cs.length g) → ∃ cs' : List NC, cs.map cD ++ [x] = cs'.map cD ∧ cs'.length = cs.length + 1 ∧ ∀ (j : Nat) g, cs'[j]? = some g → CAt size j g := fun x ⟨g, e, hg⟩ => by
        refine ⟨cs ++ [g], by rw [e, List.map_append]; rfl, by rw [List.length_append]; rfl, fun j z hz => ?_⟩
        by_cases hj : j < cs.length
        · rw [List.getElem?_append_left hj] at hz
          exact hc j z hz
        · have := (List.getElem?_eq_some_iff.mp hz).1
          rw [List.length_append, List.length_singleton] at this
          have ej : j = cs.length := by omega
          subst ej
          rw [List.getElem?_append_right (Nat.le_refl _), Nat.sub_self] at hz
          cases hz
          exact hg
      refine ⟨rfl, lg_ok (by omega), nm_len _ (by omega), rfl, rfl, _, rfl, by decide, by decide, fun fb hfb => ⟨rfl, rfl, size, rfl, by omega, by omega, fun t t0 t1 => ?_⟩⟩
      obtain ⟨ff, rfl⟩ : ∃ f, fb = fD f := by
        simp only [List.mem_cons, List.not_mem_nil, or_false] at hfb
        rcases hfb with rfl | rfl | rfl
        · exact ⟨some false, rfl⟩
        · exact ⟨some true, rfl⟩
        · exact ⟨none, rfl⟩
      refine ⟨lg_ok (by omega), nm_len _ (by omega), ?_⟩
      have base : ∀ x ∈ [D.tup [.str "in", .str (iN cs.length)], D.tup [.str "one"], D.tup [.str "keep", .str (kN cs.length), fD ff, .int t]], ∃ g, x = cD g ∧ CAt size cs.length g := fun x hx => by
        simp only [List.mem_cons, List.not_mem_nil, or_false] at hx
        rcases hx with rfl | rfl | rfl
        · refine ⟨.inp (iN cs.length), rfl, ?_, fun x hx => (by cases hx), fun s hs => (Option.some.inj hs).symm, fun s hs => by cases hs⟩
          exact (names_ok _ (by omega)).1
        · exact ⟨.one, rfl, trivial, fun x hx => (by cases hx), fun s hs => (by cases hs), fun s hs => by cases hs⟩
        · refine ⟨.keep (kN cs.length) ff t.toNat, ?_, ⟨(names_ok _ (by omega)).2.1, by omega⟩, fun x hx => (by cases hx), fun s hs => (by cases hs), fun s hs => (Option.some.inj hs).symm⟩
          show _ = D.tup [.str "keep", .str (kN cs.length), fD ff, .int ((t.toNat : Nat) : Int)]
          rw [Int.toNat_of_nonneg t0]
      have hcl : (cs.map cD).length ≤ 1000000 := by rw [List.length_map]; omega
      refine ifD2 (fun hp => ?_) fun hp => ?_
      · have hp : 0 < cs.length := by
          have := of_decide_eq_true hp
          omega
        refine ⟨by show 3 + 4 ≤ 1000000; decide, ⟨by decide, by decide, by show 1 * 2 ≤ 1000000; decide⟩, by show 7 + 2 ≤ 1000000; decide, rfl, rfl, _, rfl, by show 0 < 9; decide, by show 9 ≤ _; decide, fun x hx => ?_⟩
        have hx : ∃ g, x = cD g ∧ CAt size cs.length g := by
          let B : List D := [.tup [.str "in", .str (iN cs.length)], .tup [.str "one"], .tup [.str "keep", .str (kN cs.length), fD ff, .int t]]
          let G : List D := [.tup [.str "not", .int (a : Int)], .tup [.str "pick", .int (a : Int), .int (b : Int), .int (c : Int)]]
          let N : List D := [.tup [.str G5.an.s, .int (a : Int), .int (b : Int)], .tup [.str G5.orr.s, .int (a : Int), .int (b : Int)], .tup [.str G5.xr.s, .int (a : Int), .int (b : Int)]]
          have hx : x ∈ B ++ ([D.tup [.str "not", .int (a : Int)]] ++ N ++ ([D.tup [.str "pick", .int (a : Int), .int (b : Int), .int (c : Int)]] ++ [D.tup [.str "pick", .int (a : Int), .int (b : Int), .int (c : Int)]])) := hx
          have hG : x ∈ G → ∃ g, x = cD g ∧ CAt size cs.length g := fun h => by
            simp only [G, List.mem_cons, List.not_mem_nil, or_false] at h
            rcases h with rfl | rfl
            · exact ⟨.gate .nt [a], rfl, gate_at .nt rfl (by omega) (by simp; omega)⟩
            · exact ⟨.gate .pk [a, b, c], rfl, gate_at .pk rfl (by omega) (by simp; omega)⟩
          have hN : x ∈ N → ∃ g, x = cD g ∧ CAt size cs.length g := fun h => by
            simp only [N, List.mem_cons, List.not_mem_nil, or_false] at h
            rcases h with rfl | rfl | rfl
            · exact ⟨.gate .an [a, b], rfl, gate_at .an rfl (by omega) (by simp; omega)⟩
            · exact ⟨.gate .orr [a, b], rfl, gate_at .orr rfl (by omega) (by simp; omega)⟩
            · exact ⟨.gate .xr [a, b], rfl, gate_at .xr rfl (by omega) (by simp; omega)⟩
          rcases List.mem_append.mp hx with h | h
          · exact base x h
          rcases List.mem_append.mp h with h | h
          · rcases List.mem_append.mp h with h | h
            · exact hG (by rw [List.mem_singleton.mp h]; exact List.mem_cons_self)
            · exact hN h
          · have h : x = D.tup [.str "pick", .int (a : Int), .int (b : Int), .int (c : Int)] := by
              rcases List.mem_append.mp h with h | h <;> exact List.mem_singleton.mp h
            exact hG (by rw [h]; exact List.mem_cons_of_mem _ List.mem_cons_self)
        obtain ⟨cs', e, el, hcs⟩ := fin x hx
        exact ⟨hcl, _, cs', _, _, _, _, _, _, rfl, .inr ⟨_, rfl⟩, e, el, hcs⟩
      · refine ⟨rfl, rfl, _, rfl, by show 0 < 3; decide, by show 3 ≤ _; decide, fun x hx => ?_⟩
        obtain ⟨cs', e, el, hcs⟩ := fin x (base x hx)
        exact ⟨hcl, _, cs', _, _, _, _, _, _, rfl, .inr ⟨_, rfl⟩, e, el, hcs⟩
  · rintro ρ ⟨L, cs, c3, c4, c5, c6, c7, c8, rfl, h3, rfl, hl, hc⟩
    have hl : cs.length = size := by rw [hl]; unfold rngD; rw [List.length_map, List.length_range]; omega
    have hc4 : freeC [.io ad .dice, .val (.int (size : Int)), .own (.lst (cs.map cD)), c3, c4, c5, c6, c7, c8, .no] [3] := by
      rcases h3 with rfl | ⟨d, rfl⟩ <;> exact ⟨trivial, trivial⟩
    refine ⟨rfl, rfl, 4, rfl, by decide, by decide, fun r r0 r1 => ?_⟩
    refine ⟨⟨by omega, by omega⟩, by unfold rngD; rw [List.length_map, List.length_range]; omega, fun i ρ acc => ρ = [.io ad .dice, .val (.int (size : Int)), .own (.lst (cs.map cD)), c3, c4, c5, c6, c7, c8, .no] ∧ ∃ ps : List (Str × Nat), acc = ps.map oD ∧ ps.map (·.1) = (List.range i).map oN ∧ (∀ p ∈ ps, p.2 < size), ⟨rfl, [], rfl, rfl, fun x hx => by cases hx⟩, ?_, ?_⟩
    · rintro i x ρ acc hx ⟨rfl, ps, rfl, hp1, hp2⟩
      obtain ⟨hi, rfl⟩ := rngD_get hx
      refine ⟨hc4, lg_ok (by omega), nm_len _ (by omega), rfl, rfl, size, rfl, by omega, by omega, fun y y0 y1 => ⟨rfl, ps ++ [(oN i, y.toNat)], ?_, ?_, fun p hp => ?_⟩⟩
      · rw [List.map_append]
        show _ = ps.map oD ++ [D.tup [.str (oN i), .int ((y.toNat : Nat) : Int)]]
        rw [Int.toNat_of_nonneg y0]
        rfl
      · rw [List.map_append, hp1, List.range_succ, List.map_append]
        rfl
      · rcases List.mem_append.mp hp with h | h
        · exact hp2 p h
        · rw [List.mem_singleton.mp h]
          show y.toNat < size
          omega
    · rintro ρ acc ⟨rfl, ps, rfl, hp1, hp2⟩
      have hr : (rngD 0 r.toNat).length ≤ 3 := by unfold rngD; rw [List.length_map, List.length_range]; omega
      have q' := q ⟨cs, ps⟩ (net_ok h2 hl hc (by omega) hp1 hp2) hl (by
        show ps.length ≤ 3
        have := congrArg List.length hp1
        rw [List.length_map, List.length_map, List.length_range] at this
        omega)
      exact ⟨rfl, q'⟩
end
end PL
namespace PL
open PySem PySem.Spec PyProof.Rows L2 TB
section
variable {P : Program} {w : World} {K : PySem.W.Frag} {mg : Str → Option Value} {base : Heap}
def APv (n : Nat) (xs : List D) : Prop := ∀ x ∈ xs, Pv n x
theorem APv.app {n : Nat} {xs ys : List D} (h1 : APv n xs) (h2 : APv n ys) : APv n (xs ++ ys) := fun x hx => (List.mem_append.mp hx).elim (h1 x) (h2 x)
theorem APv.cut {n : Nat} {xs : List D} {lo hi : Option Int} (h : APv n xs) : APv n (cutD xs lo hi) := fun x hx => h x (List.mem_of_mem_drop (List.mem_of_mem_take hx))
theorem APv.nil {n : Nat} : APv n [] := fun x hx => by cases hx
theorem APv.cons {n : Nat} {x : D} {xs : List D} (h : Pv n x) (t : APv n xs) : APv n (x :: xs) := fun y hy => by
  rcases List.mem_cons.mp hy with rfl | hy
  · exact h
  · exact t y hy
theorem Pv.s {n : Nat} (x : Str) (h : ((PyData.str x).canLay0 = true ∧ x.length ≤ sizeLine) := by decide +kernel) : Pv n (.str x) := .str x h.1 h.2
theorem APv.tup {n : Nat} {xs : List D} (h : APv n xs) (hl : xs.length ≤ 20000) : Pv (n + 1) (.tup xs) := .tup xs h hl
theorem APv.lst {n : Nat} {xs : List D} (h : APv n xs) : Pv (n + 1) (.lst xs) := .lst xs h
theorem APv.up {n : Nat} {xs : List D} (h : APv n xs) : APv (n + 1) xs := fun x hx => (h x hx).up
theorem cut_le (xs : List D) (lo hi : Option Int) : (cutD xs lo hi).length ≤ xs.length := by
  unfold cutD
  rw [List.length_take, List.length_drop]
  omega
def names : List D := [.str (mulX "x" 24), .str (mulX "x" 25), .str "A", .str "1a", .str "_a", .str ".a", .str "a.b_9", .str "a b", .str "i0", .str "k.1", .str "i1", .str "a-b", .str "\n", .str "q"]
def pd__law_bent_cell : PI' := pdi 2 fun m as Q => m = .dice ∧ ∃ (ds : List D) (size : Nat), as = [.tup ds, .int (size : Int)] ∧ APv 1 ds ∧ 1 ≤ ds.length ∧ ds.length ≤ 4 ∧ 1 ≤ size ∧ size ≤ 8 ∧ ∀ d, Pv 3 d → Q d .dice
theorem ok__law_bent_cell (T : Txt K w mg) : FnOk P w K mg base CX0 3 T._law_bent_cell.f T._law_bent_cell.fd ["_law_dice_here", "_law_cell", "_law_size"] (spI K pd__law_bent_cell) := by
  refine T._law_bent_cell.F.ok sc__law_bent_cell (fun vs H Q E h => lenI h) (fun cdv A outer s H vs Q E hr h => ⟨_, (pss_cons (ps_set (i := 3) sc__law_bent_cell.nd rfl (.inl rfl) (pe_lstA (pa_cons pe_non (pa_cons pe_bl (pa_cons pe_str (pa_cons (pe_un un_neg pe_int) (pa_cons (pv 2) (pa_cons (pe_op op_mulW (pe_op op_pow pe_int pe_int) (pe_op op_pow pe_int pe_int)) (pa_cons (pe_tup (pa_cons pe_int pa_nil)) (pa_cons pe_bl (pa_cons pe_str (pa_cons (pe_lstA (pa_cons pe_int pa_nil)) pa_nil)))))))))))) 
      (pss_cons (ps_set (i := 4) sc__law_bent_cell.nd rfl (.inl rfl) (pe_call (ok__law_roll T) (hr.mono (by decide)) (by rfl) T._law_roll.g T._law_roll.F.kp T._law_roll.b .nil pass0 (pa_cons (pv 0) (pa_cons (pe_callB call_len_seq (by rfl) T.z_len PySem.boot_len (pa_cons (pv 1) pa_nil)) pa_nil)))) 
      (pss_cons (ps_set (i := 5) sc__law_bent_cell.nd rfl (.inl rfl) (pe_lstA (pa_cons (pe_op (op_catSK (K := K) rfl) (pe_op (op_catSK (K := K) rfl) (pe_slice (sl_tupleSK (K := K) rfl) (pv 1) po_none (po_some (pv 4))) (pe_tup (pa_cons (pe_call (ok__law_one_of T) (hr.mono (by decide)) (by rfl) T._law_one_of.g T._law_one_of.F.kp T._law_one_of.b .nil pass0 (pa_cons (pv 0) (pa_cons (pv 3) pa_nil))) pa_nil))) (pe_slice (sl_tupleSK (K := K) rfl) (pv 1) (po_some (pe_op op_add (pv 4) pe_int)) po_none)) (pa_cons (pe_slice (sl_tupleSK (K := K) rfl) (pv 1) po_none (po_some (pe_un un_neg pe_int))) (pa_cons (pe_op (op_catSK (K := K) rfl) (pv 1) (pe_tup (pa_cons pe_int pa_nil))) (pa_cons (pe_callTy call_listA (by rfl) T.z_list (by decide +kernel) (pa_cons (pv 1) pa_nil)) (pa_cons (pe_tup pa_nil) (pa_cons pe_non pa_nil)))))))) 
      (pss_cons (ps_set (i := 6) sc__law_bent_cell.nd rfl (.inr rfl) (pe_lstA (pa_cons (pe_op op_mulS pe_str pe_int) (pa_cons (pe_op op_mulS pe_str pe_int) (pa_cons pe_str (pa_cons pe_str (pa_cons pe_str (pa_cons pe_str (pa_cons pe_str (pa_cons pe_str (pa_cons pe_str (pa_cons pe_str (pa_cons pe_str (pa_cons pe_str (pa_cons pe_str (pa_cons pe_str pa_nil)))))))))))))))) 
      (pss_cons (ps_set (i := 5) sc__law_bent_cell.nd rfl (.inl rfl) (pe_op op_catL (pe_op op_catL (pv 5) (pe_lc (own := [("_law_name", 8)]) (by rfl) sc__law_bent_cell.nd (pi_list (pv 6)) (blkOk_by (own := [("_law_name", 8)]) (N := ["_law_dice_here", "_law_cell", "_law_size", "_law_odd", "_law_at", "_law_some", "_law_names", "_law_one", "_law_name"]) (sc := defScope s__law_bent_cell) (by decide +kernel)) (fun _ _ _ _ _ => (pg_name (i := 8) sc__law_bent_cell.nd rfl (.inl rfl))) (fun _ _ _ _ _ => pts_nil) (fun _ _ _ _ _ => (pe_tup (pa_cons pe_str (pa_cons (pv 8) pa_nil)))))) (pe_lstA (pa_cons (pe_ix ix_tup (pv 1) pe_int (fun _ _ => rfl)) (pa_cons (pe_tup (pa_cons pe_str (pa_cons pe_int pa_nil))) (pa_cons (pe_tup (pa_cons pe_str (pa_cons pe_int (pa_cons pe_int pa_nil)))) (pa_cons (pe_tup (pa_cons pe_str (pa_cons pe_int pa_nil))) pa_nil))))))) 
      (pss_cons (ps_set (i := 5) sc__law_bent_cell.nd rfl (.inl rfl) (pe_op op_catL (pv 5) (pe_lc (own := [("_law_one", 7)]) (by rfl) sc__law_bent_cell.nd (pi_tup (pe_tup (pa_cons pe_int (pa_cons pe_int (pa_cons pe_non (pa_cons pe_int (pa_cons pe_bl pa_nil))))))) (blkOk_by (own := [("_law_one", 7)]) (N := ["_law_dice_here", "_law_cell", "_law_size", "_law_odd", "_law_at", "_law_some", "_law_names", "_law_one", "_law_name"]) (sc := defScope s__law_bent_cell) (by decide +kernel)) (fun _ _ _ _ _ => (pg_name (i := 7) sc__law_bent_cell.nd rfl (.inl rfl))) (fun _ _ _ _ _ => pts_nil) (fun _ _ _ _ _ => (pe_tup (pa_cons pe_str (pa_cons (pe_call (ok__law_one_of T) (hr.mono (by decide)) (by rfl) T._law_one_of.g T._law_one_of.F.kp T._law_one_of.b .nil pass0 (pa_cons (pv 0) (pa_cons (pv 6) pa_nil))) (pa_cons (pv 7) (pa_cons pe_int pa_nil))))))))) 
      (pss_cons (ps_set (i := 5) sc__law_bent_cell.nd rfl (.inl rfl) (pe_op op_catL (pv 5) (pe_lstA (pa_cons (pe_tup (pa_cons pe_str (pa_cons (pe_call (ok__law_roll T) (hr.mono (by decide)) (by rfl) T._law_roll.g T._law_roll.F.kp T._law_roll.b .nil pass0 (pa_cons (pv 0) (pa_cons (pv 2) pa_nil))) pa_nil))) (pa_cons (pe_tup (pa_cons pe_str (pa_cons pe_int (pa_cons pe_int (pa_cons (pe_call (ok__law_roll T) (hr.mono (by decide)) (by rfl) T._law_roll.g T._law_roll.F.kp T._law_roll.b .nil pass0 (pa_cons (pv 0) (pa_cons (pv 2) pa_nil))) pa_nil))))) pa_nil))))) 
      (pss_one (ps_ret (pe_call (ok__law_one_of T) (hr.mono (by decide)) (by rfl) T._law_one_of.g T._law_one_of.F.kp T._law_one_of.b .nil pass0 (pa_cons (pv 0) (pa_cons (pv 5) pa_nil)))))))))))),
    runI ((sns_seq (sns_asg (snd_ne (snd_lst (sna_cons snd_non (sna_cons snd_bl (sna_cons snd_str (sna_cons (snd_un s_neg (sE snd_int)) (sna_cons (snd_var 2) (sna_cons (snd_op s_mulW (sE (snd_op s_pow (sE snd_int) (sE snd_int))) (sE (snd_op s_pow (sE snd_int) (sE snd_int)))) (sna_cons (snd_tup (sna_cons snd_int sna_nil)) (sna_cons snd_bl (sna_cons snd_str (sna_cons (snd_ne (snd_lst (sna_cons snd_int sna_nil))) sna_nil)))))))))))) (sng_name 3)) 
        (sns_seq (sns_asg (snd_callI 0 (sna_cons (snd_cb s_len (.cons (sO 1) .nil)) sna_nil)) (sng_name 4)) 
        (sns_seq (sns_asg (snd_ne (snd_lst (sna_cons (snd_op s_catT (sE (snd_op s_catT (sE (snd_sl s_slT (sO 1) snp_none (snp_some (snd_var 4)))) (sE (snd_tup (sna_cons (snd_callI 0 (sna_cons (snd_var 3) sna_nil)) sna_nil))))) (sE (snd_sl s_slT (sO 1) (snp_some (snd_op s_add (sO 4) (sE snd_int))) snp_none))) (sna_cons (snd_sl s_slT (sO 1) snp_none (snp_some (snd_un s_neg (sE snd_int)))) (sna_cons (snd_op s_catT (sO 1) (sE (snd_tup (sna_cons snd_int sna_nil)))) (sna_cons (snd_ne (snd_cbN s_list (.cons (sO 1) .nil))) (sna_cons (snd_tup sna_nil) (sna_cons snd_non sna_nil)))))))) (sng_name 5)) 
        (sns_seq (sns_asg (snd_ne (snd_lst (sna_cons (snd_op s_mulS (sE snd_str) (sE snd_int)) (sna_cons (snd_op s_mulS (sE snd_str) (sE snd_int)) (sna_cons snd_str (sna_cons snd_str (sna_cons snd_str (sna_cons snd_str (sna_cons snd_str (sna_cons snd_str (sna_cons snd_str (sna_cons snd_str (sna_cons snd_str (sna_cons snd_str (sna_cons snd_str (sna_cons snd_str sna_nil)))))))))))))))) (sng_name 6)) 
        (sns_seq (sns_asg (snd_ne (snd_opN s_catL (sE (snd_ne (snd_opN s_catL (sO 5) (sE (snd_ne (snd_lc (sni_list (snd_var 6)) (sgi_name (i := 8) (by decide)) snd_yes (snd_tup (sna_cons snd_str (sna_cons (snd_var 8) sna_nil))))))))) (sE (snd_ne (snd_lst (sna_cons (snd_op s_ixT (sO 1) (sE snd_int)) (sna_cons (snd_tup (sna_cons snd_str (sna_cons snd_int sna_nil))) (sna_cons (snd_tup (sna_cons snd_str (sna_cons snd_int (sna_cons snd_int sna_nil)))) (sna_cons (snd_tup (sna_cons snd_str (sna_cons snd_int sna_nil))) sna_nil))))))))) (sng_name 5)) 
        (sns_seq (sns_asg (snd_ne (snd_opN s_catL (sO 5) (sE (snd_ne (snd_lc (sni_tup (snd_tup (sna_cons snd_int (sna_cons snd_int (sna_cons snd_non (sna_cons snd_int (sna_cons snd_bl sna_nil))))))) (sgi_name (i := 7) (by decide)) snd_yes (snd_tup (sna_cons snd_str (sna_cons (snd_callI 0 (sna_cons (snd_var 6) sna_nil)) (sna_cons (snd_var 7) (sna_cons snd_int sna_nil)))))))))) (sng_name 5)) 
        (sns_seq (sns_asg (snd_ne (snd_opN s_catL (sO 5) (sE (snd_ne (snd_lst (sna_cons (snd_tup (sna_cons snd_str (sna_cons (snd_callI 0 (sna_cons (snd_var 2) sna_nil)) sna_nil))) (sna_cons (snd_tup (sna_cons snd_str (sna_cons snd_int (sna_cons snd_int (sna_cons (snd_callI 0 (sna_cons (snd_var 2) sna_nil)) sna_nil))))) sna_nil))))))) (sng_name 5)) 
        (sns_ret (snd_callI 0 (sna_cons (snd_var 5) sna_nil))))))))))) h (fun m as Qd hp => by rw [hp.1]; decide) ?_⟩)
  rintro ad m as Qd ⟨_, rfl, ds, size, rfl, hd, h1, h2, h3, h4, q⟩
  refine ⟨⟨by decide, by decide, by decide⟩, ⟨by decide, by decide, by decide⟩, wide_mul (a := 200) (b := 34) (by decide) (by decide) (by decide) (by decide) (by decide), ?_⟩
  have hodd : APv 2 [D.non, .bl true, .str "1", .int (-1), .int (size : Int), .int (10 ^ 60 * 10 ^ 10), .tup [.int 0], .bl false, .str "", .lst [.int 0]] :=
    .cons .non (.cons (.bl _) (.cons (.s "1") (.cons (.int _) (.cons (.int _) (.cons (.int _) (.cons (APv.tup (.cons (.int _) .nil) (by decide)) (.cons (.bl _) (.cons (.s "") (.cons (APv.lst (.cons (.int _) .nil)) .nil)))))))))
  refine ⟨rfl, rfl, ds.length, rfl, by omega, by omega, fun r r0 r1 => ?_⟩
  refine ⟨rfl, rfl, _, rfl, by show 0 < 10; decide, by show 10 ≤ _; decide, fun o ho => ?_⟩
  have ho : Pv 2 o := hodd o ho
  clear hodd
  have c2 := cut_le ds none (some r)
  have c3 := cut_le ds (some (r + 1)) none
  refine ⟨by show _ + 1 ≤ _; omega, by rw [List.length_append]; show _ + 1 + _ ≤ _; omega, by show _ + 1 ≤ _; omega, ?_⟩
  have hd2 : APv 2 ds := hd.up
  have hsome : APv 3 [.tup (cutD ds none (some r) ++ [o] ++ cutD ds (some (r + 1)) none), .tup (cutD ds none (some (-1))), .tup (ds ++ [.int 0]), .lst ds, .tup [], .non] := by
    have c4 := cut_le ds none (some (-1))
    refine .cons (APv.tup ((hd2.cut.app (.cons ho .nil)).app hd2.cut) ?_) (.cons (APv.tup hd2.cut (by omega)) (.cons (APv.tup (hd2.app (.cons (.int _) .nil)) ?_) (.cons (APv.lst hd2) (.cons (APv.tup .nil (by decide)) (.cons .non .nil)))))
    · rw [List.length_append, List.length_append]
      show _ + 1 + _ ≤ _
      omega
    · rw [List.length_append]
      show _ + 1 ≤ _
      omega
  have hnames : APv 2 names := .cons (.s _) (.cons (.s _) (.cons (.s _) (.cons (.s _) (.cons (.s _) (.cons (.s _) (.cons (.s _) (.cons (.s _) (.cons (.s _) (.cons (.s _) (.cons (.s _) (.cons (.s _) (.cons (.s _) (.cons (.s _) .nil)))))))))))))
  refine ⟨⟨by decide, by decide, by decide, by decide⟩, ⟨by decide, by decide, by decide, by decide⟩, by decide, lcP_m (fun d => .tup [.str "in", d]) (fun d hd Y hY => ⟨⟨trivial, trivial⟩, hY⟩) ?_⟩
  obtain ⟨k, rt, rfl⟩ : ∃ k rt, ds = k :: rt := by
    cases ds with
    | nil => exact absurd h1 (by decide)
    | cons k rt => exact ⟨k, rt, rfl⟩
  have hk : Pv 3 k := (hd k List.mem_cons_self).up.up
  refine ⟨by show 6 + 14 ≤ 1000000; decide, optD_of (x := k) at0 ?_⟩
  have hfive : APv 2 [D.int 0, .int 1, .non, .int 2, .bl true] := .cons (.int _) (.cons (.int _) (.cons .non (.cons (.int _) (.cons (.bl _) .nil))))
  refine ⟨by show 20 + 4 ≤ 1000000; decide, by show 5 ≤ 1000000; decide, fun i ρ acc => ρ = _ ∧ APv 3 acc ∧ acc.length = i, ⟨rfl, .nil, rfl⟩, ?_, ?_⟩
  · rintro i x ρ acc hx ⟨rfl, ha, hl⟩
    have hx2 : Pv 2 x := hfive x (List.mem_of_getElem? hx)
    refine ⟨⟨trivial, trivial⟩, rfl, rfl, names, rfl, by show 0 < 14; decide, by show 14 ≤ _; decide, fun nm hn => ⟨rfl, ha.app (.cons (APv.tup (.cons (.s "keep") (.cons (hnames nm hn) (.cons hx2 (.cons (.int _) .nil)))) ?_) .nil), by rw [List.length_append, hl]; rfl⟩⟩
    show 4 ≤ 20000
    decide
  rintro ρ acc ⟨rfl, ha, hl⟩
  have hl : acc.length = 5 := hl
  refine ⟨by show 24 + acc.length ≤ _; omega, rfl, rfl, size, rfl, by omega, by omega, fun t t0 t1 => ⟨rfl, rfl, size, rfl, by omega, by omega, fun u u0 u1 => ?_⟩⟩
  refine ⟨by rw [List.length_append]; show 24 + acc.length + 2 ≤ _; omega, rfl, rfl, _, rfl, ?_, ?_, fun d hd => ⟨rfl, q d ?_⟩⟩
  · rw [List.length_append]
    show 0 < _ + 2
    omega
  · rw [List.length_append, List.length_append]
    show 24 + acc.length + 2 ≤ _
    omega
  have hmap : APv 3 (names.map fun d => D.tup [.str "in", d]) := fun x hx => by
    obtain ⟨y, hy, rfl⟩ := List.mem_map.mp hx
    exact APv.tup (.cons (.s "in") (.cons (hnames y hy) .nil)) (by show 2 ≤ 20000; decide)
  have hfour : APv 3 [k, .tup [.str "one", .int 0], .tup [.str "same", .int 0, .int 0], .tup [.str "Not", .int 0]] :=
    .cons hk (.cons (APv.tup (.cons (.s "one") (.cons (.int _) .nil)) (by decide)) (.cons (APv.tup (.cons (.s "same") (.cons (.int _) (.cons (.int _) .nil))) (by decide)) (.cons (APv.tup (.cons (.s "Not") (.cons (.int _) .nil)) (by decide)) .nil)))
  have htwo : APv 3 [.tup [.str "not", .int t], .tup [.str "pick", .int 0, .int 0, .int u]] :=
    .cons (APv.tup (.cons (.s "not") (.cons (.int _) .nil)) (by show 2 ≤ 20000; decide)) (.cons (APv.tup (.cons (.s "pick") (.cons (.int _) (.cons (.int _) (.cons (.int _) .nil)))) (by show 4 ≤ 20000; decide)) .nil)
  exact ((((hsome.app hmap).app hfour).app ha).app htwo) d hd
end
end PL
namespace PL
open PySem PySem.Spec PyProof.Rows L2 TB
section
variable {P : Program} {w : World} {K : PySem.W.Frag} {mg : Str → Option Value} {base : Heap}
def Ov (d : D) : Prop := Pv 4 d ∨ d = .dct []
def pd__law_bent_outputs : PI' := pdi 2 fun m as Q => m = .dice ∧ ∃ (ds : List D) (size : Nat), as = [.tup ds, .int (size : Int)] ∧ APv 2 ds ∧ ds.length ≤ 4 ∧ ∀ d, Ov d → Q d .dice
theorem ok__law_bent_outputs (T : Txt K w mg) : FnOk P w K mg base CX0 3 T._law_bent_outputs.f T._law_bent_outputs.fd ["_law_dice_here", "_law_outputs", "_law_size"] (spI K pd__law_bent_outputs) := by
  refine T._law_bent_outputs.F.ok sc__law_bent_outputs (fun vs H Q E h => lenI h) (fun cdv A outer s H vs Q E hr h => ⟨_, (pss_cons (ps_set (i := 3) sc__law_bent_outputs.nd rfl (.inl rfl) (pe_lstA (pa_cons (pe_op (op_catSK (K := K) rfl) (pv 1) (pe_slice (sl_tupleSK (K := K) rfl) (pv 1) po_none (po_some pe_int))) (pa_cons (pe_callTy call_listA (by rfl) T.z_list (by decide +kernel) (pa_cons (pv 1) pa_nil)) (pa_cons pe_non (pa_cons (pe_tup pa_nil) (pa_cons (pe_op (op_catSK (K := K) rfl) (pv 1) (pe_tup (pa_cons (pe_tup (pa_cons pe_str (pa_cons (pv 2) pa_nil))) pa_nil))) (pa_cons (pe_op (op_catSK (K := K) rfl) (pv 1) (pe_tup (pa_cons (pe_tup (pa_cons pe_str (pa_cons (pe_un un_neg pe_int) pa_nil))) pa_nil))) pa_nil)))))))) 
      (pss_cons (ps_set (i := 3) sc__law_bent_outputs.nd rfl (.inl rfl) (pe_op op_catL (pv 3) (pe_lstA (pa_cons (pe_op (op_catSK (K := K) rfl) (pv 1) (pe_tup (pa_cons (pe_tup (pa_cons pe_str (pa_cons pe_bl pa_nil))) pa_nil))) (pa_cons (pe_op (op_catSK (K := K) rfl) (pv 1) (pe_tup (pa_cons (pe_tup (pa_cons pe_str (pa_cons pe_int pa_nil))) pa_nil))) (pa_cons (pe_op (op_catSK (K := K) rfl) (pv 1) (pe_tup (pa_cons (pe_tup (pa_cons pe_str (pa_cons pe_int (pa_cons pe_int pa_nil)))) pa_nil))) (pa_cons (pe_op (op_catSK (K := K) rfl) (pv 1) (pe_tup (pa_cons (pe_lstA (pa_cons pe_str (pa_cons pe_int pa_nil))) pa_nil))) pa_nil))))))) 
      (pss_cons (ps_set (i := 3) sc__law_bent_outputs.nd rfl (.inl rfl) (pe_op op_catL (pv 3) (pe_lstA (pa_cons (pe_op (op_catSK (K := K) rfl) (pv 1) (pe_tup (pa_cons (pe_tup (pa_cons pe_str (pa_cons pe_int pa_nil))) pa_nil))) (pa_cons (pe_op (op_catSK (K := K) rfl) (pv 1) (pe_tup (pa_cons (pe_tup (pa_cons (pe_op op_mulS pe_str pe_int) (pa_cons pe_int pa_nil))) pa_nil))) (pa_cons (pe_op (op_catSK (K := K) rfl) (pv 1) (pe_tup (pa_cons (pe_tup (pa_cons pe_int (pa_cons pe_str pa_nil))) pa_nil))) (pa_cons pe_str (pa_cons pe_dnewK pa_nil)))))))) 
      (pss_one (ps_ret (pe_call (ok__law_one_of T) (hr.mono (by decide)) (by rfl) T._law_one_of.g T._law_one_of.F.kp T._law_one_of.b .nil pass0 (pa_cons (pv 0) (pa_cons (pv 3) pa_nil)))))))),
    runI ((sns_seq (sns_asg (snd_ne (snd_lst (sna_cons (snd_op s_catT (sO 1) (sE (snd_sl s_slT (sO 1) snp_none (snp_some snd_int)))) (sna_cons (snd_ne (snd_cbN s_list (.cons (sO 1) .nil))) (sna_cons snd_non (sna_cons (snd_tup sna_nil) (sna_cons (snd_op s_catT (sO 1) (sE (snd_tup (sna_cons (snd_tup (sna_cons snd_str (sna_cons (snd_var 2) sna_nil))) sna_nil)))) (sna_cons (snd_op s_catT (sO 1) (sE (snd_tup (sna_cons (snd_tup (sna_cons snd_str (sna_cons (snd_un s_neg (sE snd_int)) sna_nil))) sna_nil)))) sna_nil)))))))) (sng_name 3)) 
        (sns_seq (sns_asg (snd_ne (snd_opN s_catL (sO 3) (sE (snd_ne (snd_lst (sna_cons (snd_op s_catT (sO 1) (sE (snd_tup (sna_cons (snd_tup (sna_cons snd_str (sna_cons snd_bl sna_nil))) sna_nil)))) (sna_cons (snd_op s_catT (sO 1) (sE (snd_tup (sna_cons (snd_tup (sna_cons snd_str (sna_cons snd_int sna_nil))) sna_nil)))) (sna_cons (snd_op s_catT (sO 1) (sE (snd_tup (sna_cons (snd_tup (sna_cons snd_str (sna_cons snd_int (sna_cons snd_int sna_nil)))) sna_nil)))) (sna_cons (snd_op s_catT (sO 1) (sE (snd_tup (sna_cons (snd_ne (snd_lst (sna_cons snd_str (sna_cons snd_int sna_nil)))) sna_nil)))) sna_nil))))))))) (sng_name 3)) 
        (sns_seq (sns_asg (snd_ne (snd_opN s_catL (sO 3) (sE (snd_ne (snd_lst (sna_cons (snd_op s_catT (sO 1) (sE (snd_tup (sna_cons (snd_tup (sna_cons snd_str (sna_cons snd_int sna_nil))) sna_nil)))) (sna_cons (snd_op s_catT (sO 1) (sE (snd_tup (sna_cons (snd_tup (sna_cons (snd_op s_mulS (sE snd_str) (sE snd_int)) (sna_cons snd_int sna_nil))) sna_nil)))) (sna_cons (snd_op s_catT (sO 1) (sE (snd_tup (sna_cons (snd_tup (sna_cons snd_int (sna_cons snd_str sna_nil))) sna_nil)))) (sna_cons snd_str (sna_cons (snd_ne snd_dnewK) sna_nil)))))))))) (sng_name 3)) 
        (sns_ret (snd_callI 0 (sna_cons (snd_var 3) sna_nil))))))) h (fun m as Qd hp => by rw [hp.1]; decide) ?_⟩)
  rintro ad m as Qd ⟨_, rfl, ds, size, rfl, hd, h1, q⟩
  have c1 := cut_le ds none (some 1)
  have b1 : ds.length + 1 ≤ 1000000 := by omega
  refine ⟨by omega, b1, b1, b1, b1, b1, b1, by show 6 + 4 ≤ 1000000; decide, b1, ⟨by decide, by decide, by decide, by decide⟩, b1, b1, by show 10 + 5 ≤ 1000000; decide, rfl, rfl, _, rfl, by show 0 < 15; decide, by show 15 ≤ _; decide, fun d hx => ⟨rfl, q d ?_⟩⟩
  have one : ∀ x, Pv 2 x → Ov (.tup (ds ++ [x])) := fun x hx => .inl ((APv.tup (hd.app (.cons hx .nil)) (by rw [List.length_append]; show _ + 1 ≤ _; omega)).up)
  have two : ∀ a b : D, Pv 1 a → Pv 1 b → Pv 2 (.tup [a, b]) := fun a b ha hb => APv.tup (.cons ha (.cons hb .nil)) (by show 2 ≤ 20000; decide)
  have hx : d ∈ [D.tup (ds ++ cutD ds none (some 1)), .lst ds, .non, .tup [], .tup (ds ++ [.tup [.str "a.1", .int (size : Int)]]), .tup (ds ++ [.tup [.str "a", .int (-1)]]), .tup (ds ++ [.tup [.str "a", .bl true]]), .tup (ds ++ [.tup [.str "A", .int 0]]), .tup (ds ++ [.tup [.str "a", .int 0, .int 0]]), .tup (ds ++ [.lst [.str "a", .int 0]]),
    .tup (ds ++ [.tup [.str "i0", .int 0]]), .tup (ds ++ [.tup [.str (mulX "z" 25), .int 0]]), .tup (ds ++ [.tup [.int 0, .str "a"]]), .str "outputs", .dct []] := hx
  simp only [List.mem_cons, List.not_mem_nil, or_false] at hx
  rcases hx with rfl | rfl | rfl | rfl | rfl | rfl | rfl | rfl | rfl | rfl | rfl | rfl | rfl | rfl | rfl
  · exact .inl ((APv.tup (hd.app hd.cut) (by rw [List.length_append]; omega)).up)
  · exact .inl (APv.lst hd).up
  · exact .inl .non
  · exact .inl (APv.tup .nil (by decide))
  · exact one _ (two _ _ (.s "a.1") (.int _))
  · exact one _ (two _ _ (.s "a") (.int _))
  · exact one _ (two _ _ (.s "a") (.bl _))
  · exact one _ (two _ _ (.s "A") (.int _))
  · exact one _ (APv.tup (.cons (.s "a") (.cons (.int _) (.cons (.int _) .nil))) (by show 3 ≤ 20000; decide))
  · exact one _ (APv.lst (.cons (.s "a") (.cons (.int _) .nil)))
  · exact one _ (two _ _ (.s "i0") (.int _))
  · exact one _ (two _ _ (.s _) (.int _))
  · exact one _ (two _ _ (.int _) (.s "a"))
  · exact .inl (.s "outputs")
  · exact .inr rfl
end
end PL
namespace PL
open PySem PySem.Spec PyProof.Rows L2 TB
section
variable {P : Program} {w : World} {K : PySem.W.Frag} {mg : Str → Option Value} {base : Heap}
theorem pv_name {n : Nat} {x : Str} (h : nameB x = true) : Pv n (.str x) := by
  have a := (name_str (n := 0) h)
  refine .str x a.2.1 ?_
  unfold nameB at h
  rw [Bool.and_eq_true, Bool.and_eq_true, decide_eq_true_iff] at h
  rw [sizeLine_eq]
  omega
theorem fD_pv {n : Nat} (f : Option Bool) : Pv n (fD f) := by
  cases f with
  | none => exact .non
  | some b => cases b <;> exact .int _
theorem cD_pv {n : Nat} {c : NC} (h : c.ok n) : Pv 1 (cD c) := by
  cases c with
  | inp x => exact APv.tup (.cons (.s "in") (.cons (pv_name h) .nil)) (by show 2 ≤ 20000; decide)
  | one => exact APv.tup (.cons (.s "one") .nil) (by show 1 ≤ 20000; decide)
  | keep x f t => exact APv.tup (.cons (.s "keep") (.cons (pv_name h.1) (.cons (fD_pv f) (.cons (.int _) .nil)))) (by show 4 ≤ 20000; decide)
  | gate g xs =>
    refine APv.tup (.cons ?_ fun y hy => ?_) ?_
    · cases g <;> exact .s _
    · obtain ⟨x, _, rfl⟩ := List.mem_map.mp hy
      exact .int _
    · show (nD xs).length + 1 ≤ 20000
      have := h.1
      have hg : g.n ≤ 3 := by cases g <;> decide
      rw [nD, List.length_map]
      omega
theorem cells_pv {n : Nat} {cs : List NC} (h : ∀ c ∈ cs, c.ok n) : APv 1 (cs.map cD) := fun x hx => by
  obtain ⟨c, hc, rfl⟩ := List.mem_map.mp hx
  exact cD_pv (h c hc)
theorem outs_pv {ps : List (Str × Nat)} (h : ∀ p ∈ ps, nameB p.1 = true) : APv 1 (ps.map oD) := fun x hx => by
  obtain ⟨p, hp, rfl⟩ := List.mem_map.mp hx
  exact APv.tup (.cons (pv_name (h p hp)) (.cons (.int _) .nil)) (by show 2 ≤ 20000; decide)
theorem idx_ok {x n : Nat} (h : x < n) : idxB n (.int (x : Int)) = true := within_ok h
theorem cell_true {n : Nat} {c : NC} (h : c.ok n) : cellB n (cD c) = true := by
  cases c with
  | inp x => exact h
  | one => rfl
  | keep x f t =>
    show (nameB x && firB (fD f) && idxB n (.int (t : Int))) = true
    rw [h.1, idx_ok h.2]
    cases f with
    | none => rfl
    | some b => cases b <;> rfl
  | gate g xs =>
    have e : tailB n g.s (nD xs) = gateB n g.n (nD xs) := by cases g <;> rfl
    show tailB n g.s (nD xs) = true
    rw [e]
    unfold gateB
    have a1 : (nD xs).length = g.n := by rw [nD, List.length_map]; exact h.1
    have a2 : (nD xs).all (idxB n) = true := List.all_eq_true.mpr fun y hy => by
      obtain ⟨x, hx, rfl⟩ := List.mem_map.mp hy
      exact idx_ok (h.2 x hx)
    have a3 : g.n ≠ 0 := by cases g <;> decide
    rw [a2, decide_eq_true a1, decide_eq_true a3]
    rfl
theorem lot_eq {cs : List NC} (h : ∀ c ∈ cs, c.ok cs.length) (hl : cs.length ≤ 6000) : lotB (csD cs) = namB (cs.filterMap NC.ports) (cs.filterMap NC.kept) := by
  have a1 : (cs.map cD).length = cs.length := List.length_map ..
  have a2 : (cs.map cD).all (cellB (cs.map cD).length) = true := List.all_eq_true.mpr fun y hy => by
    obtain ⟨c, hc, rfl⟩ := List.mem_map.mp hy
    rw [a1]
    exact cell_true (h c hc)
  show (decide ((cs.map cD).length ≤ 6000) && ((cs.map cD).all (cellB (cs.map cD).length) && namB (nms (kS false) (cs.map cD)) (nms (kS true) (cs.map cD)))) = _
  rw [a2, decide_eq_true (by omega), nms_cs, nms_cs]
  rfl
theorem nam_true {p q : List Str} (hp : p.length ≤ 400) (hq : q.length ≤ 400) (h : (p ++ q).Nodup) : namB p q = true := by
  unfold namB
  rw [decide_eq_true hp, decide_eq_true hq, nub_of h, decide_eq_true List.length_append]
  rfl
theorem lot_true {n : Net} (h : n.ok) : lotB (csD n.cs) = true := by
  have hf := h.few
  rw [lot_eq h.cell (by omega)]
  have a1 := List.length_filterMap_le NC.ports n.cs
  have a2 := List.length_filterMap_le NC.kept n.cs
  exact nam_true (by omega) (by omega) h.names
theorem outs_true {m : Nat} {ps : List (Str × Nat)} (h : ∀ p ∈ ps, nameB p.1 = true ∧ p.2 < m) (hl : ps.length ≤ 400) (hd : (ps.map (·.1)).Nodup) : outsB m (.tup (ps.map oD)) = true := by
  have a1 : (ps.map oD).length = ps.length := List.length_map ..
  have a2 : (ps.map oD).all (outB m) = true := List.all_eq_true.mpr fun y hy => by
    obtain ⟨p, hp, rfl⟩ := List.mem_map.mp hy
    show (nameB p.1 && idxB m (.int (p.2 : Int))) = true
    rw [(h p hp).1, idx_ok (h p hp).2]
    rfl
  show (decide ((ps.map oD).length ≤ 400) && ((ps.map oD).all (outB m) && decide ((nub ((ps.map oD).filterMap onm)).length = (ps.map oD).length))) = true
  rw [a2, a1, decide_eq_true hl, onm_ps, nub_of hd, decide_eq_true (List.length_map ..)]
  rfl
theorem net_true {n : Net} (h : n.ok) : netB (netD n) = true := by
  show (lotB (csD n.cs) && (outsB (n.cs.map cD).length (.tup (n.os.map oD)) && backD (n.cs.map cD))) = true
  rw [lot_true h, List.length_map, outs_true h.onames h.ofew h.odist, backD_cs h.cell]
  show backB n.cs = true
  unfold backB
  rw [List.all_flatMap, List.all_eq_true]
  intro i _
  unfold backF
  split
  · rename_i c e
    rw [all_map', List.all_eq_true]
    exact fun x hx => decide_eq_true (h.back i c e x hx)
  · rfl
theorem same_bl (a : Bool) : (!decide (V.bl a = V.bl a)) = false := by rw [decide_eq_true rfl]; rfl
theorem fm_none {α : Type} (xs : List α) : (xs.filterMap fun _ => (none : Option D)) = [] := by
  induction xs with
  | nil => rfl
  | cons x xs ih => rw [List.filterMap_cons_none rfl, ih]
end
end PL
namespace PL
open PySem PySem.Spec PyProof.Rows L2 TB
section
variable {P : Program} {w : World} {K : PySem.W.Frag} {mg : Str → Option Value} {base : Heap}
theorem cD_tup {n : Nat} {c : NC} (h : c.ok n) : ∃ ds, cD c = .tup ds ∧ APv 0 ds ∧ 1 ≤ ds.length ∧ ds.length ≤ 4 := by
  have e : ∃ ds, cD c = .tup ds ∧ 1 ≤ ds.length ∧ ds.length ≤ 4 := by
    cases c with
    | inp x => exact ⟨_, rfl, by show 1 ≤ 2; decide, by show 2 ≤ 4; decide⟩
    | one => exact ⟨_, rfl, by show 1 ≤ 1; decide, by show 1 ≤ 4; decide⟩
    | keep x f t => exact ⟨_, rfl, by show 1 ≤ 4; decide, by show 4 ≤ 4; decide⟩
    | gate g xs =>
      refine ⟨_, rfl, Nat.le_add_left _ _, ?_⟩
      show (nD xs).length + 1 ≤ 4
      have := h.1
      have hg : g.n ≤ 3 := by cases g <;> decide
      rw [nD, List.length_map]
      omega
  obtain ⟨ds, ed, h1, h2⟩ := e
  have hp := cD_pv h
  rw [ed] at hp
  obtain ⟨m, em, hi, _⟩ := hp.items
  obtain rfl : m = 0 := by omega
  exact ⟨ds, ed, hi, h1, h2⟩
def someL (n : Net) (bent : List D) (bo : D) : List D :=
  [.tup [.tup bent, .tup (n.os.map oD)], .tup [csD n.cs, bo], .tup [.tup (n.cs.map cD).reverse, .tup (n.os.map oD)], .tup [.tup bent], .lst [csD n.cs, .tup (n.os.map oD)], .tup [csD n.cs, .tup (n.os.map oD), .int 0], .tup [.tup (n.os.map oD), csD n.cs],
   .tup [.lst (n.cs.map cD), .tup (n.os.map oD)], .non, .int 0, .str "net", .dct [], .tup [.tup [], .tup []], .tup [.tup (n.cs.map cD ++ n.cs.map cD), .tup []]]
def lotsL (n : Net) (bent : List D) : List D :=
  [.tup bent, .tup (n.cs.map cD).reverse, .tup (n.cs.map cD ++ n.cs.map cD), .lst (n.cs.map cD), .non, .int 5, .tup [], netD n, .tup [.non], .tup [.tup []]]
theorem Pv.up2 {n : Nat} {d : D} (h : Pv n d) : Pv (n + 2) d := h.up.up
theorem some_ok {n : Net} {bent : List D} {bo : D} (hn : n.ok) (hk : n.cs.length ≤ 8) (ho : n.os.length ≤ 3) (hb : Pv 4 (.tup bent)) (hbl : bent.length ≤ 20) (hbo : Ov bo) : ∀ v ∈ someL n bent bo, ∃ m, Pn m v ∧ m ≤ 60 := fun v hv => by
  have hl : (n.cs.map cD).length ≤ 8 := by rw [List.length_map]; omega
  have hc : Pv 4 (csD n.cs) := (APv.tup (cells_pv hn.cell) (by omega)).up2
  have hcr : Pv 4 (.tup (n.cs.map cD).reverse) := (APv.tup (n := 1) (fun x hx => cells_pv hn.cell x (List.mem_reverse.mp hx)) (by rw [List.length_reverse]; omega)).up2
  have hcc : Pv 4 (.tup (n.cs.map cD ++ n.cs.map cD)) := (APv.tup ((cells_pv hn.cell).app (cells_pv hn.cell)) (by rw [List.length_append]; omega)).up2
  have hcl : Pv 4 (.lst (n.cs.map cD)) := (APv.lst (cells_pv hn.cell)).up2
  have hos : Pv 4 (.tup (n.os.map oD)) := (APv.tup (outs_pv fun p hp => (hn.onames p hp).1) (by rw [List.length_map]; omega)).up2
  have he : Pv 4 (.tup []) := APv.tup .nil (by decide)
  have two : ∀ a b : D, Pv 4 a → Pv 4 b → ∃ m, Pn m (.tup [a, b]) ∧ m ≤ 60 := fun a b ha hb => ⟨5, .inl (APv.tup (.cons ha (.cons hb .nil)) (by show 2 ≤ 20000; decide)), by decide⟩
  simp only [someL, List.mem_cons, List.not_mem_nil, or_false] at hv
  rcases hv with rfl | rfl | rfl | rfl | rfl | rfl | rfl | rfl | rfl | rfl | rfl | rfl | rfl | rfl
  · exact two _ _ hb hos
  · rcases hbo with h | rfl
    · exact two _ _ hc h
    · exact ⟨4, .inr (.inr ⟨_, rfl, hc⟩), by decide⟩
  · exact two _ _ hcr hos
  · exact ⟨5, .inl (APv.tup (.cons hb .nil) (by show 1 ≤ 20000; decide)), by decide⟩
  · exact ⟨5, .inl (APv.lst (.cons hc (.cons hos .nil))), by decide⟩
  · exact ⟨5, .inl (APv.tup (.cons hc (.cons hos (.cons (.int _) .nil))) (by show 3 ≤ 20000; decide)), by decide⟩
  · exact two _ _ hos hc
  · exact two _ _ hcl hos
  · exact ⟨0, .inl .non, by decide⟩
  · exact ⟨0, .inl (.int _), by decide⟩
  · exact ⟨0, .inl (.s "net"), by decide⟩
  · exact ⟨0, .inr (.inl rfl), by decide⟩
  · exact two _ _ he he
  · exact two _ _ hcc he
theorem lots_ok {n : Net} {bent : List D} (hn : n.ok) (hk : n.cs.length ≤ 8) (ho : n.os.length ≤ 3) (hb : Pv 4 (.tup bent)) (hbl : bent.length ≤ 20) : ∀ v ∈ lotsL n bent, Pv 6 v := fun v hv => by
  have hl : (n.cs.map cD).length ≤ 8 := by rw [List.length_map]; omega
  have hc : Pv 4 (csD n.cs) := (APv.tup (cells_pv hn.cell) (by omega)).up2
  have hos : Pv 4 (.tup (n.os.map oD)) := (APv.tup (outs_pv fun p hp => (hn.onames p hp).1) (by rw [List.length_map]; omega)).up2
  simp only [lotsL, List.mem_cons, List.not_mem_nil, or_false] at hv
  rcases hv with rfl | rfl | rfl | rfl | rfl | rfl | rfl | rfl | rfl | rfl
  · exact hb.up2
  · exact ((APv.tup (n := 1) (fun x hx => cells_pv hn.cell x (List.mem_reverse.mp hx)) (by rw [List.length_reverse]; omega)).up2).up2
  · exact ((APv.tup ((cells_pv hn.cell).app (cells_pv hn.cell)) (by rw [List.length_append]; omega)).up2).up2
  · exact ((APv.lst (cells_pv hn.cell)).up2).up2
  · exact .non
  · exact .int _
  · exact APv.tup .nil (by decide)
  · exact (APv.tup (.cons hc (.cons hos .nil)) (by show 2 ≤ 20000; decide)).up
  · exact APv.tup (.cons .non .nil) (by show 1 ≤ 20000; decide)
  · exact APv.tup (.cons (APv.tup .nil (by decide)) .nil) (by show 1 ≤ 20000; decide)
def pd__law_right : PI' := pdi 0 fun m as Q => m = .dice ∧ as = [] ∧ Q (.bl true) .dice
theorem ok__law_right (T : Txt K w mg) : FnOk P w K mg base CX0 7 T._law_right.f T._law_right.fd ["_law_dice_here"] (spI K pd__law_right) := by
  refine T._law_right.F.ok sc__law_right (fun vs H Q E h => lenI h) (fun cdv A outer s H vs Q E hr h => ⟨_, (pss_cons (ps_set (i := 1) sc__law_right.nd rfl (.inl rfl) (pe_op op_add pe_int (pe_call (ok__law_roll T) (hr.mono (by decide)) (by rfl) T._law_roll.g T._law_roll.F.kp T._law_roll.b .nil pass0 (pa_cons (pv 0) (pa_cons pe_int pa_nil))))) 
      (pss_cons (ps_set (i := 2) sc__law_right.nd rfl (.inl rfl) (pe_call (ok__law_net_drawn T) (hr.mono (by decide)) (by rfl) T._law_net_drawn.g T._law_net_drawn.F.kp T._law_net_drawn.b .nil pass0 (pa_cons (pv 0) (pa_cons (pv 1) pa_nil)))) 
      (pss_cons (ps_if (PW.pt (pw_or (pt_not (pt_val (pe_call (ok_is_net T) (hr.mono (by decide)) (by rfl) T.is_net.g T.is_net.F.kp T.is_net.b .nil pass0 (pa_cons (pv 2) pa_nil)))) (pw_or1 (pt_not (pt_val (pe_call (ok_is_lot T) (hr.mono (by decide)) (by rfl) T.is_lot.g T.is_lot.F.kp T.is_lot.b .nil pass0 (pa_cons (pe_ix ix_tup (pv 2) pe_int (fun _ _ => rfl)) pa_nil))))))) 
        (pss_one (ps_ret pe_bl)) pss_nil) 
      (pss_cons (ps_set (i := 3) sc__law_right.nd rfl (.inl rfl) (pe_call (ok__law_roll T) (hr.mono (by decide)) (by rfl) T._law_roll.g T._law_roll.F.kp T._law_roll.b .nil pass0 (pa_cons (pv 0) (pa_cons (pv 1) pa_nil)))) 
      (pss_cons (ps_set (i := 4) sc__law_right.nd rfl (.inl rfl) (pe_op (op_catSK (K := K) rfl) (pe_op (op_catSK (K := K) rfl) (pe_slice (sl_tupleSK (K := K) rfl) (pe_ix ix_tup (pv 2) pe_int (fun _ _ => rfl)) po_none (po_some (pv 3))) (pe_tup (pa_cons (pe_call (ok__law_bent_cell T) (hr.mono (by decide)) (by rfl) T._law_bent_cell.g T._law_bent_cell.F.kp T._law_bent_cell.b .nil pass0 (pa_cons (pv 0) (pa_cons (pe_ix ix_tup (pe_ix ix_tup (pv 2) pe_int (fun _ _ => rfl)) (pv 3) (fun _ _ => rfl)) (pa_cons (pv 1) pa_nil)))) pa_nil))) (pe_slice (sl_tupleSK (K := K) rfl) (pe_ix ix_tup (pv 2) pe_int (fun _ _ => rfl)) (po_some (pe_op op_add (pv 3) pe_int)) po_none))) 
      (pss_cons (ps_set (i := 5) sc__law_right.nd rfl (.inl rfl) (pe_lstA (pa_cons (pe_tup (pa_cons (pv 4) (pa_cons (pe_ix ix_tup (pv 2) pe_int (fun _ _ => rfl)) pa_nil))) (pa_cons (pe_tup (pa_cons (pe_ix ix_tup (pv 2) pe_int (fun _ _ => rfl)) (pa_cons (pe_call (ok__law_bent_outputs T) (hr.mono (by decide)) (by rfl) T._law_bent_outputs.g T._law_bent_outputs.F.kp T._law_bent_outputs.b .nil pass0 (pa_cons (pv 0) (pa_cons (pe_ix ix_tup (pv 2) pe_int (fun _ _ => rfl)) (pa_cons (pv 1) pa_nil)))) pa_nil))) (pa_cons (pe_tup (pa_cons (pe_revT (pe_ix ix_tup (pv 2) pe_int (fun _ _ => rfl))) (pa_cons (pe_ix ix_tup (pv 2) pe_int (fun _ _ => rfl)) pa_nil))) (pa_cons (pe_tup (pa_cons (pv 4) pa_nil)) pa_nil)))))) 
      (pss_cons (ps_set (i := 5) sc__law_right.nd rfl (.inl rfl) (pe_op op_catL (pv 5) (pe_lstA (pa_cons (pe_callTy call_listA (by rfl) T.z_list (by decide +kernel) (pa_cons (pv 2) pa_nil)) (pa_cons (pe_op (op_catSK (K := K) rfl) (pv 2) (pe_tup (pa_cons pe_int pa_nil))) (pa_cons (pe_revT (pv 2)) (pa_cons (pe_tup (pa_cons (pe_callTy call_listA (by rfl) T.z_list (by decide +kernel) (pa_cons (pe_ix ix_tup (pv 2) pe_int (fun _ _ => rfl)) pa_nil)) (pa_cons (pe_ix ix_tup (pv 2) pe_int (fun _ _ => rfl)) pa_nil))) (pa_cons pe_non (pa_cons pe_int (pa_cons pe_str (pa_cons pe_dnewK (pa_cons (pe_tup (pa_cons (pe_tup pa_nil) (pa_cons (pe_tup pa_nil) pa_nil))) pa_nil)))))))))))) 
      (pss_cons (ps_expr (pe_bm PySem.F.plainAttrs_list PySem.F.slot_list_append PySem.F.type_list_append mt_append (pv 5) (pa_cons (pe_tup (pa_cons (pe_op (op_catSK (K := K) rfl) (pe_ix ix_tup (pv 2) pe_int (fun _ _ => rfl)) (pe_ix ix_tup (pv 2) pe_int (fun _ _ => rfl))) (pa_cons (pe_tup pa_nil) pa_nil))) pa_nil))) 
      (pss_cons (ps_for PassesOwn.never rfl (pi_list (pv 5)) (pg_name (i := 6) sc__law_right.nd rfl (by first | exact .inl rfl | exact .inr rfl)) 
        (pss_one (ps_if (pt_cmpR op_ne (pe_call (ok_is_net T) (hr.mono (by decide)) (by rfl) T.is_net.g T.is_net.F.kp T.is_net.b .nil pass0 (pa_cons (pv 6) pa_nil)) (pe_call (ok__law_is_net T) (hr.mono (by decide)) (by rfl) T._law_is_net.g T._law_is_net.F.kp T._law_is_net.b .nil pass0 (pa_cons (pv 6) pa_nil)) (nomark _)) 
          (pss_one (ps_ret pe_bl)) pss_nil))) 
      (pss_cons (ps_set (i := 7) sc__law_right.nd rfl (.inl rfl) (pe_lstA (pa_cons (pv 4) (pa_cons (pe_revT (pe_ix ix_tup (pv 2) pe_int (fun _ _ => rfl))) (pa_cons (pe_op (op_catSK (K := K) rfl) (pe_ix ix_tup (pv 2) pe_int (fun _ _ => rfl)) (pe_ix ix_tup (pv 2) pe_int (fun _ _ => rfl))) (pa_cons (pe_callTy call_listA (by rfl) T.z_list (by decide +kernel) (pa_cons (pe_ix ix_tup (pv 2) pe_int (fun _ _ => rfl)) pa_nil)) (pa_cons pe_non (pa_cons pe_int (pa_cons (pe_tup pa_nil) (pa_cons (pv 2) (pa_cons (pe_tup (pa_cons pe_non pa_nil)) (pa_cons (pe_tup (pa_cons (pe_tup pa_nil) pa_nil)) pa_nil)))))))))))) 
      (pss_one (ps_ret (pe_cmpR (op_eqDK (K := K) rfl hr.units) (pe_lc (own := [("_law_value", 6)]) (by rfl) sc__law_right.nd (pi_list (pv 7)) (blkOk_by (own := [("_law_value", 6)]) (N := ["_law_dice_here", "_law_size", "_law_net", "_law_at", "_law_bent", "_law_some", "_law_value", "_law_lots"]) (sc := defScope s__law_right) (by decide +kernel)) (fun _ _ _ _ _ => (pg_name (i := 6) sc__law_right.nd rfl (by first | exact .inl rfl | exact .inr rfl))) (fun _ _ _ _ _ => (pts_one (pt_cmpR op_ne (pe_call (ok_is_lot T) (hr.mono (by decide)) (by rfl) T.is_lot.g T.is_lot.F.kp T.is_lot.b .nil pass0 (pa_cons (pv 6) pa_nil)) (pe_call (ok__law_is_lot T) (hr.mono (by decide)) (by rfl) T._law_is_lot.g T._law_is_lot.F.kp T._law_is_lot.b .nil pass0 (pa_cons (pv 6) pa_nil)) (nomark _)))) (fun _ _ _ _ _ => (pv 6))) (pe_lstA pa_nil) (nomark _)))))))))))))),
    runI ((sns_seq (sns_asg (snd_op s_add (sE snd_int) (sE (snd_callI 0 (sna_cons snd_int sna_nil)))) (sng_name 1)) 
        (sns_seq (sns_asg (snd_callI 0 (sna_cons (snd_var 1) sna_nil)) (sng_name 2)) 
        (sns_seq (sns_if (snd_or (snd_not (snd_b (snd_call (sna_cons (snd_var 2) sna_nil)))) (snd_not (snd_b (snd_call (sna_cons (snd_op s_ixT (sO 2) (sE snd_int)) sna_nil))))) 
          (sns_ret snd_bl) sns_next) 
        (sns_seq (sns_asg (snd_callI 0 (sna_cons (snd_var 1) sna_nil)) (sng_name 3)) 
        (sns_seq (sns_asg (snd_op s_catT (sE (snd_op s_catT (sE (snd_sl s_slT (sE (snd_op s_ixT (sO 2) (sE snd_int))) snp_none (snp_some (snd_var 3)))) (sE (snd_tup (sna_cons (snd_callI 0 (sna_cons (snd_op s_ixT (sE (snd_op s_ixT (sO 2) (sE snd_int))) (sO 3)) (sna_cons (snd_var 1) sna_nil))) sna_nil))))) (sE (snd_sl s_slT (sE (snd_op s_ixT (sO 2) (sE snd_int))) (snp_some (snd_op s_add (sO 3) (sE snd_int))) snp_none))) (sng_name 4)) 
        (sns_seq (sns_setN 5 (snd_lst (sna_cons (snd_tup (sna_cons (snd_var 4) (sna_cons (snd_op s_ixT (sO 2) (sE snd_int)) sna_nil))) (sna_cons (snd_tup (sna_cons (snd_op s_ixT (sO 2) (sE snd_int)) (sna_cons (snd_callI 0 (sna_cons (snd_op s_ixT (sO 2) (sE snd_int)) (sna_cons (snd_var 1) sna_nil))) sna_nil))) (sna_cons (snd_tup (sna_cons (snd_revT (sE (snd_op s_ixT (sO 2) (sE snd_int)))) (sna_cons (snd_op s_ixT (sO 2) (sE snd_int)) sna_nil))) (sna_cons (snd_tup (sna_cons (snd_var 4) sna_nil)) sna_nil)))))) 
        (sns_seq (sns_setN 5 (snd_opN s_catL (sO 5) (sE (snd_ne (snd_lst (sna_cons (snd_ne (snd_cbN s_list (.cons (sO 2) .nil))) (sna_cons (snd_op s_catT (sO 2) (sE (snd_tup (sna_cons snd_int sna_nil)))) (sna_cons (snd_revT (sO 2)) (sna_cons (snd_tup (sna_cons (snd_ne (snd_cbN s_list (.cons (sE (snd_op s_ixT (sO 2) (sE snd_int))) .nil))) (sna_cons (snd_op s_ixT (sO 2) (sE snd_int)) sna_nil))) (sna_cons snd_non (sna_cons snd_int (sna_cons snd_str (sna_cons (snd_ne snd_dnewK) (sna_cons (snd_tup (sna_cons (snd_tup sna_nil) (sna_cons (snd_tup sna_nil) sna_nil))) sna_nil)))))))))))))) 
        (sns_seq (sns_drop (snd_meth 5 s_append (sna_cons (snd_tup (sna_cons (snd_op s_catT (sE (snd_op s_ixT (sO 2) (sE snd_int))) (sE (snd_op s_ixT (sO 2) (sE snd_int)))) (sna_cons (snd_tup sna_nil) sna_nil))) sna_nil))) 
        (sns_seq (sns_for (sni_list (snd_varF 5)) (sng_name 6) 
          (sns_if (snd_test (snd_op s_ne (sE (snd_call (sna_cons (snd_var 6) sna_nil))) (sE (snd_call (sna_cons (snd_var 6) sna_nil))))) 
            (sns_ret snd_bl) sns_next)) 
        (sns_seq (sns_asg (snd_ne (snd_lst (sna_cons (snd_var 4) (sna_cons (snd_revT (sE (snd_op s_ixT (sO 2) (sE snd_int)))) (sna_cons (snd_op s_catT (sE (snd_op s_ixT (sO 2) (sE snd_int))) (sE (snd_op s_ixT (sO 2) (sE snd_int)))) (sna_cons (snd_ne (snd_cbN s_list (.cons (sE (snd_op s_ixT (sO 2) (sE snd_int))) .nil))) (sna_cons snd_non (sna_cons snd_int (sna_cons (snd_tup sna_nil) (sna_cons (snd_var 2) (sna_cons (snd_tup (sna_cons snd_non sna_nil)) (sna_cons (snd_tup (sna_cons (snd_tup sna_nil) sna_nil)) sna_nil)))))))))))) (sng_name 7)) 
        (sns_ret (snd_op s_eqD (sE (snd_ne (snd_lc (sni_list (snd_var 7)) (sgi_name (i := 6) (by decide)) (snd_test (snd_op s_ne (sE (snd_call (sna_cons (snd_var 6) sna_nil))) (sE (snd_call (sna_cons (snd_var 6) sna_nil))))) (snd_var 6)))) (sE (snd_ne (snd_lst sna_nil)))))))))))))))) h (fun m as Qd hp => by rw [hp.1]; decide) ?_⟩)
  rintro ad m as Qd ⟨_, rfl, rfl, q⟩
  refine ⟨rfl, rfl, 8, rfl, by decide, by decide, fun r r0 r1 => ?_⟩
  obtain ⟨s, hs, s1, s2⟩ : ∃ s : Nat, (1 + r) = (s : Int) ∧ 1 ≤ s ∧ s ≤ 8 := ⟨(1 + r).toNat, by omega, by omega, by omega⟩
  refine ⟨rfl, rfl, s, congrArg (fun z => [D.int z]) hs, s1, s2, fun n hn hk ho => ?_⟩
  have hnP : Pv 3 (netD n) := APv.tup (.cons (APv.tup (cells_pv hn.cell) (by rw [List.length_map]; omega)) (.cons (APv.tup (outs_pv fun p hp => (hn.onames p hp).1) (by rw [List.length_map]; omega)) .nil)) (by show 2 ≤ 20000; decide)
  refine ⟨rfl, netD n, 3, rfl, .inl hnP, by decide, ifD_f (by rw [net_true hn]; rfl) ?_⟩
  have hcP : Pv 2 (csD n.cs) := APv.tup (cells_pv hn.cell) (by rw [List.length_map]; omega)
  refine ⟨rfl, csD n.cs, 2, rfl, hcP, by decide, ifD_f (by rw [lot_true hn]; rfl) ?_⟩
  refine ⟨rfl, rfl, 1 + r, rfl, by omega, by omega, fun t t0 t1 => ?_⟩
  obtain ⟨j, rfl⟩ : ∃ j : Nat, t = (j : Int) := ⟨t.toNat, by omega⟩
  have hj : j < n.cs.length := by omega
  have ec : n.cs[j]? = some n.cs[j] := List.getElem?_eq_getElem hj
  obtain ⟨ds, ed, hd1, hd2, hd3⟩ := cD_tup (hn.cell _ (List.mem_of_getElem? ec))
  refine optD_of (x := cD n.cs[j]) (atI_map cD (atD (j := j) rfl ec)) ⟨rfl, rfl, ds, s, by rw [ed]; exact congrArg (fun z => [D.tup ds, D.int z]) hs, hd1.up, hd2, hd3, s1, s2, fun bc hbc => ?_⟩
  have hml : (n.cs.map cD).length ≤ 8 := by rw [List.length_map]; omega
  have c1 := cut_le (n.cs.map cD) none (some (j : Int))
  have c2 := cut_le (n.cs.map cD) (some ((j : Int) + 1)) none
  refine ⟨by show _ + 1 ≤ _; omega, by rw [List.length_append]; show _ + 1 + _ ≤ _; omega, ?_⟩
  have hcs3 : APv 3 (n.cs.map cD) := (cells_pv hn.cell).up.up
  have hbent : Pv 4 (.tup (cutD (n.cs.map cD) none (some (j : Int)) ++ [bc] ++ cutD (n.cs.map cD) (some ((j : Int) + 1)) none)) := APv.tup ((hcs3.cut.app (.cons hbc .nil)).app hcs3.cut) (by rw [List.length_append, List.length_append]; show _ + 1 + _ ≤ _; omega)
  have hbl : (cutD (n.cs.map cD) none (some (j : Int)) ++ [bc] ++ cutD (n.cs.map cD) (some ((j : Int) + 1)) none).length ≤ 20 := by
    rw [List.length_append, List.length_append]
    show _ + 1 + _ ≤ _
    omega
  generalize cutD (n.cs.map cD) none (some (j : Int)) ++ [bc] ++ cutD (n.cs.map cD) (some ((j : Int) + 1)) none = bent at hbent hbl ⊢
  clear c1 c2
  refine ⟨rfl, rfl, n.os.map oD, s, congrArg (fun z => [D.tup (n.os.map oD), D.int z]) hs, (outs_pv fun p hp => (hn.onames p hp).1).up, by rw [List.length_map]; omega, fun bo hbo => ?_⟩
  have some_pn : ∀ v ∈ someL n bent bo, ∃ m, Pn m v ∧ m ≤ 60 := some_ok hn (by omega) (by omega) hbent hbl hbo
  refine ⟨by show 2 + 1 ≤ 1000000; decide, by show 4 + 9 ≤ 1000000; decide, by omega, by show 13 ≤ 1000000; decide, fun i ρ => ∃ c6, ρ = [.io ad .dice, .val (.int (1 + r)), .val (netD n), .val (.int (j : Int)), .val (.tup bent), .val (.lst (someL n bent bo)), c6, .no] ∧ (c6 = .no ∨ ∃ d, c6 = .val d), ⟨_, rfl, .inl rfl⟩, ?_, ?_⟩
  · rintro i v ρ hx ⟨c6, rfl, _⟩
    obtain ⟨m, hv, hm⟩ := some_pn v (List.mem_of_getElem? hx)
    exact ⟨rfl, v, m, rfl, hv, hm, rfl, v, m, rfl, hv, hm, rfl, ifD_f (same_bl _) ⟨_, rfl, .inr ⟨_, rfl⟩⟩⟩
  rintro ρ ⟨c6, rfl, h6⟩
  have hfr : freeC [.io ad .dice, .val (.int (1 + r)), .val (netD n), .val (.int (j : Int)), .val (.tup bent), .val (.lst (someL n bent bo)), c6, .val (.lst (lotsL n bent))] [6] := by
    rcases h6 with rfl | ⟨d, rfl⟩ <;> exact ⟨trivial, trivial⟩
  have lots_pv := lots_ok hn (by omega) (by omega) hbent hbl
  refine ⟨by omega, by show 10 ≤ 1000000; decide, lcP_x (tD := fun d : D => d) (xs := lotsL n bent) (List.map_id _).symm (fun _ => none) (fun v hv N Y hN hY => ⟨hfr, rfl, v, 6, rfl, lots_pv v hv, by decide, rfl, v, 6, rfl, lots_pv v hv, by decide, rfl, ifD_f (same_bl _) (hN rfl)⟩) ?_⟩
  rw [fm_none]
  exact ⟨⟨nil_cmp, nil_cmp⟩, rfl, q⟩
end
end PL
namespace PL
open PySem PySem.Spec PyProof.Rows L2 TB
section
variable {P : Program} {w : World} {K : PySem.W.Frag} {mg : Str → Option Value} {base : Heap}
/-! ### four hundred names -/
def aN (i : Nat) : Str := "a" ++ (toString (0 + (i : Int)) : Str)
def bN (i : Nat) : Str := "b" ++ (toString (0 + (i : Int)) : Str)
def decS (s : Str) : Nat := (s.cps.toList.drop 1).foldl (fun a c => a * 10 + (c - 48)) 0
theorem great_tab : ∀ i, i < 401 → (nameB (aN i) = true ∧ nameB (bN i) = true ∧ decS (aN i) = i ∧ decS (bN i) = i) ∧ (aN i).cps.toList.head? = some 97 ∧ (bN i).cps.toList.head? = some 98 ∧ (toString (0 + (i : Int)) : Str).length ≤ 3 ∧ (0 + (i : Int)).natAbs.log2 < 1920 := by decide +kernel
theorem map_nd {f : Nat → Str} (h : ∀ i, i < 401 → decS (f i) = i) : ∀ {ks : List Nat}, ks.Nodup → (∀ j ∈ ks, j < 401) → (ks.map f).Nodup
  | [], _, _ => List.nodup_nil
  | k :: ks, hn, hk => by
    have hn := List.nodup_cons.mp hn
    refine List.nodup_cons.mpr ⟨fun hx => ?_, map_nd h hn.2 fun j hj => hk j (List.mem_cons_of_mem _ hj)⟩
    obtain ⟨j, hj, e⟩ := List.mem_map.mp hx
    have e1 := h j (hk j (List.mem_cons_of_mem _ hj))
    have e2 := h k (hk k List.mem_cons_self)
    rw [e, e2] at e1
    rw [e1] at hn
    exact hn.1 hj
theorem rg_lt {k : Nat} (hk : k ≤ 401) : ∀ j ∈ List.range k, j < 401 := fun j hj => by
  have := List.mem_range.mp hj
  omega
def pN (k : Nat) : List NC := (List.range k).map fun i => .inp (aN i)
def qN (k : Nat) : List NC := (List.range k).map fun i => .keep (bN i) (some false) 0
theorem pN_ok {k n : Nat} (hk : k ≤ 401) : ∀ c ∈ pN k, c.ok n := fun c hc => by
  obtain ⟨i, hi, rfl⟩ := List.mem_map.mp hc
  exact (great_tab i (rg_lt hk i hi)).1.1
theorem qN_ok {k n : Nat} (hk : k ≤ 401) (hn : 0 < n) : ∀ c ∈ qN k, c.ok n := fun c hc => by
  obtain ⟨i, hi, rfl⟩ := List.mem_map.mp hc
  exact ⟨(great_tab i (rg_lt hk i hi)).1.2.1, hn⟩
theorem fm_all {α β : Type} {f : α → Option β} {g : α → β} (xs : List α) (h : ∀ x, f x = some (g x)) : xs.filterMap f = xs.map g := by
  induction xs with
  | nil => rfl
  | cons x xs ih => rw [List.filterMap_cons_some (h x), ih]; rfl
theorem fm_no {α β : Type} {f : α → Option β} (xs : List α) (h : ∀ x, f x = none) : xs.filterMap f = [] := by
  induction xs with
  | nil => rfl
  | cons x xs ih => rw [List.filterMap_cons_none (h x), ih]
theorem pN_p (k : Nat) : (pN k).filterMap NC.ports = (List.range k).map aN := by
  unfold pN
  rw [List.filterMap_map]
  exact fm_all _ fun x => rfl
theorem pN_k (k : Nat) : (pN k).filterMap NC.kept = [] := by
  unfold pN
  rw [List.filterMap_map]
  exact fm_no _ fun x => rfl
theorem qN_p (k : Nat) : (qN k).filterMap NC.ports = [] := by
  unfold qN
  rw [List.filterMap_map]
  exact fm_no _ fun x => rfl
theorem qN_k (k : Nat) : (qN k).filterMap NC.kept = (List.range k).map bN := by
  unfold qN
  rw [List.filterMap_map]
  exact fm_all _ fun x => rfl
theorem pN_len (k : Nat) : (pN k).length = k := by unfold pN; rw [List.length_map, List.length_range]
theorem qN_len (k : Nat) : (qN k).length = k := by unfold qN; rw [List.length_map, List.length_range]
theorem g_a : lotB (csD (pN 400 ++ qN 400)) = true := by
  rw [lot_eq (fun c hc => (List.mem_append.mp hc).elim (pN_ok (by decide) c) (qN_ok (by decide) (by rw [List.length_append, pN_len, qN_len]; decide) c)) (by rw [List.length_append, pN_len, qN_len]; decide),
    List.filterMap_append, List.filterMap_append, pN_p, pN_k, qN_p, qN_k, List.append_nil, List.nil_append]
  refine nam_true (by rw [List.length_map, List.length_range]; decide) (by rw [List.length_map, List.length_range]; decide) ?_
  refine List.nodup_append.mpr ⟨map_nd (fun i hi => (great_tab i hi).1.2.2.1) List.nodup_range (rg_lt (by decide)), map_nd (fun i hi => (great_tab i hi).1.2.2.2) List.nodup_range (rg_lt (by decide)), fun x hx y hy e => ?_⟩
  obtain ⟨i, hi, rfl⟩ := List.mem_map.mp hx
  obtain ⟨j, hj, rfl⟩ := List.mem_map.mp hy
  have a := (great_tab i (rg_lt (by decide) i hi)).2.1
  have b := (great_tab j (rg_lt (by decide) j hj)).2.2.1
  rw [e, b] at a
  exact absurd a (by decide)
theorem g_b : lotB (csD (pN 401)) = false := by
  rw [lot_eq (pN_ok (by decide)) (by rw [pN_len]; decide), pN_p, pN_k]
  unfold namB
  rw [List.length_map, List.length_range]
  rfl
theorem g_c : lotB (csD (qN 401)) = false := by
  rw [lot_eq (qN_ok (by decide) (by rw [qN_len]; decide)) (by rw [qN_len]; decide), qN_p, qN_k]
  unfold namB
  rw [List.length_map, List.length_range]
  rfl
def oneN (k : Nat) : List NC := List.replicate k .one
theorem oneN_ok {k n : Nat} : ∀ c ∈ oneN k, c.ok n := fun c hc => by
  rw [List.eq_of_mem_replicate hc]
  trivial
theorem rep_one (k : Nat) : (List.replicate k [D.tup [.str "one"]]).flatten = (oneN k).map cD := by
  unfold oneN
  induction k with
  | zero => rfl
  | succ k ih => rw [List.replicate_succ, List.flatten_cons, ih, List.replicate_succ]; rfl
theorem oneN_no {k : Nat} {f : NC → Option Str} (h : f .one = none) : (oneN k).filterMap f = [] := by
  unfold oneN
  induction k with
  | zero => rfl
  | succ k ih => rw [List.replicate_succ, List.filterMap_cons_none h, ih]
theorem g_d : lotB (csD (oneN 6000)) = true := by
  rw [lot_eq oneN_ok (by unfold oneN; rw [List.length_replicate]; decide), oneN_no rfl, oneN_no rfl]
  rfl
theorem lot_long {ds : List D} (hl : ds.length = 6001) : lotB (.tup ds) = false := by
  have e : lotB (.tup ds) = (decide (ds.length ≤ 6000) && (ds.all (cellB ds.length) && namB (nms "in" ds) (nms "keep" ds))) := rfl
  rw [e, decide_eq_false (by omega), Bool.false_and]
theorem outs_long {n : Nat} {os : List D} (hl : os.length = 401) : outsB n (.tup os) = false := by
  have e : outsB n (.tup os) = (decide (os.length ≤ 400) && (os.all (outB n) && decide ((nub (os.filterMap onm)).length = os.length))) := rfl
  rw [e, decide_eq_false (by omega), Bool.false_and]
theorem g_e : lotB (csD (oneN 6001)) = false := lot_long (by rw [List.length_map, oneN, List.length_replicate])
def oN4 (k : Nat) : List (Str × Nat) := (List.range k).map fun i => (aN i, 0)
theorem g_net : Net.ok ⟨pN 1, oN4 400⟩ where
  few := by show (pN 1).length ≤ 400; rw [pN_len]; decide
  ofew := by show (oN4 400).length ≤ 400; unfold oN4; rw [List.length_map, List.length_range]; decide
  cell := pN_ok (by decide)
  names := by
    show ((pN 1).filterMap NC.ports ++ (pN 1).filterMap NC.kept).Nodup
    rw [pN_p, pN_k, List.append_nil]
    exact map_nd (fun i hi => (great_tab i hi).1.2.2.1) List.nodup_range (rg_lt (by decide))
  onames := fun p hp => by
    obtain ⟨i, hi, rfl⟩ := List.mem_map.mp hp
    exact ⟨(great_tab i (rg_lt (by decide) i hi)).1.1, by show 0 < (pN 1).length; rw [pN_len]; decide⟩
  odist := by
    show ((oN4 400).map (·.1)).Nodup
    unfold oN4
    rw [List.map_map]
    exact map_nd (f := aN) (fun i hi => (great_tab i hi).1.2.2.1) List.nodup_range (rg_lt (by decide))
  back := fun i c e x hx => by
    have hm := List.mem_of_getElem? e
    obtain ⟨j, _, rfl⟩ := List.mem_map.mp hm
    cases hx
theorem g_f : netB (.tup [csD (pN 1), .tup ((oN4 400).map oD)]) = true := net_true g_net
theorem g_g : netB (.tup [csD (pN 1), .tup ((oN4 401).map oD)]) = false := by
  have : outsB ((pN 1).map cD).length (.tup ((oN4 401).map oD)) = false := outs_long (by rw [List.length_map, oN4, List.length_map, List.length_range])
  show (lotB (csD (pN 1)) && (outsB ((pN 1).map cD).length (.tup ((oN4 401).map oD)) && backD ((pN 1).map cD))) = false
  rw [this, Bool.false_and, Bool.and_false]
end
end PL
namespace PL
open PySem PySem.Spec PyProof.Rows L2 TB
section
variable {P : Program} {w : World} {K : PySem.W.Frag} {mg : Str → Option Value} {base : Heap}
theorem cut_n {α : Type} {f : α → D} {xs : List α} {k : Nat} (h : k ≤ xs.length) : cutD (xs.map f) none (some (k : Int)) = (xs.take k).map f := by
  unfold cutD
  rw [HT.sIx_nat, HT.sIx_none, List.drop_zero, Nat.sub_zero, List.length_map, Nat.min_eq_left h, List.map_take]
theorem rg_take {k n : Nat} (h : k ≤ n) : (List.range n).take k = List.range k := by
  rw [List.take_range, Nat.min_eq_left h]
theorem pN_take {k n : Nat} (h : k ≤ n) : cutD ((pN n).map cD) none (some (k : Int)) = (pN k).map cD := by
  rw [cut_n (by rw [pN_len]; exact h)]
  unfold pN
  rw [← List.map_take, rg_take h]
theorem qN_take {k n : Nat} (h : k ≤ n) : cutD ((qN n).map cD) none (some (k : Int)) = (qN k).map cD := by
  rw [cut_n (by rw [qN_len]; exact h)]
  unfold qN
  rw [← List.map_take, rg_take h]
theorem oN_take {k n : Nat} (h : k ≤ n) : cutD ((oN4 n).map oD) none (some (k : Int)) = (oN4 k).map oD := by
  rw [cut_n (by unfold oN4; rw [List.length_map, List.length_range]; exact h)]
  unfold oN4
  rw [← List.map_take, rg_take h]
theorem len_md {α : Type} {f : α → D} {xs : List α} {k : Nat} (h : xs.length = k) : (xs.map f).length = k := by rw [List.length_map]; exact h
theorem great_ps : ∃ ps p4 p1 : List D, (List.range 401).map (fun i => D.tup [.str "in", .str (aN i)]) = ps ∧ cutD ps none (some 400) = p4 ∧ cutD ps none (some 1) = p1 ∧ ps.length = 401 ∧ p4.length = 400 ∧ p1.length = 1
    ∧ APv 1 ps ∧ APv 1 p4 ∧ APv 1 p1 ∧ lotB (.tup ps) = false ∧ p4 = (pN 400).map cD ∧ p1 = (pN 1).map cD :=
  ⟨(pN 401).map cD, (pN 400).map cD, (pN 1).map cD, by unfold pN; rw [List.map_map]; rfl, pN_take (by decide), pN_take (by decide), len_md (pN_len _), len_md (pN_len _), len_md (pN_len _),
    cells_pv (pN_ok (n := 1) (by decide)), cells_pv (pN_ok (n := 1) (by decide)), cells_pv (pN_ok (n := 1) (by decide)), g_b, rfl, rfl⟩
theorem great_qs : ∃ qs q4 : List D, (List.range 401).map (fun i => D.tup [.str "keep", .str (bN i), .int 0, .int 0]) = qs ∧ cutD qs none (some 400) = q4 ∧ qs.length = 401 ∧ q4.length = 400
    ∧ APv 1 qs ∧ APv 1 q4 ∧ lotB (.tup qs) = false ∧ q4 = (qN 400).map cD :=
  ⟨(qN 401).map cD, (qN 400).map cD, by unfold qN; rw [List.map_map]; rfl, qN_take (by decide), len_md (qN_len _), len_md (qN_len _),
    cells_pv (qN_ok (n := 1) (by decide) (by decide)), cells_pv (qN_ok (n := 1) (by decide) (by decide)), g_c, rfl⟩
theorem oN_pv {k : Nat} (h : k ≤ 401) : APv 1 ((oN4 k).map oD) := outs_pv fun p hp => by
  obtain ⟨i, hi, rfl⟩ := List.mem_map.mp hp
  exact (great_tab i (rg_lt h i hi)).1.1
theorem great_os : ∃ os o4 : List D, (List.range 401).map (fun i => D.tup [.str (aN i), .int 0]) = os ∧ cutD os none (some 400) = o4 ∧ os.length = 401 ∧ o4.length = 400
    ∧ APv 1 os ∧ APv 1 o4 ∧ os = (oN4 401).map oD ∧ o4 = (oN4 400).map oD :=
  ⟨(oN4 401).map oD, (oN4 400).map oD, by unfold oN4; rw [List.map_map]; rfl, oN_take (by decide), len_md (by unfold oN4; rw [List.length_map, List.length_range]), len_md (by unfold oN4; rw [List.length_map, List.length_range]), oN_pv (by decide), oN_pv (by decide), rfl, rfl⟩
theorem great_one (k : Nat) : ∃ os : List D, (List.replicate k [D.tup [.str "one"]]).flatten = os ∧ os.length = k ∧ APv 1 os ∧ os = (oneN k).map cD :=
  ⟨(oneN k).map cD, rep_one k, len_md (by unfold oneN; rw [List.length_replicate]), cells_pv (n := 1) oneN_ok, rfl⟩
theorem bls_cmp (bs : List Bool) : CmpOk (D.lst (bs.map .bl)) := (CmpD.lst (n := 0) (fun x hx => by
  obtain ⟨b, _, rfl⟩ := List.mem_map.mp hx
  exact .bl b)).ok
theorem num_few {i : Nat} (hi : i ∈ List.range 401) {x : Str} (h : x.length = 1) : x.length + (toString (0 + (i : Int)) : Str).length ≤ sizeLine := by
  have := (great_tab i (List.mem_range.mp hi)).2.2.2.1
  rw [sizeLine_eq]
  omega
def pd__law_great_right : PD := pdn 0 fun as Q => as = [] ∧ Q (.bl true)
theorem ok__law_great_right (T : Txt K w mg) : FnOk P w K mg base CX0 7 T._law_great_right.f T._law_great_right.fd [] (spP K pd__law_great_right) := by
  refine T._law_great_right.F.ok sc__law_great_right (fun vs H Q E h => lenP h) (fun cdv A outer s H vs Q E hr h => ⟨_, (pss_cons (ps_set (i := 0) sc__law_great_right.nd rfl (.inl rfl) (pe_callTy (call_tupleSK (K := K) rfl) (by rfl) T.z_tuple (by decide +kernel) (pa_cons (pe_lc (own := [("_law_at", 4)]) (by rfl) sc__law_great_right.nd (pi_range1 (by rfl) T.z_range (pa_cons pe_int pa_nil)) (blkOk_by (own := [("_law_at", 4)]) (N := ["_law_ports", "_law_kept", "_law_told", "_law_outputs", "_law_at"]) (sc := defScope s__law_great_right) (by decide +kernel)) (fun _ _ _ _ _ => (pg_name (i := 4) sc__law_great_right.nd rfl (.inl rfl))) (fun _ _ _ _ _ => pts_nil) (fun _ _ _ _ _ => (pe_tup (pa_cons pe_str (pa_cons (pe_op op_add_str pe_str (pe_callTy call_str_int (by rfl) T.z_str (by decide +kernel) (pa_cons (pv 4) pa_nil))) pa_nil))))) pa_nil))) 
      (pss_cons (ps_set (i := 1) sc__law_great_right.nd rfl (.inl rfl) (pe_callTy (call_tupleSK (K := K) rfl) (by rfl) T.z_tuple (by decide +kernel) (pa_cons (pe_lc (own := [("_law_at", 4)]) (by rfl) sc__law_great_right.nd (pi_range1 (by rfl) T.z_range (pa_cons pe_int pa_nil)) (blkOk_by (own := [("_law_at", 4)]) (N := ["_law_ports", "_law_kept", "_law_told", "_law_outputs", "_law_at"]) (sc := defScope s__law_great_right) (by decide +kernel)) (fun _ _ _ _ _ => (pg_name (i := 4) sc__law_great_right.nd rfl (.inl rfl))) (fun _ _ _ _ _ => pts_nil) (fun _ _ _ _ _ => (pe_tup (pa_cons pe_str (pa_cons (pe_op op_add_str pe_str (pe_callTy call_str_int (by rfl) T.z_str (by decide +kernel) (pa_cons (pv 4) pa_nil))) (pa_cons pe_int (pa_cons pe_int pa_nil))))))) pa_nil))) 
      (pss_cons (ps_set (i := 2) sc__law_great_right.nd rfl (.inl rfl) (pe_lstA (pa_cons (pe_call (ok_is_lot T) (hr.mono (by decide)) (by rfl) T.is_lot.g T.is_lot.F.kp T.is_lot.b .nil pass0 (pa_cons (pe_op (op_catSK (K := K) rfl) (pe_slice (sl_tupleSK (K := K) rfl) (pv 0) po_none (po_some pe_int)) (pe_slice (sl_tupleSK (K := K) rfl) (pv 1) po_none (po_some pe_int))) pa_nil)) (pa_cons (pe_call (ok_is_lot T) (hr.mono (by decide)) (by rfl) T.is_lot.g T.is_lot.F.kp T.is_lot.b .nil pass0 (pa_cons (pv 0) pa_nil)) (pa_cons (pe_call (ok_is_lot T) (hr.mono (by decide)) (by rfl) T.is_lot.g T.is_lot.F.kp T.is_lot.b .nil pass0 (pa_cons (pv 1) pa_nil)) (pa_cons (pe_call (ok_is_lot T) (hr.mono (by decide)) (by rfl) T.is_lot.g T.is_lot.F.kp T.is_lot.b .nil pass0 (pa_cons (pe_op op_repBig (pe_tup (pa_cons (pe_tup (pa_cons pe_str pa_nil)) pa_nil)) pe_int) pa_nil)) pa_nil)))))) 
      (pss_cons (ps_set (i := 3) sc__law_great_right.nd rfl (.inl rfl) (pe_callTy (call_tupleSK (K := K) rfl) (by rfl) T.z_tuple (by decide +kernel) (pa_cons (pe_lc (own := [("_law_at", 4)]) (by rfl) sc__law_great_right.nd (pi_range1 (by rfl) T.z_range (pa_cons pe_int pa_nil)) (blkOk_by (own := [("_law_at", 4)]) (N := ["_law_ports", "_law_kept", "_law_told", "_law_outputs", "_law_at"]) (sc := defScope s__law_great_right) (by decide +kernel)) (fun _ _ _ _ _ => (pg_name (i := 4) sc__law_great_right.nd rfl (.inl rfl))) (fun _ _ _ _ _ => pts_nil) (fun _ _ _ _ _ => (pe_tup (pa_cons (pe_op op_add_str pe_str (pe_callTy call_str_int (by rfl) T.z_str (by decide +kernel) (pa_cons (pv 4) pa_nil))) (pa_cons pe_int pa_nil))))) pa_nil))) 
      (pss_cons (ps_set (i := 2) sc__law_great_right.nd rfl (.inl rfl) (pe_op op_catL (pv 2) (pe_lstA (pa_cons (pe_call (ok_is_lot T) (hr.mono (by decide)) (by rfl) T.is_lot.g T.is_lot.F.kp T.is_lot.b .nil pass0 (pa_cons (pe_op op_repBig (pe_tup (pa_cons (pe_tup (pa_cons pe_str pa_nil)) pa_nil)) pe_int) pa_nil)) (pa_cons (pe_call (ok_is_net T) (hr.mono (by decide)) (by rfl) T.is_net.g T.is_net.F.kp T.is_net.b .nil pass0 (pa_cons (pe_tup (pa_cons (pe_slice (sl_tupleSK (K := K) rfl) (pv 0) po_none (po_some pe_int)) (pa_cons (pe_slice (sl_tupleSK (K := K) rfl) (pv 3) po_none (po_some pe_int)) pa_nil))) pa_nil)) (pa_cons (pe_call (ok_is_net T) (hr.mono (by decide)) (by rfl) T.is_net.g T.is_net.F.kp T.is_net.b .nil pass0 (pa_cons (pe_tup (pa_cons (pe_slice (sl_tupleSK (K := K) rfl) (pv 0) po_none (po_some pe_int)) (pa_cons (pv 3) pa_nil))) pa_nil)) pa_nil)))))) 
      (pss_one (ps_ret (pe_cmpR (op_eqDK (K := K) rfl hr.units) (pv 2) (pe_lstA (pa_cons pe_bl (pa_cons pe_bl (pa_cons pe_bl (pa_cons pe_bl (pa_cons pe_bl (pa_cons pe_bl (pa_cons pe_bl pa_nil)))))))) (nomark _))))))))),
    runP ((sns_seq (sns_asg (snd_cb s_tuple (.cons (sE (snd_ne (snd_lc (sni_rng1 (sna_cons snd_int sna_nil)) (sgi_name (i := 4) (by decide)) snd_yes (snd_tup (sna_cons snd_str (sna_cons (snd_op s_addS (sE snd_str) (sE (snd_cb s_str (.cons (sO 4) .nil)))) sna_nil)))))) .nil)) (sng_name 0)) 
        (sns_seq (sns_asg (snd_cb s_tuple (.cons (sE (snd_ne (snd_lc (sni_rng1 (sna_cons snd_int sna_nil)) (sgi_name (i := 4) (by decide)) snd_yes (snd_tup (sna_cons snd_str (sna_cons (snd_op s_addS (sE snd_str) (sE (snd_cb s_str (.cons (sO 4) .nil)))) (sna_cons snd_int (sna_cons snd_int sna_nil)))))))) .nil)) (sng_name 1)) 
        (sns_seq (sns_asg (snd_ne (snd_lst (sna_cons (snd_call (sna_cons (snd_op s_catT (sE (snd_sl s_slT (sO 0) snp_none (snp_some snd_int))) (sE (snd_sl s_slT (sO 1) snp_none (snp_some snd_int)))) sna_nil)) (sna_cons (snd_call (sna_cons (snd_var 0) sna_nil)) (sna_cons (snd_call (sna_cons (snd_var 1) sna_nil)) (sna_cons (snd_call (sna_cons (snd_op s_repB (sE (snd_tup (sna_cons (snd_tup (sna_cons snd_str sna_nil)) sna_nil))) (sE snd_int)) sna_nil)) sna_nil)))))) (sng_name 2)) 
        (sns_seq (sns_asg (snd_cb s_tuple (.cons (sE (snd_ne (snd_lc (sni_rng1 (sna_cons snd_int sna_nil)) (sgi_name (i := 4) (by decide)) snd_yes (snd_tup (sna_cons (snd_op s_addS (sE snd_str) (sE (snd_cb s_str (.cons (sO 4) .nil)))) (sna_cons snd_int sna_nil)))))) .nil)) (sng_name 3)) 
        (sns_seq (sns_asg (snd_ne (snd_opN s_catL (sO 2) (sE (snd_ne (snd_lst (sna_cons (snd_call (sna_cons (snd_op s_repB (sE (snd_tup (sna_cons (snd_tup (sna_cons snd_str sna_nil)) sna_nil))) (sE snd_int)) sna_nil)) (sna_cons (snd_call (sna_cons (snd_tup (sna_cons (snd_sl s_slT (sO 0) snp_none (snp_some snd_int)) (sna_cons (snd_sl s_slT (sO 3) snp_none (snp_some snd_int)) sna_nil))) sna_nil)) (sna_cons (snd_call (sna_cons (snd_tup (sna_cons (snd_sl s_slT (sO 0) snp_none (snp_some snd_int)) (sna_cons (snd_var 3) sna_nil))) sna_nil)) sna_nil)))))))) (sng_name 2)) 
        (sns_ret (snd_op s_eqD (sO 2) (sE (snd_ne (snd_lst (sna_cons snd_bl (sna_cons snd_bl (sna_cons snd_bl (sna_cons snd_bl (sna_cons snd_bl (sna_cons snd_bl (sna_cons snd_bl sna_nil)))))))))))))))))) h (fun as Qd hp => by rw [hp.1]; decide) ?_⟩)
  rintro as Qd ⟨_, rfl, q⟩
  obtain ⟨ps, p4, p1, e1, e2, e3, l1, l2, l3, v1, v2, v3, b1, x2, x3⟩ := great_ps
  obtain ⟨qs, q4, f1, f2, m1, m2, w1, w2, c1, y2⟩ := great_qs
  obtain ⟨os, o4, g1, g2, n1, n2, u1, u2, z1, z2⟩ := great_os
  obtain ⟨t6, r1, r2, r3, r4⟩ := great_one 6000
  obtain ⟨t7, s1, s2, s3, s4⟩ := great_one 6001
  have b2 : lotB (.tup (p4 ++ q4)) = true := by rw [x2, y2, ← List.map_append]; exact g_a
  have r5 : lotB (.tup t6) = true := by rw [r4]; exact g_d
  have s5 : lotB (.tup t7) = false := by rw [s4]; exact g_e
  have a1 : netB (.tup [.tup p1, .tup o4]) = true := by rw [x3, z2]; exact g_f
  have a2 : netB (.tup [.tup p1, .tup os]) = false := by rw [x3, z1]; exact g_g
  refine ⟨by decide, by decide, lcP_y (tD := fun i : Nat => D.int (0 + (i : Int))) (xs := List.range 401) rfl (fun i => .tup [.str "in", .str (aN i)]) (fun i hi Y hY => ⟨⟨trivial, trivial⟩, (great_tab i (List.mem_range.mp hi)).2.2.2.2, num_few hi rfl, hY⟩) ?_⟩
  rw [e1]
  refine ⟨by decide, by decide, lcP_y (tD := fun i : Nat => D.int (0 + (i : Int))) (xs := List.range 401) rfl (fun i => .tup [.str "keep", .str (bN i), .int 0, .int 0]) (fun i hi Y hY => ⟨⟨trivial, trivial⟩, (great_tab i (List.mem_range.mp hi)).2.2.2.2, num_few hi rfl, hY⟩) ?_⟩
  rw [f1]
  refine ⟨by show (cutD ps none (some 400)).length + (cutD qs none (some 400)).length ≤ 1000000; rw [e2, f2, l2, m2]; decide, rfl, .tup (p4 ++ q4), 2, by show [D.tup (cutD ps none (some 400) ++ cutD qs none (some 400))] = _; rw [e2, f2], APv.tup (v2.app w2) (by rw [List.length_append, l2, m2]; decide), by decide, ?_⟩
  rw [b2]
  refine ⟨rfl, .tup ps, 2, rfl, APv.tup v1 (by rw [l1]; decide), by decide, ?_⟩
  rw [b1]
  refine ⟨rfl, .tup qs, 2, rfl, APv.tup w1 (by rw [m1]; decide), by decide, ?_⟩
  rw [c1]
  refine ⟨⟨by decide, by decide⟩, rfl, .tup t6, 2, congrArg (fun z => [D.tup z]) r1, APv.tup r3 (by rw [r2]; decide), by decide, ?_⟩
  rw [r5]
  refine ⟨by decide, by decide, lcP_y (tD := fun i : Nat => D.int (0 + (i : Int))) (xs := List.range 401) rfl (fun i => .tup [.str (aN i), .int 0]) (fun i hi Y hY => ⟨⟨trivial, trivial⟩, (great_tab i (List.mem_range.mp hi)).2.2.2.2, num_few hi rfl, hY⟩) ?_⟩
  rw [g1]
  refine ⟨⟨by decide, by decide⟩, rfl, .tup t7, 2, congrArg (fun z => [D.tup z]) s1, APv.tup s3 (by rw [s2]; decide), by decide, ?_⟩
  rw [s5]
  refine ⟨rfl, .tup [.tup p1, .tup o4], 3, by show [D.tup [.tup (cutD ps none (some 1)), .tup (cutD os none (some 400))]] = _; rw [e3, g2], .inl (APv.tup (.cons (APv.tup v3 (by rw [l3]; decide)) (.cons (APv.tup u2 (by rw [n2]; decide)) .nil)) (by show 2 ≤ 20000; decide)), by decide, ?_⟩
  rw [a1]
  refine ⟨rfl, .tup [.tup p1, .tup os], 3, by show [D.tup [.tup (cutD ps none (some 1)), .tup os]] = _; rw [e3], .inl (APv.tup (.cons (APv.tup v3 (by rw [l3]; decide)) (.cons (APv.tup u1 (by rw [n1]; decide)) .nil)) (by show 2 ≤ 20000; decide)), by decide, ?_⟩
  rw [a2]
  exact ⟨by decide, ⟨bls_cmp [true, false, false, true, false, true, false], bls_cmp [true, false, false, true, false, true, false]⟩, q⟩
/-! ### the law -/
def netX : D := .tup [.tup [.tup [.str "not", .int 0]], .tup []]
def netY : D := .tup [.tup [.tup [.str "keep", .str "a", .non, .int 0]], .tup [.tup [.str "a", .int 0]]]
def lotX : D := .tup [.tup [.str "in", .str "a"], .tup [.str "keep", .str "a", .int 0, .int 0]]
theorem netX_no : netB netX = false := by decide +kernel
theorem netY_yes : netB netY = true := by decide +kernel
theorem lotX_no : lotB lotX = false := by decide +kernel
theorem netX_pv : Pv 3 netX := APv.tup (.cons (APv.tup (.cons (APv.tup (.cons (.s "not") (.cons (.int 0) .nil)) (by decide)) .nil) (by decide)) (.cons (APv.tup .nil (by decide)) .nil)) (by decide)
theorem netY_pv : Pv 3 netY := APv.tup (.cons (APv.tup (.cons (APv.tup (.cons (.s "keep") (.cons (.s "a") (.cons .non (.cons (.int 0) .nil)))) (by decide)) .nil) (by decide)) (.cons (APv.tup (.cons (APv.tup (.cons (.s "a") (.cons (.int 0) .nil)) (by decide)) .nil) (by decide)) .nil)) (by decide)
theorem lotX_pv : Pv 2 lotX := APv.tup (.cons (APv.tup (.cons (.s "in") (.cons (.s "a") .nil)) (by decide)) (.cons (APv.tup (.cons (.s "keep") (.cons (.s "a") (.cons (.int 0) (.cons (.int 0) .nil)))) (by decide)) .nil)) (by decide)
def pd_law : PD := pdn 1 fun as Q => ∃ ns : List Int, as = [.arr (ns.map .int)] ∧ ns.length ≤ 63 ∧ Q (.bl true)
theorem ok_lawD (T : Txt K w mg) : FnOk P w K mg base CX0 8 T.law.f T.law.fd ["_law_script"] (spP K pd_law) := by
  refine T.law.F.ok sc_law (fun vs H Q E h => lenP h) (fun cdv A outer s H vs Q E hr h => ⟨_, (pss_cons (ps_for PassesOwn.never rfl (pi_range1 (by rfl) T.z_range (pa_cons (pe_callB (call_max2 rfl) (by rfl) T.z_max (by decide +kernel) (pa_cons pe_int (pa_cons (pe_callB (call_min2 rfl) (by rfl) T.z_min (by decide +kernel) (pa_cons pe_int (pa_cons (pe_callB call_len_seq (by rfl) T.z_len PySem.boot_len (pa_cons (pv 0) pa_nil)) pa_nil))) pa_nil))) pa_nil)) (pg_name (i := 1) sc_law.nd rfl (.inl rfl)) 
        (pss_cons (ps_set (i := 2) sc_law.nd rfl (.inl rfl) (pe_call (ok__law_dice T) (hr.mono (by decide)) (by rfl) T._law_dice.g T._law_dice.F.kp T._law_dice.b .nil pass0 (pa_cons (pv 0) (pa_cons (pv 1) pa_nil)))) 
        (pss_one (ps_for PassesOwn.never rfl (pi_range1 (by rfl) T.z_range (pa_cons pe_int pa_nil)) (pg_name (i := 3) sc_law.nd rfl (.inl rfl)) 
          (pss_one (ps_if (pt_not (pt_val (pe_call (ok__law_right T) (hr.mono (by decide)) (by rfl) T._law_right.g T._law_right.F.kp T._law_right.b .nil pass0 (pa_cons (pv 2) pa_nil)))) 
            (pss_one (ps_ret pe_bl)) pss_nil)))))) 
      (pss_cons (ps_if (PW.pt (pw_or (pt_not (pt_val (pe_call0 (ok__law_great_right T) (hr.mono (by decide)) (by rfl) T._law_great_right.g T._law_great_right.F.kp T._law_great_right.b .nil pass0))) (pw_or (pt_val (pe_call (ok_is_net T) (hr.mono (by decide)) (by rfl) T.is_net.g T.is_net.F.kp T.is_net.b .nil pass0 (pa_cons (pe_tup (pa_cons (pe_tup (pa_cons (pe_tup (pa_cons pe_str (pa_cons pe_int pa_nil))) pa_nil)) (pa_cons (pe_tup pa_nil) pa_nil))) pa_nil))) (pw_or1 (pt_not (pt_val (pe_call (ok_is_net T) (hr.mono (by decide)) (by rfl) T.is_net.g T.is_net.F.kp T.is_net.b .nil pass0 (pa_cons (pe_tup (pa_cons (pe_tup (pa_cons (pe_tup (pa_cons pe_str (pa_cons pe_str (pa_cons pe_non (pa_cons pe_int pa_nil))))) pa_nil)) (pa_cons (pe_tup (pa_cons (pe_tup (pa_cons pe_str (pa_cons pe_int pa_nil))) pa_nil)) pa_nil))) pa_nil)))))))) 
        (pss_one (ps_ret pe_bl)) pss_nil) 
      (pss_one (ps_ret (pe_not (pe_call (ok_is_lot T) (hr.mono (by decide)) (by rfl) T.is_lot.g T.is_lot.F.kp T.is_lot.b .nil pass0 (pa_cons (pe_tup (pa_cons (pe_tup (pa_cons pe_str (pa_cons pe_str pa_nil))) (pa_cons (pe_tup (pa_cons pe_str (pa_cons pe_str (pa_cons pe_int (pa_cons pe_int pa_nil))))) pa_nil))) pa_nil))))))),
    runP ((sns_seq (sns_for (sni_rng1 (sna_cons (snd_cb s_max2 (.cons (sE snd_int) (.cons (sE (snd_cb s_min2 (.cons (sE snd_int) (.cons (sE (snd_cb s_len (.cons (sO 0) .nil))) .nil)))) .nil))) sna_nil)) (sng_name 1) 
          (sns_seq (sns_setN 2 (snd_callN (sna_cons (snd_var 0) (sna_cons (snd_var 1) sna_nil)))) 
          (sns_for (sni_rng1 (sna_cons snd_int sna_nil)) (sng_name 3) 
            (sns_if (snd_not (snd_b (snd_callI 2 sna_nil))) 
              (sns_ret snd_bl) sns_next)))) 
        (sns_seq (sns_if (snd_or (snd_not (snd_b (snd_call sna_nil))) (snd_or (snd_b (snd_call (sna_cons (snd_tup (sna_cons (snd_tup (sna_cons (snd_tup (sna_cons snd_str (sna_cons snd_int sna_nil))) sna_nil)) (sna_cons (snd_tup sna_nil) sna_nil))) sna_nil))) (snd_not (snd_b (snd_call (sna_cons (snd_tup (sna_cons (snd_tup (sna_cons (snd_tup (sna_cons snd_str (sna_cons snd_str (sna_cons snd_non (sna_cons snd_int sna_nil))))) sna_nil)) (sna_cons (snd_tup (sna_cons (snd_tup (sna_cons snd_str (sna_cons snd_int sna_nil))) sna_nil)) sna_nil))) sna_nil)))))) 
          (sns_ret snd_bl) sns_next) 
        (sns_ret (snd_notV (snd_call (sna_cons (snd_tup (sna_cons (snd_tup (sna_cons snd_str (sna_cons snd_str sna_nil))) (sna_cons (snd_tup (sna_cons snd_str (sna_cons snd_str (sna_cons snd_int (sna_cons snd_int sna_nil))))) sna_nil))) sna_nil))))))) h (fun as Qd hp => by rw [hp.1]; decide) ?_⟩)
  rintro as Qd ⟨_, ns, rfl, hn, q⟩
  refine ⟨⟨by split <;> split <;> omega, by split <;> split <;> omega⟩, fun i ρ => ∃ c1 c2 c3, ρ = [.val (.arr (ns.map .int)), c1, c2, c3], ⟨_, _, _, rfl⟩, ?_, ?_⟩
  · rintro i d ρ hx ⟨c1, c2, c3, rfl⟩
    obtain ⟨hi, rfl⟩ := rngD_get hx
    refine ⟨rfl, ns, i, congrArg (fun z => [D.arr (ns.map .int), D.int z]) (Int.zero_add _), ⟨by decide, by decide⟩, fun j ρ => ∃ c3, ρ = [.val (.arr (ns.map .int)), .val (.int (0 + (i : Int))), .own .dice, c3], ⟨_, rfl⟩, ?_, ?_⟩
    · rintro j d ρ hj ⟨c3, rfl⟩
      exact ⟨rfl, rfl, rfl, ⟨_, rfl⟩⟩
    · rintro ρ ⟨c3, rfl⟩
      exact ⟨_, _, _, rfl⟩
  · rintro ρ ⟨c1, c2, c3, rfl⟩
    refine ⟨rfl, rfl, rfl, netX, 3, rfl, .inl netX_pv, by decide, ?_⟩
    rw [netX_no]
    refine ⟨rfl, netY, 3, rfl, .inl netY_pv, by decide, ?_⟩
    rw [netY_yes]
    refine ⟨rfl, lotX, 2, rfl, lotX_pv, by decide, ?_⟩
    rw [lotX_no]
    exact q
def sp_law (K : PySem.W.Frag) : Sp := fun vs H Q _ => ∃ (a : Addr) (ns : List Int), vs = [.ref a] ∧ SqL K H a (ns.map V.int) ∧ ns.length ≤ 63 ∧ ∀ H', Q (.bl true) H'
theorem ok_law (T : Txt K w mg) : FnOk P w K mg base CX0 8 T.law.f T.law.fd ["_law_script"] (sp_law K) := (ok_lawD T).imp fun vs H Q E ⟨a, ns, ev, hS, hl, q⟩ => by
  subst ev
  refine ⟨H, [.arr (ns.map .int)], fun d => d = .bl true, Same.refl _, .cons (.arr hS (reps_int ns)) .nil, ⟨rfl, ns, rfl, hl, rfl⟩, fun v d H' Hb' g rp e => ?_⟩
  subst e
  cases rp
  exact q H'
end
end PL
namespace PL
open PySem PySem.Spec PyProof.Rows L2 TB
/-! ### the end -/
noncomputable def txt_mk {K : PySem.W.Frag} {w : World} {h : Heap} {mg : Str → Option Value} (X : K.In h) (G : h.Ns mainGlobals mg)
    {f0 f1 f2 f3 f4 f5 f6 f7 f8 f9 f10 f11 f12 f13 f14 f15 f16 f17 f18 f19 f20 f21 f22 f23 f24 : Addr} {od0 an0 od1 an1 od2 an2 od3 an3 od4 an4 od5 an5 od6 an6 od7 an7 od8 an8 od9 an9 od10 an10 od11 an11 od12 an12 od13 an13 od14 an14 od15 an15 od16 an16 od17 an17 od18 an18 od19 an19 od20 an20 od21 an21 od22 an22 od23 an23 od24 an24 : Option Addr} {sl0 sl1 sl2 sl3 sl4 sl5 sl6 sl7 sl8 sl9 sl10 sl11 sl12 sl13 sl14 sl15 sl16 sl17 sl18 sl19 sl20 sl21 sl22 sl23 sl24 : Array (Option Value)} {oc0 dc0 pm0 cd0 ct0 kV0 oc1 dc1 pm1 cd1 ct1 kV1 oc2 dc2 pm2 cd2 ct2 kV2 oc3 dc3 pm3 cd3 ct3 kV3 oc4 dc4 pm4 cd4 ct4 kV4 oc5 dc5 pm5 cd5 ct5 kV5 oc6 dc6 pm6 cd6 ct6 kV6 oc7 dc7 pm7 cd7 ct7 kV7 oc8 dc8 pm8 cd8 ct8 kV8 oc9 dc9 pm9 cd9 ct9 kV9 oc10 dc10 pm10 cd10 ct10 kV10 oc11 dc11 pm11 cd11 ct11 kV11 oc12 dc12 pm12 cd12 ct12 kV12 oc13 dc13 pm13 cd13 ct13 kV13 oc14 dc14 pm14 cd14 ct14 kV14 oc15 dc15 pm15 cd15 ct15 kV15 oc16 dc16 pm16 cd16 ct16 kV16 oc17 dc17 pm17 cd17 ct17 kV17 oc18 dc18 pm18 cd18 ct18 kV18 oc19 dc19 pm19 cd19 ct19 kV19 oc20 dc20 pm20 cd20 ct20 kV20 oc21 dc21 pm21 cd21 ct21 kV21 oc22 dc22 pm22 cd22 ct22 kV22 oc23 dc23 pm23 cd23 ct23 kV23 oc24 dc24 pm24 cd24 ct24 kV24 : Value} {tk0 tk1 tk2 tk3 tk4 tk5 tk6 tk7 tk8 tk9 : Tok} {ca0 : Addr} {cn0 : Nat} {ck0_0 cu0_0 ck0_1 cu0_1 ck0_2 cu0_2 ck0_3 cu0_3 ck0_4 cu0_4 : Tok}
    (a0 : PySem.W.nsIn K mainGlobals "is_integer" = some (some (.ref f0)))
    (l0 : K.lookup f0 = some ⟨oc0, od0, .func (PySem.W.fnOf "is_integer" "is_integer" (defArgs s_is_integer) (defBody s_is_integer) (defScope s_is_integer) .none kV0 dc0 pm0 an0 cd0 ct0), sl0⟩)
    (c0 : PySem.W.codeIn K cd0 "is_integer" = true)
    (k0 : PySem.W.keepIn K (.ref f0) = true)
    (a1 : PySem.W.nsIn K mainGlobals "is_within" = some (some (.ref f1)))
    (l1 : K.lookup f1 = some ⟨oc1, od1, .func (PySem.W.fnOf "is_within" "is_within" (defArgs s_is_within) (defBody s_is_within) (defScope s_is_within) .none kV1 dc1 pm1 an1 cd1 ct1), sl1⟩)
    (c1 : PySem.W.codeIn K cd1 "is_within" = true)
    (k1 : PySem.W.keepIn K (.ref f1) = true)
    (a2 : PySem.W.nsIn K mainGlobals "is_name" = some (some (.ref f2)))
    (l2 : K.lookup f2 = some ⟨oc2, od2, .func (PySem.W.fnOf "is_name" "is_name" (defArgs s_is_name) (defBody s_is_name) (defScope s_is_name) .none kV2 dc2 pm2 an2 cd2 ct2), sl2⟩)
    (c2 : PySem.W.codeIn K cd2 "is_name" = true)
    (k2 : PySem.W.keepIn K (.ref f2) = true)
    (a3 : PySem.W.nsIn K mainGlobals "is_first" = some (some (.ref f3)))
    (l3 : K.lookup f3 = some ⟨oc3, od3, .func (PySem.W.fnOf "is_first" "is_first" (defArgs s_is_first) (defBody s_is_first) (defScope s_is_first) .none kV3 dc3 pm3 an3 cd3 ct3), sl3⟩)
    (c3 : PySem.W.codeIn K cd3 "is_first" = true)
    (k3 : PySem.W.keepIn K (.ref f3) = true)
    (a4 : PySem.W.nsIn K mainGlobals "is_cell" = some (some (.ref f4)))
    (l4 : K.lookup f4 = some ⟨oc4, od4, .func (PySem.W.fnOf "is_cell" "is_cell" (defArgs s_is_cell) (defBody s_is_cell) (defScope s_is_cell) .none kV4 dc4 pm4 an4 cd4 ct4), sl4⟩)
    (c4 : PySem.W.codeIn K cd4 "is_cell" = true)
    (k4 : PySem.W.keepIn K (.ref f4) = true)
    (a5 : PySem.W.nsIn K mainGlobals "names_of" = some (some (.ref f5)))
    (l5 : K.lookup f5 = some ⟨oc5, od5, .func (PySem.W.fnOf "names_of" "names_of" (defArgs s_names_of) (defBody s_names_of) (defScope s_names_of) .none kV5 dc5 pm5 an5 cd5 ct5), sl5⟩)
    (c5 : PySem.W.codeIn K cd5 "names_of" = true)
    (k5 : PySem.W.keepIn K (.ref f5) = true)
    (a6 : PySem.W.nsIn K mainGlobals "is_lot" = some (some (.ref f6)))
    (l6 : K.lookup f6 = some ⟨oc6, od6, .func (PySem.W.fnOf "is_lot" "is_lot" (defArgs s_is_lot) (defBody s_is_lot) (defScope s_is_lot) .none kV6 dc6 pm6 an6 cd6 ct6), sl6⟩)
    (c6 : PySem.W.codeIn K cd6 "is_lot" = true)
    (k6 : PySem.W.keepIn K (.ref f6) = true)
    (a7 : PySem.W.nsIn K mainGlobals "is_output" = some (some (.ref f7)))
    (l7 : K.lookup f7 = some ⟨oc7, od7, .func (PySem.W.fnOf "is_output" "is_output" (defArgs s_is_output) (defBody s_is_output) (defScope s_is_output) .none kV7 dc7 pm7 an7 cd7 ct7), sl7⟩)
    (c7 : PySem.W.codeIn K cd7 "is_output" = true)
    (k7 : PySem.W.keepIn K (.ref f7) = true)
    (a8 : PySem.W.nsIn K mainGlobals "are_outputs" = some (some (.ref f8)))
    (l8 : K.lookup f8 = some ⟨oc8, od8, .func (PySem.W.fnOf "are_outputs" "are_outputs" (defArgs s_are_outputs) (defBody s_are_outputs) (defScope s_are_outputs) .none kV8 dc8 pm8 an8 cd8 ct8), sl8⟩)
    (c8 : PySem.W.codeIn K cd8 "are_outputs" = true)
    (k8 : PySem.W.keepIn K (.ref f8) = true)
    (a9 : PySem.W.nsIn K mainGlobals "is_net" = some (some (.ref f9)))
    (l9 : K.lookup f9 = some ⟨oc9, od9, .func (PySem.W.fnOf "is_net" "is_net" (defArgs s_is_net) (defBody s_is_net) (defScope s_is_net) .none kV9 dc9 pm9 an9 cd9 ct9), sl9⟩)
    (c9 : PySem.W.codeIn K cd9 "is_net" = true)
    (k9 : PySem.W.keepIn K (.ref f9) = true)
    (a10 : PySem.W.nsIn K mainGlobals "looks_of" = some (some (.ref f10)))
    (l10 : K.lookup f10 = some ⟨oc10, od10, .func (PySem.W.fnOf "looks_of" "looks_of" (defArgs s_looks_of) (defBody s_looks_of) (defScope s_looks_of) .none kV10 dc10 pm10 an10 cd10 ct10), sl10⟩)
    (c10 : PySem.W.codeIn K cd10 "looks_of" = true)
    (k10 : PySem.W.keepIn K (.ref f10) = true)
    (a11 : PySem.W.nsIn K mainGlobals "_law_dice" = some (some (.ref f11)))
    (l11 : K.lookup f11 = some ⟨oc11, od11, .func (PySem.W.fnOf "_law_dice" "_law_dice" (defArgs s__law_dice) (defBody s__law_dice) (defScope s__law_dice) .none kV11 dc11 pm11 an11 cd11 ct11), sl11⟩)
    (c11 : PySem.W.codeIn K cd11 "_law_dice" = true)
    (k11 : PySem.W.keepIn K (.ref f11) = true)
    (a12 : PySem.W.nsIn K mainGlobals "_law_roll" = some (some (.ref f12)))
    (l12 : K.lookup f12 = some ⟨oc12, od12, .func (PySem.W.fnOf "_law_roll" "_law_roll" (defArgs s__law_roll) (defBody s__law_roll) (defScope s__law_roll) .none kV12 dc12 pm12 an12 cd12 ct12), sl12⟩)
    (c12 : PySem.W.codeIn K cd12 "_law_roll" = true)
    (k12 : PySem.W.keepIn K (.ref f12) = true)
    (a13 : PySem.W.nsIn K mainGlobals "_law_one_of" = some (some (.ref f13)))
    (l13 : K.lookup f13 = some ⟨oc13, od13, .func (PySem.W.fnOf "_law_one_of" "_law_one_of" (defArgs s__law_one_of) (defBody s__law_one_of) (defScope s__law_one_of) .none kV13 dc13 pm13 an13 cd13 ct13), sl13⟩)
    (c13 : PySem.W.codeIn K cd13 "_law_one_of" = true)
    (k13 : PySem.W.keepIn K (.ref f13) = true)
    (a14 : PySem.W.nsIn K mainGlobals "_law_is_index" = some (some (.ref f14)))
    (l14 : K.lookup f14 = some ⟨oc14, od14, .func (PySem.W.fnOf "_law_is_index" "_law_is_index" (defArgs s__law_is_index) (defBody s__law_is_index) (defScope s__law_is_index) .none kV14 dc14 pm14 an14 cd14 ct14), sl14⟩)
    (c14 : PySem.W.codeIn K cd14 "_law_is_index" = true)
    (k14 : PySem.W.keepIn K (.ref f14) = true)
    (a15 : PySem.W.nsIn K mainGlobals "_law_is_name" = some (some (.ref f15)))
    (l15 : K.lookup f15 = some ⟨oc15, od15, .func (PySem.W.fnOf "_law_is_name" "_law_is_name" (defArgs s__law_is_name) (defBody s__law_is_name) (defScope s__law_is_name) .none kV15 dc15 pm15 an15 cd15 ct15), sl15⟩)
    (c15 : PySem.W.codeIn K cd15 "_law_is_name" = true)
    (k15 : PySem.W.keepIn K (.ref f15) = true)
    (a16 : PySem.W.nsIn K mainGlobals "_law_is_cell" = some (some (.ref f16)))
    (l16 : K.lookup f16 = some ⟨oc16, od16, .func (PySem.W.fnOf "_law_is_cell" "_law_is_cell" (defArgs s__law_is_cell) (defBody s__law_is_cell) (defScope s__law_is_cell) .none kV16 dc16 pm16 an16 cd16 ct16), sl16⟩)
    (c16 : PySem.W.codeIn K cd16 "_law_is_cell" = true)
    (k16 : PySem.W.keepIn K (.ref f16) = true)
    (a17 : PySem.W.nsIn K mainGlobals "_law_is_lot" = some (some (.ref f17)))
    (l17 : K.lookup f17 = some ⟨oc17, od17, .func (PySem.W.fnOf "_law_is_lot" "_law_is_lot" (defArgs s__law_is_lot) (defBody s__law_is_lot) (defScope s__law_is_lot) .none kV17 dc17 pm17 an17 cd17 ct17), sl17⟩)
    (c17 : PySem.W.codeIn K cd17 "_law_is_lot" = true)
    (k17 : PySem.W.keepIn K (.ref f17) = true)
    (a18 : PySem.W.nsIn K mainGlobals "_law_is_net" = some (some (.ref f18)))
    (l18 : K.lookup f18 = some ⟨oc18, od18, .func (PySem.W.fnOf "_law_is_net" "_law_is_net" (defArgs s__law_is_net) (defBody s__law_is_net) (defScope s__law_is_net) .none kV18 dc18 pm18 an18 cd18 ct18), sl18⟩)
    (c18 : PySem.W.codeIn K cd18 "_law_is_net" = true)
    (k18 : PySem.W.keepIn K (.ref f18) = true)
    (a19 : PySem.W.nsIn K mainGlobals "_law_net_drawn" = some (some (.ref f19)))
    (l19 : K.lookup f19 = some ⟨oc19, od19, .func (PySem.W.fnOf "_law_net_drawn" "_law_net_drawn" (defArgs s__law_net_drawn) (defBody s__law_net_drawn) (defScope s__law_net_drawn) .none kV19 dc19 pm19 an19 cd19 ct19), sl19⟩)
    (c19 : PySem.W.codeIn K cd19 "_law_net_drawn" = true)
    (k19 : PySem.W.keepIn K (.ref f19) = true)
    (a20 : PySem.W.nsIn K mainGlobals "_law_bent_cell" = some (some (.ref f20)))
    (l20 : K.lookup f20 = some ⟨oc20, od20, .func (PySem.W.fnOf "_law_bent_cell" "_law_bent_cell" (defArgs s__law_bent_cell) (defBody s__law_bent_cell) (defScope s__law_bent_cell) .none kV20 dc20 pm20 an20 cd20 ct20), sl20⟩)
    (c20 : PySem.W.codeIn K cd20 "_law_bent_cell" = true)
    (k20 : PySem.W.keepIn K (.ref f20) = true)
    (a21 : PySem.W.nsIn K mainGlobals "_law_bent_outputs" = some (some (.ref f21)))
    (l21 : K.lookup f21 = some ⟨oc21, od21, .func (PySem.W.fnOf "_law_bent_outputs" "_law_bent_outputs" (defArgs s__law_bent_outputs) (defBody s__law_bent_outputs) (defScope s__law_bent_outputs) .none kV21 dc21 pm21 an21 cd21 ct21), sl21⟩)
    (c21 : PySem.W.codeIn K cd21 "_law_bent_outputs" = true)
    (k21 : PySem.W.keepIn K (.ref f21) = true)
    (a22 : PySem.W.nsIn K mainGlobals "_law_right" = some (some (.ref f22)))
    (l22 : K.lookup f22 = some ⟨oc22, od22, .func (PySem.W.fnOf "_law_right" "_law_right" (defArgs s__law_right) (defBody s__law_right) (defScope s__law_right) .none kV22 dc22 pm22 an22 cd22 ct22), sl22⟩)
    (c22 : PySem.W.codeIn K cd22 "_law_right" = true)
    (k22 : PySem.W.keepIn K (.ref f22) = true)
    (a23 : PySem.W.nsIn K mainGlobals "_law_great_right" = some (some (.ref f23)))
    (l23 : K.lookup f23 = some ⟨oc23, od23, .func (PySem.W.fnOf "_law_great_right" "_law_great_right" (defArgs s__law_great_right) (defBody s__law_great_right) (defScope s__law_great_right) .none kV23 dc23 pm23 an23 cd23 ct23), sl23⟩)
    (c23 : PySem.W.codeIn K cd23 "_law_great_right" = true)
    (k23 : PySem.W.keepIn K (.ref f23) = true)
    (a24 : PySem.W.nsIn K mainGlobals "law" = some (some (.ref f24)))
    (l24 : K.lookup f24 = some ⟨oc24, od24, .func (PySem.W.fnOf "law" "law" (defArgs s_law) (defBody s_law) (defScope s_law) .none kV24 dc24 pm24 an24 cd24 ct24), sl24⟩)
    (c24 : PySem.W.codeIn K cd24 "law" = true)
    (k24 : PySem.W.keepIn K (.ref f24) = true)
    (v0 : PySem.W.nsIn K mainGlobals "MAX_CELLS" = some (some (.int 6000 tk0)))
    (v1 : PySem.W.nsIn K mainGlobals "MAX_NAMED" = some (some (.int 400 tk1)))
    (v2 : PySem.W.nsIn K mainGlobals "MOST_SIGNS" = some (some (.int 24 tk2)))
    (v3 : PySem.W.nsIn K mainGlobals "FIRST_SIGNS" = some (some (.str "abcdefghijklmnopqrstuvwxyz" tk3)))
    (v4 : PySem.W.nsIn K mainGlobals "MORE_SIGNS" = some (some (.str "abcdefghijklmnopqrstuvwxyz0123456789_." tk4)))
    (v5 : PySem.W.nsIn K mainGlobals "IN" = some (some (.str "in" tk5)))
    (v6 : PySem.W.nsIn K mainGlobals "KEEP" = some (some (.str "keep" tk6)))
    (v7 : PySem.W.nsIn K mainGlobals "IN_SIZE" = some (some (.int 2 tk7)))
    (v8 : PySem.W.nsIn K mainGlobals "KEEP_SIZE" = some (some (.int 4 tk8)))
    (v9 : PySem.W.nsIn K mainGlobals "PAIR_SIZE" = some (some (.int 2 tk9)))
    (cx0 : PySem.W.nsIn K mainGlobals "LOOKS" = some (some (.ref ca0)))
    (cy0 : K.lookup ca0 = some ⟨.type "dict", none, .dict #[⟨PyData.keyHash w.params "not", .str "not" ck0_0, .int 1 cu0_0⟩, ⟨PyData.keyHash w.params "and", .str "and" ck0_1, .int 2 cu0_1⟩, ⟨PyData.keyHash w.params "or", .str "or" ck0_2, .int 2 cu0_2⟩, ⟨PyData.keyHash w.params "xor", .str "xor" ck0_3, .int 2 cu0_3⟩, ⟨PyData.keyHash w.params "pick", .str "pick" ck0_4, .int 3 cu0_4⟩] cn0, #[]⟩)
    (cz0 : (ca0 == sysModules) = false)
    (z0 : PySem.W.nsIn K mainGlobals "isinstance" = some none)
    (z1 : PySem.W.nsIn K mainGlobals "int" = some none)
    (z2 : PySem.W.nsIn K mainGlobals "bool" = some none)
    (z3 : PySem.W.nsIn K mainGlobals "all" = some none)
    (z4 : PySem.W.nsIn K mainGlobals "str" = some none)
    (z5 : PySem.W.nsIn K mainGlobals "len" = some none)
    (z6 : PySem.W.nsIn K mainGlobals "tuple" = some none)
    (z7 : PySem.W.nsIn K mainGlobals "set" = some none)
    (z8 : PySem.W.nsIn K mainGlobals "enumerate" = some none)
    (z9 : PySem.W.nsIn K mainGlobals "abs" = some none)
    (z10 : PySem.W.nsIn K mainGlobals "range" = some none)
    (z11 : PySem.W.nsIn K mainGlobals "max" = some none)
    (z12 : PySem.W.nsIn K mainGlobals "list" = some none)
    (z13 : PySem.W.nsIn K mainGlobals "min" = some none)
    : Txt K w mg :=
  ⟨defAt X G a0 l0 c0 k0 (fun _ _ _ _ _ _ us hl => match us, hl with | [_], _ => rfl),
   defAt X G a1 l1 c1 k1 (fun _ _ _ _ _ _ us hl => match us, hl with | [_, _, _], _ => rfl),
   defAt X G a2 l2 c2 k2 (fun _ _ _ _ _ _ us hl => match us, hl with | [_], _ => rfl),
   defAt X G a3 l3 c3 k3 (fun _ _ _ _ _ _ us hl => match us, hl with | [_], _ => rfl),
   defAt X G a4 l4 c4 k4 (fun _ _ _ _ _ _ us hl => match us, hl with | [_, _], _ => rfl),
   defAt X G a5 l5 c5 k5 (fun _ _ _ _ _ _ us hl => match us, hl with | [_, _], _ => rfl),
   defAt X G a6 l6 c6 k6 (fun _ _ _ _ _ _ us hl => match us, hl with | [_], _ => rfl),
   defAt X G a7 l7 c7 k7 (fun _ _ _ _ _ _ us hl => match us, hl with | [_, _], _ => rfl),
   defAt X G a8 l8 c8 k8 (fun _ _ _ _ _ _ us hl => match us, hl with | [_, _], _ => rfl),
   defAt X G a9 l9 c9 k9 (fun _ _ _ _ _ _ us hl => match us, hl with | [_], _ => rfl),
   defAt X G a10 l10 c10 k10 (fun _ _ _ _ _ _ us hl => match us, hl with | [_], _ => rfl),
   defAt X G a11 l11 c11 k11 (fun _ _ _ _ _ _ us hl => match us, hl with | [_, _], _ => rfl),
   defAt X G a12 l12 c12 k12 (fun _ _ _ _ _ _ us hl => match us, hl with | [_, _], _ => rfl),
   defAt X G a13 l13 c13 k13 (fun _ _ _ _ _ _ us hl => match us, hl with | [_, _], _ => rfl),
   defAt X G a14 l14 c14 k14 (fun _ _ _ _ _ _ us hl => match us, hl with | [_, _], _ => rfl),
   defAt X G a15 l15 c15 k15 (fun _ _ _ _ _ _ us hl => match us, hl with | [_], _ => rfl),
   defAt X G a16 l16 c16 k16 (fun _ _ _ _ _ _ us hl => match us, hl with | [_, _], _ => rfl),
   defAt X G a17 l17 c17 k17 (fun _ _ _ _ _ _ us hl => match us, hl with | [_], _ => rfl),
   defAt X G a18 l18 c18 k18 (fun _ _ _ _ _ _ us hl => match us, hl with | [_], _ => rfl),
   defAt X G a19 l19 c19 k19 (fun _ _ _ _ _ _ us hl => match us, hl with | [_, _], _ => rfl),
   defAt X G a20 l20 c20 k20 (fun _ _ _ _ _ _ us hl => match us, hl with | [_, _, _], _ => rfl),
   defAt X G a21 l21 c21 k21 (fun _ _ _ _ _ _ us hl => match us, hl with | [_, _, _], _ => rfl),
   defAt X G a22 l22 c22 k22 (fun _ _ _ _ _ _ us hl => match us, hl with | [_], _ => rfl),
   defAt X G a23 l23 c23 k23 (fun _ _ _ _ _ _ us hl => match us, hl with | [], _ => rfl),
   defAt X G a24 l24 c24 k24 (fun _ _ _ _ _ _ us hl => match us, hl with | [_], _ => rfl),
   ⟨_, PySem.W.mg_of X G v0, ⟨_, rfl⟩⟩,
   ⟨_, PySem.W.mg_of X G v1, ⟨_, rfl⟩⟩,
   ⟨_, PySem.W.mg_of X G v2, ⟨_, rfl⟩⟩,
   ⟨_, PySem.W.mg_of X G v3, ⟨_, rfl⟩⟩,
   ⟨_, PySem.W.mg_of X G v4, ⟨_, rfl⟩⟩,
   ⟨_, PySem.W.mg_of X G v5, ⟨_, rfl⟩⟩,
   ⟨_, PySem.W.mg_of X G v6, ⟨_, rfl⟩⟩,
   ⟨_, PySem.W.mg_of X G v7, ⟨_, rfl⟩⟩,
   ⟨_, PySem.W.mg_of X G v8, ⟨_, rfl⟩⟩,
   ⟨_, PySem.W.mg_of X G v9, ⟨_, rfl⟩⟩,
   ⟨ca0, PySem.W.mg_of X G cx0, ⟨_, _, cy0, (.cons ⟨_, rfl⟩ (.cons ⟨_, rfl⟩ (.cons ⟨_, rfl⟩ (.cons ⟨_, rfl⟩ (.cons ⟨_, rfl⟩ .nil))))), cz0⟩⟩,
   PySem.W.mg_none_of X G z0,
   PySem.W.mg_none_of X G z1,
   PySem.W.mg_none_of X G z2,
   PySem.W.mg_none_of X G z3,
   PySem.W.mg_none_of X G z4,
   PySem.W.mg_none_of X G z5,
   PySem.W.mg_none_of X G z6,
   PySem.W.mg_none_of X G z7,
   PySem.W.mg_none_of X G z8,
   PySem.W.mg_none_of X G z9,
   PySem.W.mg_none_of X G z10,
   PySem.W.mg_none_of X G z11,
   PySem.W.mg_none_of X G z12,
   PySem.W.mg_none_of X G z13⟩
theorem fin {l : PySem.W.OpenLaw} {w : World} {K : PySem.W.Frag} {h : Heap} {mg : Str → Option Value} {fa : Addr} (X : K.In h) (G : h.Ns mainGlobals mg) (hfa : mg "law" = some (.ref fa))
    {f0 f1 f2 f3 f4 f5 f6 f7 f8 f9 f10 f11 f12 f13 f14 f15 f16 f17 f18 f19 f20 f21 f22 f23 f24 : Addr} {od0 an0 od1 an1 od2 an2 od3 an3 od4 an4 od5 an5 od6 an6 od7 an7 od8 an8 od9 an9 od10 an10 od11 an11 od12 an12 od13 an13 od14 an14 od15 an15 od16 an16 od17 an17 od18 an18 od19 an19 od20 an20 od21 an21 od22 an22 od23 an23 od24 an24 : Option Addr} {sl0 sl1 sl2 sl3 sl4 sl5 sl6 sl7 sl8 sl9 sl10 sl11 sl12 sl13 sl14 sl15 sl16 sl17 sl18 sl19 sl20 sl21 sl22 sl23 sl24 : Array (Option Value)} {oc0 dc0 pm0 cd0 ct0 kV0 oc1 dc1 pm1 cd1 ct1 kV1 oc2 dc2 pm2 cd2 ct2 kV2 oc3 dc3 pm3 cd3 ct3 kV3 oc4 dc4 pm4 cd4 ct4 kV4 oc5 dc5 pm5 cd5 ct5 kV5 oc6 dc6 pm6 cd6 ct6 kV6 oc7 dc7 pm7 cd7 ct7 kV7 oc8 dc8 pm8 cd8 ct8 kV8 oc9 dc9 pm9 cd9 ct9 kV9 oc10 dc10 pm10 cd10 ct10 kV10 oc11 dc11 pm11 cd11 ct11 kV11 oc12 dc12 pm12 cd12 ct12 kV12 oc13 dc13 pm13 cd13 ct13 kV13 oc14 dc14 pm14 cd14 ct14 kV14 oc15 dc15 pm15 cd15 ct15 kV15 oc16 dc16 pm16 cd16 ct16 kV16 oc17 dc17 pm17 cd17 ct17 kV17 oc18 dc18 pm18 cd18 ct18 kV18 oc19 dc19 pm19 cd19 ct19 kV19 oc20 dc20 pm20 cd20 ct20 kV20 oc21 dc21 pm21 cd21 ct21 kV21 oc22 dc22 pm22 cd22 ct22 kV22 oc23 dc23 pm23 cd23 ct23 kV23 oc24 dc24 pm24 cd24 ct24 kV24 : Value} {tk0 tk1 tk2 tk3 tk4 tk5 tk6 tk7 tk8 tk9 : Tok} {ca0 : Addr} {cn0 : Nat} {ck0_0 cu0_0 ck0_1 cu0_1 ck0_2 cu0_2 ck0_3 cu0_3 ck0_4 cu0_4 : Tok}
    (a0 : PySem.W.nsIn K mainGlobals "is_integer" = some (some (.ref f0)))
    (l0 : K.lookup f0 = some ⟨oc0, od0, .func (PySem.W.fnOf "is_integer" "is_integer" (defArgs s_is_integer) (defBody s_is_integer) (defScope s_is_integer) .none kV0 dc0 pm0 an0 cd0 ct0), sl0⟩)
    (c0 : PySem.W.codeIn K cd0 "is_integer" = true)
    (k0 : PySem.W.keepIn K (.ref f0) = true)
    (a1 : PySem.W.nsIn K mainGlobals "is_within" = some (some (.ref f1)))
    (l1 : K.lookup f1 = some ⟨oc1, od1, .func (PySem.W.fnOf "is_within" "is_within" (defArgs s_is_within) (defBody s_is_within) (defScope s_is_within) .none kV1 dc1 pm1 an1 cd1 ct1), sl1⟩)
    (c1 : PySem.W.codeIn K cd1 "is_within" = true)
    (k1 : PySem.W.keepIn K (.ref f1) = true)
    (a2 : PySem.W.nsIn K mainGlobals "is_name" = some (some (.ref f2)))
    (l2 : K.lookup f2 = some ⟨oc2, od2, .func (PySem.W.fnOf "is_name" "is_name" (defArgs s_is_name) (defBody s_is_name) (defScope s_is_name) .none kV2 dc2 pm2 an2 cd2 ct2), sl2⟩)
    (c2 : PySem.W.codeIn K cd2 "is_name" = true)
    (k2 : PySem.W.keepIn K (.ref f2) = true)
    (a3 : PySem.W.nsIn K mainGlobals "is_first" = some (some (.ref f3)))
    (l3 : K.lookup f3 = some ⟨oc3, od3, .func (PySem.W.fnOf "is_first" "is_first" (defArgs s_is_first) (defBody s_is_first) (defScope s_is_first) .none kV3 dc3 pm3 an3 cd3 ct3), sl3⟩)
    (c3 : PySem.W.codeIn K cd3 "is_first" = true)
    (k3 : PySem.W.keepIn K (.ref f3) = true)
    (a4 : PySem.W.nsIn K mainGlobals "is_cell" = some (some (.ref f4)))
    (l4 : K.lookup f4 = some ⟨oc4, od4, .func (PySem.W.fnOf "is_cell" "is_cell" (defArgs s_is_cell) (defBody s_is_cell) (defScope s_is_cell) .none kV4 dc4 pm4 an4 cd4 ct4), sl4⟩)
    (c4 : PySem.W.codeIn K cd4 "is_cell" = true)
    (k4 : PySem.W.keepIn K (.ref f4) = true)
    (a5 : PySem.W.nsIn K mainGlobals "names_of" = some (some (.ref f5)))
    (l5 : K.lookup f5 = some ⟨oc5, od5, .func (PySem.W.fnOf "names_of" "names_of" (defArgs s_names_of) (defBody s_names_of) (defScope s_names_of) .none kV5 dc5 pm5 an5 cd5 ct5), sl5⟩)
    (c5 : PySem.W.codeIn K cd5 "names_of" = true)
    (k5 : PySem.W.keepIn K (.ref f5) = true)
    (a6 : PySem.W.nsIn K mainGlobals "is_lot" = some (some (.ref f6)))
    (l6 : K.lookup f6 = some ⟨oc6, od6, .func (PySem.W.fnOf "is_lot" "is_lot" (defArgs s_is_lot) (defBody s_is_lot) (defScope s_is_lot) .none kV6 dc6 pm6 an6 cd6 ct6), sl6⟩)
    (c6 : PySem.W.codeIn K cd6 "is_lot" = true)
    (k6 : PySem.W.keepIn K (.ref f6) = true)
    (a7 : PySem.W.nsIn K mainGlobals "is_output" = some (some (.ref f7)))
    (l7 : K.lookup f7 = some ⟨oc7, od7, .func (PySem.W.fnOf "is_output" "is_output" (defArgs s_is_output) (defBody s_is_output) (defScope s_is_output) .none kV7 dc7 pm7 an7 cd7 ct7), sl7⟩)
    (c7 : PySem.W.codeIn K cd7 "is_output" = true)
    (k7 : PySem.W.keepIn K (.ref f7) = true)
    (a8 : PySem.W.nsIn K mainGlobals "are_outputs" = some (some (.ref f8)))
    (l8 : K.lookup f8 = some ⟨oc8, od8, .func (PySem.W.fnOf "are_outputs" "are_outputs" (defArgs s_are_outputs) (defBody s_are_outputs) (defScope s_are_outputs) .none kV8 dc8 pm8 an8 cd8 ct8), sl8⟩)
    (c8 : PySem.W.codeIn K cd8 "are_outputs" = true)
    (k8 : PySem.W.keepIn K (.ref f8) = true)
    (a9 : PySem.W.nsIn K mainGlobals "is_net" = some (some (.ref f9)))
    (l9 : K.lookup f9 = some ⟨oc9, od9, .func (PySem.W.fnOf "is_net" "is_net" (defArgs s_is_net) (defBody s_is_net) (defScope s_is_net) .none kV9 dc9 pm9 an9 cd9 ct9), sl9⟩)
    (c9 : PySem.W.codeIn K cd9 "is_net" = true)
    (k9 : PySem.W.keepIn K (.ref f9) = true)
    (a10 : PySem.W.nsIn K mainGlobals "looks_of" = some (some (.ref f10)))
    (l10 : K.lookup f10 = some ⟨oc10, od10, .func (PySem.W.fnOf "looks_of" "looks_of" (defArgs s_looks_of) (defBody s_looks_of) (defScope s_looks_of) .none kV10 dc10 pm10 an10 cd10 ct10), sl10⟩)
    (c10 : PySem.W.codeIn K cd10 "looks_of" = true)
    (k10 : PySem.W.keepIn K (.ref f10) = true)
    (a11 : PySem.W.nsIn K mainGlobals "_law_dice" = some (some (.ref f11)))
    (l11 : K.lookup f11 = some ⟨oc11, od11, .func (PySem.W.fnOf "_law_dice" "_law_dice" (defArgs s__law_dice) (defBody s__law_dice) (defScope s__law_dice) .none kV11 dc11 pm11 an11 cd11 ct11), sl11⟩)
    (c11 : PySem.W.codeIn K cd11 "_law_dice" = true)
    (k11 : PySem.W.keepIn K (.ref f11) = true)
    (a12 : PySem.W.nsIn K mainGlobals "_law_roll" = some (some (.ref f12)))
    (l12 : K.lookup f12 = some ⟨oc12, od12, .func (PySem.W.fnOf "_law_roll" "_law_roll" (defArgs s__law_roll) (defBody s__law_roll) (defScope s__law_roll) .none kV12 dc12 pm12 an12 cd12 ct12), sl12⟩)
    (c12 : PySem.W.codeIn K cd12 "_law_roll" = true)
    (k12 : PySem.W.keepIn K (.ref f12) = true)
    (a13 : PySem.W.nsIn K mainGlobals "_law_one_of" = some (some (.ref f13)))
    (l13 : K.lookup f13 = some ⟨oc13, od13, .func (PySem.W.fnOf "_law_one_of" "_law_one_of" (defArgs s__law_one_of) (defBody s__law_one_of) (defScope s__law_one_of) .none kV13 dc13 pm13 an13 cd13 ct13), sl13⟩)
    (c13 : PySem.W.codeIn K cd13 "_law_one_of" = true)
    (k13 : PySem.W.keepIn K (.ref f13) = true)
    (a14 : PySem.W.nsIn K mainGlobals "_law_is_index" = some (some (.ref f14)))
    (l14 : K.lookup f14 = some ⟨oc14, od14, .func (PySem.W.fnOf "_law_is_index" "_law_is_index" (defArgs s__law_is_index) (defBody s__law_is_index) (defScope s__law_is_index) .none kV14 dc14 pm14 an14 cd14 ct14), sl14⟩)
    (c14 : PySem.W.codeIn K cd14 "_law_is_index" = true)
    (k14 : PySem.W.keepIn K (.ref f14) = true)
    (a15 : PySem.W.nsIn K mainGlobals "_law_is_name" = some (some (.ref f15)))
    (l15 : K.lookup f15 = some ⟨oc15, od15, .func (PySem.W.fnOf "_law_is_name" "_law_is_name" (defArgs s__law_is_name) (defBody s__law_is_name) (defScope s__law_is_name) .none kV15 dc15 pm15 an15 cd15 ct15), sl15⟩)
    (c15 : PySem.W.codeIn K cd15 "_law_is_name" = true)
    (k15 : PySem.W.keepIn K (.ref f15) = true)
    (a16 : PySem.W.nsIn K mainGlobals "_law_is_cell" = some (some (.ref f16)))
    (l16 : K.lookup f16 = some ⟨oc16, od16, .func (PySem.W.fnOf "_law_is_cell" "_law_is_cell" (defArgs s__law_is_cell) (defBody s__law_is_cell) (defScope s__law_is_cell) .none kV16 dc16 pm16 an16 cd16 ct16), sl16⟩)
    (c16 : PySem.W.codeIn K cd16 "_law_is_cell" = true)
    (k16 : PySem.W.keepIn K (.ref f16) = true)
    (a17 : PySem.W.nsIn K mainGlobals "_law_is_lot" = some (some (.ref f17)))
    (l17 : K.lookup f17 = some ⟨oc17, od17, .func (PySem.W.fnOf "_law_is_lot" "_law_is_lot" (defArgs s__law_is_lot) (defBody s__law_is_lot) (defScope s__law_is_lot) .none kV17 dc17 pm17 an17 cd17 ct17), sl17⟩)
    (c17 : PySem.W.codeIn K cd17 "_law_is_lot" = true)
    (k17 : PySem.W.keepIn K (.ref f17) = true)
    (a18 : PySem.W.nsIn K mainGlobals "_law_is_net" = some (some (.ref f18)))
    (l18 : K.lookup f18 = some ⟨oc18, od18, .func (PySem.W.fnOf "_law_is_net" "_law_is_net" (defArgs s__law_is_net) (defBody s__law_is_net) (defScope s__law_is_net) .none kV18 dc18 pm18 an18 cd18 ct18), sl18⟩)
    (c18 : PySem.W.codeIn K cd18 "_law_is_net" = true)
    (k18 : PySem.W.keepIn K (.ref f18) = true)
    (a19 : PySem.W.nsIn K mainGlobals "_law_net_drawn" = some (some (.ref f19)))
    (l19 : K.lookup f19 = some ⟨oc19, od19, .func (PySem.W.fnOf "_law_net_drawn" "_law_net_drawn" (defArgs s__law_net_drawn) (defBody s__law_net_drawn) (defScope s__law_net_drawn) .none kV19 dc19 pm19 an19 cd19 ct19), sl19⟩)
    (c19 : PySem.W.codeIn K cd19 "_law_net_drawn" = true)
    (k19 : PySem.W.keepIn K (.ref f19) = true)
    (a20 : PySem.W.nsIn K mainGlobals "_law_bent_cell" = some (some (.ref f20)))
    (l20 : K.lookup f20 = some ⟨oc20, od20, .func (PySem.W.fnOf "_law_bent_cell" "_law_bent_cell" (defArgs s__law_bent_cell) (defBody s__law_bent_cell) (defScope s__law_bent_cell) .none kV20 dc20 pm20 an20 cd20 ct20), sl20⟩)
    (c20 : PySem.W.codeIn K cd20 "_law_bent_cell" = true)
    (k20 : PySem.W.keepIn K (.ref f20) = true)
    (a21 : PySem.W.nsIn K mainGlobals "_law_bent_outputs" = some (some (.ref f21)))
    (l21 : K.lookup f21 = some ⟨oc21, od21, .func (PySem.W.fnOf "_law_bent_outputs" "_law_bent_outputs" (defArgs s__law_bent_outputs) (defBody s__law_bent_outputs) (defScope s__law_bent_outputs) .none kV21 dc21 pm21 an21 cd21 ct21), sl21⟩)
    (c21 : PySem.W.codeIn K cd21 "_law_bent_outputs" = true)
    (k21 : PySem.W.keepIn K (.ref f21) = true)
    (a22 : PySem.W.nsIn K mainGlobals "_law_right" = some (some (.ref f22)))
    (l22 : K.lookup f22 = some ⟨oc22, od22, .func (PySem.W.fnOf "_law_right" "_law_right" (defArgs s__law_right) (defBody s__law_right) (defScope s__law_right) .none kV22 dc22 pm22 an22 cd22 ct22), sl22⟩)
    (c22 : PySem.W.codeIn K cd22 "_law_right" = true)
    (k22 : PySem.W.keepIn K (.ref f22) = true)
    (a23 : PySem.W.nsIn K mainGlobals "_law_great_right" = some (some (.ref f23)))
    (l23 : K.lookup f23 = some ⟨oc23, od23, .func (PySem.W.fnOf "_law_great_right" "_law_great_right" (defArgs s__law_great_right) (defBody s__law_great_right) (defScope s__law_great_right) .none kV23 dc23 pm23 an23 cd23 ct23), sl23⟩)
    (c23 : PySem.W.codeIn K cd23 "_law_great_right" = true)
    (k23 : PySem.W.keepIn K (.ref f23) = true)
    (a24 : PySem.W.nsIn K mainGlobals "law" = some (some (.ref f24)))
    (l24 : K.lookup f24 = some ⟨oc24, od24, .func (PySem.W.fnOf "law" "law" (defArgs s_law) (defBody s_law) (defScope s_law) .none kV24 dc24 pm24 an24 cd24 ct24), sl24⟩)
    (c24 : PySem.W.codeIn K cd24 "law" = true)
    (k24 : PySem.W.keepIn K (.ref f24) = true)
    (v0 : PySem.W.nsIn K mainGlobals "MAX_CELLS" = some (some (.int 6000 tk0)))
    (v1 : PySem.W.nsIn K mainGlobals "MAX_NAMED" = some (some (.int 400 tk1)))
    (v2 : PySem.W.nsIn K mainGlobals "MOST_SIGNS" = some (some (.int 24 tk2)))
    (v3 : PySem.W.nsIn K mainGlobals "FIRST_SIGNS" = some (some (.str "abcdefghijklmnopqrstuvwxyz" tk3)))
    (v4 : PySem.W.nsIn K mainGlobals "MORE_SIGNS" = some (some (.str "abcdefghijklmnopqrstuvwxyz0123456789_." tk4)))
    (v5 : PySem.W.nsIn K mainGlobals "IN" = some (some (.str "in" tk5)))
    (v6 : PySem.W.nsIn K mainGlobals "KEEP" = some (some (.str "keep" tk6)))
    (v7 : PySem.W.nsIn K mainGlobals "IN_SIZE" = some (some (.int 2 tk7)))
    (v8 : PySem.W.nsIn K mainGlobals "KEEP_SIZE" = some (some (.int 4 tk8)))
    (v9 : PySem.W.nsIn K mainGlobals "PAIR_SIZE" = some (some (.int 2 tk9)))
    (cx0 : PySem.W.nsIn K mainGlobals "LOOKS" = some (some (.ref ca0)))
    (cy0 : K.lookup ca0 = some ⟨.type "dict", none, .dict #[⟨PyData.keyHash w.params "not", .str "not" ck0_0, .int 1 cu0_0⟩, ⟨PyData.keyHash w.params "and", .str "and" ck0_1, .int 2 cu0_1⟩, ⟨PyData.keyHash w.params "or", .str "or" ck0_2, .int 2 cu0_2⟩, ⟨PyData.keyHash w.params "xor", .str "xor" ck0_3, .int 2 cu0_3⟩, ⟨PyData.keyHash w.params "pick", .str "pick" ck0_4, .int 3 cu0_4⟩] cn0, #[]⟩)
    (cz0 : (ca0 == sysModules) = false)
    (z0 : PySem.W.nsIn K mainGlobals "isinstance" = some none)
    (z1 : PySem.W.nsIn K mainGlobals "int" = some none)
    (z2 : PySem.W.nsIn K mainGlobals "bool" = some none)
    (z3 : PySem.W.nsIn K mainGlobals "all" = some none)
    (z4 : PySem.W.nsIn K mainGlobals "str" = some none)
    (z5 : PySem.W.nsIn K mainGlobals "len" = some none)
    (z6 : PySem.W.nsIn K mainGlobals "tuple" = some none)
    (z7 : PySem.W.nsIn K mainGlobals "set" = some none)
    (z8 : PySem.W.nsIn K mainGlobals "enumerate" = some none)
    (z9 : PySem.W.nsIn K mainGlobals "abs" = some none)
    (z10 : PySem.W.nsIn K mainGlobals "range" = some none)
    (z11 : PySem.W.nsIn K mainGlobals "max" = some none)
    (z12 : PySem.W.nsIn K mainGlobals "list" = some none)
    (z13 : PySem.W.nsIn K mainGlobals "min" = some none)
    : ∃ fd : FuncData, (∀ (s : Shared) (v : Value), BindsTo s fd ⟨[v], []⟩ [("_law_script", v)]) ∧ ∀ base : Heap, K.In base → base.Ns mainGlobals mg → FnOk l.prog w K mg base CX0 8 fa fd ["_law_script"] (sp_law K) := by
  have e := hfa.symm.trans (PySem.W.mg_of X G a24)
  cases e
  exact ⟨PySem.W.fnOf "law" "law" (defArgs s_law) (defBody s_law) (defScope s_law) .none kV24 dc24 pm24 an24 cd24 ct24, fun s v => .of_eq rfl, fun base _ _ => ok_law (txt_mk X G a0 l0 c0 k0 a1 l1 c1 k1 a2 l2 c2 k2 a3 l3 c3 k3 a4 l4 c4 k4 a5 l5 c5 k5 a6 l6 c6 k6 a7 l7 c7 k7 a8 l8 c8 k8 a9 l9 c9 k9 a10 l10 c10 k10 a11 l11 c11 k11 a12 l12 c12 k12 a13 l13 c13 k13 a14 l14 c14 k14 a15 l15 c15 k15 a16 l16 c16 k16 a17 l17 c17 k17 a18 l18 c18 k18 a19 l19 c19 k19 a20 l20 c20 k20 a21 l21 c21 k21 a22 l22 c22 k22 a23 l23 c23 k23 a24 l24 c24 k24 v0 v1 v2 v3 v4 v5 v6 v7 v8 v9 cx0 cy0 cz0 z0 z1 z2 z3 z4 z5 z6 z7 z8 z9 z10 z11 z12 z13)⟩
end PL
open PySem PySem.W PyProof.Rows
set_option maxRecDepth 100000 in
set_option maxHeartbeats 0 in
theorem PySem.Challenge.cw_truebeat_k09_whole_nets_told_from_others_holds : PySem.Challenge.rw_truebeat_k09_whole_nets_told_from_others.Holds := by
  w_on; o_law; k_head; (case hw => w_witness2)
  k_fill
  refine L2.walk_of (l := PySem.Challenge.rw_truebeat_k09_whole_nets_told_from_others) (n := 63) (k := 8) (x := "_law_script") (CX := fun _ => L2.CX0) (sp := fun w => PL.sp_law _) rfl (by decide) rfl ⟨rfl, by decide, by decide⟩ (fun w h Y => PySem.W.kIn_of Y) ?F (fun _ _ a ns hl _ hS => ⟨a, ns, rfl, hS, hl, fun _ => rfl⟩) (fun _ _ _ _ _ h => h)
  case F =>
    intro w mg fa h KX G hmg
    refine' PL.fin KX G hmg ?a0 ?l0 ?c0 ?k0 ?a1 ?l1 ?c1 ?k1 ?a2 ?l2 ?c2 ?k2 ?a3 ?l3 ?c3 ?k3 ?a4 ?l4 ?c4 ?k4 ?a5 ?l5 ?c5 ?k5 ?a6 ?l6 ?c6 ?k6 ?a7 ?l7 ?c7 ?k7 ?a8 ?l8 ?c8 ?k8 ?a9 ?l9 ?c9 ?k9 ?a10 ?l10 ?c10 ?k10 ?a11 ?l11 ?c11 ?k11 ?a12 ?l12 ?c12 ?k12 ?a13 ?l13 ?c13 ?k13 ?a14 ?l14 ?c14 ?k14 ?a15 ?l15 ?c15 ?k15 ?a16 ?l16 ?c16 ?k16 ?a17 ?l17 ?c17 ?k17 ?a18 ?l18 ?c18 ?k18 ?a19 ?l19 ?c19 ?k19 ?a20 ?l20 ?c20 ?k20 ?a21 ?l21 ?c21 ?k21 ?a22 ?l22 ?c22 ?k22 ?a23 ?l23 ?c23 ?k23 ?a24 ?l24 ?c24 ?k24 ?v0 ?v1 ?v2 ?v3 ?v4 ?v5 ?v6 ?v7 ?v8 ?v9 ?cx0 ?cy0 ?cz0 ?z0 ?z1 ?z2 ?z3 ?z4 ?z5 ?z6 ?z7 ?z8 ?z9 ?z10 ?z11 ?z12 ?z13
    (case a0 => k_is)
    (case l0 => k_is)
    (case c0 => k_is)
    (case k0 => k_is)
    (case a1 => k_is)
    (case l1 => k_is)
    (case c1 => k_is)
    (case k1 => k_is)
    (case a2 => k_is)
    (case l2 => k_is)
    (case c2 => k_is)
    (case k2 => k_is)
    (case a3 => k_is)
    (case l3 => k_is)
    (case c3 => k_is)
    (case k3 => k_is)
    (case a4 => k_is)
    (case l4 => k_is)
    (case c4 => k_is)
    (case k4 => k_is)
    (case a5 => k_is)
    (case l5 => k_is)
    (case c5 => k_is)
    (case k5 => k_is)
    (case a6 => k_is)
    (case l6 => k_is)
    (case c6 => k_is)
    (case k6 => k_is)
    (case a7 => k_is)
    (case l7 => k_is)
    (case c7 => k_is)
    (case k7 => k_is)
    (case a8 => k_is)
    (case l8 => k_is)
    (case c8 => k_is)
    (case k8 => k_is)
    (case a9 => k_is)
    (case l9 => k_is)
    (case c9 => k_is)
    (case k9 => k_is)
    (case a10 => k_is)
    (case l10 => k_is)
    (case c10 => k_is)
    (case k10 => k_is)
    (case a11 => k_is)
    (case l11 => k_is)
    (case c11 => k_is)
    (case k11 => k_is)
    (case a12 => k_is)
    (case l12 => k_is)
    (case c12 => k_is)
    (case k12 => k_is)
    (case a13 => k_is)
    (case l13 => k_is)
    (case c13 => k_is)
    (case k13 => k_is)
    (case a14 => k_is)
    (case l14 => k_is)
    (case c14 => k_is)
    (case k14 => k_is)
    (case a15 => k_is)
    (case l15 => k_is)
    (case c15 => k_is)
    (case k15 => k_is)
    (case a16 => k_is)
    (case l16 => k_is)
    (case c16 => k_is)
    (case k16 => k_is)
    (case a17 => k_is)
    (case l17 => k_is)
    (case c17 => k_is)
    (case k17 => k_is)
    (case a18 => k_is)
    (case l18 => k_is)
    (case c18 => k_is)
    (case k18 => k_is)
    (case a19 => k_is)
    (case l19 => k_is)
    (case c19 => k_is)
    (case k19 => k_is)
    (case a20 => k_is)
    (case l20 => k_is)
    (case c20 => k_is)
    (case k20 => k_is)
    (case a21 => k_is)
    (case l21 => k_is)
    (case c21 => k_is)
    (case k21 => k_is)
    (case a22 => k_is)
    (case l22 => k_is)
    (case c22 => k_is)
    (case k22 => k_is)
    (case a23 => k_is)
    (case l23 => k_is)
    (case c23 => k_is)
    (case k23 => k_is)
    (case a24 => k_is)
    (case l24 => k_is)
    (case c24 => k_is)
    (case k24 => k_is)
    (case v0 => k_is)
    (case v1 => k_is)
    (case v2 => k_is)
    (case v3 => k_is)
    (case v4 => k_is)
    (case v5 => k_is)
    (case v6 => k_is)
    (case v7 => k_is)
    (case v8 => k_is)
    (case v9 => k_is)
    (case cx0 => k_is)
    (case cy0 => k_is)
    (case cz0 => first | rfl | decide +kernel)
    (case z0 => k_is)
    (case z1 => k_is)
    (case z2 => k_is)
    (case z3 => k_is)
    (case z4 => k_is)
    (case z5 => k_is)
    (case z6 => k_is)
    (case z7 => k_is)
    (case z8 => k_is)
    (case z9 => k_is)
    (case z10 => k_is)
    (case z11 => k_is)
    (case z12 => k_is)
    (case z13 => k_is)
#print axioms PySem.Challenge.cw_truebeat_k09_whole_nets_told_from_others_holds
