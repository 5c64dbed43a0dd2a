import PyProof.Rows.All
import Wide.All
import OpenK.AllK
import Wide.FinOn
import HandS.ForMost
import HandS.Wide
import HandS.WideBits
import HandS.Style
import HandS.IsInst
import HandS.TupAny
import HandS.Defaults
import HandS.Zip
import HandS.TupMul
import KE.GoesEnum
import HandS.RaiseMore
import HandS.Conv
import HandS.Star
import HandS.CallLocal
import HandS.Iter
import PyProof.Rows.TupDisplay
import KE.DataMinMax
import KE.SortData
import KE.KDictSum
import KE.KSortTupG
import KE.KDictCopyH
import HandS.ExcValue
import HandS.List
import PyProof.RulesMatch
import PyProof.Rows.SetFrom
import PyProof.ListNew
import KE.KDictList
import HandS.Rev
import HandS.Text
import HandS.SortKw
import HandS.Dict
import HandS.TryOnly
import HandS.Deep
import HandS.TupSets
import PyProof.P3In
import PySem.Challenge.RW_truebeat_k31_tables_judged
set_option Elab.async false
set_option linter.all false
set_option maxRecDepth 100000
set_option maxHeartbeats 4000000
namespace TB
/-! ### whole numbers -/
theorem two_pos (n : Nat) : (0 : Int) < 2 ^ n := Int.pow_pos (by decide)
theorem two_succ (n : Nat) : (2 : Int) ^ (n + 1) = 2 * 2 ^ n := by rw [Int.pow_succ, Int.mul_comm]
theorem two_add (a b : Nat) : (2 : Int) ^ (a + b) = 2 ^ a * 2 ^ b := Int.pow_add 2 a b
theorem two_mono {a b : Nat} (h : a ≤ b) : (2 : Int) ^ a ≤ 2 ^ b := by
  obtain ⟨c, rfl⟩ := Nat.exists_eq_add_of_le h
  rw [two_add]
  have := two_pos a
  have h2 : (1 : Int) ≤ 2 ^ c := two_pos c
  have := Int.mul_le_mul_of_nonneg_left h2 (Int.le_of_lt (two_pos a))
  omega
theorem two32 {w : Nat} (h : w ≤ 32) : (2 : Int) ^ w ≤ 4294967296 := Int.le_trans (two_mono h) (by decide)
theorem divmod_of {a b q r : Int} (hb : 0 < b) (e : r + b * q = a) (h0 : 0 ≤ r) (h1 : r < b) : a / b = q ∧ a % b = r := (Int.ediv_emod_unique hb).mpr ⟨e, h0, h1⟩
theorem mod_succ (x : Int) (i : Nat) : x % 2 ^ (i + 1) = x % 2 ^ i + 2 ^ i * (x / 2 ^ i % 2) := by
  have hd := two_pos i
  have e1 := Int.emod_add_mul_ediv x (2 ^ i)
  have e2 := Int.emod_add_mul_ediv (x / 2 ^ i) 2
  have l1 := Int.emod_nonneg x (Int.ne_of_gt hd)
  have l2 := Int.emod_lt_of_pos x hd
  rw [two_succ]
  refine (divmod_of (q := x / 2 ^ i / 2) (by omega) ?_ ?_ ?_).2
  · rw [Int.mul_comm 2 ((2 : Int) ^ i), Int.mul_assoc]
    have e3 : (2 : Int) ^ i * (x / 2 ^ i) = 2 ^ i * (x / 2 ^ i % 2) + 2 ^ i * (2 * (x / 2 ^ i / 2)) := by rw [← Int.mul_add, e2]
    omega
  · have := Int.mul_nonneg (Int.le_of_lt hd) (Int.emod_nonneg (x / 2 ^ i) (by decide : (2 : Int) ≠ 0))
    omega
  · have h3 : x / 2 ^ i % 2 ≤ 1 := by omega
    have := Int.mul_le_mul_of_nonneg_left h3 (Int.le_of_lt hd)
    omega
theorem div_div (x : Int) (a b : Nat) : x / 2 ^ a / 2 ^ b = x / 2 ^ (a + b) := by
  rw [two_add, Int.ediv_ediv_of_nonneg (Int.le_of_lt (two_pos a))]
/-! ### bits -/
def bitsI : Nat → Int → List Int
  | 0, _ => []
  | n + 1, x => (x % 2) :: bitsI n (x / 2)
def ofBits : List Int → Int
  | [] => 0
  | b :: r => 2 * ofBits r + b
theorem bitsI_length : ∀ (n : Nat) (x : Int), (bitsI n x).length = n
  | 0, _ => rfl
  | n + 1, x => by simp [bitsI, bitsI_length n (x / 2)]
theorem bitsI_get : ∀ (n : Nat) (x : Int) (i : Nat), i < n → (bitsI n x)[i]? = some (x / 2 ^ i % 2)
  | 0, _, _, h => by omega
  | n + 1, x, 0, _ => by simp [bitsI]
  | n + 1, x, i + 1, h => by
    have := bitsI_get n (x / 2) i (by omega)
    simp only [bitsI, List.getElem?_cons_succ]
    rw [this]
    have e := div_div x 1 i
    rw [show (2 : Int) ^ 1 = 2 from rfl] at e
    rw [e, Nat.add_comm 1 i]
theorem bitsI_range (n : Nat) (x : Int) : ∀ b ∈ bitsI n x, b = 0 ∨ b = 1 := by
  induction n generalizing x with
  | zero => intro b h; cases h
  | succ n ih =>
    intro b h
    rcases List.mem_cons.mp h with rfl | h
    · omega
    · exact ih _ b h
theorem bitsI_snoc (n : Nat) (x : Int) : bitsI (n + 1) x = bitsI n x ++ [x / 2 ^ n % 2] := by
  induction n generalizing x with
  | zero => simp [bitsI]
  | succ n ih =>
    show (x % 2) :: bitsI (n + 1) (x / 2) = (x % 2) :: bitsI n (x / 2) ++ [x / 2 ^ (n + 1) % 2]
    rw [ih (x / 2)]
    have e := div_div x 1 n
    rw [show (2 : Int) ^ 1 = 2 from rfl] at e
    rw [e, Nat.add_comm 1 n]
    rfl
theorem ofBits_bitsI : ∀ (n : Nat) (x : Int), ofBits (bitsI n x) = x % 2 ^ n
  | 0, x => by simp [bitsI, ofBits, Int.emod_one]
  | n + 1, x => by
    show 2 * ofBits (bitsI n (x / 2)) + x % 2 = x % 2 ^ (n + 1)
    rw [ofBits_bitsI n (x / 2)]
    have hd := two_pos n
    have e1 := Int.emod_add_mul_ediv (x / 2) (2 ^ n)
    have l1 := Int.emod_nonneg (x / 2) (Int.ne_of_gt hd)
    have l2 := Int.emod_lt_of_pos (x / 2) hd
    rw [two_succ]
    refine ((divmod_of (q := x / 2 / 2 ^ n) (by omega) ?_ (by omega) (by omega)).2).symm
    rw [Int.mul_assoc]
    omega
theorem bitsI_drop : ∀ (m n : Nat) (x : Int), (bitsI n x).drop m = bitsI (n - m) (x / 2 ^ m)
  | 0, n, x => by simp
  | m + 1, 0, x => by simp [bitsI]
  | m + 1, n + 1, x => by
    show (bitsI n (x / 2)).drop m = _
    rw [bitsI_drop m n (x / 2), Nat.add_sub_add_right]
    have e := div_div x 1 m
    rw [show (2 : Int) ^ 1 = 2 from rfl] at e
    rw [e, Nat.add_comm 1 m]
theorem bitsI_take : ∀ (m n : Nat) (x : Int), m ≤ n → (bitsI n x).take m = bitsI m x
  | 0, n, x, _ => by simp [bitsI]
  | m + 1, 0, x, h => by omega
  | m + 1, n + 1, x, h => by
    show (x % 2) :: (bitsI n (x / 2)).take m = (x % 2) :: bitsI m (x / 2)
    rw [bitsI_take m n (x / 2) (by omega)]
theorem ofBits_zeros : ∀ (p : Nat) (l : List Int), ofBits (List.replicate p 0 ++ l) = 2 ^ p * ofBits l
  | 0, l => by simp
  | p + 1, l => by
    show 2 * ofBits (List.replicate p 0 ++ l) + 0 = 2 ^ (p + 1) * ofBits l
    rw [ofBits_zeros p l, two_succ, Int.mul_assoc]
    omega
theorem mod_small {x : Int} {n : Nat} (h0 : 0 ≤ x) (h1 : x < 2 ^ n) : x % 2 ^ n = x := Int.emod_eq_of_lt h0 h1
theorem div_small {x : Int} {n : Nat} (h0 : 0 ≤ x) (h1 : x < 2 ^ n) : x / 2 ^ n = 0 := Int.ediv_eq_zero_of_lt h0 h1
/-- moved left: zeros come in -/
theorem ofBits_left (w p : Nat) (x : Int) : ofBits ((List.replicate p 0 ++ bitsI w x).take w) = x * 2 ^ p % 2 ^ w := by
  by_cases h : p ≤ w
  · have e : (List.replicate p (0 : Int) ++ bitsI w x).take w = List.replicate p 0 ++ bitsI (w - p) x := by
      rw [List.take_append, List.length_replicate, List.take_of_length_le (by simp; exact h), bitsI_take _ _ _ (by omega)]
    rw [e, ofBits_zeros, ofBits_bitsI]
    have e2 : (2 : Int) ^ w = 2 ^ p * 2 ^ (w - p) := by rw [← two_add, Nat.add_sub_cancel' h]
    rw [e2, Int.mul_comm x, Int.mul_emod_mul_of_pos _ _ (two_pos p)]
  · have e : (List.replicate p (0 : Int) ++ bitsI w x).take w = List.replicate w 0 ++ [] := by
      rw [List.take_append, List.length_replicate, List.take_replicate, Nat.min_eq_left (by omega), show w - p = 0 by omega]
      simp
    rw [e, ofBits_zeros]
    have e2 : (2 : Int) ^ p = 2 ^ w * 2 ^ (p - w) := by rw [← two_add, Nat.add_sub_cancel' (by omega)]
    rw [e2, ← Int.mul_assoc, Int.mul_comm x, Int.mul_assoc, Int.mul_emod_right]
    show 2 ^ w * (0 : Int) = 0
    omega
theorem ofBits_right {w : Nat} (p : Nat) {x : Int} (h0 : 0 ≤ x) (h1 : x < 2 ^ w) : ofBits ((bitsI w x).drop p) = x / 2 ^ p := by
  rw [bitsI_drop, ofBits_bitsI]
  by_cases h : p ≤ w
  · refine Int.emod_eq_of_lt (Int.ediv_nonneg h0 (Int.le_of_lt (two_pos p))) ?_
    refine Int.ediv_lt_of_lt_mul (two_pos p) ?_
    rw [← two_add, Nat.sub_add_cancel h]
    exact h1
  · rw [show w - p = 0 by omega, Int.pow_zero, Int.emod_one]
    exact (div_small h0 (Int.lt_of_lt_of_le h1 (two_mono (by omega)))).symm
theorem ofBits_rev (bs : List Int) (i : Nat) (b : Int) (h : bs.reverse[i]? = some b) : ofBits (bs.drop (bs.length - (i + 1))) = 2 * ofBits (bs.drop (bs.length - i)) + b := by
  have hi : i < bs.length := by
    have := (List.getElem?_eq_some_iff.mp h).1
    rw [List.length_reverse] at this
    exact this
  rw [List.getElem?_reverse hi] at h
  have hj : bs.length - 1 - i < bs.length := by omega
  rw [List.getElem?_eq_getElem hj] at h
  have e : bs.drop (bs.length - 1 - i) = bs[bs.length - 1 - i] :: bs.drop (bs.length - 1 - i + 1) := List.drop_eq_getElem_cons hj
  rw [show bs.length - (i + 1) = bs.length - 1 - i by omega, e, show bs.length - 1 - i + 1 = bs.length - i by omega, Option.some.inj h]
  rfl
/-! ### signed numbers -/
def sgn (w : Nat) (x : Int) : Int := if x / 2 ^ (w - 1) = 1 then x - 2 ^ w else x
theorem sgn_mod (w : Nat) (x : Int) : ∃ k : Int, sgn w x = x + 2 ^ w * k := by
  unfold sgn
  split
  · exact ⟨-1, by omega⟩
  · exact ⟨0, by omega⟩
/-! ### a quotient, bit by bit -/
theorem quot_step {N y b : Int} (hy : 0 < y) (hb : b = 0 ∨ b = 1) :
    (2 * N + b) / y = 2 * (N / y) + (if y ≤ 2 * (N % y) + b then 1 else 0) ∧ (2 * N + b) % y = (if y ≤ 2 * (N % y) + b then 2 * (N % y) + b - y else 2 * (N % y) + b) := by
  have e1 := Int.emod_add_mul_ediv N y
  have l1 := Int.emod_nonneg N (Int.ne_of_gt hy)
  have l2 := Int.emod_lt_of_pos N hy
  have e2 : y * (2 * (N / y)) = 2 * (y * (N / y)) := by rw [← Int.mul_assoc, Int.mul_comm y 2, Int.mul_assoc]
  have e3 : y * (2 * (N / y) + 1) = 2 * (y * (N / y)) + y := by rw [Int.mul_add, e2, Int.mul_one]
  split
  · refine divmod_of hy ?_ (by omega) (by omega)
    omega
  · have e4 : y * (2 * (N / y) + 0) = 2 * (y * (N / y)) := by rw [Int.add_zero, e2]
    refine divmod_of hy ?_ (by omega) (by omega)
    omega
theorem half_bit (x : Int) (k : Nat) : x / 2 ^ k = 2 * (x / 2 ^ (k + 1)) + x / 2 ^ k % 2 := by
  have e := div_div x k 1
  rw [show (2 : Int) ^ 1 = 2 from rfl] at e
  rw [← e]
  omega
/-! ### carries -/
def carry (x y c : Int) (i : Nat) : Int := (x % 2 ^ i + y % 2 ^ i + c) / 2 ^ i
def cars (n : Nat) (x y c : Int) : List Int := (List.range (n + 1)).map (carry x y c)
theorem cars_length (n : Nat) (x y c : Int) : (cars n x y c).length = n + 1 := by simp [cars]
theorem cars_get {n : Nat} {x y c : Int} {i : Nat} (h : i ≤ n) : (cars n x y c)[i]? = some (carry x y c i) := by
  unfold cars
  rw [List.getElem?_map, List.getElem?_range (by omega)]
  rfl
theorem cars_snoc (n : Nat) (x y c : Int) : cars (n + 1) x y c = cars n x y c ++ [carry x y c (n + 1)] := by
  unfold cars
  rw [List.range_succ, List.map_append]
  rfl
theorem carry_zero (x y c : Int) : carry x y c 0 = c := by simp [carry, Int.emod_one]
theorem carry_range {x y c : Int} (h0 : 0 ≤ c) (h1 : c ≤ 1) (i : Nat) : 0 ≤ carry x y c i ∧ carry x y c i ≤ 1 := by
  have hd := two_pos i
  have a0 := Int.emod_nonneg x (Int.ne_of_gt hd)
  have a1 := Int.emod_lt_of_pos x hd
  have b0 := Int.emod_nonneg y (Int.ne_of_gt hd)
  have b1 := Int.emod_lt_of_pos y hd
  unfold carry
  constructor
  · exact Int.ediv_nonneg (by omega) (Int.le_of_lt hd)
  · have := Int.ediv_lt_of_lt_mul (a := x % 2 ^ i + y % 2 ^ i + c) (b := 2) (c := 2 ^ i) hd (by omega)
    omega
theorem carry_succ (x y c : Int) (i : Nat) : carry x y c (i + 1) = (x / 2 ^ i % 2 + y / 2 ^ i % 2 + carry x y c i) / 2 := by
  have hd := two_pos i
  unfold carry
  rw [mod_succ x i, mod_succ y i, two_succ, Int.mul_comm 2, ← Int.ediv_ediv_of_nonneg (Int.le_of_lt hd)]
  have e : x % 2 ^ i + 2 ^ i * (x / 2 ^ i % 2) + (y % 2 ^ i + 2 ^ i * (y / 2 ^ i % 2)) + c = x % 2 ^ i + y % 2 ^ i + c + 2 ^ i * (x / 2 ^ i % 2 + y / 2 ^ i % 2) := by
    rw [Int.mul_add]
    omega
  rw [e, Int.add_mul_ediv_left _ _ (Int.ne_of_gt hd)]
  congr 1
  omega
theorem sum_bit (x y c : Int) (i : Nat) : (x + y + c) / 2 ^ i % 2 = (x / 2 ^ i % 2 + y / 2 ^ i % 2 + carry x y c i) % 2 := by
  have hd := two_pos i
  have e1 := Int.emod_add_mul_ediv x (2 ^ i)
  have e2 := Int.emod_add_mul_ediv y (2 ^ i)
  have e : x + y + c = x % 2 ^ i + y % 2 ^ i + c + 2 ^ i * (x / 2 ^ i + y / 2 ^ i) := by
    rw [Int.mul_add]
    omega
  unfold carry
  rw [e, Int.add_mul_ediv_left _ _ (Int.ne_of_gt hd)]
  omega
theorem carry_last {n : Nat} {x y c : Int} (hx0 : 0 ≤ x) (hx : x < 2 ^ n) (hy0 : 0 ≤ y) (hy : y < 2 ^ n) : carry x y c n = (x + y + c) / 2 ^ n := by
  unfold carry
  rw [mod_small hx0 hx, mod_small hy0 hy]
theorem half_int (b : Int) (h0 : 0 ≤ b) (h1 : b ≤ 3) : (if b > 1 then (1 : Int) else 0) = b / 2 := by
  split <;> omega
/-! ### signed numbers, once more -/
theorem sgn_eq {n : Nat} {x : Int} (hn : 1 ≤ n) (h0 : 0 ≤ x) (h1 : x < 2 ^ n) : sgn n x = if 2 ^ (n - 1) ≤ x then x - 2 ^ n else x := by
  have hd := two_pos (n - 1)
  have e : (2 : Int) ^ n = 2 * 2 ^ (n - 1) := by rw [← two_succ, Nat.sub_add_cancel hn]
  unfold sgn
  by_cases h : 2 ^ (n - 1) ≤ x
  · rw [if_pos h, if_pos]
    exact (divmod_of (q := 1) (r := x - 2 ^ (n - 1)) hd (by omega) (by omega) (by omega)).1
  · rw [if_neg h, if_neg]
    rw [Int.ediv_eq_zero_of_lt h0 (by omega)]
    decide
theorem sgn_less {n : Nat} {x y : Int} (hn : 1 ≤ n) (hx0 : 0 ≤ x) (hx : x < 2 ^ n) (hy0 : 0 ≤ y) (hy : y < 2 ^ n) : (sgn n x < sgn n y) ↔ (x + 2 ^ (n - 1)) % 2 ^ n < (y + 2 ^ (n - 1)) % 2 ^ n := by
  have hd := two_pos (n - 1)
  have e : (2 : Int) ^ n = 2 * 2 ^ (n - 1) := by rw [← two_succ, Nat.sub_add_cancel hn]
  have m : ∀ {z : Int}, 0 ≤ z → z < 2 ^ n → (z + 2 ^ (n - 1)) % 2 ^ n = if 2 ^ (n - 1) ≤ z then z - 2 ^ (n - 1) else z + 2 ^ (n - 1) := fun {z} z0 z1 => by
    split
    · exact (divmod_of (q := 1) (by omega) (by omega) (by omega) (by omega)).2
    · exact Int.emod_eq_of_lt (by omega) (by omega)
  rw [sgn_eq hn hx0 hx, sgn_eq hn hy0 hy, m hx0 hx, m hy0 hy]
  split <;> split <;> omega
theorem sgn_bound {n : Nat} {x : Int} (hn : n ≤ 32) (h0 : 0 ≤ x) (h1 : x < 2 ^ n) : (sgn n x).natAbs < 2 ^ 33 := by
  have hb := two32 hn
  have hp := two_pos n
  unfold sgn
  split <;> omega
theorem sgn_mul {n : Nat} {x y : Int} : (sgn n x * sgn n y) % 2 ^ n = x * y % 2 ^ n := by
  obtain ⟨k, e1⟩ := sgn_mod n x
  obtain ⟨l, e2⟩ := sgn_mod n y
  rw [e1, e2, Int.mul_emod, Int.add_mul_emod_self_left, Int.add_mul_emod_self_left, ← Int.mul_emod]
theorem sgn_add {n : Nat} {x y c : Int} : (sgn n x + sgn n y + c) % 2 ^ n = (x + y + c) % 2 ^ n := by
  obtain ⟨k, e1⟩ := sgn_mod n x
  obtain ⟨l, e2⟩ := sgn_mod n y
  have e : sgn n x + sgn n y + c = x + y + c + 2 ^ n * (k + l) := by
    rw [e1, e2, Int.mul_add]
    omega
  rw [e, Int.add_mul_emod_self_left]
/-- the difference, as a sum -/
theorem less_sum {n : Nat} {x y : Int} (hx0 : 0 ≤ x) (hx : x < 2 ^ n) (hy0 : 0 ≤ y) (hy : y < 2 ^ n) :
    (x + (2 ^ n - 1 - y) + 1) % 2 ^ n = (x - y) % 2 ^ n ∧ (x + (2 ^ n - 1 - y) + 1) / 2 ^ n = if y ≤ x then 1 else 0 := by
  have hd := two_pos n
  have e : x + (2 ^ n - 1 - y) + 1 = x - y + 2 ^ n * 1 := by omega
  refine ⟨by rw [e, Int.add_mul_emod_self_left], ?_⟩
  split
  · exact (divmod_of (r := x - y) hd (by omega) (by omega) (by omega)).1
  · exact Int.ediv_eq_zero_of_lt (by omega) (by omega)
/-! ### bits put together -/
theorem mod_add (x : Int) (a b : Nat) : x % 2 ^ (a + b) = x % 2 ^ a + 2 ^ a * (x / 2 ^ a % 2 ^ b) := by
  induction b with
  | zero => rw [Nat.add_zero, Int.pow_zero, Int.emod_one]; omega
  | succ b ih =>
    rw [← Nat.add_assoc, mod_succ x (a + b), ih, mod_succ (x / 2 ^ a) b, div_div, Int.mul_add, two_add, Int.mul_assoc]
    omega
theorem ofBits_append : ∀ (a b : List Int), ofBits (a ++ b) = ofBits a + 2 ^ a.length * ofBits b
  | [], b => by simp [ofBits]
  | x :: r, b => by
    show 2 * ofBits (r ++ b) + x = 2 * ofBits r + x + 2 ^ (r.length + 1) * ofBits b
    rw [ofBits_append r b, two_succ, Int.mul_add, Int.mul_assoc]
    omega
theorem ofBits_same (k : Nat) (t : Int) : ofBits (List.replicate k t) = t * (2 ^ k - 1) := by
  induction k with
  | zero => simp [ofBits]
  | succ k ih =>
    show 2 * ofBits (List.replicate k t) + t = t * (2 ^ (k + 1) - 1)
    rw [ih, two_succ, Int.mul_sub, Int.mul_sub, Int.mul_sub, Int.mul_one, ← Int.mul_assoc t 2, Int.mul_comm t 2, Int.mul_assoc 2 t]
    generalize t * 2 ^ k = u
    omega
theorem sgn_fit {m : Nat} {s : Int} (hm : 1 ≤ m) (h0 : -(2 ^ (m - 1)) ≤ s) (h1 : s < 2 ^ (m - 1)) : sgn m (s % 2 ^ m) = s := by
  have hd := two_pos (m - 1)
  have e : (2 : Int) ^ m = 2 * 2 ^ (m - 1) := by rw [← two_succ, Nat.sub_add_cancel hm]
  have hp := two_pos m
  rw [sgn_eq hm (Int.emod_nonneg _ (by omega)) (Int.emod_lt_of_pos _ hp)]
  by_cases h : 0 ≤ s
  · rw [Int.emod_eq_of_lt h (by omega), if_neg (by omega)]
  · have e2 : s % 2 ^ m = s + 2 ^ m := (divmod_of (q := -1) hp (by omega) (by omega) (by omega)).2
    rw [e2, if_pos (by omega)]
    omega
theorem sgn_range {n : Nat} {x : Int} (hn : 1 ≤ n) (h0 : 0 ≤ x) (h1 : x < 2 ^ n) : -(2 ^ (n - 1)) ≤ sgn n x ∧ sgn n x < 2 ^ (n - 1) := by
  have hd := two_pos (n - 1)
  have e : (2 : Int) ^ n = 2 * 2 ^ (n - 1) := by rw [← two_succ, Nat.sub_add_cancel hn]
  rw [sgn_eq hn h0 h1]
  split <;> omega
/-- lengthened: the top bit ahead -/
theorem ofBits_long {n : Nat} {x : Int} (k : Nat) (hn : 1 ≤ n) (h0 : 0 ≤ x) (h1 : x < 2 ^ n) :
    ofBits (bitsI n x ++ List.replicate k (x / 2 ^ (n - 1) % 2)) = sgn n x % 2 ^ (n + k) := by
  have hd := two_pos (n - 1)
  have e : (2 : Int) ^ n = 2 * 2 ^ (n - 1) := by rw [← two_succ, Nat.sub_add_cancel hn]
  have hp := two_pos n
  have hk := two_pos k
  have e2 := two_add n k
  have hk1 : (1 : Int) ≤ 2 ^ k := hk
  have hle : (2 : Int) ^ n * 1 ≤ 2 ^ n * 2 ^ k := Int.mul_le_mul_of_nonneg_left hk1 (Int.le_of_lt hp)
  rw [ofBits_append, ofBits_bitsI, mod_small h0 h1, bitsI_length, ofBits_same, sgn_eq hn h0 h1]
  by_cases h : 2 ^ (n - 1) ≤ x
  · have q := (divmod_of (a := x) (q := 1) (r := x - 2 ^ (n - 1)) hd (by omega) (by omega) (by omega)).1
    rw [if_pos h, q]
    show x + 2 ^ n * (1 * (2 ^ k - 1)) = (x - 2 ^ n) % 2 ^ (n + k)
    refine ((divmod_of (q := -1) (two_pos _) ?_ ?_ ?_).2).symm
    · rw [Int.one_mul, Int.mul_sub, ← e2]
      omega
    · rw [Int.one_mul, Int.mul_sub, ← e2]
      omega
    · rw [Int.one_mul, Int.mul_sub, ← e2]
      omega
  · have q : x / 2 ^ (n - 1) = 0 := Int.ediv_eq_zero_of_lt h0 (by omega)
    rw [if_neg h, q]
    show x + 2 ^ n * (0 * (2 ^ k - 1)) = x % 2 ^ (n + k)
    rw [Int.zero_mul, Int.mul_zero, Int.add_zero, Int.emod_eq_of_lt h0 (by omega)]
theorem sgn_low {n : Nat} {x : Int} (k : Nat) (h0 : 0 ≤ x) (h1 : x < 2 ^ n) : sgn n x % 2 ^ (n + k) % 2 ^ n = x := by
  rw [two_add, Int.emod_emod_of_dvd _ ⟨2 ^ k, rfl⟩]
  obtain ⟨j, e⟩ := sgn_mod n x
  rw [e, Int.add_mul_emod_self_left, mod_small h0 h1]
end TB
namespace TB
open PySem PySem.Spec PyProof.Rows L2
/-! ### where a def of the text stands; a module's constant -/
structure DefAt (K : PySem.W.Frag) (mg : Str → Option Value) (x : Str) (st : Stmt) (ps : List Str) where
  f : Addr
  fd : FuncData
  F : Fun K x x st f fd
  b : Binds K fd ps []
  g : mg x = some (.ref f)
structure ConAt (mg : Str → Option Value) (x : Str) (v : V) where
  u : Value
  g : mg x = some u
  r : RelV v u
def defAt {K : PySem.W.Frag} {h : Heap} {mg : Str → Option Value} {x : Str} {st : Stmt} {ps : List Str} (X : K.In h) (G : h.Ns mainGlobals mg) {f : Addr} {od an : Option Addr} {sl : Array (Option Value)} {oc kV dc pm cd ct : Value}
    (a : PySem.W.nsIn K mainGlobals x = some (some (.ref f))) (l : K.lookup f = some ⟨oc, od, .func (PySem.W.fnOf x x (defArgs st) (defBody st) (defScope st) .none kV dc pm an cd ct), sl⟩) (c : PySem.W.codeIn K cd x = true) (k : PySem.W.keepIn K (.ref f) = true)
    (hb : ∀ (kV doc pm : Value) (an : Option Addr) (cdv ct : Value) (us : List Value), us.length = ps.length → bindArgs (PySem.W.fnOf x x (defArgs st) (defBody st) (defScope st) .none kV doc pm an cdv ct) ⟨us, []⟩ = pure (ps.zip us)) : DefAt K mg x st ps :=
  ⟨f, _, fun_mk l c k, (fun_mk l c k).binds hb, PySem.W.mg_of X G a⟩

/-- a def with keyword-only parameters at its end, each with a default -/
structure DefKw (K : PySem.W.Frag) (mg : Str → Option Value) (x : Str) (st : Stmt) (ps : List Str) (n : Nat) (kws : List (Str × V)) where
  f : Addr
  fd : FuncData
  F : Fun K x x st f fd
  ds : List Value
  dv : Vals (kws.map (·.2)) ds
  b : Binds K fd ps ds
  kb : KBn K fd ps n (kws.map (·.1)) (fun us ws => us ++ ws) (fun vs zs => vs ++ zs)
  g : mg x = some (.ref f)
theorem defKw {K : PySem.W.Frag} {h : Heap} {mg : Str → Option Value} {x : Str} {st : Stmt} {ps : List Str} {n : Nat} {y : Str} {i : Int} {tk : Tok} (X : K.In h) (G : h.Ns mainGlobals mg) {f D : Addr} {od an : Option Addr} {sl : Array (Option Value)} {oc dc pm cd ct : Value}
    (a : PySem.W.nsIn K mainGlobals x = some (some (.ref f))) (l : K.lookup f = some ⟨oc, od, .func (PySem.W.fnOf x x (defArgs st) (defBody st) (defScope st) .none (.ref D) dc pm an cd ct), sl⟩) (c : PySem.W.codeIn K cd x = true) (k : PySem.W.keepIn K (.ref f) = true)
    (kd : PySem.W.nsIn K D y = some (some (.int i tk))) (hn : n + 1 = ps.length)
    (h1 : ∀ (D : Addr) (doc pm : Value) (an : Option Addr) (cdv ct : Value) (us ks : List Value), us.length = n → ks.length = 1 →
      KwChain D ([y].zip ks) (bindArgs (PySem.W.fnOf x x (defArgs st) (defBody st) (defScope st) .none (.ref D) doc pm an cdv ct) ⟨us, []⟩) (ps.zip (us ++ ks)))
    (h2 : ∀ (D : Addr) (doc pm : Value) (an : Option Addr) (cdv ct : Value) (us ks : List Value), us.length = n → ks.length = 1 →
      bindArgs (PySem.W.fnOf x x (defArgs st) (defBody st) (defScope st) .none (.ref D) doc pm an cdv ct) ⟨us, [y].zip ks⟩ = pure (ps.zip (us ++ ks))) : Nonempty (DefKw K mg x st ps n [(y, .int i)]) := by
  have FD : FunD K x x (defArgs st) (defBody st) (defScope st) [] [(y, .int i)] f (PySem.W.fnOf x x (defArgs st) (defBody st) (defScope st) .none (.ref D) dc pm an cd ct) :=
    ⟨⟨oc, od, .none, .ref D, dc, pm, an, cd, ct, sl, rfl, l, c, .inl ⟨rfl, rfl⟩, .inr ⟨D, rfl, fun q hq => by
      rcases List.mem_cons.mp hq with e | hq
      · rw [e]
        exact ⟨_, kd, _, rfl⟩
      · cases hq⟩⟩, k⟩
  obtain ⟨ds, dv, b⟩ := FD.binds0 n (by simp) hn fun D doc pm an cdv ct us ks l1 l2 => h1 D doc pm an cdv ct us ks l1 l2
  exact ⟨⟨f, _, fun_mk l c k, ds, dv, b, ⟨fun s us ws X l1 l2 => .of_eq (h2 D dc pm an cd ct us ws l1 l2), fun r1 r2 => r1.append r2⟩, PySem.W.mg_of X G a⟩⟩

/-! ### heaps -/
theorem same_new {H : Hp} {p : Addr} {o : HO} (h : H p = none) : Same H (upd H p o) := fun b x e => by
  rw [upd_ne (ne_of_none e h)]
  exact e
theorem seqT_same {K : PySem.W.Frag} {H H' : Hp} {a : Addr} {xs : List V} (e : Same H H') (h : SqT K H a xs) : SqT K H' a xs := by
  rcases h with (h | ⟨o, h⟩) | h
  · exact .inl (.inl (e _ _ h))
  · exact .inl (.inr ⟨o, e _ _ h⟩)
  · exact .inr h
theorem upd_comm {H : Hp} {a b : Addr} {o u : HO} (h : a ≠ b) : upd (upd H a o) b u = upd (upd H b u) a o := by
  funext c
  unfold upd
  by_cases h1 : c = b
  · subst h1
    rw [if_pos rfl, if_neg (Ne.symm h), if_pos rfl]
  · by_cases h2 : c = a
    · subst h2
      rw [if_neg h1, if_pos rfl, if_pos rfl]
    · rw [if_neg h1, if_neg h2, if_neg h2, if_neg h1]
/-! ### the dice: a list of three ints -/
abbrev dl (x y z : Int) : HO := .lst [.int x, .int y, .int z]
def Dice (H : Hp) (d : Addr) : Prop := ∃ x y z : Int, H d = some (dl x y z)
/-- all but the dice stays -/
structure Ext (d : Addr) (H H' : Hp) : Prop where
  s : ∀ b o, b ≠ d → H b = some o → H' b = some o
  d : Dice H' d
theorem Ext.refl {d : Addr} {H : Hp} (h : Dice H d) : Ext d H H := ⟨fun _ _ _ e => e, h⟩
theorem Ext.trans {d : Addr} {H H1 H2 : Hp} (a : Ext d H H1) (b : Ext d H1 H2) : Ext d H H2 := ⟨fun c o n e => b.s c o n (a.s c o n e), b.d⟩
theorem Ext.same {d : Addr} {H H1 H2 : Hp} (a : Ext d H H1) (b : Same H1 H2) : Ext d H H2 := ⟨fun c o n e => b c o (a.s c o n e), let ⟨x, y, z, e⟩ := a.d; ⟨x, y, z, b _ _ e⟩⟩
theorem Dice.same {d : Addr} {H H1 : Hp} (a : Dice H d) (b : Same H H1) : Dice H1 d := let ⟨x, y, z, e⟩ := a; ⟨x, y, z, b _ _ e⟩
theorem Dice.ne {d p : Addr} {H : Hp} (a : Dice H d) (h : H p = none) : p ≠ d := fun e => by
  obtain ⟨x, y, z, q⟩ := a
  rw [e, q] at h
  cases h
theorem Dice.neT {d p : Addr} {H : Hp} {xs : List V} (a : Dice H d) (h : H p = some (.tup xs)) : p ≠ d := fun e => by
  obtain ⟨x, y, z, q⟩ := a
  rw [e, q] at h
  cases h
theorem Ext.of {d : Addr} {H H' : Hp} (a : Dice H d) (b : Same H H') : Ext d H H' := (Ext.refl a).same b
theorem Ext.new {d p : Addr} {H : Hp} {o : HO} (a : Dice H d) (h : H p = none) : Ext d H (upd H p o) := .of a (same_new h)
theorem Ext.roll {d : Addr} {H : Hp} {x y z : Int} : Ext d H (upd H d (dl x y z)) := ⟨fun b o n e => by rw [upd_ne n]; exact e, x, y, z, upd_same⟩
theorem Ext.seqT {K : PySem.W.Frag} {d a : Addr} {H H' : Hp} {xs : List V} (e : Ext d H H') (hd : Dice H d) (h : SqT K H a xs) : SqT K H' a xs := by
  rcases h with (h | ⟨o, h⟩) | h
  · exact .inl (.inl (e.s _ _ (hd.neT h) h))
  · refine .inl (.inr ⟨o, e.s _ _ (fun z => ?_) h⟩)
    obtain ⟨x, y, w, q⟩ := hd
    rw [z, q] at h
    cases h
  · exact .inr h
theorem Ext.free {d p : Addr} {H H' : Hp} (e : Ext d H H') (hd : Dice H d) (h : H' p = none) : H p = none := by
  cases q : H p with
  | none => rfl
  | some o =>
    have n : p ≠ d := fun z => by
      obtain ⟨x, y, w, r⟩ := e.d
      rw [z, r] at h
      cases h
    rw [e.s _ _ n q] at h
    cases h
/-! ### all but one object stays -/
def But (l : Addr) (H H' : Hp) : Prop := ∀ b o, b ≠ l → H b = some o → H' b = some o
theorem But.refl (l : Addr) (H : Hp) : But l H H := fun _ _ _ e => e
theorem But.trans {l : Addr} {H H1 H2 : Hp} (a : But l H H1) (b : But l H1 H2) : But l H H2 := fun c o n e => b c o n (a c o n e)
theorem But.same {l : Addr} {H H1 H2 : Hp} (a : But l H H1) (b : Same H1 H2) : But l H H2 := fun c o n e => b c o (a c o n e)
theorem But.of {l : Addr} {H H1 : Hp} (b : Same H H1) : But l H H1 := fun c o _ e => b c o e
theorem But.mut {l : Addr} {H : Hp} {o : HO} : But l H (upd H l o) := fun c u n e => by
  rw [upd_ne n]
  exact e
/-- what stood ahead of the object's making -/
theorem But.back {l : Addr} {H0 H H' : Hp} {o : HO} (hn : H0 l = none) (s : Same (upd H0 l o) H) (a : But l H H') : Same H0 H' := fun c u e => by
  have n : c ≠ l := ne_of_none e hn
  exact a c u n (s c u (by rw [upd_ne n]; exact e))
theorem Ext.but {d : Addr} {H H' : Hp} (a : Ext d H H') : But d H H' := a.s
theorem But.seqT {K : PySem.W.Frag} {l a : Addr} {H H' : Hp} {xs ys : List V} (e : But l H H') (hl : H l = some (.lst ys)) (h : SqT K H a xs) : SqT K H' a xs := by
  rcases h with (h | ⟨o, h⟩) | h
  · exact .inl (.inl (e _ _ (ne_of h hl (by intro z; cases z)) h))
  · exact .inl (.inr ⟨o, e _ _ (ne_of h hl (by intro z; cases z)) h⟩)
  · exact .inr h
/-! ### a new object, its heap by a letter -/
theorem nw {H : Hp} {o : HO} {Q : V → Hp → Prop} (h : ∀ p H', Same H H' → H' p = some o → H p = none → Q (.ref p) H') : ∀ p, H p = none → Q (.ref p) (upd H p o) := fun p np => h p _ (same_new np) upd_same np
/-! ### rows of whole numbers as data -/
theorem dpI {K : PySem.W.Frag} {H : Hp} : ∀ ns : List Int, DpAll K H (ns.map V.int) (ns.map PyData.int)
  | [] => .nil
  | n :: r => .cons (.int n) (dpI r)
theorem canI : ∀ ns : List Int, PyData.canLayAll0 (ns.map PyData.int) = true
  | [] => rfl
  | n :: r => by
    show (PyData.canLay0 (.int n) && PyData.canLayAll0 (r.map PyData.int)) = true
    rw [canI r]
    rfl
theorem depthI : ∀ ns : List Int, PyData.depthAll (ns.map PyData.int) ≤ 1
  | [] => by decide
  | n :: r => by
    have := depthI r
    show max (PyData.depth (.int n)) (PyData.depthAll (r.map PyData.int)) ≤ 1
    have e : PyData.depth (.int n) = 0 := rfl
    omega
theorem shT (ns : List Int) : SeqAt.shaped (.tuple (ns.map PyData.int)) = true := by
  unfold SeqAt.shaped
  have e : PyData.canLay0 (.tuple (ns.map PyData.int)) = true := canI ns
  have d : PyData.depth (.tuple (ns.map PyData.int)) = PyData.depthAll (ns.map PyData.int) + 1 := rfl
  have := depthI ns
  rw [e, d, decide_eq_true (by omega)]
  rfl
theorem shL (ns : List Int) : SeqAt.shaped (.list (ns.map PyData.int)) = true := by
  unfold SeqAt.shaped
  have e : PyData.canLay0 (.list (ns.map PyData.int)) = true := canI ns
  have d : PyData.depth (.list (ns.map PyData.int)) = PyData.depthAll (ns.map PyData.int) + 1 := rfl
  have := depthI ns
  rw [e, d, decide_eq_true (by omega)]
  rfl
theorem eqvR {d : PyData} (h : SeqAt.shaped d = true) : PyData.eqv d d = true := SeqAt.eqv_refl d (SeqAt.canLay_of_shaped h)
theorem dp2 {K : PySem.W.Frag} {H : Hp} {a : Addr} {x y : Int} (h : SqT K H a [.int x, .int y]) : Dp K H (.ref a) (.tuple [.int x, .int y]) := .tup h (.cons (.int x) (.cons (.int y) .nil))
theorem eqv2 {x y x' y' : Int} (h1 : x = x') (h2 : y = y') : PyData.eqv (.tuple [.int x, .int y]) (.tuple [.int x', .int y']) = true := by
  subst h1 h2
  exact SeqAt.eqv_refl _ rfl
theorem neqv2 {x y x' y' : Int} (h1 : x = x') (h2 : y = y') : (!PyData.eqv (.tuple [.int x, .int y]) (.tuple [.int x', .int y'])) = false := by
  rw [eqv2 h1 h2]
  rfl
theorem neqvR {d : PyData} (h : SeqAt.shaped d = true) : (!PyData.eqv d d) = false := by
  rw [eqvR h]
  rfl
/-! ### tests -/
theorem iteB {A B : Prop} {b : Bool} (h : b = true) (q : A) : if b = true then A else B := by
  rw [h]
  exact iteT q
theorem iteBF {A B : Prop} {b : Bool} (h : b = false) (q : B) : if b = true then A else B := by
  rw [h]
  exact iteF q
theorem iteN {A B : Prop} {b : Bool} (h : b = true) (q : B) : if (!b) = true then A else B := by
  rw [h]
  exact iteF q
theorem iteNF {A B : Prop} {b : Bool} (h : b = false) (q : A) : if (!b) = true then A else B := by
  rw [h]
  exact iteT q
theorem ite3 {A B : Prop} {b : Bool} (h1 : b = true → A) (h2 : b = false → B) : if b = true then A else B := by
  cases b with
  | true => exact iteT (h1 rfl)
  | false => exact iteF (h2 rfl)
theorem neF {x y : V} (h : x = y) : (!decide (x = y)) = false := by
  rw [decide_eq_true h]
  rfl
theorem neT {x y : V} (h : x ≠ y) : (!decide (x = y)) = true := by
  rw [decide_eq_false h]
  rfl
theorem neFI {i j : Int} (h : i = j) : (!decide (V.int i = V.int j)) = false := neF (congrArg V.int h)
theorem eqTI {i j : Int} (h : i = j) : decide (V.int i = V.int j) = true := decide_eq_true (congrArg V.int h)
theorem eqFI {i j : Int} (h : i ≠ j) : decide (V.int i = V.int j) = false := decide_eq_false fun z => h (V.int.inj z)
theorem neTI {i j : Int} (h : i ≠ j) : (!decide (V.int i = V.int j)) = true := neT fun z => h (V.int.inj z)
/-! ### written numbers, sizes -/
theorem p0 {c : Int} (h : decide (0 < c) = true := by rfl) : 0 < c := of_decide_eq_true h
theorem cdiv {i j : Int} (h : decide (0 < j ∧ j < 1073741824) = true := by rfl) : CDiv i j := show 0 < j ∧ j < 1073741824 from of_decide_eq_true h
theorem cmulL {i j : Int} (h : decide (-(2 ^ 64) < i ∧ i < 2 ^ 64) = true := by rfl) : CMul i j := .inl (of_decide_eq_true h)
theorem cmulR {i j : Int} (h : decide (-(2 ^ 64) < j ∧ j < 2 ^ 64) = true := by rfl) : CMul i j := .inr (of_decide_eq_true h)
theorem sz {α : Type} {xs : List α} {n : Nat} (h : xs.length = n := by rfl) (h2 : decide (n ≤ 100000) = true := by rfl) : xs.length ≤ sizeLine := by
  rw [h]
  have := of_decide_eq_true h2
  rw [sizeLine_eq]
  omega
theorem szl {n : Nat} (h : n ≤ 100000) : n ≤ sizeLine := by
  rw [sizeLine_eq]
  omega
theorem szlt {n : Nat} (h : n ≤ 100000) : n < sizeLine := by
  rw [sizeLine_eq]
  omega
/-! ### slices -/
theorem cut_to (xs : List V) (k : Nat) : cutV xs none (some (k : Int)) = xs.take k := by
  unfold cutV
  rw [HT.sIx_nat, HT.sIx_none, List.drop_zero, Nat.sub_zero]
  by_cases h : k ≤ xs.length
  · rw [Nat.min_eq_left h]
  · rw [Nat.min_eq_right (by omega), List.take_length, List.take_of_length_le (by omega)]
theorem cut_from (xs : List V) (k : Nat) : cutV xs (some (k : Int)) none = xs.drop k := by
  unfold cutV
  rw [HT.sIx_nat, HT.sIx_none]
  by_cases h : k ≤ xs.length
  · rw [Nat.min_eq_left h, List.take_of_length_le (by rw [List.length_drop]; omega)]
  · rw [Nat.min_eq_right (by omega), List.drop_length, List.drop_of_length_le (by omega), List.take_nil]
theorem cut_mid (xs : List V) (a b : Nat) (h : a + b ≤ xs.length) : cutV xs (some (a : Int)) (some ((a : Int) + (b : Int))) = (xs.drop a).take b := by
  unfold cutV
  have e : (a : Int) + (b : Int) = ((a + b : Nat) : Int) := by omega
  rw [e, HT.sIx_nat, HT.sIx_nat, Nat.min_eq_left h, Nat.min_eq_left (show a ≤ xs.length by omega), Nat.add_sub_cancel_left]
/-! ### loops -/
/-- for .. in range(n), the turn's number a Nat -/
theorem for_rangeN {n : Nat} {g : TG} {tb : TS} {D : Ends} {σ : L2.St} {H : Hp} (Pv : Nat → L2.St → Hp → Prop) (h0 : Pv 0 σ H)
    (hs : ∀ i σ H, i < n → Pv i σ H → g (.int (i : Int)) σ H fun σ2 H2 => tb { D with nx := Pv (i + 1), ct := Pv (i + 1), bk := D.nx } σ2 H2) (hd : ∀ σ H, Pv n σ H → D.nx σ H) :
    ∃ W : Nat → Nat → L2.St → Hp → Prop, (∃ m, W 0 m σ H) ∧ ∀ i m σ H, W i m σ H → ((Itr 0 n).stop i H ∧ D.nx σ H) ∨ ((Itr 0 n).go i H ∧ ∃ N : L2.St → Hp → Prop, (∀ σ' H', N σ' H' → ∃ m', m' < m ∧ W (i + 1) m' σ' H') ∧ ∀ x H', (Itr 0 n).yld i H x H' → g x σ H' fun σ2 H2 => tb { D with nx := N, ct := N, bk := D.nx } σ2 H2) :=
  for_range (lo := 0) (n := n) Pv h0 (fun i σ H hi p => by
    have e0 : (0 : Int) + (i : Int) = (i : Int) := Int.zero_add _
    rw [e0]
    exact hs i σ H hi p) hd
/-- [.. for .. in range(n)], the turn's number a Nat -/
theorem lc_rangeN {n : Nat} {g : TG} {tt : TT} {te : TE} {vs : List Nat} {σ : L2.St} {H1 : Hp} {D : Addr} {Qd : Hp → Prop} (Pv : Nat → Hp → Prop) (h0 : Pv 0 (upd H1 D (.lst [])))
    (hs : ∀ i H, i < n → Pv i H → g (.int (i : Int)) (wipe σ vs) H fun σ2 H2 => wipe σ2 vs = wipe σ vs ∧ tt σ2 H2 fun b H3 =>
      if b = true then te σ2 H3 fun y H4 => ∃ acc, H4 D = some (.lst acc) ∧ acc.length < sizeLine ∧ Pv (i + 1) (upd H4 D (.lst (acc ++ [y]))) else Pv (i + 1) H3) (hd : ∀ H, Pv n H → Qd H) :
    ∃ W : Nat → Nat → Hp → Prop, (∃ m, W 0 m (upd H1 D (.lst []))) ∧ ∀ i m H, W i m H →
      ((Itr 0 n).stop i H ∧ Qd H) ∨ ((Itr 0 n).go i H ∧ ∃ Nx : Hp → Prop, (∀ H', Nx H' → ∃ m', m' < m ∧ W (i + 1) m' H') ∧ ∀ x H', (Itr 0 n).yld i H x H' → g x (wipe σ vs) H' fun σ2 H2 => wipe σ2 vs = wipe σ vs ∧ tt σ2 H2 fun b H3 =>
        if b = true then te σ2 H3 fun y H4 => ∃ acc, H4 D = some (.lst acc) ∧ acc.length < sizeLine ∧ Nx (upd H4 D (.lst (acc ++ [y]))) else Nx H3) :=
  lc_range (lo := 0) (n := n) Pv h0 (fun i H hi p => by
    have e0 : (0 : Int) + (i : Int) = (i : Int) := Int.zero_add _
    rw [e0]
    exact hs i H hi p) hd
/-- for i, x in enumerate(xs) -/
theorem for_enumL {K : PySem.W.Frag} {a : Addr} {xs : List V} {g : TG} {tb : TS} {D : Ends} {σ : L2.St} {H : Hp} (Pv : Nat → L2.St → Hp → Prop) (h0 : Pv 0 σ H) (hq : ∀ i σ H, Pv i σ H → SqL K H a xs)
    (hs : ∀ (i : Nat) (x : V) (T : Addr) (σ : L2.St) (H : Hp), xs[i]? = some x → Pv i σ H → H T = none → g (.ref T) σ (upd H T (.tup [.int (i : Int), x])) fun σ2 H2 => tb { D with nx := Pv (i + 1), ct := Pv (i + 1), bk := D.nx } σ2 H2) (hd : ∀ σ H, Pv xs.length σ H → D.nx σ H) :
    ∃ W : Nat → Nat → L2.St → Hp → Prop, (∃ m, W 0 m σ H) ∧ ∀ i m σ H, W i m σ H → ((Ite K a).stop i H ∧ D.nx σ H) ∨ ((Ite K a).go i H ∧ ∃ N : L2.St → Hp → Prop, (∀ σ' H', N σ' H' → ∃ m', m' < m ∧ W (i + 1) m' σ' H') ∧ ∀ v H', (Ite K a).yld i H v H' → g v σ H' fun σ2 H2 => tb { D with nx := N, ct := N, bk := D.nx } σ2 H2) := by
  refine ⟨fun i m σ H => m = xs.length - i ∧ i ≤ xs.length ∧ Pv i σ H, ⟨xs.length, rfl, Nat.zero_le _, h0⟩, ?_⟩
  rintro i m σ H ⟨rfl, hi, p⟩
  have qx := hq i σ H p
  by_cases hlt : i < xs.length
  · have hx : xs[i]? = some xs[i] := List.getElem?_eq_getElem hlt
    refine .inr ⟨⟨xs, xs[i], qx, hx⟩, Pv (i + 1), fun σ' H' p' => ⟨xs.length - (i + 1), by omega, rfl, hlt, p'⟩, fun v H' y => ?_⟩
    obtain ⟨T, x, rfl, nT, rfl, f⟩ := y
    exact hs i x T σ H (f xs qx) p nT
  · have e : i = xs.length := by omega
    subst e
    exact .inl ⟨⟨xs, qx, Nat.le_refl _⟩, hd σ H p⟩
/-! ### powers of great ints -/
def CPowW (i j : Int) : Prop := 0 ≤ j ∧ (Builtin.Int.intBits i : Int) * j ≤ 2 ^ 27
theorem op_powW {X : Cx} : OpR X (binaryOp .Pow) (rI CPowW fun i j => .int (i ^ j.toNat)) := opI fun _ _ _ _ _ _ _ hc q => pow_int hc.1 hc.2 q
end TB
namespace TB
open PySem PySem.Spec PyProof.Rows L2
/-! ### a rule by a stronger reading -/
section
variable {X : Cx}
theorem PE_imp {e : Expr} {t t' : TE} (h : PE X e t) (hi : ∀ σ H Q, t' σ H Q → t σ H Q) : PE X e t' := ⟨fun pins s σ H Q I hw => h.run pins s σ H Q I (hi σ H Q hw)⟩
/-- what follows may be less -/
def clA (t : TA) : TA := fun σ H Q => ∃ R, t σ H R ∧ ∀ vs H', R vs H' → Q vs H'
def clE (t : TE) : TE := fun σ H Q => ∃ R, t σ H R ∧ ∀ v H', R v H' → Q v H'
theorem PA_cl {es : List Expr} {t : TA} (h : PA X es t) : PA X es (clA t) := ⟨fun pos pins s σ H Q I hw => by
  obtain ⟨R, h1, h2⟩ := hw
  exact thn (h.run pos pins s σ H R I h1) fun us s' ⟨vs, H', I', r, q⟩ => ⟨vs, H', I', r, h2 _ _ q⟩⟩
theorem PE_cl {e : Expr} {t : TE} (h : PE X e t) : PE X e (clE t) := ⟨fun pins s σ H Q I hw => by
  obtain ⟨R, h1, h2⟩ := hw
  exact thn (h.run pins s σ H R I h1) fun us s' ⟨v, H', I', r, q⟩ => ⟨v, H', I', r, h2 _ _ q⟩⟩
theorem OpR_imp {f : Value → Value → Sem Value} {r r' : R2} (h : OpR X f r) (hi : ∀ x y H Q, r' x y H Q → r x y H Q) : OpR X f r' := fun pins s σ H x y v u Q I rx ry hw => h pins s σ H x y v u Q I rx ry (hi _ _ _ _ hw)
theorem CallR_imp {f : Value} {r r' : List V → Hp → VK → Prop} (h : CallR X f r) (hi : ∀ xs H Q, r' xs H Q → r xs H Q) : CallR X f r' := fun pins s σ H xs us Q I rx hw => h pins s σ H xs us Q I rx (hi _ _ _ hw)
theorem SlR_imp {r r' : V → Option Int → Option Int → Hp → VK → Prop} (h : L2.SlR X r) (hi : ∀ x lo hi' H Q, r' x lo hi' H Q → r x lo hi' H Q) : L2.SlR X r' := fun pins s σ H x v vl vu lo hi' sl Q I rx hs pl pu hw => h pins s σ H x v vl vu lo hi' sl Q I rx hs pl pu (hi _ _ _ _ _ hw)
/-! ### new tuples, new lists -/
def NewT (K : PySem.W.Frag) (xs : List V) (H : Hp) (Q : VK) : Prop := ∀ p H', Same H H' → SqT K H' p xs → Q (.ref p) H'
def NewL (xs : List V) (H : Hp) (Q : VK) : Prop := ∀ p H', Same H H' → H' p = some (.lst xs) → H p = none → Q (.ref p) H'
theorem newT {K : PySem.W.Frag} {xs : List V} {H : Hp} {Q : VK} (h : NewT K xs H Q) : ∀ p, H p = none → Q (.ref p) (upd H p (.tup xs)) := fun p np => h p _ (same_new np) (SqT.of upd_same)
theorem newL {xs : List V} {H : Hp} {Q : VK} (h : NewL xs H Q) : ∀ p, H p = none → Q (.ref p) (upd H p (.lst xs)) := fun p np => h p _ (same_new np) upd_same np
def tTupA (K : PySem.W.Frag) (t : TA) : TE := fun σ H Q => t σ H fun xs H1 => xs.length ≤ sizeLine ∧ NewT K xs H1 Q
def tLstA (t : TA) : TE := fun σ H Q => t σ H fun xs H1 => xs.length ≤ sizeLine ∧ NewL xs H1 Q
theorem pe_tupA {es : List Expr} {t : TA} {x1} {pos : Pos} (h : PA X es t) : PE X (.Tuple es x1 pos) (tTupA X.K t) := PE_imp (pe_tup (PA_cl h)) fun σ H Q hw => ⟨_, hw, fun xs H1 z => ⟨z.1, newT z.2⟩⟩
theorem pe_lstA {es : List Expr} {t : TA} {pos : Pos} (h : PA X es t) : PE X (.List es pos) (tLstA t) := PE_imp (pe_lst (PA_cl h)) fun σ H Q hw => ⟨_, hw, fun xs H1 z => ⟨z.1, newL z.2⟩⟩
theorem call_tupleA : CallR X (.type "tuple") (fun xs H Q => ∃ p ys, xs = [.ref p] ∧ (SqL X.K H p ys ∨ SqT X.K H p ys) ∧ NewT X.K ys H Q) := CallR_imp call_tuple_of fun xs H Q ⟨p, ys, e, h, q⟩ => ⟨p, ys, e, by
  rcases h with h | h
  · exact .inl ⟨h, newT q⟩
  · exact .inr ⟨h, q p H (Same.refl H) h⟩⟩
theorem call_listA : CallR X (.type "list") (fun xs H Q => ∃ p ys, xs = [.ref p] ∧ (SqL X.K H p ys ∨ SqT X.K H p ys) ∧ NewL ys H Q) := CallR_imp call_list_of fun xs H Q ⟨p, ys, e, h, q⟩ => ⟨p, ys, e, h, newL q⟩
theorem sl_listA : L2.SlR X (fun x lo hi H Q => ∃ a xs, x = .ref a ∧ SqL X.K H a xs ∧ NewL (cutV xs lo hi) H Q) := SlR_imp sl_list fun x lo hi H Q ⟨a, xs, e, h, q⟩ => ⟨a, xs, e, h, newL q⟩
theorem sl_tupleA : L2.SlR X (fun x lo hi H Q => ∃ a xs, x = .ref a ∧ SqT X.K H a xs ∧ NewT X.K (cutV xs lo hi) H Q) := SlR_imp sl_tupA fun x lo hi H Q ⟨a, xs, e, h, q⟩ => ⟨a, xs, e, h, fun z => by
    have e : cutV xs lo hi = xs := by
      unfold cutV
      rw [z.1, z.2, List.drop_zero, Nat.sub_zero, List.take_length]
    exact q a H (Same.refl H) (by rw [e]; exact h), fun _ => newT q⟩
theorem op_catL : OpR X (binaryOp .Add) (fun x y H Q => ∃ l b xs zs, x = .ref l ∧ y = .ref b ∧ H l = some (.lst xs) ∧ H b = some (.lst zs) ∧ xs.length + zs.length ≤ sizeLine ∧ NewL (xs ++ zs) H Q) := OpR_imp op_cat fun x y H Q ⟨l, b, xs, zs, e1, e2, h1, h2, z, q⟩ => ⟨l, b, xs, zs, e1, e2, h1, h2, z, newL q⟩
theorem op_repL : OpR X (binaryOp .Mult) (fun x y H Q => ∃ l k xs, x = .ref l ∧ y = .int k ∧ H l = some (.lst xs) ∧ -(2 ^ 63) ≤ k ∧ k < 2 ^ 63 ∧ xs.length * k.toNat ≤ sizeLine ∧ NewL (List.replicate k.toNat xs).flatten H Q) := OpR_imp op_rep fun x y H Q ⟨l, k, xs, e1, e2, h1, h2, h3, z, q⟩ => ⟨l, k, xs, e1, e2, h1, h2, h3, z, newL q⟩
theorem op_catU : OpR X (binaryOp .Add) (fun x y H Q => ∃ a b xs ys, x = .ref a ∧ y = .ref b ∧ SqT X.K H a xs ∧ SqT X.K H b ys ∧ xs.length + ys.length ≤ sizeLine ∧ NewT X.K (xs ++ ys) H Q) := OpR_imp op_catA fun x y H Q ⟨a, b, xs, ys, e1, e2, h1, h2, z, q⟩ => ⟨a, b, xs, ys, e1, e2, h1, h2, z,
  (fun e => q b H (Same.refl H) (by rw [e]; exact h2)), (fun _ e => q a H (Same.refl H) (by rw [e, List.append_nil]; exact h1)), (fun _ _ => newT q)⟩
theorem call_divmodA : CallR X (.builtin "divmod") (fun xs H Q => ∃ i j, xs = [.int i, .int j] ∧ CDivP i j ∧ NewT X.K [.int (i / j), .int (i % j)] H Q) := CallR_imp call_divmodW fun xs H Q ⟨i, j, e, h, q⟩ => ⟨i, j, e, h, newT q⟩
def tRevLA (K : PySem.W.Frag) (te : TE) : TE := fun σ H Q => te σ H fun x H1 => ∃ a xs, x = .ref a ∧ SqL K H1 a xs ∧ NewL xs.reverse H1 Q
theorem pe_revLA {e : Expr} {te : TE} {k : Nat} {p1 p2 p3 pos : Pos} (he : PE X e te) : PE X (.Subscript e (.Slice none none (some (.UnaryOp .USub (.Constant (.int 1) k p1) p2)) p3) pos) (tRevLA X.K te) :=
  PE_imp (pe_revL (PE_cl he)) fun σ H Q hw => ⟨_, hw, fun x H1 ⟨a, xs, e, h, q⟩ => ⟨a, xs, e, h, newL q⟩⟩
end
/-! ### what stands, through Same, Ext, But -/
section
variable {K : PySem.W.Frag} {H H' : Hp} {a d l : Addr} {xs ys : List V}
theorem sT (e : Same H H') (h : SqT K H a xs) : SqT K H' a xs := seqT_same e h
theorem sL (e : Same H H') (h : SqL K H a xs) : SqL K H' a xs := e.seq h
/-- a list that was made anew and then changed: what stood before stands -/
theorem Same.back {H0 H1 H2 : Hp} (hn : H0 l = none) (s : Same H0 H1) (b : But l H1 H2) : Same H0 H2 := fun c o e => b c o (ne_of_none e hn) (s c o e)
theorem Ext.list (e : Ext d H H') (n : a ≠ d) (h : H a = some (.lst xs)) : H' a = some (.lst xs) := e.s _ _ n h
theorem Ext.seqL (e : Ext d H H') (hd : Dice H d) (n : a ≠ d) (h : SqL K H a xs) : SqL K H' a xs := by
  rcases h with (h | ⟨o, h⟩) | h
  · exact .inl (.inl (e.s _ _ n h))
  · exact .inl (.inr ⟨o, e.s _ _ n h⟩)
  · exact .inr h
/-- what a dice is not -/
theorem Dice.neL (h : Dice H d) (e : H a = some (.lst xs)) (n : xs.length ≠ 3) : a ≠ d := fun z => by
  obtain ⟨x, y, w, q⟩ := h
  rw [z, q] at e
  cases e
  exact n rfl
theorem dp2s {x y : Int} (h : SqT K H a [.int x, .int y]) : Dp K H (.ref a) (.tuple [.int x, .int y]) := dp2 h
end
/-! ### lists of pure elements: f tells what each item gives, if anything -/
theorem range_snoc {α : Type} (f : Nat → Option α) (i : Nat) : (List.range (i + 1)).filterMap f = (List.range i).filterMap f ++ (f i).toList := by
  rw [List.range_succ, List.filterMap_append]
  cases h : f i <;> simp [h]
theorem take_snoc {α β : Type} (f : α → Option β) {xs : List α} {i : Nat} {x : α} (h : xs[i]? = some x) : (xs.take (i + 1)).filterMap f = (xs.take i).filterMap f ++ (f x).toList := by
  rw [List.take_add_one, h, List.filterMap_append]
  cases e : f x <;> simp [e]
theorem lc_rangeF {n : Nat} {g : TG} {tt : TT} {te : TE} {vs : List Nat} {σ : L2.St} {H1 : Hp} {Qd : Addr → Hp → Prop} (f : Nat → Option V) (hn : n ≤ 100000)
    (hs : ∀ i H, i < n → Same H1 H → ∀ (R : V → Hp → Prop) (N : Hp → Prop), (∀ v H', f i = some v → Same H H' → R v H') → (∀ H', f i = none → Same H H' → N H') →
      g (.int (i : Int)) (wipe σ vs) H fun σ2 H2 => wipe σ2 vs = wipe σ vs ∧ tt σ2 H2 fun b H3 => if b = true then te σ2 H3 R else N H3)
    (hd : ∀ D H', Same H1 H' → H' D = some (.lst ((List.range n).filterMap f)) → H1 D = none → Qd D H') :
    ∀ D, H1 D = none → ∃ W : Nat → Nat → Hp → Prop, (∃ m, W 0 m (upd H1 D (.lst []))) ∧ ∀ i m H, W i m H →
      ((Itr 0 n).stop i H ∧ Qd D H) ∨ ((Itr 0 n).go i H ∧ ∃ Nx : Hp → Prop, (∀ H', Nx H' → ∃ m', m' < m ∧ W (i + 1) m' H') ∧ ∀ x H', (Itr 0 n).yld i H x H' → g x (wipe σ vs) H' fun σ2 H2 => wipe σ2 vs = wipe σ vs ∧ tt σ2 H2 fun b H3 =>
        if b = true then te σ2 H3 fun y H4 => ∃ acc, H4 D = some (.lst acc) ∧ acc.length < sizeLine ∧ Nx (upd H4 D (.lst (acc ++ [y]))) else Nx H3) := fun D nD =>
  lc_rangeN (n := n) (fun i H => Same H1 H ∧ H D = some (.lst ((List.range i).filterMap f))) ⟨same_new nD, upd_same⟩ (fun i H hi ⟨sm, hD⟩ => by
    refine hs i H hi sm _ _ (fun v H' e s => ?_) (fun H' e s => ?_)
    · refine ⟨_, s _ _ hD, szlt ?_, fun b o hb => ?_, ?_⟩
      · have := List.length_filterMap_le f (List.range i)
        rw [List.length_range] at this
        omega
      · rw [upd_ne (ne_of_none hb nD)]
        exact s _ _ (sm _ _ hb)
      · rw [upd_same, range_snoc, e]
        rfl
    · refine ⟨sm.trans s, ?_⟩
      rw [range_snoc, e, s _ _ hD, Option.toList, List.append_nil]) fun H ⟨sm, hD⟩ => hd D H sm hD nD
theorem lc_listF {K : PySem.W.Frag} {a : Addr} {xs : List V} {g : TG} {tt : TT} {te : TE} {vs : List Nat} {σ : L2.St} {H1 : Hp} {Qd : Addr → Hp → Prop} (hl : SqL K H1 a xs) (f : V → Option V) (hn : xs.length ≤ 100000)
    (hs : ∀ (i : Nat) x H, xs[i]? = some x → Same H1 H → ∀ (R : V → Hp → Prop) (N : Hp → Prop), (∀ v H', f x = some v → Same H H' → R v H') → (∀ H', f x = none → Same H H' → N H') →
      g x (wipe σ vs) H fun σ2 H2 => wipe σ2 vs = wipe σ vs ∧ tt σ2 H2 fun b H3 => if b = true then te σ2 H3 R else N H3)
    (hd : ∀ D H', Same H1 H' → H' D = some (.lst (xs.filterMap f)) → H1 D = none → Qd D H') :
    ∀ D, H1 D = none → ∃ W : Nat → Nat → Hp → Prop, (∃ m, W 0 m (upd H1 D (.lst []))) ∧ ∀ i m H, W i m H →
      ((Itl K a).stop i H ∧ Qd D H) ∨ ((Itl K a).go i H ∧ ∃ Nx : Hp → Prop, (∀ H', Nx H' → ∃ m', m' < m ∧ W (i + 1) m' H') ∧ ∀ x H', (Itl K a).yld i H x H' → g x (wipe σ vs) H' fun σ2 H2 => wipe σ2 vs = wipe σ vs ∧ tt σ2 H2 fun b H3 =>
        if b = true then te σ2 H3 fun y H4 => ∃ acc, H4 D = some (.lst acc) ∧ acc.length < sizeLine ∧ Nx (upd H4 D (.lst (acc ++ [y]))) else Nx H3) := fun D nD =>
  lc_list (K := K) (a := a) (xs := xs) (fun i H => Same H1 H ∧ H D = some (.lst ((xs.take i).filterMap f))) ⟨same_new nD, upd_same⟩ (fun i H _ ⟨sm, _⟩ => sm.seq hl) (fun i x H hx ⟨sm, hD⟩ => by
    refine hs i x H hx sm _ _ (fun v H' e s => ?_) (fun H' e s => ?_)
    · refine ⟨_, s _ _ hD, szlt ?_, fun b o hb => ?_, ?_⟩
      · have := List.length_filterMap_le f (xs.take i)
        rw [List.length_take] at this
        omega
      · rw [upd_ne (ne_of_none hb nD)]
        exact s _ _ (sm _ _ hb)
      · rw [upd_same, take_snoc f hx, e]
        rfl
    · refine ⟨sm.trans s, ?_⟩
      rw [take_snoc f hx, e, s _ _ hD, Option.toList, List.append_nil]) fun H ⟨sm, hD⟩ => hd D H sm (by rw [hD, List.take_length]) nD
theorem lc_tupF {K : PySem.W.Frag} {a : Addr} {xs : List V} {g : TG} {tt : TT} {te : TE} {vs : List Nat} {σ : L2.St} {H1 : Hp} {Qd : Addr → Hp → Prop} (hl : SqT K H1 a xs) (f : V → Option V) (hn : xs.length ≤ 100000)
    (hs : ∀ (i : Nat) x H, xs[i]? = some x → Same H1 H → ∀ (R : V → Hp → Prop) (N : Hp → Prop), (∀ v H', f x = some v → Same H H' → R v H') → (∀ H', f x = none → Same H H' → N H') →
      g x (wipe σ vs) H fun σ2 H2 => wipe σ2 vs = wipe σ vs ∧ tt σ2 H2 fun b H3 => if b = true then te σ2 H3 R else N H3)
    (hd : ∀ D H', Same H1 H' → H' D = some (.lst (xs.filterMap f)) → H1 D = none → Qd D H') :
    ∀ D, H1 D = none → ∃ W : Nat → Nat → Hp → Prop, (∃ m, W 0 m (upd H1 D (.lst []))) ∧ ∀ i m H, W i m H →
      ((Itt K a).stop i H ∧ Qd D H) ∨ ((Itt K a).go i H ∧ ∃ Nx : Hp → Prop, (∀ H', Nx H' → ∃ m', m' < m ∧ W (i + 1) m' H') ∧ ∀ x H', (Itt K a).yld i H x H' → g x (wipe σ vs) H' fun σ2 H2 => wipe σ2 vs = wipe σ vs ∧ tt σ2 H2 fun b H3 =>
        if b = true then te σ2 H3 fun y H4 => ∃ acc, H4 D = some (.lst acc) ∧ acc.length < sizeLine ∧ Nx (upd H4 D (.lst (acc ++ [y]))) else Nx H3) := fun D nD =>
  lc_tup (K := K) (a := a) (xs := xs) (fun i H => Same H1 H ∧ H D = some (.lst ((xs.take i).filterMap f))) ⟨same_new nD, upd_same⟩ (fun i H _ ⟨sm, _⟩ => sT sm hl) (fun i x H hx ⟨sm, hD⟩ => by
    refine hs i x H hx sm _ _ (fun v H' e s => ?_) (fun H' e s => ?_)
    · refine ⟨_, s _ _ hD, szlt ?_, fun b o hb => ?_, ?_⟩
      · have := List.length_filterMap_le f (xs.take i)
        rw [List.length_take] at this
        omega
      · rw [upd_ne (ne_of_none hb nD)]
        exact s _ _ (sm _ _ hb)
      · rw [upd_same, take_snoc f hx, e]
        rfl
    · refine ⟨sm.trans s, ?_⟩
      rw [take_snoc f hx, e, s _ _ hD, Option.toList, List.append_nil]) fun H ⟨sm, hD⟩ => hd D H sm (by rw [hD, List.take_length]) nD
/-! ### lists of pure elements, told by the list that comes -/
theorem lc_tupY {K : PySem.W.Frag} {a : Addr} {xs ys : List V} {g : TG} {tt : TT} {te : TE} {vs : List Nat} {σ : L2.St} {H1 : Hp} {Qd : Addr → Hp → Prop} (hl : SqT K H1 a xs) (hlen : ys.length = xs.length) (hn : xs.length ≤ 100000)
    (hs : ∀ (i : Nat) x y H, xs[i]? = some x → ys[i]? = some y → Same H1 H → ∀ (R : V → Hp → Prop) (N : Hp → Prop), (∀ H', Same H H' → R y H') →
      g x (wipe σ vs) H fun σ2 H2 => wipe σ2 vs = wipe σ vs ∧ tt σ2 H2 fun b H3 => if b = true then te σ2 H3 R else N H3)
    (hd : ∀ D H', Same H1 H' → H' D = some (.lst ys) → H1 D = none → Qd D H') :
    ∀ D, H1 D = none → ∃ W : Nat → Nat → Hp → Prop, (∃ m, W 0 m (upd H1 D (.lst []))) ∧ ∀ i m H, W i m H →
      ((Itt K a).stop i H ∧ Qd D H) ∨ ((Itt K a).go i H ∧ ∃ Nx : Hp → Prop, (∀ H', Nx H' → ∃ m', m' < m ∧ W (i + 1) m' H') ∧ ∀ x H', (Itt K a).yld i H x H' → g x (wipe σ vs) H' fun σ2 H2 => wipe σ2 vs = wipe σ vs ∧ tt σ2 H2 fun b H3 =>
        if b = true then te σ2 H3 fun y H4 => ∃ acc, H4 D = some (.lst acc) ∧ acc.length < sizeLine ∧ Nx (upd H4 D (.lst (acc ++ [y]))) else Nx H3) := fun D nD =>
  lc_tup (K := K) (a := a) (xs := xs) (fun i H => Same H1 H ∧ H D = some (.lst (ys.take i))) ⟨same_new nD, upd_same⟩ (fun i H _ ⟨sm, _⟩ => sT sm hl) (fun i x H hx ⟨sm, hD⟩ => by
    have hi := (List.getElem?_eq_some_iff.mp hx).1
    have hy : ys[i]? = some ys[i] := List.getElem?_eq_getElem (by omega)
    refine hs i x ys[i] H hx hy sm _ _ (fun H' s => ?_)
    refine ⟨_, s _ _ hD, szlt ?_, fun b o hb => ?_, ?_⟩
    · rw [List.length_take]
      omega
    · rw [upd_ne (ne_of_none hb nD)]
      exact s _ _ (sm _ _ hb)
    · rw [upd_same, List.take_add_one, hy]
      rfl) fun H ⟨sm, hD⟩ => hd D H sm (by rw [hD, ← hlen, List.take_length]) nD
theorem lc_listY {K : PySem.W.Frag} {a : Addr} {xs ys : List V} {g : TG} {tt : TT} {te : TE} {vs : List Nat} {σ : L2.St} {H1 : Hp} {Qd : Addr → Hp → Prop} (hl : SqL K H1 a xs) (hlen : ys.length = xs.length) (hn : xs.length ≤ 100000)
    (hs : ∀ (i : Nat) x y H, xs[i]? = some x → ys[i]? = some y → Same H1 H → ∀ (R : V → Hp → Prop) (N : Hp → Prop), (∀ H', Same H H' → R y H') →
      g x (wipe σ vs) H fun σ2 H2 => wipe σ2 vs = wipe σ vs ∧ tt σ2 H2 fun b H3 => if b = true then te σ2 H3 R else N H3)
    (hd : ∀ D H', Same H1 H' → H' D = some (.lst ys) → H1 D = none → Qd D H') :
    ∀ D, H1 D = none → ∃ W : Nat → Nat → Hp → Prop, (∃ m, W 0 m (upd H1 D (.lst []))) ∧ ∀ i m H, W i m H →
      ((Itl K a).stop i H ∧ Qd D H) ∨ ((Itl K a).go i H ∧ ∃ Nx : Hp → Prop, (∀ H', Nx H' → ∃ m', m' < m ∧ W (i + 1) m' H') ∧ ∀ x H', (Itl K a).yld i H x H' → g x (wipe σ vs) H' fun σ2 H2 => wipe σ2 vs = wipe σ vs ∧ tt σ2 H2 fun b H3 =>
        if b = true then te σ2 H3 fun y H4 => ∃ acc, H4 D = some (.lst acc) ∧ acc.length < sizeLine ∧ Nx (upd H4 D (.lst (acc ++ [y]))) else Nx H3) := fun D nD =>
  lc_list (K := K) (a := a) (xs := xs) (fun i H => Same H1 H ∧ H D = some (.lst (ys.take i))) ⟨same_new nD, upd_same⟩ (fun i H _ ⟨sm, _⟩ => sm.seq hl) (fun i x H hx ⟨sm, hD⟩ => by
    have hi := (List.getElem?_eq_some_iff.mp hx).1
    have hy : ys[i]? = some ys[i] := List.getElem?_eq_getElem (by omega)
    refine hs i x ys[i] H hx hy sm _ _ (fun H' s => ?_)
    refine ⟨_, s _ _ hD, szlt ?_, fun b o hb => ?_, ?_⟩
    · rw [List.length_take]
      omega
    · rw [upd_ne (ne_of_none hb nD)]
      exact s _ _ (sm _ _ hb)
    · rw [upd_same, List.take_add_one, hy]
      rfl) fun H ⟨sm, hD⟩ => hd D H sm (by rw [hD, ← hlen, List.take_length]) nD
end TB
namespace TB
open PySem PySem.Spec PyProof.Rows L2
/-! ### enumerate(t), t a tuple -/
abbrev enumO (i : Nat) : Obj := { cls := .type "enumerate", data := .fields #[.none, .bool false, .ref i, rawInt 0, .none, .none] }
set_option maxHeartbeats 1000000 in
theorem enum_new {v : Value} {o : Obj} {G : Heap → Prop} (B : Begins v o G) : Meets (Builtin.«enumerate.__new__» ⟨[.type "enumerate", v], []⟩)
    (fun _ R z => G z.heap ∧ R (.ok (.ret (.ref (z.heap.push o).objs.size))) { z with heap := (z.heap.push o).push (enumO z.heap.objs.size) }) := .of_wp fun prog w A R z hz => by
  obtain ⟨hp, g, d, tk, os⟩ := z
  obtain ⟨h1, h⟩ := hz
  have hsub := sub_enumerate
  have it : ∀ {A' : Around} {E : Value → Shared → Prop} {Q : Value → Shared → Prop}, Q (.ref hp.objs.size) ⟨hp.push o, g, d, tk, os⟩ → wpAny (model prog w) A' (pyIter v) Q E ⟨hp, g, d, tk, os⟩ := fun q => B.iter prog w _ _ _ _ h1 q
  wp_walk using it
  refine wpAny_stack_any (fun st => wpAny_pure ?_)
  split
  · rename_i c _ _ _ _ _
    cases (c == Value.type "enumerate") <;> (wp_walk using it; exact ⟨_, rfl, h⟩)
  · wp_walk using it
    exact ⟨_, rfl, h⟩
theorem enum_call {prog : Program} {w : World} {A : Around} {E : Value → Shared → Prop} {s : Shared} {v : Value} {o : Obj} {G : Heap → Prop} {Q : Value → Shared → Prop} (B : Begins v o G) (h1 : G s.heap)
    (h : ∀ h', IsEnum h' (s.heap.objs.size + 1) s.heap.objs.size 0 .none → h'.get? s.heap.objs.size = some o → (∀ b u, s.heap.get? b = some u → h'.get? b = some u) → Q (.ref (s.heap.objs.size + 1)) { s with heap := h' }) :
    wpAny (model prog w) A (call (.type "enumerate") [v]) Q E s := by
  refine callType_new F.called_enumerate (by decide) (F.typeCall_enumerate_1 _) (F.newCall_enumerate_1 _) (fun obj => F.args_object_init_2 obj _) F.entry_enumerate_new (enum_new B) ⟨h1, ?_⟩
  have hz : (s.heap.push o).objs.size = s.heap.objs.size + 1 := Heap.size_push ..
  show _ ∧ _
  rw [hz]
  have he := Heap.get?_push_size (s.heap.push o) (o := enumO s.heap.objs.size) rfl
  rw [hz] at he
  exact ⟨⟨_, he, rfl⟩, h _ he (Heap.get?_push_of_some _ (Heap.get?_push_size _ B.free)) fun b u x => Heap.get?_push_of_some _ (Heap.get?_push_of_some _ x)⟩
/-- the tuple at a, of n items, each in a new pair -/
def IteT (K : PySem.W.Frag) (a : Addr) (n : Nat) : It :=
  ⟨fun i H => ∃ (xs : List V) (x : V), SqT K H a xs ∧ xs[i]? = some x ∧ xs.length = n,
    fun i H v H' => ∃ T x, v = .ref T ∧ H T = none ∧ H' = upd H T (.tup [.int (i : Nat), x]) ∧ ∀ xs, SqT K H a xs → xs[i]? = some x,
    fun i H => ∃ xs : List V, SqT K H a xs ∧ xs.length = n ∧ n ≤ i⟩
theorem enum_apart {h : Heap} {a e it : Addr} {i : Nat} {c : Int} {old : Value} {items : Array Value} (he : IsEnum h e it c old) (hi : h.IsTupleIter it a i) (p : IsTup h a items) : a ≠ it ∧ e ∉ [it, a] ∨ e = it := by
  obtain ⟨o1, g1, c1, _⟩ := hi
  obtain ⟨o2, g2, c2, _⟩ := p
  have n1 : a ≠ it := fun z => by
    rw [z, g1] at g2
    cases g2
    rw [c1] at c2
    exact absurd (Value.type.inj c2) (by decide)
  have n2 : e ≠ a := fun z => by
    have g3 : h.get? e = some _ := he
    rw [z, g2] at g3
    cases g3
    exact absurd (Value.type.inj c2) (by decide)
  by_cases q : e = it
  · exact .inr q
  · refine .inl ⟨n1, fun hm => ?_⟩
    rcases List.mem_cons.mp hm with z | hm
    · exact q z
    · exact n2 (List.mem_singleton.mp hm)
theorem turn_enumT {P : Program} {w : World} {K : PySem.W.Frag} {elts : List Expr} {kk : Nat} {tpos : Pos} (a e it : Addr) (n : Nat) :
    Turn P w K (.Tuple elts kk tpos) (IteT K a n) [e, it] e (fun i h => (∃ old, IsEnum h e it (i : Int) old) ∧ h.IsTupleIter it a i ∧ e ≠ it ∧ i ≤ n) where
  mem := List.mem_cons_self ..
  obj := fun i h st b hb => by
    obtain ⟨⟨old, he⟩, ⟨o, ho, hc, hd⟩, _⟩ := st
    rcases List.mem_cons.mp hb with z | hb
    · rw [z]
      exact ⟨_, he, fun v q => nomatch q⟩
    · rw [List.mem_singleton.mp hb]
      refine ⟨o, ho, fun v q => ?_⟩
      rw [hd] at q
      cases q
  keep := fun i h h' st k => let ⟨⟨old, he⟩, hi, hne, hn⟩ := st; ⟨⟨old, k e (by simp) _ he⟩, hi.at fun o q => k it (by simp) o q, hne, hn⟩
  item := by
    intro X hP hw hK hc i pins s σ H E I hf st hg
    subst hP hw hK
    obtain ⟨⟨old, he⟩, hit, hne, hn⟩ := st
    obtain ⟨xs, x, hq, hx, hl⟩ := hg
    obtain ⟨its, rv, p, hz⟩ := I.tuple hq
    obtain ⟨u, hu, ru⟩ := rv.get hx
    obtain ⟨nai, nef⟩ := (enum_apart he hit p).resolve_right hne
    have hel : e < s.heap.objs.size := Heap.lt_size he
    have hil : it < s.heap.objs.size := by
      obtain ⟨_, q, _⟩ := hit
      exact Heap.lt_size q
    have hin : i < n := by
      have := (List.getElem?_eq_some_iff.mp hx).1
      omega
    have len := rv.length
    refine wpAny_pyNext_enum_itemC (Draws.tuple (prog := X.prog) (w := X.w) (A := X.A.in1) (I.ok.hd hc) it a nai its.toArray) he ⟨hit, p⟩ (by simp; omega) hne nef fun x' h' tk hP ho hst hT hsz hk => ?_
    have ex : x' = u := by
      have h1 : its.toArray[i]? = some x' := hP
      rw [List.getElem?_toArray, hu] at h1
      exact (Option.some.inj h1).symm
    subst ex
    refine ⟨_, rfl, wpAny_letOwnedTupleGo_enum (s := { s with heap := h', toks := tk + 1 }) ho fun h'' he' sb => ?_⟩
    have hT2 := (sb.2 _ (Nat.ne_of_gt hel)).trans hT
    have new : ObjOk X.prog X.w (upd H s.heap.objs.size (.tup [.int (i : Nat), x])) h'' s.heap.objs.size (.tup [.int (i : Nat), x]) :=
      ⟨by show 2 ≤ sizeLine; decide, _, .cons ⟨tk, rfl⟩ (.cons ru .nil), ⟨_, hT2, rfl, _, rfl⟩⟩
    have I1 := I.turnedNew (t' := tk + 1) (ch := [e, it]) (fun b ob hb q => (sb.2 b (fun z => hb (by simp [z]))).trans (hk b ob (fun z => hb (by simp [z])) (fun z => hb (by simp [z])) q)) hf (Nat.le_refl _) new
    refine ⟨.ref s.heap.objs.size, _, I1, rfl, ⟨_, x, rfl, I.hok.fresh (Nat.le_refl _), rfl, fun ys hy => by rw [I.tuple_inj hy hq]; exact hx⟩, ⟨⟨x', ?_⟩, hst.1.at fun o q => (sb.2 it (Ne.symm hne)).trans q, hne, hin⟩, fun b hb => ?_⟩
    · have e1 : ((i + 1 : Nat) : Int) = (i : Int) + 1 := by omega
      rw [e1]
      exact he'
    · have hb' : b < s.heap.objs.size := by
        rcases List.mem_cons.mp hb with z | hb
        · rw [z]
          exact hel
        · rw [List.mem_singleton.mp hb]
          exact hil
      rw [upd_ne (Nat.ne_of_lt hb')]
      exact (hf b hb).1
  done := by
    intro X hP hw hK hc i pins s σ H E I hf st hg
    subst hP hw hK
    obtain ⟨⟨old, he⟩, hit, hne, hn⟩ := st
    obtain ⟨xs, hq, hl, hi⟩ := hg
    obtain ⟨its, rv, p, hz⟩ := I.tuple hq
    obtain ⟨nai, nef⟩ := (enum_apart he hit p).resolve_right hne
    obtain ⟨f0, f1, f2, f3, f4, f5⟩ := hf it (by simp)
    have len := rv.length
    have ei : i = its.toArray.size := by simp; omega
    rw [ei] at hit
    exact wpAny_pyNext_enum_endD (Draws.tuple (prog := X.prog) (w := X.w) (A := X.A.in1) (I.ok.hd hc) it a nai its.toArray) he ⟨hit, p⟩ fun h' eb => ⟨rfl, I.turned (t' := s.toks) (fun b o hb q => eb b o hb q) f0 f1 f3 f4 f5⟩
  self := fun A i s Q E st h => let ⟨⟨_, he⟩, _⟩ := st; wpAny_pyIter_enum he h
def iEnumT (K : PySem.W.Frag) (ta : TA) : TI := fun σ H R => ta σ H fun vs H1 => ∃ a xs, vs = [.ref a] ∧ SqT K H1 a xs ∧ R (IteT K a xs.length) H1
theorem pi_enumT {X : Cx} {e : Expr} {ta : TA} {p pos tpos : Pos} {elts : List Expr} {kk : Nat} (hg : Gl X "enumerate") (hm : X.mg "enumerate" = none) (ha : PA X [e] ta) (hs : starEach [e] X.env = [(false, eval e X.env)] := by rfl) :
    PI X (.Tuple elts kk tpos) (.Call (.Name "enumerate" p) [e] [] pos) (iEnumT X.K ta) := by
  refine ⟨fun pins s σ H R I h => Call_ (ld_blt I hg hm boot_enumerate (PyProof.Rows.callWith_type1 (thn (ha.run pos pins s σ H _ I h) fun us s1 ⟨vs, H1, I1, r1, q1⟩ => ?_) hs rfl))⟩
  obtain ⟨a, xs, ex, hq, q⟩ := q1
  subst ex
  obtain ⟨u1, e1, r⟩ := vals1 r1
  subst e1
  cases r
  obtain ⟨its, rv, p', hz⟩ := I1.tuple hq
  refine enum_call (begins_tuple a its.toArray) p' fun h' he hit hk => wpAny_pyIter_enum he ?_
  have I2 : Inv X pins σ H1 { s1 with heap := h' } := I1.kept (t' := s1.toks) hk
  refine ⟨s1.heap.objs.size + 1, [s1.heap.objs.size + 1, s1.heap.objs.size], _, _, H1, rfl, I2, turn_enumT a (s1.heap.objs.size + 1) s1.heap.objs.size xs.length, ⟨⟨.none, he⟩, ⟨_, hit, rfl, rfl⟩, Nat.succ_ne_self _, Nat.zero_le _⟩, fun b hb => ?_, q⟩
  have hle : s1.heap.objs.size ≤ b := by
    rcases List.mem_cons.mp hb with z | hb
    · rw [z]
      exact Nat.le_add_right _ _
    · rw [List.mem_singleton.mp hb]
      exact Nat.le_refl _
  exact I1.fpOk hle (I1.hok.fresh hle)
/-- for i, x in enumerate(t) -/
theorem for_enumT {K : PySem.W.Frag} {a : Addr} {xs : List V} {g : TG} {tb : TS} {D : Ends} {σ : L2.St} {H : Hp} (Pv : Nat → L2.St → Hp → Prop) (h0 : Pv 0 σ H) (hq : ∀ i σ H, Pv i σ H → SqT K H a xs)
    (hs : ∀ (i : Nat) (x : V) (T : Addr) (σ : L2.St) (H : Hp), xs[i]? = some x → Pv i σ H → H T = none → g (.ref T) σ (upd H T (.tup [.int (i : Int), x])) fun σ2 H2 => tb { D with nx := Pv (i + 1), ct := Pv (i + 1), bk := D.nx } σ2 H2) (hd : ∀ σ H, Pv xs.length σ H → D.nx σ H) :
    ∃ W : Nat → Nat → L2.St → Hp → Prop, (∃ m, W 0 m σ H) ∧ ∀ i m σ H, W i m σ H → ((IteT K a xs.length).stop i H ∧ D.nx σ H) ∨ ((IteT K a xs.length).go i H ∧ ∃ N : L2.St → Hp → Prop, (∀ σ' H', N σ' H' → ∃ m', m' < m ∧ W (i + 1) m' σ' H') ∧ ∀ v H', (IteT K a xs.length).yld i H v H' → g v σ H' fun σ2 H2 => tb { D with nx := N, ct := N, bk := D.nx } σ2 H2) := by
  refine ⟨fun i m σ H => m = xs.length - i ∧ i ≤ xs.length ∧ Pv i σ H, ⟨xs.length, rfl, Nat.zero_le _, h0⟩, ?_⟩
  rintro i m σ H ⟨rfl, hi, p⟩
  have qx := hq i σ H p
  by_cases hlt : i < xs.length
  · refine .inr ⟨⟨xs, xs[i], qx, List.getElem?_eq_getElem hlt, rfl⟩, Pv (i + 1), fun σ' H' p' => ⟨xs.length - (i + 1), by omega, rfl, hlt, p'⟩, fun v H' y => ?_⟩
    obtain ⟨T, x, rfl, nT, rfl, f⟩ := y
    exact hs i x T σ H (f xs qx) p nT
  · have e : i = xs.length := by omega
    subst e
    exact .inl ⟨⟨xs, qx, rfl, Nat.le_refl _⟩, hd σ H p⟩
/-- [.. for i, x in enumerate(t)], pure elements -/
theorem lc_enumTF {K : PySem.W.Frag} {a : Addr} {xs : List V} {g : TG} {tt : TT} {te : TE} {vs : List Nat} {σ : L2.St} {H1 : Hp} {Qd : Addr → Hp → Prop} (hl : SqT K H1 a xs) (f : Nat → V → Option V) (hn : xs.length ≤ 100000)
    (hs : ∀ (i : Nat) x T H, xs[i]? = some x → Same H1 H → H T = some (.tup [.int (i : Int), x]) → ∀ (R : V → Hp → Prop) (N : Hp → Prop), (∀ v H', f i x = some v → Same H H' → R v H') → (∀ H', f i x = none → Same H H' → N H') →
      g (.ref T) (wipe σ vs) H fun σ2 H2 => wipe σ2 vs = wipe σ vs ∧ tt σ2 H2 fun b H3 => if b = true then te σ2 H3 R else N H3)
    (hd : ∀ D H', Same H1 H' → H' D = some (.lst (xs.zipIdx.filterMap fun p => f p.2 p.1)) → H1 D = none → Qd D H') :
    ∀ D, H1 D = none → ∃ W : Nat → Nat → Hp → Prop, (∃ m, W 0 m (upd H1 D (.lst []))) ∧ ∀ i m H, W i m H →
      ((IteT K a xs.length).stop i H ∧ Qd D H) ∨ ((IteT K a xs.length).go i H ∧ ∃ Nx : Hp → Prop, (∀ H', Nx H' → ∃ m', m' < m ∧ W (i + 1) m' H') ∧ ∀ x H', (IteT K a xs.length).yld i H x H' → g x (wipe σ vs) H' fun σ2 H2 => wipe σ2 vs = wipe σ vs ∧ tt σ2 H2 fun b H3 =>
        if b = true then te σ2 H3 fun y H4 => ∃ acc, H4 D = some (.lst acc) ∧ acc.length < sizeLine ∧ Nx (upd H4 D (.lst (acc ++ [y]))) else Nx H3) := by
  intro D nD
  refine ⟨fun i m H => m = xs.length - i ∧ i ≤ xs.length ∧ Same H1 H ∧ H D = some (.lst ((xs.zipIdx.take i).filterMap fun p => f p.2 p.1)), ⟨xs.length, rfl, Nat.zero_le _, same_new nD, upd_same⟩, ?_⟩
  rintro i m H ⟨rfl, hi, sm, hD⟩
  have qx := sT sm hl
  by_cases hlt : i < xs.length
  · refine .inr ⟨⟨xs, xs[i], qx, List.getElem?_eq_getElem hlt, rfl⟩, fun H => i + 1 ≤ xs.length ∧ Same H1 H ∧ H D = some (.lst ((xs.zipIdx.take (i + 1)).filterMap fun p => f p.2 p.1)), fun H' p' => ⟨xs.length - (i + 1), by omega, rfl, p'.1, p'.2.1, p'.2.2⟩, fun v H' y => ?_⟩
    obtain ⟨T, x, rfl, nT, rfl, fx⟩ := y
    have hx := fx xs qx
    have hz : xs.zipIdx[i]? = some (x, i) := by
      rw [List.getElem?_zipIdx, hx]
      simp
    have sT' : Same H (upd H T (.tup [.int (i : Int), x])) := same_new nT
    refine hs i x T _ hx (sm.trans sT') upd_same _ _ (fun v H' e s => ?_) (fun H' e s => ?_)
    · refine ⟨_, s _ _ (sT' _ _ hD), szlt ?_, hlt, fun b o hb => ?_, ?_⟩
      · have := List.length_filterMap_le (fun p : V × Nat => f p.2 p.1) (xs.zipIdx.take i)
        rw [List.length_take, List.length_zipIdx] at this
        omega
      · rw [upd_ne (ne_of_none hb nD)]
        exact s _ _ (sT' _ _ (sm _ _ hb))
      · rw [upd_same, take_snoc _ hz]
        show some (HO.lst (_ ++ [v])) = some (HO.lst (_ ++ (f i x).toList))
        rw [e]
        rfl
    · refine ⟨hlt, sm.trans (sT'.trans s), ?_⟩
      rw [take_snoc _ hz]
      show H' D = some (HO.lst (_ ++ (f i x).toList))
      rw [e, s _ _ (sT' _ _ hD), Option.toList, List.append_nil]
  · have e : i = xs.length := by omega
    subst e
    refine .inl ⟨⟨xs, qx, rfl, Nat.le_refl _⟩, hd D H sm ?_ nD⟩
    rw [hD, ← List.length_zipIdx (l := xs), List.take_length]
end TB
namespace TB
open PySem PySem.Spec PyProof.Rows L2
/-! ### values of any kind: the kind of a value -/
def kinds : List String := ["NoneType", "bool", "int", "str", "list", "tuple", "dict"]
def Knd (K : PySem.W.Frag) (H : Hp) (v : V) (T : String) : Prop := TyX K H v (.type T) ∧ T ∈ kinds
def isK (T c : String) : Bool := T == c || (T == "bool" && c == "int")
theorem kitB_all : (kinds.all fun T => ["int", "bool", "str", "list", "tuple", "dict"].all fun c => kitB T c == some (isK T c)) = true := by decide +kernel
theorem kit_all {K : PySem.W.Frag} {T c : String} (h : T ∈ kinds) (hc : c ∈ ["int", "bool", "str", "list", "tuple", "dict"]) : PySem.W.kitOne K (.type T) (.type c) = some (isK T c) :=
  kit_ty (beq_iff_eq.mp (List.all_eq_true.mp (List.all_eq_true.mp kitB_all T h) c hc))
section
variable {K : PySem.W.Frag} {H H' : Hp} {a : Addr} {v : V} {T : String}
theorem Knd.n : Knd K H .non "NoneType" := ⟨.base .non, by decide⟩
theorem Knd.b (b : Bool) : Knd K H (.bl b) "bool" := ⟨.base (.bl b), by decide⟩
theorem Knd.i (i : Int) : Knd K H (.int i) "int" := ⟨.base (.int i), by decide⟩
theorem Knd.s (x : Str) : Knd K H (.str x) "str" := ⟨.base (.str x), by decide⟩
theorem Knd.l {xs : List V} (h : SqL K H a xs) : Knd K H (.ref a) "list" := by
  refine ⟨?_, by decide⟩
  rcases h with (h | ⟨o, h⟩) | ⟨o, its, n, h1, h2, _⟩
  · exact .base (.lst h)
  · exact .base (.frz h)
  · exact .kList h1 h2
theorem Knd.t {xs : List V} (h : SqT K H a xs) : Knd K H (.ref a) "tuple" := by
  refine ⟨?_, by decide⟩
  rcases h with (h | ⟨o, h⟩) | ⟨o, its, n, h1, h2, _⟩
  · exact .base (.tup h)
  · exact .fTuple h
  · exact .kTuple h1 h2
theorem Knd.d {kvs : List (Key × V)} (h : H a = some (.dK kvs)) : Knd K H (.ref a) "dict" := ⟨.base (.dK h), by decide⟩
/-- what is of the kind int is an int -/
def isIntV : V → Bool
  | .int _ => true
  | _ => false
theorem Knd.int_iff (h : Knd K H v T) : (T == "int") = isIntV v := by
  obtain ⟨h, m⟩ := h
  generalize e : Value.type T = t at h
  cases h with
  | base h =>
    cases h <;> first
      | (cases e; rfl)
      | (injection e with e; subst e; rfl)
      | exact nomatch e
  | byt b => injection e with e; subst e; rfl
  | set h => injection e with e; subst e; rfl
  | kList h1 h2 => injection e with e; subst e; rfl
  | kTuple h1 h2 => injection e with e; subst e; rfl
  | kDict h1 h2 => injection e with e; subst e; rfl
  | fTuple h => injection e with e; subst e; rfl
  | fDict h => injection e with e; subst e; rfl
theorem Knd.same (s : Same H H') (h : Knd K H v T) : Knd K H' v T := by
  obtain ⟨h, m⟩ := h
  refine ⟨?_, m⟩
  cases h with
  | base h =>
    refine .base ?_
    cases h with
    | non => exact .non
    | bl b => exact .bl b
    | int i => exact .int i
    | str x => exact .str x
    | flt x => exact .flt x
    | lst h => exact .lst (s _ _ h)
    | frz h => exact .frz (s _ _ h)
    | tup h => exact .tup (s _ _ h)
    | dK h => exact .dK (s _ _ h)
    | dT h => exact .dT (s _ _ h)
  | byt b => exact .byt b
  | set h => exact .set (s _ _ h)
  | kList h1 h2 => exact .kList h1 h2
  | kTuple h1 h2 => exact .kTuple h1 h2
  | kDict h1 h2 => exact .kDict h1 h2
  | fTuple h => exact .fTuple (s _ _ h)
  | fDict h => exact .fDict (s _ _ h)
end
/-- isinstance(v, c), c one of the built-in kinds -/
theorem call_isiK {X : Cx} : CallR X (.builtin "isinstance") (fun xs H Q => ∃ v T c, xs = [v, .ty c] ∧ Knd X.K H v T ∧ c ∈ ["int", "bool", "str", "list", "tuple", "dict"] ∧ Q (.bl (isK T c)) H) :=
  CallR_imp call_isi fun xs H Q ⟨v, T, c, e, k, hc, q⟩ => ⟨v, .ty c, .type T, .type c, isK T c, e, .ty c, k.1, kit_all k.2 hc, q⟩
/-- a whole number from lo to hi -/
def withinV (v : V) (lo hi : Int) : Bool := match v with
  | .int i => decide (lo ≤ i) && decide (i ≤ hi)
  | _ => false
theorem call_reprB {X : Cx} : CallR X (.builtin "repr") (fun xs H Q => ∃ b : Bool, xs = [.bl b] ∧ Q (.str (if b then "True" else "False")) H) := by
  intro pins s σ H xs us Q I r h
  obtain ⟨b, rfl, q⟩ := h
  obtain ⟨u, rfl, rx⟩ := vals1 r
  cases (show u = Value.bool b from rx)
  exact PySem.P.repr_of_bool ⟨.str (if b then "True" else "False"), H, I.tok _, ⟨_, rfl⟩, q⟩
/-! ### data that can be compared -/
structure OkD (n : Nat) (d : PyData) : Prop where
  c : d.canLay0 = true
  d : d.depth ≤ n
theorem OkD.int {n : Nat} (i : Int) : OkD n (.int i) := ⟨rfl, Nat.zero_le _⟩
theorem OkD.bool {n : Nat} (i : Bool) : OkD n (.bool i) := ⟨rfl, Nat.zero_le _⟩
theorem OkD.none {n : Nat} : OkD n .none := ⟨rfl, Nat.zero_le _⟩
theorem OkD.all {n : Nat} : ∀ {ds : List PyData}, (∀ x ∈ ds, OkD n x) → PyData.canLayAll0 ds = true ∧ PyData.depthAll ds ≤ n
  | [], _ => ⟨rfl, Nat.zero_le _⟩
  | x :: r, h => by
    have h1 := h x (List.mem_cons_self ..)
    obtain ⟨a, b⟩ := OkD.all (ds := r) fun y hy => h y (List.mem_cons_of_mem _ hy)
    refine ⟨?_, ?_⟩
    · show (PyData.canLay0 x && PyData.canLayAll0 r) = true
      rw [h1.c, a]
      rfl
    · show max (PyData.depth x) (PyData.depthAll r) ≤ n
      have := h1.d
      omega
theorem OkD.tup {n : Nat} {ds : List PyData} (h : ∀ x ∈ ds, OkD n x) : OkD (n + 1) (.tuple ds) := ⟨(OkD.all h).1, Nat.succ_le_succ (OkD.all h).2⟩
theorem OkD.list {n : Nat} {ds : List PyData} (h : ∀ x ∈ ds, OkD n x) : OkD (n + 1) (.list ds) := ⟨(OkD.all h).1, Nat.succ_le_succ (OkD.all h).2⟩
theorem OkD.sh {n : Nat} {d : PyData} (h : OkD n d) (hn : n ≤ 64 := by decide) : SeqAt.shaped d = true := by
  unfold SeqAt.shaped
  have := h.d
  rw [h.c, decide_eq_true (by omega)]
  rfl
theorem OkD.pair (x y : Int) : OkD 1 (.tuple [.int x, .int y]) := .tup fun z hz => by
  simp only [List.mem_cons, List.not_mem_nil, or_false] at hz
  rcases hz with rfl | rfl
  · exact .int _
  · exact .int _
/-! ### t * k for any k up to 1000 -/
theorem tuple_mul1 (l : Addr) (items : Array Value) (n : Nat) (dd : Option Addr) (sl : Array (Option Value)) (u : Tok) :
    Meets (Builtin.«tuple.__mul__» ⟨[.ref l, .int 1 u], []⟩) (fun _ R z => z.heap.get? l = some { cls := .type "tuple", dict := dd, data := .seq items n, slots := sl } ∧ R (.ok (.ret (.ref l))) z) :=
  .of_wp fun prog w A R z hz => by
    obtain ⟨hp, g, d, tk, os⟩ := z
    obtain ⟨hl, h⟩ := hz
    have f1 := AutoSeq1.idx_int
    wp_walk using wpAny_loadPart' hl
    exact ⟨_, rfl, h⟩
theorem tuple_mul0 (l : Addr) (items : Array Value) (n : Nat) (dd : Option Addr) (sl : Array (Option Value)) (u : Tok) (hi : items.isEmpty = false) :
    Meets (Builtin.«tuple.__mul__» ⟨[.ref l, .int 0 u], []⟩) (fun _ R z => z.heap.get? l = some { cls := .type "tuple", dict := dd, data := .seq items n, slots := sl } ∧
      R (.ok (.ret (.ref z.heap.objs.size))) { z with heap := z.heap.push { cls := .type "tuple", data := .seq #[] } }) :=
  .of_wp fun prog w A R z hz => by
    obtain ⟨hp, g, d, tk, os⟩ := z
    obtain ⟨hl, h⟩ := hz
    have f1 := AutoSeq1.idx_int
    wp_walk using wpAny_loadPart' hl
    exact ⟨_, rfl, h⟩
theorem op_repU {X : Cx} : OpR X (binaryOp .Mult) (fun x y H Q => ∃ l k xs, x = .ref l ∧ y = .int k ∧ SqT X.K H l xs ∧ xs ≠ [] ∧ 0 ≤ k ∧ k ≤ 1000 ∧ xs.length ≤ 1000 ∧ NewT X.K (List.replicate k.toNat xs).flatten H Q) := by
  intro pins s σ H x y v u Q I rx ry h
  obtain ⟨l, k, xs, e1, e2, hT, hne, h1, h2, hz, q⟩ := h
  by_cases hk : 2 ≤ k
  · exact op_repT pins s σ H x y v u Q I rx ry ⟨l, k, xs, e1, e2, hT, hne, hk, h2, hz, newT q⟩
  subst e1 e2
  cases rx
  obtain ⟨t, rfl⟩ := ry
  obtain ⟨its, r, ⟨⟨cls, dd, data, sl⟩, ho, hc, n, hd⟩, hs⟩ := I.tuple hT
  simp only at hc hd
  subst hc hd
  have hle : its.length = xs.length := r.length.symm
  have hi : its.toArray.isEmpty = false := by
    cases its with
    | nil => exact absurd (List.eq_nil_of_length_eq_zero hle.symm) hne
    | cons a b => rfl
  by_cases h0 : k = 0
  · subst h0
    refine wpAny_binaryOp_repeat_ref (T := "tuple") (U := "int") (by decide) ⟨_, ho, rfl⟩ (fun s' => typeIs_int s' 0 t) noFill_tuple_mul F.fills_int_mul F.slot_int_rmul repeat_tuple F.slot_int_index.lookup
      (call_meets F.slot_int_rmul (typeIs_int s 0 t) F.entry_int_rmul (F.args_int_rmul_2 _ _) (int_rmul_tuple 0 t l its.toArray n dd sl)
        ⟨ho, rfl, ⟨_, ho, rfl⟩, call_meets F.slot_tuple_mul ⟨_, ho, rfl⟩ F.entry_tuple_mul (F.args_tuple_mul_2 _ _) (tuple_mul0 l its.toArray n dd sl t hi) ⟨ho, ?_⟩⟩)
    have new : ObjOk X.prog X.w (upd H s.heap.objs.size (.tup [])) (s.heap.push { cls := .type "tuple", data := .seq #[] }) s.heap.objs.size (.tup []) := ⟨Nat.zero_le _, [], .nil, IsTup.new _ _⟩
    exact ⟨.ref s.heap.objs.size, _, I.laid (t' := s.toks) (o := .tup []) (fun b ob z => Heap.get?_push_of_some _ z) (Nat.le_refl _) new, rfl, q _ _ (same_new (I.hok.fresh (Nat.le_refl _))) (SqT.of upd_same)⟩
  · have e : k = 1 := by omega
    subst e
    refine wpAny_binaryOp_repeat_ref (T := "tuple") (U := "int") (by decide) ⟨_, ho, rfl⟩ (fun s' => typeIs_int s' 1 t) noFill_tuple_mul F.fills_int_mul F.slot_int_rmul repeat_tuple F.slot_int_index.lookup
      (call_meets F.slot_int_rmul (typeIs_int s 1 t) F.entry_int_rmul (F.args_int_rmul_2 _ _) (int_rmul_tuple 1 t l its.toArray n dd sl)
        ⟨ho, rfl, ⟨_, ho, rfl⟩, call_meets F.slot_tuple_mul ⟨_, ho, rfl⟩ F.entry_tuple_mul (F.args_tuple_mul_2 _ _) (tuple_mul1 l its.toArray n dd sl t) ⟨ho, ?_⟩⟩)
    have e1 : (List.replicate (1 : Int).toNat xs).flatten = xs := by
      show (List.replicate 1 xs).flatten = xs
      simp
    exact ⟨.ref l, H, I.tok _, rfl, q l H (Same.refl H) (by rw [e1]; exact hT)⟩
end TB
namespace TB
open PySem PySem.Spec PyProof.Rows L2
/-! ### a statement, then what it leads to told by one sentence (so that ways that part meet again) -/
def jS (t : TS) : TS := fun D σ H => ∃ Pn : L2.St → Hp → Prop, t { D with nx := Pn } σ H ∧ ∀ σ' H', Pn σ' H' → D.nx σ' H'
theorem ps_join {X : Cx} {st : Stmt} {t : TS} (h : PS X st t) : PS X st (jS t) := ⟨fun pins s σ H D I hw => by
  obtain ⟨Pn, h1, h2⟩ := hw
  refine thn (h.run pins s σ H _ I h1) fun f s' hf => ?_
  cases f with
  | next =>
    obtain ⟨σ', H', I', q⟩ := hf
    exact ⟨σ', H', I', h2 _ _ q⟩
  | ret v => exact hf
  | brk => exact hf
  | cont => exact hf⟩
/-! ### a module's constant that is a written tuple -/
structure ConT (K : PySem.W.Frag) (mg : Str → Option Value) (x : Str) (xs : List V) where
  a : Addr
  g : mg x = some (.ref a)
  t : ∀ H, SqT K H a xs
def conT {K : PySem.W.Frag} {h : Heap} {mg : Str → Option Value} {x : Str} {xs : List V} (X : K.In h) (G : h.Ns mainGlobals mg) {a : Addr} {od : Option Addr} {its : Array Value} {n : Nat} {sl : Array (Option Value)}
    (v : PySem.W.nsIn K mainGlobals x = some (some (.ref a))) (l : K.lookup a = some ⟨.type "tuple", od, .seq its n, sl⟩) (hz : its.size ≤ 1000) (r : Vals xs its.toList) : ConT K mg x xs :=
  ⟨a, PySem.W.mg_of X G v, fun H => .inr ⟨_, its, n, l, rfl, rfl, Nat.le_trans hz (by decide), r⟩⟩
/-! ### the same rules, the facts named apart: for use inside comprehensions -/
section
variable {X : Cx} {K : PySem.W.Frag}
theorem pe_tupAK (hK : X.K = K) {es : List Expr} {t : TA} {x1} {pos : Pos} (h : PA X es t) : PE X (.Tuple es x1 pos) (tTupA K t) := by
  subst hK
  exact pe_tupA h
theorem op_in_seqK (hK : X.K = K) : OpR X (compareOp .In) (rIn K false) := by
  subst hK
  exact op_in_seq
theorem op_notIn_seqK (hK : X.K = K) : OpR X (compareOp .NotIn) (rIn K true) := by
  subst hK
  exact op_notIn_seq
theorem sl_listAK (hK : X.K = K) : L2.SlR X (fun x lo hi H Q => ∃ a xs, x = .ref a ∧ SqL K H a xs ∧ NewL (cutV xs lo hi) H Q) := by
  subst hK
  exact sl_listA
theorem sl_tupleAK (hK : X.K = K) : L2.SlR X (fun x lo hi H Q => ∃ a xs, x = .ref a ∧ SqT K H a xs ∧ NewT K (cutV xs lo hi) H Q) := by
  subst hK
  exact sl_tupleA
theorem call_tupleAK (hK : X.K = K) : CallR X (.type "tuple") (fun xs H Q => ∃ p ys, xs = [.ref p] ∧ (SqL K H p ys ∨ SqT K H p ys) ∧ NewT K ys H Q) := by
  subst hK
  exact call_tupleA
theorem call_listAK (hK : X.K = K) : CallR X (.type "list") (fun xs H Q => ∃ p ys, xs = [.ref p] ∧ (SqL K H p ys ∨ SqT K H p ys) ∧ NewL ys H Q) := by
  subst hK
  exact call_listA
theorem call_len_seqK (hK : X.K = K) : CallR X (.builtin "len") (fun xs H Q => ∃ p ys, xs = [.ref p] ∧ (SqL K H p ys ∨ SqT K H p ys) ∧ Q (.int ys.length) H) := by
  subst hK
  exact call_len_seq
theorem call_isiKK (hK : X.K = K) : CallR X (.builtin "isinstance") (fun xs H Q => ∃ v T c, xs = [v, .ty c] ∧ Knd K H v T ∧ c ∈ ["int", "bool", "str", "list", "tuple", "dict"] ∧ Q (.bl (isK T c)) H) := by
  subst hK
  exact call_isiK
theorem op_catUK (hK : X.K = K) : OpR X (binaryOp .Add) (fun x y H Q => ∃ a b xs ys, x = .ref a ∧ y = .ref b ∧ SqT K H a xs ∧ SqT K H b ys ∧ xs.length + ys.length ≤ sizeLine ∧ NewT K (xs ++ ys) H Q) := by
  subst hK
  exact op_catU
theorem op_repUK (hK : X.K = K) : OpR X (binaryOp .Mult) (fun x y H Q => ∃ l k xs, x = .ref l ∧ y = .int k ∧ SqT K H l xs ∧ xs ≠ [] ∧ 0 ≤ k ∧ k ≤ 1000 ∧ xs.length ≤ 1000 ∧ NewT K (List.replicate k.toNat xs).flatten H Q) := by
  subst hK
  exact op_repU
end
end TB
namespace TB
open PySem PySem.Spec PyProof.Rows L2
/-! ### rows of pairs of ints, each its own tuple -/
def pairV (p : Int × Int) : List V := [.int p.1, .int p.2]
structure PairsL (K : PySem.W.Frag) (H : Hp) (rs : List V) (ps : List (Int × Int)) : Prop where
  len : rs.length = ps.length
  at' : ∀ (i : Nat) r p, rs[i]? = some r → ps[i]? = some p → ∃ a, r = .ref a ∧ SqT K H a (pairV p)
section
variable {K : PySem.W.Frag} {H H' : Hp} {rs : List V} {ps : List (Int × Int)}
theorem PairsL.nil : PairsL K H [] [] := ⟨rfl, fun i r p e _ => nomatch e⟩
theorem PairsL.get (h : PairsL K H rs ps) {i : Nat} {r : V} (e : rs[i]? = some r) : ∃ p a, ps[i]? = some p ∧ r = .ref a ∧ SqT K H a (pairV p) := by
  have hi := (List.getElem?_eq_some_iff.mp e).1
  rw [h.len] at hi
  obtain ⟨a, e1, e2⟩ := h.at' i r ps[i] e (List.getElem?_eq_getElem hi)
  exact ⟨_, a, List.getElem?_eq_getElem hi, e1, e2⟩
theorem PairsL.get' (h : PairsL K H rs ps) {i : Nat} {p : Int × Int} (e : ps[i]? = some p) : ∃ a, rs[i]? = some (.ref a) ∧ SqT K H a (pairV p) := by
  have hi := (List.getElem?_eq_some_iff.mp e).1
  rw [← h.len] at hi
  obtain ⟨a, e1, e2⟩ := h.at' i rs[i] p (List.getElem?_eq_getElem hi) e
  exact ⟨a, by rw [List.getElem?_eq_getElem hi, e1], e2⟩
theorem PairsL.map (f : ∀ a xs, SqT K H a xs → SqT K H' a xs) (h : PairsL K H rs ps) : PairsL K H' rs ps := ⟨h.len, fun i r p e1 e2 => let ⟨a, e, t⟩ := h.at' i r p e1 e2; ⟨a, e, f _ _ t⟩⟩
theorem PairsL.same (s : Same H H') (h : PairsL K H rs ps) : PairsL K H' rs ps := h.map fun _ _ t => sT s t
theorem PairsL.snoc {a : Addr} {p : Int × Int} (h : PairsL K H rs ps) (t : SqT K H a (pairV p)) : PairsL K H (rs ++ [.ref a]) (ps ++ [p]) := by
  refine ⟨by simp [h.len], fun i r q e1 e2 => ?_⟩
  by_cases hi : i < rs.length
  · rw [List.getElem?_append_left hi] at e1
    rw [List.getElem?_append_left (by rw [← h.len]; exact hi)] at e2
    exact h.at' i r q e1 e2
  · rw [List.getElem?_append_right (by omega)] at e1
    rw [List.getElem?_append_right (by rw [← h.len]; omega), ← h.len] at e2
    cases e : i - rs.length with
    | zero =>
      rw [e] at e1 e2
      cases e1
      cases e2
      exact ⟨a, rfl, t⟩
    | succ j =>
      rw [e] at e1
      cases e1
theorem PairsL.take (h : PairsL K H rs ps) (n : Nat) : PairsL K H (rs.take n) (ps.take n) := by
  refine ⟨by rw [List.length_take, List.length_take, h.len], fun i r p e1 e2 => ?_⟩
  rw [List.getElem?_take] at e1 e2
  split at e1
  · rename_i hi
    rw [if_pos hi] at e2
    exact h.at' i r p e1 e2
  · cases e1
theorem PairsL.drop (h : PairsL K H rs ps) (n : Nat) : PairsL K H (rs.drop n) (ps.drop n) := by
  refine ⟨by rw [List.length_drop, List.length_drop, h.len], fun i r p e1 e2 => ?_⟩
  rw [List.getElem?_drop] at e1 e2
  exact h.at' _ r p e1 e2
theorem PairsL.set (h : PairsL K H rs ps) {i : Nat} {a : Addr} {p : Int × Int} (t : SqT K H a (pairV p)) : PairsL K H (rs.set i (.ref a)) (ps.set i p) := by
  refine ⟨by rw [List.length_set, List.length_set, h.len], fun j r q e1 e2 => ?_⟩
  rw [List.getElem?_set] at e1 e2
  by_cases hj : i = j
  · rw [if_pos hj] at e1 e2
    split at e1
    · cases e1
      split at e2
      · cases e2
        exact ⟨a, rfl, t⟩
      · cases e2
    · cases e1
  · rw [if_neg hj] at e1 e2
    exact h.at' j r q e1 e2
end
def pairD (p : Int × Int) : PyData := .tuple [.int p.1, .int p.2]
theorem PairsL.dp {K : PySem.W.Frag} {H : Hp} : ∀ {rs : List V} {ps : List (Int × Int)}, PairsL K H rs ps → DpAll K H rs (ps.map pairD)
  | [], [], _ => .nil
  | [], _ :: _, h => by cases h.len
  | _ :: _, [], h => by cases h.len
  | r :: rs, p :: ps, h => by
    obtain ⟨a, rfl, t⟩ := h.at' 0 r p rfl rfl
    exact .cons (dp2 t) (PairsL.dp ⟨Nat.succ.inj h.len, fun i r p e1 e2 => h.at' (i + 1) r p e1 e2⟩)
theorem pairD_okT (ps : List (Int × Int)) : OkD 2 (.tuple (ps.map pairD)) := .tup fun d hd => by
  obtain ⟨p, _, rfl⟩ := List.mem_map.mp hd
  exact .pair _ _
theorem pairD_okL (ps : List (Int × Int)) : OkD 2 (.list (ps.map pairD)) := .list fun d hd => by
  obtain ⟨p, _, rfl⟩ := List.mem_map.mp hd
  exact .pair _ _
/-- left != []: is there any -/
theorem nilD {α : Type} (f : α → PyData) (ps : List α) : PyData.eqv (.list (ps.map f)) (.list []) = ps.isEmpty := by
  cases ps <;> rfl
theorem PairsL.eraseIdx {K : PySem.W.Frag} {H : Hp} {rs : List V} {ps : List (Int × Int)} (h : PairsL K H rs ps) (i : Nat) : PairsL K H (rs.eraseIdx i) (ps.eraseIdx i) := by
  have hl := h.len
  refine ⟨by rw [List.length_eraseIdx, List.length_eraseIdx, hl], fun j r p e1 e2 => ?_⟩
  rw [List.getElem?_eraseIdx] at e1 e2
  by_cases hj : j < i
  · rw [if_pos hj] at e1 e2
    exact h.at' j r p e1 e2
  · rw [if_neg hj] at e1 e2
    exact h.at' (j + 1) r p e1 e2
theorem take_succ_of {α : Type} {xs : List α} {i : Nat} {x : α} (h : xs[i]? = some x) : xs.take (i + 1) = xs.take i ++ [x] := by
  rw [List.take_add_one, h]
  rfl
theorem filterMap_some {α β : Type} (f : α → β) (xs : List α) : xs.filterMap (fun x => some (f x)) = xs.map f := by
  induction xs with
  | nil => rfl
  | cons x r ih => simp [ih]
/-- what comes of each place -/
theorem range_filterMap {α β : Type} (f : α → Option β) : ∀ xs : List α, (List.range xs.length).filterMap (fun i => xs[i]?.bind f) = xs.filterMap f := by
  intro xs
  suffices h : ∀ n, n ≤ xs.length → (List.range n).filterMap (fun i => xs[i]?.bind f) = (xs.take n).filterMap f by
    rw [h _ (Nat.le_refl _), List.take_length]
  intro n
  induction n with
  | zero => intro _; simp
  | succ n ih =>
    intro hn
    have e : xs[n]? = some xs[n] := List.getElem?_eq_getElem (by omega)
    rw [range_snoc, ih (by omega), take_succ_of e, List.filterMap_append, e]
    congr 1
/-- [.. for .. in a tuple if ..]: what comes of each place told -/
theorem lc_tupO {K : PySem.W.Frag} {a : Addr} {xs : List V} {g : TG} {tt : TT} {te : TE} {vs : List Nat} {σ : L2.St} {H1 : Hp} {Qd : Addr → Hp → Prop} (hl : SqT K H1 a xs) (f : Nat → Option V) (hn : xs.length ≤ 100000)
    (hs : ∀ (i : Nat) x H, xs[i]? = some x → Same H1 H → ∀ (R : V → Hp → Prop) (N : Hp → Prop), (∀ v H', f i = some v → Same H H' → R v H') → (∀ H', f i = none → Same H H' → N H') →
      g x (wipe σ vs) H fun σ2 H2 => wipe σ2 vs = wipe σ vs ∧ tt σ2 H2 fun b H3 => if b = true then te σ2 H3 R else N H3)
    (hd : ∀ D H', Same H1 H' → H' D = some (.lst ((List.range xs.length).filterMap f)) → H1 D = none → Qd D H') :
    ∀ D, H1 D = none → ∃ W : Nat → Nat → Hp → Prop, (∃ m, W 0 m (upd H1 D (.lst []))) ∧ ∀ i m H, W i m H →
      ((Itt K a).stop i H ∧ Qd D H) ∨ ((Itt K a).go i H ∧ ∃ Nx : Hp → Prop, (∀ H', Nx H' → ∃ m', m' < m ∧ W (i + 1) m' H') ∧ ∀ x H', (Itt K a).yld i H x H' → g x (wipe σ vs) H' fun σ2 H2 => wipe σ2 vs = wipe σ vs ∧ tt σ2 H2 fun b H3 =>
        if b = true then te σ2 H3 fun y H4 => ∃ acc, H4 D = some (.lst acc) ∧ acc.length < sizeLine ∧ Nx (upd H4 D (.lst (acc ++ [y]))) else Nx H3) := fun D nD =>
  lc_tup (K := K) (a := a) (xs := xs) (fun i H => Same H1 H ∧ i ≤ xs.length ∧ H D = some (.lst ((List.range i).filterMap f))) ⟨same_new nD, Nat.zero_le _, upd_same⟩ (fun i H _ ⟨sm, _⟩ => sT sm hl) (fun i x H hx ⟨sm, hi, hD⟩ => by
    have hi' := (List.getElem?_eq_some_iff.mp hx).1
    refine hs i x H hx sm _ _ (fun v H' e s => ?_) (fun H' e s => ?_)
    · refine ⟨_, s _ _ hD, szlt ?_, fun b o hb => ?_, hi', ?_⟩
      · have := List.length_filterMap_le f (List.range i)
        rw [List.length_range] at this
        omega
      · rw [upd_ne (ne_of_none hb nD)]
        exact s _ _ (sm _ _ hb)
      · rw [upd_same, range_snoc, e]
        rfl
    · refine ⟨sm.trans s, hi', ?_⟩
      rw [range_snoc, e, s _ _ hD, Option.toList, List.append_nil]) fun H ⟨sm, _, hD⟩ => hd D H sm hD nD
/-- [.. for .. in range(n)] of new things: what each is stands -/
theorem lc_rangeR {n : Nat} {g : TG} {tt : TT} {te : TE} {vs : List Nat} {σ : L2.St} {H1 : Hp} {Qd : Addr → Hp → Prop} (R : Nat → V → Hp → Prop) (st : ∀ i v H H', Same H H' → R i v H → R i v H')
    (sm : ∀ i v H D ys zs, H D = some (.lst ys) → R i v H → R i v (upd H D (.lst zs))) (hn : n ≤ 100000)
    (hs : ∀ i H, i < n → Same H1 H → ∀ (Rk : V → Hp → Prop) (N : Hp → Prop), (∀ v H', Same H H' → R i v H' → Rk v H') →
      g (.int (i : Int)) (wipe σ vs) H fun σ2 H2 => wipe σ2 vs = wipe σ vs ∧ tt σ2 H2 fun b H3 => if b = true then te σ2 H3 Rk else N H3)
    (hd : ∀ D H' xs, Same H1 H' → H' D = some (.lst xs) → xs.length = n → (∀ i v, xs[i]? = some v → R i v H') → H1 D = none → Qd D H') :
    ∀ D, H1 D = none → ∃ W : Nat → Nat → Hp → Prop, (∃ m, W 0 m (upd H1 D (.lst []))) ∧ ∀ i m H, W i m H →
      ((Itr 0 n).stop i H ∧ Qd D H) ∨ ((Itr 0 n).go i H ∧ ∃ Nx : Hp → Prop, (∀ H', Nx H' → ∃ m', m' < m ∧ W (i + 1) m' H') ∧ ∀ x H', (Itr 0 n).yld i H x H' → g x (wipe σ vs) H' fun σ2 H2 => wipe σ2 vs = wipe σ vs ∧ tt σ2 H2 fun b H3 =>
        if b = true then te σ2 H3 fun y H4 => ∃ acc, H4 D = some (.lst acc) ∧ acc.length < sizeLine ∧ Nx (upd H4 D (.lst (acc ++ [y]))) else Nx H3) := fun D nD =>
  lc_rangeN (n := n) (fun i H => Same H1 H ∧ ∃ xs, H D = some (.lst xs) ∧ xs.length = i ∧ ∀ j v, xs[j]? = some v → R j v H) ⟨same_new nD, [], upd_same, rfl, fun j v e => nomatch e⟩ (fun i H hi ⟨s1, xs, hD, hl, hR⟩ => by
    refine hs i H hi s1 _ _ (fun v H' s2 r => ?_)
    · refine ⟨xs, s2 _ _ hD, szlt (by omega), fun b o hb => ?_, xs ++ [v], upd_same, by simp [hl], fun j u e => ?_⟩
      · rw [upd_ne (ne_of_none hb nD)]
        exact s2 _ _ (s1 _ _ hb)
      · by_cases hj : j < xs.length
        · rw [List.getElem?_append_left hj] at e
          exact sm _ _ _ _ _ _ (s2 _ _ hD) (st _ _ _ _ s2 (hR j u e))
        · rw [List.getElem?_append_right (by omega)] at e
          have hj' : j = i := by
            have := (List.getElem?_eq_some_iff.mp e).1
            simp at this
            omega
          subst hj'
          rw [show j - xs.length = 0 by omega] at e
          cases e
          exact sm _ _ _ _ _ _ (s2 _ _ hD) r) fun H ⟨s1, xs, hD, hl, hR⟩ => hd D H xs s1 hD hl hR nD
end TB
namespace TB
open PySem PySem.Spec PyProof.Rows L2
/-! ### only what stands in lists may have changed -/
structure LMut (H H' : Hp) : Prop where
  k : ∀ b o, H b = some o → (∀ xs, o ≠ .lst xs) → H' b = some o
  l : ∀ b xs, H b = some (.lst xs) → ∃ ys, H' b = some (.lst ys)
theorem LMut.refl (H : Hp) : LMut H H := ⟨fun _ _ e _ => e, fun _ xs e => ⟨xs, e⟩⟩
theorem LMut.trans {H H1 H2 : Hp} (a : LMut H H1) (b : LMut H1 H2) : LMut H H2 := ⟨fun c o e n => b.k c o (a.k c o e n) n, fun c xs e => let ⟨ys, e'⟩ := a.l c xs e; b.l c ys e'⟩
theorem LMut.of {H H' : Hp} (s : Same H H') : LMut H H' := ⟨fun b o e _ => s b o e, fun b xs e => ⟨xs, s _ _ e⟩⟩
theorem Ext.lm {d : Addr} {H H' : Hp} (x : Ext d H H') (hd : Dice H d) : LMut H H' := by
  obtain ⟨a1, a2, a3, e⟩ := hd
  obtain ⟨b1, b2, b3, e'⟩ := x.d
  refine ⟨fun b o eb n => x.s b o (fun z => ?_) eb, fun b xs eb => ?_⟩
  · rw [z, e] at eb
    cases eb
    exact n _ rfl
  · by_cases hb : b = d
    · rw [hb]
      exact ⟨_, e'⟩
    · exact ⟨xs, x.s b _ hb eb⟩
theorem LMut.mut {H : Hp} {l : Addr} {ys : List V} (zs : List V) (h : H l = some (.lst ys)) : LMut H (upd H l (.lst zs)) := by
  refine ⟨fun b o eb n => ?_, fun b xs eb => ?_⟩
  · have nb : b ≠ l := fun z => by
      rw [z, h] at eb
      cases eb
      exact n _ rfl
    rw [upd_ne nb]
    exact eb
  · by_cases hb : b = l
    · rw [hb]
      exact ⟨zs, upd_same⟩
    · exact ⟨xs, by rw [upd_ne hb]; exact eb⟩
section
variable {K : PySem.W.Frag} {H H' : Hp} {a : Addr} {xs : List V} {v : V} {T : String}
theorem LMut.seqT (m : LMut H H') (h : SqT K H a xs) : SqT K H' a xs := by
  rcases h with (h | ⟨o, h⟩) | h
  · exact .inl (.inl (m.k _ _ h fun ys z => by cases z))
  · exact .inl (.inr ⟨o, m.k _ _ h fun ys z => by cases z⟩)
  · exact .inr h
theorem LMut.pairs {rs : List V} {ps : List (Int × Int)} (m : LMut H H') (h : PairsL K H rs ps) : PairsL K H' rs ps := h.map fun a xs t => m.seqT t
theorem LMut.knd (m : LMut H H') (h : Knd K H v T) : Knd K H' v T := by
  obtain ⟨h, hm⟩ := h
  refine ⟨?_, hm⟩
  cases h with
  | base h =>
    cases h with
    | non => exact .base .non
    | bl b => exact .base (.bl b)
    | int i => exact .base (.int i)
    | str x => exact .base (.str x)
    | flt x => exact .base (.flt x)
    | lst h =>
      obtain ⟨ys, e⟩ := m.l _ _ h
      exact .base (.lst e)
    | frz h => exact .base (.frz (m.k _ _ h fun ys z => by cases z))
    | tup h => exact .base (.tup (m.k _ _ h fun ys z => by cases z))
    | dK h => exact .base (.dK (m.k _ _ h fun ys z => by cases z))
    | dT h => exact .base (.dT (m.k _ _ h fun ys z => by cases z))
  | byt b => exact .byt b
  | set h => exact .set (m.k _ _ h fun ys z => by cases z)
  | kList h1 h2 => exact .kList h1 h2
  | kTuple h1 h2 => exact .kTuple h1 h2
  | kDict h1 h2 => exact .kDict h1 h2
  | fTuple h => exact .fTuple (m.k _ _ h fun ys z => by cases z)
  | fDict h => exact .fDict (m.k _ _ h fun ys z => by cases z)
end
/-- [.. for .. in a tuple] of new things: what each is stands -/
theorem lc_tupR {K : PySem.W.Frag} {a : Addr} {xs : List V} {g : TG} {tt : TT} {te : TE} {vs : List Nat} {σ : L2.St} {H1 : Hp} {Qd : Addr → Hp → Prop} (hl : SqT K H1 a xs) (R : Nat → V → Hp → Prop) (st : ∀ i v H H', LMut H H' → R i v H → R i v H') (hn : xs.length ≤ 100000)
    (hs : ∀ (i : Nat) x H, xs[i]? = some x → Same H1 H → ∀ (Rk : V → Hp → Prop) (N : Hp → Prop), (∀ v H', Same H H' → R i v H' → Rk v H') →
      g x (wipe σ vs) H fun σ2 H2 => wipe σ2 vs = wipe σ vs ∧ tt σ2 H2 fun b H3 => if b = true then te σ2 H3 Rk else N H3)
    (hd : ∀ D H' ys, Same H1 H' → H' D = some (.lst ys) → ys.length = xs.length → (∀ i v, ys[i]? = some v → R i v H') → H1 D = none → Qd D H') :
    ∀ D, H1 D = none → ∃ W : Nat → Nat → Hp → Prop, (∃ m, W 0 m (upd H1 D (.lst []))) ∧ ∀ i m H, W i m H →
      ((Itt K a).stop i H ∧ Qd D H) ∨ ((Itt K a).go i H ∧ ∃ Nx : Hp → Prop, (∀ H', Nx H' → ∃ m', m' < m ∧ W (i + 1) m' H') ∧ ∀ x H', (Itt K a).yld i H x H' → g x (wipe σ vs) H' fun σ2 H2 => wipe σ2 vs = wipe σ vs ∧ tt σ2 H2 fun b H3 =>
        if b = true then te σ2 H3 fun y H4 => ∃ acc, H4 D = some (.lst acc) ∧ acc.length < sizeLine ∧ Nx (upd H4 D (.lst (acc ++ [y]))) else Nx H3) := fun D nD =>
  lc_tup (K := K) (a := a) (xs := xs) (fun i H => Same H1 H ∧ ∃ ys, H D = some (.lst ys) ∧ ys.length = i ∧ ∀ j v, ys[j]? = some v → R j v H) ⟨same_new nD, [], upd_same, rfl, fun j v e => nomatch e⟩ (fun i H _ ⟨sm, _⟩ => sT sm hl) (fun i x H hx ⟨s1, ys, hD, hl, hR⟩ => by
    have hi := (List.getElem?_eq_some_iff.mp hx).1
    refine hs i x H hx s1 _ _ (fun v H' s2 r => ?_)
    refine ⟨ys, s2 _ _ hD, szlt (by omega), fun b o hb => ?_, ys ++ [v], upd_same, by simp [hl], fun j u e => ?_⟩
    · rw [upd_ne (ne_of_none hb nD)]
      exact s2 _ _ (s1 _ _ hb)
    · have lm := LMut.mut (ys ++ [v]) (s2 _ _ hD)
      by_cases hj : j < ys.length
      · rw [List.getElem?_append_left hj] at e
        exact st _ _ _ _ ((LMut.of s2).trans lm) (hR j u e)
      · rw [List.getElem?_append_right (by omega)] at e
        have hj' : j = i := by
          have := (List.getElem?_eq_some_iff.mp e).1
          simp at this
          omega
        subst hj'
        rw [show j - ys.length = 0 by omega] at e
        cases e
        exact st _ _ _ _ lm r) fun H ⟨s1, ys, hD, hl, hR⟩ => hd D H ys s1 hD hl hR nD
end TB
namespace PL
open PySem PySem.Spec PyProof.Rows L2 TB
/-! ### data without a heap -/
inductive D where
  | non | bl (b : Bool) | int (i : Int) | str (x : Str) | opq (v : V)
  | tup (ds : List D) | ktup (ds : List D) | lst (ds : List D) | arr (ds : List D) | dct (kvs : List (Key × D)) | dcu (kvs : List (List Key × D))
mutual
inductive Rep (K : PySem.W.Frag) (H : Hp) : V → D → Prop
  | non : Rep K H .non .non
  | bl (b : Bool) : Rep K H (.bl b) (.bl b)
  | int (i : Int) : Rep K H (.int i) (.int i)
  | str (x : Str) : Rep K H (.str x) (.str x)
  | opq (v : V) : Rep K H v (.opq v)
  | tup {a : Addr} {xs : List V} {ds : List D} : H a = some (.tup xs) → RepAll K H xs ds → Rep K H (.ref a) (.tup ds)
  | ktup {a : Addr} {xs : List V} {ds : List D} : (∀ H', SqT K H' a xs) → RepAll K H xs ds → Rep K H (.ref a) (.ktup ds)
  | lst {a : Addr} {xs : List V} {ds : List D} : H a = some (.lst xs) → RepAll K H xs ds → Rep K H (.ref a) (.lst ds)
  | arr {a : Addr} {xs : List V} {ds : List D} : SqL K H a xs → RepAll K H xs ds → Rep K H (.ref a) (.arr ds)
  | dct {a : Addr} {kvs : List (Key × V)} {es : List (Key × D)} : Rd H a (.dK kvs) → RepKV K H kvs es → Rep K H (.ref a) (.dct es)
  | dcu {a : Addr} {kvs : List (List Key × V)} {es : List (List Key × D)} : Rd H a (.dT kvs) → RepKT K H kvs es → Rep K H (.ref a) (.dcu es)
inductive RepAll (K : PySem.W.Frag) (H : Hp) : List V → List D → Prop
  | nil : RepAll K H [] []
  | cons {v : V} {vs : List V} {d : D} {ds : List D} : Rep K H v d → RepAll K H vs ds → RepAll K H (v :: vs) (d :: ds)
inductive RepKV (K : PySem.W.Frag) (H : Hp) : List (Key × V) → List (Key × D) → Prop
  | nil : RepKV K H [] []
  | cons {k : Key} {v : V} {vs : List (Key × V)} {d : D} {ds : List (Key × D)} : Rep K H v d → RepKV K H vs ds → RepKV K H ((k, v) :: vs) ((k, d) :: ds)
inductive RepKT (K : PySem.W.Frag) (H : Hp) : List (List Key × V) → List (List Key × D) → Prop
  | nil : RepKT K H [] []
  | cons {k : List Key} {v : V} {vs : List (List Key × V)} {d : D} {ds : List (List Key × D)} : Rep K H v d → RepKT K H vs ds → RepKT K H ((k, v) :: vs) ((k, d) :: ds)
end
/-- the same data may be read -/
structure RdS (H H' : Hp) : Prop where
  t : ∀ a xs, H a = some (.tup xs) → H' a = some (.tup xs)
  l : ∀ a xs, Rd H a (.lst xs) → Rd H' a (.lst xs)
  l' : ∀ a xs, H a = some (.lst xs) → H' a = some (.lst xs)
  k : ∀ a kvs, Rd H a (.dK kvs) → Rd H' a (.dK kvs)
  u : ∀ a kvs, Rd H a (.dT kvs) → Rd H' a (.dT kvs)
theorem Rd.same {H H' : Hp} (s : Same H H') {a : Addr} {u : HO} : Rd H a u → Rd H' a u
  | .inl h => .inl (s _ _ h)
  | .inr ⟨o, h⟩ => .inr ⟨o, s _ _ h⟩
theorem RdS.of {H H' : Hp} (s : Same H H') : RdS H H' := ⟨fun _ _ e => s _ _ e, fun _ _ => Rd.same s, fun _ _ e => s _ _ e, fun _ _ => Rd.same s, fun _ _ => Rd.same s⟩
mutual
theorem Rep.rd {K : PySem.W.Frag} {H H' : Hp} (s : RdS H H') : ∀ (d : D) (v : V), Rep K H v d → Rep K H' v d
  | .non, _, h => by cases h; exact .non
  | .bl b, _, h => by cases h; exact .bl b
  | .int i, _, h => by cases h; exact .int i
  | .str x, _, h => by cases h; exact .str x
  | .opq v, _, h => by cases h; exact .opq v
  | .tup ds, _, h => by
    cases h with
    | tup h1 h2 => exact .tup (s.t _ _ h1) (RepAll.rd s ds _ h2)
  | .ktup ds, _, h => by
    cases h with
    | ktup h1 h2 => exact .ktup h1 (RepAll.rd s ds _ h2)
  | .lst ds, _, h => by
    cases h with
    | lst h1 h2 => exact .lst (s.l' _ _ h1) (RepAll.rd s ds _ h2)
  | .arr ds, _, h => by
    cases h with
    | arr h1 h2 => exact .arr (h1.elim (fun z => .inl (s.l _ _ z)) .inr) (RepAll.rd s ds _ h2)
  | .dct es, _, h => by
    cases h with
    | dct h1 h2 => exact .dct (s.k _ _ h1) (RepKV.rd s es _ h2)
  | .dcu es, _, h => by
    cases h with
    | dcu h1 h2 => exact .dcu (s.u _ _ h1) (RepKT.rd s es _ h2)
theorem RepAll.rd {K : PySem.W.Frag} {H H' : Hp} (s : RdS H H') : ∀ (ds : List D) (vs : List V), RepAll K H vs ds → RepAll K H' vs ds
  | [], _, h => by cases h; exact .nil
  | d :: ds, _, h => by
    cases h with
    | cons h1 h2 => exact .cons (Rep.rd s d _ h1) (RepAll.rd s ds _ h2)
theorem RepKV.rd {K : PySem.W.Frag} {H H' : Hp} (s : RdS H H') : ∀ (es : List (Key × D)) (kvs : List (Key × V)), RepKV K H kvs es → RepKV K H' kvs es
  | [], _, h => by cases h; exact .nil
  | (k, d) :: ds, _, h => by
    cases h with
    | cons h1 h2 => exact .cons (Rep.rd s d _ h1) (RepKV.rd s ds _ h2)
theorem RepKT.rd {K : PySem.W.Frag} {H H' : Hp} (s : RdS H H') : ∀ (es : List (List Key × D)) (kvs : List (List Key × V)), RepKT K H kvs es → RepKT K H' kvs es
  | [], _, h => by cases h; exact .nil
  | (k, d) :: ds, _, h => by
    cases h with
    | cons h1 h2 => exact .cons (Rep.rd s d _ h1) (RepKT.rd s ds _ h2)
end
theorem Rep.mono {K : PySem.W.Frag} {H H' : Hp} (s : Same H H') (d : D) (v : V) (h : Rep K H v d) : Rep K H' v d := Rep.rd (.of s) d v h
theorem RepAll.mono {K : PySem.W.Frag} {H H' : Hp} (s : Same H H') (ds : List D) (vs : List V) (h : RepAll K H vs ds) : RepAll K H' vs ds := RepAll.rd (.of s) ds vs h
theorem RepKV.mono {K : PySem.W.Frag} {H H' : Hp} (s : Same H H') (es : List (Key × D)) (kvs : List (Key × V)) (h : RepKV K H kvs es) : RepKV K H' kvs es := RepKV.rd (.of s) es kvs h
theorem RepKT.mono {K : PySem.W.Frag} {H H' : Hp} (s : Same H H') (es : List (List Key × D)) (kvs : List (List Key × V)) (h : RepKT K H kvs es) : RepKT K H' kvs es := RepKT.rd (.of s) es kvs h
section
variable {K : PySem.W.Frag} {H : Hp}
theorem RepAll.len : ∀ {vs : List V} {ds : List D}, RepAll K H vs ds → vs.length = ds.length
  | _, _, .nil => rfl
  | _, _, .cons _ h => congrArg Nat.succ h.len
theorem RepAll.get : ∀ {vs : List V} {ds : List D} {i : Nat} {d : D}, RepAll K H vs ds → ds[i]? = some d → ∃ v, vs[i]? = some v ∧ Rep K H v d
  | _, _, 0, _, .cons h _, e => by cases e; exact ⟨_, rfl, h⟩
  | _, _, i + 1, _, .cons _ h, e => RepAll.get (i := i) h e
theorem RepAll.get' : ∀ {vs : List V} {ds : List D} {i : Nat} {v : V}, RepAll K H vs ds → vs[i]? = some v → ∃ d, ds[i]? = some d ∧ Rep K H v d
  | _, _, 0, _, .cons h _, e => by cases e; exact ⟨_, rfl, h⟩
  | _, _, i + 1, _, .cons _ h, e => RepAll.get' (i := i) h e
theorem RepAll.append : ∀ {vs ws : List V} {ds es : List D}, RepAll K H vs ds → RepAll K H ws es → RepAll K H (vs ++ ws) (ds ++ es)
  | _, _, _, _, .nil, h => h
  | _, _, _, _, .cons h1 h2, h => .cons h1 (h2.append h)
theorem RepAll.take : ∀ {vs : List V} {ds : List D} (n : Nat), RepAll K H vs ds → RepAll K H (vs.take n) (ds.take n)
  | _, _, 0, _ => .nil
  | _, _, _ + 1, .nil => .nil
  | _, _, n + 1, .cons h t => .cons h (t.take n)
theorem RepAll.drop : ∀ {vs : List V} {ds : List D} (n : Nat), RepAll K H vs ds → RepAll K H (vs.drop n) (ds.drop n)
  | _, _, 0, h => h
  | _, _, _ + 1, .nil => .nil
  | _, _, n + 1, .cons _ t => RepAll.drop n t
theorem RepAll.one {v : V} {d : D} (h : Rep K H v d) : RepAll K H [v] [d] := .cons h .nil
theorem RepAll.reverse {vs : List V} {ds : List D} (h : RepAll K H vs ds) : RepAll K H vs.reverse ds.reverse := by
  induction h using RepAll.rec (motive_1 := fun _ _ _ => True) (motive_3 := fun _ _ _ => True) (motive_4 := fun _ _ _ => True) with
  | nil => exact .nil
  | cons h1 _ _ ih => rw [List.reverse_cons, List.reverse_cons]; exact ih.append (.one h1)
  | _ => trivial
theorem RepAll.set : ∀ {vs : List V} {ds : List D} {v : V} {d : D} (i : Nat), RepAll K H vs ds → Rep K H v d → RepAll K H (vs.set i v) (ds.set i d)
  | _, _, _, _, _, .nil, _ => .nil
  | _, _, _, _, 0, .cons _ t, h => .cons h t
  | _, _, _, _, i + 1, .cons h0 t, h => .cons h0 (t.set i h)
theorem RepAll.eraseIdx : ∀ {vs : List V} {ds : List D} (i : Nat), RepAll K H vs ds → RepAll K H (vs.eraseIdx i) (ds.eraseIdx i)
  | _, _, _, .nil => .nil
  | _, _, 0, .cons _ t => t
  | _, _, i + 1, .cons h t => .cons h (t.eraseIdx i)
theorem RepAll.rep {v : V} {d : D} (h : Rep K H v d) : ∀ n, RepAll K H (List.replicate n v) (List.replicate n d)
  | 0 => .nil
  | n + 1 => .cons h (RepAll.rep h n)
end
/-! ### what a frame's slots hold: data, or an object of the frame's own that it changes -/
inductive M where
  | lst (ds : List D) | dct (kvs : List (Key × D)) | dcu (kvs : List (List Key × D)) | dice
inductive Cell where
  | no | val (d : D) | own (m : M) | io (a : Addr) (m : M) | lck (a : Addr) (m : M)
def MAt (K : PySem.W.Frag) (Hb H : Hp) (a : Addr) : M → Prop
  | .lst ds => ∃ vs, H a = some (.lst vs) ∧ RepAll K Hb vs ds
  | .dct es => ∃ kvs, H a = some (.dK kvs) ∧ RepKV K Hb kvs es
  | .dcu es => ∃ kvs, H a = some (.dT kvs) ∧ RepKT K Hb kvs es
  | .dice => Dice H a
theorem MAt.ne {K : PySem.W.Frag} {Hb H : Hp} {a : Addr} : ∀ {m : M}, MAt K Hb H a m → H a ≠ none
  | .lst _, ⟨_, e, _⟩ => by rw [e]; exact fun z => nomatch z
  | .dct _, ⟨_, e, _⟩ => by rw [e]; exact fun z => nomatch z
  | .dcu _, ⟨_, e, _⟩ => by rw [e]; exact fun z => nomatch z
  | .dice, ⟨_, _, _, e⟩ => by rw [e]; exact fun z => nomatch z
theorem MAt.noTup {K : PySem.W.Frag} {Hb H : Hp} {a : Addr} {xs : List V} : ∀ {m : M}, MAt K Hb H a m → Rd H a (.tup xs) → False
  | .lst _, ⟨_, e, _⟩, r => by rcases r with r | ⟨o, r⟩ <;> (rw [e] at r; cases r)
  | .dct _, ⟨_, e, _⟩, r => by rcases r with r | ⟨o, r⟩ <;> (rw [e] at r; cases r)
  | .dcu _, ⟨_, e, _⟩, r => by rcases r with r | ⟨o, r⟩ <;> (rw [e] at r; cases r)
  | .dice, ⟨_, _, _, e⟩, r => by rcases r with r | ⟨o, r⟩ <;> (rw [e] at r; cases r)
theorem MAt.mono {K : PySem.W.Frag} {Hb Hb' H H' : Hp} {a : Addr} (b : Same Hb Hb') (e : ∀ o, H a = some o → H' a = some o) : ∀ {m : M}, MAt K Hb H a m → MAt K Hb' H' a m
  | .lst _, ⟨_, e1, r⟩ => ⟨_, e _ e1, RepAll.mono b _ _ r⟩
  | .dct _, ⟨_, e1, r⟩ => ⟨_, e _ e1, RepKV.mono b _ _ r⟩
  | .dcu _, ⟨_, e1, r⟩ => ⟨_, e _ e1, RepKT.mono b _ _ r⟩
  | .dice, ⟨_, _, _, e1⟩ => ⟨_, _, _, e _ e1⟩
/-- where a frame stands: what must stay (fr), what may become data (al) -/
structure Fx where
  K : PySem.W.Frag
  fr : Hp
  al : Addr → Prop
/-- a dict's object is told by the frame alone (it is locked) -/
def DictIs (K : PySem.W.Frag) (Hb : Hp) (u : HO) : M → Prop
  | .dct es => ∃ kvs, u = .dK kvs ∧ RepKV K Hb kvs es
  | .dcu es => ∃ kvs, u = .dT kvs ∧ RepKT K Hb kvs es
  | _ => False
theorem DictIs.mono {K : PySem.W.Frag} {Hb Hb' : Hp} {u : HO} (b : Same Hb Hb') : ∀ {m : M}, DictIs K Hb u m → DictIs K Hb' u m
  | .dct _, ⟨kvs, e, r⟩ => ⟨kvs, e, RepKV.mono b _ _ r⟩
  | .dcu _, ⟨kvs, e, r⟩ => ⟨kvs, e, RepKT.mono b _ _ r⟩
  | .lst _, h => h.elim
  | .dice, h => h.elim
def CellAt (F : Fx) (H Hb : Hp) (v : Option V) : Cell → Prop
  | .no => True
  | .val d => ∃ x, v = some x ∧ Rep F.K Hb x d
  | .own m => ∃ a, v = some (.ref a) ∧ MAt F.K Hb H a m ∧ Hb a = none ∧ F.fr a = none ∧ F.al a
  | .io a m => v = some (.ref a) ∧ MAt F.K Hb H a m ∧ Hb a = none ∧ F.fr a = none
  | .lck a m => v = some (.ref a) ∧ ∃ o u, F.fr a = some (.frz o u) ∧ DictIs F.K Hb u m
def Cell.mine : Cell → Bool
  | .own _ => true
  | .io _ _ => true
  | _ => false
structure R (F : Fx) (σ : L2.St) (H Hb : Hp) (ρ : List Cell) : Prop where
  sub : Same Hb H
  fr : Same F.fr H
  al : ∀ b, Hb b ≠ none → F.al b ∨ ∃ xs, Rd H b (.tup xs)
  nw : ∀ b, H b = none → F.al b
  len : σ.length = ρ.length
  cell : ∀ (i : Nat) c v, ρ[i]? = some c → σ[i]? = some v → CellAt F H Hb v c
  dis : ∀ (i j : Nat) c d a, i ≠ j → ρ[i]? = some c → ρ[j]? = some d → c.mine = true → d.mine = true → σ[i]? = some (some (.ref a)) → σ[j]? ≠ some (some (.ref a))
/-- more data, nothing else -/
structure Gr (H Hb H' Hb' : Hp) : Prop where
  s : Same H H'
  b : Same Hb Hb'
  sub : Same Hb' H'
  nw : ∀ a, Hb' a ≠ none → Hb a ≠ none ∨ H a = none ∨ ∃ xs, Rd H' a (.tup xs)
theorem Gr.refl {H Hb : Hp} (h : Same Hb H) : Gr H Hb H Hb := ⟨Same.refl _, Same.refl _, h, fun _ e => .inl e⟩
theorem Gr.trans {H Hb H1 Hb1 H2 Hb2 : Hp} (g : Gr H Hb H1 Hb1) (k : Gr H1 Hb1 H2 Hb2) : Gr H Hb H2 Hb2 := ⟨g.s.trans k.s, g.b.trans k.b, k.sub, fun a e => by
  rcases k.nw a e with e | e | e
  · rcases g.nw a e with e | e | ⟨xs, e⟩
    · exact .inl e
    · exact .inr (.inl e)
    · exact .inr (.inr ⟨xs, Rd.same k.s e⟩)
  · right
    left
    cases q : H a with
    | none => rfl
    | some o => rw [g.s _ _ q] at e; cases e
  · exact .inr (.inr e)⟩
/-- a new object that is data -/
theorem Gr.new {H Hb : Hp} {p : Addr} {o : HO} (h : Same Hb H) (n : H p = none) : Gr H Hb (upd H p o) (upd Hb p o) := by
  have nb : Hb p = none := by
    cases q : Hb p with
    | none => rfl
    | some o => rw [h _ _ q] at n; cases n
  refine ⟨same_new n, same_new nb, fun b u e => ?_, fun b e => ?_⟩
  · by_cases hb : b = p
    · subst hb
      rw [upd_same] at e ⊢
      exact e
    · rw [upd_ne hb] at e ⊢
      exact h _ _ e
  · by_cases hb : b = p
    · subst hb; exact .inr (.inl n)
    · rw [upd_ne hb] at e; exact .inl e
/-- a new object in H' is laid as data as well -/
theorem Gr.at {H Hb H' : Hp} {p : Addr} {o : HO} (h : Same Hb H) (s : Same H H') (n : H p = none) (e : H' p = some o) : Gr H Hb H' (upd Hb p o) := by
  have nb : Hb p = none := by
    cases q : Hb p with
    | none => rfl
    | some o => rw [h _ _ q] at n; cases n
  refine ⟨s, same_new nb, fun b u e2 => ?_, fun b e2 => ?_⟩
  · by_cases hb : b = p
    · subst hb
      rw [upd_same] at e2
      cases e2
      exact e
    · rw [upd_ne hb] at e2
      exact s _ _ (h _ _ e2)
  · by_cases hb : b = p
    · subst hb; exact .inr (.inl n)
    · rw [upd_ne hb] at e2; exact .inl e2
/-- a tuple that stands is data -/
def with1 (Hb H : Hp) (p : Addr) : Hp := fun b => if b = p then H p else Hb b
theorem Gr.tupS {H Hb H' : Hp} {p : Addr} {xs : List V} (h : Same Hb H) (s : Same H H') (t : H' p = some (.tup xs)) : ∃ Hb', Gr H Hb H' Hb' ∧ Hb' p = some (.tup xs) := by
  have e : with1 Hb H' p p = H' p := if_pos rfl
  refine ⟨with1 Hb H' p, ⟨s, fun b o eb => ?_, fun b o eb => ?_, fun b eb => ?_⟩, e.trans t⟩
  · unfold with1
    by_cases hb : b = p
    · rw [if_pos hb, ← hb]; exact s _ _ (h _ _ eb)
    · rw [if_neg hb]; exact eb
  · unfold with1 at eb
    by_cases hb : b = p
    · rw [if_pos hb] at eb; rw [hb]; exact eb
    · rw [if_neg hb] at eb; exact s _ _ (h _ _ eb)
  · unfold with1 at eb
    by_cases hb : b = p
    · exact .inr (.inr ⟨xs, .inl (by rw [hb]; exact t)⟩)
    · rw [if_neg hb] at eb; exact .inl eb
theorem nonne {α : Type} {o : Option α} : o ≠ none → ∃ x, o = some x := by
  cases o with
  | none => exact fun h => absurd rfl h
  | some x => exact fun _ => ⟨x, rfl⟩
section
variable {F : Fx} {σ : L2.St} {H Hb H' Hb' : Hp} {ρ : List Cell}
theorem CellAt.grow {v : Option V} {c : Cell} (g : Gr H Hb H' Hb') (h : CellAt F H Hb v c) : CellAt F H' Hb' v c := by
  have key : ∀ a {m : M}, MAt F.K Hb H a m → Hb a = none → Hb' a = none := fun a _ n e => by
    cases q : Hb' a with
    | none => rfl
    | some o =>
      rcases g.nw a (by rw [q]; exact fun z => nomatch z) with z | z | ⟨xs, z⟩
      · exact absurd e z
      · exact absurd z (MAt.ne n)
      · exact (MAt.noTup (MAt.mono g.b (fun o => g.s a o) n) z).elim
  cases c with
  | no => trivial
  | val d => obtain ⟨x, e, r⟩ := h; exact ⟨x, e, Rep.mono g.b _ _ r⟩
  | own m => obtain ⟨a, e, m1, n, f, al⟩ := h; exact ⟨a, e, MAt.mono g.b (fun o => g.s a o) m1, key a m1 n, f, al⟩
  | io a m => obtain ⟨e, m1, n, f⟩ := h; exact ⟨e, MAt.mono g.b (fun o => g.s a o) m1, key a m1 n, f⟩
  | lck a m => obtain ⟨e, o, u, f, d⟩ := h; exact ⟨e, o, u, f, d.mono g.b⟩
theorem R.grow (r : R F σ H Hb ρ) (g : Gr H Hb H' Hb') : R F σ H' Hb' ρ := by
  refine ⟨g.sub, r.fr.trans g.s, fun b e => ?_, fun b e => ?_, r.len, fun i c v e1 e2 => (r.cell i c v e1 e2).grow g, r.dis⟩
  · rcases g.nw b e with z | z | z
    · rcases r.al b z with z | ⟨xs, z⟩
      · exact .inl z
      · exact .inr ⟨xs, Rd.same g.s z⟩
    · exact .inl (r.nw b z)
    · exact .inr z
  · refine r.nw b ?_
    cases q : H b with
    | none => rfl
    | some o => rw [g.s _ _ q] at e; cases e
/-- a slot takes data -/
theorem R.setV (r : R F σ H Hb ρ) {v : V} {d : D} (h : Rep F.K Hb v d) (i : Nat) : R F (σ.set i (some v)) H Hb (ρ.set i (.val d)) := by
  refine ⟨r.sub, r.fr, r.al, r.nw, by rw [List.length_set, List.length_set]; exact r.len, fun j c x e1 e2 => ?_, fun j k c d' a n e1 e2 m1 m2 f1 => ?_⟩
  · rw [List.getElem?_set] at e1 e2
    by_cases hj : i = j
    · rw [if_pos hj] at e1 e2
      split at e1
      · split at e2
        · cases e1
          cases e2
          exact ⟨v, rfl, h⟩
        · cases e2
      · cases e1
    · rw [if_neg hj] at e1 e2
      exact r.cell j c x e1 e2
  · rw [List.getElem?_set] at e1 e2 f1 ⊢
    by_cases hj : i = j
    · rw [if_pos hj] at e1
      split at e1
      · cases e1; cases m1
      · cases e1
    · rw [if_neg hj] at e1 f1
      by_cases hk : i = k
      · rw [if_pos hk] at e2
        split at e2
        · cases e2; cases m2
        · cases e2
      · rw [if_neg hk] at e2 ⊢
        exact r.dis j k c d' a n e1 e2 m1 m2 f1
/-- a slot is forgotten -/
theorem R.forget (r : R F σ H Hb ρ) (i : Nat) (x : Option V) : R F (σ.set i x) H Hb (ρ.set i .no) := by
  refine ⟨r.sub, r.fr, r.al, r.nw, by rw [List.length_set, List.length_set]; exact r.len, fun j c x e1 e2 => ?_, fun j k c d' a n e1 e2 m1 m2 f1 => ?_⟩
  · rw [List.getElem?_set] at e1 e2
    by_cases hj : i = j
    · rw [if_pos hj] at e1
      split at e1
      · cases e1; trivial
      · cases e1
    · rw [if_neg hj] at e1 e2
      exact r.cell j c x e1 e2
  · rw [List.getElem?_set] at e1 e2 f1 ⊢
    by_cases hj : i = j
    · rw [if_pos hj] at e1
      split at e1
      · cases e1; cases m1
      · cases e1
    · rw [if_neg hj] at e1 f1
      by_cases hk : i = k
      · rw [if_pos hk] at e2
        split at e2
        · cases e2; cases m2
        · cases e2
      · rw [if_neg hk] at e2 ⊢
        exact r.dis j k c d' a n e1 e2 m1 m2 f1
theorem R.at (r : R F σ H Hb ρ) {i : Nat} {c : Cell} (e : ρ[i]? = some c) : ∃ v, σ[i]? = some v ∧ CellAt F H Hb v c := by
  have hi := (List.getElem?_eq_some_iff.mp e).1
  have hj : i < σ.length := by rw [r.len]; exact hi
  exact ⟨σ[i], List.getElem?_eq_getElem hj, r.cell i c _ e (List.getElem?_eq_getElem hj)⟩
theorem R.val (r : R F σ H Hb ρ) {i : Nat} {d : D} (e : ρ[i]? = some (.val d)) : ∃ v, σ[i]? = some (some v) ∧ Rep F.K Hb v d := by
  obtain ⟨v, h1, x, h2, h3⟩ := r.at e
  exact ⟨x, by rw [h1, h2], h3⟩
/-- what stands of one's own -/
theorem R.mine (r : R F σ H Hb ρ) {i : Nat} {c : Cell} (e : ρ[i]? = some c) (h : c.mine = true) : ∃ a m, σ[i]? = some (some (.ref a)) ∧ MAt F.K Hb H a m ∧ Hb a = none ∧ F.fr a = none ∧ (c = .own m ∧ F.al a ∨ c = .io a m) := by
  obtain ⟨v, h1, h2⟩ := r.at e
  cases c with
  | no => cases h
  | val d => cases h
  | own m => obtain ⟨a, rfl, m1, n, f, al⟩ := h2; exact ⟨a, m, h1, m1, n, f, .inl ⟨rfl, al⟩⟩
  | io a m => obtain ⟨rfl, m1, n, f⟩ := h2; exact ⟨a, m, h1, m1, n, f, .inr rfl⟩
  | lck a m => cases h
def Cell.put : Cell → M → Cell
  | .own _, m => .own m
  | .io a _, m => .io a m
  | c, _ => c
def Cell.get : Cell → Option M
  | .own m => some m
  | .io _ m => some m
  | _ => none
theorem getM {c : Cell} {m : M} (h : c.get = some m) : c.mine = true := by
  cases c <;> first | rfl | cases h
theorem R.mineG (r : R F σ H Hb ρ) {i : Nat} {c : Cell} {m : M} (e : ρ[i]? = some c) (h : c.get = some m) : ∃ a, σ[i]? = some (some (.ref a)) ∧ MAt F.K Hb H a m ∧ Hb a = none ∧ F.fr a = none := by
  obtain ⟨a, m', h1, h2, h3, h4, h5⟩ := r.mine e (getM h)
  refine ⟨a, h1, ?_, h3, h4⟩
  rcases h5 with ⟨rfl, _⟩ | rfl
  · cases h; exact h2
  · cases h; exact h2
/-- one's own object is changed -/
theorem R.mut (r : R F σ H Hb ρ) {i : Nat} {c : Cell} {a : Addr} {m : M} (e : ρ[i]? = some c) (hc : c.mine = true) (es : σ[i]? = some (some (.ref a))) (g : ∀ b o, b ≠ a → H b = some o → H' b = some o) (hm : MAt F.K Hb H' a m) : R F σ H' Hb (ρ.set i (c.put m)) := by
  obtain ⟨a', m0, h1, h2, h3, h4, h5⟩ := r.mine e hc
  rw [es] at h1
  cases h1
  have hi := (List.getElem?_eq_some_iff.mp e).1
  refine ⟨fun b o eb => g b o (fun z => by rw [z, h3] at eb; cases eb) (r.sub _ _ eb), fun b o eb => g b o (fun z => by rw [z, h4] at eb; cases eb) (r.fr _ _ eb), fun b eb => ?_, fun b eb => ?_, by rw [List.length_set]; exact r.len, fun j c' v e1 e2 => ?_, fun j k c1 d1 b n e1 e2 m1 m2 f1 => ?_⟩
  · rcases r.al b eb with z | ⟨xs, z⟩
    · exact .inl z
    · refine .inr ⟨xs, ?_⟩
      have nb : b ≠ a := fun q => eb (by rw [q, h3])
      rcases z with z | ⟨o, z⟩
      · exact .inl (g b _ nb z)
      · exact .inr ⟨o, g b _ nb z⟩
  · refine r.nw b ?_
    cases q : H b with
    | none => rfl
    | some o =>
      by_cases z : b = a
      · rw [z] at eb; exact absurd eb (MAt.ne hm)
      · rw [g b o z q] at eb; cases eb
  · rw [List.getElem?_set] at e1
    by_cases hj : i = j
    · subst hj
      rw [if_pos rfl, if_pos hi] at e1
      cases e1
      rw [es] at e2
      cases e2
      rcases h5 with ⟨rfl, al⟩ | rfl
      · exact ⟨a, rfl, hm, h3, h4, al⟩
      · exact ⟨rfl, hm, h3, h4⟩
    · rw [if_neg hj] at e1
      have old := r.cell j c' v e1 e2
      cases c' with
      | no => trivial
      | val d => exact old
      | own m' =>
        obtain ⟨b, rfl, m1, n, f, al⟩ := old
        have nb : b ≠ a := fun z => r.dis i j c (.own m') a hj e e1 hc rfl es (by rw [e2, z])
        exact ⟨b, rfl, MAt.mono (Same.refl _) (fun o => g b o nb) m1, n, f, al⟩
      | io b m' =>
        obtain ⟨rfl, m1, n, f⟩ := old
        have nb : b ≠ a := fun z => r.dis i j c (.io b m') a hj e e1 hc rfl es (by rw [e2, z])
        exact ⟨rfl, MAt.mono (Same.refl _) (fun o => g b o nb) m1, n, f⟩
      | lck b m' => exact old
  · have same : ∀ (l : Nat) c2, (ρ.set i (c.put m))[l]? = some c2 → c2.mine = true → ∃ c3, ρ[l]? = some c3 ∧ c3.mine = true := fun l c2 q1 q2 => by
      rw [List.getElem?_set] at q1
      by_cases hl : i = l
      · subst hl; exact ⟨c, e, hc⟩
      · rw [if_neg hl] at q1; exact ⟨c2, q1, q2⟩
    obtain ⟨c3, q1, q2⟩ := same j c1 e1 m1
    obtain ⟨c4, q3, q4⟩ := same k d1 e2 m2
    exact r.dis j k c3 c4 b n q1 q3 q2 q4 f1
/-- a slot takes a new object of one's own -/
theorem R.newM (r : R F σ H Hb ρ) {p : Addr} {m : M} (n : H p = none) (s : Same H H') (hm : MAt F.K Hb H' p m) (i : Nat) : R F (σ.set i (some (.ref p))) H' Hb (ρ.set i (.own m)) := by
  have nb : Hb p = none := by
    cases q : Hb p with
    | none => rfl
    | some o => rw [r.sub _ _ q] at n; cases n
  have nf : F.fr p = none := by
    cases q : F.fr p with
    | none => rfl
    | some o => rw [r.fr _ _ q] at n; cases n
  have g : Gr H Hb H' Hb := ⟨s, Same.refl _, r.sub.trans s, fun _ e => .inl e⟩
  have r2 := r.grow g
  refine ⟨r2.sub, r2.fr, r2.al, r2.nw, by rw [List.length_set, List.length_set]; exact r.len, fun j c x e1 e2 => ?_, fun j k c d' a nn e1 e2 m1 m2 f1 f2 => ?_⟩
  · rw [List.getElem?_set] at e1 e2
    by_cases hj : i = j
    · rw [if_pos hj] at e1 e2
      split at e1
      · split at e2
        · cases e1
          cases e2
          exact ⟨p, rfl, hm, nb, nf, r.nw p n⟩
        · cases e2
      · cases e1
    · rw [if_neg hj] at e1 e2
      exact r2.cell j c x e1 e2
  · have old : ∀ (l : Nat) c1, ρ[l]? = some c1 → c1.mine = true → σ[l]? = some (some (.ref p)) → False := fun l c1 q1 q2 q3 => by
      obtain ⟨a2, m2, h1, h2, _⟩ := r.mine q1 q2
      rw [q3] at h1
      cases h1
      exact (MAt.ne h2) n
    rw [List.getElem?_set] at e1 e2 f1 f2
    by_cases hj : i = j
    · subst hj
      rw [if_neg nn] at e2 f2
      rw [if_pos rfl] at f1
      split at f1
      · cases f1
        exact old k d' e2 m2 f2
      · cases f1
    · rw [if_neg hj] at e1 f1
      by_cases hk : i = k
      · subst hk
        rw [if_pos rfl] at f2
        split at f2
        · cases f2
          exact old j c e1 m1 f1
        · cases f2
      · rw [if_neg hk] at e2 f2
        exact r.dis j k c d' a nn e1 e2 m1 m2 f1 f2
end
end PL
namespace PL
open PySem PySem.Spec PyProof.Rows L2 TB
abbrev Rho := List Cell
abbrev DE := Rho → (D → Rho → Prop) → Prop
abbrev DN := Rho → (M → Rho → Prop) → Prop
abbrev DT := Rho → (Bool → Rho → Prop) → Prop
abbrev DA := Rho → (List D → Rho → Prop) → Prop
/-- an expression by data -/
def SndE (K : PySem.W.Frag) (t : TE) (de : DE) : Prop := ∀ (F : Fx) σ H Hb ρ (Q : VK) (Qd : D → Rho → Prop), F.K = K → R F σ H Hb ρ → de ρ Qd →
  (∀ v d H' Hb' ρ', R F σ H' Hb' ρ' → Same Hb Hb' → Rep K Hb' v d → Qd d ρ' → Q v H') → t σ H Q
/-- an expression that makes a new list, a new dict -/
def SndN (K : PySem.W.Frag) (t : TE) (dn : DN) : Prop := ∀ (F : Fx) σ H Hb ρ (Q : VK) (Qd : M → Rho → Prop), F.K = K → R F σ H Hb ρ → dn ρ Qd →
  (∀ p m H1 H' Hb' ρ', R F σ H1 Hb' ρ' → Same Hb Hb' → H1 p = none → Same H1 H' → MAt K Hb' H' p m → Qd m ρ' → Q (.ref p) H') → t σ H Q
def SndT (K : PySem.W.Frag) (t : TT) (dt : DT) : Prop := ∀ (F : Fx) σ H Hb ρ (Q : Bool → Hp → Prop) (Qd : Bool → Rho → Prop), F.K = K → R F σ H Hb ρ → dt ρ Qd →
  (∀ b H' Hb' ρ', R F σ H' Hb' ρ' → Same Hb Hb' → Qd b ρ' → Q b H') → t σ H Q
def SndA (K : PySem.W.Frag) (n : Nat) (t : TA) (da : DA) : Prop := ∀ (F : Fx) σ H Hb ρ (Q : List V → Hp → Prop) (Qd : List D → Rho → Prop), F.K = K → R F σ H Hb ρ → da ρ Qd →
  (∀ vs ds H' Hb' ρ', R F σ H' Hb' ρ' → Same Hb Hb' → RepAll K Hb' vs ds → ds.length = n → Qd ds ρ' → Q vs H') → t σ H Q
section
variable {K : PySem.W.Frag}
/-! ### names, constants -/
def cellV : Option Cell → (D → Prop) → Prop
  | some (.val d), k => k d
  | _, _ => False
def dVar (i : Nat) : DE := fun ρ Q => cellV ρ[i]? fun d => Q d ρ
theorem snd_var (i : Nat) : SndE K (tVar i) (dVar i) := fun F σ H Hb ρ Q Qd hK r h q => by
  subst hK
  unfold dVar at h
  cases e : ρ[i]? with
  | none => rw [e] at h; exact h.elim
  | some c =>
    rw [e] at h
    cases c with
    | val d =>
      obtain ⟨v, h1, h2⟩ := r.val e
      exact ⟨v, h1, q v d H Hb ρ r (Same.refl _) h2 h⟩
    | _ => exact h.elim
def dC (d : D) : DE := fun ρ Q => Q d ρ
theorem snd_c {v : V} {d : D} (h : ∀ Hb, Rep K Hb v d) : SndE K (tC v) (dC d) := fun F σ H Hb ρ Q Qd hK r hd q => q v d H Hb ρ r (Same.refl _) (h Hb) hd
theorem snd_int {i : Int} : SndE K (tC (.int i)) (dC (.int i)) := snd_c fun _ => .int i
theorem snd_str {x : Str} : SndE K (tC (.str x)) (dC (.str x)) := snd_c fun _ => .str x
theorem snd_bl {b : Bool} : SndE K (tC (.bl b)) (dC (.bl b)) := snd_c fun _ => .bl b
theorem snd_non : SndE K (tC .non) (dC .non) := snd_c fun _ => .non
theorem snd_opq {v : V} : SndE K (tC v) (dC (.opq v)) := snd_c fun _ => .opq v
/-! ### a value, seen: data, or one's own list, dict as it stands now -/
inductive View (K : PySem.W.Frag) (Hb H : Hp) : V → D → Prop
  | rep {v : V} {d : D} : Rep K Hb v d → View K Hb H v d
  | lst {a : Addr} {vs : List V} {ds : List D} : H a = some (.lst vs) → RepAll K Hb vs ds → View K Hb H (.ref a) (.lst ds)
  | dct {a : Addr} {kvs : List (Key × V)} {es : List (Key × D)} : H a = some (.dK kvs) → RepKV K Hb kvs es → View K Hb H (.ref a) (.dct es)
  | dcu {a : Addr} {kvs : List (List Key × V)} {es : List (List Key × D)} : H a = some (.dT kvs) → RepKT K Hb kvs es → View K Hb H (.ref a) (.dcu es)
inductive Opd where
  | e (de : DE) | o (i : Nat)
abbrev Op := D ⊕ Nat
def mineC : Option Cell → Prop → Prop
  | some (.own _), p => p
  | some (.io _ _), p => p
  | _, _ => False
def anyC : Option Cell → Prop → Prop
  | some (.own _), p => p
  | some (.io _ _), p => p
  | some (.val _), p => p
  | _, _ => False
def Opd.run : Opd → Rho → (Op → Rho → Prop) → Prop
  | .e de, ρ, k => de ρ fun d ρ' => k (.inl d) ρ'
  | .o i, ρ, k => anyC ρ[i]? (k (.inr i) ρ)
def viewM : Option Cell → (D → Prop) → Prop
  | some (.own (.lst ds)), k => k (.lst ds)
  | some (.own (.dct es)), k => k (.dct es)
  | some (.own (.dcu es)), k => k (.dcu es)
  | some (.io _ (.lst ds)), k => k (.lst ds)
  | some (.io _ (.dct es)), k => k (.dct es)
  | some (.io _ (.dcu es)), k => k (.dcu es)
  | some (.val d), k => k d
  | _, _ => False
def Op.res : Op → Rho → (D → Prop) → Prop
  | .inl d, _, k => k d
  | .inr i, ρ, k => viewM ρ[i]? k
def SndO (K : PySem.W.Frag) (t : TE) : Opd → Prop
  | .e de => SndE K t de
  | .o i => t = tVar i
/-- what an operand's value is, until it is used -/
def OpAt (K : PySem.W.Frag) (σ : L2.St) (Hb : Hp) (v : V) : Op → Prop
  | .inl d => Rep K Hb v d
  | .inr i => σ[i]? = some (some v)
theorem OpAt.mono {σ : L2.St} {Hb Hb' : Hp} {v : V} (s : Same Hb Hb') : ∀ {p : Op}, OpAt K σ Hb v p → OpAt K σ Hb' v p
  | .inl d, h => Rep.mono s d v h
  | .inr _, h => h
theorem OpAt.res {F : Fx} {σ : L2.St} {H Hb : Hp} {ρ : Rho} {v : V} {k : D → Prop} (r : R F σ H Hb ρ) : ∀ {p : Op}, OpAt F.K σ Hb v p → p.res ρ k → ∃ d, View F.K Hb H v d ∧ k d
  | .inl d, h, q => ⟨d, .rep h, q⟩
  | .inr i, h, q => by
    have q : viewM ρ[i]? k := q
    cases e : ρ[i]? with
    | none => rw [e] at q; exact q.elim
    | some c =>
      rw [e] at q
      have go : ∀ m, c.get = some m → MAt F.K Hb H (match v with | .ref a => a | _ => 0) m ∧ ∃ a, v = .ref a := fun m g => by
        obtain ⟨a, h1, h2, _⟩ := r.mineG e g
        have h : σ[i]? = some (some v) := h
        rw [h] at h1
        cases h1
        exact ⟨h2, a, rfl⟩
      cases c with
      | no => exact q.elim
      | lck b m => exact q.elim
      | val d =>
        obtain ⟨v', h1, h2⟩ := r.val e
        have h : σ[i]? = some (some v) := h
        rw [h] at h1
        cases h1
        exact ⟨d, .rep h2, q⟩
      | own m =>
        obtain ⟨h2, a, rfl⟩ := go m rfl
        cases m with
        | lst ds => obtain ⟨vs, e1, e2⟩ := h2; exact ⟨_, .lst e1 e2, q⟩
        | dct es => obtain ⟨vs, e1, e2⟩ := h2; exact ⟨_, .dct e1 e2, q⟩
        | dcu es => obtain ⟨vs, e1, e2⟩ := h2; exact ⟨_, .dcu e1 e2, q⟩
        | dice => exact q.elim
      | io b m =>
        obtain ⟨h2, a, rfl⟩ := go m rfl
        cases m with
        | lst ds => obtain ⟨vs, e1, e2⟩ := h2; exact ⟨_, .lst e1 e2, q⟩
        | dct es => obtain ⟨vs, e1, e2⟩ := h2; exact ⟨_, .dct e1 e2, q⟩
        | dcu es => obtain ⟨vs, e1, e2⟩ := h2; exact ⟨_, .dcu e1 e2, q⟩
        | dice => exact q.elim
theorem SndO.use {t : TE} {F : Fx} {σ : L2.St} {H Hb : Hp} {ρ : Rho} {Q : VK} {Qd : Op → Rho → Prop} (hK : F.K = K) (r : R F σ H Hb ρ) : ∀ {o : Opd}, SndO K t o → o.run ρ Qd →
    (∀ v p H' Hb' ρ', R F σ H' Hb' ρ' → Same Hb Hb' → OpAt K σ Hb' v p → Qd p ρ' → Q v H') → t σ H Q
  | .e de, s, h, q => s F σ H Hb ρ Q _ hK r h fun v d H' Hb' ρ' r' b rp hq => q v (.inl d) H' Hb' ρ' r' b rp hq
  | .o i, s, h, q => by
    have s : t = tVar i := s
    subst s
    have h : anyC ρ[i]? (Qd (.inr i) ρ) := h
    cases e : ρ[i]? with
    | none => rw [e] at h; exact h.elim
    | some c =>
      rw [e] at h
      have go : ∀ m, c.get = some m → Qd (.inr i) ρ → tVar i σ H Q := fun m g hq => by
        obtain ⟨a, h1, _⟩ := r.mineG e g
        exact ⟨_, h1, q _ (.inr i) H Hb ρ r (Same.refl _) h1 hq⟩
      cases c with
      | own m => exact go m rfl h
      | io b m => exact go m rfl h
      | val d =>
        obtain ⟨v, h1, _⟩ := r.val e
        exact ⟨_, h1, q _ (.inr i) H Hb ρ r (Same.refl _) h1 h⟩
      | _ => exact h.elim
theorem sE {t : TE} {de : DE} (h : SndE K t de) : SndO K t (.e de) := h
theorem sO (i : Nat) : SndO K (tVar i) (.o i) := rfl
/-! ### operators by values -/
/-- a rule of two values: f tells what is asked of the data, and what comes -/
def OpS (K : PySem.W.Frag) (r : R2) (f : D → D → (D → Prop) → Prop) : Prop := ∀ H Hb v w d e (Q : VK) (Qd : D → Prop), Same Hb H → View K Hb H v d → View K Hb H w e → f d e Qd →
  (∀ u x H' Hb', Gr H Hb H' Hb' → Rep K Hb' u x → Qd x → Q u H') → r v w H Q
def UnS (K : PySem.W.Frag) (r : V → Hp → VK → Prop) (f : D → (D → Prop) → Prop) : Prop := ∀ H Hb v d (Q : VK) (Qd : D → Prop), Same Hb H → View K Hb H v d → f d Qd →
  (∀ u x H' Hb', Gr H Hb H' Hb' → Rep K Hb' u x → Qd x → Q u H') → r v H Q
def dOp (f : D → D → (D → Prop) → Prop) (a b : Opd) : DE := fun ρ Q => a.run ρ fun p ρ1 => b.run ρ1 fun q ρ2 => p.res ρ2 fun d => q.res ρ2 fun e => f d e fun z => Q z ρ2
theorem snd_op {r : R2} {f : D → D → (D → Prop) → Prop} {ta tb : TE} {a b : Opd} (hr : OpS K r f) (ha : SndO K ta a) (hb : SndO K tb b) : SndE K (tOp r ta tb) (dOp f a b) := fun F σ H Hb ρ Q Qd hK rr h q => by
  subst hK
  refine SndO.use (t := ta) rfl rr ha h fun v p H1 Hb1 ρ1 r1 b1 o1 h1 => ?_
  refine SndO.use (t := tb) rfl r1 hb h1 fun w p2 H2 Hb2 ρ2 r2 b2 o2 h2 => ?_
  obtain ⟨d, vd, h3⟩ := OpAt.res r2 (o1.mono b2) h2
  obtain ⟨e, ve, h4⟩ := OpAt.res r2 o2 h3
  exact hr H2 Hb2 v w d e Q _ r2.sub vd ve h4 fun u x H3 Hb3 g rp hq => q u x H3 Hb3 ρ2 (r2.grow g) ((b1.trans b2).trans g.b) rp hq
def dUn (f : D → (D → Prop) → Prop) (a : Opd) : DE := fun ρ Q => a.run ρ fun p ρ1 => p.res ρ1 fun d => f d fun z => Q z ρ1
theorem snd_un {r : V → Hp → VK → Prop} {f : D → (D → Prop) → Prop} {ta : TE} {a : Opd} (hr : UnS K r f) (ha : SndO K ta a) : SndE K (tUn r ta) (dUn f a) := fun F σ H Hb ρ Q Qd hK rr h q => by
  subst hK
  refine SndO.use (t := ta) rfl rr ha h fun v p H1 Hb1 ρ1 r1 b1 o1 h1 => ?_
  obtain ⟨d, vd, h3⟩ := OpAt.res r1 o1 h1
  exact hr H1 Hb1 v d Q _ r1.sub vd h3 fun u x H3 Hb3 g rp hq => q u x H3 Hb3 ρ1 (r1.grow g) (b1.trans g.b) rp hq
/-! ### what a view tells -/
section
variable {Hb H : Hp} {v : V}
theorem View.int {i : Int} (h : View K Hb H v (.int i)) : v = .int i := by
  cases h with
  | rep h => cases h; rfl
theorem View.str {x : Str} (h : View K Hb H v (.str x)) : v = .str x := by
  cases h with
  | rep h => cases h; rfl
theorem View.bl {b : Bool} (h : View K Hb H v (.bl b)) : v = .bl b := by
  cases h with
  | rep h => cases h; rfl
theorem View.non (h : View K Hb H v .non) : v = .non := by
  cases h with
  | rep h => cases h; rfl
theorem View.opq {w : V} (h : View K Hb H v (.opq w)) : v = w := by
  cases h with
  | rep h => cases h; rfl
theorem View.tupS {ds : List D} (s : Same Hb H) (h : View K Hb H v (.tup ds)) : ∃ a vs, v = .ref a ∧ H a = some (.tup vs) ∧ Hb a = some (.tup vs) ∧ RepAll K Hb vs ds := by
  cases h with
  | rep h =>
    cases h with
    | tup h1 h2 => exact ⟨_, _, rfl, s _ _ h1, h1, h2⟩
theorem View.tup {ds : List D} (s : Same Hb H) (h : View K Hb H v (.tup ds)) : ∃ a vs, v = .ref a ∧ SqT K H a vs ∧ Hb a = some (.tup vs) ∧ RepAll K Hb vs ds := by
  obtain ⟨a, vs, e, h1, h2, h3⟩ := h.tupS s
  exact ⟨a, vs, e, SqT.of h1, h2, h3⟩
theorem View.ktup {ds : List D} (h : View K Hb H v (.ktup ds)) : ∃ a vs, v = .ref a ∧ SqT K H a vs ∧ RepAll K Hb vs ds := by
  cases h with
  | rep h =>
    cases h with
    | ktup h1 h2 => exact ⟨_, _, rfl, h1 _, h2⟩
theorem View.lst' {ds : List D} (s : Same Hb H) (h : View K Hb H v (.lst ds)) : ∃ a vs, v = .ref a ∧ H a = some (.lst vs) ∧ RepAll K Hb vs ds := by
  cases h with
  | rep h =>
    cases h with
    | lst h1 h2 => exact ⟨_, _, rfl, s _ _ h1, h2⟩
  | lst h1 h2 => exact ⟨_, _, rfl, h1, h2⟩
theorem View.arr' {ds : List D} (s : Same Hb H) (h : View K Hb H v (.arr ds)) : ∃ a vs, v = .ref a ∧ SqL K H a vs ∧ RepAll K Hb vs ds := by
  cases h with
  | rep h =>
    cases h with
    | arr h1 h2 => exact ⟨_, _, rfl, s.seq h1, h2⟩
theorem View.dct' {es : List (Key × D)} (s : Same Hb H) (h : View K Hb H v (.dct es)) : ∃ a kvs, v = .ref a ∧ Rd H a (.dK kvs) ∧ RepKV K Hb kvs es := by
  cases h with
  | rep h =>
    cases h with
    | dct h1 h2 => exact ⟨_, _, rfl, Rd.same s h1, h2⟩
  | dct h1 h2 => exact ⟨_, _, rfl, .inl h1, h2⟩
theorem View.dcu' {es : List (List Key × D)} (s : Same Hb H) (h : View K Hb H v (.dcu es)) : ∃ a kvs, v = .ref a ∧ Rd H a (.dT kvs) ∧ RepKT K Hb kvs es := by
  cases h with
  | rep h =>
    cases h with
    | dcu h1 h2 => exact ⟨_, _, rfl, Rd.same s h1, h2⟩
  | dcu h1 h2 => exact ⟨_, _, rfl, .inl h1, h2⟩
end
/-! ### whole numbers -/
def int2 : D → D → (Int → Int → Prop) → Prop
  | .int i, .int j, k => k i j
  | _, _, _ => False
def int1 : D → (Int → Prop) → Prop
  | .int i, k => k i
  | _, _ => False
theorem int2_ok {d e : D} {k : Int → Int → Prop} (h : int2 d e k) : ∃ i j, d = .int i ∧ e = .int j ∧ k i j := by
  cases d <;> first | exact h.elim | (cases e <;> first | exact h.elim | exact ⟨_, _, rfl, rfl, h⟩)
theorem int1_ok {d : D} {k : Int → Prop} (h : int1 d k) : ∃ i, d = .int i ∧ k i := by
  cases d <;> first | exact h.elim | exact ⟨_, rfl, h⟩
def fI (C : Int → Int → Prop) (g : Int → Int → D) (d e : D) (k : D → Prop) : Prop := int2 d e fun i j => C i j ∧ k (g i j)
def fI0 (g : Int → Int → D) (d e : D) (k : D → Prop) : Prop := int2 d e fun i j => k (g i j)
theorem s_I {C : Int → Int → Prop} {g : Int → Int → V} {g' : Int → Int → D} (hg : ∀ i j Hb, Rep K Hb (g i j) (g' i j) := by intros; constructor) : OpS K (rI C g) (fI C g') := fun H Hb v w d e Q Qd s hv hw h q => by
  obtain ⟨i, j, rfl, rfl, c, h⟩ := int2_ok h
  cases hv.int
  cases hw.int
  exact ⟨i, j, rfl, rfl, c, q _ _ H Hb (Gr.refl s) (hg i j Hb) h⟩
theorem s_I0 {g : Int → Int → V} {g' : Int → Int → D} (hg : ∀ i j Hb, Rep K Hb (g i j) (g' i j) := by intros; constructor) : OpS K (rI0 g) (fI0 g') := fun H Hb v w d e Q Qd s hv hw h q => by
  obtain ⟨i, j, rfl, rfl, h⟩ := int2_ok h
  cases hv.int
  cases hw.int
  exact ⟨i, j, rfl, rfl, q _ _ H Hb (Gr.refl s) (hg i j Hb) h⟩
def fU (g : Int → D) (d : D) (k : D → Prop) : Prop := int1 d fun i => k (g i)
theorem s_U {g : Int → V} {g' : Int → D} (hg : ∀ i Hb, Rep K Hb (g i) (g' i) := by intros; constructor) : UnS K (rU g) (fU g') := fun H Hb v d Q Qd s hv h q => by
  obtain ⟨i, rfl, h⟩ := int1_ok h
  cases hv.int
  exact ⟨i, rfl, q _ _ H Hb (Gr.refl s) (hg i Hb) h⟩
theorem s_add : OpS K (rI0 fun i j => .int (i + j)) (fI0 fun i j => .int (i + j)) := s_I0
theorem s_sub : OpS K (rI0 fun i j => .int (i - j)) (fI0 fun i j => .int (i - j)) := s_I0
theorem s_mul : OpS K (rI CMul fun i j => .int (i * j)) (fI CMul fun i j => .int (i * j)) := s_I
theorem s_mulW : OpS K (rI CMulW fun i j => .int (i * j)) (fI CMulW fun i j => .int (i * j)) := s_I
theorem s_fdiv : OpS K (rI CDiv fun i j => .int (i / j)) (fI CDiv fun i j => .int (i / j)) := s_I
theorem s_fdivW : OpS K (rI CDivW fun i j => .int (i / j)) (fI CDivW fun i j => .int (i / j)) := s_I
theorem s_mod : OpS K (rI (fun _ j => 0 < j) fun i j => .int (i % j)) (fI (fun _ j => 0 < j) fun i j => .int (i % j)) := s_I
theorem s_pow : OpS K (rI CPow fun i j => .int (i ^ j.toNat)) (fI CPow fun i j => .int (i ^ j.toNat)) := s_I
theorem s_powW : OpS K (rI CPowW fun i j => .int (i ^ j.toNat)) (fI CPowW fun i j => .int (i ^ j.toNat)) := s_I
theorem s_shlW : OpS K (rI CShl fun i j => .int (i * 2 ^ j.toNat)) (fI CShl fun i j => .int (i * 2 ^ j.toNat)) := s_I
theorem s_shr : OpS K (rI (fun _ j => 0 ≤ j) fun i j => .int (i / 2 ^ j.toNat)) (fI (fun _ j => 0 ≤ j) fun i j => .int (i / 2 ^ j.toNat)) := s_I
theorem s_and : OpS K (rI0 fun i j => .int (Builtin.bitAnd i j)) (fI0 fun i j => .int (Builtin.bitAnd i j)) := s_I0
theorem s_or : OpS K (rI0 fun i j => .int (Builtin.bitOr i j)) (fI0 fun i j => .int (Builtin.bitOr i j)) := s_I0
theorem s_xor : OpS K (rI0 fun i j => .int (Builtin.bitXor i j)) (fI0 fun i j => .int (Builtin.bitXor i j)) := s_I0
theorem s_lt : OpS K (rI0 fun i j => .bl (decide (i < j))) (fI0 fun i j => .bl (decide (i < j))) := s_I0
theorem s_le : OpS K (rI0 fun i j => .bl (decide (i ≤ j))) (fI0 fun i j => .bl (decide (i ≤ j))) := s_I0
theorem s_gt : OpS K (rI0 fun i j => .bl (decide (j < i))) (fI0 fun i j => .bl (decide (j < i))) := s_I0
theorem s_ge : OpS K (rI0 fun i j => .bl (decide (j ≤ i))) (fI0 fun i j => .bl (decide (j ≤ i))) := s_I0
theorem s_neg : UnS K (rU fun i => .int (-i)) (fU fun i => .int (-i)) := s_U
/-! ### == and != of flat values, of data; is None -/
def flat : D → Option V
  | .non => some .non
  | .bl b => some (.bl b)
  | .int i => some (.int i)
  | .str x => some (.str x)
  | _ => none
theorem View.flat {Hb H : Hp} {v w : V} {d : D} (h : View K Hb H v d) (e : flat d = some w) : v = w := by
  cases d <;> cases e
  · exact h.non
  · exact h.bl
  · exact h.int
  · exact h.str
def flat2 : Option V → Option V → (V → V → Prop) → Prop
  | some v, some w, k => k v w
  | _, _, _ => False
def fEq (d e : D) (k : D → Prop) : Prop := flat2 (flat d) (flat e) fun v w => scal v w = true ∧ k (.bl (decide (v = w)))
def fNe (d e : D) (k : D → Prop) : Prop := flat2 (flat d) (flat e) fun v w => scal v w = true ∧ k (.bl (!decide (v = w)))
theorem flat2_ok {a b : Option V} {k : V → V → Prop} (h : flat2 a b k) : ∃ v w, a = some v ∧ b = some w ∧ k v w := by
  cases a <;> first | exact h.elim | (cases b <;> first | exact h.elim | exact ⟨_, _, rfl, rfl, h⟩)
theorem s_eq : OpS K rEq fEq := fun H Hb v w d e Q Qd s hv hw h q => by
  obtain ⟨x, y, e1, e2, c, h⟩ := flat2_ok h
  cases hv.flat e1
  cases hw.flat e2
  exact ⟨c, q _ _ H Hb (Gr.refl s) (.bl _) h⟩
theorem s_ne : OpS K rNe fNe := fun H Hb v w d e Q Qd s hv hw h q => by
  obtain ⟨x, y, e1, e2, c, h⟩ := flat2_ok h
  cases hv.flat e1
  cases hw.flat e2
  exact ⟨c, q _ _ H Hb (Gr.refl s) (.bl _) h⟩
mutual
def toP : D → PyData
  | .non => .none
  | .bl b => .bool b
  | .int i => .int i
  | .str x => .str x
  | .tup ds => .tuple (toPs ds)
  | .ktup ds => .tuple (toPs ds)
  | .lst ds => .list (toPs ds)
  | _ => .none
def toPs : List D → List PyData
  | [] => []
  | d :: r => toP d :: toPs r
end
mutual
def cmp : D → Bool
  | .tup ds => cmps ds
  | .ktup ds => cmps ds
  | .lst ds => cmps ds
  | .opq _ => false
  | .dct _ => false
  | .dcu _ => false
  | .arr _ => false
  | _ => true
def cmps : List D → Bool
  | [] => true
  | d :: r => cmp d && cmps r
end
mutual
theorem Rep.dp {H : Hp} : ∀ (d : D) (v : V), Rep K H v d → cmp d = true → Dp K H v (toP d)
  | .non, _, h, _ => by cases h; exact .non
  | .bl b, _, h, _ => by cases h; exact .bl b
  | .int i, _, h, _ => by cases h; exact .int i
  | .str x, _, h, _ => by cases h; exact .str x
  | .opq v, _, h, c => nomatch c
  | .tup ds, _, h, c => by
    cases h with
    | tup h1 h2 => exact .tup (SqT.of h1) (RepAll.dp ds _ h2 c)
  | .ktup ds, _, h, c => by
    cases h with
    | ktup h1 h2 => exact .tup (h1 _) (RepAll.dp ds _ h2 c)
  | .lst ds, _, h, c => by
    cases h with
    | lst h1 h2 => exact .lst (SqL.of h1) (RepAll.dp ds _ h2 c)
  | .arr ds, _, h, c => nomatch c
  | .dct es, _, h, c => nomatch c
  | .dcu es, _, h, c => nomatch c
theorem RepAll.dp {H : Hp} : ∀ (ds : List D) (vs : List V), RepAll K H vs ds → cmps ds = true → DpAll K H vs (toPs ds)
  | [], _, h, _ => by cases h; exact .nil
  | d :: ds, _, h, c => by
    cases h with
    | cons h1 h2 =>
      have c : (cmp d && cmps ds) = true := c
      rw [Bool.and_eq_true] at c
      exact .cons (Rep.dp d _ h1 c.1) (RepAll.dp ds _ h2 c.2)
end
theorem View.dp {Hb H : Hp} {v : V} {d : D} (s : Same Hb H) (h : View K Hb H v d) (c : cmp d = true) : Dp K H v (toP d) := by
  cases h with
  | rep h => exact Rep.dp d v (Rep.mono s d v h) c
  | lst h1 h2 => exact .lst (SqL.of h1) (RepAll.dp _ _ (RepAll.mono s _ _ h2) c)
  | dct h1 h2 => cases c
  | dcu h1 h2 => cases c
/-- it can be compared -/
structure CmpOk (d : D) : Prop where
  c : cmp d = true
  s : SeqAt.shaped (toP d) = true
def eqD (d e : D) : Bool := PyData.eqv (toP d) (toP e)
def fEqD (d e : D) (k : D → Prop) : Prop := (CmpOk d ∧ CmpOk e) ∧ k (.bl (eqD d e))
def fNeD (d e : D) (k : D → Prop) : Prop := (CmpOk d ∧ CmpOk e) ∧ k (.bl (!eqD d e))
theorem s_eqD : OpS K (rEqD K) fEqD := fun H Hb v w d e Q Qd s hv hw h q => by
  obtain ⟨⟨c1, c2⟩, h⟩ := h
  exact ⟨_, _, hv.dp s c1.c, hw.dp s c2.c, c1.s, c2.s, q _ _ H Hb (Gr.refl s) (.bl _) h⟩
theorem s_neD : OpS K (rNeD K) fNeD := fun H Hb v w d e Q Qd s hv hw h q => by
  obtain ⟨⟨c1, c2⟩, h⟩ := h
  exact ⟨_, _, hv.dp s c1.c, hw.dp s c2.c, c1.s, c2.s, q _ _ H Hb (Gr.refl s) (.bl _) h⟩
def isNon : D → Bool
  | .non => true
  | .opq v => decide (v = .non)
  | _ => false
theorem View.isNon {Hb H : Hp} {v : V} {d : D} (h : View K Hb H v d) : decide (v = .non) = isNon d := by
  cases h with
  | rep h =>
    cases h <;> first | rfl | exact decide_eq_false fun z => nomatch z
  | lst _ _ => exact decide_eq_false fun z => nomatch z
  | dct _ _ => exact decide_eq_false fun z => nomatch z
  | dcu _ _ => exact decide_eq_false fun z => nomatch z
def fIsN (d e : D) (k : D → Prop) : Prop := match e with
  | .non => k (.bl (isNon d))
  | _ => False
def fNotN (d e : D) (k : D → Prop) : Prop := match e with
  | .non => k (.bl (!isNon d))
  | _ => False
theorem s_isN : OpS K (fun x y H Q => y = .non ∧ Q (.bl (decide (x = .non))) H) fIsN := fun H Hb v w d e Q Qd s hv hw h q => by
  cases e <;> first | exact h.elim | skip
  refine ⟨hw.non, q _ _ H Hb (Gr.refl s) ?_ h⟩
  rw [hv.isNon]
  exact .bl _
theorem s_notN : OpS K (fun x y H Q => y = .non ∧ Q (.bl (!decide (x = .non))) H) fNotN := fun H Hb v w d e Q Qd s hv hw h q => by
  cases e <;> first | exact h.elim | skip
  refine ⟨hw.non, q _ _ H Hb (Gr.refl s) ?_ h⟩
  rw [hv.isNon]
  exact .bl _
/-! ### tests -/
def bl1 : D → (Bool → Prop) → Prop
  | .bl b, k => k b
  | _, _ => False
theorem bl1_ok {d : D} {k : Bool → Prop} (h : bl1 d k) : ∃ b, d = .bl b ∧ k b := by
  cases d <;> first | exact h.elim | exact ⟨_, rfl, h⟩
def dB (de : DE) : DT := fun ρ Q => de ρ fun d ρ' => bl1 d fun b => Q b ρ'
theorem snd_b {t : TE} {de : DE} (h : SndE K t de) : SndT K (tB t) (dB de) := fun F σ H Hb ρ Q Qd hK r hd q =>
  h F σ H Hb ρ _ _ hK r hd fun v d H' Hb' ρ' r' b rp hq => by
    obtain ⟨c, rfl, hq⟩ := bl1_ok hq
    cases rp
    exact ⟨c, rfl, q c H' Hb' ρ' r' b hq⟩
theorem snd_test {t : TE} {de : DE} (h : SndE K t de) : SndT K (tTest t) (dB de) := fun F σ H Hb ρ Q Qd hK r hd q =>
  h F σ H Hb ρ _ _ hK r hd fun v d H' Hb' ρ' r' b rp hq => by
    obtain ⟨c, rfl, hq⟩ := bl1_ok hq
    cases rp
    exact ⟨c, rfl, q c H' Hb' ρ' r' b hq⟩
def ifD (b : Bool) (p q : Prop) : Prop := match b with
  | true => p
  | false => q
theorem ifD_ite {b : Bool} {p q : Prop} (h : ifD b p q) : if b = true then p else q := by
  cases b with
  | true => exact iteT h
  | false => exact iteF h
def dAnd (a b : DT) : DT := fun ρ Q => a ρ fun c ρ1 => ifD c (b ρ1 Q) (Q false ρ1)
def dOr (a b : DT) : DT := fun ρ Q => a ρ fun c ρ1 => ifD c (Q true ρ1) (b ρ1 Q)
def dNot (a : DT) : DT := fun ρ Q => a ρ fun c ρ1 => Q (!c) ρ1
theorem snd_and {t u : TT} {a b : DT} (ha : SndT K t a) (hb : SndT K u b) : SndT K (tAnd t u) (dAnd a b) := fun F σ H Hb ρ Q Qd hK r hd q =>
  ha F σ H Hb ρ _ _ hK r hd fun c H1 Hb1 ρ1 r1 b1 hq => by
    cases c with
    | true => exact iteT (hb F σ H1 Hb1 ρ1 Q Qd hK r1 hq fun b H' Hb' ρ' r' b' => q b H' Hb' ρ' r' (b1.trans b'))
    | false => exact iteF (q false H1 Hb1 ρ1 r1 b1 hq)
theorem snd_or {t u : TT} {a b : DT} (ha : SndT K t a) (hb : SndT K u b) : SndT K (tOr t u) (dOr a b) := fun F σ H Hb ρ Q Qd hK r hd q =>
  ha F σ H Hb ρ _ _ hK r hd fun c H1 Hb1 ρ1 r1 b1 hq => by
    cases c with
    | true => exact iteT (q true H1 Hb1 ρ1 r1 b1 hq)
    | false => exact iteF (hb F σ H1 Hb1 ρ1 Q Qd hK r1 hq fun b H' Hb' ρ' r' b' => q b H' Hb' ρ' r' (b1.trans b'))
theorem snd_not {t : TT} {a : DT} (ha : SndT K t a) : SndT K (tNot t) (dNot a) := fun F σ H Hb ρ Q Qd hK r hd q =>
  ha F σ H Hb ρ _ _ hK r hd fun c H1 Hb1 ρ1 r1 b1 hq => q (!c) H1 Hb1 ρ1 r1 b1 hq
def dAndV (a b : DE) : DE := fun ρ Q => a ρ fun x ρ1 => bl1 x fun c => ifD c (b ρ1 Q) (Q (.bl false) ρ1)
def dOrV (a b : DE) : DE := fun ρ Q => a ρ fun x ρ1 => bl1 x fun c => ifD c (Q (.bl true) ρ1) (b ρ1 Q)
def dNotV (a : DE) : DE := fun ρ Q => a ρ fun x ρ1 => bl1 x fun c => Q (.bl (!c)) ρ1
theorem snd_andV {t u : TE} {a b : DE} (ha : SndE K t a) (hb : SndE K u b) : SndE K (tAndV t u) (dAndV a b) := fun F σ H Hb ρ Q Qd hK r hd q =>
  ha F σ H Hb ρ _ _ hK r hd fun v d H1 Hb1 ρ1 r1 b1 rp hq => by
    obtain ⟨c, rfl, hq⟩ := bl1_ok hq
    cases rp
    refine ⟨c, rfl, ?_⟩
    cases c with
    | true => exact iteT (hb F σ H1 Hb1 ρ1 Q Qd hK r1 hq fun v d H' Hb' ρ' r' b' => q v d H' Hb' ρ' r' (b1.trans b'))
    | false => exact iteF (q _ _ H1 Hb1 ρ1 r1 b1 (.bl _) hq)
theorem snd_orV {t u : TE} {a b : DE} (ha : SndE K t a) (hb : SndE K u b) : SndE K (tOrV t u) (dOrV a b) := fun F σ H Hb ρ Q Qd hK r hd q =>
  ha F σ H Hb ρ _ _ hK r hd fun v d H1 Hb1 ρ1 r1 b1 rp hq => by
    obtain ⟨c, rfl, hq⟩ := bl1_ok hq
    cases rp
    refine ⟨c, rfl, ?_⟩
    cases c with
    | true => exact iteT (q _ _ H1 Hb1 ρ1 r1 b1 (.bl _) hq)
    | false => exact iteF (hb F σ H1 Hb1 ρ1 Q Qd hK r1 hq fun v d H' Hb' ρ' r' b' => q v d H' Hb' ρ' r' (b1.trans b'))
theorem snd_notV {t : TE} {a : DE} (ha : SndE K t a) : SndE K (tNotV t) (dNotV a) := fun F σ H Hb ρ Q Qd hK r hd q =>
  ha F σ H Hb ρ _ _ hK r hd fun v d H1 Hb1 ρ1 r1 b1 rp hq => by
    obtain ⟨c, rfl, hq⟩ := bl1_ok hq
    cases rp
    exact ⟨c, rfl, q _ _ H1 Hb1 ρ1 r1 b1 (.bl _) hq⟩
def dIf (t : DT) (a b : DE) : DE := fun ρ Q => t ρ fun c ρ1 => ifD c (a ρ1 Q) (b ρ1 Q)
theorem snd_if {c : TT} {t u : TE} {dc : DT} {a b : DE} (hc : SndT K c dc) (ha : SndE K t a) (hb : SndE K u b) : SndE K (tIf c t u) (dIf dc a b) := fun F σ H Hb ρ Q Qd hK r hd q =>
  hc F σ H Hb ρ _ _ hK r hd fun c H1 Hb1 ρ1 r1 b1 hq => by
    cases c with
    | true => exact iteT (ha F σ H1 Hb1 ρ1 Q Qd hK r1 hq fun v d H' Hb' ρ' r' b' => q v d H' Hb' ρ' r' (b1.trans b'))
    | false => exact iteF (hb F σ H1 Hb1 ρ1 Q Qd hK r1 hq fun v d H' Hb' ρ' r' b' => q v d H' Hb' ρ' r' (b1.trans b'))
/-! ### truth of any value -/
def truth : D → Option Bool
  | .non => some false
  | .bl b => some b
  | .int i => some (i != 0)
  | .tup ds => some (!ds.isEmpty)
  | .ktup ds => some (!ds.isEmpty)
  | .lst ds => some (!ds.isEmpty)
  | _ => none
def optD {α : Type} : Option α → (α → Prop) → Prop
  | some x, k => k x
  | none, _ => False
theorem optD_ok {α : Type} {o : Option α} {k : α → Prop} (h : optD o k) : ∃ x, o = some x ∧ k x := by
  cases o with
  | none => exact h.elim
  | some x => exact ⟨x, rfl, h⟩
theorem optD_of {α : Type} {o : Option α} {k : α → Prop} {x : α} (e : o = some x) (h : k x) : optD o k := by
  rw [e]
  exact h
theorem isEmpty_len {α β : Type} {xs : List α} {ys : List β} (h : xs.length = ys.length) : xs.isEmpty = ys.isEmpty := by
  cases xs <;> cases ys <;> first | rfl | cases h
theorem View.tru {Hb H : Hp} {v : V} {d : D} {b : Bool} (s : Same Hb H) (h : View K Hb H v d) (e : truth d = some b) : TruV K v H b := by
  cases d with
  | non => cases h.non; cases e; rfl
  | bl c => cases h.bl; cases e; rfl
  | int i => cases h.int; cases e; rfl
  | tup ds =>
    obtain ⟨a, vs, rfl, h1, _, h2⟩ := h.tup s
    cases e
    exact .inr (.inl ⟨vs, h1, by rw [isEmpty_len h2.len]⟩)
  | ktup ds =>
    obtain ⟨a, vs, rfl, h1, h2⟩ := h.ktup
    cases e
    exact .inr (.inl ⟨vs, h1, by rw [isEmpty_len h2.len]⟩)
  | lst ds =>
    obtain ⟨a, vs, rfl, h1, h2⟩ := h.lst' s
    cases e
    exact .inl ⟨vs, SqL.of h1, by rw [isEmpty_len h2.len]⟩
  | _ => cases e
def dTru (a : Opd) : DT := fun ρ Q => a.run ρ fun p ρ1 => p.res ρ1 fun d => optD (truth d) fun b => Q b ρ1
theorem snd_tru {t : TE} {a : Opd} (ha : SndO K t a) : SndT K (fun σ H Q => t σ H fun x H' => ∃ k, TruV K x H' k ∧ Q k H') (dTru a) := fun F σ H Hb ρ Q Qd hK r hd q => by
  subst hK
  refine SndO.use (t := t) rfl r ha hd fun v p H1 Hb1 ρ1 r1 b1 o1 h1 => ?_
  obtain ⟨d, vd, h3⟩ := OpAt.res r1 o1 h1
  obtain ⟨b, e, h3⟩ := optD_ok h3
  exact ⟨b, vd.tru r1.sub e, q b H1 Hb1 ρ1 r1 b1 h3⟩
/-! ### a < b < c -/
def dChain (f g : D → D → (D → Prop) → Prop) (a b c : DE) : DE := fun ρ Q => a ρ fun x ρ1 => b ρ1 fun y ρ2 => f x y fun z => bl1 z fun k => ifD k (c ρ2 fun w ρ3 => g y w fun u => Q u ρ3) (Q (.bl false) ρ2)
theorem snd_chain {r r' : R2} {f g : D → D → (D → Prop) → Prop} {ta tb tc : TE} {a b c : DE} (hf : OpS K r f) (hg : OpS K r' g) (ha : SndE K ta a) (hb : SndE K tb b) (hc : SndE K tc c) : SndE K (tChain r r' ta tb tc) (dChain f g a b c) := fun F σ H Hb ρ Q Qd hK rr h q => by
  subst hK
  refine ha F σ H Hb ρ _ _ rfl rr h fun v d H1 Hb1 ρ1 r1 b1 p1 h1 => ?_
  refine hb F σ H1 Hb1 ρ1 _ _ rfl r1 h1 fun w e H2 Hb2 ρ2 r2 b2 p2 h2 => ?_
  refine hf H2 Hb2 v w d e _ _ r2.sub (.rep (Rep.mono b2 _ _ p1)) (.rep p2) h2 fun u x H3 Hb3 g3 rp hq => ?_
  obtain ⟨k, rfl, hq⟩ := bl1_ok hq
  cases rp
  have r3 := r2.grow g3
  refine ⟨k, rfl, ?_⟩
  cases k with
  | true => exact iteT (hc F σ H3 Hb3 ρ2 _ _ rfl r3 hq fun v' d' H4 Hb4 ρ4 r4 b4 p4 h4 => hg H4 Hb4 w v' e d' Q _ r4.sub (.rep (Rep.mono (g3.b.trans b4) _ _ p2)) (.rep p4) h4 fun u x H5 Hb5 g5 rp hq => q u x H5 Hb5 ρ4 (r4.grow g5) ((((b1.trans b2).trans g3.b).trans b4).trans g5.b) rp hq)
  | false => exact iteF (q _ _ H3 Hb3 ρ2 r3 ((b1.trans b2).trans g3.b) (.bl _) hq)
end
end PL
namespace PL
open PySem PySem.Spec PyProof.Rows L2 TB
structure DEnds where
  nx : Rho → Prop
  rt : D → Rho → Prop
  bk : Rho → Prop
  ct : Rho → Prop
abbrev DS := DEnds → Rho → Prop
structure EndsOk (F : Fx) (B : Hp) (D : Ends) (E : DEnds) : Prop where
  nx : ∀ σ H Hb ρ, R F σ H Hb ρ → Same B Hb → E.nx ρ → D.nx σ H
  rt : ∀ v d σ H Hb ρ, R F σ H Hb ρ → Same B Hb → Rep F.K Hb v d → E.rt d ρ → D.rt v H
  bk : ∀ σ H Hb ρ, R F σ H Hb ρ → Same B Hb → E.bk ρ → D.bk σ H
  ct : ∀ σ H Hb ρ, R F σ H Hb ρ → Same B Hb → E.ct ρ → D.ct σ H
theorem EndsOk.up {F : Fx} {B B' : Hp} {D : Ends} {E : DEnds} (e : EndsOk F B D E) (s : Same B B') : EndsOk F B' D E :=
  ⟨fun σ H Hb ρ r b => e.nx σ H Hb ρ r (s.trans b), fun v d σ H Hb ρ r b => e.rt v d σ H Hb ρ r (s.trans b), fun σ H Hb ρ r b => e.bk σ H Hb ρ r (s.trans b), fun σ H Hb ρ r b => e.ct σ H Hb ρ r (s.trans b)⟩
def SndS (K : PySem.W.Frag) (t : TS) (ds : DS) : Prop := ∀ (F : Fx) σ H Hb ρ (D : Ends) (E : DEnds), F.K = K → R F σ H Hb ρ → ds E ρ → EndsOk F Hb D E → t D σ H
abbrev DG := D → Rho → (Rho → Prop) → Prop
abbrev DGs := List D → Rho → (Rho → Prop) → Prop
def SndG (K : PySem.W.Frag) (g : TG) (dg : DG) : Prop := ∀ (F : Fx) σ H Hb ρ v d (Q : L2.St → Hp → Prop) (Qd : Rho → Prop), F.K = K → R F σ H Hb ρ → Rep K Hb v d → dg d ρ Qd → (∀ σ' H' Hb' ρ', R F σ' H' Hb' ρ' → Same Hb Hb' → Qd ρ' → Q σ' H') → g v σ H Q
def SndGs (K : PySem.W.Frag) (g : TGs) (dg : DGs) : Prop := ∀ (F : Fx) σ H Hb ρ vs ds (Q : L2.St → Hp → Prop) (Qd : Rho → Prop), F.K = K → R F σ H Hb ρ → RepAll K Hb vs ds → dg ds ρ Qd → (∀ σ' H' Hb' ρ', R F σ' H' Hb' ρ' → Same Hb Hb' → Qd ρ' → Q σ' H') → g vs σ H Q
section
variable {K : PySem.W.Frag}
def dNext : DS := fun E ρ => E.nx ρ
theorem sns_next : SndS K tNext dNext := fun F σ H Hb ρ D E hK r h e => e.nx σ H Hb ρ r (Same.refl _) h
def dBreak : DS := fun E ρ => E.bk ρ
theorem sns_break : SndS K tBreak dBreak := fun F σ H Hb ρ D E hK r h e => e.bk σ H Hb ρ r (Same.refl _) h
def dCont : DS := fun E ρ => E.ct ρ
theorem sns_cont : SndS K tCont dCont := fun F σ H Hb ρ D E hK r h e => e.ct σ H Hb ρ r (Same.refl _) h
def dNever : DS := fun _ _ => False
theorem sns_never : SndS K tNever dNever := fun F σ H Hb ρ D E hK r h e => h.elim
def dSeq (a b : DS) : DS := fun E ρ => a { E with nx := b E } ρ
theorem sns_seq {t u : TS} {a b : DS} (ha : SndS K t a) (hb : SndS K u b) : SndS K (tSeq t u) (dSeq a b) := fun F σ H Hb ρ D E hK r h e =>
  ha F σ H Hb ρ _ _ hK r h ⟨fun σ' H' Hb' ρ' r' s h' => hb F σ' H' Hb' ρ' D E hK r' h' (e.up s), e.rt, e.bk, e.ct⟩
def dDrop (de : DE) : DS := fun E ρ => de ρ fun _ ρ' => E.nx ρ'
theorem sns_drop {t : TE} {de : DE} (h : SndE K t de) : SndS K (tDrop t) (dDrop de) := fun F σ H Hb ρ D E hK r hd e =>
  h F σ H Hb ρ _ _ hK r hd fun v d H' Hb' ρ' r' b rp q => e.nx σ H' Hb' ρ' r' b q
def dRet (de : DE) : DS := fun E ρ => de ρ E.rt
theorem sns_ret {t : TE} {de : DE} (h : SndE K t de) : SndS K (tRet t) (dRet de) := fun F σ H Hb ρ D E hK r hd e =>
  h F σ H Hb ρ _ _ hK r hd fun v d H' Hb' ρ' r' b rp q => e.rt v d σ H' Hb' ρ' r' b (by subst hK; exact rp) q
def dRetN : DS := fun E ρ => E.rt .non ρ
theorem sns_retN : SndS K tRetN dRetN := fun F σ H Hb ρ D E hK r h e => e.rt .non .non σ H Hb ρ r (Same.refl _) .non h
def dIfS (c : DT) (a b : DS) : DS := fun E ρ => c ρ fun k ρ1 => ifD k (a E ρ1) (b E ρ1)
theorem sns_if {c : TT} {t u : TS} {dc : DT} {a b : DS} (hc : SndT K c dc) (ha : SndS K t a) (hb : SndS K u b) : SndS K (tIfS c t u) (dIfS dc a b) := fun F σ H Hb ρ D E hK r hd e =>
  hc F σ H Hb ρ _ _ hK r hd fun k H1 Hb1 ρ1 r1 b1 q => by
    cases k with
    | true => exact iteT (ha F σ H1 Hb1 ρ1 D E hK r1 q (e.up b1))
    | false => exact iteF (hb F σ H1 Hb1 ρ1 D E hK r1 q (e.up b1))
def dJoin (a : DS) : DS := fun E ρ => ∃ P : Rho → Prop, a { E with nx := P } ρ ∧ ∀ ρ', P ρ' → E.nx ρ'
theorem sns_join {t : TS} {a : DS} (h : SndS K t a) : SndS K (jS t) (dJoin a) := fun F σ H Hb ρ D E hK r ⟨P, h1, h2⟩ e =>
  ⟨fun σ' H' => ∃ Hb' ρ', R F σ' H' Hb' ρ' ∧ Same Hb Hb' ∧ P ρ', h F σ H Hb ρ _ _ hK r h1 ⟨fun σ' H' Hb' ρ' r' s p => ⟨Hb', ρ', r', s, p⟩, e.rt, e.bk, e.ct⟩, fun σ' H' ⟨Hb', ρ', r', s, p⟩ => e.nx σ' H' Hb' ρ' r' s (h2 ρ' p)⟩
/-! ### targets -/
def gN (i : Nat) : DG := fun d ρ Q => Q (ρ.set i (.val d))
theorem sng_name (i : Nat) : SndG K (gName i) (gN i) := fun F σ H Hb ρ v d Q Qd hK r rp h q => by
  subst hK
  exact q _ H Hb _ (r.setV rp i) (Same.refl _) h
def gsNil : DGs := fun ds ρ Q => match ds with
  | [] => Q ρ
  | _ => False
theorem sng_nil : SndGs K gNil gsNil := fun F σ H Hb ρ vs ds Q Qd hK r rp h q => by
  cases rp with
  | nil => exact ⟨rfl, q σ H Hb ρ r (Same.refl _) h⟩
  | cons _ _ => exact h.elim
def gsCons (g : DG) (gs : DGs) : DGs := fun ds ρ Q => match ds with
  | d :: r => g d ρ fun ρ1 => gs r ρ1 Q
  | _ => False
theorem sng_cons {t : TG} {u : TGs} {g : DG} {gs : DGs} (hg : SndG K t g) (hs : SndGs K u gs) : SndGs K (gCons t u) (gsCons g gs) := fun F σ H Hb ρ vs ds Q Qd hK r rp h q => by
  cases rp with
  | nil => exact h.elim
  | cons h1 h2 => exact ⟨_, _, rfl, hg F σ H Hb ρ _ _ _ _ hK r h1 h fun σ1 H1 Hb1 ρ1 r1 b1 q1 => hs F σ1 H1 Hb1 ρ1 _ _ _ _ hK r1 (RepAll.mono b1 _ _ h2) q1 fun σ' H' Hb' ρ' r' b' => q σ' H' Hb' ρ' r' (b1.trans b')⟩
def gT (n : Nat) (gs : DGs) : DG := fun d ρ Q => match d with
  | .tup ds => ds.length = n ∧ gs ds ρ Q
  | _ => False
theorem sng_tup {n : Nat} {u : TGs} {gs : DGs} (hs : SndGs K u gs) : SndG K (gTup K n u) (gT n gs) := fun F σ H Hb ρ v d Q Qd hK r rp h q => by
  cases rp with
  | tup h1 h2 =>
    obtain ⟨hl, h⟩ := h
    exact ⟨_, _, rfl, SqT.of (r.sub _ _ h1), h2.len.trans hl, hs F σ H Hb ρ _ _ _ _ hK r h2 h q⟩
  | _ => exact h.elim
def dAsg (de : DE) (g : DG) : DS := fun E ρ => de ρ fun d ρ1 => g d ρ1 E.nx
theorem sns_asg {t : TE} {de : DE} {g : TG} {dg : DG} (he : SndE K t de) (hg : SndG K g dg) : SndS K (tAsg t g) (dAsg de dg) := fun F σ H Hb ρ D E hK r hd e =>
  he F σ H Hb ρ _ _ hK r hd fun v d H' Hb' ρ' r' b rp q => hg F σ H' Hb' ρ' v d _ _ hK r' rp q fun σ2 H2 Hb2 ρ2 r2 b2 q2 => e.nx σ2 H2 Hb2 ρ2 r2 (b.trans b2) q2
/-- the slot takes a list, a dict of one's own -/
def dSetN (i : Nat) (dn : DN) : DS := fun E ρ => dn ρ fun m ρ1 => E.nx (ρ1.set i (.own m))
theorem sns_setN (i : Nat) {t : TE} {dn : DN} (h : SndN K t dn) : SndS K (tAsg t (gName i)) (dSetN i dn) := fun F σ H Hb ρ D E hK r hd e =>
  h F σ H Hb ρ _ _ hK r hd fun p m H1 H' Hb' ρ' r' b n s hm q => by
    subst hK
    exact e.nx _ H' Hb' _ (r'.newM n s hm i) b q
theorem R.lenS {F : Fx} {σ : L2.St} {H Hb : Hp} {ρ : Rho} (r : R F σ H Hb ρ) {i : Nat} {v : Option V} (e : σ[i]? = some v) : ∃ c, ρ[i]? = some c := by
  have hi := (List.getElem?_eq_some_iff.mp e).1
  rw [r.len] at hi
  exact ⟨_, List.getElem?_eq_getElem hi⟩
/-- one's own object goes to another slot -/
theorem R.move {F : Fx} {σ : L2.St} {H Hb : Hp} {ρ : Rho} (r : R F σ H Hb ρ) {i j : Nat} {m : M} {v : V} (e : ρ[j]? = some (.own m)) (es : σ[j]? = some (some v)) : R F (σ.set i (some v)) H Hb ((ρ.set j .no).set i (.own m)) := by
  have old := r.cell j _ _ e es
  have look : ∀ (k : Nat) c, ((ρ.set j .no).set i (.own m))[k]? = some c → (i = k ∧ c = .own m) ∨ (i ≠ k ∧ c = .no) ∨ (i ≠ k ∧ j ≠ k ∧ ρ[k]? = some c) := fun k c h => by
    rw [List.getElem?_set] at h
    by_cases hk : i = k
    · rw [if_pos hk] at h
      split at h
      · cases h; exact .inl ⟨hk, rfl⟩
      · cases h
    · rw [if_neg hk, List.getElem?_set] at h
      by_cases hj : j = k
      · rw [if_pos hj] at h
        split at h
        · cases h; exact .inr (.inl ⟨hk, rfl⟩)
        · cases h
      · rw [if_neg hj] at h
        exact .inr (.inr ⟨hk, hj, h⟩)
  refine ⟨r.sub, r.fr, r.al, r.nw, by rw [List.length_set, List.length_set, List.length_set]; exact r.len, fun k c x e1 e2 => ?_, fun k l c d a n e1 e2 m1 m2 f1 f2 => ?_⟩
  · rw [List.getElem?_set] at e2
    rcases look k c e1 with ⟨h1, rfl⟩ | ⟨h1, rfl⟩ | ⟨h1, h2, h3⟩
    · rw [if_pos h1] at e2
      split at e2
      · cases e2; exact old
      · cases e2
    · trivial
    · rw [if_neg h1] at e2
      exact r.cell k c x h3 e2
  · rw [List.getElem?_set] at f1 f2
    rcases look k c e1 with ⟨h1, rfl⟩ | ⟨h1, rfl⟩ | ⟨h1, h2, h3⟩
    · rcases look l d e2 with ⟨g1, rfl⟩ | ⟨g1, rfl⟩ | ⟨g1, g2, g3⟩
      · exact n (h1.symm.trans g1)
      · cases m2
      · rw [if_pos h1] at f1
        rw [if_neg g1] at f2
        split at f1
        · cases f1
          exact r.dis j l _ d a g2 e g3 rfl m2 es f2
        · cases f1
    · cases m1
    · rcases look l d e2 with ⟨g1, rfl⟩ | ⟨g1, rfl⟩ | ⟨g1, g2, g3⟩
      · rw [if_neg h1] at f1
        rw [if_pos g1] at f2
        split at f2
        · cases f2
          exact r.dis j k _ c a h2 e h3 rfl m1 es f1
        · cases f2
      · cases m2
      · rw [if_neg h1] at f1
        rw [if_neg g1] at f2
        exact r.dis k l c d a n h3 g3 m1 m2 f1 f2
def ownM : Option Cell → (M → Prop) → Prop
  | some (.own m), k => k m
  | _, _ => False
theorem ownM_ok {c : Option Cell} {k : M → Prop} (h : ownM c k) : ∃ m, c = some (.own m) ∧ k m := by
  cases c with
  | none => exact h.elim
  | some c =>
    cases c with
    | own m => exact ⟨m, rfl, h⟩
    | _ => exact h.elim
def dMove (i j : Nat) : DS := fun E ρ => ownM ρ[j]? fun m => E.nx ((ρ.set j .no).set i (.own m))
theorem sns_move (i j : Nat) : SndS K (tAsg (tVar j) (gName i)) (dMove i j) := fun F σ H Hb ρ D E hK r hd e => by
  obtain ⟨m, h1, h2⟩ := ownM_ok hd
  obtain ⟨a, m', e1, _⟩ := r.mine h1 rfl
  exact ⟨_, e1, e.nx _ H Hb _ (r.move h1 e1) (Same.refl _) h2⟩
/-- one's own object is one's own no more: it is data -/
def frzM : M → (D → Prop) → Prop
  | .lst ds, k => k (.lst ds)
  | .dct es, k => k (.dct es)
  | .dcu es, k => k (.dcu es)
  | .dice, _ => False
theorem R.freeze {F : Fx} {σ : L2.St} {H Hb : Hp} {ρ : Rho} (r : R F σ H Hb ρ) {i : Nat} {m : M} {k : D → Prop} (e : ρ[i]? = some (.own m)) (h : frzM m k) : ∃ d v Hb', k d ∧ Same Hb Hb' ∧ σ[i]? = some (some v) ∧ Rep F.K Hb' v d ∧ R F σ H Hb' (ρ.set i (.val d)) := by
  obtain ⟨a, m', e1, hm, nb, nf, h5⟩ := r.mine e rfl
  have hal : F.al a ∧ m' = m := by
    rcases h5 with ⟨h6, h7⟩ | h6
    · cases h6; exact ⟨h7, rfl⟩
    · cases h6
  obtain ⟨hal, rfl⟩ := hal
  have sb : Same Hb (with1 Hb H a) := fun b o eb => by
    unfold with1
    have hb : b ≠ a := fun z => by rw [z, nb] at eb; cases eb
    rw [if_neg hb]; exact eb
  have ea : with1 Hb H a a = H a := if_pos rfl
  have hi := (List.getElem?_eq_some_iff.mp e).1
  have fin : ∀ d, Rep F.K (with1 Hb H a) (.ref a) d → k d → ∃ d v Hb', k d ∧ Same Hb Hb' ∧ σ[i]? = some (some v) ∧ Rep F.K Hb' v d ∧ R F σ H Hb' (ρ.set i (.val d)) := fun d hd hk => by
    refine ⟨d, _, with1 Hb H a, hk, sb, e1, hd, ⟨fun b o eb => ?_, r.fr, fun b eb => ?_, r.nw, by rw [List.length_set]; exact r.len, fun j c v e2 e3 => ?_, fun j l c d' b n e2 e3 m1 m2 f1 => ?_⟩⟩
    · unfold with1 at eb
      by_cases hb : b = a
      · rw [if_pos hb] at eb; rw [hb]; exact eb
      · rw [if_neg hb] at eb; exact r.sub _ _ eb
    · unfold with1 at eb
      by_cases hb : b = a
      · rw [hb]; exact .inl hal
      · rw [if_neg hb] at eb; exact r.al b eb
    · rw [List.getElem?_set] at e2
      by_cases hj : i = j
      · subst hj
        rw [if_pos rfl, if_pos hi] at e2
        cases e2
        rw [e1] at e3
        cases e3
        exact ⟨_, rfl, hd⟩
      · rw [if_neg hj] at e2
        have old := r.cell j c v e2 e3
        have far : ∀ b, c.mine = true → σ[j]? = some (some (.ref b)) → b ≠ a := fun b hc q z => r.dis i j (.own m') c a hj e e2 rfl hc e1 (by rw [q, z])
        cases c with
        | no => trivial
        | val d => obtain ⟨x, q1, q2⟩ := old; exact ⟨x, q1, Rep.mono sb _ _ q2⟩
        | own m2 =>
          obtain ⟨b, rfl, m1, n, f, al⟩ := old
          exact ⟨b, rfl, MAt.mono sb (fun o q => q) m1, by unfold with1; rw [if_neg (far b rfl e3)]; exact n, f, al⟩
        | io b m2 =>
          obtain ⟨rfl, m1, n, f⟩ := old
          exact ⟨rfl, MAt.mono sb (fun o q => q) m1, by unfold with1; rw [if_neg (far b rfl e3)]; exact n, f⟩
        | lck b m2 =>
          obtain ⟨q1, o, u, q2, q3⟩ := old
          exact ⟨q1, o, u, q2, q3.mono sb⟩
    · rw [List.getElem?_set] at e2 e3
      by_cases hj : i = j
      · rw [if_pos hj] at e2
        rw [if_pos hi] at e2
        cases e2; cases m1
      · rw [if_neg hj] at e2
        by_cases hl : i = l
        · rw [if_pos hl, if_pos hi] at e3
          cases e3; cases m2
        · rw [if_neg hl] at e3
          exact r.dis j l c d' b n e2 e3 m1 m2 f1
  cases m' with
  | lst ds =>
    obtain ⟨vs, h1, h2⟩ := hm
    exact fin _ (.lst (ea.trans h1) (RepAll.mono sb _ _ h2)) h
  | dct es =>
    obtain ⟨vs, h1, h2⟩ := hm
    exact fin _ (.dct (.inl (ea.trans h1)) (RepKV.mono sb _ _ h2)) h
  | dcu es =>
    obtain ⟨vs, h1, h2⟩ := hm
    exact fin _ (.dcu (.inl (ea.trans h1)) (RepKT.mono sb _ _ h2)) h
  | dice => exact h.elim
def dFrz (i : Nat) (a : DS) : DS := fun E ρ => ownM ρ[i]? fun m => frzM m fun d => a E (ρ.set i (.val d))
theorem sns_frz (i : Nat) {t : TS} {a : DS} (h : SndS K t a) : SndS K t (dFrz i a) := fun F σ H Hb ρ D E hK r hd e => by
  obtain ⟨m, h1, h2⟩ := ownM_ok hd
  obtain ⟨d, v, Hb', hk, sb, _, _, r'⟩ := r.freeze h1 h2
  exact h F σ H Hb' _ D E hK r' hk (e.up sb)
def dFrzE (i : Nat) (a : DE) : DE := fun ρ Q => ownM ρ[i]? fun m => frzM m fun d => a (ρ.set i (.val d)) Q
theorem snd_frz (i : Nat) {t : TE} {a : DE} (h : SndE K t a) : SndE K t (dFrzE i a) := fun F σ H Hb ρ Q Qd hK r hd e => by
  obtain ⟨m, h1, h2⟩ := ownM_ok hd
  obtain ⟨d, v, Hb', hk, sb, _, _, r'⟩ := r.freeze h1 h2
  exact h F σ H Hb' _ Q Qd hK r' hk fun v d H' Hb2 ρ' r2 b2 => e v d H' Hb2 ρ' r2 (sb.trans b2)
/-- return of one's own -/
def dRetO (i : Nat) : DS := dFrz i (dRet (dVar i))
theorem sns_retO (i : Nat) : SndS K (tRet (tVar i)) (dRetO i) := sns_frz i (sns_ret (snd_var i))
/-! ### x += e; a, b = e, f -/
def ip2 (f : Int → Int → Int) (d e : D) (k : D → Prop) : Prop := int2 d e fun i j => k (.int (f i j))
def dAug (i : Nat) (f : Int → Int → Int) (de : DE) : DS := fun E ρ => cellV ρ[i]? fun x => de ρ fun y ρ1 => ip2 f x y fun z => E.nx (ρ1.set i (.val z))
theorem sns_aug (i : Nat) {f : Int → Int → Int} {t : TE} {de : DE} (h : SndE K t de) : SndS K (tAug i t (ipI f)) (dAug i f de) := fun F σ H Hb ρ D E hK r hd e => by
  subst hK
  unfold dAug at hd
  cases e1 : ρ[i]? with
  | none => rw [e1] at hd; exact hd.elim
  | some c =>
    rw [e1] at hd
    cases c with
    | val d =>
      obtain ⟨v, h1, h2⟩ := r.val e1
      refine ⟨v, h1, h F σ H Hb ρ _ _ rfl r hd fun w y H1 Hb1 ρ1 r1 b1 p1 q1 => ?_⟩
      obtain ⟨x, z, rfl, rfl, q1⟩ := int2_ok q1
      cases h2
      cases p1
      exact ⟨x, z, rfl, rfl, e.nx _ H1 Hb1 _ (r1.setV (.int _) i) b1 q1⟩
    | _ => exact hd.elim
def dNilA : DA := fun ρ Q => Q [] ρ
def dConsA (a : DE) (r : DA) : DA := fun ρ Q => a ρ fun d ρ1 => r ρ1 fun ds ρ2 => Q (d :: ds) ρ2
theorem sna_nil : SndA K 0 tNil dNilA := fun F σ H Hb ρ Q Qd hK r h q => q [] [] H Hb ρ r (Same.refl _) .nil rfl h
theorem sna_cons {n : Nat} {t : TE} {u : TA} {a : DE} {b : DA} (ha : SndE K t a) (hb : SndA K n u b) : SndA K (n + 1) (tCons t u) (dConsA a b) := fun F σ H Hb ρ Q Qd hK r h q =>
  ha F σ H Hb ρ _ _ hK r h fun v d H1 Hb1 ρ1 r1 b1 p1 q1 => hb F σ H1 Hb1 ρ1 _ _ hK r1 q1 fun vs ds H2 Hb2 ρ2 r2 b2 p2 l2 q2 => q _ _ H2 Hb2 ρ2 r2 (b1.trans b2) (.cons (Rep.mono b2 _ _ p1) p2) (congrArg Nat.succ l2) q2
def dPar (i j : Nat) (a : DA) : DS := fun E ρ => a ρ fun ds ρ1 => match ds with
  | [x, y] => E.nx ((ρ1.set i (.val x)).set j (.val y))
  | _ => False
theorem sns_par (i j : Nat) {n : Nat} {t : TA} {a : DA} (h : SndA K n t a) : SndS K (tPar i j t) (dPar i j a) := fun F σ H Hb ρ D E hK r hd e =>
  h F σ H Hb ρ _ _ hK r hd fun vs ds H' Hb' ρ' r' b rp hl q => by
    subst hK
    cases rp with
    | nil => exact q.elim
    | cons h1 h2 =>
      cases h2 with
      | nil => exact q.elim
      | cons h3 h4 =>
        cases h4 with
        | nil => exact ⟨_, _, rfl, e.nx _ H' Hb' _ ((r'.setV h1 i).setV h3 j) b q⟩
        | cons _ _ => exact q.elim
/-! ### loops -/
/-- the frozen part of a frame -/
def fzH (fr : Hp) : Hp := fun b => match fr b with
  | some (.frz o u) => some (.frz o u)
  | _ => none
theorem fz_at {fr : Hp} {b : Addr} {o : Obj} {u : HO} (e : fr b = some (.frz o u)) : fzH fr b = some (.frz o u) := by
  unfold fzH
  rw [e]
theorem fz_same {fr H : Hp} (s : Same fr H) : Same (fzH fr) H := fun b o e => by
  unfold fzH at e
  split at e
  · rename_i q
    cases e
    exact s _ _ q
  · cases e
structure JAt (K : PySem.W.Frag) (J : It) (Hb fr : Hp) (items : List D) : Prop where
  go : ∀ (i : Nat) d H Hb1, Same Hb Hb1 → Same Hb1 H → Same fr H → items[i]? = some d → J.go i H ∧ ∀ x H', J.yld i H x H' → ∃ Hb', Gr H Hb1 H' Hb' ∧ Rep K Hb' x d
  stop : ∀ (i : Nat) H Hb1, Same Hb Hb1 → Same Hb1 H → Same fr H → items.length ≤ i → J.stop i H
abbrev DI := Rho → (List D → Rho → Prop) → Prop
def SndI (K : PySem.W.Frag) (wi : TI) (di : DI) : Prop := ∀ (F : Fx) σ H Hb ρ (Rk : It → Hp → Prop) (Qd : List D → Rho → Prop), F.K = K → R F σ H Hb ρ → di ρ Qd →
  (∀ J items H' Hb' ρ', R F σ H' Hb' ρ' → Same Hb Hb' → JAt K J Hb' (fzH F.fr) items → Qd items ρ' → Rk J H') → wi σ H Rk
def loopP (g : DG) (b : DS) (E : DEnds) (items : List D) (ρ : Rho) : Prop := ∃ P : Nat → Rho → Prop, P 0 ρ ∧ (∀ (i : Nat) x ρ, items[i]? = some x → P i ρ → g x ρ fun ρ1 => b ⟨P (i + 1), E.rt, E.nx, P (i + 1)⟩ ρ1) ∧ ∀ ρ, P items.length ρ → E.nx ρ
def dFor (di : DI) (g : DG) (b : DS) : DS := fun E ρ => di ρ fun items ρ1 => loopP g b E items ρ1
theorem sns_for {wi : TI} {g : TG} {tb : TS} {di : DI} {dg : DG} {db : DS} (hi : SndI K wi di) (hg : SndG K g dg) (hb : SndS K tb db) : SndS K (tFor wi g tb) (dFor di dg db) := fun F σ H Hb ρ D E hK r hd e => by
  refine hi F σ H Hb ρ _ _ hK r hd fun J items H1 Hb1 ρ1 r1 b1 ja ⟨P, p0, pt, pd⟩ => ?_
  refine ⟨fun i m σ H => m = items.length - i ∧ i ≤ items.length ∧ ∃ Hb ρ, R F σ H Hb ρ ∧ Same Hb1 Hb ∧ P i ρ, ⟨_, rfl, Nat.zero_le _, Hb1, ρ1, r1, Same.refl _, p0⟩, ?_⟩
  rintro i m σ2 H2 ⟨rfl, hl, Hb2, ρ2, r2, b2, q2⟩
  by_cases h : i < items.length
  · have ex : items[i]? = some items[i] := List.getElem?_eq_getElem h
    obtain ⟨go, yl⟩ := ja.go i _ H2 Hb2 b2 r2.sub (fz_same r2.fr) ex
    refine .inr ⟨go, fun σ H => i + 1 ≤ items.length ∧ ∃ Hb ρ, R F σ H Hb ρ ∧ Same Hb1 Hb ∧ P (i + 1) ρ, fun σ' H' ⟨h1, h2⟩ => ⟨_, by omega, rfl, h1, h2⟩, fun x H3 y => ?_⟩
    obtain ⟨Hb3, g3, rp⟩ := yl x H3 y
    refine hg F σ2 H3 Hb3 ρ2 x _ _ _ hK (r2.grow g3) rp (pt i _ ρ2 ex q2) fun σ4 H4 Hb4 ρ4 r4 b4 q4 => ?_
    have b14 : Same Hb1 Hb4 := (b2.trans g3.b).trans b4
    exact hb F σ4 H4 Hb4 ρ4 _ _ hK r4 q4 ⟨fun σ H Hb ρ r s h => ⟨by omega, Hb, ρ, r, b14.trans s, h⟩, fun v d σ H Hb ρ r s => e.rt v d σ H Hb ρ r ((b1.trans b14).trans s), fun σ H Hb ρ r s => e.nx σ H Hb ρ r ((b1.trans b14).trans s), fun σ H Hb ρ r s h => ⟨by omega, Hb, ρ, r, b14.trans s, h⟩⟩
  · have hi' : i = items.length := by omega
    subst hi'
    exact .inl ⟨ja.stop _ H2 Hb2 b2 r2.sub (fz_same r2.fr) (Nat.le_refl _), e.nx σ2 H2 Hb2 ρ2 r2 (b1.trans b2) (pd ρ2 q2)⟩
def dWhile (c : DT) (b : DS) : DS := fun E ρ => ∃ P : Nat → Rho → Prop, (∃ m, P m ρ) ∧ ∀ m ρ, P m ρ → c ρ fun k ρ1 => ifD k (b ⟨fun ρ' => ∃ m', m' < m ∧ P m' ρ', E.rt, E.nx, fun ρ' => ∃ m', m' < m ∧ P m' ρ'⟩ ρ1) (E.nx ρ1)
theorem sns_while {c : TT} {tb : TS} {dc : DT} {db : DS} (hc : SndT K c dc) (hb : SndS K tb db) : SndS K (tWhile c tb) (dWhile dc db) := fun F σ H Hb ρ D E hK r ⟨P, ⟨m0, p0⟩, pt⟩ e => by
  refine ⟨fun m σ H => ∃ Hb2 ρ, R F σ H Hb2 ρ ∧ Same Hb Hb2 ∧ P m ρ, ⟨m0, Hb, ρ, r, Same.refl _, p0⟩, ?_⟩
  rintro m σ1 H1 ⟨Hb1, ρ1, r1, b1, p1⟩
  refine hc F σ1 H1 Hb1 ρ1 _ _ hK r1 (pt m ρ1 p1) fun k H2 Hb2 ρ2 r2 b2 q2 => ?_
  have b12 := b1.trans b2
  cases k with
  | true =>
    refine iteT ⟨fun σ' H' => ∃ m', m' < m ∧ ∃ Hb2 ρ, R F σ' H' Hb2 ρ ∧ Same Hb Hb2 ∧ P m' ρ, fun σ' H' h => h, ?_⟩
    exact hb F σ1 H2 Hb2 ρ2 _ _ hK r2 q2 ⟨fun σ H Hb3 ρ r s ⟨m', h1, h2⟩ => ⟨m', h1, Hb3, ρ, r, b12.trans s, h2⟩, fun v d σ H Hb ρ r s => e.rt v d σ H Hb ρ r (b12.trans s), fun σ H Hb ρ r s => e.nx σ H Hb ρ r (b12.trans s), fun σ H Hb3 ρ r s ⟨m', h1, h2⟩ => ⟨m', h1, Hb3, ρ, r, b12.trans s, h2⟩⟩
  | false => exact iteF (e.nx σ1 H2 Hb2 ρ2 r2 b12 q2)
/-! ### what is walked -/
def dISeq (de : DE) : DI := fun ρ Q => de ρ fun d ρ1 => match d with
  | .tup ds => Q ds ρ1
  | .ktup ds => Q ds ρ1
  | _ => False
def dIList (de : DE) : DI := fun ρ Q => de ρ fun d ρ1 => match d with
  | .lst ds => Q ds ρ1
  | _ => False
theorem sni_tup {t : TE} {de : DE} (h : SndE K t de) : SndI K (iTup K t) (dISeq de) := fun F σ H Hb ρ Rk Qd hK r hd q =>
  h F σ H Hb ρ _ _ hK r hd fun v d H' Hb' ρ' r' b rp hq => by
    have go : ∀ {a : Addr} {xs : List V} {ds : List D}, (∀ H1 Hb1, Same Hb' Hb1 → Same Hb1 H1 → SqT K H1 a xs) → RepAll K Hb' xs ds → Qd ds ρ' → ∃ a', V.ref a = .ref a' ∧ (∃ xs, SqT K H' a' xs) ∧ Rk (Itt K a') H' := fun {a xs ds} h1 h2 hq => by
      refine ⟨a, rfl, ⟨_, h1 H' Hb' (Same.refl _) r'.sub⟩, q _ ds H' Hb' ρ' r' b ⟨fun i d H Hb1 s1 s2 _ e => ?_, fun i H Hb1 s1 s2 _ e => ⟨_, h1 H Hb1 s1 s2, by rw [h2.len]; exact e⟩⟩ hq⟩
      obtain ⟨v, e1, e2⟩ := h2.get e
      refine ⟨⟨_, v, h1 H Hb1 s1 s2, e1⟩, fun x H' ⟨y1, y2⟩ => ?_⟩
      subst y1
      have := y2 _ (h1 H' Hb1 s1 s2)
      rw [e1] at this
      cases this
      exact ⟨Hb1, Gr.refl s2, Rep.mono s1 _ _ e2⟩
    cases rp with
    | tup h1 h2 => exact go (fun H1 Hb1 s1 s2 => SqT.of (s2 _ _ (s1 _ _ h1))) h2 hq
    | ktup h1 h2 => exact go (fun H1 Hb1 s1 s2 => h1 H1) h2 hq
    | _ => exact hq.elim
theorem sni_list {t : TE} {de : DE} (h : SndE K t de) : SndI K (iList K t) (dIList de) := fun F σ H Hb ρ Rk Qd hK r hd q =>
  h F σ H Hb ρ _ _ hK r hd fun v d H' Hb' ρ' r' b rp hq => by
    cases rp with
    | lst h1 h2 =>
      rename_i a xs ds
      have h1 := SqL.of (K := K) h1
      refine ⟨a, rfl, ⟨_, r'.sub.seq h1⟩, q _ ds H' Hb' ρ' r' b ⟨fun i d H Hb1 s1 s2 _ e => ?_, fun i H Hb1 s1 s2 _ e => ⟨_, (s1.trans s2).seq h1, by rw [h2.len]; exact e⟩⟩ hq⟩
      obtain ⟨v, e1, e2⟩ := h2.get e
      refine ⟨⟨_, v, (s1.trans s2).seq h1, e1⟩, fun x H' ⟨y1, y2⟩ => ?_⟩
      subst y1
      have := y2 _ ((s1.trans s2).seq h1)
      rw [e1] at this
      cases this
      exact ⟨Hb1, Gr.refl s2, Rep.mono s1 _ _ e2⟩
    | _ => exact hq.elim
def rngD (lo : Int) (n : Nat) : List D := (List.range n).map fun i => .int (lo + (i : Nat))
theorem rngD_get {lo : Int} {n i : Nat} {d : D} (h : (rngD lo n)[i]? = some d) : i < n ∧ d = .int (lo + i) := by
  unfold rngD at h
  rw [List.getElem?_map] at h
  by_cases hi : i < n
  · rw [List.getElem?_range hi] at h
    cases h
    exact ⟨hi, rfl⟩
  · rw [List.getElem?_eq_none (by rw [List.length_range]; omega)] at h
    cases h
theorem rngD_len {lo : Int} {n : Nat} : (rngD lo n).length = n := by unfold rngD; rw [List.length_map, List.length_range]
theorem jat_rng {lo : Int} {n : Nat} {Hb fr : Hp} : JAt K (Itr lo n) Hb fr (rngD lo n) := ⟨fun i d H Hb1 s1 s2 _ e => by
  obtain ⟨h1, rfl⟩ := rngD_get e
  exact ⟨h1, fun x H' ⟨y1, y2⟩ => by subst y1 y2; exact ⟨Hb1, Gr.refl s2, .int _⟩⟩, fun i H Hb1 s1 s2 _ e => by rw [rngD_len] at e; exact e⟩
def dIRng1 (da : DA) : DI := fun ρ Q => da ρ fun ds ρ1 => match ds with
  | [.int j] => (-(2 ^ 62) ≤ j ∧ j < 2 ^ 62) ∧ Q (rngD 0 j.toNat) ρ1
  | _ => False
theorem sni_rng1 {n : Nat} {t : TA} {da : DA} (h : SndA K n t da) : SndI K (iRng1 t) (dIRng1 da) := fun F σ H Hb ρ Rk Qd hK r hd q =>
  h F σ H Hb ρ _ _ hK r hd fun vs ds H' Hb' ρ' r' b rp hl hq => by
    cases rp with
    | nil => exact hq.elim
    | cons h1 h2 =>
      cases h1 <;> first
        | exact hq.elim
        | (cases h2 with
          | cons _ _ => exact hq.elim
          | nil => exact ⟨_, rfl, hq.1.1, hq.1.2, q _ _ H' Hb' ρ' r' b jat_rng hq.2⟩)
def dIRng2 (da : DA) : DI := fun ρ Q => da ρ fun ds ρ1 => match ds with
  | [.int i, .int j] => (-(2 ^ 62) ≤ i ∧ i < 2 ^ 62 ∧ -(2 ^ 62) ≤ j ∧ j < 2 ^ 62) ∧ Q (rngD i (j - i).toNat) ρ1
  | _ => False
theorem sni_rng2 {n : Nat} {t : TA} {da : DA} (h : SndA K n t da) : SndI K (iRng2 t) (dIRng2 da) := fun F σ H Hb ρ Rk Qd hK r hd q =>
  h F σ H Hb ρ _ _ hK r hd fun vs ds H' Hb' ρ' r' b rp hl hq => by
    cases rp with
    | nil => exact hq.elim
    | cons h1 h2 =>
      cases h2 with
      | nil => cases h1 <;> exact hq.elim
      | cons h3 h4 =>
        cases h4 with
        | cons _ _ => cases h1 <;> cases h3 <;> exact hq.elim
        | nil => cases h1 <;> first | exact hq.elim | (cases h3 <;> first | exact hq.elim | exact ⟨_, _, rfl, hq.1, q _ _ H' Hb' ρ' r' b jat_rng hq.2⟩)
/-! ### comprehensions -/
def wipeR (ρ : Rho) : List Nat → Rho
  | [] => ρ
  | v :: vs => (wipeR ρ vs).set v .no
def freeC (ρ : Rho) : List Nat → Prop
  | [] => True
  | v :: vs => (match ρ[v]? with
    | some (.own _) => False
    | some (.io _ _) => False
    | _ => True) ∧ freeC ρ vs
/-- the block's own slots as they were outside -/
def backR (ρ : Rho) (vs : List Nat) (ρ' : Rho) : Rho := match vs with
  | [] => ρ'
  | v :: vs => (backR ρ vs ρ').set v (match ρ[v]? with
    | some c => c
    | none => .no)
theorem R.wiped {F : Fx} {σ : L2.St} {H Hb : Hp} {ρ : Rho} (r : R F σ H Hb ρ) : ∀ vs : List Nat, R F (wipe σ vs) H Hb (wipeR ρ vs)
  | [] => r
  | v :: vs => (r.wiped vs).forget v none
theorem R.len' {F : Fx} {σ : L2.St} {H Hb : Hp} {ρ : Rho} (r : R F σ H Hb ρ) : σ.length = ρ.length := r.len
theorem wipe_get {σ : L2.St} {i : Nat} : ∀ {vs : List Nat}, i ∉ vs → (wipe σ vs)[i]? = σ[i]?
  | [], _ => rfl
  | v :: vs, h => by
    unfold wipe
    rw [List.getElem?_set_ne (fun e => h (by rw [e]; exact List.mem_cons_self ..))]
    exact wipe_get fun m => h (List.mem_cons_of_mem _ m)
theorem backR_len {ρ ρ' : Rho} : ∀ {vs : List Nat}, (backR ρ vs ρ').length = ρ'.length
  | [] => rfl
  | v :: vs => by unfold backR; rw [List.length_set]; exact backR_len
theorem backR_out {ρ ρ' : Rho} {i : Nat} : ∀ {vs : List Nat}, i ∉ vs → (backR ρ vs ρ')[i]? = ρ'[i]?
  | [], _ => rfl
  | v :: vs, h => by
    unfold backR
    rw [List.getElem?_set_ne (fun e => h (by rw [e]; exact List.mem_cons_self ..))]
    exact backR_out fun m => h (List.mem_cons_of_mem _ m)
theorem backR_in {ρ ρ' : Rho} (hl : ρ.length = ρ'.length) {i : Nat} {c : Cell} : ∀ {vs : List Nat}, i ∈ vs → (backR ρ vs ρ')[i]? = some c → ρ[i]? = some c
  | v :: vs, h, e => by
    unfold backR at e
    by_cases hv : v = i
    · subst hv
      rw [List.getElem?_set, if_pos rfl] at e
      split at e
      · rename_i hlt
        rw [backR_len] at hlt
        rw [List.getElem?_eq_getElem (by omega)] at e ⊢
        exact e
      · cases e
    · rw [List.getElem?_set_ne hv] at e
      rcases List.mem_cons.mp h with z | z
      · exact absurd z.symm hv
      · exact backR_in hl z e
theorem freeC_at {ρ : Rho} {i : Nat} {c : Cell} : ∀ {vs : List Nat}, freeC ρ vs → i ∈ vs → ρ[i]? = some c → c.mine = false
  | v :: vs, ⟨h1, h2⟩, hm, e => by
    rcases List.mem_cons.mp hm with rfl | hm
    · rw [e] at h1
      cases c <;> first | rfl | exact h1.elim
    · exact freeC_at h2 hm e
/-- behind a block: the outer frame's slots, what is one's own as it is now -/
theorem R.back {F : Fx} {σ σ2 : L2.St} {H H0 Hb Hb0 : Hp} {ρ ρ' : Rho} {vs : List Nat} (r0 : R F σ H0 Hb0 ρ) (s : Same Hb0 Hb) (hf : freeC ρ vs) (r : R F σ2 H Hb ρ') (hw : wipe σ2 vs = wipe σ vs) : R F σ H Hb (backR ρ vs ρ') := by
  have hl : ρ.length = ρ'.length := by
    have := congrArg List.length hw
    rw [wipe_length, wipe_length, r.len, r0.len] at this
    exact this.symm
  have same : ∀ i, i ∉ vs → σ2[i]? = σ[i]? := fun i h => by rw [← wipe_get (σ := σ2) h, hw, wipe_get h]
  refine ⟨r.sub, r.fr, r.al, r.nw, by rw [backR_len, ← hl]; exact r0.len, fun i c v e1 e2 => ?_, fun i j c d a n e1 e2 m1 m2 f1 f2 => ?_⟩
  · by_cases hi : i ∈ vs
    · have e3 := backR_in hl hi e1
      have nm := freeC_at hf hi e3
      have old := r0.cell i c v e3 e2
      cases c with
      | no => trivial
      | val d => obtain ⟨x, q1, q2⟩ := old; exact ⟨x, q1, Rep.mono s _ _ q2⟩
      | own _ => cases nm
      | io _ _ => cases nm
      | lck a m => obtain ⟨q1, o, u, q2, q3⟩ := old; exact ⟨q1, o, u, q2, q3.mono s⟩
    · rw [backR_out hi] at e1
      exact r.cell i c v e1 (by rw [same i hi]; exact e2)
  · have out : ∀ k c, (backR ρ vs ρ')[k]? = some c → c.mine = true → k ∉ vs := fun k c q m hk => by
      have := freeC_at hf hk (backR_in hl hk q)
      rw [m] at this
      cases this
    have hi := out i c e1 m1
    have hj := out j d e2 m2
    rw [backR_out hi] at e1
    rw [backR_out hj] at e2
    exact r.dis i j c d a n e1 e2 m1 m2 (by rw [same i hi]; exact f1) (by rw [same j hj]; exact f2)
/-- the frame in which the new list at D grows -/
def Fx.at (F : Fx) (D : Addr) (acc : List V) : Fx := ⟨F.K, upd F.fr D (.lst acc), fun b => b ≠ D ∧ F.al b⟩
theorem R.enter {F : Fx} {σ : L2.St} {H Hb : Hp} {ρ : Rho} {D : Addr} (r : R F σ H Hb ρ) (n : H D = none) : R (F.at D []) σ (upd H D (.lst [])) Hb ρ := by
  have g : Gr H Hb (upd H D (.lst [])) Hb := ⟨same_new n, Same.refl _, r.sub.trans (same_new n), fun _ e => .inl e⟩
  have r2 := r.grow g
  have nH : ∀ a, H a ≠ none → a ≠ D := fun a h z => h (by rw [z]; exact n)
  refine ⟨r2.sub, fun b o e => ?_, fun b e => ?_, fun b e => ?_, r.len, fun i c v e1 e2 => ?_, r.dis⟩
  · by_cases hb : b = D
    · subst hb
      have e : upd F.fr b (.lst []) b = some o := e
      rw [upd_same] at e ⊢
      exact e
    · have e : upd F.fr D (.lst []) b = some o := e
      rw [upd_ne hb] at e ⊢
      exact r.fr _ _ e
  · rcases r2.al b e with z | z
    · refine .inl ⟨nH b ?_, z⟩
      obtain ⟨o, q⟩ := nonne e
      rw [r.sub _ _ q]
      exact fun z => nomatch z
    · exact .inr z
  · by_cases hb : b = D
    · subst hb; rw [upd_same] at e; cases e
    · rw [upd_ne hb] at e
      exact ⟨hb, r.nw b e⟩
  · have old := r2.cell i c v e1 e2
    have old1 := r.cell i c v e1 e2
    cases c with
    | no => trivial
    | val d => exact old
    | own m =>
      obtain ⟨a, q1, q2, q3, q4, q5⟩ := old
      obtain ⟨a', p1, p2, _⟩ := old1
      rw [q1] at p1
      cases p1
      have na := nH a (MAt.ne p2)
      exact ⟨a, q1, q2, q3, by show upd F.fr D _ a = none; rw [upd_ne na]; exact q4, na, q5⟩
    | io a m =>
      obtain ⟨q1, q2, q3, q4⟩ := old
      obtain ⟨p1, p2, _⟩ := old1
      have na := nH a (MAt.ne p2)
      exact ⟨q1, q2, q3, by show upd F.fr D _ a = none; rw [upd_ne na]; exact q4⟩
    | lck a m =>
      obtain ⟨q1, o, u, q2, q3⟩ := old
      have na := nH a (by rw [r.fr _ _ q2]; exact fun z => nomatch z)
      exact ⟨q1, o, u, by show upd F.fr D _ a = _; rw [upd_ne na]; exact q2, q3⟩
theorem R.frU {F : Fx} {σ : L2.St} {H Hb : Hp} {ρ : Rho} {D : Addr} {acc : List V} (r : R (F.at D acc) σ H Hb ρ) (nf : F.fr D = none) : Same F.fr H := fun b o e => by
  have hb : b ≠ D := fun z => by rw [z, nf] at e; cases e
  exact r.fr _ _ (show upd F.fr D _ b = _ by rw [upd_ne hb]; exact e)
theorem R.atD {F : Fx} {σ : L2.St} {H Hb : Hp} {ρ : Rho} {D : Addr} {acc : List V} (r : R (F.at D acc) σ H Hb ρ) : H D = some (.lst acc) ∧ Hb D = none := by
  have e : H D = some (.lst acc) := r.fr _ _ (show upd F.fr D _ D = _ from upd_same)
  refine ⟨e, ?_⟩
  cases q : Hb D with
  | none => rfl
  | some o =>
    rcases r.al D (by rw [q]; exact fun z => nomatch z) with z | ⟨xs, z⟩
    · exact absurd rfl z.1
    · rcases z with z | ⟨o, z⟩ <;> (rw [e] at z; cases z)
theorem R.grown {F : Fx} {σ : L2.St} {H Hb : Hp} {ρ : Rho} {D : Addr} {acc acc' : List V} (r : R (F.at D acc) σ H Hb ρ) : R (F.at D acc') σ (upd H D (.lst acc')) Hb ρ := by
  obtain ⟨hD, nb⟩ := r.atD
  refine ⟨fun b o e => ?_, fun b o e => ?_, fun b e => ?_, fun b e => ?_, r.len, fun i c v e1 e2 => ?_, r.dis⟩
  · have hb : b ≠ D := fun z => by rw [z, nb] at e; cases e
    rw [upd_ne hb]
    exact r.sub _ _ e
  · have e : upd F.fr D (.lst acc') b = some o := e
    by_cases hb : b = D
    · subst hb; rw [upd_same] at e ⊢; exact e
    · rw [upd_ne hb] at e ⊢
      exact r.fr _ _ (show upd F.fr D _ b = _ by rw [upd_ne hb]; exact e)
  · rcases r.al b e with z | ⟨xs, z⟩
    · exact .inl z
    · have hb : b ≠ D := fun q => e (by rw [q]; exact nb)
      refine .inr ⟨xs, ?_⟩
      rcases z with z | ⟨o, z⟩
      · exact .inl (by rw [upd_ne hb]; exact z)
      · exact .inr ⟨o, by rw [upd_ne hb]; exact z⟩
  · by_cases hb : b = D
    · subst hb; rw [upd_same] at e; cases e
    · rw [upd_ne hb] at e; exact r.nw b e
  · have old := r.cell i c v e1 e2
    have far : ∀ a, (F.at D acc).fr a = none → a ≠ D ∧ (F.at D acc').fr a = none := fun a h => by
      have h : upd F.fr D (.lst acc) a = none := h
      by_cases ha : a = D
      · subst ha; rw [upd_same] at h; cases h
      · rw [upd_ne ha] at h
        exact ⟨ha, by show upd F.fr D _ a = none; rw [upd_ne ha]; exact h⟩
    cases c with
    | no => trivial
    | val d => exact old
    | own m =>
      obtain ⟨a, q1, q2, q3, q4, q5⟩ := old
      obtain ⟨na, f⟩ := far a q4
      exact ⟨a, q1, MAt.mono (Same.refl _) (fun o e => by rw [upd_ne na]; exact e) q2, q3, f, q5⟩
    | io a m =>
      obtain ⟨q1, q2, q3, q4⟩ := old
      obtain ⟨na, f⟩ := far a q4
      exact ⟨q1, MAt.mono (Same.refl _) (fun o e => by rw [upd_ne na]; exact e) q2, q3, f⟩
    | lck a m =>
      obtain ⟨q1, o, u, q2, q3⟩ := old
      have q2 : upd F.fr D (.lst acc) a = some (.frz o u) := q2
      have na : a ≠ D := fun z => by rw [z, upd_same] at q2; cases q2
      rw [upd_ne na] at q2
      exact ⟨q1, o, u, by show upd F.fr D _ a = _; rw [upd_ne na]; exact q2, q3⟩
/-- the heap ahead of D -/
def sans (H : Hp) (D : Addr) : Hp := fun b => if b = D then none else H b
theorem R.leave {F : Fx} {σ : L2.St} {H Hb : Hp} {ρ : Rho} {D : Addr} {acc : List V} (r : R (F.at D acc) σ H Hb ρ) (nf : F.fr D = none) (al : F.al D) : R F σ (sans H D) Hb ρ ∧ Same (sans H D) H ∧ sans H D D = none := by
  obtain ⟨hD, nb⟩ := r.atD
  have ne : ∀ b, b ≠ D → sans H D b = H b := fun b h => if_neg h
  refine ⟨⟨fun b o e => ?_, fun b o e => ?_, fun b e => ?_, fun b e => ?_, r.len, fun i c v e1 e2 => ?_, r.dis⟩, fun b o e => ?_, if_pos rfl⟩
  · have hb : b ≠ D := fun z => by rw [z, nb] at e; cases e
    rw [ne b hb]; exact r.sub _ _ e
  · have hb : b ≠ D := fun z => by rw [z, nf] at e; cases e
    rw [ne b hb]
    exact r.fr _ _ (show upd F.fr D _ b = _ by rw [upd_ne hb]; exact e)
  · have hb : b ≠ D := fun q => e (by rw [q]; exact nb)
    rcases r.al b e with z | ⟨xs, z⟩
    · exact .inl z.2
    · refine .inr ⟨xs, ?_⟩
      rcases z with z | ⟨o, z⟩
      · exact .inl (by rw [ne b hb]; exact z)
      · exact .inr ⟨o, by rw [ne b hb]; exact z⟩
  · by_cases hb : b = D
    · rw [hb]; exact al
    · rw [ne b hb] at e; exact (r.nw b e).2
  · have old := r.cell i c v e1 e2
    have far : ∀ a, (F.at D acc).fr a = none → a ≠ D ∧ F.fr a = none := fun a h => by
      have h : upd F.fr D (.lst acc) a = none := h
      by_cases ha : a = D
      · subst ha; rw [upd_same] at h; cases h
      · rw [upd_ne ha] at h; exact ⟨ha, h⟩
    cases c with
    | no => trivial
    | val d => exact old
    | own m =>
      obtain ⟨a, q1, q2, q3, q4, q5⟩ := old
      obtain ⟨na, f⟩ := far a q4
      exact ⟨a, q1, MAt.mono (Same.refl _) (fun o e => by rw [ne a na]; exact e) q2, q3, f, q5.2⟩
    | io a m =>
      obtain ⟨q1, q2, q3, q4⟩ := old
      obtain ⟨na, f⟩ := far a q4
      exact ⟨q1, MAt.mono (Same.refl _) (fun o e => by rw [ne a na]; exact e) q2, q3, f⟩
    | lck a m =>
      obtain ⟨q1, o, u, q2, q3⟩ := old
      have q2 : upd F.fr D (.lst acc) a = some (.frz o u) := q2
      have na : a ≠ D := fun z => by rw [z, upd_same] at q2; cases q2
      rw [upd_ne na] at q2
      exact ⟨q1, o, u, q2, q3⟩
  · by_cases hb : b = D
    · rw [hb] at e; rw [show sans H D D = none from if_pos rfl] at e; cases e
    · rw [ne b hb] at e; exact e
def lcP (g : DG) (dt : DT) (de : DE) (vs : List Nat) (items : List D) (ρ : Rho) (Q : List D → Rho → Prop) : Prop := ∃ P : Nat → Rho → List D → Prop, P 0 ρ [] ∧
  (∀ (i : Nat) x ρ acc, items[i]? = some x → P i ρ acc → freeC ρ vs ∧ g x (wipeR ρ vs) fun ρ2 => dt ρ2 fun b ρ3 => ifD b (de ρ3 fun y ρ4 => P (i + 1) (backR ρ vs ρ4) (acc ++ [y])) (P (i + 1) (backR ρ vs ρ3) acc)) ∧ ∀ ρ acc, P items.length ρ acc → Q acc ρ
def dLc (di : DI) (g : DG) (dt : DT) (de : DE) (vs : List Nat) : DN := fun ρ Q => di ρ fun items ρ1 => items.length ≤ 1000000 ∧ lcP g dt de vs items ρ1 fun acc ρ2 => Q (.lst acc) ρ2
theorem wipe_set {σ : L2.St} {i : Nat} {x : Option V} : ∀ {vs : List Nat}, i ∈ vs → wipe (σ.set i x) vs = wipe σ vs
  | v :: vs, h => by
    unfold wipe
    by_cases hi : i ∈ vs
    · rw [wipe_set hi]
    · have e : i = v := by
        rcases List.mem_cons.mp h with z | z
        · exact z
        · exact absurd z hi
      subst e
      have : ∀ (ws : List Nat), i ∉ ws → wipe (σ.set i x) ws = (wipe σ ws).set i x := fun ws => by
        induction ws with
        | nil => intro _; rfl
        | cons w ws ih =>
          intro hw
          unfold wipe
          rw [ih fun m => hw (List.mem_cons_of_mem _ m), List.set_comm _ _ (fun e => hw (by rw [← e]; exact List.mem_cons_self ..))]
      rw [this vs hi, List.set_set]
/-- a target that stores names of the block alone -/
def SndGI (K : PySem.W.Frag) (g : TG) (dg : DG) (ws : List Nat) : Prop := ∀ (F : Fx) σ H Hb ρ v d (Q : L2.St → Hp → Prop) (Qd : Rho → Prop), F.K = K → R F σ H Hb ρ → Rep K Hb v d → dg d ρ Qd → (∀ σ' H' Hb' ρ', wipe σ' ws = wipe σ ws → R F σ' H' Hb' ρ' → Same Hb Hb' → Qd ρ' → Q σ' H') → g v σ H Q
def SndGsI (K : PySem.W.Frag) (g : TGs) (dg : DGs) (ws : List Nat) : Prop := ∀ (F : Fx) σ H Hb ρ vs ds (Q : L2.St → Hp → Prop) (Qd : Rho → Prop), F.K = K → R F σ H Hb ρ → RepAll K Hb vs ds → dg ds ρ Qd → (∀ σ' H' Hb' ρ', wipe σ' ws = wipe σ ws → R F σ' H' Hb' ρ' → Same Hb Hb' → Qd ρ' → Q σ' H') → g vs σ H Q
theorem sgi_name {i : Nat} {ws : List Nat} (hi : i ∈ ws) : SndGI K (gName i) (gN i) ws := fun F σ H Hb ρ v d Q Qd hK r rp h q => by
  subst hK
  exact q _ H Hb _ (wipe_set hi) (r.setV rp i) (Same.refl _) h
theorem sgi_nil {ws : List Nat} : SndGsI K gNil gsNil ws := fun F σ H Hb ρ vs ds Q Qd hK r rp h q => by
  cases rp with
  | nil => exact ⟨rfl, q σ H Hb ρ rfl r (Same.refl _) h⟩
  | cons _ _ => exact h.elim
theorem sgi_cons {t : TG} {u : TGs} {g : DG} {gs : DGs} {ws : List Nat} (hg : SndGI K t g ws) (hs : SndGsI K u gs ws) : SndGsI K (gCons t u) (gsCons g gs) ws := fun F σ H Hb ρ vs ds Q Qd hK r rp h q => by
  cases rp with
  | nil => exact h.elim
  | cons h1 h2 => exact ⟨_, _, rfl, hg F σ H Hb ρ _ _ _ _ hK r h1 h fun σ1 H1 Hb1 ρ1 w1 r1 b1 q1 => hs F σ1 H1 Hb1 ρ1 _ _ _ _ hK r1 (RepAll.mono b1 _ _ h2) q1 fun σ' H' Hb' ρ' w' r' b' => q σ' H' Hb' ρ' (w'.trans w1) r' (b1.trans b')⟩
theorem sgi_tup {n : Nat} {u : TGs} {gs : DGs} {ws : List Nat} (hs : SndGsI K u gs ws) : SndGI K (gTup K n u) (gT n gs) ws := fun F σ H Hb ρ v d Q Qd hK r rp h q => by
  cases rp with
  | tup h1 h2 =>
    obtain ⟨hl, h⟩ := h
    exact ⟨_, _, rfl, SqT.of (r.sub _ _ h1), h2.len.trans hl, hs F σ H Hb ρ _ _ _ _ hK r h2 h q⟩
  | _ => exact h.elim
theorem wipe_wipe {σ : L2.St} : ∀ {vs : List Nat}, wipe (wipe σ vs) vs = wipe σ vs := fun {vs} => by
  have key : ∀ (ws : List Nat) (τ : L2.St), (∀ w ∈ ws, ∀ x, τ[w]? = some x → x = none) → wipe τ ws = τ := fun ws => by
    induction ws with
    | nil => intro τ _; rfl
    | cons w ws ih =>
      intro τ h
      unfold wipe
      rw [ih τ fun v hv => h v (List.mem_cons_of_mem _ hv)]
      refine List.ext_getElem? fun j => ?_
      rw [List.getElem?_set]
      by_cases hj : w = j
      · subst hj
        rw [if_pos rfl]
        split
        · rename_i hl
          rw [List.getElem?_eq_getElem hl, h w (List.mem_cons_self ..) _ (List.getElem?_eq_getElem hl)]
        · rename_i hl
          rw [List.getElem?_eq_none (by omega)]
      · rw [if_neg hj]
  refine key vs _ fun w hw x e => ?_
  cases x with
  | none => rfl
  | some y => exact absurd hw (wipe_some e).2
theorem snd_lc {wi : TI} {g : TG} {tt : TT} {te : TE} {vs : List Nat} {di : DI} {dg : DG} {dt : DT} {de : DE} (hi : SndI K wi di) (hg : SndGI K g dg vs) (ht : SndT K tt dt) (he : SndE K te de) : SndN K (tLc wi g tt te vs) (dLc di dg dt de vs) := fun F σ H Hb ρ Q Qd hK r hd q => by
  subst hK
  refine hi F σ H Hb ρ _ _ rfl r hd fun J items H1 Hb1 ρ1 r1 b1 ja ⟨hz, P, p0, pt, pd⟩ => ?_
  intro D nD
  have nf : F.fr D = none := by
    cases e : F.fr D with
    | none => rfl
    | some o => rw [r1.fr _ _ e] at nD; cases nD
  have al : F.al D := r1.nw D nD
  refine ⟨fun i m H' => m = items.length - i ∧ i ≤ items.length ∧ ∃ Hb2 ρ2 accV acc, R (F.at D accV) σ H' Hb2 ρ2 ∧ Same Hb1 Hb2 ∧ RepAll F.K Hb2 accV acc ∧ acc.length ≤ i ∧ P i ρ2 acc,
    ⟨_, rfl, Nat.zero_le _, Hb1, ρ1, [], [], r1.enter nD, Same.refl _, .nil, Nat.le_refl _, p0⟩, ?_⟩
  rintro i m H2 ⟨rfl, hl, Hb2, ρ2, accV, acc, r2, b2, ra, hn, p2⟩
  by_cases h : i < items.length
  · have ex : items[i]? = some items[i] := List.getElem?_eq_getElem h
    obtain ⟨go, yl⟩ := ja.go i _ H2 Hb2 b2 r2.sub (fz_same (r2.frU nf)) ex
    refine .inr ⟨go, fun H' => i + 1 ≤ items.length ∧ ∃ Hb2 ρ2 accV acc, R (F.at D accV) σ H' Hb2 ρ2 ∧ Same Hb1 Hb2 ∧ RepAll F.K Hb2 accV acc ∧ acc.length ≤ i + 1 ∧ P (i + 1) ρ2 acc, fun H' ⟨h1, h2⟩ => ⟨_, by omega, rfl, h1, h2⟩, fun x H3 y => ?_⟩
    obtain ⟨Hb3, g3, rp⟩ := yl x H3 y
    obtain ⟨fc, st⟩ := pt i _ ρ2 acc ex p2
    have r3 := r2.grow g3
    have b3 := b2.trans g3.b
    have ra3 := RepAll.mono g3.b _ _ ra
    refine hg (F.at D accV) (wipe σ vs) H3 Hb3 (wipeR ρ2 vs) x items[i] _ _ rfl (r3.wiped vs) rp st fun σ4 H4 Hb4 ρ4 w4 r4 b4 q4 => ?_
    rw [wipe_wipe] at w4
    refine ⟨w4, ht (F.at D accV) σ4 H4 Hb4 ρ4 _ _ rfl r4 q4 fun k H5 Hb5 ρ5 r5 b5 q5 => ?_⟩
    have b35 := b4.trans b5
    cases k with
    | true =>
      refine iteT (he (F.at D accV) σ4 H5 Hb5 ρ5 _ _ rfl r5 q5 fun u e H6 Hb6 ρ6 r6 b6 rp6 q6 => ?_)
      obtain ⟨eD, nb⟩ := r6.atD
      have r7 := r3.back (b35.trans b6) fc r6 w4
      refine ⟨accV, eD, ?_, h, Hb6, _, accV ++ [u], acc ++ [e], r7.grown, b3.trans (b35.trans b6), (RepAll.mono (b35.trans b6) _ _ ra3).append (.one rp6), by rw [List.length_append, List.length_singleton]; omega, q6⟩
      have := ra.len
      rw [sizeLine_eq]
      omega
    | false =>
      refine iteF ⟨h, Hb5, _, accV, acc, r3.back b35 fc r5 w4, b3.trans b35, RepAll.mono b35 _ _ ra3, by omega, q5⟩
  · have hi' : i = items.length := by omega
    subst hi'
    obtain ⟨r4, s4, n4⟩ := r2.leave nf al
    exact .inl ⟨ja.stop _ H2 Hb2 b2 r2.sub (fz_same (r2.frU nf)) (Nat.le_refl _), q D (.lst acc) (sans H2 D) H2 Hb2 ρ2 r4 (b1.trans b2) n4 s4 ⟨accV, r2.atD.1, ra⟩ (pd ρ2 acc p2)⟩
end
end PL
namespace PL
open PySem PySem.Spec PyProof.Rows L2 TB
section
variable {K : PySem.W.Frag}
/-! ### what a def promises, by data -/
abbrev PD := List D → (D → Prop) → Prop
abbrev PI' := M → List D → (D → M → Prop) → Prop
def spP (K : PySem.W.Frag) (p : PD) : Sp := fun vs H Q _ => ∃ Hb ds Qd, Same Hb H ∧ RepAll K Hb vs ds ∧ p ds Qd ∧ ∀ v d H' Hb', Gr H Hb H' Hb' → Rep K Hb' v d → Qd d → Q v H'
/-- only the object at a has changed, more data -/
structure GrI (a : Addr) (H Hb H' Hb' : Hp) : Prop where
  s : ∀ b o, b ≠ a → H b = some o → H' b = some o
  b : Same Hb Hb'
  sub : Same Hb' H'
  nw : ∀ c, Hb' c ≠ none → Hb c ≠ none ∨ H c = none ∨ ∃ xs, Rd H' c (.tup xs)
  na : Hb' a = none
def spI (K : PySem.W.Frag) (p : PI') : Sp := fun vs H Q _ => ∃ a us Hb m ds Qd, vs = .ref a :: us ∧ Same Hb H ∧ Hb a = none ∧ MAt K Hb H a m ∧ RepAll K Hb us ds ∧ p m ds Qd ∧ ∀ v d m' H' Hb', GrI a H Hb H' Hb' → MAt K Hb' H' a m' → Rep K Hb' v d → Qd d m' → Q v H'
def startC (n : Nat) (cs : List Cell) : Rho := cs ++ List.replicate (n - cs.length) .no
theorem start_at {N : List Str} {vs : List V} {cs : List Cell} (hl : vs.length = cs.length) {i : Nat} {c : Cell} {v : Option V} (e1 : (startC N.length cs)[i]? = some c) (e2 : (L2.start N vs)[i]? = some v) : (cs[i]? = some c ∧ ∃ x, vs[i]? = some x ∧ v = some x) ∨ c = .no := by
  unfold startC at e1
  unfold L2.start at e2
  by_cases hi : i < cs.length
  · rw [List.getElem?_append_left hi] at e1
    rw [List.getElem?_append_left (by rw [List.length_map]; omega), List.getElem?_map, List.getElem?_eq_getElem (by omega)] at e2
    cases e2
    exact .inl ⟨e1, _, List.getElem?_eq_getElem (by omega), rfl⟩
  · rw [List.getElem?_append_right (by omega), List.getElem?_replicate] at e1
    split at e1
    · cases e1; exact .inr rfl
    · cases e1
theorem runP {t : TS} {ds : DS} {N : List Str} {p : PD} {vs : List V} {H : Hp} {Q : VK} {E : XK} (hs : SndS K t ds) (h : spP K p vs H Q E) (hn : ∀ as Qd, p as Qd → as.length ≤ N.length)
    (body : ∀ as Qd, p as Qd → ds ⟨fun _ => Qd .non, fun d _ => Qd d, fun _ => False, fun _ => False⟩ (startC N.length (as.map .val))) : t { nx := fun _ H' => Q .non H', rt := Q } (L2.start N vs) H := by
  obtain ⟨Hb, as, Qd, sb, ra, hp, q⟩ := h
  have hl := ra.len
  have hn := hn _ _ hp
  have r0 : R ⟨K, H, fun b => Hb b ≠ none ∨ H b = none⟩ (L2.start N vs) H Hb (startC N.length (as.map .val)) := by
    refine ⟨sb, Same.refl _, fun b e => .inl (.inl e), fun b e => .inr e, ?_, fun i c v e1 e2 => ?_, fun i j c d a n e1 _ m1 _ _ => ?_⟩
    · unfold L2.start startC
      simp
      omega
    · rcases start_at (by rw [List.length_map]; exact hl) e1 e2 with ⟨h1, x, h2, rfl⟩ | rfl
      · rw [List.getElem?_map] at h1
        obtain ⟨d, h3, h4⟩ := ra.get' h2
        rw [h3] at h1
        cases h1
        exact ⟨x, rfl, h4⟩
      · trivial
    · unfold startC at e1
      by_cases hi : i < (as.map Cell.val).length
      · rw [List.getElem?_append_left hi, List.getElem?_map] at e1
        cases q : as[i]? with
        | none => rw [q] at e1; cases e1
        | some d => rw [q] at e1; cases e1; cases m1
      · rw [List.getElem?_append_right (by omega), List.getElem?_replicate] at e1
        split at e1
        · cases e1; cases m1
        · cases e1
  have fin : ∀ {σ' H' Hb' ρ'} v d, R ⟨K, H, fun b => Hb b ≠ none ∨ H b = none⟩ σ' H' Hb' ρ' → Same Hb Hb' → Rep K Hb' v d → Qd d → Q v H' := fun {σ' H' Hb' ρ'} v d r s rp hq => by
    refine q v d H' Hb' ⟨r.fr, s, r.sub, fun b e => ?_⟩ rp hq
    rcases r.al b e with (z | z) | z
    · exact .inl z
    · exact .inr (.inl z)
    · exact .inr (.inr z)
  exact hs _ _ H Hb _ _ _ rfl r0 (body as Qd hp) ⟨fun σ' H' Hb' ρ' r s hq => fin .non .non r s .non hq, fun v d σ' H' Hb' ρ' r s rp hq => fin v d r s rp hq, fun _ _ _ _ _ _ z => z.elim, fun _ _ _ _ _ _ z => z.elim⟩
def io0 (a : Addr) (k : M → Prop) : Option Cell → Prop
  | some (.io b m) => b = a ∧ k m
  | _ => False
theorem runI {t : TS} {ds : DS} {N : List Str} {p : PI'} {vs : List V} {H : Hp} {Q : VK} {E : XK} (hs : SndS K t ds) (h : spI K p vs H Q E) (hn : ∀ m as Qd, p m as Qd → as.length + 1 ≤ N.length)
    (body : ∀ a m as Qd, p m as Qd → ds ⟨fun ρ => io0 a (Qd .non) ρ[0]?, fun d ρ => io0 a (Qd d) ρ[0]?, fun _ => False, fun _ => False⟩ (startC N.length (.io a m :: as.map .val))) : t { nx := fun _ H' => Q .non H', rt := Q } (L2.start N vs) H := by
  obtain ⟨a, us, Hb, m, as, Qd, rfl, sb, na, hm, ra, hp, q⟩ := h
  have hl := ra.len
  have hn := hn _ _ _ hp
  have r0 : R ⟨K, fun b => if b = a then none else H b, fun b => Hb b ≠ none ∨ H b = none⟩ (L2.start N (.ref a :: us)) H Hb (startC N.length (.io a m :: as.map .val)) := by
    have only : ∀ (i : Nat) c, (startC N.length (.io a m :: as.map .val))[i]? = some c → c.mine = true → i = 0 := fun i c e hm => by
      unfold startC at e
      cases i with
      | zero => rfl
      | succ i =>
        by_cases hi : i + 1 < (Cell.io a m :: as.map Cell.val).length
        · rw [List.getElem?_append_left hi, List.getElem?_cons_succ, List.getElem?_map] at e
          cases q : as[i]? with
          | none => rw [q] at e; cases e
          | some d => rw [q] at e; cases e; cases hm
        · rw [List.getElem?_append_right (by omega), List.getElem?_replicate] at e
          split at e
          · cases e; cases hm
          · cases e
    refine ⟨sb, fun b o e => ?_, fun b e => .inl (.inl e), fun b e => .inr e, ?_, fun i c v e1 e2 => ?_, fun i j c d a n e1 e2 m1 m2 _ => ?_⟩
    · have e : (if b = a then none else H b) = some o := e
      split at e
      · cases e
      · exact e
    · unfold L2.start startC
      simp
      omega
    · rcases start_at (by rw [List.length_cons, List.length_cons, List.length_map, hl]) e1 e2 with ⟨h1, x, h2, rfl⟩ | rfl
      · cases i with
        | zero => cases h1; cases h2; exact ⟨rfl, hm, na, if_pos rfl⟩
        | succ i =>
          rw [List.getElem?_cons_succ, List.getElem?_map] at h1
          rw [List.getElem?_cons_succ] at h2
          obtain ⟨d, h3, h4⟩ := ra.get' h2
          rw [h3] at h1
          cases h1
          exact ⟨x, rfl, h4⟩
      · trivial
    · exact absurd ((only i c e1 m1).trans (only j d e2 m2).symm) n
  have fin : ∀ {σ' H' Hb' ρ'} v d, R ⟨K, fun b => if b = a then none else H b, fun b => Hb b ≠ none ∨ H b = none⟩ σ' H' Hb' ρ' → Same Hb Hb' → Rep K Hb' v d → io0 a (Qd d) ρ'[0]? → Q v H' := fun {σ' H' Hb' ρ'} v d r s rp hq => by
    cases e : ρ'[0]? with
    | none => rw [e] at hq; exact hq.elim
    | some c =>
      rw [e] at hq
      cases c with
      | io b m' =>
        obtain ⟨rfl, hq⟩ := hq
        obtain ⟨x, q1, q2, q3, q4, q5⟩ := r.at e
        refine q v d m' H' Hb' ⟨fun c o n ec => r.fr c o (by show (if c = b then none else H c) = _; rw [if_neg n]; exact ec), s, r.sub, fun c ec => ?_, q4⟩ q3 rp hq
        rcases r.al c ec with (z | z) | z
        · exact .inl z
        · exact .inr (.inl z)
        · exact .inr (.inr z)
      | _ => exact hq.elim
  exact hs _ _ H Hb _ _ _ rfl r0 (body a m as Qd hp) ⟨fun σ' H' Hb' ρ' r s hq => fin .non .non r s .non hq, fun v d σ' H' Hb' ρ' r s rp hq => fin v d r s rp hq, fun _ _ _ _ _ _ z => z.elim, fun _ _ _ _ _ _ z => z.elim⟩
/-! ### calls of defs -/
def dCall (p : PD) (da : DA) : DE := fun ρ Q => da ρ fun ds ρ1 => p ds fun d => Q d ρ1
theorem snd_call {p : PD} {n : Nat} {t : TA} {da : DA} {E : XK} (h : SndA K n t da) : SndE K (tCall (spP K p) [] E t) (dCall p da) := fun F σ H Hb ρ Q Qd hK r hd q =>
  h F σ H Hb ρ _ _ hK r hd fun vs ds H1 Hb1 ρ1 r1 b1 ra _ hp => by
    rw [List.append_nil]
    exact ⟨Hb1, ds, _, r1.sub, ra, hp, fun v d H' Hb' g rp hq => q v d H' Hb' ρ1 (r1.grow g) (b1.trans g.b) rp hq⟩
theorem snd_call0 {p : PD} {E : XK} : SndE K (tCall (spP K p) [] E tNil) (dCall p dNilA) := snd_call sna_nil
theorem R.call {F : Fx} {σ : L2.St} {H Hb H' Hb' : Hp} {ρ : Rho} {i : Nat} {c : Cell} {a : Addr} {m' : M} (r : R F σ H Hb ρ) (e : ρ[i]? = some c) (hc : c.mine = true) (es : σ[i]? = some (some (.ref a))) (g : GrI a H Hb H' Hb') (hm : MAt F.K Hb' H' a m') : R F σ H' Hb' (ρ.set i (c.put m')) := by
  have g1 : Gr H Hb (fun b => if b = a then H a else H' b) Hb' := by
    refine ⟨fun b o eb => ?_, g.b, fun b o eb => ?_, fun b eb => ?_⟩
    · show (if b = a then H a else H' b) = some o
      by_cases hb : b = a
      · rw [if_pos hb, ← hb]; exact eb
      · rw [if_neg hb]; exact g.s b o hb eb
    · show (if b = a then H a else H' b) = some o
      have hb : b ≠ a := fun z => by rw [z, g.na] at eb; cases eb
      rw [if_neg hb]; exact g.sub _ _ eb
    · rcases g.nw b eb with z | z | ⟨xs, z⟩
      · exact .inl z
      · exact .inr (.inl z)
      · have hb : b ≠ a := fun q => eb (by rw [q]; exact g.na)
        refine .inr (.inr ⟨xs, ?_⟩)
        rcases z with z | ⟨o, z⟩
        · exact .inl (by show (if b = a then H a else H' b) = _; rw [if_neg hb]; exact z)
        · exact .inr ⟨o, by show (if b = a then H a else H' b) = _; rw [if_neg hb]; exact z⟩
  have r1 := r.grow g1
  refine r1.mut e hc es (fun b o n eb => ?_) hm
  have eb : (if b = a then H a else H' b) = some o := eb
  rw [if_neg n] at eb
  exact eb
def cellM : Option Cell → (Cell → M → Prop) → Prop
  | some (.own m), k => k (.own m) m
  | some (.io a m), k => k (.io a m) m
  | _, _ => False
theorem cellM_ok {o : Option Cell} {k : Cell → M → Prop} (h : cellM o k) : ∃ c m, o = some c ∧ c.get = some m ∧ k c m := by
  cases o with
  | none => exact h.elim
  | some c =>
    cases c with
    | own m => exact ⟨_, m, rfl, rfl, h⟩
    | io a m => exact ⟨_, m, rfl, rfl, h⟩
    | _ => exact h.elim
theorem mineC_ok {o : Option Cell} {p : Prop} (h : mineC o p) : ∃ c, o = some c ∧ c.mine = true ∧ p := by
  cases o with
  | none => exact h.elim
  | some c =>
    cases c with
    | own m => exact ⟨_, rfl, rfl, h⟩
    | io a m => exact ⟨_, rfl, rfl, h⟩
    | _ => exact h.elim
/-- a call that may change what stands in the first argument's slot -/
def dCallI (i : Nat) (p : PI') (da : DA) : DE := fun ρ Q => mineC ρ[i]? (da ρ fun ds ρ1 => cellM ρ1[i]? fun c m => p m ds fun d m' => Q d (ρ1.set i (c.put m')))
theorem snd_callI (i : Nat) {p : PI'} {n : Nat} {t : TA} {da : DA} {E : XK} (h : SndA K n t da) : SndE K (tCall (spI K p) [] E (tCons (tVar i) t)) (dCallI i p da) := fun F σ H Hb ρ Q Qd hK r hd q => by
  subst hK
  obtain ⟨c0, e0, m0, hd⟩ := mineC_ok hd
  obtain ⟨a, m, es, _⟩ := r.mine e0 m0
  refine ⟨_, es, h F σ H Hb ρ _ _ rfl r hd fun vs ds H1 Hb1 ρ1 r1 b1 ra _ hp => ?_⟩
  show spI F.K p ((V.ref a :: vs) ++ []) H1 Q E
  rw [List.append_nil]
  obtain ⟨c, m1, e1, g1, hp⟩ := cellM_ok hp
  obtain ⟨a', es', hm, nb, nf⟩ := r1.mineG e1 g1
  rw [es] at es'
  cases es'
  exact ⟨a, vs, Hb1, m1, ds, _, rfl, r1.sub, nb, hm, ra, hp, fun v d m' H' Hb' g hm' rp hq => q v d H' Hb' _ (r1.call e1 (getM g1) es g hm') (b1.trans g.b) rp hq⟩
/-! ### new lists as data -/
def dNE (dn : DN) : DE := fun ρ Q => dn ρ fun m ρ1 => frzM m fun d => Q d ρ1
theorem snd_ne {t : TE} {dn : DN} (h : SndN K t dn) : SndE K t (dNE dn) := fun F σ H Hb ρ Q Qd hK r hd q =>
  h F σ H Hb ρ _ _ hK r hd fun p m H1 H' Hb1 ρ1 r1 b1 n s hm hq => by
    cases m with
    | lst ds =>
      obtain ⟨vs, e, ra⟩ := hm
      have g := Gr.at r1.sub s n e
      exact q _ (.lst ds) H' _ ρ1 (r1.grow g) (b1.trans g.b) (.lst upd_same (RepAll.mono g.b _ _ ra)) hq
    | dct es =>
      obtain ⟨kvs, e, ra⟩ := hm
      have g := Gr.at r1.sub s n e
      exact q _ (.dct es) H' _ ρ1 (r1.grow g) (b1.trans g.b) (.dct (.inl upd_same) (RepKV.mono g.b _ _ ra)) hq
    | dcu es =>
      obtain ⟨kvs, e, ra⟩ := hm
      have g := Gr.at r1.sub s n e
      exact q _ (.dcu es) H' _ ρ1 (r1.grow g) (b1.trans g.b) (.dcu (.inl upd_same) (RepKT.mono g.b _ _ ra)) hq
    | dice => exact hq.elim
def dTup (da : DA) : DE := fun ρ Q => da ρ fun ds ρ1 => Q (.tup ds) ρ1
theorem snd_tup {n : Nat} {t : TA} {da : DA} (h : SndA K n t da) (hn : n ≤ 1000 := by decide) : SndE K (tTup t) (dTup da) := fun F σ H Hb ρ Q Qd hK r hd q => by
  subst hK
  refine h F σ H Hb ρ _ _ rfl r hd fun vs ds H1 Hb1 ρ1 r1 b1 ra hl hq => ⟨by rw [ra.len, hl, sizeLine_eq]; omega, fun p n => ?_⟩
  have g := Gr.new (o := .tup vs) r1.sub n
  exact q _ (.tup ds) _ _ ρ1 (r1.grow g) (b1.trans g.b) (.tup upd_same (RepAll.mono g.b _ _ ra)) hq
def dLst (da : DA) : DN := fun ρ Q => da ρ fun ds ρ1 => Q (.lst ds) ρ1
theorem snd_lst {n : Nat} {t : TA} {da : DA} (h : SndA K n t da) (hn : n ≤ 1000 := by decide) : SndN K (tLstA t) (dLst da) := fun F σ H Hb ρ Q Qd hK r hd q => by
  subst hK
  refine h F σ H Hb ρ _ _ rfl r hd fun vs ds H1 Hb1 ρ1 r1 b1 ra hl hq => ⟨by rw [ra.len, hl, sizeLine_eq]; omega, fun p H' s e n => ?_⟩
  exact q p (.lst ds) H1 H' Hb1 ρ1 r1 b1 n s ⟨vs, e, ra⟩ hq
/-! ### built-in functions -/
inductive SndOs (K : PySem.W.Frag) : TA → List Opd → Prop
  | nil : SndOs K tNil []
  | cons {t : TE} {u : TA} {o : Opd} {os : List Opd} : SndO K t o → SndOs K u os → SndOs K (tCons t u) (o :: os)
def runOs : List Opd → Rho → (List Op → Rho → Prop) → Prop
  | [], ρ, k => k [] ρ
  | o :: os, ρ, k => o.run ρ fun p ρ1 => runOs os ρ1 fun ps ρ2 => k (p :: ps) ρ2
def resOs : List Op → Rho → (List D → Prop) → Prop
  | [], _, k => k []
  | p :: ps, ρ, k => p.res ρ fun d => resOs ps ρ fun ds => k (d :: ds)
inductive OpsAt (K : PySem.W.Frag) (σ : L2.St) (Hb : Hp) : List V → List Op → Prop
  | nil : OpsAt K σ Hb [] []
  | cons {v : V} {vs : List V} {p : Op} {ps : List Op} : OpAt K σ Hb v p → OpsAt K σ Hb vs ps → OpsAt K σ Hb (v :: vs) (p :: ps)
inductive Views (K : PySem.W.Frag) (Hb H : Hp) : List V → List D → Prop
  | nil : Views K Hb H [] []
  | cons {v : V} {vs : List V} {d : D} {ds : List D} : View K Hb H v d → Views K Hb H vs ds → Views K Hb H (v :: vs) (d :: ds)
theorem SndOs.use {t : TA} {os : List Opd} (h : SndOs K t os) : ∀ {F : Fx} {σ : L2.St} {H Hb : Hp} {ρ : Rho} {Q : List V → Hp → Prop} {Qd : List Op → Rho → Prop}, F.K = K → R F σ H Hb ρ → runOs os ρ Qd →
    (∀ vs ps H' Hb' ρ', R F σ H' Hb' ρ' → Same Hb Hb' → OpsAt K σ Hb' vs ps → Qd ps ρ' → Q vs H') → t σ H Q := by
  induction h with
  | nil => exact fun {F σ H Hb ρ Q Qd} hK r h q => q [] [] H Hb ρ r (Same.refl _) .nil h
  | cons h1 _ ih =>
    rename_i t u o os _
    intro F σ H Hb ρ Q Qd hK r h q
    refine SndO.use (t := t) hK r h1 h fun v p H1 Hb1 ρ1 r1 b1 o1 q1 => ?_
    exact ih hK r1 q1 fun vs ps H2 Hb2 ρ2 r2 b2 o2 q2 => q _ _ H2 Hb2 ρ2 r2 (b1.trans b2) (.cons (o1.mono b2) o2) q2
theorem OpsAt.res {F : Fx} {σ : L2.St} {H Hb : Hp} {ρ : Rho} (r : R F σ H Hb ρ) : ∀ {vs : List V} {ps : List Op} {k : List D → Prop}, OpsAt F.K σ Hb vs ps → resOs ps ρ k → ∃ ds, Views F.K Hb H vs ds ∧ k ds
  | _, _, _, .nil, q => ⟨[], .nil, q⟩
  | _, _, _, .cons h1 h2, q => by
    obtain ⟨d, v1, q1⟩ := OpAt.res r h1 q
    obtain ⟨ds, v2, q2⟩ := OpsAt.res r h2 q1
    exact ⟨d :: ds, .cons v1 v2, q2⟩
def CallS (K : PySem.W.Frag) (r : List V → Hp → VK → Prop) (f : List D → (D → Prop) → Prop) : Prop := ∀ H Hb vs ds (Q : VK) (Qd : D → Prop), Same Hb H → Views K Hb H vs ds → f ds Qd →
  (∀ u x H' Hb', Gr H Hb H' Hb' → Rep K Hb' u x → Qd x → Q u H') → r vs H Q
def CallN (K : PySem.W.Frag) (r : List V → Hp → VK → Prop) (f : List D → (M → Prop) → Prop) : Prop := ∀ H Hb vs ds (Q : VK) (Qd : M → Prop), Same Hb H → Views K Hb H vs ds → f ds Qd →
  (∀ p m H', H p = none → Same H H' → MAt K Hb H' p m → Qd m → Q (.ref p) H') → r vs H Q
def dCb (f : List D → (D → Prop) → Prop) (os : List Opd) : DE := fun ρ Q => runOs os ρ fun ps ρ1 => resOs ps ρ1 fun ds => f ds fun d => Q d ρ1
def dCbN (f : List D → (M → Prop) → Prop) (os : List Opd) : DN := fun ρ Q => runOs os ρ fun ps ρ1 => resOs ps ρ1 fun ds => f ds fun m => Q m ρ1
theorem snd_cb {r : List V → Hp → VK → Prop} {f : List D → (D → Prop) → Prop} {t : TA} {os : List Opd} (hr : CallS K r f) (h : SndOs K t os) : SndE K (tCB r t) (dCb f os) := fun F σ H Hb ρ Q Qd hK rr hd q => by
  subst hK
  refine SndOs.use (t := t) h rfl rr hd fun vs ps H1 Hb1 ρ1 r1 b1 o1 h1 => ?_
  obtain ⟨ds, v1, h2⟩ := OpsAt.res r1 o1 h1
  exact hr H1 Hb1 vs ds Q _ r1.sub v1 h2 fun u x H' Hb' g rp hq => q u x H' Hb' ρ1 (r1.grow g) (b1.trans g.b) rp hq
theorem snd_cbN {r : List V → Hp → VK → Prop} {f : List D → (M → Prop) → Prop} {t : TA} {os : List Opd} (hr : CallN K r f) (h : SndOs K t os) : SndN K (tCB r t) (dCbN f os) := fun F σ H Hb ρ Q Qd hK rr hd q => by
  subst hK
  refine SndOs.use (t := t) h rfl rr hd fun vs ps H1 Hb1 ρ1 r1 b1 o1 h1 => ?_
  obtain ⟨ds, v1, h2⟩ := OpsAt.res r1 o1 h1
  exact hr H1 Hb1 vs ds Q _ r1.sub v1 h2 fun p m H' n s hm hq => q p m H1 H' Hb1 ρ1 r1 b1 n s hm hq
def OpN (K : PySem.W.Frag) (r : R2) (f : D → D → (M → Prop) → Prop) : Prop := ∀ H Hb v w d e (Q : VK) (Qd : M → Prop), Same Hb H → View K Hb H v d → View K Hb H w e → f d e Qd →
  (∀ p m H', H p = none → Same H H' → MAt K Hb H' p m → Qd m → Q (.ref p) H') → r v w H Q
def dOpN (f : D → D → (M → Prop) → Prop) (a b : Opd) : DN := fun ρ Q => a.run ρ fun p ρ1 => b.run ρ1 fun q ρ2 => p.res ρ2 fun d => q.res ρ2 fun e => f d e fun z => Q z ρ2
theorem snd_opN {r : R2} {f : D → D → (M → Prop) → Prop} {ta tb : TE} {a b : Opd} (hr : OpN K r f) (ha : SndO K ta a) (hb : SndO K tb b) : SndN K (tOp r ta tb) (dOpN f a b) := fun F σ H Hb ρ Q Qd hK rr h q => by
  subst hK
  refine SndO.use (t := ta) rfl rr ha h fun v p H1 Hb1 ρ1 r1 b1 o1 h1 => ?_
  refine SndO.use (t := tb) rfl r1 hb h1 fun w p2 H2 Hb2 ρ2 r2 b2 o2 h2 => ?_
  obtain ⟨d, vd, h3⟩ := OpAt.res r2 (o1.mono b2) h2
  obtain ⟨e, ve, h4⟩ := OpAt.res r2 o2 h3
  exact hr H2 Hb2 v w d e Q _ r2.sub vd ve h4 fun p m H' n s hm hq => q p m H2 H' Hb2 ρ2 r2 (b1.trans b2) n s hm hq
/-! one argument, two arguments -/
def arg1 : List D → (D → Prop) → Prop
  | [d], k => k d
  | _, _ => False
def arg2 : List D → (D → D → Prop) → Prop
  | [d, e], k => k d e
  | _, _ => False
theorem Views.one {Hb H : Hp} {vs : List V} {ds : List D} {k : D → Prop} (h : Views K Hb H vs ds) (q : arg1 ds k) : ∃ v d, vs = [v] ∧ ds = [d] ∧ View K Hb H v d ∧ k d := by
  cases h with
  | nil => exact q.elim
  | cons h1 h2 =>
    cases h2 with
    | nil => exact ⟨_, _, rfl, rfl, h1, q⟩
    | cons _ _ => exact q.elim
theorem Views.two {Hb H : Hp} {vs : List V} {ds : List D} {k : D → D → Prop} (h : Views K Hb H vs ds) (q : arg2 ds k) : ∃ v w d e, vs = [v, w] ∧ ds = [d, e] ∧ View K Hb H v d ∧ View K Hb H w e ∧ k d e := by
  cases h with
  | nil => exact q.elim
  | cons h1 h2 =>
    cases h2 with
    | nil => exact q.elim
    | cons h3 h4 =>
      cases h4 with
      | nil => exact ⟨_, _, _, _, rfl, rfl, h1, h3, q⟩
      | cons _ _ => exact q.elim
/-- the items of a list, of a tuple -/
def items : D → Option (List D)
  | .tup ds => some ds
  | .ktup ds => some ds
  | .lst ds => some ds
  | .arr ds => some ds
  | _ => none
theorem View.items {Hb H : Hp} {v : V} {d : D} {ds : List D} (s : Same Hb H) (h : View K Hb H v d) (e : items d = some ds) : ∃ a vs, v = .ref a ∧ (SqL K H a vs ∨ SqT K H a vs) ∧ RepAll K Hb vs ds := by
  cases d with
  | tup es => cases e; obtain ⟨a, vs, h1, h2, _, h3⟩ := h.tup s; exact ⟨a, vs, h1, .inr h2, h3⟩
  | ktup es => cases e; obtain ⟨a, vs, h1, h2, h3⟩ := h.ktup; exact ⟨a, vs, h1, .inr h2, h3⟩
  | lst es => cases e; obtain ⟨a, vs, h1, h2, h3⟩ := h.lst' s; exact ⟨a, vs, h1, .inl (SqL.of h2), h3⟩
  | arr es => cases e; obtain ⟨a, vs, h1, h2, h3⟩ := h.arr' s; exact ⟨a, vs, h1, .inl h2, h3⟩
  | _ => cases e
def fLen (ds : List D) (k : D → Prop) : Prop := arg1 ds fun d => optD (items d) fun xs => k (.int xs.length)
theorem s_len : CallS K (fun xs H Q => ∃ p ys, xs = [.ref p] ∧ (SqL K H p ys ∨ SqT K H p ys) ∧ Q (.int ys.length) H) fLen := fun H Hb vs ds Q Qd s hv h q => by
  obtain ⟨v, d, rfl, rfl, vd, h⟩ := hv.one h
  obtain ⟨xs, e, h⟩ := optD_ok h
  obtain ⟨a, us, rfl, hs, ra⟩ := vd.items s e
  exact ⟨a, us, rfl, hs, q _ _ H Hb (Gr.refl s) (by rw [ra.len]; exact .int _) h⟩
def fLenS (ds : List D) (k : D → Prop) : Prop := arg1 ds fun d => match d with
  | .str x => x.length ≤ sizeLine ∧ k (.int x.length)
  | _ => False
theorem s_lenS : CallS K (fun xs H Q => ∃ a, xs = [.str a] ∧ a.length ≤ sizeLine ∧ Q (.int a.length) H) fLenS := fun H Hb vs ds Q Qd s hv h q => by
  obtain ⟨v, d, rfl, rfl, vd, h⟩ := hv.one h
  cases d with
  | str x => cases vd.str; exact ⟨x, rfl, h.1, q _ _ H Hb (Gr.refl s) (.int _) h.2⟩
  | _ => exact h.elim
def tupOf : D → Option D
  | .lst ds => some (.tup ds)
  | .arr ds => some (.tup ds)
  | .tup ds => some (.tup ds)
  | .ktup ds => some (.ktup ds)
  | _ => none
def fTuple (ds : List D) (k : D → Prop) : Prop := arg1 ds fun d => optD (tupOf d) k
theorem s_tuple : CallS K (fun xs H Q => ∃ p ys, xs = [.ref p] ∧ ((SqL K H p ys ∧ ∀ l, H l = none → Q (.ref l) (upd H l (.tup ys))) ∨ (SqT K H p ys ∧ Q (.ref p) H))) fTuple := fun H Hb vs ds Q Qd s hv h q => by
  obtain ⟨v, d, rfl, rfl, vd, h⟩ := hv.one h
  obtain ⟨x, e, h⟩ := optD_ok h
  have new : ∀ {us : List V} {es : List D}, RepAll K Hb us es → Qd (.tup es) → ∀ l, H l = none → Q (.ref l) (upd H l (.tup us)) := fun {us es} ra h l n => by
    have g := Gr.new (o := .tup us) s n
    exact q _ _ _ _ g (.tup upd_same (RepAll.mono g.b _ _ ra)) h
  cases d <;> cases e
  · obtain ⟨a, us, rfl, h1, h2, h3⟩ := vd.tup s
    exact ⟨a, us, rfl, .inr ⟨h1, q _ _ H Hb (Gr.refl s) (.tup h2 h3) h⟩⟩
  · obtain ⟨a, us, rfl, h1, h3⟩ := vd.ktup
    cases vd with
    | rep r => exact ⟨a, us, rfl, .inr ⟨h1, q _ _ H Hb (Gr.refl s) r h⟩⟩
  · obtain ⟨a, us, rfl, h1, h2⟩ := vd.lst' s
    exact ⟨a, us, rfl, .inl ⟨SqL.of h1, new h2 h⟩⟩
  · obtain ⟨a, us, rfl, h1, h2⟩ := vd.arr' s
    exact ⟨a, us, rfl, .inl ⟨h1, new h2 h⟩⟩
def fList (ds : List D) (k : M → Prop) : Prop := arg1 ds fun d => optD (items d) fun xs => k (.lst xs)
theorem s_list : CallN K (fun xs H Q => ∃ p ys, xs = [.ref p] ∧ (SqL K H p ys ∨ SqT K H p ys) ∧ NewL ys H Q) fList := fun H Hb vs ds Q Qd s hv h q => by
  obtain ⟨v, d, rfl, rfl, vd, h⟩ := hv.one h
  obtain ⟨xs, e, h⟩ := optD_ok h
  obtain ⟨a, us, rfl, hs, ra⟩ := vd.items s e
  exact ⟨a, us, rfl, hs, fun p H' s' e n => q p (.lst xs) H' n s' ⟨us, e, ra⟩ h⟩
def fAbs (ds : List D) (k : D → Prop) : Prop := arg1 ds fun d => int1 d fun i => k (.int (if i < 0 then -i else i))
theorem s_abs : CallS K (fun xs H Q => ∃ i, xs = [.int i] ∧ Q (.int (if i < 0 then -i else i)) H) fAbs := fun H Hb vs ds Q Qd s hv h q => by
  obtain ⟨v, d, rfl, rfl, vd, h⟩ := hv.one h
  obtain ⟨i, rfl, h⟩ := int1_ok h
  cases vd.int
  exact ⟨i, rfl, q _ _ H Hb (Gr.refl s) (.int _) h⟩
def fInt (ds : List D) (k : D → Prop) : Prop := arg1 ds fun d => match d with
  | .int i => k (.int i)
  | .bl b => k (.int (if b then 1 else 0))
  | _ => False
theorem s_int : CallS K (fun xs H Q => (∃ i, xs = [.int i] ∧ Q (.int i) H) ∨ ∃ k, xs = [.bl k] ∧ Q (.int (if k then 1 else 0)) H) fInt := fun H Hb vs ds Q Qd s hv h q => by
  obtain ⟨v, d, rfl, rfl, vd, h⟩ := hv.one h
  cases d with
  | int i => cases vd.int; exact .inl ⟨i, rfl, q _ _ H Hb (Gr.refl s) (.int _) h⟩
  | bl b => cases vd.bl; exact .inr ⟨b, rfl, q _ _ H Hb (Gr.refl s) (.int _) h⟩
  | _ => exact h.elim
def fMax2 (ds : List D) (k : D → Prop) : Prop := arg2 ds fun d e => int2 d e fun i j => k (.int (if j > i then j else i))
theorem s_max2 : CallS K (fun xs H Q => ∃ i j, xs = [.int i, .int j] ∧ Q (.int (if j > i then j else i)) H) fMax2 := fun H Hb vs ds Q Qd s hv h q => by
  obtain ⟨v, w, d, e, rfl, rfl, vd, ve, h⟩ := hv.two h
  obtain ⟨i, j, rfl, rfl, h⟩ := int2_ok h
  cases vd.int
  cases ve.int
  exact ⟨i, j, rfl, q _ _ H Hb (Gr.refl s) (.int _) h⟩
def fMin2 (ds : List D) (k : D → Prop) : Prop := arg2 ds fun d e => int2 d e fun i j => k (.int (if j < i then j else i))
theorem s_min2 : CallS K (fun xs H Q => ∃ i j, xs = [.int i, .int j] ∧ Q (.int (if j < i then j else i)) H) fMin2 := fun H Hb vs ds Q Qd s hv h q => by
  obtain ⟨v, w, d, e, rfl, rfl, vd, ve, h⟩ := hv.two h
  obtain ⟨i, j, rfl, rfl, h⟩ := int2_ok h
  cases vd.int
  cases ve.int
  exact ⟨i, j, rfl, q _ _ H Hb (Gr.refl s) (.int _) h⟩
/-- a list of ints, of bools -/
def intL : List D → Option (List Int)
  | [] => some []
  | .int i :: r => (intL r).map (i :: ·)
  | _ => none
def blL : List D → Option (List Bool)
  | [] => some []
  | .bl i :: r => (blL r).map (i :: ·)
  | _ => none
theorem intL_rep {Hb : Hp} : ∀ {ds : List D} {vs : List V} {ns : List Int}, RepAll K Hb vs ds → intL ds = some ns → vs = ns.map V.int
  | [], _, _, h, e => by cases h; cases e; rfl
  | d :: r, _, ns, h, e => by
    cases h with
    | cons h1 h2 =>
      cases d with
      | int i =>
        have e : (intL r).map (i :: ·) = some ns := e
        cases q : intL r with
        | none => rw [q] at e; cases e
        | some ms => rw [q] at e; cases e; cases h1; rw [intL_rep h2 q]; rfl
      | _ => cases e
theorem blL_rep {Hb : Hp} : ∀ {ds : List D} {vs : List V} {ns : List Bool}, RepAll K Hb vs ds → blL ds = some ns → vs = ns.map V.bl
  | [], _, _, h, e => by cases h; cases e; rfl
  | d :: r, _, ns, h, e => by
    cases h with
    | cons h1 h2 =>
      cases d with
      | bl i =>
        have e : (blL r).map (i :: ·) = some ns := e
        cases q : blL r with
        | none => rw [q] at e; cases e
        | some ms => rw [q] at e; cases e; cases h1; rw [blL_rep h2 q]; rfl
      | _ => cases e
theorem intL_map : ∀ ns : List Int, intL (ns.map D.int) = some ns
  | [] => rfl
  | n :: r => by show (intL (r.map D.int)).map (n :: ·) = _; rw [intL_map r]; rfl
theorem blL_map : ∀ ns : List Bool, blL (ns.map D.bl) = some ns
  | [] => rfl
  | n :: r => by show (blL (r.map D.bl)).map (n :: ·) = _; rw [blL_map r]; rfl
def lst1 : D → (List D → Prop) → Prop
  | .lst ds, k => k ds
  | _, _ => False
theorem lst1_ok {d : D} {k : List D → Prop} (h : lst1 d k) : ∃ ds, d = .lst ds ∧ k ds := by
  cases d <;> first | exact h.elim | exact ⟨_, rfl, h⟩
def fSum (ds : List D) (k : D → Prop) : Prop := arg1 ds fun d => lst1 d fun xs => optD (intL xs) fun ns => k (.int ns.sum)
theorem s_sum : CallS K (rSum K) fSum := fun H Hb vs ds Q Qd s hv h q => by
  obtain ⟨v, d, rfl, rfl, vd, h⟩ := hv.one h
  obtain ⟨xs, rfl, h⟩ := lst1_ok h
  obtain ⟨ns, e, h⟩ := optD_ok h
  obtain ⟨a, us, rfl, h1, h2⟩ := vd.lst' s
  cases intL_rep h2 e
  exact ⟨a, ns, rfl, SqL.of h1, q _ _ H Hb (Gr.refl s) (.int _) h⟩
def fAll (ds : List D) (k : D → Prop) : Prop := arg1 ds fun d => lst1 d fun xs => optD (blL xs) fun bs => k (.bl (bs.all id))
theorem s_all : CallS K (rAll K) fAll := fun H Hb vs ds Q Qd s hv h q => by
  obtain ⟨v, d, rfl, rfl, vd, h⟩ := hv.one h
  obtain ⟨xs, rfl, h⟩ := lst1_ok h
  obtain ⟨ns, e, h⟩ := optD_ok h
  obtain ⟨a, us, rfl, h1, h2⟩ := vd.lst' s
  cases blL_rep h2 e
  exact ⟨a, ns, rfl, SqL.of h1, q _ _ H Hb (Gr.refl s) (.bl _) h⟩
def fAny (ds : List D) (k : D → Prop) : Prop := arg1 ds fun d => lst1 d fun xs => optD (blL xs) fun bs => k (.bl (bs.any id))
theorem s_any : CallS K (rAny K) fAny := fun H Hb vs ds Q Qd s hv h q => by
  obtain ⟨v, d, rfl, rfl, vd, h⟩ := hv.one h
  obtain ⟨xs, rfl, h⟩ := lst1_ok h
  obtain ⟨ns, e, h⟩ := optD_ok h
  obtain ⟨a, us, rfl, h1, h2⟩ := vd.lst' s
  cases blL_rep h2 e
  exact ⟨a, ns, rfl, SqL.of h1, q _ _ H Hb (Gr.refl s) (.bl _) h⟩
/-- isinstance -/
def kindOf : D → Option String
  | .non => some "NoneType"
  | .bl _ => some "bool"
  | .int _ => some "int"
  | .str _ => some "str"
  | .tup _ => some "tuple"
  | .ktup _ => some "tuple"
  | .lst _ => some "list"
  | .dct _ => some "dict"
  | .dcu _ => none
  | .arr _ => some "list"
  | .opq _ => none
theorem kndD {H : Hp} {a : Addr} {kvs : List (Key × V)} (h : Rd H a (.dK kvs)) : Knd K H (.ref a) "dict" := by
  rcases h with h | ⟨o, h⟩
  · exact ⟨.base (.dK h), by decide⟩
  · exact ⟨.fDict h, by decide⟩
theorem View.knd {Hb H : Hp} {v : V} {d : D} {T : String} (s : Same Hb H) (h : View K Hb H v d) (e : kindOf d = some T) : Knd K H v T := by
  cases d with
  | non => cases h.non; cases e; exact .n
  | bl b => cases h.bl; cases e; exact .b b
  | int i => cases h.int; cases e; exact .i i
  | str x => cases h.str; cases e; exact .s x
  | tup ds => obtain ⟨a, vs, rfl, h1, _⟩ := h.tup s; cases e; exact .t h1
  | ktup ds => obtain ⟨a, vs, rfl, h1, _⟩ := h.ktup; cases e; exact .t h1
  | lst ds => obtain ⟨a, vs, rfl, h1, _⟩ := h.lst' s; cases e; exact .l (SqL.of h1)
  | arr ds => obtain ⟨a, vs, rfl, h1, _⟩ := h.arr' s; cases e; exact .l h1
  | dct es => obtain ⟨a, kvs, rfl, h1, _⟩ := h.dct' s; cases e; exact kndD h1
  | dcu es => cases e
  | opq v => cases e
def tyN : D → (String → Prop) → Prop
  | .opq (.ty c), k => c ∈ ["int", "bool", "str", "list", "tuple", "dict"] ∧ k c
  | _, _ => False
def fIsi (ds : List D) (k : D → Prop) : Prop := arg2 ds fun d e => optD (kindOf d) fun T => tyN e fun c => k (.bl (isK T c))
theorem s_isi : CallS K (fun xs H Q => ∃ v T c, xs = [v, .ty c] ∧ Knd K H v T ∧ c ∈ ["int", "bool", "str", "list", "tuple", "dict"] ∧ Q (.bl (isK T c)) H) fIsi := fun H Hb vs ds Q Qd s hv h q => by
  obtain ⟨v, w, d, e, rfl, rfl, vd, ve, h⟩ := hv.two h
  obtain ⟨T, eT, h⟩ := optD_ok h
  cases e with
  | opq u =>
    have ew := ve.opq
    subst ew
    cases w with
    | ty c => exact ⟨v, T, c, rfl, vd.knd s eT, h.1, q _ _ H Hb (Gr.refl s) (.bl _) h.2⟩
    | _ => exact h.elim
  | _ => exact h.elim
/-! ### subscripts, slices -/
theorem atI_rep {Hb : Hp} {vs : List V} {ds : List D} {i : Int} {d : D} (h : RepAll K Hb vs ds) (e : atI ds i = some d) : ∃ v, atI vs i = some v ∧ Rep K Hb v d := by
  unfold atI at e ⊢
  rw [h.len]
  cases q : ixN ds.length i with
  | none => rw [q] at e; cases e
  | some j => rw [q] at e; exact h.get (i := j) e
def fIxT (d e : D) (k : D → Prop) : Prop := match d with
  | .tup ds => int1 e fun i => optD (atI ds i) k
  | .ktup ds => int1 e fun i => optD (atI ds i) k
  | _ => False
def fIxL (d e : D) (k : D → Prop) : Prop := match d with
  | .lst ds => int1 e fun i => optD (atI ds i) k
  | .arr ds => int1 e fun i => optD (atI ds i) k
  | _ => False
theorem s_ixT : OpS K (rIxT K) fIxT := fun H Hb v w d e Q Qd s hv hw h q => by
  cases d with
  | tup ds =>
    obtain ⟨i, rfl, h⟩ := int1_ok h
    obtain ⟨x, ex, h⟩ := optD_ok h
    obtain ⟨a, vs, rfl, h1, _, h2⟩ := hv.tup s
    cases hw.int
    obtain ⟨u, eu, ru⟩ := atI_rep h2 ex
    exact ⟨a, vs, i, u, rfl, rfl, h1, eu, q _ _ H Hb (Gr.refl s) ru h⟩
  | ktup ds =>
    obtain ⟨i, rfl, h⟩ := int1_ok h
    obtain ⟨x, ex, h⟩ := optD_ok h
    obtain ⟨a, vs, rfl, h1, h2⟩ := hv.ktup
    cases hw.int
    obtain ⟨u, eu, ru⟩ := atI_rep h2 ex
    exact ⟨a, vs, i, u, rfl, rfl, h1, eu, q _ _ H Hb (Gr.refl s) ru h⟩
  | _ => exact h.elim
theorem s_ixL : OpS K (rIxL K) fIxL := fun H Hb v w d e Q Qd s hv hw h q => by
  cases d with
  | lst ds =>
    obtain ⟨i, rfl, h⟩ := int1_ok h
    obtain ⟨x, ex, h⟩ := optD_ok h
    obtain ⟨a, vs, rfl, h1, h2⟩ := hv.lst' s
    cases hw.int
    obtain ⟨u, eu, ru⟩ := atI_rep h2 ex
    exact ⟨a, vs, i, u, rfl, rfl, SqL.of h1, eu, q _ _ H Hb (Gr.refl s) ru h⟩
  | arr ds =>
    obtain ⟨i, rfl, h⟩ := int1_ok h
    obtain ⟨x, ex, h⟩ := optD_ok h
    obtain ⟨a, vs, rfl, h1, h2⟩ := hv.arr' s
    cases hw.int
    obtain ⟨u, eu, ru⟩ := atI_rep h2 ex
    exact ⟨a, vs, i, u, rfl, rfl, h1, eu, q _ _ H Hb (Gr.refl s) ru h⟩
  | _ => exact h.elim
def fIxS (d e : D) (k : D → Prop) : Prop := match d with
  | .str z => int1 e fun i => z.length ≤ sizeLine ∧ optD (atI z.cps.toList i) fun c => k (.str ⟨#[c]⟩)
  | _ => False
theorem s_ixS : OpS K rIxS fIxS := fun H Hb v w d e Q Qd s hv hw h q => by
  cases d with
  | str z =>
    obtain ⟨i, rfl, hz, h⟩ := int1_ok h
    obtain ⟨x, ex, h⟩ := optD_ok h
    cases hv.str
    cases hw.int
    exact ⟨z, i, x, rfl, rfl, hz, ex, q _ _ H Hb (Gr.refl s) (.str _) h⟩
  | _ => exact h.elim
def cutD (xs : List D) (lo hi : Option Int) : List D := (xs.drop (HT.sIx xs.length 0 lo)).take (HT.sIx xs.length xs.length hi - HT.sIx xs.length 0 lo)
theorem cut_rep {Hb : Hp} {vs : List V} {ds : List D} (h : RepAll K Hb vs ds) (lo hi : Option Int) : RepAll K Hb (cutV vs lo hi) (cutD ds lo hi) := by
  unfold cutV cutD
  rw [h.len]
  exact (h.drop _).take _
abbrev DO := Rho → (Option Int → Rho → Prop) → Prop
def SndP (K : PySem.W.Frag) (t : TO) (dp : DO) : Prop := ∀ (F : Fx) σ H Hb ρ (Q : Option Int → Hp → Prop) (Qd : Option Int → Rho → Prop), F.K = K → R F σ H Hb ρ → dp ρ Qd →
  (∀ i H' Hb' ρ', R F σ H' Hb' ρ' → Same Hb Hb' → Qd i ρ' → Q i H') → t σ H Q
def dNoP : DO := fun ρ Q => Q none ρ
theorem snp_none : SndP K tNoPart dNoP := fun F σ H Hb ρ Q Qd hK r h q => q none H Hb ρ r (Same.refl _) h
def dP (de : DE) : DO := fun ρ Q => de ρ fun d ρ1 => int1 d fun i => Q (some i) ρ1
theorem snp_some {t : TE} {de : DE} (h : SndE K t de) : SndP K (tPart t) (dP de) := fun F σ H Hb ρ Q Qd hK r hd q =>
  h F σ H Hb ρ _ _ hK r hd fun v d H' Hb' ρ' r' b rp hq => by
    obtain ⟨i, rfl, hq⟩ := int1_ok hq
    cases rp
    exact ⟨i, rfl, q (some i) H' Hb' ρ' r' b hq⟩
def SlS (K : PySem.W.Frag) (r : V → Option Int → Option Int → Hp → VK → Prop) (f : D → Option Int → Option Int → (D → Prop) → Prop) : Prop := ∀ H Hb v d lo hi (Q : VK) (Qd : D → Prop), Same Hb H → View K Hb H v d → f d lo hi Qd →
  (∀ u x H' Hb', Gr H Hb H' Hb' → Rep K Hb' u x → Qd x → Q u H') → r v lo hi H Q
def SlN (K : PySem.W.Frag) (r : V → Option Int → Option Int → Hp → VK → Prop) (f : D → Option Int → Option Int → (M → Prop) → Prop) : Prop := ∀ H Hb v d lo hi (Q : VK) (Qd : M → Prop), Same Hb H → View K Hb H v d → f d lo hi Qd →
  (∀ p m H', H p = none → Same H H' → MAt K Hb H' p m → Qd m → Q (.ref p) H') → r v lo hi H Q
def dSl (f : D → Option Int → Option Int → (D → Prop) → Prop) (a : Opd) (lo hi : DO) : DE := fun ρ Q => a.run ρ fun p ρ1 => lo ρ1 fun l ρ2 => hi ρ2 fun u ρ3 => p.res ρ3 fun d => f d l u fun z => Q z ρ3
def dSlN (f : D → Option Int → Option Int → (M → Prop) → Prop) (a : Opd) (lo hi : DO) : DN := fun ρ Q => a.run ρ fun p ρ1 => lo ρ1 fun l ρ2 => hi ρ2 fun u ρ3 => p.res ρ3 fun d => f d l u fun z => Q z ρ3
theorem snd_sl {r : V → Option Int → Option Int → Hp → VK → Prop} {f : D → Option Int → Option Int → (D → Prop) → Prop} {te : TE} {tl th : TO} {a : Opd} {lo hi : DO} (hr : SlS K r f) (ha : SndO K te a) (hl : SndP K tl lo) (hh : SndP K th hi) : SndE K (tSl r te tl th) (dSl f a lo hi) := fun F σ H Hb ρ Q Qd hK rr h q => by
  subst hK
  refine SndO.use (t := te) rfl rr ha h fun v p H1 Hb1 ρ1 r1 b1 o1 h1 => ?_
  refine hl F σ H1 Hb1 ρ1 _ _ rfl r1 h1 fun l H2 Hb2 ρ2 r2 b2 h2 => hh F σ H2 Hb2 ρ2 _ _ rfl r2 h2 fun u H3 Hb3 ρ3 r3 b3 h3 => ?_
  obtain ⟨d, vd, h4⟩ := OpAt.res r3 (o1.mono (b2.trans b3)) h3
  exact hr H3 Hb3 v d l u Q _ r3.sub vd h4 fun u x H' Hb' g rp hq => q u x H' Hb' ρ3 (r3.grow g) (((b1.trans b2).trans b3).trans g.b) rp hq
theorem snd_slN {r : V → Option Int → Option Int → Hp → VK → Prop} {f : D → Option Int → Option Int → (M → Prop) → Prop} {te : TE} {tl th : TO} {a : Opd} {lo hi : DO} (hr : SlN K r f) (ha : SndO K te a) (hl : SndP K tl lo) (hh : SndP K th hi) : SndN K (tSl r te tl th) (dSlN f a lo hi) := fun F σ H Hb ρ Q Qd hK rr h q => by
  subst hK
  refine SndO.use (t := te) rfl rr ha h fun v p H1 Hb1 ρ1 r1 b1 o1 h1 => ?_
  refine hl F σ H1 Hb1 ρ1 _ _ rfl r1 h1 fun l H2 Hb2 ρ2 r2 b2 h2 => hh F σ H2 Hb2 ρ2 _ _ rfl r2 h2 fun u H3 Hb3 ρ3 r3 b3 h3 => ?_
  obtain ⟨d, vd, h4⟩ := OpAt.res r3 (o1.mono (b2.trans b3)) h3
  exact hr H3 Hb3 v d l u Q _ r3.sub vd h4 fun p m H' n s hm hq => q p m H3 H' Hb3 ρ3 r3 ((b1.trans b2).trans b3) n s hm hq
def fSlT (d : D) (lo hi : Option Int) (k : D → Prop) : Prop := match d with
  | .tup ds => k (.tup (cutD ds lo hi))
  | _ => False
theorem cut_all {xs : List D} {lo hi : Option Int} (h : HT.sIx xs.length 0 lo = 0 ∧ HT.sIx xs.length xs.length hi = xs.length) : cutD xs lo hi = xs := by
  unfold cutD
  rw [h.1, h.2, List.drop_zero, Nat.sub_zero, List.take_length]
theorem s_slT : SlS K (rSlA K) fSlT := fun H Hb v d lo hi Q Qd s hv h q => by
  cases d with
  | tup ds =>
    obtain ⟨a, vs, rfl, h1, h0, h2⟩ := hv.tup s
    refine ⟨a, vs, rfl, h1, fun hw => ?_, fun _ p n => ?_⟩
    · rw [h2.len] at hw
      have h : Qd (.tup (cutD ds lo hi)) := h
      rw [cut_all hw] at h
      exact q _ _ H Hb (Gr.refl s) (.tup h0 h2) h
    · have g := Gr.new (o := .tup (cutV vs lo hi)) s n
      exact q _ _ _ _ g (.tup upd_same (RepAll.mono g.b _ _ (cut_rep h2 lo hi))) h
  | _ => exact h.elim
def fSlL (d : D) (lo hi : Option Int) (k : M → Prop) : Prop := match d with
  | .lst ds => k (.lst (cutD ds lo hi))
  | _ => False
theorem s_slL : SlN K (fun x lo hi H Q => ∃ a xs, x = .ref a ∧ SqL K H a xs ∧ NewL (cutV xs lo hi) H Q) fSlL := fun H Hb v d lo hi Q Qd s hv h q => by
  cases d with
  | lst ds =>
    obtain ⟨a, vs, rfl, h1, h2⟩ := hv.lst' s
    exact ⟨a, vs, rfl, SqL.of h1, fun p H' s' e n => q p (.lst (cutD ds lo hi)) H' n s' ⟨_, e, cut_rep h2 lo hi⟩ h⟩
  | _ => exact h.elim
/-! ### t + u, xs + ys, t * k, xs * k, in -/
def fCatT (d e : D) (k : D → Prop) : Prop := match d, e with
  | .tup ds, .tup es => ds.length + es.length ≤ 1000000 ∧ k (.tup (ds ++ es))
  | _, _ => False
theorem s_catT : OpS K (rCatA K) fCatT := fun H Hb v w d e Q Qd s hv hw h q => by
  cases d with
  | tup ds =>
    cases e with
    | tup es =>
      obtain ⟨a, vs, rfl, h1, h10, h2⟩ := hv.tup s
      obtain ⟨b, ws, rfl, h3, h30, h4⟩ := hw.tup s
      obtain ⟨hz, h⟩ := h
      refine ⟨a, b, vs, ws, rfl, rfl, h1, h3, by rw [h2.len, h4.len, sizeLine_eq]; omega, fun e1 => ?_, fun _ e2 => ?_, fun _ _ p n => ?_⟩
      · subst e1
        cases h2
        exact q _ _ H Hb (Gr.refl s) (.tup h30 h4) h
      · subst e2
        cases h4
        rw [List.append_nil] at h
        exact q _ _ H Hb (Gr.refl s) (.tup h10 h2) h
      · have g := Gr.new (o := .tup (vs ++ ws)) s n
        exact q _ _ _ _ g (.tup upd_same (RepAll.mono g.b _ _ (h2.append h4))) h
    | _ => exact h.elim
  | _ => exact h.elim
def fCatL (d e : D) (k : M → Prop) : Prop := match d, e with
  | .lst ds, .lst es => ds.length + es.length ≤ 1000000 ∧ k (.lst (ds ++ es))
  | _, _ => False
theorem s_catL : OpN K (fun x y H Q => ∃ l b xs zs, x = .ref l ∧ y = .ref b ∧ H l = some (.lst xs) ∧ H b = some (.lst zs) ∧ xs.length + zs.length ≤ sizeLine ∧ NewL (xs ++ zs) H Q) fCatL := fun H Hb v w d e Q Qd s hv hw h q => by
  cases d with
  | lst ds =>
    cases e with
    | lst es =>
      obtain ⟨a, vs, rfl, h1, h2⟩ := hv.lst' s
      obtain ⟨b, ws, rfl, h3, h4⟩ := hw.lst' s
      exact ⟨a, b, vs, ws, rfl, rfl, h1, h3, by rw [h2.len, h4.len, sizeLine_eq]; have := h.1; omega, fun p H' s' e n => q p (.lst (ds ++ es)) H' n s' ⟨_, e, h2.append h4⟩ h.2⟩
    | _ => exact h.elim
  | _ => exact h.elim
def repD (ds : List D) (k : Int) : List D := (List.replicate k.toNat ds).flatten
theorem rep_flat {Hb : Hp} {vs : List V} {ds : List D} (h : RepAll K Hb vs ds) : ∀ n, RepAll K Hb (List.replicate n vs).flatten (List.replicate n ds).flatten
  | 0 => .nil
  | n + 1 => h.append (rep_flat h n)
def fRepL (d e : D) (k : M → Prop) : Prop := match d with
  | .lst ds => int1 e fun i => (-(2 ^ 63) ≤ i ∧ i < 2 ^ 63 ∧ ds.length * i.toNat ≤ 1000000) ∧ k (.lst (repD ds i))
  | _ => False
theorem s_repL : OpN K (fun x y H Q => ∃ l k xs, x = .ref l ∧ y = .int k ∧ H l = some (.lst xs) ∧ -(2 ^ 63) ≤ k ∧ k < 2 ^ 63 ∧ xs.length * k.toNat ≤ sizeLine ∧ NewL (List.replicate k.toNat xs).flatten H Q) fRepL := fun H Hb v w d e Q Qd s hv hw h q => by
  cases d with
  | lst ds =>
    obtain ⟨i, rfl, h⟩ := int1_ok h
    obtain ⟨a, vs, rfl, h1, h2⟩ := hv.lst' s
    cases hw.int
    exact ⟨a, i, vs, rfl, rfl, h1, h.1.1, h.1.2.1, by rw [h2.len, sizeLine_eq]; have := h.1.2.2; omega, fun p H' s' e n => q p (.lst (repD ds i)) H' n s' ⟨_, e, rep_flat h2 _⟩ h.2⟩
  | _ => exact h.elim
def fRepT (d e : D) (k : D → Prop) : Prop := match d with
  | .tup ds => int1 e fun i => (ds ≠ [] ∧ 0 ≤ i ∧ i ≤ 1000 ∧ ds.length ≤ 1000) ∧ k (.tup (repD ds i))
  | _ => False
theorem s_repT : OpS K (fun x y H Q => ∃ l k xs, x = .ref l ∧ y = .int k ∧ H l = some (.tup xs) ∧ xs ≠ [] ∧ 0 ≤ k ∧ k ≤ 1000 ∧ xs.length ≤ 1000 ∧ ∀ p H', H' p = some (.tup (List.replicate k.toNat xs).flatten) → (H' = H ∨ (H p = none ∧ H' = upd H p (.tup (List.replicate k.toNat xs).flatten))) → Q (.ref p) H') fRepT := fun H Hb v w d e Q Qd s hv hw h q => by
  cases d with
  | tup ds =>
    obtain ⟨i, rfl, ⟨c1, c2, c3, c4⟩, h⟩ := int1_ok h
    obtain ⟨a, vs, rfl, h1, h0, h2⟩ := hv.tupS s
    cases hw.int
    refine ⟨a, i, vs, rfl, rfl, h1, fun z => c1 ?_, c2, c3, by rw [h2.len]; exact c4, fun p H' e hH => ?_⟩
    · rw [z] at h2; cases h2; rfl
    rcases hH with rfl | ⟨n, rfl⟩
    · have hs : Same H' H' := Same.refl _
      obtain ⟨Hb', g, e'⟩ := Gr.tupS s hs e
      exact q _ _ H' Hb' g (.tup e' (RepAll.mono g.b _ _ (rep_flat h2 _))) h
    · have g := Gr.new (o := .tup (List.replicate i.toNat vs).flatten) s n
      exact q _ _ _ _ g (.tup upd_same (RepAll.mono g.b _ _ (rep_flat h2 _))) h
  | _ => exact h.elim
/-- flat items -/
def flats : List D → Option (List V)
  | [] => some []
  | d :: r => match PL.flat d, flats r with
    | some v, some vs => some (v :: vs)
    | _, _ => none
theorem Rep.flat {Hb : Hp} {v w : V} {d : D} (h : Rep K Hb v d) (e : PL.flat d = some w) : v = w ∧ flatV w = true := by
  cases d <;> cases e <;> (cases h; exact ⟨rfl, rfl⟩)
theorem flats_rep {Hb : Hp} : ∀ {ds : List D} {vs ws : List V}, RepAll K Hb vs ds → flats ds = some ws → vs = ws ∧ ws.all flatV = true
  | [], _, _, h, e => by cases h; cases e; exact ⟨rfl, rfl⟩
  | d :: r, _, ws, h, e => by
    cases h with
    | cons h1 h2 =>
      unfold flats at e
      cases e1 : PL.flat d with
      | none => rw [e1] at e; cases e
      | some u =>
        cases e2 : flats r with
        | none => rw [e1, e2] at e; cases e
        | some us =>
          rw [e1, e2] at e
          cases e
          obtain ⟨rfl, f1⟩ := h1.flat e1
          obtain ⟨rfl, f2⟩ := flats_rep h2 e2
          exact ⟨rfl, by rw [List.all_cons, f1, f2]; rfl⟩
def fIn (neg : Bool) (d e : D) (k : D → Prop) : Prop := optD (PL.flat d) fun x => optD (PL.items e) fun xs => optD (flats xs) fun ys => k (.bl (if neg then !inV x ys else inV x ys))
theorem s_in (neg : Bool) : OpS K (rIn K neg) (fIn neg) := fun H Hb v w d e Q Qd s hv hw h q => by
  obtain ⟨x, e1, h⟩ := optD_ok h
  obtain ⟨xs, e2, h⟩ := optD_ok h
  obtain ⟨ys, e3, h⟩ := optD_ok h
  cases hv.flat e1
  obtain ⟨a, vs, rfl, h1, h2⟩ := hw.items s e2
  obtain ⟨rfl, fl⟩ := flats_rep h2 e3
  refine ⟨a, vs, rfl, h1, ?_, fl, q _ _ H Hb (Gr.refl s) (.bl _) h⟩
  cases d <;> cases e1 <;> rfl
def fAddS (d e : D) (k : D → Prop) : Prop := match d, e with
  | .str x, .str y => x.length + y.length ≤ sizeLine ∧ k (.str (x ++ y))
  | _, _ => False
theorem s_addS : OpS K (fun x y H Q => ∃ i j, x = .str i ∧ y = .str j ∧ i.length + j.length ≤ sizeLine ∧ Q (.str (i ++ j)) H) fAddS := fun H Hb v w d e Q Qd s hv hw h q => by
  cases d with
  | str x =>
    cases e with
    | str y => cases hv.str; cases hw.str; exact ⟨x, y, rfl, rfl, h.1, q _ _ H Hb (Gr.refl s) (.str _) h.2⟩
    | _ => exact h.elim
  | _ => exact h.elim
/-! ### what changes one's own lists -/
theorem tyL {H : Hp} {a : Addr} {vs : List V} (e : H a = some (.lst vs)) : tyV K "list" (.ref a) H := .inl ⟨rfl, vs, SqL.of e⟩
def lstM : M → (List D → Prop) → Prop
  | .lst ds, k => k ds
  | _, _ => False
theorem lstM_ok {m : M} {k : List D → Prop} (h : lstM m k) : ∃ ds, m = .lst ds ∧ k ds := by
  cases m <;> first | exact h.elim | exact ⟨_, rfl, h⟩
/-- s.append(e) -/
def dAppend (i : Nat) (de : DE) : DE := fun ρ Q => mineC ρ[i]? (de ρ fun d ρ1 => cellM ρ1[i]? fun c m => lstM m fun ds => ds.length ≤ 1000000 ∧ Q .non (ρ1.set i (c.put (.lst (ds ++ [d])))))
theorem mine_lst {F : Fx} {σ : L2.St} {H Hb : Hp} {ρ : Rho} {i : Nat} {c : Cell} {a : Addr} (r : R F σ H Hb ρ) (e : ρ[i]? = some c) (hc : c.mine = true) (es : σ[i]? = some (some (.ref a))) {T : String} (hT : T = "list") (hl : ∀ m, c.get = some m → ∃ ds, m = .lst ds) : tyV F.K T (.ref a) H := by
  subst hT
  obtain ⟨a', m, h1, h2, _, _, h5⟩ := r.mine e hc
  rw [es] at h1
  cases h1
  have hg : c.get = some m := by rcases h5 with ⟨rfl, _⟩ | rfl <;> rfl
  obtain ⟨ds, rfl⟩ := hl m hg
  obtain ⟨vs, e1, _⟩ := h2
  exact tyL e1
theorem put_get {c : Cell} {m m' : M} (h : c.get = some m) : (c.put m').get = some m' := by
  cases c <;> first | rfl | cases h
def mineL : Option Cell → Prop → Prop
  | some (.own (.lst _)), p => p
  | some (.io _ (.lst _)), p => p
  | _, _ => False
theorem mineL_ok {o : Option Cell} {p : Prop} (h : mineL o p) : ∃ c ds, o = some c ∧ c.get = some (.lst ds) ∧ p := by
  cases o with
  | none => exact h.elim
  | some c =>
    cases c with
    | own m => cases m <;> first | exact h.elim | exact ⟨_, _, rfl, rfl, h⟩
    | io a m => cases m <;> first | exact h.elim | exact ⟨_, _, rfl, rfl, h⟩
    | _ => exact h.elim
def dMeth (i : Nat) (f : List D → List D → (D → List D → Prop) → Prop) (da : DA) : DE := fun ρ Q => mineL ρ[i]? (da ρ fun xs ρ1 => cellM ρ1[i]? fun c m => lstM m fun ds => f ds xs fun d ds' => Q d (ρ1.set i (c.put (.lst ds'))))
/-- a method that changes its list -/
def MtS (K : PySem.W.Frag) (r : V → List V → Hp → VK → Prop) (f : List D → List D → (D → List D → Prop) → Prop) : Prop := ∀ H Hb a ys vs ds xs (Q : VK) (Qd : D → List D → Prop), Same Hb H → H a = some (.lst ys) → RepAll K Hb ys ds → RepAll K Hb vs xs → f ds xs Qd →
  (∀ u x ys' ds', RepAll K Hb ys' ds' → Rep K Hb u x → Qd x ds' → Q u (upd H a (.lst ys'))) → r (.ref a) vs H Q
theorem meth_core {F : Fx} {σ : L2.St} {H Hb : Hp} {ρ : Rho} {Q : VK} {Qd : D → Rho → Prop} {i : Nat} {r : V → List V → Hp → VK → Prop} {f : List D → List D → (D → List D → Prop) → Prop} {a : Addr} {vs : List V} {xs : List D} (hr : MtS F.K r f) (rr : R F σ H Hb ρ) (es : σ[i]? = some (some (.ref a))) (ra : RepAll F.K Hb vs xs)
    (h : cellM ρ[i]? fun c m => lstM m fun ds => f ds xs fun d ds' => Qd d (ρ.set i (c.put (.lst ds')))) (q : ∀ v d H' ρ', R F σ H' Hb ρ' → Rep F.K Hb v d → Qd d ρ' → Q v H') : r (.ref a) vs H Q := by
  obtain ⟨c, m, e1, g1, h⟩ := cellM_ok h
  obtain ⟨ds, rfl, h⟩ := lstM_ok h
  obtain ⟨a', es', ⟨ys, e2, ry⟩, nb, nf⟩ := rr.mineG e1 g1
  rw [es] at es'
  cases es'
  exact hr H Hb a ys vs ds xs Q _ rr.sub e2 ry ra h fun u x ys' ds' ry' ru hq => q u x _ _ (rr.mut e1 (getM g1) es (fun b o n eb => by rw [upd_ne n]; exact eb) (show MAt F.K Hb (upd H a (.lst ys')) a (.lst ds') from ⟨ys', upd_same, ry'⟩)) ru hq
theorem snd_meth (i : Nat) {r : V → List V → Hp → VK → Prop} {f : List D → List D → (D → List D → Prop) → Prop} {n : Nat} {t : TA} {da : DA} (hr : MtS K r f) (ha : SndA K n t da) : SndE K (tBM K "list" r (tVar i) t) (dMeth i f da) := fun F σ H Hb ρ Q Qd hK rr h q => by
  subst hK
  obtain ⟨c, ds, e0, g0, h⟩ := mineL_ok h
  obtain ⟨a, es, ⟨ys, e2, _⟩, _⟩ := rr.mineG e0 g0
  refine ⟨_, es, tyL e2, ha F σ H Hb ρ _ _ rfl rr h fun vs xs H1 Hb1 ρ1 r1 b1 ra _ h1 => ?_⟩
  exact meth_core hr r1 es ra h1 fun v d H' ρ' r' rp hq => q v d H' Hb1 ρ' r' b1 rp hq
theorem snd_meth0 (i : Nat) {r : V → List V → Hp → VK → Prop} {f : List D → List D → (D → List D → Prop) → Prop} (hr : MtS K r f) : SndE K (tBM0 K "list" r (tVar i)) (dMeth i f dNilA) := fun F σ H Hb ρ Q Qd hK rr h q => by
  subst hK
  obtain ⟨c, ds, e0, g0, h⟩ := mineL_ok h
  obtain ⟨a, es, ⟨ys, e2, _⟩, _⟩ := rr.mineG e0 g0
  exact ⟨_, es, tyL e2, meth_core hr rr es .nil h fun v d H' ρ' r' rp hq => q v d H' Hb ρ' r' (Same.refl _) rp hq⟩
def mAppend (ds xs : List D) (k : D → List D → Prop) : Prop := arg1 xs fun d => ds.length ≤ 1000000 ∧ k .non (ds ++ [d])
theorem RepAll.one1 {Hb : Hp} {vs : List V} {ds : List D} {k : D → Prop} (h : RepAll K Hb vs ds) (q : arg1 ds k) : ∃ v d, vs = [v] ∧ ds = [d] ∧ Rep K Hb v d ∧ k d := by
  cases h with
  | nil => exact q.elim
  | cons h1 h2 =>
    cases h2 with
    | nil => exact ⟨_, _, rfl, rfl, h1, q⟩
    | cons _ _ => exact q.elim
theorem s_append : MtS K rAppend mAppend := fun H Hb a ys vs ds xs Q Qd s e ry ra h q => by
  obtain ⟨v, d, rfl, rfl, rp, h⟩ := ra.one1 h
  exact ⟨a, ys, v, rfl, rfl, e, by rw [ry.len, sizeLine_eq]; have := h.1; omega, q _ _ _ _ (ry.append (.one rp)) .non h.2⟩
def mPop (ds xs : List D) (k : D → List D → Prop) : Prop := match xs with
  | [] => optD ds[ds.length - 1]? fun d => k d ds.dropLast
  | _ => False
theorem dropLast_rep {Hb : Hp} : ∀ {vs : List V} {ds : List D}, RepAll K Hb vs ds → RepAll K Hb vs.dropLast ds.dropLast := fun {vs ds} h => by
  rw [List.dropLast_eq_take, List.dropLast_eq_take, h.len]
  exact h.take _
theorem s_pop : MtS K rPop mPop := fun H Hb a ys vs ds xs Q Qd s e ry ra h q => by
  cases ra with
  | cons _ _ => exact h.elim
  | nil =>
    obtain ⟨d, ed, h⟩ := optD_ok h
    obtain ⟨u, eu, ru⟩ := ry.get ed
    exact ⟨a, ys, u, rfl, rfl, e, by rw [ry.len]; exact eu, q _ _ _ _ (dropLast_rep ry) ru h⟩
def mPopAt (ds xs : List D) (k : D → List D → Prop) : Prop := arg1 xs fun e => int1 e fun i => (-(2 ^ 63) ≤ i ∧ i < 2 ^ 63) ∧ optD (seqIndex? i ds.length) fun j => optD ds[j]? fun d => k d (ds.eraseIdx j)
theorem s_popAt : MtS K rPopAt mPopAt := fun H Hb a ys vs ds xs Q Qd s e ry ra h q => by
  obtain ⟨v, d, rfl, rfl, rp, h⟩ := ra.one1 h
  obtain ⟨i, rfl, ⟨c1, c2⟩, h⟩ := int1_ok h
  obtain ⟨j, ej, h⟩ := optD_ok h
  obtain ⟨x, ex, h⟩ := optD_ok h
  cases rp
  obtain ⟨u, eu, ru⟩ := ry.get ex
  exact ⟨a, ys, i, j, u, rfl, rfl, e, c1, c2, by rw [ry.len]; exact ej, eu, q _ _ _ _ (ry.eraseIdx j) ru h⟩
/-- xs[i] = e, xs in a slot of one's own -/
def gIxL (s : Nat) (di : DE) : DG := fun d ρ Q => mineL ρ[s]? (di ρ fun x ρ1 => int1 x fun k => cellM ρ1[s]? fun c m => lstM m fun ds => optD (ixN ds.length k) fun j => Q (ρ1.set s (c.put (.lst (ds.set j d)))))
theorem sng_ixL (s : Nat) {ti : TE} {di : DE} (hi : SndE K ti di) : SndG K (gSub (tVar s) ti rSetL) (gIxL s di) := fun F σ H Hb ρ v d Q Qd hK rr rp h q => by
  subst hK
  obtain ⟨c, ds, e0, g0, h⟩ := mineL_ok h
  obtain ⟨a, es, ⟨ys, e2, _⟩, _⟩ := rr.mineG e0 g0
  refine ⟨_, es, hi F σ H Hb ρ _ _ rfl rr h fun u x H1 Hb1 ρ1 r1 b1 ru h1 => ?_⟩
  obtain ⟨k, rfl, h1⟩ := int1_ok h1
  obtain ⟨c1, m, e1, g1, h1⟩ := cellM_ok h1
  obtain ⟨ds1, rfl, h1⟩ := lstM_ok h1
  obtain ⟨j, ej, h1⟩ := optD_ok h1
  obtain ⟨a', es', ⟨zs, e3, rz⟩, nb, nf⟩ := r1.mineG e1 g1
  rw [es] at es'
  cases es'
  cases ru
  refine ⟨a, zs, k, j, rfl, rfl, e3, by rw [rz.len]; exact ej, q _ _ Hb1 _ (r1.mut e1 (getM g1) es (fun b o n eb => by rw [upd_ne n]; exact eb) (show MAt F.K Hb1 (upd H1 a (.lst (zs.set j v))) a (.lst (ds1.set j d)) from ⟨_, upd_same, rz.set j (Rep.mono b1 _ _ rp)⟩)) b1 h1⟩
end
end PL
namespace PL
open PySem PySem.Spec PyProof.Rows L2 TB
/-! ### xs[i] op= e -/
section
variable {X : Cx}
theorem pget_list : PGet X (rIxL X.K) := by
  intro pins s σ H x y v u Q I rx ry h
  obtain ⟨p, xs, i, z, rfl, rfl, hq, he, q⟩ := h
  cases rx
  obtain ⟨t, rfl⟩ := ry
  obtain ⟨its, r, pl, hz⟩ := I.list hq
  obtain ⟨j, h1, h2, h3, h4, h5⟩ := atI_get he
  obtain ⟨w, ew, rw'⟩ := r.get h2
  have hl := r.length
  have hn := line63
  have fin : EP X pins σ Q w s := ⟨z, H, I, rw', q⟩
  by_cases h0 : 0 ≤ i
  · have hj : i.toNat = j := by
      rw [seqIndex_of h0 h5] at h1
      exact Option.some.inj h1
    exact wpAny_getItem_list pl.isList h0 (by omega) (by rw [hj]; simpa using ew) fin
  · have hj : (i + (its.toArray.size : Int)).toNat = j := by
      rw [seqIndex_neg (by omega) h4] at h1
      rw [List.size_toArray, ← hl]
      exact Option.some.inj h1
    exact wpAny_getItem_list_neg pl.isList (by omega) (by rw [List.size_toArray] <;> omega) (by omega) (by rw [hj]; simpa using ew) fin
end
section
variable {K : PySem.W.Frag}
/-- xs[i] op= e, xs in a slot of one's own -/
def dAugL (s : Nat) (di : DE) (f : Int → Int → Int) (de : DE) : DS := fun E ρ => mineL ρ[s]? (di ρ fun x ρ1 => int1 x fun k => cellM ρ1[s]? fun _ m => lstM m fun ds => optD (atI ds k) fun old => de ρ1 fun y ρ2 => ip2 f old y fun z => cellM ρ2[s]? fun c m => lstM m fun ds => optD (ixN ds.length k) fun j => E.nx (ρ2.set s (c.put (.lst (ds.set j z)))))
theorem sns_augL (s : Nat) {ti te : TE} {di de : DE} {f : Int → Int → Int} (hi : SndE K ti di) (he : SndE K te de) : SndS K (tAugS (tVar s) ti te (rIxL K) (ipI f) rSetL) (dAugL s di f de) := fun F σ H Hb ρ D E hK rr h e => by
  subst hK
  obtain ⟨c, ds, e0, g0, h⟩ := mineL_ok h
  obtain ⟨a, es, ⟨ys, e2, _⟩, _⟩ := rr.mineG e0 g0
  refine ⟨_, es, hi F σ H Hb ρ _ _ rfl rr h fun u x H1 Hb1 ρ1 r1 b1 ru h1 => ?_⟩
  obtain ⟨k, rfl, h1⟩ := int1_ok h1
  obtain ⟨c1, m, e1, g1, h1⟩ := cellM_ok h1
  obtain ⟨ds1, rfl, h1⟩ := lstM_ok h1
  obtain ⟨old, eo, h1⟩ := optD_ok h1
  obtain ⟨a', es', ⟨zs, e3, rz⟩, nb, nf⟩ := r1.mineG e1 g1
  rw [es] at es'
  cases es'
  cases ru
  obtain ⟨v, ev, rv⟩ := atI_rep rz eo
  refine ⟨a, zs, k, v, rfl, rfl, SqL.of e3, ev, he F σ H1 Hb1 ρ1 _ _ rfl r1 h1 fun w y H2 Hb2 ρ2 r2 b2 rw' h2 => ?_⟩
  obtain ⟨i, j, rfl, rfl, h2⟩ := int2_ok h2
  cases rv
  cases rw'
  refine ⟨i, j, rfl, rfl, ?_⟩
  obtain ⟨c2, m2, e4, g4, h2⟩ := cellM_ok h2
  obtain ⟨ds2, rfl, h2⟩ := lstM_ok h2
  obtain ⟨n, en, h2⟩ := optD_ok h2
  obtain ⟨a', es', ⟨ws, e5, rw5⟩, nb2, nf2⟩ := r2.mineG e4 g4
  rw [es] at es'
  cases es'
  exact ⟨a, ws, k, n, rfl, rfl, e5, by rw [rw5.len]; exact en, e.nx _ _ Hb2 _ (r2.mut e4 (getM g4) es (fun b o n eb => by rw [upd_ne n]; exact eb) (show MAt F.K Hb2 (upd H2 a (.lst (ws.set n _))) a (.lst (ds2.set n _)) from ⟨_, upd_same, rw5.set n (.int _)⟩)) (b1.trans b2) h2⟩
end
/-! ### a dict of the module with text keys -/
inductive EsAre (P : Params) : List DictEntry → List (Str × V) → Prop
  | nil : EsAre P [] []
  | cons {x : Str} {t : Tok} {v : V} {u : Value} {es : List DictEntry} {kvs : List (Str × V)} : RelV v u → EsAre P es kvs → EsAre P (⟨PyData.keyHash P x, .str x t, u⟩ :: es) ((x, v) :: kvs)
theorem EsAre.lit {P : Params} : ∀ {es : List DictEntry} {kvs : List (Str × V)}, EsAre P es kvs → PySem.W.KeysLit P es
  | _, _, .nil => trivial
  | _, _, .cons _ h => ⟨⟨_, _, rfl, rfl⟩, h.lit⟩
theorem EsAre.find {P : Params} : ∀ {es : List DictEntry} {kvs : List (Str × V)} (x : Str), EsAre P es kvs → RelO (kvs.lookup x) ((es.find? fun e => Value.isStrOf x e.key).map (·.val))
  | _, _, x, .nil => trivial
  | _, _, x, .cons (x := y) (t := t) (v := v) (u := u) (es := es) (kvs := kvs) r h => by
    rw [List.find?_cons, List.lookup_cons]
    have e : Value.isStrOf x (.str y t) = (x == y) := by
      unfold Value.isStrOf
      exact Bool.beq_comm
    show RelO (match x == y with | true => some v | false => kvs.lookup x) (Option.map (fun (e : DictEntry) => e.val) (match Value.isStrOf x (.str y t) with | true => _ | false => _))
    rw [e]
    cases x == y with
    | true => exact r
    | false => exact h.find x
def KDC (K : PySem.W.Frag) (w : World) (a : Addr) (kvs : List (Str × V)) : Prop := ∃ es n, K.lookup a = some ⟨.type "dict", none, .dict es n, #[]⟩ ∧ EsAre w.params es.toList kvs ∧ (a == sysModules) = false
theorem KDC.find {K : PySem.W.Frag} {w : World} {es : Array DictEntry} {kvs : List (Str × V)} (h : EsAre w.params es.toList kvs) (x : Str) : RelO (kvs.lookup x) (findBy Value.isStrOf es x) := by
  obtain ⟨l⟩ := es
  unfold findBy
  rw [List.find?_toArray]
  exact h.find x
def rIxKD (K : PySem.W.Frag) (w : World) : R2 := fun x y H Q => ∃ p z kvs v, x = .ref p ∧ y = .str z ∧ KDC K w p kvs ∧ kvs.lookup z = some v ∧ Q v H
def rInKD (K : PySem.W.Frag) (w : World) (neg : Bool) : R2 := fun y x H Q => ∃ p z kvs, x = .ref p ∧ y = .str z ∧ KDC K w p kvs ∧ Q (.bl (if neg then !(kvs.lookup z).isSome else (kvs.lookup z).isSome)) H
section
variable {X : Cx}
theorem ix_kdc : IxR X (rIxKD X.K X.w) := by
  intro value slice pins s σ H x y v u Q I rx ry h hs
  obtain ⟨p, z, kvs, r, rfl, rfl, ⟨es, n, hl, hk, low⟩, el, q⟩ := h
  obtain rfl : v = Value.ref p := rx
  obtain ⟨t, rfl⟩ := ry
  have hm := PySem.W.mapOf_K (prog := X.prog) (w := X.w) I.kIn hl hk.lit
  have hf := KDC.find (K := X.K) hk z
  rw [el] at hf
  cases e : findBy Value.isStrOf es z with
  | none => rw [e] at hf; exact hf.elim
  | some u0 =>
    rw [e] at hf
    exact tail_any hm.typeIs slot_dict_getitem.lookup (wpAny_getItem_of (strKind_is X.prog X.w z t) hm e ⟨r, H, I.tok _, hf, q⟩) hs
theorem RelO.isSome {a : Option V} {b : Option Value} (h : RelO a b) : a.isSome = b.isSome := by
  cases a <;> cases b <;> first | rfl | exact h.elim
theorem op_inKD : OpR X (compareOp .In) (rInKD X.K X.w false) := by
  intro pins s σ H x y v u Q I rx ry h
  obtain ⟨p, z, kvs, rfl, rfl, ⟨es, n, hl, hk, low⟩, q⟩ := h
  obtain rfl : u = Value.ref p := ry
  obtain ⟨t, rfl⟩ := rx
  have hm := PySem.W.mapOf_K (prog := X.prog) (w := X.w) I.kIn hl hk.lit
  have hf := RelO.isSome (KDC.find (K := X.K) hk z)
  refine wpAny_in_of (strKind_is X.prog X.w z t) low hm ⟨.bl _, H, I.tok _, rfl, ?_⟩
  rw [← hf]
  exact q
theorem op_notInKD : OpR X (compareOp .NotIn) (rInKD X.K X.w true) := by
  intro pins s σ H x y v u Q I rx ry h
  obtain ⟨p, z, kvs, rfl, rfl, ⟨es, n, hl, hk, low⟩, q⟩ := h
  obtain rfl : u = Value.ref p := ry
  obtain ⟨t, rfl⟩ := rx
  have hm := PySem.W.mapOf_K (prog := X.prog) (w := X.w) I.kIn hl hk.lit
  have hf := RelO.isSome (KDC.find (K := X.K) hk z)
  refine wpAny_notIn_of (strKind_is X.prog X.w z t) low hm ⟨.bl _, H, I.tok _, rfl, ?_⟩
  rw [← hf]
  exact q
end
/-- where such a dict stands -/
structure ConD (K : PySem.W.Frag) (w : World) (mg : Str → Option Value) (x : Str) (kvs : List (Str × V)) where
  a : Addr
  g : mg x = some (.ref a)
  c : KDC K w a kvs
section
variable {K : PySem.W.Frag} {w : World} {a : Addr} {kvs : List (Str × V)} {es : List (Str × D)}
/-- its values as data -/
inductive KVs : List (Str × V) → List (Str × D) → Prop
  | nil : KVs [] []
  | cons {x : Str} {v : V} {d : D} {kvs : List (Str × V)} {es : List (Str × D)} : (∀ (K : PySem.W.Frag) (Hb : Hp), Rep K Hb v d) → KVs kvs es → KVs ((x, v) :: kvs) ((x, d) :: es)
theorem KVs.get : ∀ {kvs : List (Str × V)} {es : List (Str × D)} {x : Str} {d : D}, KVs kvs es → es.lookup x = some d → ∃ v, kvs.lookup x = some v ∧ ∀ (K : PySem.W.Frag) (Hb : Hp), Rep K Hb v d
  | _, _, x, d, .cons (x := y) h t, e => by
    rw [List.lookup_cons] at e ⊢
    cases q : x == y with
    | true => rw [q] at e; cases e; exact ⟨_, rfl, h⟩
    | false => rw [q] at e; exact t.get e
theorem KVs.some : ∀ {kvs : List (Str × V)} {es : List (Str × D)} {x : Str}, KVs kvs es → (kvs.lookup x).isSome = (es.lookup x).isSome
  | _, _, x, .nil => rfl
  | _, _, x, .cons (x := y) h t => by
    rw [List.lookup_cons, List.lookup_cons]
    cases q : x == y with
    | true => rfl
    | false => exact t.some
def opqR (a : Addr) : D → Prop → Prop
  | .opq (.ref b), p => b = a ∧ p
  | _, _ => False
def str1 : D → (Str → Prop) → Prop
  | .str x, k => k x
  | _, _ => False
theorem str1_ok {d : D} {k : Str → Prop} (h : str1 d k) : ∃ x, d = .str x ∧ k x := by
  cases d <;> first | exact h.elim | exact ⟨_, rfl, h⟩
theorem opqR_ok {d : D} {p : Prop} (h : opqR a d p) : d = .opq (.ref a) ∧ p := by
  cases d with
  | opq v =>
    cases v with
    | ref b => exact ⟨by rw [h.1], h.2⟩
    | _ => exact h.elim
  | _ => exact h.elim
def fIxKD (a : Addr) (es : List (Str × D)) (d e : D) (k : D → Prop) : Prop := opqR a d (str1 e fun z => optD (es.lookup z) k)
def fInKD (a : Addr) (es : List (Str × D)) (neg : Bool) (e d : D) (k : D → Prop) : Prop := opqR a d (str1 e fun z => k (.bl (if neg then !(es.lookup z).isSome else (es.lookup z).isSome)))
theorem s_ixKD (c : KDC K w a kvs) (kv : KVs kvs es) : OpS K (rIxKD K w) (fIxKD a es) := fun H Hb v u d e Q Qd s hv hw h q => by
  obtain ⟨rfl, h2⟩ := opqR_ok h
  obtain ⟨z, rfl, h3⟩ := str1_ok h2
  obtain ⟨x, ex, h4⟩ := optD_ok h3
  obtain ⟨y, ey, ry⟩ := kv.get ex
  exact ⟨a, z, kvs, y, hv.opq, hw.str, c, ey, q _ _ H Hb (Gr.refl s) (ry K Hb) h4⟩
theorem s_inKD (c : KDC K w a kvs) (kv : KVs kvs es) (neg : Bool) : OpS K (rInKD K w neg) (fInKD a es neg) := fun H Hb v u d e Q Qd s hv hw h q => by
  obtain ⟨rfl, h2⟩ := opqR_ok h
  obtain ⟨z, rfl, h3⟩ := str1_ok h2
  refine ⟨a, z, kvs, hw.opq, hv.str, c, q _ _ H Hb (Gr.refl s) ?_ h3⟩
  rw [kv.some]
  exact .bl _
end
end PL
namespace PL
open PySem PySem.Spec PyProof.Rows L2 TB
section
variable {K : PySem.W.Frag}
/-- a name that may hold one's own: it is data from then on -/
def varF (i : Nat) (ρ : Rho) (Q : D → Rho → Prop) : Option Cell → Prop
  | some (.val d) => Q d ρ
  | some (.own m) => frzM m fun d => Q d (ρ.set i (.val d))
  | _ => False
def dVarF (i : Nat) : DE := fun ρ Q => varF i ρ Q ρ[i]?
theorem snd_varF (i : Nat) : SndE K (tVar i) (dVarF i) := fun F σ H Hb ρ Q Qd hK r h q => by
  subst hK
  unfold dVarF at h
  cases e : ρ[i]? with
  | none => rw [e] at h; exact h.elim
  | some c =>
    rw [e] at h
    cases c with
    | val d =>
      obtain ⟨v, h1, h2⟩ := r.val e
      exact ⟨v, h1, q v d H Hb ρ r (Same.refl _) h2 h⟩
    | own m =>
      obtain ⟨d, v, Hb', hk, sb, h1, h2, r'⟩ := r.freeze e h
      exact ⟨v, h1, q v d H Hb' _ r' sb h2 hk⟩
    | _ => exact h.elim
/-! ### several slots at once -/
inductive Rs where
  | v (d : D) | own (x : M)
def Rs.cell : Rs → Cell
  | .v d => .val d
  | .own x => .own x
def setAll : L2.St → List Nat → List V → L2.St
  | σ, i :: is, v :: vs => setAll (σ.set i (some v)) is vs
  | σ, _, _ => σ
def setAllR : Rho → List Nat → List Rs → Rho
  | ρ, i :: is, r :: rs => setAllR (ρ.set i r.cell) is rs
  | ρ, _, _ => ρ
theorem setAll_comm {i : Nat} {x : Option V} : ∀ {is : List Nat} {vs : List V} {σ : L2.St}, i ∉ is → setAll (σ.set i x) is vs = (setAll σ is vs).set i x
  | [], _, _, _ => by cases ‹List V› <;> rfl
  | j :: js, [], _, _ => rfl
  | j :: js, v :: vs, σ, h => by
    have hij : i ≠ j := fun e => h (by rw [e]; exact List.mem_cons_self ..)
    show setAll ((σ.set i x).set j (some v)) js vs = (setAll (σ.set j (some v)) js vs).set i x
    rw [List.set_comm _ _ hij]
    exact setAll_comm fun m => h (List.mem_cons_of_mem _ m)
theorem setAllR_comm {i : Nat} {x : Cell} : ∀ {is : List Nat} {rs : List Rs} {ρ : Rho}, i ∉ is → setAllR (ρ.set i x) is rs = (setAllR ρ is rs).set i x
  | [], _, _, _ => by cases ‹List Rs› <;> rfl
  | j :: js, [], _, _ => rfl
  | j :: js, v :: vs, ρ, h => by
    have hij : i ≠ j := fun e => h (by rw [e]; exact List.mem_cons_self ..)
    show setAllR ((ρ.set i x).set j v.cell) js vs = (setAllR (ρ.set j v.cell) js vs).set i x
    rw [List.set_comm _ _ hij]
    exact setAllR_comm fun m => h (List.mem_cons_of_mem _ m)
/-- the results stand: stored, the frame holds -/
def PendAt (F : Fx) (σ : L2.St) (H Hb : Hp) (ρ : Rho) (vs : List V) (rs : List Rs) : Prop := ∀ is H', is.length = rs.length → is.Nodup → Same H H' → R F (setAll σ is vs) H' Hb (setAllR ρ is rs)
/-- a new object kept aside -/
def Fx.keep (F : Fx) (D : Addr) (o : HO) : Fx := ⟨F.K, upd F.fr D o, fun b => b ≠ D ∧ F.al b⟩
def NoTup : HO → Prop
  | .lst _ => True
  | .dK _ => True
  | .dT _ => True
  | _ => False
theorem noTup_rd {H : Hp} {a : Addr} {o : HO} {xs : List V} (h : NoTup o) (e : H a = some o) (r : Rd H a (.tup xs)) : False := by
  rcases r with r | ⟨ob, r⟩
  · rw [e] at r; cases r; exact h
  · rw [e] at r; cases r; exact h
theorem R.enterK {F : Fx} {σ : L2.St} {H H' Hb : Hp} {ρ : Rho} {D : Addr} {o : HO} (r : R F σ H Hb ρ) (n : H D = none) (s : Same H H') (e : H' D = some o) : R (F.keep D o) σ H' Hb ρ := by
  have g : Gr H Hb H' Hb := ⟨s, Same.refl _, r.sub.trans s, fun _ e => .inl e⟩
  have r2 := r.grow g
  have nH : ∀ a, H a ≠ none → a ≠ D := fun a h z => h (by rw [z]; exact n)
  refine ⟨r2.sub, fun b u eb => ?_, fun b eb => ?_, fun b eb => ?_, r.len, fun i c v e1 e2 => ?_, r.dis⟩
  · have eb : upd F.fr D o b = some u := eb
    by_cases hb : b = D
    · subst hb; rw [upd_same] at eb; cases eb; exact e
    · rw [upd_ne hb] at eb; exact r2.fr _ _ eb
  · rcases r2.al b eb with z | z
    · refine .inl ⟨nH b ?_, z⟩
      obtain ⟨u, q⟩ := nonne eb
      rw [r.sub _ _ q]
      exact fun z => nomatch z
    · exact .inr z
  · exact ⟨fun z => (by rw [z, e] at eb; cases eb), r2.nw b eb⟩
  · have old := r2.cell i c v e1 e2
    have old1 := r.cell i c v e1 e2
    cases c with
    | no => trivial
    | val d => exact old
    | own m =>
      obtain ⟨a, q1, q2, q3, q4, q5⟩ := old
      obtain ⟨a', p1, p2, _⟩ := old1
      rw [q1] at p1
      cases p1
      have na := nH a (MAt.ne p2)
      exact ⟨a, q1, q2, q3, by show upd F.fr D _ a = none; rw [upd_ne na]; exact q4, na, q5⟩
    | io a m =>
      obtain ⟨q1, q2, q3, q4⟩ := old
      obtain ⟨p1, p2, _⟩ := old1
      have na := nH a (MAt.ne p2)
      exact ⟨q1, q2, q3, by show upd F.fr D _ a = none; rw [upd_ne na]; exact q4⟩
    | lck a m =>
      obtain ⟨q1, ob, u, q2, q3⟩ := old
      have na := nH a (by rw [r.fr _ _ q2]; exact fun z => nomatch z)
      exact ⟨q1, ob, u, by show upd F.fr D _ a = _; rw [upd_ne na]; exact q2, q3⟩
theorem R.leaveK {F : Fx} {σ : L2.St} {H Hb : Hp} {ρ : Rho} {D : Addr} {o : HO} (r : R (F.keep D o) σ H Hb ρ) (ho : NoTup o) (nf : F.fr D = none) (al : F.al D) : R F σ (sans H D) Hb ρ ∧ Same (sans H D) H ∧ sans H D D = none ∧ H D = some o := by
  have hD : H D = some o := r.fr _ _ (show upd F.fr D _ D = _ from upd_same)
  have nb : Hb D = none := by
    cases q : Hb D with
    | none => rfl
    | some u =>
      rcases r.al D (by rw [q]; exact fun z => nomatch z) with z | ⟨xs, z⟩
      · exact absurd rfl z.1
      · exact (noTup_rd ho hD z).elim
  have ne : ∀ b, b ≠ D → sans H D b = H b := fun b h => if_neg h
  refine ⟨⟨fun b u e => ?_, fun b u e => ?_, fun b e => ?_, fun b e => ?_, r.len, fun i c v e1 e2 => ?_, r.dis⟩, fun b u e => ?_, if_pos rfl, hD⟩
  · have hb : b ≠ D := fun z => by rw [z, nb] at e; cases e
    rw [ne b hb]; exact r.sub _ _ e
  · have hb : b ≠ D := fun z => by rw [z, nf] at e; cases e
    rw [ne b hb]
    exact r.fr _ _ (show upd F.fr D _ b = _ by rw [upd_ne hb]; exact e)
  · have hb : b ≠ D := fun q => e (by rw [q]; exact nb)
    rcases r.al b e with z | ⟨xs, z⟩
    · exact .inl z.2
    · refine .inr ⟨xs, ?_⟩
      rcases z with z | ⟨u, z⟩
      · exact .inl (by rw [ne b hb]; exact z)
      · exact .inr ⟨u, by rw [ne b hb]; exact z⟩
  · by_cases hb : b = D
    · rw [hb]; exact al
    · rw [ne b hb] at e; exact (r.nw b e).2
  · have old := r.cell i c v e1 e2
    have far : ∀ a, (F.keep D o).fr a = none → a ≠ D ∧ F.fr a = none := fun a h => by
      have h : upd F.fr D o a = none := h
      by_cases ha : a = D
      · subst ha; rw [upd_same] at h; cases h
      · rw [upd_ne ha] at h; exact ⟨ha, h⟩
    cases c with
    | no => trivial
    | val d => exact old
    | own m =>
      obtain ⟨a, q1, q2, q3, q4, q5⟩ := old
      obtain ⟨na, f⟩ := far a q4
      exact ⟨a, q1, MAt.mono (Same.refl _) (fun u e => by rw [ne a na]; exact e) q2, q3, f, q5.2⟩
    | io a m =>
      obtain ⟨q1, q2, q3, q4⟩ := old
      obtain ⟨na, f⟩ := far a q4
      exact ⟨q1, MAt.mono (Same.refl _) (fun u e => by rw [ne a na]; exact e) q2, q3, f⟩
    | lck a m =>
      obtain ⟨q1, ob, u, q2, q3⟩ := old
      have q2 : upd F.fr D o a = some (.frz ob u) := q2
      have na : a ≠ D := fun z => by
        rw [z, upd_same] at q2
        cases q2
        exact ho
      rw [upd_ne na] at q2
      exact ⟨q1, ob, u, q2, q3⟩
  · by_cases hb : b = D
    · rw [hb] at e; rw [show sans H D D = none from if_pos rfl] at e; cases e
    · rw [ne b hb] at e; exact e
theorem MAt.obj {Hb H : Hp} {a : Addr} : ∀ {m : M} {k : D → Prop}, frzM m k → MAt K Hb H a m → ∃ o : HO, H a = some o ∧ PL.NoTup o
  | .lst _, _, _, ⟨_, e, _⟩ => ⟨_, e, trivial⟩
  | .dct _, _, _, ⟨_, e, _⟩ => ⟨_, e, trivial⟩
  | .dcu _, _, _, ⟨_, e, _⟩ => ⟨_, e, trivial⟩
  | .dice, _, h, _ => h.elim
/-- makers: a value, or a new object of one's own -/
abbrev DMs := Rho → (List Rs → Rho → Prop) → Prop
def SndMs (K : PySem.W.Frag) (n : Nat) (t : TA) (dm : DMs) : Prop := ∀ (F : Fx) σ H Hb ρ (Q : List V → Hp → Prop) (Qd : List Rs → Rho → Prop), F.K = K → R F σ H Hb ρ → dm ρ Qd →
  (∀ vs rs H' Hb' ρ', Same Hb Hb' → rs.length = n → vs.length = n → PendAt F σ H' Hb' ρ' vs rs → Qd rs ρ' → Q vs H') → t σ H Q
def dmNil : DMs := fun ρ Q => Q [] ρ
theorem sm_nil : SndMs K 0 tNil dmNil := fun F σ H Hb ρ Q Qd hK r h q => q [] [] H Hb ρ (Same.refl _) rfl rfl (fun is H' hl _ s => by
  cases is with
  | nil => exact r.grow ⟨s, Same.refl _, r.sub.trans s, fun _ e => .inl e⟩
  | cons _ _ => cases hl) h
def dmE (de : DE) (dm : DMs) : DMs := fun ρ Q => de ρ fun d ρ1 => dm ρ1 fun rs ρ2 => Q (.v d :: rs) ρ2
theorem sm_e {n : Nat} {t : TE} {u : TA} {de : DE} {dm : DMs} (he : SndE K t de) (hm : SndMs K n u dm) : SndMs K (n + 1) (tCons t u) (dmE de dm) := fun F σ H Hb ρ Q Qd hK r h q => by
  subst hK
  exact he F σ H Hb ρ _ _ rfl r h fun v d H1 Hb1 ρ1 r1 b1 rp h1 => hm F σ H1 Hb1 ρ1 _ _ rfl r1 h1 fun vs rs H2 Hb2 ρ2 b2 l1 l2 pd h2 =>
    q _ (.v d :: rs) H2 Hb2 ρ2 (b1.trans b2) (congrArg Nat.succ l1) (congrArg Nat.succ l2) (fun is H' hl nd s => by
      cases is with
      | nil => cases hl
      | cons i is =>
        have ni := (List.nodup_cons.mp nd).1
        have := (pd is H' (Nat.succ.inj hl) (List.nodup_cons.mp nd).2 s).setV (Rep.mono b2 _ _ rp) i
        show R F (setAll (σ.set i (some v)) is vs) H' Hb2 (setAllR (ρ2.set i (.val d)) is rs)
        rw [setAll_comm ni, setAllR_comm ni]
        exact this) h2
def dmN (dn : DN) (dm : DMs) : DMs := fun ρ Q => dn ρ fun m ρ1 => frzM m fun _ => dm ρ1 fun rs ρ2 => Q (.own m :: rs) ρ2
theorem frzM_const {m : M} {p : Prop} (h : frzM m fun _ => p) : p := by
  cases m <;> first | exact h | exact h.elim
theorem sm_n {n : Nat} {t : TE} {u : TA} {dn : DN} {dm : DMs} (he : SndN K t dn) (hm : SndMs K n u dm) : SndMs K (n + 1) (tCons t u) (dmN dn dm) := fun F σ H Hb ρ Q Qd hK r h q => by
  subst hK
  refine he F σ H Hb ρ _ _ rfl r h fun p m H1 H' Hb1 ρ1 r1 b1 np s hmm h1 => ?_
  obtain ⟨o, eo, no⟩ := MAt.obj h1 hmm
  have h1 := frzM_const h1
  have nf : F.fr p = none := by
    cases e : F.fr p with
    | none => rfl
    | some u => rw [r1.fr _ _ e] at np; cases np
  have al : F.al p := r1.nw p np
  have rk := r1.enterK np s eo
  refine hm (F.keep p o) σ H' Hb1 ρ1 _ _ rfl rk h1 fun vs rs H2 Hb2 ρ2 b2 l1 l2 pd h2 => ?_
  refine q _ (.own m :: rs) H2 Hb2 ρ2 (b1.trans b2) (congrArg Nat.succ l1) (congrArg Nat.succ l2) (fun is H3 hl nd s3 => ?_) h2
  cases is with
  | nil => cases hl
  | cons i is =>
    have ni := (List.nodup_cons.mp nd).1
    obtain ⟨q1, q2, q3, q4⟩ := (pd is H3 (Nat.succ.inj hl) (List.nodup_cons.mp nd).2 s3).leaveK no nf al
    have hm3 : MAt F.K Hb2 H3 p m := MAt.mono b2 (fun u e => by rw [eo] at e; cases e; exact q4) hmm
    have := q1.newM q3 q2 hm3 i
    show R F (setAll (σ.set i (some (.ref p))) is vs) H3 Hb2 (setAllR (ρ2.set i (.own m)) is rs)
    rw [setAll_comm ni, setAllR_comm ni]
    exact this
def dParM (is : List Nat) (dm : DMs) : DS := fun E ρ => dm ρ fun rs ρ1 => E.nx (setAllR ρ1 is rs)
theorem sns_par2 (i j : Nat) {t : TA} {dm : DMs} (h : SndMs K 2 t dm) (hij : i ≠ j := by decide) : SndS K (tPar i j t) (dParM [i, j] dm) := fun F σ H Hb ρ D E hK r hd e =>
  h F σ H Hb ρ _ _ hK r hd fun vs rs H' Hb' ρ' b l1 l2 pd q => by
    match vs, l2 with
    | [v, w], _ => exact ⟨v, w, rfl, e.nx _ H' Hb' _ (pd [i, j] H' l1.symm (by simp [hij]) (Same.refl _)) b q⟩
theorem sns_par3 (i j l : Nat) {t : TA} {dm : DMs} (h : SndMs K 3 t dm) (hij : [i, j, l].Nodup := by decide) : SndS K (tPar3 i j l t) (dParM [i, j, l] dm) := fun F σ H Hb ρ D E hK r hd e =>
  h F σ H Hb ρ _ _ hK r hd fun vs rs H' Hb' ρ' b l1 l2 pd q => by
    match vs, l2 with
    | [v, w, x], _ => exact ⟨v, w, x, rfl, e.nx _ H' Hb' _ (pd [i, j, l] H' l1.symm hij (Same.refl _)) b q⟩
/-- the targets' names in a row -/
inductive GNames : TGs → List Nat → Prop
  | nil : GNames gNil []
  | cons {i : Nat} {u : TGs} {is : List Nat} : GNames u is → GNames (gCons (gName i) u) (i :: is)
theorem GNames.run {u : TGs} {is : List Nat} (g : GNames u is) : ∀ {vs : List V} {σ : L2.St} {H : Hp} {Q : L2.St → Hp → Prop}, vs.length = is.length → Q (setAll σ is vs) H → u vs σ H Q := by
  induction g with
  | nil => exact fun {vs σ H Q} hl q => by cases vs <;> first | exact ⟨rfl, q⟩ | cases hl
  | cons _ ih =>
    intro vs σ H Q hl q
    cases vs with
    | nil => cases hl
    | cons v vs => exact ⟨v, vs, rfl, ih (Nat.succ.inj hl) q⟩
/-- the same by way of a made tuple -/
theorem sns_parT (is : List Nat) {n : Nat} {t : TA} {u : TGs} {dm : DMs} (h : SndMs K n t dm) (g : GNames u is) (hn : is.length = n) (nd : is.Nodup := by decide) (hz : n ≤ 1000 := by decide) : SndS K (tAsg (tTup t) (gTup K n u)) (dParM is dm) := fun F σ H Hb ρ D E hK r hd e =>
  h F σ H Hb ρ _ _ hK r hd fun vs rs H' Hb' ρ' b l1 l2 pd q => by
    refine ⟨by rw [l2, sizeLine_eq]; omega, fun p np => ⟨p, vs, rfl, SqT.of upd_same, l2, g.run (by rw [l2, hn]) ?_⟩⟩
    exact e.nx _ _ Hb' _ (pd is _ (by rw [l1, hn]) nd (same_new np)) b q
def dYes : DT := fun ρ Q => Q true ρ
theorem snd_yes : SndT K tYes dYes := fun F σ H Hb ρ Q Qd hK r h q => q true H Hb ρ r (Same.refl _) h
/-! ### enumerate, zip -/
def enD : Nat → List D → List D
  | _, [] => []
  | i, d :: r => .tup [.int (i : Nat), d] :: enD (i + 1) r
theorem enD_len : ∀ {i : Nat} {ds : List D}, (enD i ds).length = ds.length
  | _, [] => rfl
  | i, d :: r => congrArg Nat.succ enD_len
theorem enD_get : ∀ {k i : Nat} {ds : List D} {x : D}, (enD k ds)[i]? = some x → ∃ d, ds[i]? = some d ∧ x = .tup [.int ((k + i : Nat) : Int), d]
  | k, 0, d :: r, x, h => by cases h; exact ⟨d, rfl, rfl⟩
  | k, i + 1, d :: r, x, h => by
    obtain ⟨e, h1, h2⟩ := enD_get (k := k + 1) (i := i) h
    exact ⟨e, h1, by rw [h2, show k + 1 + i = k + (i + 1) by omega]⟩
theorem enD_at {k i : Nat} {ds : List D} {d : D} (h : ds[i]? = some d) : (enD k ds)[i]? = some (.tup [.int ((k + i : Nat) : Int), d]) := by
  have hi := (List.getElem?_eq_some_iff.mp h).1
  have hi2 : i < (enD k ds).length := by rw [enD_len]; exact hi
  have e : (enD k ds)[i]? = some (enD k ds)[i] := List.getElem?_eq_getElem hi2
  obtain ⟨d', h1, h2⟩ := enD_get e
  rw [h] at h1
  cases h1
  rw [e, h2]
theorem gr_pair {H Hb : Hp} {T : Addr} {x y : V} {d e : D} (s : Same Hb H) (n : H T = none) (hx : Rep K Hb x d) (hy : Rep K Hb y e) : ∃ Hb', Gr H Hb (upd H T (.tup [x, y])) Hb' ∧ Rep K Hb' (.ref T) (.tup [d, e]) := by
  have g := Gr.new (o := .tup [x, y]) s n
  exact ⟨_, g, .tup upd_same (.cons (Rep.mono g.b _ _ hx) (.cons (Rep.mono g.b _ _ hy) .nil))⟩
def dIEnT (da : DA) : DI := fun ρ Q => da ρ fun ds ρ1 => match ds with
  | [.tup xs] => Q (enD 0 xs) ρ1
  | _ => False
theorem sni_enumT {n : Nat} {t : TA} {da : DA} (h : SndA K n t da) : SndI K (iEnumT K t) (dIEnT da) := fun F σ H Hb ρ Rk Qd hK r hd q =>
  h F σ H Hb ρ _ _ hK r hd fun vs ds H' Hb' ρ' r' b rp hl hq => by
    cases rp with
    | nil => exact hq.elim
    | cons h1 h2 =>
      cases h1 with
      | tup t1 t2 =>
        cases h2 with
        | cons _ _ => exact hq.elim
        | nil =>
          rename_i a xs es
          have t1 := SqT.of (K := K) t1
          refine ⟨a, xs, rfl, sT r'.sub t1, q _ _ H' Hb' ρ' r' b ⟨fun i d H Hb1 s1 s2 _ e => ?_, fun i H Hb1 s1 s2 _ e => ⟨xs, sT (s1.trans s2) t1, rfl, by rw [t2.len]; rw [enD_len] at e; exact e⟩⟩ hq⟩
          obtain ⟨d', e1, rfl⟩ := enD_get e
          obtain ⟨v, e2, e3⟩ := t2.get e1
          refine ⟨⟨xs, v, sT (s1.trans s2) t1, e2, rfl⟩, fun x H' ⟨T, y, ex, nT, eH, fy⟩ => ?_⟩
          subst ex eH
          have := fy _ (sT (s1.trans s2) t1)
          rw [e2] at this
          cases this
          rw [Nat.zero_add]
          exact gr_pair s2 nT (.int _) (Rep.mono s1 _ _ e3)
      | _ => exact hq.elim
/-! ### a call that makes a new list -/
def spN (K : PySem.W.Frag) (p : List D → (M → Prop) → Prop) : Sp := fun vs H Q _ => ∃ Hb ds Qd, Same Hb H ∧ RepAll K Hb vs ds ∧ p ds Qd ∧ ∀ q m H', H q = none → Same H H' → MAt K Hb H' q m → Qd m → Q (.ref q) H'
def dCallN (p : List D → (M → Prop) → Prop) (da : DA) : DN := fun ρ Q => da ρ fun ds ρ1 => p ds fun m => Q m ρ1
theorem snd_callN {p : List D → (M → Prop) → Prop} {n : Nat} {t : TA} {da : DA} {E : XK} (h : SndA K n t da) : SndN K (tCall (spN K p) [] E t) (dCallN p da) := fun F σ H Hb ρ Q Qd hK r hd q =>
  h F σ H Hb ρ _ _ hK r hd fun vs ds H1 Hb1 ρ1 r1 b1 ra _ hp => by
    rw [List.append_nil]
    exact ⟨Hb1, ds, _, r1.sub, ra, hp, fun a m H' n s hm hq => q a m H1 H' Hb1 ρ1 r1 b1 n s hm hq⟩
/-! ### promises with the number of arguments told -/
def pdn (n : Nat) (p : PD) : PD := fun as Q => as.length = n ∧ p as Q
def pdi (n : Nat) (p : PI') : PI' := fun m as Q => as.length = n ∧ p m as Q
theorem lenP {n : Nat} {p : PD} {vs : List V} {H : Hp} {Q : VK} {E : XK} (h : spP K (pdn n p) vs H Q E) : vs.length = n := by
  obtain ⟨Hb, ds, Qd, _, ra, hp, _⟩ := h
  rw [ra.len]
  exact hp.1
theorem lenI {n : Nat} {p : PI'} {vs : List V} {H : Hp} {Q : VK} {E : XK} (h : spI K (pdi n p) vs H Q E) : vs.length = n + 1 := by
  obtain ⟨a, us, Hb, m, ds, Qd, rfl, _, _, _, ra, hp, _⟩ := h
  rw [List.length_cons, ra.len, hp.1]
theorem reps_int {Hb : Hp} : ∀ ns : List Int, RepAll K Hb (ns.map V.int) (ns.map D.int)
  | [] => .nil
  | n :: r => .cons (.int n) (reps_int r)
end
/-! ### rules named apart, for comprehensions -/
section
variable {X : Cx} {K : PySem.W.Frag} {w : World}
theorem ix_kdcK (hK : X.K = K) (hw : X.w = w) : IxR X (rIxKD K w) := by
  subst hK hw
  exact ix_kdc
theorem op_inKDK (hK : X.K = K) (hw : X.w = w) : OpR X (compareOp .In) (rInKD K w false) := by
  subst hK hw
  exact op_inKD
theorem op_notInKDK (hK : X.K = K) (hw : X.w = w) : OpR X (compareOp .NotIn) (rInKD K w true) := by
  subst hK hw
  exact op_notInKD
theorem op_eqDK (hK : X.K = K) (hu : X.A.units + 64 < cLine) : OpR X (compareOp .Eq) (rEqD K) := by
  subst hK
  exact op_eqD hu
theorem op_neDK (hK : X.K = K) (hu : X.A.units + 64 < cLine) : OpR X (compareOp .NotEq) (rNeD K) := by
  subst hK
  exact op_neD hu
end
/-! ### ways in the data's reading -/
theorem ifD_t {b : Bool} {p q : Prop} (h : b = true) (hp : p) : ifD b p q := by
  rw [h]
  exact hp
theorem ifD_f {b : Bool} {p q : Prop} (h : b = false) (hq : q) : ifD b p q := by
  rw [h]
  exact hq
theorem ifD2 {b : Bool} {p q : Prop} (h1 : b = true → p) (h2 : b = false → q) : ifD b p q := by
  cases b with
  | true => exact h1 rfl
  | false => exact h2 rfl
theorem ifDd {c : Prop} [Decidable c] {p q : Prop} (h1 : c → p) (h2 : ¬c → q) : ifD (decide c) p q := by
  by_cases h : c
  · rw [decide_eq_true h]; exact h1 h
  · rw [decide_eq_false h]; exact h2 h
theorem ifDn {c : Prop} [Decidable c] {p q : Prop} (h1 : ¬c → p) (h2 : c → q) : ifD (!decide c) p q := by
  by_cases h : c
  · rw [decide_eq_true h]; exact h2 h
  · rw [decide_eq_false h]; exact h1 h
/-- a comprehension of pure elements: what comes of each item -/
theorem lcP_f {g : DG} {dt : DT} {de : DE} {vs : List Nat} {items : List D} {ρ : Rho} {Q : List D → Rho → Prop} (f : D → Option D)
    (h : ∀ x ∈ items, ∀ (N : Rho → Prop) (Y : D → Rho → Prop), (f x = none → N ρ) → (∀ y, f x = some y → Y y ρ) → freeC ρ vs ∧ g x (wipeR ρ vs) fun ρ2 => dt ρ2 fun b ρ3 => ifD b (de ρ3 fun y ρ4 => Y y (backR ρ vs ρ4)) (N (backR ρ vs ρ3)))
    (hd : Q (items.filterMap f) ρ) : lcP g dt de vs items ρ Q := by
  refine ⟨fun i ρ' acc => ρ' = ρ ∧ acc = (items.take i).filterMap f, ⟨rfl, rfl⟩, ?_, ?_⟩
  · rintro i x ρ' acc hx ⟨rfl, rfl⟩
    refine h x (List.mem_of_getElem? hx) (fun r => r = ρ' ∧ _) (fun y r => r = ρ' ∧ _) (fun e => ⟨rfl, ?_⟩) (fun y e => ⟨rfl, ?_⟩)
    · rw [take_snoc f hx, e, Option.toList, List.append_nil]
    · rw [take_snoc f hx, e]; rfl
  · rintro ρ' acc ⟨rfl, rfl⟩
    rw [List.take_length]
    exact hd
/-- [.. for ..], no test: each item's element -/
theorem lcP_m {g : DG} {de : DE} {vs : List Nat} {items : List D} {ρ : Rho} {Q : List D → Rho → Prop} (f : D → D)
    (h : ∀ x ∈ items, ∀ (Y : D → Rho → Prop), Y (f x) ρ → freeC ρ vs ∧ g x (wipeR ρ vs) fun ρ2 => de ρ2 fun y ρ4 => Y y (backR ρ vs ρ4))
    (hd : Q (items.map f) ρ) : lcP g dYes de vs items ρ Q :=
  lcP_f (fun x => some (f x)) (fun x hx N Y _ hY => h x hx Y (hY _ rfl)) (by rw [filterMap_some]; exact hd)
theorem atD {α : Type} {xs : List α} {z : Int} {j : Nat} {v : α} (e : z = (j : Int)) (h : xs[j]? = some v) : atI xs z = some v := by
  subst e
  unfold atI ixN
  have := (List.getElem?_eq_some_iff.mp h).1
  rw [if_pos (by omega), if_pos (by omega)]
  exact h
theorem ixD {n : Nat} {z : Int} {j : Nat} (e : z = (j : Int)) (h : j < n) : ixN n z = some j := by
  subst e
  unfold ixN
  rw [if_pos (by omega), if_pos (by omega)]
  rfl
/-! ### t * k, the tuple told -/
theorem op_repS {X : Cx} : OpR X (binaryOp .Mult) (fun x y H Q => ∃ l k xs, x = .ref l ∧ y = .int k ∧ H l = some (.tup xs) ∧ xs ≠ [] ∧ 0 ≤ k ∧ k ≤ 1000 ∧ xs.length ≤ 1000 ∧ ∀ p H', H' p = some (.tup (List.replicate k.toNat xs).flatten) → (H' = H ∨ (H p = none ∧ H' = upd H p (.tup (List.replicate k.toNat xs).flatten))) → Q (.ref p) H') := by
  intro pins s σ H x y v u Q I rx ry h
  obtain ⟨l, k, xs, e1, e2, hT, hne, h1, h2, hz, q⟩ := h
  by_cases hk : 2 ≤ k
  · exact op_repT pins s σ H x y v u Q I rx ry ⟨l, k, xs, e1, e2, SqT.of hT, hne, hk, h2, hz, fun p n => q p _ upd_same (.inr ⟨n, rfl⟩)⟩
  subst e1 e2
  cases rx
  obtain ⟨t, rfl⟩ := ry
  obtain ⟨its, r, ⟨⟨cls, dd, data, sl⟩, ho, hc, n, hd⟩, hs⟩ := I.tuple (SqT.of hT)
  simp only at hc hd
  subst hc hd
  have hle : its.length = xs.length := r.length.symm
  have hi : its.toArray.isEmpty = false := by
    cases its with
    | nil => exact absurd (List.eq_nil_of_length_eq_zero hle.symm) hne
    | cons a b => rfl
  by_cases h0 : k = 0
  · subst h0
    refine wpAny_binaryOp_repeat_ref (T := "tuple") (U := "int") (by decide) ⟨_, ho, rfl⟩ (fun s' => typeIs_int s' 0 t) noFill_tuple_mul F.fills_int_mul F.slot_int_rmul repeat_tuple F.slot_int_index.lookup
      (call_meets F.slot_int_rmul (typeIs_int s 0 t) F.entry_int_rmul (F.args_int_rmul_2 _ _) (int_rmul_tuple 0 t l its.toArray n dd sl)
        ⟨ho, rfl, ⟨_, ho, rfl⟩, call_meets F.slot_tuple_mul ⟨_, ho, rfl⟩ F.entry_tuple_mul (F.args_tuple_mul_2 _ _) (tuple_mul0 l its.toArray n dd sl t hi) ⟨ho, ?_⟩⟩)
    have fr := I.hok.fresh (Nat.le_refl s.heap.objs.size)
    have new : ObjOk X.prog X.w (upd H s.heap.objs.size (.tup [])) (s.heap.push { cls := .type "tuple", data := .seq #[] }) s.heap.objs.size (.tup []) := ⟨Nat.zero_le _, [], .nil, IsTup.new _ _⟩
    exact ⟨.ref s.heap.objs.size, _, I.laid (t' := s.toks) (o := .tup []) (fun b ob z => Heap.get?_push_of_some _ z) (Nat.le_refl _) new, rfl, q _ _ upd_same (.inr ⟨fr, rfl⟩)⟩
  · have e : k = 1 := by omega
    subst e
    refine wpAny_binaryOp_repeat_ref (T := "tuple") (U := "int") (by decide) ⟨_, ho, rfl⟩ (fun s' => typeIs_int s' 1 t) noFill_tuple_mul F.fills_int_mul F.slot_int_rmul repeat_tuple F.slot_int_index.lookup
      (call_meets F.slot_int_rmul (typeIs_int s 1 t) F.entry_int_rmul (F.args_int_rmul_2 _ _) (int_rmul_tuple 1 t l its.toArray n dd sl)
        ⟨ho, rfl, ⟨_, ho, rfl⟩, call_meets F.slot_tuple_mul ⟨_, ho, rfl⟩ F.entry_tuple_mul (F.args_tuple_mul_2 _ _) (tuple_mul1 l its.toArray n dd sl t) ⟨ho, ?_⟩⟩)
    have e1 : (List.replicate (1 : Int).toNat xs).flatten = xs := by
      show (List.replicate 1 xs).flatten = xs
      simp
    exact ⟨.ref l, H, I.tok _, rfl, q l H (by rw [e1]; exact hT) (.inl rfl)⟩
section
variable {X : Cx} {K : PySem.W.Frag}
theorem call_tupleSK (hK : X.K = K) : CallR X (.type "tuple") (fun xs H Q => ∃ p ys, xs = [.ref p] ∧ ((SqL K H p ys ∧ ∀ l, H l = none → Q (.ref l) (upd H l (.tup ys))) ∨ (SqT K H p ys ∧ Q (.ref p) H))) := by
  subst hK
  exact call_tuple_of
theorem sl_tupleSK (hK : X.K = K) : L2.SlR X (rSlA K) := by
  subst hK
  exact sl_tupA
theorem op_catSK (hK : X.K = K) : OpR X (binaryOp .Add) (rCatA K) := by
  subst hK
  exact op_catA
end
end PL
namespace PL
open PySem PySem.Spec PyProof.Rows L2 TB
section
variable {K : PySem.W.Frag}
/-! ### range with a step; list(range(..)) -/
def rngC (lo c : Int) (n : Nat) : List D := (List.range n).map fun i => .int (lo + (i : Nat) * c)
theorem rngC_len {lo c : Int} {n : Nat} : (rngC lo c n).length = n := by unfold rngC; rw [List.length_map, List.length_range]
theorem rngC_get {lo c : Int} {n i : Nat} {d : D} (h : (rngC lo c n)[i]? = some d) : i < n ∧ d = .int (lo + i * c) := by
  unfold rngC at h
  rw [List.getElem?_map] at h
  by_cases hi : i < n
  · rw [List.getElem?_range hi] at h
    cases h
    exact ⟨hi, rfl⟩
  · rw [List.getElem?_eq_none (by rw [List.length_range]; omega)] at h
    cases h
theorem jat_rngC {lo c : Int} {n : Nat} {Hb fr : Hp} : JAt K (Itc lo c n) Hb fr (rngC lo c n) := ⟨fun i d H Hb1 s1 s2 _ e => by
  obtain ⟨h1, rfl⟩ := rngC_get e
  exact ⟨h1, fun x H' ⟨y1, y2⟩ => by subst y1 y2; exact ⟨Hb1, Gr.refl s2, .int _⟩⟩, fun i H Hb1 s1 s2 _ e => by rw [rngC_len] at e; exact e⟩
def dIRng3 (da : DA) : DI := fun ρ Q => da ρ fun ds ρ1 => match ds with
  | [.int i, .int j, .int c] => ∃ n, RgC i j c n ∧ Q (rngC i c n) ρ1
  | _ => False
theorem sni_rng3 {n : Nat} {t : TA} {da : DA} (h : SndA K n t da) : SndI K (iRng3 t) (dIRng3 da) := fun F σ H Hb ρ Rk Qd hK r hd q =>
  h F σ H Hb ρ _ _ hK r hd fun vs ds H' Hb' ρ' r' b rp hl hq => by
    match ds, rp, hq with
    | [.int i, .int j, .int c], rp, ⟨n, hr, hq⟩ =>
      cases rp with
      | cons h1 h2 =>
        cases h2 with
        | cons h3 h4 =>
          cases h4 with
          | cons h5 h6 =>
            cases h6
            cases h1
            cases h3
            cases h5
            exact ⟨i, j, c, n, rfl, hr, q _ _ H' Hb' ρ' r' b jat_rngC hq⟩
theorem rg_rep {Hb : Hp} (a b : Int) : RepAll K Hb (rgV a b) (rngD a (b - a).toNat) := by
  unfold rgV rngD
  induction List.range (b - a).toNat with
  | nil => exact .nil
  | cons i r ih => exact .cons (.int _) ih
def dLstRg1 (de : DE) : DN := fun ρ Q => de ρ fun d ρ1 => int1 d fun j => RgOk 0 j ∧ Q (.lst (rngD 0 (j - 0).toNat)) ρ1
theorem snd_lstRg1 {t : TE} {de : DE} (h : SndE K t de) : SndN K (tLstRg (tRg1 t)) (dLstRg1 de) := fun F σ H Hb ρ Q Qd hK r hd q => by
  subst hK
  refine h F σ H Hb ρ _ _ rfl r hd fun v d H' Hb' ρ' r' b rp hq => ?_
  obtain ⟨j, rfl, ok, hq⟩ := int1_ok hq
  cases rp
  exact ⟨j, rfl, ok, fun p n => q p (.lst (rngD 0 (j - 0).toNat)) H' _ Hb' ρ' r' b n (same_new n) ⟨_, upd_same, rg_rep 0 j⟩ hq⟩
def dTupRg1 (de : DE) : DE := fun ρ Q => de ρ fun d ρ1 => int1 d fun j => RgOk 0 j ∧ Q (.tup (rngD 0 (j - 0).toNat)) ρ1
theorem snd_tupRg1 {t : TE} {de : DE} (h : SndE K t de) : SndE K (tTupRg (tRg1 t)) (dTupRg1 de) := fun F σ H Hb ρ Q Qd hK r hd q => by
  subst hK
  refine h F σ H Hb ρ _ _ rfl r hd fun v d H' Hb' ρ' r' b rp hq => ?_
  obtain ⟨j, rfl, ok, hq⟩ := int1_ok hq
  cases rp
  refine ⟨j, rfl, ok, fun p n => ?_⟩
  have g := Gr.new (o := .tup (rgV 0 j)) r'.sub n
  exact q _ _ _ _ ρ' (r'.grow g) (b.trans g.b) (.tup upd_same (rg_rep 0 j)) hq
/-! ### arguments with stars -/
def SndU (K : PySem.W.Frag) (t : TA) (da : DA) : Prop := ∀ (F : Fx) σ H Hb ρ (Q : List V → Hp → Prop) (Qd : List D → Rho → Prop), F.K = K → R F σ H Hb ρ → da ρ Qd →
  (∀ vs ds H' Hb' ρ', R F σ H' Hb' ρ' → Same Hb Hb' → RepAll K Hb' vs ds → Qd ds ρ' → Q vs H') → t σ H Q
theorem snu_nil : SndU K tNil dNilA := fun F σ H Hb ρ Q Qd hK r h q => q [] [] H Hb ρ r (Same.refl _) .nil h
theorem snu_cons {t : TE} {u : TA} {a : DE} {b : DA} (ha : SndE K t a) (hb : SndU K u b) : SndU K (tCons t u) (dConsA a b) := fun F σ H Hb ρ Q Qd hK r h q =>
  ha F σ H Hb ρ _ _ hK r h fun v d H1 Hb1 ρ1 r1 b1 p1 q1 => hb F σ H1 Hb1 ρ1 _ _ hK r1 q1 fun vs ds H2 Hb2 ρ2 r2 b2 p2 q2 => q _ _ H2 Hb2 ρ2 r2 (b1.trans b2) (.cons (Rep.mono b2 _ _ p1) p2) q2
def dStarA (a : Opd) (r : DA) : DA := fun ρ Q => a.run ρ fun p ρ1 => p.res ρ1 fun d => optD (items d) fun xs => r ρ1 fun ds ρ2 => Q (xs ++ ds) ρ2
theorem snu_star {t : TE} {u : TA} {a : Opd} {b : DA} (ha : SndO K t a) (hb : SndU K u b) : SndU K (StX.tStar K t u) (dStarA a b) := fun F σ H Hb ρ Q Qd hK r h q => by
  subst hK
  refine SndO.use (t := t) rfl r ha h fun v p H1 Hb1 ρ1 r1 b1 o1 h1 => ?_
  obtain ⟨d, vd, h2⟩ := OpAt.res r1 o1 h1
  obtain ⟨xs, ex, h2⟩ := optD_ok h2
  obtain ⟨a, us, rfl, hs, ra⟩ := vd.items r1.sub ex
  refine ⟨a, us, rfl, hs.symm, hb F σ H1 Hb1 ρ1 _ _ rfl r1 h2 fun vs ds H2 Hb2 ρ2 r2 b2 p2 q2 => ?_⟩
  exact q _ _ H2 Hb2 ρ2 r2 (b1.trans b2) ((RepAll.mono b2 _ _ ra).append p2) q2
def dTupU (da : DA) : DE := fun ρ Q => da ρ fun ds ρ1 => ds.length ≤ 1000000 ∧ Q (.tup ds) ρ1
theorem snd_tupU {t : TA} {da : DA} (h : SndU K t da) : SndE K (tTup t) (dTupU da) := fun F σ H Hb ρ Q Qd hK r hd q => by
  subst hK
  refine h F σ H Hb ρ _ _ rfl r hd fun vs ds H1 Hb1 ρ1 r1 b1 ra hq => ⟨by rw [ra.len, sizeLine_eq]; have := hq.1; omega, fun p n => ?_⟩
  have g := Gr.new (o := .tup vs) r1.sub n
  exact q _ (.tup ds) _ _ ρ1 (r1.grow g) (b1.trans g.b) (.tup upd_same (RepAll.mono g.b _ _ ra)) hq.2
/-! ### xs[::-1] -/
def dRevL (a : Opd) : DN := fun ρ Q => a.run ρ fun p ρ1 => p.res ρ1 fun d => lst1 d fun xs => Q (.lst xs.reverse) ρ1
theorem snd_revLN {t : TE} {a : Opd} (ha : SndO K t a) : SndN K (tRevLA K t) (dRevL a) := fun F σ H Hb ρ Q Qd hK r h q => by
  subst hK
  refine SndO.use (t := t) rfl r ha h fun v p H1 Hb1 ρ1 r1 b1 o1 h1 => ?_
  obtain ⟨d, vd, h2⟩ := OpAt.res r1 o1 h1
  obtain ⟨xs, rfl, h2⟩ := lst1_ok h2
  obtain ⟨a, us, rfl, e, ra⟩ := vd.lst' r1.sub
  exact ⟨a, us, rfl, SqL.of e, fun p H' s e n => q p (.lst xs.reverse) H1 H' Hb1 ρ1 r1 b1 n s ⟨_, e, ra.reverse⟩ h2⟩
/-! ### max, min of a list -/
def fMax (ds : List D) (k : D → Prop) : Prop := arg1 ds fun d => lst1 d fun xs => optD (intL xs) fun ns => ns ≠ [] ∧ ∀ m, m ∈ ns → (∀ y, y ∈ ns → y ≤ m) → k (.int m)
theorem s_max : CallS K (rMax K) fMax := fun H Hb vs ds Q Qd s hv h q => by
  obtain ⟨v, d, rfl, rfl, vd, h⟩ := hv.one h
  obtain ⟨xs, rfl, h⟩ := lst1_ok h
  obtain ⟨ns, e, n0, h⟩ := optD_ok h
  obtain ⟨a, us, rfl, h1, h2⟩ := vd.lst' s
  cases intL_rep h2 e
  exact ⟨a, ns, rfl, SqL.of h1, List.length_pos_iff.mpr n0, fun m hm hy => q _ _ H Hb (Gr.refl s) (.int _) (h m hm hy)⟩
def fMin (ds : List D) (k : D → Prop) : Prop := arg1 ds fun d => lst1 d fun xs => optD (intL xs) fun ns => ns ≠ [] ∧ ∀ m, m ∈ ns → (∀ y, y ∈ ns → m ≤ y) → k (.int m)
theorem s_min : CallS K (rMin K) fMin := fun H Hb vs ds Q Qd s hv h q => by
  obtain ⟨v, d, rfl, rfl, vd, h⟩ := hv.one h
  obtain ⟨xs, rfl, h⟩ := lst1_ok h
  obtain ⟨ns, e, n0, h⟩ := optD_ok h
  obtain ⟨a, us, rfl, h1, h2⟩ := vd.lst' s
  cases intL_rep h2 e
  exact ⟨a, ns, rfl, SqL.of h1, List.length_pos_iff.mpr n0, fun m hm hy => q _ _ H Hb (Gr.refl s) (.int _) (h m hm hy)⟩
/-! ### shifts -/
def nat1 : Int → (Nat → Prop) → Prop
  | .ofNat n, k => k n
  | _, _ => False
theorem nat1_ok {i : Int} {k : Nat → Prop} (h : nat1 i k) : ∃ n : Nat, i = (n : Int) ∧ k n := by
  cases i with
  | ofNat n => exact ⟨n, rfl, h⟩
  | negSucc n => exact h.elim
theorem nat1_of {k : Nat → Prop} {n : Nat} {i : Int} (e : i = (n : Int)) (h : k n) : nat1 i k := by subst e; exact h
def fShr (d e : D) (k : D → Prop) : Prop := int2 d e fun i j => ∃ n : Nat, j = (n : Int) ∧ k (.int (i / 2 ^ n))
theorem s_shrN : OpS K (fun x y H Q => ∃ (i : Int) (k : Nat), x = .int i ∧ y = .int (k : Int) ∧ Q (.int (i / 2 ^ k)) H) fShr := fun H Hb v w d e Q Qd s hv hw h q => by
  obtain ⟨i, j, rfl, rfl, n, rfl, h2⟩ := int2_ok h
  cases hv.int
  cases hw.int
  exact ⟨i, n, rfl, rfl, q _ _ H Hb (Gr.refl s) (.int _) h2⟩
def fShl (d e : D) (k : D → Prop) : Prop := int2 d e fun i j => ∃ n : Nat, j = (n : Int) ∧ CShl i (n : Int) ∧ k (.int (i * 2 ^ n))
theorem s_shlN : OpS K (fun x y H Q => ∃ (i : Int) (k : Nat), x = .int i ∧ y = .int (k : Int) ∧ CShl i (k : Int) ∧ Q (.int (i * 2 ^ k)) H) fShl := fun H Hb v w d e Q Qd s hv hw h q => by
  obtain ⟨i, j, rfl, rfl, n, rfl, c, h2⟩ := int2_ok h
  cases hv.int
  cases hw.int
  exact ⟨i, n, rfl, rfl, c, q _ _ H Hb (Gr.refl s) (.int _) h2⟩
def fOneShl (d e : D) (k : D → Prop) : Prop := int2 d e fun i j => i = 1 ∧ ∃ n : Nat, j = (n : Int) ∧ n ≤ 134217727 ∧ k (.int (2 ^ n))
theorem s_oneShl : OpS K (fun x y H Q => ∃ k : Nat, x = .int 1 ∧ y = .int (k : Int) ∧ k ≤ 134217727 ∧ Q (.int (2 ^ k)) H) fOneShl := fun H Hb v w d e Q Qd s hv hw h q => by
  obtain ⟨i, j, rfl, rfl, rfl, n, rfl, c, h2⟩ := int2_ok h
  cases hv.int
  cases hw.int
  exact ⟨n, rfl, rfl, c, q _ _ H Hb (Gr.refl s) (.int _) h2⟩
/-! ### x op= e, by any operator -/
def dAugO (i : Nat) (f : D → D → (D → Prop) → Prop) (de : DE) : DS := fun E ρ => cellV ρ[i]? fun x => de ρ fun y ρ1 => f x y fun z => E.nx (ρ1.set i (.val z))
theorem sns_augO (i : Nat) {r : R2} {f : D → D → (D → Prop) → Prop} {t : TE} {de : DE} (hr : OpS K r f) (h : SndE K t de) : SndS K (tAug i t r) (dAugO i f de) := fun F σ H Hb ρ D E hK rr hd e => by
  subst hK
  unfold dAugO at hd
  cases e1 : ρ[i]? with
  | none => rw [e1] at hd; exact hd.elim
  | some c =>
    rw [e1] at hd
    cases c with
    | val d =>
      obtain ⟨v, h1, h2⟩ := rr.val e1
      refine ⟨v, h1, h F σ H Hb ρ _ _ rfl rr hd fun w y H1 Hb1 ρ1 r1 b1 p1 q1 => ?_⟩
      exact hr H1 Hb1 v w d y _ _ r1.sub (.rep (Rep.mono b1 _ _ h2)) (.rep p1) q1 fun u x H2 Hb2 g rp hq => e.nx _ H2 Hb2 _ ((r1.grow g).setV rp i) (b1.trans g.b) hq
    | _ => exact hd.elim
/-! ### enumerate(list) -/
def dIEnL (da : DA) : DI := fun ρ Q => da ρ fun ds ρ1 => match ds with
  | [.lst xs] => Q (enD 0 xs) ρ1
  | _ => False
theorem sni_enum {n : Nat} {t : TA} {da : DA} (h : SndA K n t da) : SndI K (iEnum K t) (dIEnL da) := fun F σ H Hb ρ Rk Qd hK r hd q =>
  h F σ H Hb ρ _ _ hK r hd fun vs ds H' Hb' ρ' r' b rp hl hq => by
    cases rp with
    | nil => exact hq.elim
    | cons h1 h2 =>
      cases h1 with
      | lst t1 t2 =>
        cases h2 with
        | cons _ _ => exact hq.elim
        | nil =>
          rename_i a xs es
          have t1 := SqL.of (K := K) t1
          refine ⟨a, xs, rfl, r'.sub.seq t1, q _ _ H' Hb' ρ' r' b ⟨fun i d H Hb1 s1 s2 _ e => ?_, fun i H Hb1 s1 s2 _ e => ⟨xs, (s1.trans s2).seq t1, by rw [t2.len]; rw [enD_len] at e; exact e⟩⟩ hq⟩
          obtain ⟨d', e1, rfl⟩ := enD_get e
          obtain ⟨v, e2, e3⟩ := t2.get e1
          refine ⟨⟨xs, v, (s1.trans s2).seq t1, e2⟩, fun x H' ⟨T, y, ex, nT, eH, fy⟩ => ?_⟩
          subst ex eH
          have := fy _ ((s1.trans s2).seq t1)
          rw [e2] at this
          cases this
          rw [Nat.zero_add]
          exact gr_pair s2 nT (.int _) (Rep.mono s1 _ _ e3)
      | _ => exact hq.elim
end
end PL
namespace PL
open PySem PySem.Spec PyProof.Rows L2 TB
/-! ### tables as data -/
section
variable {κ : Type} [DecidableEq κ]
def lookD (es : List (κ × D)) (k : κ) : Option D := match es with
  | [] => none
  | (j, d) :: r => if j = k then some d else lookD r k
def hasD (es : List (κ × D)) (k : κ) : Bool := (lookD es k).isSome
def putD (es : List (κ × D)) (k : κ) (d : D) : List (κ × D) := if hasD es k = true then es.map (fun p => if p.1 = k then (p.1, d) else p) else es ++ [(k, d)]
end
section
variable {K : PySem.W.Frag} {Hb : Hp}
theorem RepKV.look : ∀ {kvs : List (Key × V)} {es : List (Key × D)} (k : Key), RepKV K Hb kvs es → (∃ v d, valV kvs k = some v ∧ lookD es k = some d ∧ Rep K Hb v d) ∨ (valV kvs k = none ∧ lookD es k = none)
  | _, _, k, .nil => .inr ⟨rfl, rfl⟩
  | _, _, k, .cons (k := j) (v := v) (d := d) h t => by
    unfold lookD
    by_cases e : j = k
    · exact .inl ⟨v, d, valV_pos (p := (j, v)) e, if_pos e, h⟩
    · rw [if_neg e, valV_neg (p := (j, v)) e]
      exact t.look k
theorem RepKT.look : ∀ {kvs : List (List Key × V)} {es : List (List Key × D)} (k : List Key), RepKT K Hb kvs es → (∃ v d, valV kvs k = some v ∧ lookD es k = some d ∧ Rep K Hb v d) ∨ (valV kvs k = none ∧ lookD es k = none)
  | _, _, k, .nil => .inr ⟨rfl, rfl⟩
  | _, _, k, .cons (k := j) (v := v) (d := d) h t => by
    unfold lookD
    by_cases e : j = k
    · exact .inl ⟨v, d, valV_pos (p := (j, v)) e, if_pos e, h⟩
    · rw [if_neg e, valV_neg (p := (j, v)) e]
      exact t.look k
theorem RepKV.len : ∀ {kvs : List (Key × V)} {es : List (Key × D)}, RepKV K Hb kvs es → kvs.length = es.length
  | _, _, .nil => rfl
  | _, _, .cons _ t => congrArg Nat.succ t.len
theorem RepKT.len : ∀ {kvs : List (List Key × V)} {es : List (List Key × D)}, RepKT K Hb kvs es → kvs.length = es.length
  | _, _, .nil => rfl
  | _, _, .cons _ t => congrArg Nat.succ t.len
theorem RepKV.snoc {k : Key} {v : V} {d : D} (h : Rep K Hb v d) : ∀ {kvs : List (Key × V)} {es : List (Key × D)}, RepKV K Hb kvs es → RepKV K Hb (kvs ++ [(k, v)]) (es ++ [(k, d)])
  | _, _, .nil => .cons h .nil
  | _, _, .cons h1 t => .cons h1 (RepKV.snoc h t)
theorem RepKT.snoc {k : List Key} {v : V} {d : D} (h : Rep K Hb v d) : ∀ {kvs : List (List Key × V)} {es : List (List Key × D)}, RepKT K Hb kvs es → RepKT K Hb (kvs ++ [(k, v)]) (es ++ [(k, d)])
  | _, _, .nil => .cons h .nil
  | _, _, .cons h1 t => .cons h1 (RepKT.snoc h t)
theorem RepKV.upd {k : Key} {v : V} {d : D} (h : Rep K Hb v d) : ∀ {kvs : List (Key × V)} {es : List (Key × D)}, RepKV K Hb kvs es → RepKV K Hb (kvs.map fun kv => if kv.1 = k then (kv.1, v) else kv) (es.map fun p => if p.1 = k then (p.1, d) else p)
  | _, _, .nil => .nil
  | _, _, .cons (k := j) h1 t => by
    rw [List.map_cons, List.map_cons]
    by_cases e : j = k
    · rw [if_pos e, if_pos e]; exact .cons h (t.upd h)
    · rw [if_neg e, if_neg e]; exact .cons h1 (t.upd h)
theorem RepKT.upd {k : List Key} {v : V} {d : D} (h : Rep K Hb v d) : ∀ {kvs : List (List Key × V)} {es : List (List Key × D)}, RepKT K Hb kvs es → RepKT K Hb (kvs.map fun kv => if kv.1 = k then (kv.1, v) else kv) (es.map fun p => if p.1 = k then (p.1, d) else p)
  | _, _, .nil => .nil
  | _, _, .cons (k := j) h1 t => by
    rw [List.map_cons, List.map_cons]
    by_cases e : j = k
    · rw [if_pos e, if_pos e]; exact .cons h (t.upd h)
    · rw [if_neg e, if_neg e]; exact .cons h1 (t.upd h)
theorem RepKV.put {k : Key} {v : V} {d : D} {kvs : List (Key × V)} {es : List (Key × D)} (r : RepKV K Hb kvs es) (h : Rep K Hb v d) : RepKV K Hb (putK kvs k v) (putD es k d) := by
  unfold putK putD hasD
  rw [valV_any]
  rcases r.look k with ⟨u, x, e1, e2, _⟩ | ⟨e1, e2⟩
  · rw [e1, e2]; exact r.upd h
  · rw [e1, e2]; exact r.snoc h
theorem RepKT.put {k : List Key} {v : V} {d : D} {kvs : List (List Key × V)} {es : List (List Key × D)} (r : RepKT K Hb kvs es) (h : Rep K Hb v d) : RepKT K Hb (putK kvs k v) (putD es k d) := by
  unfold putK putD hasD
  rw [valV_any]
  rcases r.look k with ⟨u, x, e1, e2, _⟩ | ⟨e1, e2⟩
  · rw [e1, e2]; exact r.upd h
  · rw [e1, e2]; exact r.snoc h
end
/-! ### keys -/
def keyF : D → Option Key
  | .int i => some (.inl i)
  | .str x => some (.inr x)
  | _ => none
def keyFs : List D → Option (List Key)
  | [] => some []
  | d :: r => match keyF d, keyFs r with
    | some k, some ks => some (k :: ks)
    | _, _ => none
section
variable {K : PySem.W.Frag} {Hb H : Hp}
theorem Rep.keyF {v : V} {d : D} {k : Key} (h : Rep K Hb v d) (e : PL.keyF d = some k) : v = kV k := by
  cases d <;> cases e <;> (cases h; rfl)
theorem View.keyF {v : V} {d : D} {k : Key} (h : View K Hb H v d) (e : PL.keyF d = some k) : v = kV k := by
  cases d <;> cases e
  · exact h.int
  · exact h.str
theorem RepAll.keyFs : ∀ {ds : List D} {vs : List V} {ks : List Key}, RepAll K Hb vs ds → PL.keyFs ds = some ks → vs = ks.map kV
  | [], _, _, h, e => by cases h; cases e; rfl
  | d :: r, _, ks, h, e => by
    cases h with
    | cons h1 h2 =>
      unfold PL.keyFs at e
      cases e1 : PL.keyF d with
      | none => rw [e1] at e; cases e
      | some u =>
        cases e2 : PL.keyFs r with
        | none => rw [e1, e2] at e; cases e
        | some us =>
          rw [e1, e2] at e
          cases e
          rw [h1.keyF e1, RepAll.keyFs h2 e2]
          rfl
end
/-- what a dict holds at a key -/
def dgetD (d k : D) : Option (Option D) := match d with
  | .dct es => (keyF k).map (lookD es)
  | .dcu es => match k with
    | .tup ks => (keyFs ks).map (lookD es)
    | _ => none
  | _ => none
section
variable {K : PySem.W.Frag} {Hb H : Hp}
theorem dgetD_ok {v w : V} {d k : D} {r : Option D} (s : Same Hb H) (hv : View K Hb H v d) (hw : View K Hb H w k) (e : dgetD d k = some r) : ∃ a o, v = .ref a ∧ DGet H a w o ∧ ((∃ u x, o = some u ∧ r = some x ∧ Rep K Hb u x) ∨ (o = none ∧ r = none)) := by
  cases d with
  | dct es =>
    obtain ⟨a, kvs, rfl, h1, h2⟩ := hv.dct' s
    have e : (PL.keyF k).map (lookD es) = some r := e
    cases ek : PL.keyF k with
    | none => rw [ek] at e; cases e
    | some j =>
      rw [ek] at e
      cases e
      have ew := hw.keyF ek
      refine ⟨a, valV kvs j, rfl, .inl ⟨kvs, j, h1, ew, rfl⟩, ?_⟩
      rcases h2.look j with ⟨u, x, q1, q2, q3⟩ | ⟨q1, q2⟩
      · exact .inl ⟨u, x, q1, q2, q3⟩
      · exact .inr ⟨q1, q2⟩
  | dcu es =>
    obtain ⟨a, kvs, rfl, h1, h2⟩ := hv.dcu' s
    cases k with
    | tup ks =>
      have e : (PL.keyFs ks).map (lookD es) = some r := e
      cases ek : PL.keyFs ks with
      | none => rw [ek] at e; cases e
      | some j =>
        rw [ek] at e
        cases e
        obtain ⟨b, vs, rfl, q4, _, q5⟩ := hw.tupS s
        have ew := q5.keyFs ek
        subst ew
        refine ⟨a, valV kvs j, rfl, .inr ⟨kvs, j, b, h1, rfl, q4, rfl⟩, ?_⟩
        rcases h2.look j with ⟨u, x, q1, q2, q3⟩ | ⟨q1, q2⟩
        · exact .inl ⟨u, x, q1, q2, q3⟩
        · exact .inr ⟨q1, q2⟩
    | _ => cases e
  | _ => cases e
def dDGet (a b : Opd) : DE := fun ρ Q => a.run ρ fun p ρ1 => b.run ρ1 fun q ρ2 => p.res ρ2 fun d => q.res ρ2 fun k => optD (dgetD d k) fun r => optD r fun x => Q x ρ2
theorem snd_dget {ta tb : TE} {a b : Opd} (ha : SndO K ta a) (hb : SndO K tb b) : SndE K (tDGet ta tb) (dDGet a b) := fun F σ H Hb ρ Q Qd hK rr h q => by
  subst hK
  refine SndO.use (t := ta) rfl rr ha h fun v p H1 Hb1 ρ1 r1 b1 o1 h1 => ?_
  refine SndO.use (t := tb) rfl r1 hb h1 fun w p2 H2 Hb2 ρ2 r2 b2 o2 h2 => ?_
  obtain ⟨d, vd, h3⟩ := OpAt.res r2 (o1.mono b2) h2
  obtain ⟨k, vk, h4⟩ := OpAt.res r2 o2 h3
  obtain ⟨r, er, h5⟩ := optD_ok h4
  obtain ⟨x, ex, h6⟩ := optD_ok h5
  obtain ⟨a', o, rfl, g, z⟩ := dgetD_ok r2.sub vd vk er
  rcases z with ⟨u, y, eo, ey, ru⟩ | ⟨_, ey⟩
  · subst eo ey
    cases ex
    exact ⟨a', u, rfl, g, q u _ H2 Hb2 ρ2 r2 (b1.trans b2) ru h6⟩
  · rw [ey] at ex; cases ex
def dDIn (neg : Bool) (b a : Opd) : DE := fun ρ Q => b.run ρ fun q ρ1 => a.run ρ1 fun p ρ2 => q.res ρ2 fun k => p.res ρ2 fun d => optD (dgetD d k) fun r => Q (.bl (if neg then !r.isSome else r.isSome)) ρ2
theorem dIn_core {F : Fx} {σ : L2.St} {H Hb : Hp} {ρ : Rho} {ta tb : TE} {a b : Opd} {neg : Bool} {Qd : D → Rho → Prop} {Q : VK} (ha : SndO F.K ta a) (hb : SndO F.K tb b) (rr : R F σ H Hb ρ) (h : dDIn neg b a ρ Qd) (q : ∀ v d H' Hb' ρ', R F σ H' Hb' ρ' → Same Hb Hb' → Rep F.K Hb' v d → Qd d ρ' → Q v H') :
    tb σ H fun y H1 => ta σ H1 fun x H2 => ∃ a o, x = .ref a ∧ DGet H2 a y o ∧ Q (.bl (if neg then !o.isSome else o.isSome)) H2 := by
  refine SndO.use (t := tb) rfl rr hb h fun w p H1 Hb1 ρ1 r1 b1 o1 h1 => ?_
  show ta σ H1 fun x H2 => ∃ a o, x = .ref a ∧ DGet H2 a w o ∧ Q (.bl (if neg then !o.isSome else o.isSome)) H2
  refine SndO.use (t := ta) rfl r1 ha h1 fun v p2 H2 Hb2 ρ2 r2 b2 o2 h2 => ?_
  obtain ⟨k, vk, h3⟩ := OpAt.res r2 (o1.mono b2) h2
  obtain ⟨d, vd, h4⟩ := OpAt.res r2 o2 h3
  obtain ⟨r, er, h5⟩ := optD_ok h4
  obtain ⟨a', o, rfl, g, z⟩ := dgetD_ok r2.sub vd vk er
  refine ⟨a', o, rfl, g, q _ _ H2 Hb2 ρ2 r2 (b1.trans b2) ?_ h5⟩
  rcases z with ⟨u, y, eo, ey, ru⟩ | ⟨eo, ey⟩
  · subst eo ey; exact .bl _
  · subst eo ey; exact .bl _
theorem snd_din {ta tb : TE} {a b : Opd} (hb : SndO K tb b) (ha : SndO K ta a) : SndE K (tDIn tb ta) (dDIn false b a) := fun F σ H Hb ρ Q Qd hK rr h q => by
  subst hK
  exact dIn_core (neg := false) ha hb rr h q
theorem snd_dnotin {ta tb : TE} {a b : Opd} (hb : SndO K tb b) (ha : SndO K ta a) : SndE K (tDNotIn tb ta) (dDIn true b a) := fun F σ H Hb ρ Q Qd hK rr h q => by
  subst hK
  exact dIn_core (neg := true) ha hb rr h q
/-! ### new dicts, stores -/
def dNewK : DN := fun ρ Q => Q (.dct []) ρ
theorem snd_dnewK : SndN K tDNewK dNewK := fun F σ H Hb ρ Q Qd hK r h q p n => q p (.dct []) H _ Hb ρ r (Same.refl _) n (same_new n) ⟨[], upd_same, .nil⟩ h
def dNewT : DN := fun ρ Q => Q (.dcu []) ρ
theorem snd_dnewT : SndN K tDNewT dNewT := fun F σ H Hb ρ Q Qd hK r h q p n => q p (.dcu []) H _ Hb ρ r (Same.refl _) n (same_new n) ⟨[], upd_same, .nil⟩ h
def dputM (m : M) (k d : D) : Option M := match m with
  | .dct es => (keyF k).map fun j => .dct (putD es j d)
  | .dcu es => match k with
    | .tup ks => (keyFs ks).map fun j => .dcu (putD es j d)
    | _ => none
  | _ => none
def szM : M → Nat
  | .dct es => es.length
  | .dcu es => es.length
  | _ => 0
def dDPut (i : Nat) (dk dv : DE) : DS := fun E ρ => dv ρ fun v ρ1 => mineC ρ1[i]? (dk ρ1 fun k ρ2 => cellM ρ2[i]? fun c m => szM m ≤ 1000000 ∧ optD (dputM m k v) fun m' => E.nx (ρ2.set i (c.put m')))
theorem sns_dput (i : Nat) {ty tv : TE} {dk dv : DE} (hk : SndE K ty dk) (hv : SndE K tv dv) : SndS K (sDPut (tVar i) ty tv) (dDPut i dk dv) := fun F σ H Hb ρ D E hK rr h e => by
  subst hK
  refine hv F σ H Hb ρ _ _ rfl rr h fun v d H1 Hb1 ρ1 r1 b1 rv h1 => ?_
  obtain ⟨c0, e0, m0, h1⟩ := mineC_ok h1
  obtain ⟨a, _, es, _⟩ := r1.mine e0 m0
  refine ⟨_, es, hk F σ H1 Hb1 ρ1 _ _ rfl r1 h1 fun y k H2 Hb2 ρ2 r2 b2 rk h2 => ?_⟩
  obtain ⟨c, m, e1, g1, hz, h2⟩ := cellM_ok h2
  obtain ⟨m', em, h2⟩ := optD_ok h2
  obtain ⟨a', es', hm, nb, nf⟩ := r2.mineG e1 g1
  rw [es] at es'
  cases es'
  have rv2 := Rep.mono b2 _ _ rv
  have fin : ∀ o, MAt F.K Hb2 (upd H2 a o) a m' → D.nx σ (upd H2 a o) := fun o ho => e.nx _ _ Hb2 _ (r2.mut e1 (getM g1) es (fun b o n eb => by rw [upd_ne n]; exact eb) ho) (b1.trans b2) h2
  cases m with
  | dct xs =>
    have em : (keyF k).map (fun j => M.dct (putD xs j d)) = some m' := em
    cases ek : keyF k with
    | none => rw [ek] at em; cases em
    | some j =>
      rw [ek] at em
      cases em
      obtain ⟨kvs, q1, q2⟩ := hm
      have ey := rk.keyF ek
      subst ey
      exact ⟨a, _, rfl, .inl ⟨kvs, j, q1, rfl, by rw [q2.len, sizeLine_eq]; have : xs.length ≤ 1000000 := hz; omega, rfl⟩, fin _ ⟨_, upd_same, q2.put rv2⟩⟩
  | dcu xs =>
    cases k with
    | tup ks =>
      have em : (keyFs ks).map (fun j => M.dcu (putD xs j d)) = some m' := em
      cases ek : keyFs ks with
      | none => rw [ek] at em; cases em
      | some j =>
        rw [ek] at em
        cases em
        obtain ⟨kvs, q1, q2⟩ := hm
        cases rk with
        | tup t1 t2 =>
          have ey := t2.keyFs ek
          subst ey
          exact ⟨a, _, rfl, .inr ⟨kvs, j, _, q1, rfl, r2.sub _ _ t1, by rw [q2.len, sizeLine_eq]; have : xs.length ≤ 1000000 := hz; omega, rfl⟩, fin _ ⟨_, upd_same, q2.put rv2⟩⟩
    | _ => cases em
  | _ => cases em
/-! ### {k: v, ..} -/
inductive SndPs (K : PySem.W.Frag) : List (TE × TE) → List (DE × DE) → Prop
  | nil : SndPs K [] []
  | cons {tk tv : TE} {dk dv : DE} {ts : List (TE × TE)} {ds : List (DE × DE)} : SndE K tk dk → SndE K tv dv → SndPs K ts ds → SndPs K ((tk, tv) :: ts) ((dk, dv) :: ds)
def runPs : List (DE × DE) → Rho → (List (D × D) → Rho → Prop) → Prop
  | [], ρ, k => k [] ρ
  | (a, b) :: r, ρ, k => a ρ fun x ρ1 => b ρ1 fun y ρ2 => runPs r ρ2 fun ps ρ3 => k ((x, y) :: ps) ρ3
def keyPs : List (D × D) → Option (List (Key × D))
  | [] => some []
  | (x, y) :: r => match keyF x, keyPs r with
    | some k, some es => some ((k, y) :: es)
    | _, _ => none
inductive RepPs (K : PySem.W.Frag) (H : Hp) : List (V × V) → List (D × D) → Prop
  | nil : RepPs K H [] []
  | cons {v w : V} {d e : D} {vs : List (V × V)} {ds : List (D × D)} : Rep K H v d → Rep K H w e → RepPs K H vs ds → RepPs K H ((v, w) :: vs) ((d, e) :: ds)
theorem SndPs.use {ts : List (TE × TE)} {ds : List (DE × DE)} (h : SndPs K ts ds) : ∀ {F : Fx} {σ : L2.St} {H Hb : Hp} {ρ : Rho} {Q : List (V × V) → Hp → Prop} {Qd : List (D × D) → Rho → Prop}, F.K = K → R F σ H Hb ρ → runPs ds ρ Qd →
    (∀ vs ps H' Hb' ρ', R F σ H' Hb' ρ' → Same Hb Hb' → RepPs K Hb' vs ps → ps.length = ds.length → Qd ps ρ' → Q vs H') → tPairs ts σ H Q := by
  induction h with
  | nil => exact fun {F σ H Hb ρ Q Qd} hK r h q => q [] [] H Hb ρ r (Same.refl _) .nil rfl h
  | cons h1 h2 _ ih =>
    intro F σ H Hb ρ Q Qd hK r h q
    refine h1 F σ H Hb ρ _ _ hK r h fun v d H1 Hb1 ρ1 r1 b1 p1 q1 => h2 F σ H1 Hb1 ρ1 _ _ hK r1 q1 fun w e H2 Hb2 ρ2 r2 b2 p2 q2 => ?_
    refine ih hK r2 q2 fun vs ps H3 Hb3 ρ3 r3 b3 p3 l3 q3 => ?_
    exact q _ _ H3 Hb3 ρ3 r3 ((b1.trans b2).trans b3) (.cons (Rep.mono (b2.trans b3) _ _ p1) (Rep.mono b3 _ _ p2) p3) (congrArg Nat.succ l3) q3
theorem keyPs_rep {Hb : Hp} : ∀ {ps : List (D × D)} {vs : List (V × V)} {es : List (Key × D)}, RepPs K Hb vs ps → keyPs ps = some es → ∃ kvs : List (Key × V), vs = kvs.map (fun kv => (kV kv.1, kv.2)) ∧ RepKV K Hb kvs es ∧ kvs.length = ps.length
  | [], _, _, h, e => by cases h; cases e; exact ⟨[], rfl, .nil, rfl⟩
  | (x, y) :: r, _, es, h, e => by
    cases h with
    | cons h1 h2 h3 =>
      unfold keyPs at e
      cases e1 : keyF x with
      | none => rw [e1] at e; cases e
      | some k =>
        cases e2 : keyPs r with
        | none => rw [e1, e2] at e; cases e
        | some rs =>
          rw [e1, e2] at e
          cases e
          obtain ⟨kvs, q1, q2, q3⟩ := keyPs_rep h3 e2
          have ev := h1.keyF e1
          subst ev
          exact ⟨(k, _) :: kvs, by rw [q1]; rfl, .cons h2 q2, congrArg Nat.succ q3⟩
def mergeD (es more : List (Key × D)) : List (Key × D) := more.foldl (fun acc p => putD acc p.1 p.2) es
theorem RepKV.merge {Hb : Hp} : ∀ {more : List (Key × V)} {ms : List (Key × D)} {kvs : List (Key × V)} {es : List (Key × D)}, RepKV K Hb more ms → RepKV K Hb kvs es → RepKV K Hb (mergeK kvs more) (mergeD es ms)
  | _, _, _, _, .nil, r => r
  | _, _, _, _, .cons (k := k) (vs := vs) (ds := ds) h t, r => RepKV.merge (more := vs) (ms := ds) t (r.put (k := k) h)
def dDisp (ds : List (DE × DE)) : DN := fun ρ Q => runPs ds ρ fun ps ρ1 => optD (keyPs ps) fun es => Q (.dct (mergeD [] es)) ρ1
theorem snd_disp {ts : List (TE × TE)} {ds : List (DE × DE)} (h : SndPs K ts ds) (hn : ds.length ≤ 15 := by decide) : SndN K (tDisp ts) (dDisp ds) := fun F σ H Hb ρ Q Qd hK r hd q p np => by
  subst hK
  have nf : F.fr p = none := by
    cases e : F.fr p with
    | none => rfl
    | some u => rw [r.fr _ _ e] at np; cases np
  have al := r.nw p np
  have rk := r.enterK np (same_new np) (upd_same (o := .dK []))
  refine SndPs.use (F := F.keep p (.dK [])) h rfl rk hd fun vs ps H2 Hb2 ρ2 r2 b2 rp lp q2 => ?_
  obtain ⟨q3, q4, q5, q6⟩ := r2.leaveK trivial nf al
  obtain ⟨es, ek, q2⟩ := optD_ok q2
  obtain ⟨kvs, ev, rkv, lk⟩ := keyPs_rep rp ek
  refine ⟨q6, kvs, ev, by omega, ?_⟩
  have s2 : Same (sans H2 p) (upd H2 p (.dK (mergeK [] kvs))) := fun b o e => by
    have hb : b ≠ p := fun z => by rw [z, q5] at e; cases e
    rw [upd_ne hb]
    exact q4 _ _ e
  exact q p (.dct (mergeD [] es)) (sans H2 p) _ Hb2 ρ2 q3 b2 q5 s2 ⟨_, upd_same, RepKV.merge rkv .nil⟩ q2
/-! ### a def that an expression gives -/
def tCallAV (L : List (Addr × Sp)) (tf : TE) (t : TA) : TE := fun σ H Q => tf σ H fun y H1 => ∃ p ∈ L, y = .ref p.1 ∧ t σ H1 fun vs H2 => p.2 vs H2 Q (fun _ _ _ => False)
def dCallAV (L : List (Addr × PD)) (df : DE) (da : DA) : DE := fun ρ Q => df ρ fun d ρ1 => ∃ p ∈ L, d = .opq (.ref p.1) ∧ da ρ1 fun ds ρ2 => p.2 ds fun x => Q x ρ2
theorem snd_callAV {L : List (Addr × PD)} {tf : TE} {t : TA} {df : DE} {n : Nat} {da : DA} (hf : SndE K tf df) (ha : SndA K n t da) : SndE K (tCallAV (L.map fun p => (p.1, spP K p.2)) tf t) (dCallAV L df da) := fun F σ H Hb ρ Q Qd hK r hd q => by
  subst hK
  refine hf F σ H Hb ρ _ _ rfl r hd fun v d H1 Hb1 ρ1 r1 b1 rp ⟨p, hp, ed, h1⟩ => ?_
  subst ed
  cases rp
  refine ⟨(p.1, spP F.K p.2), List.mem_map.mpr ⟨p, hp, rfl⟩, rfl, ha F σ H1 Hb1 ρ1 _ _ rfl r1 h1 fun vs ds H2 Hb2 ρ2 r2 b2 ra _ h2 => ?_⟩
  exact ⟨Hb2, ds, _, r2.sub, ra, h2, fun v d H' Hb' g rp hq => q v d H' Hb' ρ2 (r2.grow g) ((b1.trans b2).trans g.b) rp hq⟩
end
section
variable {X : Cx} {fe e : Expr} {es : List Expr} {tf : TE} {t : TA} {pos : Pos} {k : Nat}
theorem pe_callAV {L : List (Addr × Sp)} (A : ∀ p ∈ L, Held X.prog X.w X.K X.mg X.base k p.1 p.2) (hr : Room k X.A) (hf : PE X fe tf) (ha : PA X (e :: es) t)
    (ht : eval (.Call fe (e :: es) [] pos) X.env = (do callWith pos (← eval fe X.env) [] (backTo pos (starEach (e :: es) X.env)) (backToKw pos (keywordEach [] X.env))) := by rfl)
    (he : starEach (e :: es) X.env = (false, eval e X.env) :: starEach es X.env := by rfl) (hpl : (backTo pos (starEach es X.env)).any (·.1) = false := by rfl) : PE X (.Call fe (e :: es) [] pos) (tCallAV L tf t) := by
  refine ⟨fun pins s σ H Q I h => ?_⟩
  refine Call_ (thn (hf.run pins s σ H _ I h) fun u s1 ⟨y, H1, I1, ry, p, hp, ey, q⟩ => ?_) ht
  subst ey
  obtain rfl : u = Value.ref p.1 := ry
  obtain ⟨fd, ps, F, hk, hb⟩ := (A p hp).ex
  refine PySem.W.callWith_K (h₀ := X.base) I.ok.mod.kin hk (thn (ha.run pos pins s1 σ _ _ I1 q) fun us s2 ⟨vs, H2, I2, r, q'⟩ => ⟨I2.kIn, ?_⟩) he hpl
  exact run_fn (dvs := []) (ds := []) F hr hb .nil (fun _ _ _ _ _ _ _ z => z.elim) I2 r (by rw [List.append_nil]; exact q')
/-! ### a def with a star parameter, called without a star -/
theorem pe_callFR {CX : CXT} {f : Addr} {sp : Sp} {E : XK} {x : Str} {p : Pos} (F : FnR X.prog X.w X.K X.mg X.base CX k f sp) (hr : Room k X.A) (hk : PySem.W.keepIn X.K (.ref f) = true) (hg : Gl X x) (hm : X.mg x = some (.ref f)) (hx : Passes CX X E) (ha : PA X (e :: es) t) (hd : (x == ("__debug__" : Str)) = false := by decide)
    (he : starEach (e :: es) X.env = (false, eval e X.env) :: starEach es X.env := by rfl) (hpl : (backTo pos (starEach es X.env)).any (·.1) = false := by rfl) : PE X (.Call (.Name x p) (e :: es) [] pos) (tCall sp [] E t) := by
  refine ⟨fun pins s σ H Q I h => ?_⟩
  refine wpAny_Call_Name_kw (ld_glob I hg hm ?_ hd)
  refine PySem.W.callWith_K (h₀ := X.base) I.ok.mod.kin hk (thn (ha.run pos pins s σ H _ I h) fun us s1 ⟨vs, H1, I1, r, q⟩ => ⟨I1.kIn, ?_⟩) he hpl
  have q : sp (vs ++ []) H1 Q E := q
  rw [List.append_nil] at q
  exact wpAny_call (run_fnR F hr hx I1 r q)
/-! ### tuple(range(a, b, c)) -/
def rgCV (i c : Int) (n : Nat) : List V := (List.range n).map fun j => V.int (i + (j : Nat) * c)
def tTupRg3 (ta : TA) : TE := fun σ H Q => ta σ H fun vs H1 => ∃ i j c n, vs = [.int i, .int j, .int c] ∧ RgC i j c n ∧ n ≤ 2 ^ 24 ∧ ∀ p, H1 p = none → Q (.ref p) (upd H1 p (.tup (rgCV i c n)))
theorem pe_tupRg3 {a b c : Expr} {ta : TA} {p p2 q : Pos} (hc : X.calm = true) (hg : Gl X "tuple") (hm : X.mg "tuple" = none) (hg2 : Gl X "range") (hm2 : X.mg "range" = none) (ha : PA X [a, b, c] ta)
    (hs : starEach [a, b, c] X.env = (false, eval a X.env) :: starEach [b, c] X.env := by rfl) (hpl : (backTo q (starEach [b, c] X.env)).any (·.1) = false := by rfl)
    (na : starEach [Expr.Call (.Name "range" p2) [a, b, c] [] q] X.env = (false, eval (.Call (.Name "range" p2) [a, b, c] [] q) X.env) :: starEach [] X.env := by rfl) : PE X (.Call (.Name "tuple" p) [.Call (.Name "range" p2) [a, b, c] [] q] [] pos) (tTupRg3 ta) := by
  refine ⟨fun pins s σ H Q I h => ?_⟩
  have hout : tTupRg3 ta σ H Q := h
  refine Call_ (ld_blt I hg hm boot_tuple (PyProof.Rows.callWith_type1 (PyProof.Rows.args_cons ?_ na) na))
  refine Call_ (ld_blt I hg2 hm2 boot_range (PyProof.Rows.callWith_type1 ?_ hs hpl))
  refine thn (ha.run q pins s σ H _ I hout) fun us s1 ⟨vs, H1, I1, r1, i, j, c, n, ev, rc, hn, w⟩ => ?_
  subst ev
  obtain ⟨c0, c1, c2, c3⟩ := rc
  cases r1 with
  | cons a1 a2 =>
    cases a2 with
    | cons a3 a4 =>
      cases a4 with
      | cons a5 a6 =>
        cases a6
        obtain ⟨t1, rfl⟩ := a1
        obtain ⟨t2, rfl⟩ := a3
        obtain ⟨t3, rfl⟩ := a5
        refine call_range_3 c0 ?_ (.inl (PyProof.noPylong_small c1))
        refine PyProof.Rows.args_nil ?_
        have I2 : Inv X pins σ H1 { s1 with heap := s1.heap.push { cls := .type "range", data := .fields #[.int i t1, .int j t2, .int c t3] }, toks := s1.toks } := I1.kept (t' := s1.toks) fun b o e => Heap.get?_push_of_some _ e
        refine call_tuple_range (n := n) (I2.ok.hd hc) (IsRange.new _ _ _ _ _ _ _) c2 c3 hn fun h' tk acc hk hi => ?_
        have I3 := I2.kept (t' := tk) hk
        have ev : Vals (rgCV i c n) acc.toList := by
          have e : acc.toList.length = n := by
            rw [Array.length_toList]
            exact hi.1
          have key := vals_of_get acc.toList (fun k => V.int (i + (k : Nat) * c)) fun k u hku => by
            rw [Array.getElem?_toList] at hku
            exact hi.2 k u hku
          rw [e] at key
          exact key
        have hz : (rgCV i c n).length ≤ sizeLine := by
          unfold rgCV
          rw [List.length_map, List.length_range, sizeLine_eq]
          omega
        refine ⟨.ref h'.objs.size, _, I3.laid (t' := tk) (o := .tup (rgCV i c n)) (fun b o e => Heap.get?_push_of_some _ e) (Nat.le_refl _) ⟨hz, acc.toList, ev, ?_⟩, rfl, w _ (I3.hok.fresh (Nat.le_refl _))⟩
        rw [Array.toArray_toList]
        exact IsTup.new _ _
end
section
variable {K : PySem.W.Frag}
theorem rgC_rep {Hb : Hp} (i c : Int) (n : Nat) : RepAll K Hb (rgCV i c n) (rngC i c n) := by
  unfold rgCV rngC
  induction List.range n with
  | nil => exact .nil
  | cons i r ih => exact .cons (.int _) ih
def dTupRg3 (da : DA) : DE := fun ρ Q => da ρ fun ds ρ1 => match ds with
  | [.int i, .int j, .int c] => ∃ n, RgC i j c n ∧ n ≤ 2 ^ 24 ∧ Q (.tup (rngC i c n)) ρ1
  | _ => False
theorem snd_tupRg3 {m : Nat} {t : TA} {da : DA} (h : SndA K m t da) : SndE K (tTupRg3 t) (dTupRg3 da) := fun F σ H Hb ρ Q Qd hK r hd q => by
  subst hK
  refine h F σ H Hb ρ _ _ rfl r hd fun vs ds H' Hb' ρ' r' b rp hl hq => ?_
  match ds, rp, hq with
  | [.int i, .int j, .int c], rp, ⟨n, hr, hn, hq⟩ =>
    cases rp with
    | cons h1 h2 =>
      cases h2 with
      | cons h3 h4 =>
        cases h4 with
        | cons h5 h6 =>
          cases h6
          cases h1
          cases h3
          cases h5
          refine ⟨i, j, c, n, rfl, hr, hn, fun p np => ?_⟩
          have g := Gr.new (o := .tup (rgCV i c n)) r'.sub np
          exact q _ _ _ _ ρ' (r'.grow g) (b.trans g.b) (.tup upd_same (rgC_rep i c n)) hq
end
end PL
namespace PL
open PySem PySem.Spec PyProof.Rows L2 TB
/-! ### loops that a computed walk leads -/
theorem foldM_cons {S α : Type} {f : S → α → Option S} {x : α} {xs : List α} {s t : S} (h : (x :: xs).foldlM f s = some t) : ∃ u, f s x = some u ∧ xs.foldlM f u = some t := by
  rw [List.foldlM_cons] at h
  cases e : f s x with
  | none => rw [e] at h; cases h
  | some u => rw [e] at h; exact ⟨u, rfl, h⟩
theorem loopP_M {S α : Type} (St : S → Rho → Prop) (f : S → α → Option S) (tD : α → D) {xs : List α} {s0 s1 : S} {g : DG} {b : DS} {E : DEnds} {ρ : Rho} (hf : xs.foldlM f s0 = some s1) (h0 : St s0 ρ)
    (hstep : ∀ s x s' ρ, x ∈ xs → St s ρ → f s x = some s' → ∀ nx : Rho → Prop, (∀ ρ', St s' ρ' → nx ρ') → g (tD x) ρ fun ρ1 => b ⟨nx, E.rt, E.nx, nx⟩ ρ1)
    (hd : ∀ ρ, St s1 ρ → E.nx ρ) : loopP g b E (xs.map tD) ρ := by
  refine ⟨fun i ρ => ∃ s, St s ρ ∧ (xs.drop i).foldlM f s = some s1, ⟨s0, h0, hf⟩, ?_, ?_⟩
  · rintro i d ρ hx ⟨s, hs, hr⟩
    rw [List.getElem?_map] at hx
    cases ex : xs[i]? with
    | none => rw [ex] at hx; cases hx
    | some x =>
      rw [ex] at hx
      cases hx
      have hi := (List.getElem?_eq_some_iff.mp ex).1
      rw [List.drop_eq_getElem_cons hi] at hr
      have ex' : xs[i] = x := (List.getElem?_eq_some_iff.mp ex).2
      rw [ex'] at hr
      obtain ⟨u, h1, h2⟩ := foldM_cons hr
      exact hstep s x u ρ (List.mem_of_getElem? ex) hs h1 _ fun ρ' h => ⟨u, h, h2⟩
  · rintro ρ ⟨s, hs, hr⟩
    rw [List.length_map, List.drop_length] at hr
    cases hr
    exact hd ρ hs
theorem loopP_Mi {S α : Type} {items : List D} {xs : List α} {tD : α → D} (hi : items = xs.map tD) (St : S → Rho → Prop) (f : S → α → Option S) {s0 s1 : S} {g : DG} {b : DS} {E : DEnds} {ρ : Rho} (hf : xs.foldlM f s0 = some s1) (h0 : St s0 ρ)
    (hstep : ∀ s x s' ρ, x ∈ xs → St s ρ → f s x = some s' → ∀ nx : Rho → Prop, (∀ ρ', St s' ρ' → nx ρ') → g (tD x) ρ fun ρ1 => b ⟨nx, E.rt, E.nx, nx⟩ ρ1)
    (hd : ∀ ρ, St s1 ρ → E.nx ρ) : loopP g b E items ρ := by
  rw [hi]
  exact loopP_M St f tD hf h0 hstep hd
def runW {S : Type} (c : S → Bool) (f : S → Option S) : Nat → S → Option S
  | 0, _ => none
  | k + 1, s => if c s = true then (f s).bind (runW c f k) else some s
theorem dWhile_M {S : Type} (St : S → Rho → Prop) (c : S → Bool) (f : S → Option S) (k : Nat) {s0 s1 : S} {dc : DT} {b : DS} {E : DEnds} {ρ : Rho} (hf : runW c f k s0 = some s1) (h0 : St s0 ρ)
    (hc : ∀ s ρ, St s ρ → ∀ Q : Bool → Rho → Prop, Q (c s) ρ → dc ρ Q)
    (hstep : ∀ s s' ρ, St s ρ → c s = true → f s = some s' → ∀ nx : Rho → Prop, (∀ ρ', St s' ρ' → nx ρ') → b ⟨nx, E.rt, E.nx, nx⟩ ρ)
    (hd : ∀ ρ, St s1 ρ → E.nx ρ) : dWhile dc b E ρ := by
  refine ⟨fun m ρ => ∃ s, St s ρ ∧ runW c f m s = some s1, ⟨k, s0, h0, hf⟩, ?_⟩
  rintro m ρ ⟨s, hs, hr⟩
  refine hc s ρ hs _ ?_
  cases m with
  | zero => cases hr
  | succ m =>
    unfold runW at hr
    cases e : c s with
    | false =>
      rw [e] at hr
      cases hr
      exact hd ρ hs
    | true =>
      rw [e, if_pos rfl] at hr
      cases e2 : f s with
      | none => rw [e2] at hr; cases hr
      | some s' =>
        rw [e2] at hr
        exact hstep s s' ρ hs e e2 _ fun ρ' h => ⟨m, by omega, s', h, hr⟩
theorem atI_map {α β : Type} (g : α → β) {xs : List α} {z : Int} {x : α} (h : atI xs z = some x) : atI (xs.map g) z = some (g x) := by
  unfold atI at h ⊢
  rw [List.length_map]
  cases e : ixN xs.length z with
  | none => rw [e] at h; cases h
  | some j =>
    rw [e] at h
    have h : xs[j]? = some x := h
    show (xs.map g)[j]? = some (g x)
    rw [List.getElem?_map, h]
    rfl
/-- [.. for .. if ..] over a computed row -/
theorem lcP_x {α : Type} {tD : α → D} {items : List D} {xs : List α} (hi : items = xs.map tD) (f : α → Option D) {g : DG} {dt : DT} {de : DE} {vs : List Nat} {ρ : Rho} {Q : List D → Rho → Prop}
    (h : ∀ x ∈ xs, ∀ (N : Rho → Prop) (Y : D → Rho → Prop), (f x = none → N ρ) → (∀ y, f x = some y → Y y ρ) → freeC ρ vs ∧ g (tD x) (wipeR ρ vs) fun ρ2 => dt ρ2 fun b ρ3 => ifD b (de ρ3 fun y ρ4 => Y y (backR ρ vs ρ4)) (N (backR ρ vs ρ3)))
    (hd : Q (xs.filterMap f) ρ) : lcP g dt de vs items ρ Q := by
  subst hi
  refine ⟨fun i ρ' acc => ρ' = ρ ∧ acc = (xs.take i).filterMap f, ⟨rfl, rfl⟩, ?_, ?_⟩
  · rintro i d ρ' acc hx ⟨rfl, rfl⟩
    rw [List.getElem?_map] at hx
    cases ex : xs[i]? with
    | none => rw [ex] at hx; cases hx
    | some x =>
      rw [ex] at hx
      cases hx
      refine h x (List.mem_of_getElem? ex) (fun r => r = ρ' ∧ _) (fun y r => r = ρ' ∧ _) (fun e => ⟨rfl, ?_⟩) (fun y e => ⟨rfl, ?_⟩)
      · rw [take_snoc f ex, e, Option.toList, List.append_nil]
      · rw [take_snoc f ex, e]; rfl
  · rintro ρ' acc ⟨rfl, rfl⟩
    rw [List.length_map, List.take_length]
    exact hd
theorem lcP_y {α : Type} {tD : α → D} {items : List D} {xs : List α} (hi : items = xs.map tD) (f : α → D) {g : DG} {de : DE} {vs : List Nat} {ρ : Rho} {Q : List D → Rho → Prop}
    (h : ∀ x ∈ xs, ∀ (Y : D → Rho → Prop), Y (f x) ρ → freeC ρ vs ∧ g (tD x) (wipeR ρ vs) fun ρ2 => de ρ2 fun y ρ4 => Y y (backR ρ vs ρ4))
    (hd : Q (xs.map f) ρ) : lcP g dYes de vs items ρ Q :=
  lcP_x hi (fun x => some (f x)) (fun x hx N Y _ hY => h x hx Y (hY _ rfl)) (by rw [filterMap_some]; exact hd)
theorem foldM_snoc {α β : Type} (g : α → β) : ∀ (xs : List α) (s : List β), xs.foldlM (fun acc x => some (acc ++ [g x])) s = some (s ++ xs.map g)
  | [], s => by rw [List.map_nil, List.append_nil]; rfl
  | x :: xs, s => by
    rw [List.foldlM_cons]
    show xs.foldlM _ (s ++ [g x]) = _
    rw [foldM_snoc g xs, List.map_cons, List.append_assoc]
    rfl
theorem filterMap_at {α : Type} {f : α → Option D} {h : Nat → D} : ∀ {k : Nat} {xs : List α}, (∀ i x, xs[i]? = some x → f x = some (h (k + i))) → xs.filterMap f = (List.range xs.length).map fun i => h (k + i)
  | k, [], _ => rfl
  | k, x :: xs, e => by
    rw [List.filterMap_cons_some (e 0 x rfl), filterMap_at (k := k + 1) (xs := xs) fun i y hy => by rw [e (i + 1) y hy, show k + (i + 1) = k + 1 + i by omega], List.length_cons, List.range_succ_eq_map, List.map_cons, List.map_map]
    congr 1
    refine List.map_congr_left fun i _ => ?_
    show h (k + 1 + i) = h (k + (i + 1))
    rw [show k + 1 + i = k + (i + 1) by omega]
/-! ### what can be compared, and is equal to itself -/
structure CmpD (n : Nat) (d : D) : Prop where
  c : cmp d = true
  o : OkD n (toP d)
theorem CmpD.int {n : Nat} (i : Int) : CmpD n (.int i) := ⟨rfl, OkD.int i⟩
theorem CmpD.bl {n : Nat} (b : Bool) : CmpD n (.bl b) := ⟨rfl, OkD.bool b⟩
theorem CmpD.all {n : Nat} : ∀ {ds : List D}, (∀ x ∈ ds, CmpD n x) → cmps ds = true ∧ ∀ y ∈ toPs ds, OkD n y
  | [], _ => ⟨rfl, fun y hy => by cases hy⟩
  | x :: r, h => by
    have h1 := h x (List.mem_cons_self ..)
    obtain ⟨a, b⟩ := CmpD.all (ds := r) fun y hy => h y (List.mem_cons_of_mem _ hy)
    refine ⟨?_, fun y hy => ?_⟩
    · show (cmp x && cmps r) = true
      rw [h1.c, a]
      rfl
    · have hy : y ∈ toP x :: toPs r := hy
      cases hy with
      | head => exact h1.o
      | tail _ hy => exact b y hy
theorem CmpD.tup {n : Nat} {ds : List D} (h : ∀ x ∈ ds, CmpD n x) : CmpD (n + 1) (.tup ds) := ⟨(CmpD.all h).1, OkD.tup (CmpD.all h).2⟩
theorem CmpD.lst {n : Nat} {ds : List D} (h : ∀ x ∈ ds, CmpD n x) : CmpD (n + 1) (.lst ds) := ⟨(CmpD.all h).1, OkD.list (CmpD.all h).2⟩
theorem CmpD.map {α : Type} {n : Nat} {f : α → D} {xs : List α} (h : ∀ x ∈ xs, CmpD n (f x)) : ∀ y ∈ xs.map f, CmpD n y := fun y hy => by
  obtain ⟨x, hx, rfl⟩ := List.mem_map.mp hy
  exact h x hx
theorem CmpD.ok {n : Nat} {d : D} (h : CmpD n d) (hn : n ≤ 64 := by decide) : CmpOk d := ⟨h.c, h.o.sh hn⟩
theorem CmpOk.self {d : D} (h : CmpOk d) : eqD d d = true := eqvR h.s
theorem CmpOk.nself {d e : D} (h : CmpOk d) (he : d = e) : (!eqD d e) = false := by subst he; rw [h.self]; rfl
/-! ### rows of numbers -/
def rgI (lo : Int) (n : Nat) : List Int := (List.range n).map fun i => lo + (i : Nat)
theorem rngD_eq {lo : Int} {n : Nat} : rngD lo n = (rgI lo n).map .int := by unfold rngD rgI; rw [List.map_map]; rfl
def rg3 (lo hi c : Int) : Option (List Int) := if c ≠ 0 ∧ c.natAbs < 1073741824 ∧ Builtin.Range.small lo hi c = true ∧ 0 ≤ Builtin.Range.rangeSize lo hi c then some ((List.range (Builtin.Range.rangeSize lo hi c).toNat).map fun i => lo + (i : Nat) * c) else none
theorem rg3_ok {lo hi c : Int} {xs : List Int} (h : rg3 lo hi c = some xs) : ∃ n, RgC lo hi c n ∧ rngC lo c n = xs.map .int := by
  unfold rg3 at h
  split at h
  · rename_i hc
    cases h
    refine ⟨_, ⟨hc.1, hc.2.1, hc.2.2.1, (Int.toNat_of_nonneg hc.2.2.2).symm⟩, ?_⟩
    unfold rngC
    rw [List.map_map]
    rfl
  · cases h
/-! ### a def with a star parameter behind one other -/
structure DefSt (K : PySem.W.Frag) (mg : Str → Option Value) (x : Str) (st : Stmt) (p pv : Str) where
  f : Addr
  fd : FuncData
  F : Fun K x x st f fd
  hb : ∀ us rest : List Value, us.length = [p].length → bindArgs fd ⟨us ++ rest, []⟩ = (newTuple rest >>= fun t => pure ([p].zip us ++ [(pv, t)]))
  g : mg x = some (.ref f)
def defSt {K : PySem.W.Frag} {h : Heap} {mg : Str → Option Value} {x : Str} {st : Stmt} {p pv : Str} (X : K.In h) (G : h.Ns mainGlobals mg) {f : Addr} {od an : Option Addr} {sl : Array (Option Value)} {oc kV dc pm cd ct : Value}
    (a : PySem.W.nsIn K mainGlobals x = some (some (.ref f))) (l : K.lookup f = some ⟨oc, od, .func (PySem.W.fnOf x x (defArgs st) (defBody st) (defScope st) .none kV dc pm an cd ct), sl⟩) (c : PySem.W.codeIn K cd x = true) (k : PySem.W.keepIn K (.ref f) = true)
    (h0 : ∀ a, bindArgs (PySem.W.fnOf x x (defArgs st) (defBody st) (defScope st) .none kV dc pm an cd ct) ⟨[a], []⟩ = (newTuple [] >>= fun t => pure [(p, a), (pv, t)]))
    (h1 : ∀ a r rs, bindArgs (PySem.W.fnOf x x (defArgs st) (defBody st) (defScope st) .none kV dc pm an cd ct) ⟨a :: r :: rs, []⟩ = (newTuple (r :: rs) >>= fun t => pure [(p, a), (pv, t)])) : DefSt K mg x st p pv :=
  ⟨f, _, fun_mk l c k, StX.bind_star1 (B := fun us => bindArgs _ ⟨us, []⟩) h0 h1, PySem.W.mg_of X G a⟩
section
variable {P : Program} {w : World} {K : PySem.W.Frag} {mg : Str → Option Value} {base : Heap} {k : Nat}
theorem defSt_ok {x : Str} {st : Stmt} {p pv : Str} {N : List Str} {sp : Sp} (T : DefSt K mg x st p pv) (S : FnScope N ([p] ++ [pv]) (defScope st))
    (h : ∀ (cdv : Value) (A : Around) (outer : List Env) (s : Shared) (H : Hp) (vs : List V) (Q : VK) (E : XK), Room k (A.deeper (envOfC x (defScope st) s.heap.objs.size T.f cdv)) → sp vs H Q E →
      ∃ t, PSs (cxOf CX0 P w K mg base N x (defScope st) T.f cdv A outer s H E).nox (defBody st) t ∧ t { nx := fun _ H' => Q .non H', rt := Q } (start N vs) H) :
    FnR P w K mg base CX0 (k + 1) T.f (fun vs H Q E => ∃ ws rest, vs = ws ++ rest ∧ ws.length = 1 ∧ rest.length ≤ sizeLine ∧ ∀ p, H p = Option.none → sp (ws ++ [V.ref p]) (upd H p (.tup rest)) Q E) := by
  obtain ⟨f, fd, F, hb, g⟩ := T
  obtain ⟨oc, od, kV, doc, pm, an, cdv, ct, osl, e, lk, hcd⟩ := F.ex
  subst e
  exact StX.fn_star (ps := [p]) (pv := pv) (k := k) (sp := sp) lk hcd S StX.cxUp_none hb fun A outer s H vs Q E hr hsp => by
    obtain ⟨t, h1, q⟩ := h cdv A outer s H vs Q E hr hsp
    exact ⟨t, h1.nox, q⟩
/-- the promise of a def f(a, *v): of its arguments, and of its body, where they stand as a tuple -/
def pdStar (pd : PD) : PD := fun as Q => match as with
  | a :: r => r.length ≤ 1000 ∧ pd [a, .tup r] Q
  | [] => False
theorem spStar {pd : PD} {vs : List V} {H : Hp} {Q : VK} {E : XK} (h : spP K (pdStar pd) vs H Q E) : ∃ ws rest, vs = ws ++ rest ∧ ws.length = 1 ∧ rest.length ≤ sizeLine ∧ ∀ p, H p = Option.none → spP K pd (ws ++ [V.ref p]) (upd H p (.tup rest)) Q E := by
  obtain ⟨Hb, ds, Qd, sb, ra, hp, q⟩ := h
  cases ra with
  | nil => exact hp.elim
  | cons h1 h2 =>
    rename_i v vs a r
    obtain ⟨hl, hp⟩ := hp
    refine ⟨[v], vs, rfl, rfl, by rw [h2.len, sizeLine_eq]; omega, fun p np => ?_⟩
    have gr := Gr.new (o := .tup vs) sb np
    refine ⟨_, [a, .tup r], Qd, gr.sub, .cons (Rep.mono gr.b _ _ h1) (.cons (.tup upd_same (RepAll.mono gr.b _ _ h2)) .nil), hp, fun v d H' Hb' g2 rp hq => ?_⟩
    exact q v d H' Hb' (gr.trans g2) rp hq
end
end PL
namespace PL
open PySem PySem.Spec PyProof.Rows L2 TB
/-! ### one's own dict is locked while it is walked -/
def M.isDict : M → Bool
  | .dct _ => true
  | .dcu _ => true
  | _ => false
theorem MAt.dictIs {K : PySem.W.Frag} {Hb H : Hp} {a : Addr} {m : M} (h : MAt K Hb H a m) (hd : m.isDict = true) : ∃ u, H a = some u ∧ DictIs K Hb u m ∧ Mut (some u) := by
  cases m with
  | dct es => obtain ⟨kvs, e, r⟩ := h; exact ⟨_, e, ⟨kvs, rfl, r⟩, trivial⟩
  | dcu es => obtain ⟨kvs, e, r⟩ := h; exact ⟨_, e, ⟨kvs, rfl, r⟩, trivial⟩
  | lst _ => cases hd
  | dice => cases hd
theorem DictIs.at {K : PySem.W.Frag} {Hb H : Hp} {a : Addr} {u : HO} {m : M} (h : DictIs K Hb u m) (e : H a = some u) : MAt K Hb H a m := by
  cases m with
  | dct es => obtain ⟨kvs, rfl, r⟩ := h; exact ⟨kvs, e, r⟩
  | dcu es => obtain ⟨kvs, rfl, r⟩ := h; exact ⟨kvs, e, r⟩
  | lst _ => exact h.elim
  | dice => exact h.elim
theorem DictIs.noTup {K : PySem.W.Frag} {Hb : Hp} {u : HO} {m : M} {xs : List V} (h : DictIs K Hb u m) (e : u = .tup xs) : False := by
  subst e
  cases m with
  | dct es => obtain ⟨kvs, e, r⟩ := h; cases e
  | dcu es => obtain ⟨kvs, e, r⟩ := h; cases e
  | lst _ => exact h.elim
  | dice => exact h.elim
theorem R.lockIn {F : Fx} {σ : L2.St} {H Hb : Hp} {ρ : Rho} (r : R F σ H Hb ρ) {i : Nat} {a : Addr} {m : M} {u : HO} {od : Obj} (e : ρ[i]? = some (.own m)) (es : σ[i]? = some (some (.ref a))) (nb : Hb a = none) (nf : F.fr a = none) (d : DictIs F.K Hb u m) (hu : H a = some u) :
    R (F.keep a (.frz od u)) σ (upd H a (.frz od u)) Hb (ρ.set i (.lck a m)) := by
  have hi := (List.getElem?_eq_some_iff.mp e).1
  refine ⟨fun b o eb => ?_, fun b o eb => ?_, fun b eb => ?_, fun b eb => ?_, by rw [List.length_set]; exact r.len, fun j c v e1 e2 => ?_, fun j k c1 d1 b n e1 e2 m1 m2 f1 => ?_⟩
  · have hb : b ≠ a := fun z => by rw [z, nb] at eb; cases eb
    rw [upd_ne hb]
    exact r.sub _ _ eb
  · have eb : upd F.fr a (.frz od u) b = some o := eb
    by_cases hb : b = a
    · subst hb; rw [upd_same] at eb ⊢; exact eb
    · rw [upd_ne hb] at eb ⊢; exact r.fr _ _ eb
  · have hb : b ≠ a := fun z => eb (by rw [z]; exact nb)
    rcases r.al b eb with z | ⟨xs, z⟩
    · exact .inl ⟨hb, z⟩
    · refine .inr ⟨xs, ?_⟩
      rcases z with z | ⟨o, z⟩
      · exact .inl (by rw [upd_ne hb]; exact z)
      · exact .inr ⟨o, by rw [upd_ne hb]; exact z⟩
  · have hb : b ≠ a := fun z => by rw [z, upd_same] at eb; cases eb
    rw [upd_ne hb] at eb
    exact ⟨hb, r.nw b eb⟩
  · rw [List.getElem?_set] at e1
    by_cases hj : i = j
    · subst hj
      rw [if_pos rfl, if_pos hi] at e1
      cases e1
      rw [es] at e2
      cases e2
      exact ⟨rfl, od, u, upd_same, d⟩
    · rw [if_neg hj] at e1
      have old := r.cell j c v e1 e2
      have far : ∀ b, F.fr b = none → b ≠ a → (F.keep a (.frz od u)).fr b = none := fun b h hb => by show upd F.fr a _ b = none; rw [upd_ne hb]; exact h
      cases c with
      | no => trivial
      | val d => exact old
      | own m' =>
        obtain ⟨b, rfl, m1, n, f, al⟩ := old
        have hb : b ≠ a := fun z => r.dis i j (.own m) (.own m') a hj e e1 rfl rfl es (by rw [e2, z])
        exact ⟨b, rfl, MAt.mono (Same.refl _) (fun o q => by rw [upd_ne hb]; exact q) m1, n, far b f hb, hb, al⟩
      | io b m' =>
        obtain ⟨rfl, m1, n, f⟩ := old
        have hb : b ≠ a := fun z => r.dis i j (.own m) (.io b m') a hj e e1 rfl rfl es (by rw [e2, z])
        exact ⟨rfl, MAt.mono (Same.refl _) (fun o q => by rw [upd_ne hb]; exact q) m1, n, far b f hb⟩
      | lck b m' =>
        obtain ⟨q1, o, u', q2, q3⟩ := old
        have hb : b ≠ a := fun z => by rw [z, nf] at q2; cases q2
        exact ⟨q1, o, u', by show upd F.fr a _ b = _; rw [upd_ne hb]; exact q2, q3⟩
  · have same : ∀ (l : Nat) c2, (ρ.set i (.lck a m))[l]? = some c2 → c2.mine = true → ρ[l]? = some c2 := fun l c2 q1 q2 => by
      rw [List.getElem?_set] at q1
      by_cases hl : i = l
      · subst hl; rw [if_pos rfl, if_pos hi] at q1; cases q1; cases q2
      · rw [if_neg hl] at q1; exact q1
    exact r.dis j k c1 d1 b n (same j c1 e1 m1) (same k d1 e2 m2) m1 m2 f1
/-- no other slot is locked -/
def noL (ρ : Rho) (i : Nat) : Prop := ∀ j a m, ρ[j]? = some (.lck a m) → j = i
theorem R.lockOut {F : Fx} {σ : L2.St} {H Hb : Hp} {ρ : Rho} {i : Nat} {a : Addr} {m : M} {u : HO} {od : Obj} (r : R (F.keep a (.frz od u)) σ H Hb ρ) (e : ρ[i]? = some (.lck a m)) (nl : noL ρ i) (nf : F.fr a = none) (al : F.al a) :
    H a = some (.frz od u) ∧ R F σ (upd H a u) Hb (ρ.set i (.own m)) := by
  have hi := (List.getElem?_eq_some_iff.mp e).1
  obtain ⟨v, es, ev, o', u', q2, d⟩ := r.at e
  subst ev
  have q2 : upd F.fr a (.frz od u) a = some (.frz o' u') := q2
  rw [upd_same] at q2
  cases q2
  have hH : H a = some (.frz od u) := r.fr _ _ (show upd F.fr a _ a = _ from upd_same)
  have nb : Hb a = none := by
    cases q : Hb a with
    | none => rfl
    | some o =>
      rcases r.al a (by rw [q]; exact fun z => nomatch z) with z | ⟨xs, z⟩
      · exact absurd rfl z.1
      · rcases z with z | ⟨o, z⟩
        · rw [hH] at z; cases z
        · rw [hH] at z; cases z; exact (d.noTup rfl).elim
  have far : ∀ b, (F.keep a (.frz od u)).fr b = none → b ≠ a ∧ F.fr b = none := fun b h => by
    have h : upd F.fr a (.frz od u) b = none := h
    by_cases hb : b = a
    · subst hb; rw [upd_same] at h; cases h
    · rw [upd_ne hb] at h; exact ⟨hb, h⟩
  refine ⟨hH, fun b o eb => ?_, fun b o eb => ?_, fun b eb => ?_, fun b eb => ?_, by rw [List.length_set]; exact r.len, fun j c v e1 e2 => ?_, fun j k c1 d1 b n e1 e2 m1 m2 f1 f2 => ?_⟩
  · have hb : b ≠ a := fun z => by rw [z, nb] at eb; cases eb
    rw [upd_ne hb]
    exact r.sub _ _ eb
  · have hb : b ≠ a := fun z => by rw [z, nf] at eb; cases eb
    rw [upd_ne hb]
    exact r.fr _ _ (show upd F.fr a _ b = _ by rw [upd_ne hb]; exact eb)
  · have hb : b ≠ a := fun z => eb (by rw [z]; exact nb)
    rcases r.al b eb with z | ⟨xs, z⟩
    · exact .inl z.2
    · refine .inr ⟨xs, ?_⟩
      rcases z with z | ⟨o, z⟩
      · exact .inl (by rw [upd_ne hb]; exact z)
      · exact .inr ⟨o, by rw [upd_ne hb]; exact z⟩
  · have hb : b ≠ a := fun z => by rw [z, upd_same] at eb; cases eb
    rw [upd_ne hb] at eb
    exact (r.nw b eb).2
  · rw [List.getElem?_set] at e1
    by_cases hj : i = j
    · subst hj
      rw [if_pos rfl, if_pos hi] at e1
      cases e1
      rw [es] at e2
      cases e2
      exact ⟨a, rfl, d.at upd_same, nb, nf, al⟩
    · rw [if_neg hj] at e1
      have old := r.cell j c v e1 e2
      cases c with
      | no => trivial
      | val d => exact old
      | own m' =>
        obtain ⟨b, rfl, m1, n, f, al⟩ := old
        obtain ⟨hb, f⟩ := far b f
        exact ⟨b, rfl, MAt.mono (Same.refl _) (fun o q => by rw [upd_ne hb]; exact q) m1, n, f, al.2⟩
      | io b m' =>
        obtain ⟨rfl, m1, n, f⟩ := old
        obtain ⟨hb, f⟩ := far b f
        exact ⟨rfl, MAt.mono (Same.refl _) (fun o q => by rw [upd_ne hb]; exact q) m1, n, f⟩
      | lck b m' => exact absurd (nl j b m' e1) (fun z => hj z.symm)
  · have new : ∀ (l : Nat) c2 b, (ρ.set i (.own m))[l]? = some c2 → c2.mine = true → σ[l]? = some (some (.ref b)) → (l = i ∧ b = a) ∨ (l ≠ i ∧ ρ[l]? = some c2 ∧ b ≠ a) := fun l c2 b q1 q2 q3 => by
      rw [List.getElem?_set] at q1
      by_cases hl : i = l
      · subst hl
        rw [es] at q3
        cases q3
        exact .inl ⟨rfl, rfl⟩
      · rw [if_neg hl] at q1
        obtain ⟨b', m', h1, _, _, h4, _⟩ := r.mine q1 q2
        rw [q3] at h1
        cases h1
        exact .inr ⟨fun z => hl z.symm, q1, (far _ h4).1⟩
    rcases new j c1 b e1 m1 f1 with ⟨rfl, rfl⟩ | ⟨hj, h1, hb⟩
    · rcases new k d1 _ e2 m2 f2 with ⟨rfl, _⟩ | ⟨_, _, hb⟩
      · exact n rfl
      · exact hb rfl
    · rcases new k d1 b e2 m2 f2 with ⟨rfl, rfl⟩ | ⟨hk, h2, _⟩
      · exact hb rfl
      · exact r.dis j k c1 d1 b n h1 h2 m1 m2 f1 f2
/-- what a walk over one's own dict in the slot i may do -/
def lckP (ρ : Rho) (i : Nat) (k : Addr → M → Prop) : Prop := match ρ[i]? with
  | some (.own (.dct es)) => ∀ a, k a (.dct es)
  | some (.own (.dcu es)) => ∀ a, k a (.dcu es)
  | _ => False
theorem lckP_ok {ρ : Rho} {i : Nat} {k : Addr → M → Prop} (h : lckP ρ i k) : ∃ m, ρ[i]? = some (.own m) ∧ m.isDict = true ∧ ∀ a, k a m := by
  unfold lckP at h
  split at h
  · rename_i e; exact ⟨_, e, rfl, h⟩
  · rename_i e; exact ⟨_, e, rfl, h⟩
  · exact h.elim
variable {K : PySem.W.Frag}
def dLkN (i : Nat) (dn : DN) : DN := fun ρ Q => lckP ρ i fun a m => dn (ρ.set i (.lck a m)) fun x ρ1 => (ρ1[i]? = some (.lck a m) ∧ noL ρ1 i) ∧ Q x (ρ1.set i (.own m))
theorem snd_lkN (i : Nat) {t : TE} {dn : DN} (h : SndN K t dn) : SndN K (tLockE t) (dLkN i dn) := fun F σ H Hb ρ Q Qd hK r hd q => by
  subst hK
  obtain ⟨m, e, hm, hd⟩ := lckP_ok hd
  obtain ⟨a, m', es, hat, nb, nf, h5⟩ := r.mine e rfl
  have em : m' = m ∧ F.al a := by rcases h5 with ⟨z, al⟩ | z <;> cases z; exact ⟨rfl, al⟩
  obtain ⟨rfl, al⟩ := em
  obtain ⟨u, hu, d, mu⟩ := hat.dictIs hm
  refine ⟨a, u, hu, mu, fun od => ?_⟩
  refine h (F.keep a (.frz od u)) σ _ Hb _ _ _ rfl (r.lockIn (od := od) e es nb nf d hu) (hd a) fun p x H1 H' Hb' ρ' r' b n s hx ⟨⟨e1, nl⟩, hq⟩ => ?_
  obtain ⟨hH, r2⟩ := r'.lockOut e1 nl nf al
  have hp : p ≠ a := fun z => by rw [z, hH] at n; cases n
  refine ⟨s _ _ hH, q p x (upd H1 a u) (upd H' a u) Hb' _ r2 b (by rw [upd_ne hp]; exact n) (fun b o eb => ?_) (MAt.mono (Same.refl _) (fun o eo => by rw [upd_ne hp]; exact eo) hx) hq⟩
  by_cases hb : b = a
  · subst hb; rw [upd_same] at eb ⊢; exact eb
  · rw [upd_ne hb] at eb ⊢; exact s _ _ eb
def dLkE (i : Nat) (de : DE) : DE := fun ρ Q => lckP ρ i fun a m => de (ρ.set i (.lck a m)) fun x ρ1 => (ρ1[i]? = some (.lck a m) ∧ noL ρ1 i) ∧ Q x (ρ1.set i (.own m))
theorem snd_lkE (i : Nat) {t : TE} {de : DE} (h : SndE K t de) : SndE K (tLockE t) (dLkE i de) := fun F σ H Hb ρ Q Qd hK r hd q => by
  subst hK
  obtain ⟨m, e, hm, hd⟩ := lckP_ok hd
  obtain ⟨a, m', es, hat, nb, nf, h5⟩ := r.mine e rfl
  have em : m' = m ∧ F.al a := by rcases h5 with ⟨z, al⟩ | z <;> cases z; exact ⟨rfl, al⟩
  obtain ⟨rfl, al⟩ := em
  obtain ⟨u, hu, d, mu⟩ := hat.dictIs hm
  refine ⟨a, u, hu, mu, fun od => ?_⟩
  refine h (F.keep a (.frz od u)) σ _ Hb _ _ _ rfl (r.lockIn (od := od) e es nb nf d hu) (hd a) fun v x H' Hb' ρ' r' b rp ⟨⟨e1, nl⟩, hq⟩ => ?_
  obtain ⟨hH, r2⟩ := r'.lockOut e1 nl nf al
  exact ⟨hH, q v x _ Hb' _ r2 b rp hq⟩
def lkEnds (i : Nat) (a : Addr) (m : M) (E : DEnds) : DEnds :=
  ⟨fun ρ => (ρ[i]? = some (.lck a m) ∧ noL ρ i) ∧ E.nx (ρ.set i (.own m)), fun d ρ => (ρ[i]? = some (.lck a m) ∧ noL ρ i) ∧ E.rt d (ρ.set i (.own m)), fun ρ => (ρ[i]? = some (.lck a m) ∧ noL ρ i) ∧ E.bk (ρ.set i (.own m)), fun ρ => (ρ[i]? = some (.lck a m) ∧ noL ρ i) ∧ E.ct (ρ.set i (.own m))⟩
def dLkS (i : Nat) (ds : DS) : DS := fun E ρ => lckP ρ i fun a m => ds (lkEnds i a m E) (ρ.set i (.lck a m))
theorem sns_lk (i : Nat) {t : TS} {ds : DS} (h : SndS K t ds) : SndS K (tLock t) (dLkS i ds) := fun F σ H Hb ρ D E hK r hd en => by
  subst hK
  obtain ⟨m, e, hm, hd⟩ := lckP_ok hd
  obtain ⟨a, m', es, hat, nb, nf, h5⟩ := r.mine e rfl
  have em : m' = m ∧ F.al a := by rcases h5 with ⟨z, al⟩ | z <;> cases z; exact ⟨rfl, al⟩
  obtain ⟨rfl, al⟩ := em
  obtain ⟨u, hu, d, mu⟩ := hat.dictIs hm
  refine ⟨a, u, hu, mu, fun od => ?_⟩
  have out : ∀ {σ' : L2.St} {H' Hb' : Hp} {ρ' : Rho}, R (F.keep a (.frz od u)) σ' H' Hb' ρ' → ρ'[i]? = some (.lck a m') ∧ noL ρ' i → H' a = some (.frz od u) ∧ R F σ' (upd H' a u) Hb' (ρ'.set i (.own m')) := fun r' z => r'.lockOut z.1 z.2 nf al
  exact h (F.keep a (.frz od u)) σ _ Hb _ _ _ rfl (r.lockIn (od := od) e es nb nf d hu) (hd a)
    ⟨fun σ' H' Hb' ρ' r' b ⟨z, hq⟩ => ⟨(out r' z).1, en.nx _ _ Hb' _ (out r' z).2 b hq⟩, fun v x σ' H' Hb' ρ' r' b rp ⟨z, hq⟩ => ⟨(out r' z).1, en.rt _ x _ _ Hb' _ (out r' z).2 b rp hq⟩,
      fun σ' H' Hb' ρ' r' b ⟨z, hq⟩ => ⟨(out r' z).1, en.bk _ _ Hb' _ (out r' z).2 b hq⟩, fun σ' H' Hb' ρ' r' b ⟨z, hq⟩ => ⟨(out r' z).1, en.ct _ _ Hb' _ (out r' z).2 b hq⟩⟩
/-! ### what is walked -/
def keyD : Key → D
  | .inl i => .int i
  | .inr s => .str s
theorem rep_key {Hb : Hp} : ∀ k : Key, Rep K Hb (kV k) (keyD k)
  | .inl i => .int i
  | .inr s => .str s
theorem reps_key {Hb : Hp} : ∀ ks : List Key, RepAll K Hb (ks.map kV) (ks.map keyD)
  | [] => .nil
  | k :: r => .cons (rep_key k) (reps_key r)
def dIKeys (i : Nat) : DI := fun ρ Q => match ρ[i]? with
  | some (.lck _ (.dct es)) => Q (es.map fun p => keyD p.1) ρ
  | some (.lck _ (.dcu es)) => Q (es.map fun p => .tup (p.1.map keyD)) ρ
  | _ => False
theorem repKV_at {Hb : Hp} : ∀ {kvs : List (Key × V)} {es : List (Key × D)} {i : Nat} {p : Key × V}, RepKV K Hb kvs es → kvs[i]? = some p → ∃ d, es[i]? = some (p.1, d) ∧ Rep K Hb p.2 d
  | _, _, 0, _, .cons h _, e => by cases e; exact ⟨_, rfl, h⟩
  | _, _, i + 1, _, .cons _ t, e => repKV_at (i := i) t e
theorem repKT_at {Hb : Hp} : ∀ {kvs : List (List Key × V)} {es : List (List Key × D)} {i : Nat} {p : List Key × V}, RepKT K Hb kvs es → kvs[i]? = some p → ∃ d, es[i]? = some (p.1, d) ∧ Rep K Hb p.2 d
  | _, _, 0, _, .cons h _, e => by cases e; exact ⟨_, rfl, h⟩
  | _, _, i + 1, _, .cons _ t, e => repKT_at (i := i) t e
theorem sni_keys (i : Nat) : SndI K (iKeys (tVar i)) (dIKeys i) := fun F σ H Hb ρ Rk Qd hK r hd q => by
  subst hK
  unfold dIKeys at hd
  split at hd
  · rename_i a es e
    obtain ⟨v, es', ev, o, u, hf, d⟩ := r.at e
    subst ev
    obtain ⟨kvs, rfl, rk⟩ := d
    refine ⟨_, es', a, o, rfl, .inl ⟨kvs, r.fr _ _ hf, q _ _ H Hb ρ r (Same.refl _) ⟨fun j x H1 Hb1 s1 s2 s3 ex => ?_, fun j H1 Hb1 s1 s2 s3 ex => ⟨s3 _ _ (fz_at hf), by rw [List.length_map, ← rk.len] at ex; exact ex⟩⟩ hd⟩⟩
    rw [List.getElem?_map] at ex
    have hj : j < es.length := by
      cases z : es[j]? with
      | none => rw [z] at ex; cases ex
      | some _ => exact (List.getElem?_eq_some_iff.mp z).1
    refine ⟨⟨s3 _ _ (fz_at hf), by rw [rk.len]; exact hj⟩, ?_⟩
    rintro y H' ⟨rfl, k, v, ek, rfl⟩
    obtain ⟨d, ed, _⟩ := repKV_at rk ek
    rw [ed] at ex
    cases ex
    exact ⟨Hb1, Gr.refl s2, rep_key k⟩
  · rename_i a es e
    obtain ⟨v, es', ev, o, u, hf, d⟩ := r.at e
    subst ev
    obtain ⟨kvs, rfl, rk⟩ := d
    refine ⟨_, es', a, o, rfl, .inr ⟨kvs, r.fr _ _ hf, q _ _ H Hb ρ r (Same.refl _) ⟨fun j x H1 Hb1 s1 s2 s3 ex => ?_, fun j H1 Hb1 s1 s2 s3 ex => ⟨s3 _ _ (fz_at hf), by rw [List.length_map, ← rk.len] at ex; exact ex⟩⟩ hd⟩⟩
    rw [List.getElem?_map] at ex
    have hj : j < es.length := by
      cases z : es[j]? with
      | none => rw [z] at ex; cases ex
      | some _ => exact (List.getElem?_eq_some_iff.mp z).1
    refine ⟨⟨s3 _ _ (fz_at hf), by rw [rk.len]; exact hj⟩, ?_⟩
    rintro y H' ⟨rfl, k, v, p, ek, rfl, hp⟩
    obtain ⟨d, ed, _⟩ := repKT_at rk ek
    rw [ed] at ex
    cases ex
    obtain ⟨Hb', g, e'⟩ := Gr.tupS s2 (Same.refl _) hp
    exact ⟨Hb', g, .tup e' (reps_key k)⟩
  · exact hd.elim
end PL
namespace PL
open PySem PySem.Spec PyProof.Rows L2 TB
/-! ### {t: v}, one pair, its key a tuple -/
def tDispT (tk tv : TE) : TE := fun σ H Q => ∀ p, H p = none → tPairs [(tk, tv)] σ (upd H p (.dT [])) fun ps H2 => H2 p = some (.dT []) ∧ ∃ (k : List Key) (b : Addr) (y : V), ps = [(.ref b, y)] ∧ H2 b = some (.tup (k.map kV)) ∧ Q (.ref p) (upd H2 p (.dT (putK [] k y)))
theorem pe_dispT {X : Cx} {pos : Pos} {k v : Expr} {tk tv : TE} (hu : X.A.units + 64 < cLine) (hk : PE X k tk) (hv : PE X v tv) : PE X (.Dict [some k] [v] pos) (tDispT tk tv) := by
  refine ⟨fun pins s σ H Q I q => ?_⟩
  have hn := I.hok.fresh (Nat.le_refl s.heap.objs.size)
  have I1 := I.laid (a := s.heap.objs.size) (o := .dT []) (h' := s.heap.push { cls := .type "dict", data := .dict #[] }) (t' := s.toks) (fun _ _ q => Heap.get?_push_of_some _ q) (Nat.le_refl _) (dt_empty s.heap I.big)
  refine wpAny_Dict_any (by rfl) (by rfl) nofun (by show 1 ≤ 15; decide) (thn ((pps_cons hk hv pps_nil).run pins _ σ _ _ I1 (q _ hn)) fun ws s2 ⟨ps, H2, I2, rel, e, ks, b, y, ep, eb, q2⟩ => ?_)
  subst ep
  cases rel with
  | @cons a0 w as0 ws0 h t =>
    cases t
    obtain ⟨h1, h2⟩ := h
    obtain ⟨w1, w2⟩ := w
    cases (show w1 = Value.ref b from h1)
    obtain ⟨z, hd, xs, r0, dd⟩ := dt_of I2.hok e
    have hz : xs.length ≤ sizeLine := by rw [← Paired.length r0]; exact Nat.zero_le _
    unfold storeAll
    rw [List.forIn_cons]
    refine wpAny_bind (wpAny_bind ?_)
    refine wpAny_dictSet_heap (knd := tupleKind (mixKind X.prog X.w)) (hsz := hz) (Nat.lt_of_le_of_lt (Nat.le_add_right _ 64) hu) (key_of I2.hok eb) dd fun h' dd' hs => ?_
    refine wpAny_pure ?_
    refine wpAny_pure ?_
    obtain ⟨q, es, ep, hq, h2', h3, h4, _, h5⟩ := dd'
    have new : ObjOk X.prog X.w (upd H2 s.heap.objs.size (.dT (putK [] ks y))) h' s.heap.objs.size (.dT (putK [] ks y)) := by
      refine ⟨?_, hd, _, (r0.put ks eb h2).keeps fun c ys ec => ?_, q, es, ep, hq, h2', h3, h4, h5⟩
      · show 1 ≤ sizeLine
        rw [sizeLine_eq]
        decide
      · rw [upd_ne (ne_of ec e (fun z => nomatch z))]
        exact ec
    exact ⟨.ref s.heap.objs.size, _, d_write I2 (by rw [e]; exact True.intro) hs ⟨q, hq⟩ new, rfl, q2⟩
/-! ### the same over data -/
def dDispT (da dv : DE) : DN := fun ρ Q => da ρ fun x ρ1 => dv ρ1 fun y ρ2 => match x with
  | .tup ds => optD (keyFs ds) fun ks => Q (.dcu (putD [] ks y)) ρ2
  | _ => False
variable {K : PySem.W.Frag}
theorem snd_dispT {tk tv : TE} {da dv : DE} (hk : SndE K tk da) (hv : SndE K tv dv) : SndN K (tDispT tk tv) (dDispT da dv) := fun F σ H Hb ρ Q Qd hK r hd q p np => by
  subst hK
  have nf : F.fr p = none := by
    cases e : F.fr p with
    | none => rfl
    | some u => rw [r.fr _ _ e] at np; cases np
  have al := r.nw p np
  have rk := r.enterK np (same_new np) (upd_same (o := .dT []))
  refine hk (F.keep p (.dT [])) σ _ Hb ρ _ _ rfl rk hd fun v d H1 Hb1 ρ1 r1 b1 p1 q1 => hv (F.keep p (.dT [])) σ H1 Hb1 ρ1 _ _ rfl r1 q1 fun w y H2 Hb2 ρ2 r2 b2 p2 q2 => ?_
  obtain ⟨q3, q4, q5, q6⟩ := r2.leaveK trivial nf al
  have p1 := Rep.mono b2 _ _ p1
  cases d with
  | tup ds =>
    obtain ⟨ks, ek, q2⟩ := optD_ok q2
    cases p1 with
    | tup h1 h2 =>
      rename_i b xs
      have ev := h2.keyFs ek
      subst ev
      refine ⟨q6, ks, b, w, rfl, r2.sub _ _ h1, ?_⟩
      have s2 : Same (sans H2 p) (upd H2 p (.dT (putK [] ks w))) := fun c o e => by
        have hb : c ≠ p := fun z => by rw [z, q5] at e; cases e
        rw [upd_ne hb]
        exact q4 _ _ e
      exact q p (.dcu (putD [] ks y)) (sans H2 p) _ Hb2 ρ2 q3 (b1.trans b2) q5 s2 ⟨_, upd_same, RepKT.put .nil p2⟩ q2
  | _ => exact q2.elim
end PL
namespace PL
open PySem PySem.Spec PyProof.Rows L2 TB
/-! ### max(t), t a tuple of ints -/
def rMaxT (K : PySem.W.Frag) : List V → Hp → VK → Prop := fun vs H Q => ∃ (a : Addr) (ns : List Int), vs = [V.ref a] ∧ SqT K H a (ns.map V.int) ∧ 0 < ns.length ∧ ∀ m, m ∈ ns → (∀ y, y ∈ ns → y ≤ m) → Q (.int m) H
def maxI (x : Int) (xs : List Int) : Int := xs.foldl (fun a y => if a < y then y else a) x
theorem maxI_ge : ∀ (xs : List Int) (x : Int), x ≤ maxI x xs ∧ ∀ y ∈ xs, y ≤ maxI x xs
  | [], x => ⟨Int.le_refl _, fun y hy => by cases hy⟩
  | z :: r, x => by
    have e : maxI x (z :: r) = maxI (if x < z then z else x) r := rfl
    rw [e]
    by_cases c : x < z
    · rw [if_pos c]
      obtain ⟨h1, h2⟩ := maxI_ge r z
      refine ⟨by omega, fun y hy => ?_⟩
      cases hy with
      | head => exact h1
      | tail _ hy => exact h2 y hy
    · rw [if_neg c]
      obtain ⟨h1, h2⟩ := maxI_ge r x
      refine ⟨h1, fun y hy => ?_⟩
      cases hy with
      | head => omega
      | tail _ hy => exact h2 y hy
theorem maxI_mem : ∀ (xs : List Int) (x : Int), maxI x xs ∈ x :: xs
  | [], x => List.mem_cons_self ..
  | z :: r, x => by
    have e : maxI x (z :: r) = maxI (if x < z then z else x) r := rfl
    rw [e]
    have h := maxI_mem r (if x < z then z else x)
    split at h
    · rename_i c
      rw [if_pos c]
      exact List.mem_cons_of_mem _ h
    · rename_i c
      rw [if_neg c]
      rcases List.mem_cons.mp h with h | h
      · rw [h]; exact List.mem_cons_self ..
      · exact List.mem_cons_of_mem _ (List.mem_cons_of_mem _ h)
theorem maxD_int : ∀ (xs : List Int) (x : Int), PySem.W.maxD (.int x) (xs.map .int) = .int (maxI x xs)
  | [], x => rfl
  | z :: r, x => by
    have e : PySem.W.maxD (.int x) ((z :: r).map .int) = PySem.W.maxD (if PySem.W.dataLt (.int x) (.int z) = true then .int z else .int x) (r.map .int) := rfl
    rw [e, PySem.W.dataLt_int]
    have e2 : maxI x (z :: r) = maxI (if x < z then z else x) r := rfl
    rw [e2]
    by_cases c : x < z
    · rw [if_pos c, if_pos (decide_eq_true c)]; exact maxD_int r z
    · rw [if_neg c, if_neg (by rw [decide_eq_false c]; decide)]; exact maxD_int r x
theorem reads_ints {h : Heap} : ∀ {vs : List Value} {ns : List Int}, Vals (ns.map V.int) vs → ReadsAll h vs (ns.map PyData.int) []
  | _, [], r => by cases r; exact .nil
  | _, n :: ns, r => by
    rw [List.map_cons] at r ⊢
    cases r with
    | cons h1 h2 =>
      obtain ⟨t, rfl⟩ := h1
      exact ReadsAll.cons (as := []) (bs := []) (.int n t) (reads_ints h2)
theorem ints_alike (ns : List Int) : PySem.W.AlikeAll (ns.map PyData.int) := ⟨fun x hx y hy => by
  obtain ⟨a, _, rfl⟩ := List.mem_map.mp hx
  obtain ⟨b, _, rfl⟩ := List.mem_map.mp hy
  rfl, fun x hx => by
  obtain ⟨a, _, rfl⟩ := List.mem_map.mp hx
  exact fun z => nomatch z⟩
theorem ints_depth : ∀ ns : List Int, PyData.depthAll (ns.map PyData.int) = 0
  | [] => rfl
  | n :: r => by
    show max (PyData.depth (.int n)) (PyData.depthAll (r.map PyData.int)) = 0
    rw [ints_depth r]
    rfl
theorem call_maxT {X : Cx} (hc : X.calm = true) (hu : X.A.units + 64 < cLine) : CallR X (.builtin "max") (rMaxT X.K) := by
  intro pins s σ H vs us Q I r h
  obtain ⟨a, ns, rfl, hs, hne, q⟩ := h
  obtain ⟨its, rv, hl, _⟩ := I.tuple hs
  rw [Vals.ref1 r]
  cases ns with
  | nil => cases hne
  | cons x xs =>
    refine PySem.W.max_tuple_data (I.ok.hd hc) hl (reads_ints rv) (ints_alike (x :: xs)) (by rw [show PyData.depthAll (PyData.int x :: xs.map PyData.int) = 0 from ints_depth (x :: xs)]; omega) fun i v h' tk bs hi hr hk => ?_
    rw [maxD_int] at hr
    cases hr with
    | int _ t =>
      refine ⟨.int (maxI x xs), H, I.kept hk, ⟨t, rfl⟩, q _ (maxI_mem xs x) fun y hy => ?_⟩
      cases hy with
      | head => exact (maxI_ge xs x).1
      | tail _ hy => exact (maxI_ge xs x).2 y hy
/-! ### over data: max(t), divmod, xs.extend(ys) -/
variable {K : PySem.W.Frag}
def fMaxT (ds : List D) (k : D → Prop) : Prop := arg1 ds fun d => match d with
  | .tup xs => optD (intL xs) fun ns => ns ≠ [] ∧ ∀ m, m ∈ ns → (∀ y, y ∈ ns → y ≤ m) → k (.int m)
  | _ => False
theorem s_maxT : CallS K (rMaxT K) fMaxT := fun H Hb vs ds Q Qd s hv h q => by
  obtain ⟨v, d, rfl, rfl, vd, h⟩ := hv.one h
  cases d with
  | tup xs =>
    obtain ⟨ns, e, n0, h⟩ := optD_ok h
    obtain ⟨a, us, rfl, h1, h2, h3⟩ := vd.tup s
    cases intL_rep h3 e
    exact ⟨a, ns, rfl, h1, List.length_pos_iff.mpr n0, fun m hm hy => q _ _ H Hb (Gr.refl s) (.int _) (h m hm hy)⟩
  | _ => exact h.elim
def fDivmod (ds : List D) (k : D → Prop) : Prop := arg2 ds fun d e => int2 d e fun i j => CDivP i j ∧ k (.tup [.int (i / j), .int (i % j)])
theorem s_divmod : CallS K (fun xs H Q => ∃ i j, xs = [.int i, .int j] ∧ CDivP i j ∧ ∀ p, H p = none → Q (.ref p) (upd H p (.tup [.int (i / j), .int (i % j)]))) fDivmod := fun H Hb vs ds Q Qd s hv h q => by
  obtain ⟨v, w, d, e, rfl, rfl, vd, ve, h⟩ := hv.two h
  obtain ⟨i, j, rfl, rfl, c, h⟩ := int2_ok h
  cases vd.int
  cases ve.int
  refine ⟨i, j, rfl, c, fun p n => ?_⟩
  have g := Gr.new (o := .tup [.int (i / j), .int (i % j)]) s n
  exact q _ _ _ _ g (.tup upd_same (.cons (.int _) (.cons (.int _) .nil))) h
def mExtend (ds xs : List D) (k : D → List D → Prop) : Prop := arg1 xs fun d => lst1 d fun es => ds.length + es.length ≤ 1000000 ∧ k .non (ds ++ es)
theorem s_extend : MtS K rExtend mExtend := fun H Hb a ys vs ds xs Q Qd s e ry ra h q => by
  obtain ⟨v, d, rfl, rfl, rp, h⟩ := ra.one1 h
  obtain ⟨es, rfl, hz, h⟩ := lst1_ok h
  cases rp with
  | lst h1 h2 =>
    refine ⟨a, _, ys, _, rfl, rfl, e, s _ _ h1, by rw [ry.len, h2.len, sizeLine_eq]; omega, q _ _ _ _ (ry.append h2) .non h⟩
end PL
namespace PL
open PySem PySem.Spec PyProof.Rows L2 TB
/-! ### a def that makes a list or a dict and gives it away -/
def spM (K : PySem.W.Frag) (p : List D → (M → Prop) → Prop) : Sp := fun vs H Q _ => ∃ Hb ds Qd, Same Hb H ∧ RepAll K Hb vs ds ∧ p ds Qd ∧ ∀ q m H1 H' Hb', Gr H Hb H1 Hb' → H1 q = none → Same H1 H' → MAt K Hb' H' q m → Qd m → Q (.ref q) H'
def pdm (n : Nat) (p : List D → (M → Prop) → Prop) : List D → (M → Prop) → Prop := fun as Q => as.length = n ∧ p as Q
theorem lenM {K : PySem.W.Frag} {n : Nat} {p : List D → (M → Prop) → Prop} {vs : List V} {H : Hp} {Q : VK} {E : XK} (h : spM K (pdm n p) vs H Q E) : vs.length = n := by
  obtain ⟨Hb, ds, Qd, _, ra, hp, _⟩ := h
  rw [ra.len]
  exact hp.1
def retM (i : Nat) (Qd : M → Prop) (ρ : Rho) : Prop := match ρ[i]? with
  | some (.own m) => Qd m
  | _ => False
variable {K : PySem.W.Frag}
theorem runM {t tp : TS} {ds : DS} {N : List Str} {p : List D → (M → Prop) → Prop} {vs : List V} {H : Hp} {Q : VK} {E : XK} (i : Nat) (ht : ∀ D σ H, tp { D with nx := tRet (tVar i) D } σ H → t D σ H) (hs : SndS K tp ds) (h : spM K p vs H Q E) (hn : ∀ as Qd, p as Qd → as.length ≤ N.length)
    (body : ∀ as Qd, p as Qd → ds ⟨retM i Qd, fun _ _ => False, fun _ => False, fun _ => False⟩ (startC N.length (as.map .val))) : t { nx := fun _ H' => Q .non H', rt := Q } (L2.start N vs) H := by
  obtain ⟨Hb, as, Qd, sb, ra, hp, q⟩ := h
  have hl := ra.len
  have hn := hn _ _ hp
  have r0 : R ⟨K, H, fun b => Hb b ≠ none ∨ H b = none⟩ (L2.start N vs) H Hb (startC N.length (as.map .val)) := by
    refine ⟨sb, Same.refl _, fun b e => .inl (.inl e), fun b e => .inr e, ?_, fun i c v e1 e2 => ?_, fun i j c d a n e1 _ m1 _ _ => ?_⟩
    · unfold L2.start startC
      simp
      omega
    · rcases start_at (by rw [List.length_map]; exact hl) e1 e2 with ⟨h1, x, h2, rfl⟩ | rfl
      · rw [List.getElem?_map] at h1
        obtain ⟨d, h3, h4⟩ := ra.get' h2
        rw [h3] at h1
        cases h1
        exact ⟨x, rfl, h4⟩
      · trivial
    · unfold startC at e1
      by_cases hi : i < (as.map Cell.val).length
      · rw [List.getElem?_append_left hi, List.getElem?_map] at e1
        cases q : as[i]? with
        | none => rw [q] at e1; cases e1
        | some d => rw [q] at e1; cases e1; cases m1
      · rw [List.getElem?_append_right (by omega), List.getElem?_replicate] at e1
        split at e1
        · cases e1; cases m1
        · cases e1
  refine ht _ _ _ (hs _ _ H Hb _ _ _ rfl r0 (body as Qd hp) ⟨fun σ' H' Hb' ρ' r s hq => ?_, fun _ _ _ _ _ _ _ _ _ z => z.elim, fun _ _ _ _ _ _ z => z.elim, fun _ _ _ _ _ _ z => z.elim⟩)
  have hq : retM i Qd ρ' := hq
  unfold retM at hq
  split at hq
  · rename_i m e
    obtain ⟨a, m', es, hm, nb, nf, h5⟩ := r.mine e rfl
    have em : m' = m := by rcases h5 with ⟨z, _⟩ | z <;> cases z; rfl
    subst em
    have nf : H a = none := nf
    have ne : ∀ b, b ≠ a → sans H' a b = H' b := fun b h => if_neg h
    refine ⟨.ref a, es, q a m' (sans H' a) H' Hb' ⟨fun b o eb => ?_, s, fun b o eb => ?_, fun c ec => ?_⟩ (if_pos rfl) (fun b o eb => ?_) hm hq⟩
    · have hb : b ≠ a := fun z => by rw [z, nf] at eb; cases eb
      rw [ne b hb]
      exact r.fr _ _ eb
    · have hb : b ≠ a := fun z => by rw [z, nb] at eb; cases eb
      rw [ne b hb]
      exact r.sub _ _ eb
    · have hc : c ≠ a := fun z => ec (by rw [z]; exact nb)
      rcases r.al c ec with (z | z) | ⟨xs, z⟩
      · exact .inl z
      · exact .inr (.inl z)
      · refine .inr (.inr ⟨xs, ?_⟩)
        rcases z with z | ⟨o, z⟩
        · exact .inl (by rw [ne c hc]; exact z)
        · exact .inr ⟨o, by rw [ne c hc]; exact z⟩
    · by_cases hb : b = a
      · rw [hb, show sans H' a a = none from if_pos rfl] at eb; cases eb
      · rw [ne b hb] at eb; exact eb
  · exact hq.elim
theorem snd_callM {p : List D → (M → Prop) → Prop} {n : Nat} {t : TA} {da : DA} {E : XK} (h : SndA K n t da) : SndN K (tCall (spM K p) [] E t) (dCallN p da) := fun F σ H Hb ρ Q Qd hK r hd q =>
  h F σ H Hb ρ _ _ hK r hd fun vs ds H1 Hb1 ρ1 r1 b1 ra _ hp => by
    rw [List.append_nil]
    exact ⟨Hb1, ds, _, r1.sub, ra, hp, fun a m H2 H' Hb' g n s hm hq => q a m H2 H' Hb' ρ1 (r1.grow g) (b1.trans g.b) n s hm hq⟩
end PL
namespace PL
open PySem PySem.Spec PyProof.Rows L2 TB
/-! ### sorted(d), d one's own dict whose keys are tuples: its keys in some order -/
/-- ints and texts at the same places -/
def kShape (sh : Nat → Bool) : Nat → List Key → Bool
  | _, [] => true
  | i, .inl _ :: r => !sh i && kShape sh (i + 1) r
  | i, .inr _ :: r => sh i && kShape sh (i + 1) r
theorem kShape_items {sh : Nat → Bool} : ∀ {ks : List Key} {its : List Value} (i : Nat), Vals (ks.map kV) its → kShape sh i ks = true → ∃ l, PyProof.Rows.tupItems sh i its = some l
  | [], _, _, .nil, _ => ⟨[], by simp [PyProof.Rows.tupItems]⟩
  | .inl n :: r, _ :: us, i, .cons h t, e => by
    obtain ⟨t0, rfl⟩ := h
    have e' : (!sh i && kShape sh (i + 1) r) = true := e
    rw [Bool.and_eq_true] at e'
    obtain ⟨l, el⟩ := kShape_items (i + 1) t e'.2
    have es : sh i = false := by simpa using e'.1
    exact ⟨Sum.inl n :: l, by simp [PyProof.Rows.tupItems, es, el]⟩
  | .inr x :: r, _ :: us, i, .cons h t, e => by
    obtain ⟨t0, rfl⟩ := h
    have e' : (sh i && kShape sh (i + 1) r) = true := e
    rw [Bool.and_eq_true] at e'
    obtain ⟨l, el⟩ := kShape_items (i + 1) t e'.2
    exact ⟨Sum.inr x.cps.toList :: l, by simp [PyProof.Rows.tupItems, e'.1, el]⟩
theorem kShape_tup {sh : Nat → Bool} {h : Heap} {a : Addr} {ks : List Key} {its : List Value} (hv : Vals (ks.map kV) its) (hT : IsTup h a its.toArray) (hn : ks ≠ []) (e : kShape sh 0 ks = true) :
    (∃ f, PyProof.Rows.TupOf h sh (.ref a) f) ∧ ∃ l, PyProof.Rows.G.tupKeyC h sh (.ref a) = some l := by
  obtain ⟨o, ho, hc, n, hd⟩ := hT
  refine ⟨?_, ?_⟩
  · match ks, its, hv, e with
    | [], _, _, _ => exact absurd rfl hn
    | .inl i :: r, _ :: us, .cons h t, e =>
      obtain ⟨t0, rfl⟩ := h
      have e' : (!sh 0 && kShape sh 1 r) = true := e
      rw [Bool.and_eq_true] at e'
      have es : sh 0 = false := by simpa using e'.1
      exact ⟨_, a, o, _, n, rfl, ho, hc, hd, rfl, fun _ => ⟨_, _, rfl⟩, fun z => (by rw [es] at z; cases z)⟩
    | .inr x :: r, _ :: us, .cons h t, e =>
      obtain ⟨t0, rfl⟩ := h
      have e' : (sh 0 && kShape sh 1 r) = true := e
      rw [Bool.and_eq_true] at e'
      exact ⟨_, a, o, _, n, rfl, ho, hc, hd, rfl, fun z => (by rw [e'.1] at z; cases z), fun _ => ⟨_, _, rfl⟩⟩
  · obtain ⟨l, el⟩ := kShape_items 0 hv e
    refine ⟨l, ?_⟩
    have e1 : PyProof.Rows.G.isTupObj h (.ref a) = true := by simp [PyProof.Rows.G.isTupObj, ho, hc]
    unfold PyProof.Rows.G.tupKeyC
    rw [if_pos e1]
    simp [PyProof.Rows.tupKey, ho, hd, el]
theorem perm_of_map {α β : Type} (f : α → β) : ∀ (m : List α) (l : List β), l.Perm (m.map f) → ∃ m' : List α, m'.Perm m ∧ l = m'.map f
  | [], l, h => ⟨[], .refl _, by simpa using h⟩
  | x :: m, l, h => by
    have hx : f x ∈ l := h.symm.subset (by simp)
    obtain ⟨l1, l2, rfl⟩ := List.append_of_mem hx
    have h2 : (f x :: (l1 ++ l2)).Perm (f x :: m.map f) := List.perm_middle.symm.trans h
    obtain ⟨m', p, e⟩ := perm_of_map f m (l1 ++ l2) h2.cons_inv
    obtain ⟨a, b, em, ea, eb⟩ := List.map_eq_append_iff.mp e.symm
    subst em ea eb
    exact ⟨a ++ x :: b, List.perm_middle.trans (p.cons x), by simp⟩
def rSortD (K : PySem.W.Frag) : List V → Hp → VK → Prop := fun vs H Q => ∃ (a : Addr) (kvs : List (List Key × V)) (sh : Nat → Bool), vs = [V.ref a] ∧ Rd H a (.dT kvs) ∧ (∀ p ∈ kvs, p.1 ≠ [] ∧ kShape sh 0 p.1 = true) ∧
  ∀ (zs : List (Addr × List Key)) (p : Addr), (zs.map (·.2)).Perm (kvs.map (·.1)) → (∀ z ∈ zs, H z.1 = some (.tup (z.2.map kV))) → H p = none → Q (.ref p) (upd H p (.lst (zs.map fun z => V.ref z.1)))
theorem paired_fst {H : Hp} : ∀ {kvs : List (List Key × V)} {xs : List (List Key × Addr × Value)}, KT H kvs xs → kvs.map (·.1) = xs.map (·.1) ∧ ∀ x ∈ xs, H x.2.1 = some (.tup (x.1.map kV))
  | _, _, .nil => ⟨rfl, fun _ h => nomatch h⟩
  | _, _, .cons h t => by
    obtain ⟨e1, e2⟩ := paired_fst t
    obtain ⟨h1, h2, h3⟩ := h
    refine ⟨by rw [List.map_cons, List.map_cons, e1, h1], fun x hx => ?_⟩
    rcases List.mem_cons.mp hx with rfl | hx
    · rw [← h1]; exact h2
    · exact e2 x hx
theorem tupsOf_all {h : Heap} {sh : Nat → Bool} : ∀ (vs : List Value), (∀ v ∈ vs, ∃ f, PyProof.Rows.TupOf h sh v f) → ∃ fs, PyProof.Rows.TupsOf h sh vs fs
  | [], _ => ⟨[], .nil⟩
  | v :: vs, q => by
    obtain ⟨f, hf⟩ := q v List.mem_cons_self
    obtain ⟨fs, hfs⟩ := tupsOf_all vs fun u hu => q u (List.mem_cons_of_mem _ hu)
    exact ⟨f :: fs, .cons hf hfs⟩
theorem vals_refs {κ : Type} : ∀ zs : List (Addr × κ), Vals (zs.map fun z => V.ref z.1) (zs.map fun z => Value.ref z.1)
  | [] => .nil
  | _ :: r => .cons rfl (vals_refs r)
theorem objOk_some {P : Program} {w : World} {H : Hp} {h : Heap} {a : Addr} {o : HO} (x : ObjOk P w H h a o) : ∃ u, h.get? a = some u := by
  cases o with
  | lst xs => obtain ⟨_, _, _, _, e⟩ := x; exact ⟨_, e⟩
  | tup xs => obtain ⟨_, _, _, o, e, _⟩ := x; exact ⟨_, e⟩
  | dK kvs => obtain ⟨_, _, _, _, o, _, _, e, _⟩ := x; exact ⟨_, e⟩
  | dT kvs => obtain ⟨_, _, _, _, o, _, _, e, _⟩ := x; exact ⟨_, e⟩
  | set S n => obtain ⟨o, _, _, _, e, _⟩ := x; exact ⟨_, e⟩
  | ins C dx fs => obtain ⟨_, _, _, e, _⟩ := x; exact ⟨_, e⟩
  | own y => exact x
  | xd fs => obtain ⟨_, ⟨_, _, _, e, _⟩, _⟩ := x; exact ⟨_, e⟩
  | rng lo hi => obtain ⟨_, _, _, e⟩ := x; exact ⟨_, e⟩
  | frz ob u => obtain ⟨e, _⟩ := x; exact ⟨_, e⟩
  | tbl ps => exact ⟨_, (show h.get? a = some _ from x)⟩
  | met f y => exact ⟨_, (show h.get? a = some _ from x)⟩
  | ext φ => exact x.2.1
variable {X : Cx}
theorem cr_sortD (hc : X.calm = true) : CallR X (.builtin "sorted") (rSortD X.K) := by
  intro pins s σ H vs us Q I r h
  obtain ⟨a, kvs, sh, rfl, ha, hsh, q⟩ := h
  obtain rfl := Vals.ref1 r
  obtain ⟨z, hsys, xs, rel, o, es, ep, ho, hx, hdat, hes, his, hn⟩ := dt_rd I.hok ha
  obtain ⟨ek, hkt⟩ := paired_fst rel
  have l2 : es.size = xs.length := size_of_entries hes
  have l1 : kvs.length = xs.length := Paired.length rel
  have hz : es.size ≤ sizeLine := by rw [l2, ← l1]; exact z
  have hraw : s.heap.DictRaw a es ep := ⟨o, ho, hx, hdat⟩
  refine Calls.call_function_entry kind_sorted plain_sorted entry_sorted (args_sorted1 _) ?_
  unfold Builtin.«sorted»
  refine wpAny_bind (m := checkCount "sorted" 1 1 _) (wpAny_pure ?_)
  refine wpAny_bind (PySem.W.kdu_collect (A := X.A.in1) (KdlSrc.rawDict hsys) (I.ok.hd hc) hraw hz fun h' tk acc hk hacc => ?_)
  -- what was collected
  have eacc : acc.toList = (xs.map fun x => ((x.2.1, x.1) : Addr × List Key)).map fun z => Value.ref z.1 := by
    refine List.ext_getElem? fun j => ?_
    cases ej : acc.toList[j]? with
    | none =>
      have hj := List.getElem?_eq_none_iff.mp ej
      rw [Array.length_toList, hacc.1, l2] at hj
      rw [List.getElem?_eq_none (by simpa using hj)]
    | some v =>
      obtain ⟨hi, rfl⟩ := hacc.2 j v (by rw [← Array.getElem?_toList]; exact ej)
      have e1 := entry_at hes j
      rw [Array.getElem?_eq_getElem hi] at e1
      cases e2 : xs[j]? with
      | none => rw [e2] at e1; cases e1
      | some x =>
        rw [e2] at e1
        have e3 : es[j] = entryOfKey (tupleKind (mixKind X.prog X.w)) x := Option.some.inj e1
        rw [e3, List.map_map, List.getElem?_map, e2] <;> rfl
  generalize hL : (xs.map fun x => ((x.2.1, x.1) : Addr × List Key)) = L at eacc
  have hLk : ∀ z ∈ L, H z.1 = some (.tup (z.2.map kV)) ∧ z.2 ≠ [] ∧ kShape sh 0 z.2 = true := fun z hz => by
    rw [← hL] at hz
    obtain ⟨x, hx, rfl⟩ := List.mem_map.mp hz
    refine ⟨hkt x hx, ?_⟩
    have hm : x.1 ∈ kvs.map (·.1) := by rw [ek]; exact List.mem_map.mpr ⟨x, hx, rfl⟩
    obtain ⟨p, hp, e⟩ := List.mem_map.mp hm
    rw [← e]
    exact hsh p hp
  have eL : L.map (·.2) = kvs.map (·.1) := by rw [ek, ← hL, List.map_map]; rfl
  have lL : L.length ≤ sizeLine := by
    have e := congrArg List.length eL
    rw [List.length_map, List.length_map] at e
    rw [e]; exact z
  rw [eacc]
  refine wpAny_bind (wpAny_newList ?_ (by rw [List.length_map]; exact lL))
  have hoL : (h'.push { cls := .type "list", data := .seq (L.map fun z => Value.ref z.1).toArray }).get? h'.objs.size = some (seqObj "list" (L.map fun z => Value.ref z.1).toArray 0) := Heap.get?_push_size _ rfl
  have kb : ∀ b o, s.heap.get? b = some o → (h'.push { cls := .type "list", data := .seq (L.map fun z => Value.ref z.1).toArray }).get? b = some o := fun b o e => Heap.get?_push_of_some _ (hk b o e)
  have gone : s.heap.get? h'.objs.size = none := by
    cases e : s.heap.get? h'.objs.size with
    | none => rfl
    | some u => exact absurd (Heap.lt_size (hk _ _ e)) (Nat.lt_irrefl _)
  have hfr : H h'.objs.size = none := by
    cases e : H h'.objs.size with
    | none => rfl
    | some u =>
      obtain ⟨o', e'⟩ := objOk_some (I.hok _ _ e)
      rw [gone] at e'; cases e'
  have tup : ∀ z ∈ L, ∃ its : List Value, Vals (z.2.map kV) its ∧ IsTup (h'.push { cls := .type "list", data := .seq (L.map fun z => Value.ref z.1).toArray }) z.1 its.toArray := fun z hz => by
    obtain ⟨its, rv, hT, _⟩ := I.tuple (.inl (.inl (hLk z hz).1))
    obtain ⟨o, h1, h2⟩ := hT
    exact ⟨its, rv, o, kb _ _ h1, h2⟩
  obtain ⟨fs, hfs⟩ := tupsOf_all (h := h'.push { cls := .type "list", data := .seq (L.map fun z => Value.ref z.1).toArray }) (sh := sh) (L.map fun z => Value.ref z.1) fun v hv => by
    obtain ⟨z, hz, rfl⟩ := List.mem_map.mp hv
    obtain ⟨its, rv, hT⟩ := tup z hz
    exact (kShape_tup rv hT (hLk z hz).2.1 (hLk z hz).2.2).1
  have hks : ∀ v, v ∈ (L.map fun z => Value.ref z.1) → ∃ l, PyProof.Rows.G.tupKeyC (h'.push { cls := .type "list", data := .seq (L.map fun z => Value.ref z.1).toArray }) sh v = some l := fun v hv => by
    obtain ⟨z, hz, rfl⟩ := List.mem_map.mp hv
    obtain ⟨its, rv, hT⟩ := tup z hz
    exact (kShape_tup rv hT (hLk z hz).2.1 (hLk z hz).2.2).2
  generalize hh2 : h'.push { cls := .type "list", data := .seq (L.map fun z => Value.ref z.1).toArray } = h2 at hoL kb hfs hks ⊢
  refine wpAny_bind (wpAny_holding (wpAny_call_entry slot_list_sort ⟨_, hoL, rfl⟩ entry_list_sort (PyProof.Rows.G.list_sort_tups (s := { s with heap := h2, toks := tk }) hoL hfs hks (by rw [List.length_map]; exact lL) fun st' a1 a2 a3 => ⟨_, rfl, ?_⟩) (args_list_sort _)))
  refine wpAny_pure ⟨_, rfl, ?_⟩
  have hp : ((arrOf st').map (·.2)).toList.Perm (L.map fun z => Value.ref z.1) := by
    have e1 := (Array.perm_iff_toList_perm.mp a1).map (·.2)
    rw [pairsOf_toList, List.map_snd_zip (Nat.le_refl _)] at e1
    rw [Array.toList_map]
    exact e1
  obtain ⟨zs, pz, ez⟩ := perm_of_map _ _ _ hp
  obtain ⟨ee, he⟩ := sortedHeap_at (out := (arrOf st').map (·.2)) hoL
  have old : ∀ b o, s.heap.get? b = some o → (sortedHeap h2 h'.objs.size (L.map fun z => Value.ref z.1) ((arrOf st').map (·.2))).get? b = some o := fun b o e => by
    have hb : b < h'.objs.size := Heap.lt_size (hk _ _ e)
    have hb2 : b < h2.objs.size := Heap.lt_size (kb _ _ e)
    rw [sortedHeap_old (Nat.ne_of_lt hb) hb2]
    exact kb _ _ e
  have lz : zs.length ≤ sizeLine := by rw [pz.length_eq]; exact lL
  exact ⟨.ref _, upd H h'.objs.size (.lst (zs.map fun z => V.ref z.1)), I.laidN (o := .lst (zs.map fun z => V.ref z.1)) (t' := tk) old gone hfr ⟨by rw [List.length_map]; exact lz, zs.map (fun z => Value.ref z.1), ee, vals_refs zs, by rw [← ez]; exact he⟩, rfl, q zs _ ((pz.map _).trans (by rw [eL])) (fun z hz => (hLk z (pz.subset hz)).1) hfr⟩
/-! ### the same over data -/
variable {K : PySem.W.Frag}
def fSortU (sh : Nat → Bool) : D → (M → Prop) → Prop
  | .dcu es, k => (∀ p ∈ es, p.1 ≠ [] ∧ kShape sh 0 p.1 = true) ∧ ∀ ks : List (List Key), ks.Perm (es.map (·.1)) → k (.lst (ks.map fun k => .tup (k.map keyD)))
  | _, _ => False
theorem repKT_keys {Hb : Hp} : ∀ {kvs : List (List Key × V)} {es : List (List Key × D)}, RepKT K Hb kvs es → kvs.map (·.1) = es.map (·.1)
  | _, _, .nil => rfl
  | _, _, .cons _ t => congrArg (List.cons _) (repKT_keys t)
theorem gr_keys {H Hb : Hp} (h : Same Hb H) : ∀ zs : List (Addr × List Key), (∀ z ∈ zs, H z.1 = some (.tup (z.2.map kV))) → ∃ Hb', Gr H Hb H Hb' ∧ ∀ z ∈ zs, Hb' z.1 = some (.tup (z.2.map kV))
  | [], _ => ⟨Hb, Gr.refl h, fun _ z => nomatch z⟩
  | z :: zs, q => by
    obtain ⟨Hb1, g1, h1⟩ := gr_keys h zs fun y hy => q y (List.mem_cons_of_mem _ hy)
    obtain ⟨Hb2, g2, h2⟩ := Gr.tupS g1.sub (Same.refl _) (q z List.mem_cons_self)
    refine ⟨Hb2, g1.trans g2, fun y hy => ?_⟩
    rcases List.mem_cons.mp hy with rfl | hy
    · exact h2
    · exact g2.b _ _ (h1 y hy)
theorem rep_keys {Hb : Hp} : ∀ zs : List (Addr × List Key), (∀ z ∈ zs, Hb z.1 = some (.tup (z.2.map kV))) → RepAll K Hb (zs.map fun z => V.ref z.1) (zs.map fun z => D.tup (z.2.map keyD))
  | [], _ => .nil
  | z :: zs, q => .cons (.tup (q z List.mem_cons_self) (reps_key _)) (rep_keys zs fun y hy => q y (List.mem_cons_of_mem _ hy))
def dSortU (sh : Nat → Bool) (a : Opd) : DN := fun ρ Q => a.run ρ fun p ρ1 => p.res ρ1 fun d => fSortU sh d fun m => Q m ρ1
theorem snd_sortU (sh : Nat → Bool) {ta : TE} {a : Opd} (ha : SndO K ta a) : SndN K (tCB (rSortD K) (tCons ta tNil)) (dSortU sh a) := fun F σ H Hb ρ Q Qd hK rr h q => by
  subst hK
  show ta σ H fun x H1 => tNil σ H1 fun xs H2 => rSortD F.K (x :: xs) H2 Q
  refine SndO.use (t := ta) rfl rr ha h fun v p H1 Hb1 ρ1 r1 b1 o1 h1 => ?_
  obtain ⟨d, vd, h2⟩ := OpAt.res r1 o1 h1
  show rSortD F.K [v] H1 Q
  cases d with
  | dcu es =>
    obtain ⟨h3, h4⟩ := h2
    obtain ⟨a', kvs, rfl, rd, rk⟩ := vd.dcu' r1.sub
    have ek := repKT_keys rk
    refine ⟨a', kvs, sh, rfl, rd, fun p hp => ?_, fun zs p pz hz n => ?_⟩
    · have hm : p.1 ∈ es.map (·.1) := by rw [← ek]; exact List.mem_map.mpr ⟨p, hp, rfl⟩
      obtain ⟨x, hx, e⟩ := List.mem_map.mp hm
      rw [← e]
      exact h3 x hx
    · have hq := h4 (zs.map (·.2)) (by rw [← ek]; exact pz)
      have em : (zs.map (·.2)).map (fun k : List Key => D.tup (k.map keyD)) = zs.map fun z : Addr × List Key => D.tup (z.2.map keyD) := by rw [List.map_map]; rfl
      rw [em] at hq
      obtain ⟨Hb2, g, ht⟩ := gr_keys r1.sub zs hz
      exact q p (.lst (zs.map fun z : Addr × List Key => D.tup (z.2.map keyD))) H1 _ Hb2 ρ1 (r1.grow g) (b1.trans g.b) n (same_new n) ⟨_, upd_same, rep_keys zs ht⟩ hq
  | _ => exact h2.elim
/-! ### a walk over a list or a tuple -/
def iAny (K : PySem.W.Frag) (tl : TE) : TI := fun σ H R => tl σ H fun x H1 => ∃ a, x = .ref a ∧ (((∃ xs, SqL K H1 a xs) ∧ R (Itl K a) H1) ∨ ((∃ xs, SqT K H1 a xs) ∧ R (Itt K a) H1))
theorem pi_any {tg l : Expr} {tl : TE} (hl : PE X l tl) : PI X tg l (iAny X.K tl) := by
  refine ⟨fun pins s σ H R I h => ?_⟩
  refine thn (hl.run pins s σ H _ I h) fun v s1 ⟨x, H1, I1, r1, a, e, q⟩ => ?_
  subst e
  cases r1
  rcases q with ⟨⟨xs, hq⟩, q⟩ | ⟨⟨xs, hq⟩, q⟩
  · obtain ⟨its, rv, p, hz⟩ := I1.list hq
    refine wpAny_pyIter_list p.isList ?_
    exact ⟨s1.heap.objs.size, [s1.heap.objs.size], _, _, H1, rfl, I1.kept (t' := s1.toks) fun b o e => Heap.get?_push_of_some _ e, turn_list a _, ⟨_, Heap.get?_push_size _ rfl, rfl, rfl⟩, fun b hb => (by rw [List.mem_singleton.mp hb]; exact I1.fpOk (Nat.le_refl _) (I1.hok.fresh (Nat.le_refl _))), q⟩
  · obtain ⟨its, rv, p, hz⟩ := I1.tuple hq
    refine wpAny_pyIter_tuple (show s1.heap.IsTuple a its.toArray from p) ?_
    exact ⟨s1.heap.objs.size, [s1.heap.objs.size], _, _, H1, rfl, I1.kept (t' := s1.toks) fun b o e => Heap.get?_push_of_some _ e, turn_tuple a _, ⟨_, Heap.get?_push_size _ rfl, rfl, rfl⟩, fun b hb => (by rw [List.mem_singleton.mp hb]; exact I1.fpOk (Nat.le_refl _) (I1.hok.fresh (Nat.le_refl _))), q⟩
def dIAny (de : DE) : DI := fun ρ Q => de ρ fun d ρ1 => match d with
  | .tup ds => Q ds ρ1
  | .ktup ds => Q ds ρ1
  | .lst ds => Q ds ρ1
  | _ => False
theorem sni_any {t : TE} {de : DE} (h : SndE K t de) : SndI K (iAny K t) (dIAny de) := fun F σ H Hb ρ Rk Qd hK r hd q =>
  h F σ H Hb ρ _ _ hK r hd fun v d H' Hb' ρ' r' b rp hq => by
    have goT : ∀ {a : Addr} {xs : List V} {ds : List D}, (∀ H1 Hb1, Same Hb' Hb1 → Same Hb1 H1 → SqT K H1 a xs) → RepAll K Hb' xs ds → Qd ds ρ' → (∃ xs, SqT K H' a xs) ∧ Rk (Itt K a) H' := fun {a xs ds} h1 h2 hq => by
      refine ⟨⟨_, h1 H' Hb' (Same.refl _) r'.sub⟩, q _ ds H' Hb' ρ' r' b ⟨fun i d H Hb1 s1 s2 _ e => ?_, fun i H Hb1 s1 s2 _ e => ⟨_, h1 H Hb1 s1 s2, by rw [h2.len]; exact e⟩⟩ hq⟩
      obtain ⟨v, e1, e2⟩ := h2.get e
      refine ⟨⟨_, v, h1 H Hb1 s1 s2, e1⟩, fun x H' ⟨y1, y2⟩ => ?_⟩
      subst y1
      have := y2 _ (h1 H' Hb1 s1 s2)
      rw [e1] at this
      cases this
      exact ⟨Hb1, Gr.refl s2, Rep.mono s1 _ _ e2⟩
    cases rp with
    | tup h1 h2 => exact ⟨_, rfl, .inr (goT (fun H1 Hb1 s1 s2 => SqT.of (s2 _ _ (s1 _ _ h1))) h2 hq)⟩
    | ktup h1 h2 => exact ⟨_, rfl, .inr (goT (fun H1 Hb1 s1 s2 => h1 H1) h2 hq)⟩
    | lst h1 h2 =>
      rename_i a xs ds
      have h1 := SqL.of (K := K) h1
      refine ⟨a, rfl, .inl ⟨⟨_, r'.sub.seq h1⟩, q _ ds H' Hb' ρ' r' b ⟨fun i d H Hb1 s1 s2 _ e => ?_, fun i H Hb1 s1 s2 _ e => ⟨_, (s1.trans s2).seq h1, by rw [h2.len]; exact e⟩⟩ hq⟩⟩
      obtain ⟨v, e1, e2⟩ := h2.get e
      refine ⟨⟨_, v, (s1.trans s2).seq h1, e1⟩, fun x H' ⟨y1, y2⟩ => ?_⟩
      subst y1
      have := y2 _ ((s1.trans s2).seq h1)
      rw [e1] at this
      cases this
      exact ⟨Hb1, Gr.refl s2, Rep.mono s1 _ _ e2⟩
    | _ => exact hq.elim
/-! ### loops that may return early, led by a computed walk -/
def runR {S α : Type} (f : S → α → S ⊕ D) : List α → S → S ⊕ D
  | [], s => .inl s
  | x :: xs, s => match f s x with
    | .inl s' => runR f xs s'
    | .inr d => .inr d
theorem runR_cons {S α : Type} {f : S → α → S ⊕ D} {x : α} {xs : List α} {s : S} : runR f (x :: xs) s = (f s x).elim (fun s' => runR f xs s') .inr := by
  show (match f s x with | .inl s' => runR f xs s' | .inr d => .inr d) = _
  cases f s x <;> rfl
theorem loopP_R {S α : Type} (St : S → Rho → Prop) (f : S → α → S ⊕ D) (tD : α → D) {items : List D} {xs : List α} (hi : items = xs.map tD) {s0 : S} {g : DG} {b : DS} {E : DEnds} {ρ : Rho} (h0 : St s0 ρ)
    (hstep : ∀ s x ρ, x ∈ xs → St s ρ → ∀ nx : Rho → Prop, (∀ s' ρ', f s x = .inl s' → St s' ρ' → nx ρ') → (∀ d, f s x = .inr d → runR f xs s0 = .inr d) → g (tD x) ρ fun ρ1 => b ⟨nx, E.rt, E.nx, nx⟩ ρ1)
    (hd : ∀ s1 ρ, runR f xs s0 = .inl s1 → St s1 ρ → E.nx ρ) : loopP g b E items ρ := by
  subst hi
  refine ⟨fun i ρ => ∃ s, St s ρ ∧ runR f (xs.drop i) s = runR f xs s0, ⟨s0, h0, rfl⟩, ?_, ?_⟩
  · rintro i d ρ hx ⟨s, hs, hr⟩
    rw [List.getElem?_map] at hx
    cases ex : xs[i]? with
    | none => rw [ex] at hx; cases hx
    | some x =>
      rw [ex] at hx
      cases hx
      have hi := (List.getElem?_eq_some_iff.mp ex).1
      rw [List.drop_eq_getElem_cons hi, (List.getElem?_eq_some_iff.mp ex).2, runR_cons] at hr
      have hm := List.mem_of_getElem? ex
      exact hstep s x ρ hm hs _ (fun s' ρ' e h => ⟨s', h, by rw [e] at hr; exact hr⟩) fun d e => by rw [e] at hr; exact hr.symm
  · rintro ρ ⟨s, hs, hr⟩
    rw [List.length_map, List.drop_length] at hr
    exact hd s ρ hr.symm hs
end PL
namespace PL
open PySem PySem.Spec PyProof.Rows L2 TB HT
/-! ### t[::-1], t a tuple -/
section
variable {prog : Program} {w : World} {A : Around} {E : Value → Shared → Prop} {s : Shared}
theorem sliceApplied_rev {sl : Addr} {vs : Value} {n : Nat} {Q : Int × Int × Nat → Shared → Prop} (hs : s.heap.IsSliceOf sl .none .none vs) (ps : IsPart vs (some (-1)))
    (h : Q ((n : Int) - 1, -1, n) s) : wpAny (model prog w) A (Builtin.Slice.sliceApplied (.ref sl) (pure (n : Int))) Q E s := by
  obtain ⟨os, hos, hcs, hds⟩ := id hs
  unfold Builtin.Slice.sliceApplied Builtin.Slice.sliceFields
  refine wpAny_bind (wpAny_bind (wpAny_field hos hds (x := .none) rfl (wpAny_bind (wpAny_field hos hds (x := .none) rfl (wpAny_bind (wpAny_field hos hds (x := vs) rfl (wpAny_pure ?_)))))))
  refine wpAny_bind (slicePart_ ps ?_)
  show wpAny _ _ (if ((-1 : Int) == 0) = true then _ else _) _ _ s
  rw [if_neg (by decide)]
  refine wpAny_bind (slicePart_none (wpAny_bind (slicePart_none (wpAny_bind (wpAny_pure ?_)))))
  show wpAny _ _ (match Builtin.Slice.sliceAdjust none none (-1) (n : Int) with | (lo, hi) => pure (lo, (-1 : Int), Builtin.Slice.slicePlaces lo hi (-1))) _ _ s
  show wpAny _ _ (pure ((n : Int) - 1, (-1 : Int), Builtin.Slice.slicePlaces ((n : Int) - 1) (-1) (-1))) _ _ s
  have e : Builtin.Slice.slicePlaces ((n : Int) - 1) (-1) (-1) = n := by
    unfold Builtin.Slice.slicePlaces
    rw [if_neg (by decide)]
    split
    · rw [show (-(-1) : Int) = 1 by decide, Int.ediv_one]
      omega
    · omega
  rw [e]
  exact wpAny_pure h
theorem fmap_congr {α β : Type} {f g : α → Option β} : ∀ (xs : List α), (∀ x ∈ xs, f x = g x) → xs.filterMap f = xs.filterMap g
  | [], _ => rfl
  | x :: r, h => by
    rw [List.filterMap_cons, List.filterMap_cons, h x List.mem_cons_self, fmap_congr r fun y hy => h y (List.mem_cons_of_mem _ hy)]
theorem pick_rev (xs : Array Value) : ((List.range xs.size).filterMap fun (m : Nat) => xs[(((xs.size : Int) - 1) + (m : Int) * (-1)).toNat]?).toArray = xs.toList.reverse.toArray := by
  have e : (List.range xs.size).filterMap (fun (m : Nat) => xs[(((xs.size : Int) - 1) + (m : Int) * (-1)).toNat]?) = (List.range xs.size).filterMap fun m => xs[xs.size - 1 - m]? := by
    refine fmap_congr _ fun m hm => ?_
    have := List.mem_range.mp hm
    rw [show (((xs.size : Int) - 1) + (m : Int) * (-1)).toNat = xs.size - 1 - m by omega]
  rw [e]
  have e2 : (List.range xs.size).filterMap (fun m => xs[xs.size - 1 - m]?) = ((List.range xs.size).map fun k => xs.size - 1 - k).filterMap (xs[·]?) := by
    rw [List.filterMap_map]
    rfl
  rw [e2, PySem.W.krv_range, List.filterMap_reverse, PySem.W.krv_all]
theorem getItem_tuple_rev {t sl : Addr} {items : Array Value} {vs : Value} {Q : Value → Shared → Prop} (ht : IsTup s.heap t items) (hs : s.heap.IsSliceOf sl .none .none vs) (ps : IsPart vs (some (-1)))
    (h : Q (.ref s.heap.objs.size) { s with heap := s.heap.push { cls := .type "tuple", data := .seq items.toList.reverse.toArray } })
    (hsz : items.size ≤ sizeLine) : wpAny (model prog w) A (getItem (.ref t) (.ref sl)) Q E s := by
  have htake : sizeOk (.seq items.toList.reverse.toArray) := by
    show items.toList.reverse.toArray.size ≤ sizeLine
    rw [List.size_toArray, List.length_reverse, Array.length_toList]
    exact hsz
  obtain ⟨os, hos, hcs, hds⟩ := id hs
  have hTs : s.TypeIs (.ref sl) "slice" := ⟨os, hos, hcs⟩
  unfold getItem
  try with_reducible refine wpAny_holding ?_
  first | refine wpAny_bind (wpAny_pure ?_) | skip
  refine wpAny_bind (wpAny_sequenceKey ht.typeIs (by decide) ?_)
  refine wpAny_bind (wpAny_callSpecial?_slot (name := Str.ofString "__getitem__") ht.typeIs PyProof.Rows.slot_tuple_getitem
    (wpAny_call_entry PyProof.Rows.slot_tuple_getitem ht.typeIs entry_tuple_getitem ?_ (args_tuple_getitem _ _)))
  show wpAny _ _ (Builtin.Tuple.tupleItemsOf (.ref t) >>= _) _ _ s
  refine wpAny_bind (tupleItemsOf_ ht ?_)
  refine wpAny_bind (wpAny_typeOf hTs ?_)
  rw [if_pos (by decide)]
  refine wpAny_bind (sliceApplied_rev hs ps ?_)
  have hno : ¬ ((((items.size : Int) - 1) == 0 && (-1 : Int) == 1 && items.size == items.size) = true) := by
    rw [show ((-1 : Int) == 1) = false from rfl, Bool.and_false, Bool.false_and]
    exact Bool.false_ne_true
  show wpAny _ _ (if (((items.size : Int) - 1) == 0 && (-1 : Int) == 1 && items.size == items.size) = true then _ else _) _ _ s
  rw [if_neg hno, pick_rev]
  first
    | exact wpAny_bind (m := Builtin.Tuple.tupleExact _) (wpAny_newObj_type (wpAny_pure ⟨_, rfl, wpAny_pure h⟩) htake)
    | exact wpAny_bind (m := Builtin.Tuple.tupleExact _) (wpAny_newObj_type (wpAny_bind (wpAny_pure (wpAny_pure ⟨_, rfl, wpAny_pure h⟩))) htake)
    | exact wpAny_bind (wpAny_bind (m := Builtin.Tuple.tupleExact _) (wpAny_newObj_type (wpAny_pure (wpAny_pure ⟨_, rfl, wpAny_pure h⟩)) htake))
    | exact wpAny_bind (wpAny_bind (m := Builtin.Tuple.tupleExact _) (wpAny_newObj_type (wpAny_pure ⟨_, rfl, wpAny_pure h⟩) htake))
end
def tRevT (K : PySem.W.Frag) (te : TE) : TE := fun σ H Q => te σ H fun x H1 => ∃ a xs, x = .ref a ∧ SqT K H1 a xs ∧ ∀ p, H1 p = none → Q (.ref p) (upd H1 p (.tup xs.reverse))
variable {X : Cx}
theorem pe_revT {e : Expr} {te : TE} {k : Nat} {p1 p2 p3 pos : Pos} (he : PE X e te) : PE X (.Subscript e (.Slice none none (some (.UnaryOp .USub (.Constant (.int 1) k p1) p2)) p3) pos) (tRevT X.K te) := by
  refine ⟨fun pins s σ H Q I h => ?_⟩
  refine Subscript_ (thn (he.run pins s σ H _ I h) fun v s1 ⟨x, H1, I1, r1, q1⟩ => ?_)
  obtain ⟨a, xs, ex, hx, q⟩ := q1
  subst ex
  cases r1
  have hst : PO X (some (.UnaryOp .USub (.Constant (.int 1) k p1) p2)) (tPart (tUn (rU fun i => .int (-i)) (tC (.int 1)))) := po_some (pe_un un_neg pe_int)
  refine wpAny_Slice (thn (po_none.run pins s1 σ H1 (fun o H2 => o = none ∧ H2 = H1) I1 ⟨rfl, rfl⟩) fun vl s2 ⟨l, H2, I2, pl, el, e2⟩ => ?_)
  subst el e2
  refine thn (po_none.run pins s2 σ H2 (fun o H3 => o = none ∧ H3 = H2) I2 ⟨rfl, rfl⟩) fun vu s3 ⟨u, H3, I3, pu, eu, e3⟩ => ?_
  subst eu e3
  refine thn (hst.run pins s3 σ H3 (fun o H4 => o = some (-1) ∧ H4 = H3) I3 ⟨1, rfl, -1, rfl, rfl, rfl⟩) fun vs s4 ⟨o, H4, I4, ps, eo, e4⟩ => ?_
  subst eo e4
  cases pl
  cases pu
  have I5 : Inv X pins σ H4 { s4 with heap := s4.heap.push { cls := .type "slice", data := .fields #[.none, .none, vs] } } := I4.kept (t' := s4.toks) fun b ob q => Heap.get?_push_of_some _ q
  obtain ⟨its, r, ht, hz⟩ := I5.tuple hx
  have hlen := r.length
  show wpAny (model X.prog X.w) X.A (subscriptTail e (.Slice none none (some (.UnaryOp .USub (.Constant (.int 1) k p1) p2)) p3) (.ref a) (.ref s4.heap.objs.size)) (EP X pins σ Q) X.xe { s4 with heap := s4.heap.push { cls := .type "slice", data := .fields #[.none, .none, vs] } }
  refine tail_any (ops := [.ref a, .ref s4.heap.objs.size]) ht.typeIs (PyProof.Rows.slot_tuple_getitem.lookup) ?_ (by with_unfolding_all rfl)
  refine getItem_tuple_rev ht (Heap.IsSliceOf.new _ .none .none vs) ps ?_ (by rw [List.size_toArray]; omega)
  refine ⟨.ref _, _, I5.laid (t' := s4.toks) (o := .tup xs.reverse) (fun b ob q => Heap.get?_push_of_some _ q) (Nat.le_refl _) ?_, rfl, q _ (I5.hok.fresh (Nat.le_refl _))⟩
  exact ⟨by rw [List.length_reverse]; exact hz, _, r.reverse, _, Heap.get?_push_size _ rfl, rfl, 0, rfl⟩
/-! ### the same over data -/
variable {K : PySem.W.Frag}
def dRevT (a : Opd) : DE := fun ρ Q => a.run ρ fun p ρ1 => p.res ρ1 fun d => match d with
  | .tup xs => Q (.tup xs.reverse) ρ1
  | .ktup xs => Q (.tup xs.reverse) ρ1
  | _ => False
theorem snd_revT {t : TE} {a : Opd} (ha : SndO K t a) : SndE K (tRevT K t) (dRevT a) := fun F σ H Hb ρ Q Qd hK r h q => by
  subst hK
  refine SndO.use (t := t) rfl r ha h fun v p H1 Hb1 ρ1 r1 b1 o1 h1 => ?_
  obtain ⟨d, vd, h2⟩ := OpAt.res r1 o1 h1
  have new : ∀ {us : List V} {es : List D}, RepAll F.K Hb1 us es → Qd (.tup es) ρ1 → ∀ l, H1 l = none → Q (.ref l) (upd H1 l (.tup us)) := fun {us es} ra h l n => by
    have g := Gr.new (o := .tup us) r1.sub n
    exact q _ (.tup es) _ _ ρ1 (r1.grow g) (b1.trans g.b) (.tup upd_same (RepAll.mono g.b _ _ ra)) h
  cases d with
  | tup xs =>
    obtain ⟨a, us, rfl, e1, _, e3⟩ := vd.tup r1.sub
    exact ⟨a, us, rfl, e1, new e3.reverse h2⟩
  | ktup xs =>
    obtain ⟨a, us, rfl, e1, e3⟩ := vd.ktup
    exact ⟨a, us, rfl, e1, new e3.reverse h2⟩
  | _ => exact h2.elim
def dTupRg2 (da db : DE) : DE := fun ρ Q => da ρ fun d ρ1 => db ρ1 fun e ρ2 => int2 d e fun i j => RgOk i j ∧ Q (.tup (rngD i (j - i).toNat)) ρ2
theorem snd_tupRg2 {ta tb : TE} {da db : DE} (ha : SndE K ta da) (hb : SndE K tb db) : SndE K (tTupRg (tRg2 ta tb)) (dTupRg2 da db) := fun F σ H Hb ρ Q Qd hK r hd q => by
  subst hK
  refine ha F σ H Hb ρ _ _ rfl r hd fun v d H1 Hb1 ρ1 r1 b1 p1 q1 => ?_
  refine hb F σ H1 Hb1 ρ1 _ _ rfl r1 q1 fun w e H2 Hb2 ρ2 r2 b2 p2 q2 => ?_
  obtain ⟨i, j, rfl, rfl, ok, hq⟩ := int2_ok q2
  cases p1
  cases p2
  refine ⟨i, j, rfl, rfl, ok, fun p n => ?_⟩
  have g := Gr.new (o := .tup (rgV i j)) r2.sub n
  exact q _ _ _ _ ρ2 (r2.grow g) ((b1.trans b2).trans g.b) (.tup upd_same (rg_rep i j)) hq
end PL
namespace PL
open PySem PySem.Spec PyProof.Rows L2 TB
/-! ### match e: case "a": .. case name: .. (e a text) -/
/-- the cases from one on, by the value looked at -/
structure PCs (X : Cx) (cs : List MatchCase) (t : V → TS) : Prop where
  run : ∀ (pins : List (Addr × Obj)) (s : Shared) (σ : L2.St) (H : Hp) (D : Ends) (v : V) (u : Value) (fst : Bool), Inv X pins σ H s → RelV v u → t v D σ H → wpAny (model X.prog X.w) X.A (matchCases cs X.env u fst) (SP X pins D) X.xe s
def tcNil : V → TS := fun _ D σ H => D.nx σ H
def tcVal (z : Str) (tb : TS) (tr : V → TS) : V → TS := fun v D σ H => ∃ y, v = .str y ∧ ((y = z ∧ tb D σ H) ∨ (y ≠ z ∧ tr v D σ H))
def tcCap (i : Nat) (tb : TS) : V → TS := fun v D σ H => tb D (σ.set i (some v)) H
def tMatch (te : TE) (tc : V → TS) : TS := fun D σ H => te σ H fun v H1 => tc v D σ H1
section
variable {X : Cx}
theorem pcs_nil : PCs X [] tcNil := ⟨fun pins s σ H D v u fst I r h => wpAny_matchCases_nil (by exact ⟨σ, H, I, h⟩)⟩
theorem pcs_val {z : Str} {k : Nat} {p p2 : Pos} {body : List Stmt} {rest : List MatchCase} {tb : TS} {tr : V → TS} (hb : PSs X body tb) (hr : PCs X rest tr) :
    PCs X (⟨.MatchValue (.Constant (.str z) k p) p2, none, body⟩ :: rest) (tcVal z tb tr) := by
  refine ⟨fun pins s σ H D v u fst I r h => ?_⟩
  obtain ⟨y, rfl, h⟩ := h
  have rv : RelV (.str y) u := r
  refine wpAny_matchCases_cons (wpAny_matchPattern_Value (thn ((pe_str (X := X)).run pins s σ H (fun x H1 => x = .str z ∧ H1 = H) I ⟨rfl, rfl⟩) fun w s1 ⟨x, H1, I1, r1, ex, eh⟩ => ?_))
  subst ex eh
  refine thn (op_eq (X := X) pins s1 σ H1 (.str y) (.str z) u w (fun x H2 => x = .bl (decide (V.str y = V.str z)) ∧ H2 = H1) I1 rv r1 ⟨rfl, rfl, rfl⟩) fun c s2 ⟨x, H2, I2, r2, ec, eh⟩ => ?_
  subst ec eh
  cases (show c = .bool (decide (V.str y = V.str z)) from r2)
  refine wpAny_truthy_bool ?_
  rcases h with ⟨e, h⟩ | ⟨e, h⟩
  · rw [if_pos (decide_eq_true (by rw [e]))]
    refine wpAny_assignInOrder_none ?_
    exact hb.run pins s2 σ _ D I2 h
  · rw [if_neg (by rw [decide_eq_false (fun z => e (V.str.inj z))]; exact Bool.false_ne_true)]
    exact hr.run pins s2 σ _ D _ _ false I2 rv h
theorem pcs_cap {i : Nat} {x : Str} {p2 : Pos} {body : List Stmt} {rest : List MatchCase} {tb : TS} (hN : X.N.Nodup) (hi : X.N[i]? = some x) (hx : Loc X.env.scope x) (hb : PSs X body tb) (hf : X.fn x = true ∨ X.env.scope.names.lookup x = some .local := by first | exact .inl rfl | exact .inr rfl | assumption) :
    PCs X (⟨.MatchAs none (some x) p2, none, body⟩ :: rest) (tcCap i tb) := by
  refine ⟨fun pins s σ H D v u fst I r h => ?_⟩
  refine wpAny_matchCases_cons (wpAny_matchPattern_Capture ?_)
  show wpAny _ _ (assignInOrder [bindName X.env x] [u]) _ _ _
  refine wpAny_assignInOrder_more ?_
  unfold bindName
  refine wpAny_bind (wpAny_holding (wpAny_point ?_))
  refine wpAny_bind (store_ok I hN hi hx r (fun s' I' => ?_) hf)
  refine wpAny_point ?_
  refine wpAny_assignInOrder_none ?_
  exact hb.run pins s' _ H D I' h
theorem ps_match {e : Expr} {cs : List MatchCase} {te : TE} {tc : V → TS} {pos : Pos} (he : PE X e te) (hc : PCs X cs tc) : PS X (.Match e cs pos) (tMatch te tc) := by
  refine ⟨fun pins s σ H D I h => ?_⟩
  exact wpAny_Match (thn (he.run pins s σ H _ I h) fun u s1 ⟨v, H1, I1, r1, q1⟩ => hc.run pins s1 σ H1 D v u true I1 r1 q1)
end
/-! ### the same over data -/
section
variable {K : PySem.W.Frag}
def SndC (K : PySem.W.Frag) (tc : V → TS) (dc : D → DS) : Prop := ∀ (F : Fx) σ H Hb ρ v d (D : Ends) (E : DEnds), F.K = K → R F σ H Hb ρ → Rep K Hb v d → dc d E ρ → EndsOk F Hb D E → tc v D σ H
def dcNil : D → DS := fun _ E ρ => E.nx ρ
def dcVal (z : Str) (b : DS) (r : D → DS) : D → DS := fun d E ρ => str1 d fun y => ifD (decide (y = z)) (b E ρ) (r d E ρ)
def dcCap (i : Nat) (b : DS) : D → DS := fun d E ρ => b E (ρ.set i (.val d))
def dMatch (de : DE) (dc : D → DS) : DS := fun E ρ => de ρ fun d ρ1 => dc d E ρ1
theorem snc_nil : SndC K tcNil dcNil := fun F σ H Hb ρ v d D E hK r rp h e => e.nx σ H Hb ρ r (Same.refl _) h
theorem snc_val {z : Str} {tb : TS} {b : DS} {tr : V → TS} {dr : D → DS} (hb : SndS K tb b) (hr : SndC K tr dr) : SndC K (tcVal z tb tr) (dcVal z b dr) := fun F σ H Hb ρ v d D E hK r rp h e => by
  obtain ⟨y, rfl, h⟩ := str1_ok h
  have rp' := rp
  cases rp
  refine ⟨y, rfl, ?_⟩
  by_cases ey : y = z
  · rw [decide_eq_true ey] at h
    exact .inl ⟨ey, hb F σ H Hb ρ D E hK r h e⟩
  · rw [decide_eq_false ey] at h
    exact .inr ⟨ey, hr F σ H Hb ρ _ _ D E hK r rp' h e⟩
theorem snc_cap (i : Nat) {tb : TS} {b : DS} (hb : SndS K tb b) : SndC K (tcCap i tb) (dcCap i b) := fun F σ H Hb ρ v d D E hK r rp h e => by
  subst hK
  exact hb F _ H Hb _ D E rfl (r.setV rp i) h e
theorem sns_match {te : TE} {de : DE} {tc : V → TS} {dc : D → DS} (he : SndE K te de) (hc : SndC K tc dc) : SndS K (tMatch te tc) (dMatch de dc) := fun F σ H Hb ρ D E hK r hd e =>
  he F σ H Hb ρ _ _ hK r hd fun v d H' Hb' ρ' r' b rp q => hc F σ H' Hb' ρ' v d D E hK r' rp q (e.up b)
end
end PL
namespace PL
open PySem PySem.Spec PyProof.Rows L2 TB
/-! ### set(xs), its number alone: xs a list or a tuple of texts, of whole numbers -/
section
variable {κ : Type} [DecidableEq κ]
/-- each one once -/
def nub (xs : List κ) : List κ := xs.foldl (fun a x => if x ∈ a then a else a ++ [x]) []
theorem nub_snoc (xs : List κ) (x : κ) : nub (xs ++ [x]) = if x ∈ nub xs then nub xs else nub xs ++ [x] := by
  unfold nub
  rw [List.foldl_append]
  rfl
theorem nub_mem {xs : List κ} {x : κ} : x ∈ nub xs ↔ x ∈ xs := by
  have key : ∀ (ys a : List κ), x ∈ ys.foldl (fun a x => if x ∈ a then a else a ++ [x]) a ↔ x ∈ a ∨ x ∈ ys := by
    intro ys
    induction ys with
    | nil => intro a; simp
    | cons y ys ih =>
      intro a
      rw [List.foldl_cons, ih, List.mem_cons]
      split
      · rename_i h
        constructor
        · rintro (q | q)
          · exact .inl q
          · exact .inr (.inr q)
        · rintro (q | rfl | q)
          · exact .inl q
          · exact .inl h
          · exact .inr q
      · rw [List.mem_append, List.mem_singleton, or_assoc]
  have := key xs []
  simpa [nub] using this
theorem nub_le (xs : List κ) : (nub xs).length ≤ xs.length := by
  have key : ∀ (ys a : List κ), (ys.foldl (fun a x => if x ∈ a then a else a ++ [x]) a).length ≤ a.length + ys.length := by
    intro ys
    induction ys with
    | nil => intro a; exact Nat.le_refl _
    | cons y ys ih =>
      intro a
      rw [List.foldl_cons]
      refine Nat.le_trans (ih _) ?_
      rw [List.length_cons]
      split
      · omega
      · rw [List.length_append, List.length_singleton]; omega
  have := key xs []
  simpa [nub] using this
theorem nub_nodup (xs : List κ) : (nub xs).Nodup := by
  have key : ∀ (ys a : List κ), a.Nodup → (ys.foldl (fun a x => if x ∈ a then a else a ++ [x]) a).Nodup := by
    intro ys
    induction ys with
    | nil => intro a h; exact h
    | cons y ys ih =>
      intro a h
      rw [List.foldl_cons]
      refine ih _ ?_
      split
      · exact h
      · rename_i hn
        rw [List.nodup_append]
        exact ⟨h, by simp, fun b hb c hc e => hn (by rw [← List.mem_singleton.mp hc, ← e]; exact hb)⟩
  exact key xs [] List.nodup_nil
theorem nub_of {xs : List κ} (h : xs.Nodup) : nub xs = xs := by
  have key : ∀ (ys a : List κ), (a ++ ys).Nodup → ys.foldl (fun a x => if x ∈ a then a else a ++ [x]) a = a ++ ys := by
    intro ys
    induction ys with
    | nil => intro a _; simp
    | cons y ys ih =>
      intro a h
      rw [List.foldl_cons]
      have hn : y ∉ a := fun hy => by
        rw [List.nodup_append] at h
        exact h.2.2 y hy y List.mem_cons_self rfl
      rw [if_neg hn, ih (a ++ [y]) (by rw [List.append_assoc]; exact h), List.append_assoc]
      rfl
  have := key xs [] (by simpa using h)
  simpa [nub] using this
end
/-- what is walked, and is no set, no dict -/
structure Src (prog : Program) (w : World) (T : String) (r d : Addr) (n : Nat) (P : Nat → Value → Prop) (OK : Heap → Prop) : Prop where
  set0 : isSubtype (.type T) (.type "set") = pure false
  frz0 : isSubtype (.type T) (.type "frozenset") = pure false
  dct0 : (Value.type T == Value.type "dict") = false
  typ : ∀ s : Shared, OK s.heap → s.TypeIs (.ref r) T
  low : ∀ h : Heap, OK h → d < h.objs.size
  push : ∀ (h : Heap) (o : Obj), OK h → OK (h.push o)
  itr : ∀ s : Shared, OK s.heap → ∃ (oI : Obj) (St : Nat → Heap → Prop), (∀ (A : Around) (E : Value → Shared → Prop) (Q : Value → Shared → Prop), Q (.ref s.heap.objs.size) { s with heap := s.heap.push oI } → wpAny (model prog w) A (pyIter (.ref r)) Q E s) ∧
    (∀ A : Around, A.handled = none → Walks prog w A s.heap.objs.size [s.heap.objs.size, d] [s.heap.objs.size] n P St) ∧ St 0 (s.heap.push oI)
section
variable {prog : Program} {w : World} {A : Around}
theorem src_list {l : Addr} {its : Array Value} : Src prog w "list" l l its.size (fun i v => its[i]? = some v) (fun h => h.IsList l its) where
  set0 := PySem.F.sub_list_set
  frz0 := PySem.F.sub_list_frozenset
  dct0 := by decide
  typ := fun s h => h.typeIs
  low := fun h ⟨_, e, _⟩ => Heap.lt_size e
  push := fun h o x => x.push o
  itr := fun s x => ⟨_, _, fun A E Q q => wpAny_pyIter_list x q, fun A hh => Walks.list hh _ l (Nat.ne_of_lt (let ⟨_, e, _⟩ := x; Heap.lt_size e)) its, ⟨⟨_, Heap.get?_push_size _ rfl, rfl, rfl⟩, x.push _⟩⟩
theorem src_tup {l : Addr} {its : Array Value} : Src prog w "tuple" l l its.size (fun i v => its[i]? = some v) (fun h => h.IsTuple l its) where
  set0 := PySem.F.sub_tuple_set
  frz0 := PySem.F.sub_tuple_frozenset
  dct0 := by decide
  typ := fun s h => h.typeIs
  low := fun h ⟨_, e, _⟩ => Heap.lt_size e
  push := fun h o x => x.push o
  itr := fun s x => ⟨_, _, fun A E Q q => wpAny_pyIter_tuple x q, fun A hh => Walks.tuple hh _ l (Nat.ne_of_lt (let ⟨_, e, _⟩ := x; Heap.lt_size e)) its, ⟨⟨_, Heap.get?_push_size _ rfl, rfl, rfl⟩, x.push _⟩⟩
end
section
variable {prog : Program} {w : World} {A : Around} {κ : Type} [DecidableEq κ] {knd : KeyKind prog w κ}
def SetL (knd : KeyKind prog w κ) (h : Heap) (a : Addr) (l : List κ) : Prop := h.SetOf knd a (fun k => decide (k ∈ nub l)) (nub l).length
theorem SetL.keep {h h' : Heap} {a : Addr} {l : List κ} (x : SetL knd h a l) (k : ∀ o, h.get? a = some o → h'.get? a = some o) : SetL knd h' a l := by
  obtain ⟨o, es, ep, t, ho, q⟩ := x
  exact ⟨o, es, ep, t, k o ho, q⟩
theorem SetL.snoc {h : Heap} {a : Addr} {l : List κ} {k : κ} (x : h.SetOf knd a (fun k' => decide (k' ∈ nub l) || decide (k' = k)) (if decide (k ∈ nub l) = true then (nub l).length else (nub l).length + 1)) : SetL knd h a (l ++ [k]) := by
  unfold SetL
  rw [nub_snoc]
  by_cases hk : k ∈ nub l
  · rw [if_pos (decide_eq_true hk)] at x
    rw [if_pos hk]
    have e : (fun k' => decide (k' ∈ nub l) || decide (k' = k)) = fun k' => decide (k' ∈ nub l) := by
      funext k'
      by_cases e : k' = k
      · rw [e, decide_eq_true hk]; rfl
      · rw [decide_eq_false e, Bool.or_false]
    rw [e] at x
    exact x
  · rw [if_neg (by rw [decide_eq_false hk]; exact Bool.false_ne_true)] at x
    rw [if_neg hk, List.length_append, List.length_singleton]
    have e : (fun k' => decide (k' ∈ nub l) || decide (k' = k)) = fun k' => decide (k' ∈ nub l ++ [k]) := by
      funext k'
      rw [Bool.eq_iff_iff, Bool.or_eq_true, decide_eq_true_iff, decide_eq_true_iff, decide_eq_true_iff, List.mem_append, List.mem_singleton]
    rw [e] at x
    exact x
/-- the loop that puts them in, one by one -/
theorem set_loop {R : Result → Shared → Prop} {I S : Addr} {fp wr : List Addr} {G : Array GenState → Array GenState → Prop} {P : Nat → Value → Prop} {St : Nat → Shared → Prop} {keys : List κ} (W : WalksS prog w A.in1 I fp wr G keys.length P St) (out : S ∉ fp) (few : keys.length + 1 < scanBound)
    (val : ∀ i v, P i v → ∃ k, keys[i]? = some k ∧ knd.is k v = true ∧ v.scannable = true) : ∀ (m i : Nat) (s : Shared), keys.length - i = m → i ≤ keys.length → St i s → SetL knd s.heap S (keys.take i) →
    (∀ s', Moved (S :: wr) G s s' → SetL knd s'.heap S keys → R (.ok (.ret .none)) s') → codeAny (model prog w) A (.builtin "set.update.loop" ⟨[.ref S, .ref I], []⟩) R s := by
  have nw : S ∉ wr := fun h => out (W.sub _ h)
  intro m
  induction m with
  | zero =>
    intro i s hm hi st hs fin
    obtain rfl : i = keys.length := by omega
    refine codeAny_builtin PyProof.Rows.F.entry_set_update_loop ?_
    rw [Around.under_plainId PyProof.Rows.F.plain_set_update_loop _]
    show wpAny _ A.in1 (pyNext (.ref I) >>= _) _ _ s
    refine wpAny_bind (W.done s _ _ st fun s1 mv => wpAny_pure (fin s1 (mv.mono fun b hb => List.mem_cons_of_mem _ hb) ?_))
    rw [List.take_length] at hs
    exact hs.keep fun o e => mv.heap S _ nw e
  | succ m ih =>
    intro i s hm hi st hs fin
    have lt : i < keys.length := by omega
    refine codeAny_builtin PyProof.Rows.F.entry_set_update_loop ?_
    rw [Around.under_plainId PyProof.Rows.F.plain_set_update_loop _]
    show wpAny _ A.in1 (pyNext (.ref I) >>= _) _ _ s
    refine wpAny_bind (W.item i s _ _ lt st fun v s1 pv st1 mv => ?_)
    obtain ⟨k, ek, is, sc⟩ := val i v pv
    have hs1 := hs.keep fun o e => mv.heap S _ nw e
    show wpAny _ A.in1 (holding [v] (setAdd S v) >>= _) _ _ s1
    refine wpAny_bind (wpAny_holding ?_)
    unfold setAdd
    refine wpAny_holding (wpAny_bind (knd.pyHash (k := k) is ?_))
    have room : (nub (keys.take i)).length + 1 < scanBound := by
      have := nub_le (keys.take i)
      rw [List.length_take] at this
      omega
    refine wpAny_setAddHashed_of (knd := knd) (s := { s1 with toks := s1.toks + 1 }) is sc hs1 room fun h2 same hs2 => ?_
    have hs3 : SetL knd h2 S (keys.take (i + 1)) := by
      have et : keys.take (i + 1) = keys.take i ++ [k] := by rw [List.take_succ, ek]; rfl
      rw [et]
      exact SetL.snoc hs2
    refine wpAny_pure ⟨plainId_quiet PyProof.Rows.F.plain_set_update_loop _, ih (i + 1) _ (by omega) lt (W.frame _ s1 _ _ st1 (Nat.le_succ _) fun b hb o e => ?_) hs3 fun s2 mv2 q => fin s2 ?_ q⟩
    · rw [same.2 b (fun z : b = S => out (by rw [← z]; exact hb))]
      exact e
    · refine Moved.trans W.gtrans ((mv.mono fun b hb => List.mem_cons_of_mem _ hb).then_heap (Nat.le_succ _) fun b o hb e => ?_) mv2
      rw [same.2 b (fun z : b = S => hb (by rw [z]; exact List.mem_cons_self))]
      exact e
/-- a call of a type whose __init__ is checked by the caller -/
theorem type_call {E : Value → Shared → Prop} {Q N : Value → Shared → Prop} {s : Shared} {T nw ini : String} {Bi : Builtin} {xs : List Value} (tc : TypeCalled T nw ini) (chk : checkTypeCall T ⟨xs, []⟩ = pure ()) (en : entryFor table ini = some Bi)
    (made : codeAny (model prog w) A.in1 (.call (.builtin nw) ⟨.type T :: xs, []⟩) (wants N E) s)
    (go : ∀ o s1, N o s1 → codeAny (model prog w) A.in1 (.call (.builtin ini) ⟨o :: xs, []⟩) (wants (fun r s2 => r = .none ∧ Q o s2) E) s1 ∧ s1.TypeIs o T) :
    wpAny (model prog w) A (call (.type T) xs) Q E s := by
  obtain ⟨c, tl, m0⟩ := tc.mro
  have m1 := tc.made; have m2 := tc.sub; have m3 := tc.notType; have m4 := tc.canCreate
  refine wpAny_call (codeAny_of_tree (show wpAny (model prog w) _ (callAny (.type T) _) _ _ s from wpAny_pure ⟨Code.quiet_builtin _ (by decide +kernel), codeAny_builtin PySem.F.entry_type_call ?_⟩))
  rw [Around.under_plain (weight_type_call_type T xs []) (by rfl)]
  repeat any_goals (first | wp_step | assumption)
  refine codeAny_mono made fun r s1 hr => ?_
  rcases r with e | f
  · exact hr
  · cases f with
    | ret o =>
      obtain ⟨g1, g2⟩ := go _ _ hr
      have m5 := tc.init.lookup; have m6 := tc.init.bind o
      repeat any_goals (first | wp_step | assumption)
      refine codeAny_mono g1 fun r2 s2 h2 => ?_
      rcases r2 with e | f2
      · exact h2
      · cases f2 with
        | ret u =>
          obtain ⟨rfl, q⟩ := h2
          repeat any_goals (first | wp_step | assumption)
        | _ => exact h2.elim
    | _ => exact hr.elim
theorem set_call {E : Value → Shared → Prop} {Q : Value → Shared → Prop} {s : Shared} {T : String} {r d : Addr} {P : Nat → Value → Prop} {OK : Heap → Prop} {keys : List κ} (C : Src prog w T r d keys.length P OK) (hh : A.handled = none) (ok : OK s.heap) (few : keys.length + 1 < scanBound)
    (val : ∀ i v, P i v → ∃ k, keys[i]? = some k ∧ knd.is k v = true ∧ v.scannable = true)
    (h : ∀ h' tk, SetL knd h' s.heap.objs.size keys → (∀ b o, s.heap.get? b = some o → h'.get? b = some o) → Q (.ref s.heap.objs.size) { s with heap := h', toks := tk }) :
    wpAny (model prog w) A (call (.type "set") [.ref r]) Q E s := by
  refine type_call (N := fun obj s1 => ∃ led : Bool, obj = .ref s.heap.objs.size ∧ s1 = { s with heap := s.heap.push { cls := .type "set", dict := none, data := .set #[] 0 (.fresh 0 0 led) } }) PySem.F.called_set (PySem.F.typeCall_set_1 _) PySem.F.entry_set_init
    (code_set_new_1 _ fun led => ⟨led, rfl, rfl⟩) fun obj s1 h1 => ?_
  obtain ⟨led, rfl, rfl⟩ := h1
  have at0 : (s.heap.push { cls := .type "set", dict := none, data := .set #[] 0 (.fresh 0 0 led) }).get? s.heap.objs.size = some { cls := .type "set", dict := none, data := .set #[] 0 (.fresh 0 0 led) } := Heap.get?_push_size _ rfl
  have ok1 := C.push s.heap { cls := .type "set", dict := none, data := .set #[] 0 (.fresh 0 0 led) } ok
  have ty1 := C.typ { s with heap := s.heap.push { cls := .type "set", dict := none, data := .set #[] 0 (.fresh 0 0 led) } } ok1
  have n1 := C.set0
  have n2 := C.frz0
  have n3 := C.dct0
  have tS : Shared.TypeIs { s with heap := s.heap.push { cls := .type "set", dict := none, data := .set #[] 0 (.fresh 0 0 led) } } (.ref s.heap.objs.size) "set" := ⟨_, at0, rfl⟩
  refine ⟨codeAny_call_builtin PySem.F.called_set.init.plain PySem.F.entry_set_init (PySem.check_set_init_1 tS ?_), tS⟩
  unfold Builtin.«set.__init__» noKeywords Builtin.Frozenset.updateFrom
  generalize hPI : pyIter = PI
  wp_walk
  subst hPI
  obtain ⟨oI, St, hit, wk, st⟩ := C.itr { s with heap := s.heap.push { cls := .type "set", dict := none, data := .set #[] 0 (.fresh 0 0 led) } } ok1
  refine hit _ _ _ (wpAny_bind (wpAny_runValue ?_))
  have big : s.heap.objs.size ∉ [(s.heap.push { cls := .type "set", dict := none, data := .set #[] 0 (.fresh 0 0 led) }).objs.size, d] := by
    intro z
    rcases List.mem_cons.mp z with z | z
    · rw [Heap.size_push] at z
      exact absurd z (Nat.ne_of_lt (Nat.lt_succ_self _))
    · have lo := C.low _ ok
      rw [← List.mem_singleton.mp z] at lo
      exact Nat.lt_irrefl _ lo
  have at1 : ((s.heap.push { cls := .type "set", dict := none, data := .set #[] 0 (.fresh 0 0 led) }).push oI).get? s.heap.objs.size = some { cls := .type "set", dict := none, data := .set #[] 0 (.fresh 0 0 led) } := Heap.get?_push_of_some _ at0
  have emp : SetL knd ((s.heap.push { cls := .type "set", dict := none, data := .set #[] 0 (.fresh 0 0 led) }).push oI) s.heap.objs.size (keys.take 0) :=
    PyProof.Rows.SetOf_congr ((PyProof.Rows.setObjOf_fresh (knd := knd) led).setOf at1 (by unfold scanBound; omega)) (fun _ => rfl) rfl
  refine set_loop ((wk _ (by simp [hh])).toS) big few val keys.length 0 _ (Nat.sub_zero _) (Nat.zero_le _) st emp fun s2 mv q => ?_
  rw [Moved.eq_with mv]
  refine wpAny_pure (wpAny_pure ⟨rfl, h _ _ q fun b o e => ?_⟩)
  have lt := Heap.lt_size e
  refine mv.heap b o (fun z => ?_) (Heap.get?_push_of_some _ (Heap.get?_push_of_some _ e))
  rcases List.mem_cons.mp z with z | z
  · rw [z] at lt
    exact Nat.lt_irrefl _ lt
  · have z : b = (s.heap.push { cls := .type "set", dict := none, data := .set #[] 0 (.fresh 0 0 led) }).objs.size := List.mem_singleton.mp z
    rw [z, Heap.size_push] at lt
    exact absurd lt (Nat.not_lt_of_lt (Nat.lt_succ_self _))
end
/-! ### len(set(xs)), xs a list or a tuple of texts -/
def tLenSetX (K : PySem.W.Frag) (ta : TE) : TE := fun σ H Q => ta σ H fun x H1 => ∃ (l : Addr) (xs : List Str), x = .ref l ∧ (SqL K H1 l (xs.map V.str) ∨ SqT K H1 l (xs.map V.str)) ∧ xs.length ≤ 4000 ∧ Q (.int (nub xs).length) H1
theorem strs_get : ∀ {xs : List Str} {us : List Value}, Vals (xs.map V.str) us → ∀ (i : Nat) (v : Value), us[i]? = some v → ∃ (k : Str) (t : Tok), xs[i]? = some k ∧ v = .str k t
  | [], _, .nil, i, v, h => by simp at h
  | x :: xs, _, .cons r t, 0, v, h => by
    obtain ⟨u, rfl⟩ := r
    cases h
    exact ⟨x, u, rfl, rfl⟩
  | x :: xs, _, .cons r t, i + 1, v, h => strs_get t i v h
section
variable {X : Cx}
theorem pe_lenSetX {a : Expr} {ta : TE} {p p2 q pos : Pos} (hc : X.calm = true) (hg : Gl X "len") (hm : X.mg "len" = none) (hg2 : Gl X "set") (hm2 : X.mg "set" = none) (ha : PE X a ta)
    (na : starEach [a] X.env = (false, eval a X.env) :: starEach [] X.env := by rfl) : PE X (.Call (.Name "len" p) [.Call (.Name "set" p2) [a] [] q] [] pos) (tLenSetX X.K ta) := by
  refine ⟨fun pins s σ H Q I h => ?_⟩
  refine Call_ (ld_blt I hg hm boot_len (PyProof.Rows.callWith_builtin1 (PyProof.Rows.args_cons ?_ rfl) rfl rfl))
  refine Call_ (ld_blt I hg2 hm2 PyProof.Rows.boot_set (PyProof.Rows.callWith_type1 (PyProof.Rows.args_cons (thn (ha.run pins s σ H _ I h) fun v s1 ⟨x, H1, I1, r1, l, xs, ex, hq, hz, q1⟩ => PyProof.Rows.args_nil ?_) na) na rfl))
  subst ex
  cases r1
  have fin : ∀ (its : List Value), Vals (xs.map V.str) its → ∀ (h' : Heap) (tk : Nat), SetL (PySem.strKind X.prog X.w) h' s1.heap.objs.size xs → (∀ b o, s1.heap.get? b = some o → h'.get? b = some o) →
      wpAny (model X.prog X.w) X.A (spliced (backTo pos (starEach [] X.env))) (fun vs s₂ => wpAny (model X.prog X.w) X.A (call (.builtin "len") (Value.ref s1.heap.objs.size :: vs)) (EP X pins σ Q) X.xe s₂) X.xe { s1 with heap := h', toks := tk } := fun its r h' tk hS k => by
    refine PyProof.Rows.args_nil ?_
    obtain ⟨o, es, ep, t, ho, hex, hd, _, _, _, hf, hn⟩ := hS
    have few := nub_le xs
    exact call_len_set ho hex hd hf (by rw [hn]; omega) ⟨.int (nub xs).length, H1, (I1.kept (t' := tk) k).tok _, ⟨_, by rw [hn]⟩, q1⟩
  have sb : xs.length + 1 < scanBound := by unfold scanBound; omega
  rcases hq with hq | hq
  · obtain ⟨its, r, pl, _⟩ := I1.list hq
    have el : its.toArray.size = xs.length := by rw [List.size_toArray, ← r.length, List.length_map]
    have src := src_list (prog := X.prog) (w := X.w) (l := l) (its := its.toArray)
    rw [el] at src
    refine set_call (knd := PySem.strKind X.prog X.w) src (I1.ok.hd hc) pl.isList sb (fun i v e => ?_) fun h' tk hS k => fin its r h' tk hS k
    obtain ⟨y, t, e1, rfl⟩ := strs_get r i v (by simpa using e)
    exact ⟨y, e1, PySem.strKind_is _ _ _ _, rfl⟩
  · obtain ⟨its, r, pl, _⟩ := I1.tuple hq
    have el : its.toArray.size = xs.length := by rw [List.size_toArray, ← r.length, List.length_map]
    have src := src_tup (prog := X.prog) (w := X.w) (l := l) (its := its.toArray)
    rw [el] at src
    refine set_call (knd := PySem.strKind X.prog X.w) src (I1.ok.hd hc) (show s1.heap.IsTuple l its.toArray from pl) sb (fun i v e => ?_) fun h' tk hS k => fin its r h' tk hS k
    obtain ⟨y, t, e1, rfl⟩ := strs_get r i v (by simpa using e)
    exact ⟨y, e1, PySem.strKind_is _ _ _ _, rfl⟩
end
end PL
namespace PL
open PySem PySem.Spec PyProof.Rows L2 TB
variable {K : PySem.W.Frag}
/-! ### len(set(xs)) over data -/
def strL : List D → Option (List Str)
  | [] => some []
  | .str x :: r => (strL r).map (x :: ·)
  | _ => none
theorem strL_rep {Hb : Hp} : ∀ {ds : List D} {vs : List V} {xs : List Str}, RepAll K Hb vs ds → strL ds = some xs → vs = xs.map V.str
  | [], _, _, h, e => by cases h; cases e; rfl
  | .str x :: r, _, xs, h, e => by
    cases h with
    | cons h1 h2 =>
      cases h1
      have e : (strL r).map (x :: ·) = some xs := e
      cases e1 : strL r with
      | none => rw [e1] at e; cases e
      | some ys =>
        rw [e1] at e
        cases e
        rw [strL_rep h2 e1]
        rfl
  | .non :: _, _, _, _, e => by cases e
  | .bl _ :: _, _, _, _, e => by cases e
  | .int _ :: _, _, _, _, e => by cases e
  | .opq _ :: _, _, _, _, e => by cases e
  | .tup _ :: _, _, _, _, e => by cases e
  | .ktup _ :: _, _, _, _, e => by cases e
  | .lst _ :: _, _, _, _, e => by cases e
  | .arr _ :: _, _, _, _, e => by cases e
  | .dct _ :: _, _, _, _, e => by cases e
  | .dcu _ :: _, _, _, _, e => by cases e
theorem strL_map {α : Type} (f : α → Str) : ∀ xs : List α, strL (xs.map fun x => D.str (f x)) = some (xs.map f)
  | [] => rfl
  | x :: r => by
    show (strL (r.map fun x => D.str (f x))).map (f x :: ·) = _
    rw [strL_map f r]
    rfl
def dLenSet (a : Opd) : DE := fun ρ Q => a.run ρ fun p ρ1 => p.res ρ1 fun d => optD (items d) fun ds => optD (strL ds) fun xs => xs.length ≤ 4000 ∧ Q (.int (nub xs).length) ρ1
theorem snd_lenSet {t : TE} {a : Opd} (ha : SndO K t a) : SndE K (tLenSetX K t) (dLenSet a) := fun F σ H Hb ρ Q Qd hK r h q => by
  subst hK
  refine SndO.use (t := t) rfl r ha h fun v p H1 Hb1 ρ1 r1 b1 o1 h1 => ?_
  obtain ⟨d, vd, h2⟩ := OpAt.res r1 o1 h1
  obtain ⟨ds, e1, h3⟩ := optD_ok h2
  obtain ⟨xs, e2, hz, h4⟩ := optD_ok h3
  obtain ⟨l, vs, rfl, hs, ra⟩ := vd.items r1.sub e1
  obtain rfl := strL_rep ra e2
  exact ⟨l, xs, rfl, hs, hz, q _ _ H1 Hb1 ρ1 r1 b1 (.int _) h4⟩
/-! ### one sign in a text -/
def fSign (neg : Bool) (d e : D) (k : D → Prop) : Prop := str1 d fun x => str1 e fun z => ∃ c, x = ⟨#[c]⟩ ∧ k (.bl (if neg then !decide (c ∈ z.cps.toList) else decide (c ∈ z.cps.toList)))
theorem s_inSign : OpS K (fun x y H Q => ∃ (c : Nat) (z : Str), x = .str ⟨#[c]⟩ ∧ y = .str z ∧ Q (.bl (decide (c ∈ z.cps.toList))) H) (fSign false) := fun H Hb v w d e Q Qd s hv hw h q => by
  obtain ⟨x, ed, h2⟩ := str1_ok h
  obtain ⟨z, ee, c, ex, h3⟩ := str1_ok h2
  subst ed ee ex
  exact ⟨c, z, hv.str, hw.str, q _ _ H Hb (Gr.refl s) (.bl _) h3⟩
theorem s_notInSign : OpS K (fun x y H Q => ∃ (c : Nat) (z : Str), x = .str ⟨#[c]⟩ ∧ y = .str z ∧ Q (.bl (!decide (c ∈ z.cps.toList))) H) (fSign true) := fun H Hb v w d e Q Qd s hv hw h q => by
  obtain ⟨x, ed, h2⟩ := str1_ok h
  obtain ⟨z, ee, c, ex, h3⟩ := str1_ok h2
  subst ed ee ex
  exact ⟨c, z, hv.str, hw.str, q _ _ H Hb (Gr.refl s) (.bl _) h3⟩
/-! ### for c in text -/
def dIStr (de : DE) : DI := fun ρ Q => de ρ fun d ρ1 => str1 d fun x => Q (x.cps.toList.map fun c => .str ⟨#[c]⟩) ρ1
theorem sni_str {t : TE} {de : DE} (h : SndE K t de) : SndI K (iStr t) (dIStr de) := fun F σ H Hb ρ Rk Qd hK r hd q =>
  h F σ H Hb ρ _ _ hK r hd fun v d H' Hb' ρ' r' b rp hq => by
    obtain ⟨x, rfl, hq⟩ := str1_ok hq
    cases rp
    refine ⟨x, rfl, q _ _ H' Hb' ρ' r' b ⟨fun i d H1 Hb1 s1 s2 _ e => ?_, fun i H1 Hb1 s1 s2 _ e => ?_⟩ hq⟩
    · rw [List.getElem?_map, Array.getElem?_toList] at e
      cases ec : x.cps[i]? with
      | none => rw [ec] at e; cases e
      | some c =>
        rw [ec] at e
        cases e
        have lt : i < x.cps.size := by
          rcases Nat.lt_or_ge i x.cps.size with z | z
          · exact z
          · rw [Array.getElem?_eq_none z] at ec; cases ec
        refine ⟨lt, fun y H2 ⟨e2, c', e3, e4⟩ => ?_⟩
        rw [ec] at e3
        cases e3
        subst e2 e4
        exact ⟨Hb1, Gr.refl s2, .str _⟩
    · rw [List.length_map, Array.length_toList] at e
      exact e
/-! ### tuple(reversed(xs)) -/
def dTupRev (a : Opd) : DE := fun ρ Q => a.run ρ fun p ρ1 => p.res ρ1 fun d => lst1 d fun xs => Q (.tup xs.reverse) ρ1
theorem snd_tupRev {t : TE} {a : Opd} (ha : SndO K t a) : SndE K (RT.tTupRev K t) (dTupRev a) := fun F σ H Hb ρ Q Qd hK r h q => by
  subst hK
  refine SndO.use (t := t) rfl r ha h fun v p H1 Hb1 ρ1 r1 b1 o1 h1 => ?_
  obtain ⟨d, vd, h2⟩ := OpAt.res r1 o1 h1
  obtain ⟨xs, rfl, h2⟩ := lst1_ok h2
  obtain ⟨a, us, rfl, e, ra⟩ := vd.lst' r1.sub
  refine ⟨a, us, rfl, SqL.of e, fun p n => ?_⟩
  have g := Gr.new (o := .tup us.reverse) r1.sub n
  exact q _ (.tup xs.reverse) _ _ ρ1 (r1.grow g) (b1.trans g.b) (.tup upd_same (RepAll.mono g.b _ _ ra.reverse)) h2
/-! ### xs.index(i), whole numbers -/
def dIndex (a b : Opd) : DE := fun ρ Q => a.run ρ fun p ρ1 => (p.res ρ1 fun d => ∃ xs, d = .lst xs) ∧ b.run ρ1 fun u ρ2 => p.res ρ2 fun d => u.res ρ2 fun e => lst1 d fun xs => optD (intL xs) fun ns => int1 e fun i => ∃ j, ns[j]? = some i ∧ (∀ m, m < j → ns[m]? ≠ some i) ∧ Q (.int (j : Nat)) ρ2
theorem ints_flat (ns : List Int) : (ns.map V.int).all flatV = true := by
  rw [List.all_eq_true]
  intro x hx
  obtain ⟨n, _, rfl⟩ := List.mem_map.mp hx
  rfl
theorem eqV_int (i j : Int) : eqV (V.int i) (V.int j) = decide (i = j) := by
  show (i == j) = _
  rw [Bool.eq_iff_iff]
  simp
theorem snd_index {ta tb : TE} {a b : Opd} (ha : SndO K ta a) (hb : SndO K tb b) : SndE K (tBM K "list" (rIndex K) ta (tCons tb tNil)) (dIndex a b) := fun F σ H Hb ρ Q Qd hK r h q => by
  subst hK
  show ta σ H fun x H1 => tyV F.K "list" x H1 ∧ (tb σ H1 fun y H2 => rIndex F.K x [y] H2 Q)
  refine SndO.use (t := ta) rfl r ha h fun v p H1 Hb1 ρ1 r1 b1 o1 ⟨h0, h1⟩ => ?_
  obtain ⟨d0, vd0, xs0, rfl⟩ := OpAt.res r1 o1 h0
  obtain ⟨l, us0, rfl, e0, _⟩ := vd0.lst' r1.sub
  refine ⟨.inl ⟨rfl, us0, SqL.of e0⟩, ?_⟩
  refine SndO.use (t := tb) rfl r1 hb h1 fun w p2 H2 Hb2 ρ2 r2 b2 o2 h2 => ?_
  obtain ⟨d, vd, h3⟩ := OpAt.res r2 (o1.mono b2) h2
  obtain ⟨e, ve, h4⟩ := OpAt.res r2 o2 h3
  obtain ⟨xs, rfl, h5⟩ := lst1_ok h4
  obtain ⟨ns, en, h6⟩ := optD_ok h5
  obtain ⟨i, rfl, j, ej, no, h7⟩ := int1_ok h6
  obtain ⟨l2, us, el, e2, ra⟩ := vd.lst' r2.sub
  cases el
  obtain rfl := intL_rep ra en
  cases ve.int
  refine ⟨l, ns.map V.int, .int i, j, .int i, rfl, rfl, SqL.of e2, rfl, ints_flat ns, by rw [List.getElem?_map, ej]; rfl, by rw [eqV_int]; exact decide_eq_true rfl, fun m z hm hz => ?_, q _ _ H2 Hb2 ρ2 r2 (b1.trans b2) (.int _) h7⟩
  rw [List.getElem?_map] at hz
  cases em : ns[m]? with
  | none => rw [em] at hz; cases hz
  | some y =>
    rw [em] at hz
    cases hz
    rw [eqV_int]
    exact decide_eq_false fun z => no m hm (by rw [em, z])
/-! ### [.. for .. for ..] -/
def lcP2 (g : DG) (dt : DT) (di1 : DI) (g1 : DG) (dt1 : DT) (de : DE) (vs vs1 : List Nat) (items : List D) (ρ : Rho) (Q : List D → Rho → Prop) : Prop := ∃ P : Nat → Rho → List D → Prop, P 0 ρ [] ∧
  (∀ (i : Nat) x ρ acc, items[i]? = some x → P i ρ acc → freeC ρ vs ∧ g x (wipeR ρ vs) fun ρ2 => dt ρ2 fun b ρ3 => ifD b
    (di1 ρ3 fun items1 ρ4 => ∃ P1 : Nat → Rho → List D → Prop, P1 0 ρ4 acc ∧
      (∀ (j : Nat) y ρ5 acc1, items1[j]? = some y → P1 j ρ5 acc1 → freeC ρ5 vs1 ∧ g1 y (wipeR ρ5 vs1) fun ρ6 => dt1 ρ6 fun b1 ρ7 => ifD b1 (de ρ7 fun z ρ8 => acc1.length ≤ 1000000 ∧ P1 (j + 1) (backR ρ5 vs1 ρ8) (acc1 ++ [z])) (P1 (j + 1) (backR ρ5 vs1 ρ7) acc1)) ∧
      ∀ ρ5 acc1, P1 items1.length ρ5 acc1 → P (i + 1) (backR ρ vs ρ5) acc1)
    (P (i + 1) (backR ρ vs ρ3) acc)) ∧ ∀ ρ acc, P items.length ρ acc → Q acc ρ
def dLc2 (di : DI) (g : DG) (dt : DT) (di1 : DI) (g1 : DG) (dt1 : DT) (de : DE) (vs vs1 : List Nat) : DN := fun ρ Q => di ρ fun items ρ1 => lcP2 g dt di1 g1 dt1 de vs vs1 items ρ1 fun acc ρ2 => Q (.lst acc) ρ2
theorem fz_in {F : Fx} {σ : L2.St} {H Hb : Hp} {ρ : Rho} {D : Addr} {acc acc' : List V} (r : R (F.at D acc) σ H Hb ρ) : Same (fzH (F.at D acc').fr) H := fun b o e => by
  by_cases hb : b = D
  · subst hb
    have z : (F.at b acc').fr b = some (.lst acc') := upd_same
    unfold fzH at e
    rw [z] at e
    cases e
  · refine fz_same r.fr b o ?_
    have z1 : (F.at D acc').fr b = F.fr b := upd_ne hb
    have z2 : (F.at D acc).fr b = F.fr b := upd_ne hb
    unfold fzH at e ⊢
    rw [z1] at e
    rw [z2]
    exact e
theorem snd_lc2 {wi wi1 : TI} {g g1 : TG} {tt tt1 : TT} {te : TE} {vs vs1 : List Nat} {di di1 : DI} {dg dg1 : DG} {dt dt1 : DT} {de : DE} (hi : SndI K wi di) (hg : SndGI K g dg vs) (ht : SndT K tt dt) (hi1 : SndI K wi1 di1) (hg1 : SndGI K g1 dg1 vs1) (ht1 : SndT K tt1 dt1) (he : SndE K te de) :
    SndN K (tLc2 wi g tt wi1 g1 tt1 te vs vs1) (dLc2 di dg dt di1 dg1 dt1 de vs vs1) := fun F σ H Hb ρ Q Qd hK r hd q => by
  subst hK
  refine hi F σ H Hb ρ _ _ rfl r hd fun J items H1 Hb1 ρ1 r1 b1 ja ⟨P, p0, pt, pd⟩ => ?_
  intro D nD
  have nf : F.fr D = none := by
    cases e : F.fr D with
    | none => rfl
    | some o => rw [r1.fr _ _ e] at nD; cases nD
  have al : F.al D := r1.nw D nD
  -- how a state stands, the list grown to acc
  let Sd : (Rho → List PL.D → Prop) → L2.St → Hp → Prop := fun p σ H => ∃ Hb2 ρ2 accV acc, R (F.at D accV) σ H Hb2 ρ2 ∧ Same Hb1 Hb2 ∧ RepAll F.K Hb2 accV acc ∧ p ρ2 acc
  refine ⟨fun i m H' => m = items.length - i ∧ i ≤ items.length ∧ Sd (P i) σ H', ⟨_, rfl, Nat.zero_le _, Hb1, ρ1, [], [], r1.enter nD, Same.refl _, .nil, p0⟩, ?_⟩
  rintro i m H2 ⟨rfl, hl, Hb2, ρ2, accV, acc, r2, b2, ra, p2⟩
  by_cases h : i < items.length
  · have ex : items[i]? = some items[i] := List.getElem?_eq_getElem h
    obtain ⟨go, yl⟩ := ja.go i _ H2 Hb2 b2 r2.sub (fz_same (r2.frU nf)) ex
    refine .inr ⟨go, fun H' => i + 1 ≤ items.length ∧ Sd (P (i + 1)) σ H', fun H' ⟨h1, h2⟩ => ⟨_, by omega, rfl, h1, h2⟩, fun x H3 y => ?_⟩
    obtain ⟨Hb3, g3, rp⟩ := yl x H3 y
    obtain ⟨fc, st⟩ := pt i _ ρ2 acc ex p2
    have r3 := r2.grow g3
    have b3 := b2.trans g3.b
    have ra3 := RepAll.mono g3.b _ _ ra
    refine hg (F.at D accV) (wipe σ vs) H3 Hb3 (wipeR ρ2 vs) x items[i] _ _ rfl (r3.wiped vs) rp st fun σ4 H4 Hb4 ρ4 w4 r4 b4 q4 => ?_
    rw [wipe_wipe] at w4
    refine ⟨w4, ht (F.at D accV) σ4 H4 Hb4 ρ4 _ _ rfl r4 q4 fun k H5 Hb5 ρ5 r5 b5 q5 => ?_⟩
    have b35 := b4.trans b5
    cases k with
    | false => exact iteF ⟨h, Hb5, _, accV, acc, r3.back b35 fc r5 w4, b3.trans b35, RepAll.mono b35 _ _ ra3, q5⟩
    | true =>
      refine iteT (hi1 (F.at D accV) σ4 H5 Hb5 ρ5 _ _ rfl r5 q5 fun J1 items1 H6 Hb6 ρ6 r6 b6 ja1 ⟨P1, s0, st1, sd⟩ => ?_)
      have b36 := b35.trans b6
      refine ⟨fun j k H' => k = items1.length - j ∧ j ≤ items1.length ∧ ∃ Hb7 ρ7 accW acc1, R (F.at D accW) σ4 H' Hb7 ρ7 ∧ Same Hb6 Hb7 ∧ RepAll F.K Hb7 accW acc1 ∧ P1 j ρ7 acc1, ⟨_, rfl, Nat.zero_le _, Hb6, ρ6, accV, acc, r6, Same.refl _, RepAll.mono b36 _ _ ra3, s0⟩, ?_⟩
      rintro j k H7 ⟨rfl, hl1, Hb7, ρ7, accW, acc1, r7, b7, ra7, p7⟩
      by_cases h1 : j < items1.length
      · have ey : items1[j]? = some items1[j] := List.getElem?_eq_getElem h1
        obtain ⟨go1, yl1⟩ := ja1.go j _ H7 Hb7 b7 r7.sub (fz_in r7) ey
        refine .inr ⟨go1, fun H' => j + 1 ≤ items1.length ∧ ∃ Hb7 ρ7 accW acc1, R (F.at D accW) σ4 H' Hb7 ρ7 ∧ Same Hb6 Hb7 ∧ RepAll F.K Hb7 accW acc1 ∧ P1 (j + 1) ρ7 acc1, fun H' ⟨n1, n2⟩ => ⟨_, by omega, rfl, n1, n2⟩, fun z H8 yz => ?_⟩
        obtain ⟨Hb8, g8, rp8⟩ := yl1 z H8 yz
        obtain ⟨fc1, st2⟩ := st1 j _ ρ7 acc1 ey p7
        have r8 := r7.grow g8
        have b8 := b7.trans g8.b
        have ra8 := RepAll.mono g8.b _ _ ra7
        refine hg1 (F.at D accW) (wipe σ4 vs1) H8 Hb8 (wipeR ρ7 vs1) z items1[j] _ _ rfl (r8.wiped vs1) rp8 st2 fun σ9 H9 Hb9 ρ9 w9 r9 b9 q9 => ?_
        rw [wipe_wipe] at w9
        refine ⟨w9, ht1 (F.at D accW) σ9 H9 Hb9 ρ9 _ _ rfl r9 q9 fun k1 H10 Hb10 ρ10 r10 b10 q10 => ?_⟩
        have b910 := b9.trans b10
        cases k1 with
        | false => exact iteF ⟨h1, Hb10, _, accW, acc1, r8.back b910 fc1 r10 w9, b8.trans b910, RepAll.mono b910 _ _ ra8, q10⟩
        | true =>
          refine iteT (he (F.at D accW) σ9 H10 Hb10 ρ10 _ _ rfl r10 q10 fun u e H11 Hb11 ρ11 r11 b11 rp11 ⟨hz, q11⟩ => ?_)
          obtain ⟨eD, nb⟩ := r11.atD
          have r12 := r8.back (b910.trans b11) fc1 r11 w9
          refine ⟨accW, eD, ?_, h1, Hb11, _, accW ++ [u], acc1 ++ [e], r12.grown, b8.trans (b910.trans b11), (RepAll.mono (b910.trans b11) _ _ ra8).append (.one rp11), q11⟩
          have := ra7.len
          rw [sizeLine_eq]
          omega
      · have ej : j = items1.length := by omega
        subst ej
        refine .inl ⟨ja1.stop _ H7 Hb7 b7 r7.sub (fz_in r7) (Nat.le_refl _), h, Hb7, _, accW, acc1, (r3.grown (acc' := accW)).back (b36.trans b7) fc r7 w4, b3.trans (b36.trans b7), ra7, sd ρ7 acc1 p7⟩
  · have hi' : i = items.length := by omega
    subst hi'
    obtain ⟨r4, s4, n4⟩ := r2.leave nf al
    exact .inl ⟨ja.stop _ H2 Hb2 b2 r2.sub (fz_same (r2.frU nf)) (Nat.le_refl _), q D (.lst acc) (sans H2 D) H2 Hb2 ρ2 r4 (b1.trans b2) n4 s4 ⟨accV, r2.atD.1, ra⟩ (pd ρ2 acc p2)⟩
/-! ### max(xs, default=d), whole numbers -/
def rMaxDf (K : PySem.W.Frag) : List V → List V → Hp → VK → Prop := fun vs zs H Q => ∃ (a : Addr) (ns : List Int) (d : Int), vs = [V.ref a] ∧ zs = [V.int d] ∧ SqL K H a (ns.map V.int) ∧ (ns = [] → Q (.int d) H) ∧ ∀ m, m ∈ ns → (∀ y, y ∈ ns → y ≤ m) → Q (.int m) H
theorem cr_maxDf {X : Cx} (hc : X.calm = true) (hu : X.A.units + 64 < cLine) : CallRK X (.builtin "max") [Str.ofString "default"] (rMaxDf X.K) := by
  intro pins s σ H vs zs us ws Q I r rz h
  obtain ⟨a, ns, d, rfl, rfl, hs, q0, q⟩ := h
  obtain rfl := Vals.ref1 r
  obtain ⟨w1, rfl, t, rfl⟩ : ∃ w1, ws = [w1] ∧ ∃ t, w1 = Value.int d t := by
    cases rz with
    | cons h1 h2 => cases h2; exact ⟨_, rfl, h1⟩
  obtain ⟨its, rv, pl, _⟩ := I.list hs
  refine PySem.W.max_list_default (I.ok.hd hc) pl.isList (by simpa using reads_ints rv) (ints_alike ns) (by rw [ints_depth]; omega) ?_ ?_
  · intro e h' tk k
    have en : ns = [] := List.map_eq_nil_iff.mp e
    exact ⟨.int d, H, I.kept k, ⟨t, rfl⟩, q0 en⟩
  · intro y ys i v h' tk bs e hv hr k
    cases ns with
    | nil => cases e
    | cons x xs =>
      rw [List.map_cons] at e
      obtain ⟨rfl, rfl⟩ := List.cons.inj e
      rw [maxD_int] at hr
      cases hr with
      | int _ t =>
        refine ⟨.int (maxI x xs), H, I.kept k, ⟨t, rfl⟩, q _ (maxI_mem xs x) fun y hy => ?_⟩
        cases hy with
        | head => exact (maxI_ge xs x).1
        | tail _ hy => exact (maxI_ge xs x).2 y hy
def dMaxDf (a b : Opd) : DE := fun ρ Q => a.run ρ fun p ρ1 => b.run ρ1 fun u ρ2 => p.res ρ2 fun d => u.res ρ2 fun e => lst1 d fun xs => optD (intL xs) fun ns => int1 e fun i => (ns = [] → Q (.int i) ρ2) ∧ ∀ m, m ∈ ns → (∀ y, y ∈ ns → y ≤ m) → Q (.int m) ρ2
theorem snd_maxDf {ta tb : TE} {a b : Opd} (ha : SndO K ta a) (hb : SndO K tb b) : SndE K (tCKw (rMaxDf K) (tCons ta tNil) (tCons tb tNil)) (dMaxDf a b) := fun F σ H Hb ρ Q Qd hK r h q => by
  subst hK
  show ta σ H fun x H1 => tb σ H1 fun y H2 => rMaxDf F.K [x] [y] H2 Q
  refine SndO.use (t := ta) rfl r ha h fun v p H1 Hb1 ρ1 r1 b1 o1 h1 => ?_
  refine SndO.use (t := tb) rfl r1 hb h1 fun w p2 H2 Hb2 ρ2 r2 b2 o2 h2 => ?_
  obtain ⟨d, vd, h3⟩ := OpAt.res r2 (o1.mono b2) h2
  obtain ⟨e, ve, h4⟩ := OpAt.res r2 o2 h3
  obtain ⟨xs, rfl, h5⟩ := lst1_ok h4
  obtain ⟨ns, en, h6⟩ := optD_ok h5
  obtain ⟨i, rfl, h7, h8⟩ := int1_ok h6
  obtain ⟨l, us, rfl, e2, ra⟩ := vd.lst' r2.sub
  obtain rfl := intL_rep ra en
  cases ve.int
  exact ⟨l, ns, i, rfl, rfl, SqL.of e2, fun z => q _ _ H2 Hb2 ρ2 r2 (b1.trans b2) (.int _) (h7 z), fun m hm hy => q _ _ H2 Hb2 ρ2 r2 (b1.trans b2) (.int _) (h8 m hm hy)⟩
/-! ### zip of two tuples -/
section
variable {K : PySem.W.Frag}
def zpD : List D → List D → List D
  | x :: xs, y :: ys => .tup [x, y] :: zpD xs ys
  | _, _ => []
theorem zpD_get : ∀ {i : Nat} {xs ys : List D} {z : D}, (zpD xs ys)[i]? = some z → ∃ x y, xs[i]? = some x ∧ ys[i]? = some y ∧ z = .tup [x, y]
  | 0, x :: xs, y :: ys, z, h => by cases h; exact ⟨x, y, rfl, rfl, rfl⟩
  | i + 1, x :: xs, y :: ys, z, h => zpD_get (i := i) (xs := xs) (ys := ys) h
  | i, [], ys, z, h => by cases h
  | i, x :: xs, [], z, h => by cases h
theorem zpD_end : ∀ {i : Nat} {xs ys : List D}, (zpD xs ys).length ≤ i → xs.length ≤ i ∨ ys.length ≤ i
  | i, [], ys, h => .inl (Nat.zero_le _)
  | i, x :: xs, [], h => .inr (Nat.zero_le _)
  | 0, x :: xs, y :: ys, h => absurd h (Nat.not_succ_le_zero _)
  | i + 1, x :: xs, y :: ys, h => by
    rcases zpD_end (Nat.le_of_succ_le_succ h) with h | h
    · exact .inl (Nat.succ_le_succ h)
    · exact .inr (Nat.succ_le_succ h)
def dIZip (da : DA) : DI := fun ρ Q => da ρ fun ds ρ1 => match ds with
  | [.tup xs, .tup ys] => Q (zpD xs ys) ρ1
  | _ => False
theorem sni_zipA {n : Nat} {t : TA} {da : DA} (h : SndA K n t da) : SndI K (RZ.iZipA K t) (dIZip da) := fun F σ H Hb ρ Rk Qd hK r hd q =>
  h F σ H Hb ρ _ _ hK r hd fun vs ds H' Hb' ρ' r' b rp hl hq => by
    cases rp with
    | nil => exact hq.elim
    | cons h1 h2 =>
      cases h1 with
      | tup t1 t2 =>
        cases h2 with
        | nil => exact hq.elim
        | cons h3 h4 =>
          cases h3 with
          | tup u1 u2 =>
            cases h4 with
            | cons _ _ => exact hq.elim
            | nil =>
              rename_i a xs es a2 ys fs
              have t1 := SqT.of (K := K) t1
              have u1 := SqT.of (K := K) u1
              refine ⟨a, a2, xs, ys, rfl, .inr ⟨sT r'.sub t1, sT r'.sub u1, q _ _ H' Hb' ρ' r' b ⟨fun i d H Hb1 s1 s2 _ e => ?_, fun i H Hb1 s1 s2 _ e => ⟨xs, ys, sT (s1.trans s2) t1, sT (s1.trans s2) u1, by rw [t2.len, u2.len]; exact zpD_end e⟩⟩ hq⟩⟩
              obtain ⟨d1, d2, e1, e2, rfl⟩ := zpD_get e
              obtain ⟨v1, f1, g1⟩ := t2.get e1
              obtain ⟨v2, f2, g2⟩ := u2.get e2
              refine ⟨⟨xs, ys, v1, v2, sT (s1.trans s2) t1, sT (s1.trans s2) u1, f1, f2⟩, fun x H' ⟨T, y1, y2, ex, nT, eH, fx, fy⟩ => ?_⟩
              subst ex eH
              have w1 := fx _ (sT (s1.trans s2) t1)
              have w2 := fy _ (sT (s1.trans s2) u1)
              rw [f1] at w1
              rw [f2] at w2
              cases w1
              cases w2
              exact gr_pair s2 nT (Rep.mono s1 _ _ g1) (Rep.mono s1 _ _ g2)
          | _ => cases h4 <;> exact hq.elim
      | _ => cases h2 with
        | nil => exact hq.elim
        | cons h3 h4 => exact hq.elim
end
/-! ### str of a whole number -/
section
variable {K : PySem.W.Frag}
def fStr (ds : List D) (k : D → Prop) : Prop := arg1 ds fun d => int1 d fun i => i.natAbs.log2 < 1920 ∧ k (.str (toString i))
theorem s_str : CallS K (fun xs H Q => ∃ i, xs = [.int i] ∧ i.natAbs.log2 < 1920 ∧ Q (.str (toString i)) H) fStr := fun H Hb vs ds Q Qd s hv h q => by
  obtain ⟨v, d, rfl, rfl, vd, h⟩ := hv.one h
  obtain ⟨i, rfl, hi, h⟩ := int1_ok h
  cases vd.int
  exact ⟨i, rfl, hi, q _ _ H Hb (Gr.refl s) (.str _) h⟩
end
end PL
namespace PL
open PySem PySem.Spec PyProof.Rows L2
/-! ### a text beside another -/
section
variable {K : PySem.W.Frag}
def fLeS (d e : D) (k : D → Prop) : Prop := match d, e with
  | .str x, .str y => k (.bl (!decide (y.cps.toList < x.cps.toList)))
  | _, _ => False
theorem s_leS : OpS K (fun x y H Q => ∃ i j, x = .str i ∧ y = .str j ∧ Q (.bl (!decide (j.cps.toList < i.cps.toList))) H) fLeS := fun H Hb v w d e Q Qd s hv hw h q => by
  cases d with
  | str x => cases e with
    | str y =>
      cases hv.str
      cases hw.str
      exact ⟨x, y, rfl, rfl, q _ _ H Hb (Gr.refl s) (.bl _) h⟩
    | _ => exact h.elim
  | _ => exact h.elim
/-! ### d.get(k, z) -/
def isDct : D → Prop
  | .dct _ => True
  | .dcu _ => True
  | _ => False
theorem isDct_ok {Hb H : Hp} {v : V} {d : D} (s : Same Hb H) (hv : View K Hb H v d) (h : isDct d) : ∃ a, v = .ref a ∧ L2.IsD H a := by
  cases d with
  | dct es =>
    obtain ⟨a, kvs, rfl, h1, _⟩ := hv.dct' s
    exact ⟨a, rfl, .inl ⟨kvs, h1⟩⟩
  | dcu es =>
    obtain ⟨a, kvs, rfl, h1, _⟩ := hv.dcu' s
    exact ⟨a, rfl, .inr ⟨kvs, h1⟩⟩
  | _ => exact h.elim
def dDGet2 (a b : Opd) (c : DE) : DE := fun ρ Q => a.run ρ fun p ρ1 => (p.res ρ1 fun d => isDct d) ∧ b.run ρ1 fun q ρ2 => c ρ2 fun z ρ3 => p.res ρ3 fun d => q.res ρ3 fun k => ∃ r, dgetD d k = some r ∧ Q (r.getD z) ρ3
theorem snd_dget2 {ta tb tc : TE} {a b : Opd} {c : DE} (ha : SndO K ta a) (hb : SndO K tb b) (hc : SndE K tc c) : SndE K (tDGet2 ta tb tc) (dDGet2 a b c) := fun F σ H Hb ρ Q Qd hK rr h q => by
  subst hK
  refine SndO.use (t := ta) rfl rr ha h fun v p H1 Hb1 ρ1 r1 b1 o1 ⟨h0, h1⟩ => ?_
  obtain ⟨d0, vd0, hd0⟩ := OpAt.res r1 o1 h0
  obtain ⟨a0, e0, is0⟩ := isDct_ok r1.sub vd0 hd0
  refine ⟨a0, e0, is0, ?_⟩
  refine SndO.use (t := tb) rfl r1 hb h1 fun w p2 H2 Hb2 ρ2 r2 b2 o2 h2 => ?_
  refine hc F σ H2 Hb2 ρ2 _ _ rfl r2 h2 fun z y H3 Hb3 ρ3 r3 b3 ry h3 => ?_
  obtain ⟨d, vd, h4⟩ := OpAt.res r3 (o1.mono (b2.trans b3)) h3
  obtain ⟨k, vk, h5⟩ := OpAt.res r3 (o2.mono b3) h4
  obtain ⟨r, er, h7⟩ := h5
  obtain ⟨a', o, ea, g, hz⟩ := dgetD_ok r3.sub vd vk er
  rw [e0] at ea
  cases ea
  refine ⟨o, g, ?_⟩
  rcases hz with ⟨u, x, eo, ex, ru⟩ | ⟨eo, ex⟩
  · subst eo ex
    exact q _ _ H3 Hb3 ρ3 r3 (b1.trans (b2.trans b3)) ru h7
  · subst eo ex
    exact q _ _ H3 Hb3 ρ3 r3 (b1.trans (b2.trans b3)) ry h7
/-! ### (x,) * k, k great -/
theorem op_repBig {X : Cx} : OpR X (binaryOp .Mult) (fun x y H Q => ∃ l k z, x = .ref l ∧ y = .int k ∧ SqT X.K H l [z] ∧ 2 ≤ k ∧ k ≤ 10000 ∧ ∀ p, H p = none → Q (.ref p) (upd H p (.tup (List.replicate k.toNat [z]).flatten))) := by
  intro pins s σ H x y v u Q I rx ry h
  obtain ⟨l, k, z, rfl, rfl, hT, h1, h2, q⟩ := h
  cases rx
  obtain ⟨t, rfl⟩ := ry
  obtain ⟨ws, rv, ⟨⟨cl, di, da, so⟩, at0, ec, m, ed⟩, _⟩ := I.tuple hT
  simp only at ec ed
  subst ec ed
  have one : ws.length = 1 := rv.length.symm
  obtain ⟨w, rfl⟩ : ∃ w, ws = [w] := by
    match ws, one with
    | [w], _ => exact ⟨w, rfl⟩
  have few : (List.replicate k.toNat [w]).flatten.length ≤ sizeLine := by
    rw [PyProof.Rows.lm_len_rep_flat, sizeLine_eq]
    show k.toNat * 1 ≤ _
    omega
  have few2 : (List.replicate k.toNat [z]).flatten.length ≤ sizeLine := by
    rw [PyProof.Rows.lm_len_rep_flat, sizeLine_eq]
    show k.toNat * 1 ≤ _
    omega
  have g0 : (decide (k < -(2 ^ 63)) || decide (k ≥ 2 ^ 63)) = false := by
    rw [Bool.or_eq_false_iff]
    exact ⟨decide_eq_false (by omega), decide_eq_false (by omega)⟩
  have g1 : (([w] : List Value).toArray.isEmpty || k == 1) = false := by
    rw [Bool.or_eq_false_iff]
    exact ⟨rfl, beq_eq_false_iff_ne.mpr (by omega)⟩
  have g2 : (decide (k ≤ 0) || ([w] : List Value).toArray.isEmpty) = false := by
    rw [Bool.or_eq_false_iff]
    exact ⟨decide_eq_false (by omega), rfl⟩
  have g4 : Builtin.Tuple.tupleTooMany (((([w] : List Value).toArray.size : Nat) : Int) * k) = false := by
    unfold Builtin.Tuple.tupleTooMany
    rw [sizeLine_eq]
    exact decide_eq_false (by show ¬ _; have : ((([w] : List Value).toArray.size : Nat) : Int) = 1 := rfl; rw [this]; omega)
  have g3 : ¬ (((([w] : List Value).toArray.size : Nat) : Int) * k > (2 ^ 63 - 1) / 8) := by
    have : ((([w] : List Value).toArray.size : Nat) : Int) = 1 := rfl
    rw [this]
    omega
  have mul := tuple_mulW l [w].toArray m di so k t g0 g1 g2 g3 g4 (by rw [size_rep, List.size_toArray]; exact few)
  refine wpAny_binaryOp_repeat_ref (T := "tuple") (U := "int") (by decide) ⟨_, at0, rfl⟩ (fun s' => typeIs_int s' k t) noFill_tuple_mul F.fills_int_mul F.slot_int_rmul repeat_tuple F.slot_int_index.lookup ?_
  refine call_meets F.slot_int_rmul (typeIs_int s k t) F.entry_int_rmul (F.args_int_rmul_2 _ _) (int_rmul_tuple k t l [w].toArray m di so) ⟨at0, rfl, ⟨_, at0, rfl⟩, ?_⟩
  refine call_meets F.slot_tuple_mul ⟨_, at0, rfl⟩ F.entry_tuple_mul (F.args_tuple_mul_2 _ _) mul ⟨at0, ?_⟩
  rw [size_rep]
  exact ⟨.ref s.heap.objs.size, _, I.laid (t' := s.toks) (o := .tup (List.replicate k.toNat [z]).flatten) (fun b ob e => Heap.get?_push_of_some _ e) (Nat.le_refl _) ⟨few2, _, rv.rep k.toNat, IsTup.new _ _⟩, rfl, q _ (I.hok.fresh (Nat.le_refl _))⟩
def fRepB (d e : D) (k : D → Prop) : Prop := match d with
  | .tup [x] => int1 e fun i => (2 ≤ i ∧ i ≤ 10000) ∧ k (.tup (List.replicate i.toNat [x]).flatten)
  | _ => False
theorem s_repB : OpS K (fun x y H Q => ∃ l k z, x = .ref l ∧ y = .int k ∧ SqT K H l [z] ∧ 2 ≤ k ∧ k ≤ 10000 ∧ ∀ p, H p = none → Q (.ref p) (upd H p (.tup (List.replicate k.toNat [z]).flatten))) fRepB := fun H Hb v w d e Q Qd s hv hw h q => by
  cases d with
  | tup ds =>
    cases ds with
    | nil => exact h.elim
    | cons x r =>
      cases r with
      | cons _ _ => exact h.elim
      | nil =>
        obtain ⟨i, rfl, ⟨c1, c2⟩, h⟩ := int1_ok h
        obtain ⟨a, vs, rfl, at1, _, rs⟩ := hv.tupS s
        cases hw.int
        cases rs with
        | cons r1 r2 =>
          cases r2
          rename_i v0 _
          refine ⟨a, i, _, rfl, rfl, SqT.of at1, c1, c2, fun p n => ?_⟩
          have g := Gr.new (o := .tup (List.replicate i.toNat [v0]).flatten) s n
          exact q _ _ _ _ g (.tup upd_same (RepAll.mono g.b _ _ (rep_flat (.cons r1 .nil) _))) h
  | _ => exact h.elim
/-! ### a text * k -/
def mulX (a : Str) (n : Int) : Str := ⟨(List.replicate n.toNat a.cps).foldl (· ++ ·) #[]⟩
theorem fold_size (c : Array Nat) : ∀ (k : Nat) (acc : Array Nat), (List.foldl (· ++ ·) acc (List.replicate k c)).size = acc.size + k * c.size
  | 0, acc => by rw [Nat.zero_mul]; rfl
  | k + 1, acc => by
    rw [List.replicate_succ, List.foldl_cons, fold_size c k, Array.size_append, Nat.succ_mul]
    omega
theorem op_mulS {X : Cx} : OpR X (binaryOp .Mult) (fun x y H Q => ∃ a n, x = .str a ∧ y = .int n ∧ 2 ≤ n ∧ n ≤ 1000 ∧ 1 ≤ a.length ∧ a.length ≤ 1000 ∧ Q (.str (mulX a n)) H) := by
  intro pins s σ H x y v u Q I rx ry h
  obtain ⟨a, n, rfl, rfl, h1, h2, h3, h4, q⟩ := h
  obtain ⟨t, rfl⟩ := rx
  obtain ⟨t', rfl⟩ := ry
  have one : (n == 1 || a.length == 0) = false := by
    rw [Bool.or_eq_false_iff]
    exact ⟨beq_eq_false_iff_ne.mpr (by omega), beq_eq_false_iff_ne.mpr (by omega)⟩
  have less : ¬ n < 1 := by omega
  have big : a.length * n.toNat ≤ 1000000 := Nat.le_trans (Nat.mul_le_mul h4 (show n.toNat ≤ 1000 by omega)) (by decide)
  refine P.mul_str (by rw [Bool.or_eq_false_iff]; exact ⟨decide_eq_false (by omega), decide_eq_false (by omega)⟩) (fun _ _ z => ?_) (fun _ _ => ?_) ?_
  · have : (2 ^ 63 - 1 : Int) / 1000 ≤ (2 ^ 63 - 1) / n := by
      refine (Int.le_ediv_iff_mul_le (by omega)).mpr ?_
      have : (2 ^ 63 - 1 : Int) / 1000 * n ≤ (2 ^ 63 - 1 : Int) / 1000 * 1000 := Int.mul_le_mul_of_nonneg_left h2 (by decide)
      have : (2 ^ 63 - 1 : Int) / 1000 * 1000 ≤ 2 ^ 63 - 1 := by decide
      omega
    have : (1000 : Int) < (2 ^ 63 - 1 : Int) / 1000 := by decide
    omega
  · unfold Builtin.Str.tooLong
    rw [decide_eq_false (by rw [sizeLine_eq]; omega)]
  · rw [if_neg less, if_neg (by rw [one]; decide)]
    refine ⟨?_, .str (mulX a n), H, I.tok _, ⟨_, rfl⟩, q⟩
    show (List.foldl (· ++ ·) #[] (List.replicate n.toNat a.cps)).size ≤ sizeLine
    rw [fold_size, sizeLine_eq]
    have : n.toNat * a.cps.size ≤ 1000000 := by
      rw [Nat.mul_comm]
      exact big
    show 0 + _ ≤ _
    omega
def fMulS (d e : D) (k : D → Prop) : Prop := match d with
  | .str a => int1 e fun i => (2 ≤ i ∧ i ≤ 1000 ∧ 1 ≤ a.length ∧ a.length ≤ 1000) ∧ k (.str (mulX a i))
  | _ => False
theorem s_mulS : OpS K (fun x y H Q => ∃ a n, x = .str a ∧ y = .int n ∧ 2 ≤ n ∧ n ≤ 1000 ∧ 1 ≤ a.length ∧ a.length ≤ 1000 ∧ Q (.str (mulX a n)) H) fMulS := fun H Hb v w d e Q Qd s hv hw h q => by
  cases d with
  | str x =>
    obtain ⟨i, rfl, ⟨c1, c2, c3, c4⟩, h⟩ := int1_ok h
    cases hv.str
    cases hw.int
    exact ⟨x, i, rfl, rfl, c1, c2, c3, c4, q _ _ H Hb (Gr.refl s) (.str _) h⟩
  | _ => exact h.elim
/-! ### a, b, .. = a list -/
def gL (n : Nat) (gs : DGs) : DG := fun d ρ Q => match d with
  | .lst ds => ds.length = n ∧ gs ds ρ Q
  | _ => False
theorem sng_lst {n : Nat} {u : TGs} {gs : DGs} (hs : SndGs K u gs) : SndG K (gLst K n u) (gL n gs) := fun F σ H Hb ρ v d Q Qd hK r rp h q => by
  cases rp with
  | lst h1 h2 =>
    obtain ⟨hl, h⟩ := h
    exact ⟨_, _, rfl, SqL.of (r.sub _ _ h1), h2.len.trans hl, hs F σ H Hb ρ _ _ _ _ hK r h2 h q⟩
  | _ => exact h.elim
end
end PL
namespace PL
open PySem PySem.Spec PyProof.Rows L2 TB
theorem hu65 {k : Nat} {A : Around} (r : Room k A) : A.units + 65 < cLine := by have := r.un; omega
/-! ### x in xs, x and the items data of any depth -/
def rInDp (K : PySem.W.Frag) (neg : Bool) : R2 := fun x y H Q => ∃ d ds, Dp K H x d ∧ ((Dp K H y (.list ds) ∧ SeqAt.shaped (.list ds) = true) ∨ (Dp K H y (.tuple ds) ∧ SeqAt.shaped (.tuple ds) = true)) ∧ SeqAt.shaped d = true ∧
  Q (.bl (if neg then !ds.any fun z => PyData.eqv z d else ds.any fun z => PyData.eqv z d)) H
section
variable {X : Cx}
theorem op_inDp (hu : X.A.units + 65 < cLine) : OpR X (compareOp .In) (rInDp X.K false) := by
  intro pins s σ H x y v u Q I rx ry h
  obtain ⟨d, ds, hd, he, sd, q⟩ := h
  obtain ⟨as, r1⟩ := Dp.reads I d x v hd rx
  rcases he with ⟨he, se⟩ | ⟨he, se⟩
  · obtain ⟨bs, r2⟩ := Dp.reads I (.list ds) y u he ry
    exact SeqAt.in_list_reads r2 r1 (SeqAt.canLay_of_shaped se) (SeqAt.canLay_of_shaped sd) (room_in_shaped sd hu) ⟨.bl _, H, I, rfl, q⟩
  · obtain ⟨bs, r2⟩ := Dp.reads I (.tuple ds) y u he ry
    exact SeqAt.in_tuple_reads r2 r1 (SeqAt.canLay_of_shaped se) (SeqAt.canLay_of_shaped sd) (room_in_shaped sd hu) ⟨.bl _, H, I, rfl, q⟩
theorem op_notInDp (hu : X.A.units + 65 < cLine) : OpR X (compareOp .NotIn) (rInDp X.K true) := by
  intro pins s σ H x y v u Q I rx ry h
  obtain ⟨d, ds, hd, he, sd, q⟩ := h
  obtain ⟨as, r1⟩ := Dp.reads I d x v hd rx
  rcases he with ⟨he, se⟩ | ⟨he, se⟩
  · obtain ⟨bs, r2⟩ := Dp.reads I (.list ds) y u he ry
    exact SeqAt.notIn_list_reads r2 r1 (SeqAt.canLay_of_shaped se) (SeqAt.canLay_of_shaped sd) (room_in_shaped sd hu) ⟨.bl _, H, I, rfl, q⟩
  · obtain ⟨bs, r2⟩ := Dp.reads I (.tuple ds) y u he ry
    exact SeqAt.notIn_tuple_reads r2 r1 (SeqAt.canLay_of_shaped se) (SeqAt.canLay_of_shaped sd) (room_in_shaped sd hu) ⟨.bl _, H, I, rfl, q⟩
end
section
variable {K : PySem.W.Frag}
theorem any_toPs (d : D) : ∀ ds : List D, (toPs ds).any (fun z => PyData.eqv z (toP d)) = ds.any fun z => eqD z d
  | [] => rfl
  | x :: r => by
    show (PyData.eqv (toP x) (toP d) || (toPs r).any (fun z => PyData.eqv z (toP d))) = (eqD x d || r.any fun z => eqD z d)
    rw [any_toPs d r]; rfl
def seqD : D → Option (List D)
  | .tup ds => some ds
  | .lst ds => some ds
  | _ => none
def fInDp (neg : Bool) (d e : D) (k : D → Prop) : Prop := optD (seqD e) fun ds => (CmpOk d ∧ CmpOk e) ∧ k (.bl (if neg then !ds.any fun z => eqD z d else ds.any fun z => eqD z d))
theorem s_inDp (neg : Bool) : OpS K (rInDp K neg) (fInDp neg) := fun H Hb v w d e Q Qd s hv hw h q => by
  obtain ⟨ds, e1, ⟨c1, c2⟩, h⟩ := optD_ok h
  have a := hv.dp s c1.c
  have b := hw.dp s c2.c
  have fin : ∀ x : Bool, x = (if neg then !ds.any fun z => eqD z d else ds.any fun z => eqD z d) → Q (.bl x) H := fun x ex => by
    rw [ex]
    exact q _ _ H Hb (Gr.refl s) (.bl _) h
  cases e with
  | tup es =>
    cases e1
    exact ⟨toP d, toPs ds, a, .inr ⟨b, c2.s⟩, c1.s, fin _ (by rw [any_toPs])⟩
  | lst es =>
    cases e1
    exact ⟨toP d, toPs ds, a, .inl ⟨b, c2.s⟩, c1.s, fin _ (by rw [any_toPs])⟩
  | _ => cases e1
end
/-! ### len(set(xs)), xs a tuple of few tuples of whole numbers -/
section
variable {P : Program} {w : World} {A : Around} {E : Value → Shared → Prop} {s : Shared}
theorem set_callT {l : Addr} {items : Array Value} (ks : List (Addr × List Int)) {Q : Value → Shared → Prop} (hh : A.handled = none) (hl : s.heap.IsTuple l items) (hit : items.toList = ks.map fun p => Value.ref p.1)
    (hk : ∀ p ∈ ks, IsT P w s.heap p.2 p.1) (hfew : ks.length < 64) (hu : A.units + 3 < cLine)
    (h : ∀ (h' : Heap) (tk : Nat) L es ep t, SetTR P w h' s.heap.objs.size L es ep t → Got ks ks.length L → (∀ b o, s.heap.get? b = some o → h'.get? b = some o) → Q (.ref s.heap.objs.size) { s with heap := h', toks := tk }) :
    wpAny (model P w) A (call (.type "set") [.ref l]) Q E s := by
  have hisz : items.size = ks.length := by
    have q := congrArg List.length hit
    rw [Array.length_toList, List.length_map] at q
    exact q
  refine type_call (N := fun obj s1 => obj = .ref s.heap.objs.size ∧ s1 = { s with heap := s.heap.push { cls := .type "set", dict := none, data := .set #[] 0 (.fresh 0 0 (!w.params.followText "set-order")) } }) PySem.F.called_set (PySem.F.typeCall_set_1 _) PySem.F.entry_set_init
    (code_set_led1 _ ⟨rfl, rfl⟩) fun obj s1 h1 => ?_
  obtain ⟨rfl, rfl⟩ := h1
  generalize eO : ({ cls := .type "set", dict := none, data := .set #[] 0 (.fresh 0 0 (!w.params.followText "set-order")) } : Obj) = oS at *
  have at0 : (s.heap.push oS).get? s.heap.objs.size = some oS := Heap.get?_push_size _ (by first | rfl | (rw [← eO]; rfl))
  have C := src_tup (prog := P) (w := w) (l := l) (its := items)
  have ok1 := C.push s.heap oS hl
  have ty1 := C.typ { s with heap := s.heap.push oS } ok1
  have n1 := C.set0
  have n2 := C.frz0
  have n3 := C.dct0
  have tS : Shared.TypeIs { s with heap := s.heap.push oS } (.ref s.heap.objs.size) "set" := ⟨_, at0, by rw [← eO]⟩
  refine ⟨codeAny_call_builtin PySem.F.called_set.init.plain PySem.F.entry_set_init (PySem.check_set_init_1 tS ?_), tS⟩
  have at0' : (s.heap.push oS).get? s.heap.objs.size = some { cls := .type "set", dict := none, data := .set #[] 0 (.fresh 0 0 (!w.params.followText "set-order")) } := by rw [eO]; exact at0
  unfold Builtin.«set.__init__» noKeywords Builtin.Frozenset.updateFrom
  generalize hPI : pyIter = PI
  wp_walk
  subst hPI
  obtain ⟨oI, St, hI, wk, st⟩ := C.itr { s with heap := s.heap.push oS } ok1
  refine hI _ _ _ (wpAny_bind (wpAny_runValue ?_))
  have hlS : l < s.heap.objs.size := C.low _ hl
  have hz1 : (s.heap.push oS).objs.size = s.heap.objs.size + 1 := Heap.size_push ..
  have hSf : s.heap.objs.size ∉ [(s.heap.push oS).objs.size, l] := by
    intro z
    rcases List.mem_cons.mp z with z | z
    · rw [hz1] at z
      exact absurd z (Nat.ne_of_lt (Nat.lt_succ_self _))
    · rw [List.mem_singleton.mp z] at hlS
      exact Nat.lt_irrefl _ hlS
  have hval : ∀ (i : Nat) (v : Value), items[i]? = some v → ∃ p, ks[i]? = some p ∧ v = .ref p.1 := fun i v hv => by
    have q : items.toList[i]? = some v := by rw [Array.getElem?_toList]; exact hv
    rw [hit, List.getElem?_map] at q
    cases hq : ks[i]? with
    | none => rw [hq] at q; cases q
    | some p =>
      rw [hq] at q
      exact ⟨p, rfl, (Option.some.inj q).symm⟩
  have none_of : ∀ b, s.heap.objs.size ≤ b → s.heap.get? b = none := fun b hb => by
    cases q : s.heap.get? b with
    | none => rfl
    | some o => exact absurd (Nat.lt_of_lt_of_le (Heap.lt_size q) hb) (Nat.lt_irrefl _)
  refine set_update_tups ((wk _ (by simp [hh])).toS) s.heap.objs.size hSf ks hisz hfew hval s.heap hk (none_of _ (Nat.le_refl _)) (fun b hb => none_of b (by
      rw [List.mem_singleton.mp hb]
      show s.heap.objs.size ≤ (s.heap.push oS).objs.size
      rw [hz1]
      exact Nat.le_succ _)) hu (items.size - 0) 0 _ (by omega) (Nat.zero_le _) st (fun b o e => Heap.get?_push_of_some _ (Heap.get?_push_of_some _ e)) ⟨[], #[], 0, _, setTR_fresh (Heap.get?_push_of_some _ at0'), Got.zero ks⟩ fun s' L es ep t hm hS' g' hkp => ?_
  obtain ⟨h', g2, d', tk', os'⟩ := s'
  have eg : g2 = s.gens := hm.gens
  have ed : d' = s.drawn := hm.drawn
  have eo : os' = s.os := hm.os
  subst eg; subst ed; subst eo
  rw [hisz] at g'
  exact wpAny_pure (wpAny_pure ⟨rfl, h _ _ _ _ _ _ hS' g' hkp⟩)
end
theorem got_len {ks L : List (Addr × List Int)} (g : Got ks ks.length L) (nd : (L.map (·.2)).Nodup) : L.length = (nub (ks.map (·.2))).length := by
  have a : ∀ x, x ∈ L.map (·.2) ↔ x ∈ nub (ks.map (·.2)) := fun x => by
    rw [nub_mem]
    constructor
    · intro hx
      obtain ⟨p, hp, rfl⟩ := List.mem_map.mp hx
      exact List.mem_map_of_mem (List.mem_of_mem_take (g.sub p hp))
    · intro hx
      obtain ⟨p, hp, rfl⟩ := List.mem_map.mp hx
      exact g.all p (by rw [List.take_length]; exact hp)
  have pm : (L.map (·.2)).Perm (nub (ks.map (·.2))) := (List.perm_ext_iff_of_nodup nd (nub_nodup _)).mpr a
  have := pm.length_eq
  rw [List.length_map] at this
  exact this
def tLenSetT (K : PySem.W.Frag) (ta : TE) : TE := fun σ H Q => ta σ H fun x H1 => ∃ (l : Addr) (ks : List (Addr × List Int)), x = .ref l ∧ SqT K H1 l (ks.map fun p => V.ref p.1) ∧ (∀ p ∈ ks, SqT K H1 p.1 (p.2.map V.int)) ∧ ks.length < 64 ∧ Q (.int (nub (ks.map (·.2))).length) H1
section
variable {X : Cx}
theorem pe_lenSetT {a : Expr} {ta : TE} {p p2 q pos : Pos} (hu : X.A.units + 64 < cLine) (hc : X.calm = true) (hg : Gl X "len") (hm : X.mg "len" = none) (hg2 : Gl X "set") (hm2 : X.mg "set" = none) (ha : PE X a ta)
    (na : starEach [a] X.env = (false, eval a X.env) :: starEach [] X.env := by rfl) : PE X (.Call (.Name "len" p) [.Call (.Name "set" p2) [a] [] q] [] pos) (tLenSetT X.K ta) := by
  refine ⟨fun pins s σ H Q I h => ?_⟩
  refine Call_ (ld_blt I hg hm boot_len (PyProof.Rows.callWith_builtin1 (PyProof.Rows.args_cons ?_ rfl) rfl rfl))
  refine Call_ (ld_blt I hg2 hm2 PyProof.Rows.boot_set (PyProof.Rows.callWith_type1 (PyProof.Rows.args_cons (thn (ha.run pins s σ H _ I h) fun v s1 ⟨x, H1, I1, r1, l, ks, ex, hq, hk, hz, q1⟩ => PyProof.Rows.args_nil ?_) na) na rfl))
  subst ex
  cases r1
  obtain ⟨its, r, pl, _⟩ := I1.tuple hq
  refine set_callT (P := X.prog) (w := X.w) ks (I1.ok.hd hc) (show s1.heap.IsTuple l its.toArray from pl) (by simpa using refs_of_vals r) (fun p hp => I1.isT (hk p hp)) hz (by omega) fun h' tk L es ep t R g k => ?_
  refine PyProof.Rows.args_nil ?_
  obtain ⟨o, ho, hex, hd⟩ := R.ob
  have el := got_len g R.nd
  have es1 := SetTR.size (s := { s1 with heap := h', toks := tk }) R
  have few := R.few
  exact call_len_set ho hex hd (SetTR.fits (s := { s1 with heap := h', toks := tk }) R) (by rw [es1]; omega) ⟨.int (nub (ks.map (·.2))).length, H1, (I1.kept (t' := tk) k).tok _, ⟨_, by rw [es1, el]⟩, q1⟩
end
section
variable {K : PySem.W.Frag}
def rowI : D → Option (List Int)
  | .tup ds => intL ds
  | _ => none
def rowsI : List D → Option (List (List Int))
  | [] => some []
  | d :: r => match rowI d, rowsI r with
    | some k, some l => some (k :: l)
    | _, _ => none
theorem rowsI_rep {Hb H : Hp} (s : Same Hb H) : ∀ {ds : List D} {vs : List V} {ks : List (List Int)}, RepAll K Hb vs ds → rowsI ds = some ks → ∃ ps : List (Addr × List Int), vs = ps.map (fun p => V.ref p.1) ∧ ks = ps.map (·.2) ∧ ∀ p ∈ ps, SqT K H p.1 (p.2.map V.int)
  | [], _, _, .nil, e => by
    cases e
    exact ⟨[], rfl, rfl, fun p hp => (by cases hp)⟩
  | d :: r, _, ks, .cons h1 h2, e => by
    have e : (match rowI d, rowsI r with
      | some k, some l => some (k :: l)
      | _, _ => none) = some ks := e
    cases e1 : rowI d with
    | none => rw [e1] at e; cases e
    | some k =>
      cases e2 : rowsI r with
      | none => rw [e1, e2] at e; cases e
      | some l =>
        rw [e1, e2] at e
        cases e
        obtain ⟨ps, a1, a2, a3⟩ := rowsI_rep s h2 e2
        cases d with
        | tup xs =>
          cases h1 with
          | @tup a ws _ g1 g2 =>
            have ei := intL_rep g2 e1
            subst ei
            refine ⟨(a, k) :: ps, by rw [a1]; rfl, by rw [a2]; rfl, fun p hp => ?_⟩
            rcases List.mem_cons.mp hp with rfl | hp
            · exact SqT.of (s _ _ g1)
            · exact a3 p hp
        | _ => cases e1
def tup1 : D → (List D → Prop) → Prop
  | .tup ds, k => k ds
  | _, _ => False
def dLenSetT (a : Opd) : DE := fun ρ Q => a.run ρ fun p ρ1 => p.res ρ1 fun d => tup1 d fun ds => optD (rowsI ds) fun ks => ks.length < 64 ∧ Q (.int (nub ks).length) ρ1
theorem snd_lenSetT {t : TE} {a : Opd} (ha : SndO K t a) : SndE K (tLenSetT K t) (dLenSetT a) := fun F σ H Hb ρ Q Qd hK r h q => by
  subst hK
  refine SndO.use (t := t) rfl r ha h fun v p H1 Hb1 ρ1 r1 b1 o1 h1 => ?_
  obtain ⟨d, vd, h2⟩ := OpAt.res r1 o1 h1
  cases d with
  | tup ds =>
    obtain ⟨ks, e1, hz, h3⟩ := optD_ok (show optD (rowsI ds) _ from h2)
    cases vd with
    | rep vd =>
      cases vd with
      | tup g1 g2 =>
        obtain ⟨ps, rfl, rfl, hp⟩ := rowsI_rep r1.sub g2 e1
        rw [List.length_map] at hz
        exact ⟨_, ps, rfl, SqT.of (r1.sub _ _ g1), hp, hz, q _ _ H1 Hb1 ρ1 r1 b1 (.int _) h3⟩
  | _ => exact h2.elim
/-! ### len of a dict -/
def fLenD (ds : List D) (k : D → Prop) : Prop := arg1 ds fun d => match d with
  | .dct es => k (.int es.length)
  | _ => False
theorem s_lenD : CallS K (fun xs H Q => ∃ a kvs, xs = [V.ref a] ∧ Rd H a (.dK kvs) ∧ Q (.int kvs.length) H) fLenD := fun H Hb vs ds Q Qd s hv h q => by
  obtain ⟨v, d, rfl, rfl, vd, h⟩ := hv.one h
  cases d with
  | dct es =>
    cases vd with
    | rep vd =>
      cases vd with
      | dct g1 g2 => exact ⟨_, _, rfl, Rd.same s g1, by rw [g2.len]; exact q _ _ H Hb (Gr.refl s) (.int _) h⟩
    | dct g1 g2 => exact ⟨_, _, rfl, .inl g1, by rw [RepKV.len g2]; exact q _ _ H Hb (Gr.refl s) (.int _) h⟩
  | _ => exact h.elim
/-! ### dict(list of pairs) -/
def pairD : D → Option (Key × D)
  | .tup [a, x] => (keyF a).map fun k => (k, x)
  | _ => none
def pairsD : List D → Option (List (Key × D))
  | [] => some []
  | d :: r => match pairD d, pairsD r with
    | some p, some l => some (p :: l)
    | _, _ => none
theorem pairsD_rep {Hb H : Hp} (s : Same Hb H) : ∀ {ds : List D} {vs : List V} {es : List (Key × D)}, RepAll K Hb vs ds → pairsD ds = some es → ∃ (ps : List Addr) (kvs : List (Key × V)), vs = ps.map V.ref ∧ RepKV K Hb kvs es ∧ Paired (fun p kv => SqT K H p [kV kv.1, kv.2]) ps kvs
  | [], _, _, .nil, e => by
    cases e
    exact ⟨[], [], rfl, .nil, .nil⟩
  | d :: r, _, es, .cons h1 h2, e => by
    have e : (match pairD d, pairsD r with
      | some p, some l => some (p :: l)
      | _, _ => none) = some es := e
    cases e1 : pairD d with
    | none => rw [e1] at e; cases e
    | some p =>
      cases e2 : pairsD r with
      | none => rw [e1, e2] at e; cases e
      | some l =>
        rw [e1, e2] at e
        cases e
        obtain ⟨ps, kvs, a1, a2, a3⟩ := pairsD_rep s h2 e2
        cases d with
        | tup xs =>
          match xs, e1 with
          | [a, x], e1 =>
            have e1 : (keyF a).map (fun k => (k, x)) = some p := e1
            cases ek : keyF a with
            | none => rw [ek] at e1; cases e1
            | some k =>
              rw [ek] at e1
              cases e1
              cases h1 with
              | @tup b ws _ g1 g2 =>
                cases g2 with
                | cons m1 m2 =>
                  cases m2 with
                  | @cons v2 _ _ _ n1 n2 =>
                    cases n2
                    have ev := m1.keyF ek
                    subst ev
                    exact ⟨b :: ps, (k, v2) :: kvs, by rw [a1]; rfl, .cons n1 a2, .cons (SqT.of (s _ _ g1)) a3⟩
        | _ => cases e1
def fDictP (ds : List D) (k : M → Prop) : Prop := arg1 ds fun d => match d with
  | .lst xs => optD (pairsD xs) fun es => k (.dct (mergeD [] es))
  | _ => False
theorem s_dictP : CallN K (fun xs H Q => ∃ (a : Addr) (ps : List Addr) (kvs : List (Key × V)), xs = [.ref a] ∧ SqL K H a (ps.map V.ref) ∧ Paired (fun p kv => SqT K H p [kV kv.1, kv.2]) ps kvs ∧
    ∀ p, H p = none → Q (.ref p) (upd H p (.dK (mergeK [] kvs)))) fDictP := fun H Hb vs ds Q Qd s hv h q => by
  obtain ⟨v, d, rfl, rfl, vd, h⟩ := hv.one h
  cases d with
  | lst xs =>
    obtain ⟨es, e1, h⟩ := optD_ok (show optD (pairsD xs) _ from h)
    have fin : ∀ (a : Addr) (vs : List V), SqL K H a vs → RepAll K Hb vs xs → ∃ (a' : Addr) (ps : List Addr) (kvs : List (Key × V)), [V.ref a] = [.ref a'] ∧ SqL K H a' (ps.map V.ref) ∧ Paired (fun p kv => SqT K H p [kV kv.1, kv.2]) ps kvs ∧
        ∀ p, H p = none → Q (.ref p) (upd H p (.dK (mergeK [] kvs))) := fun a vs g1 g2 => by
      obtain ⟨ps, kvs, rfl, rk, hp⟩ := pairsD_rep s g2 e1
      exact ⟨a, ps, kvs, rfl, g1, hp, fun p n => q p (.dct (mergeD [] es)) _ n (same_new n) ⟨_, upd_same, RepKV.merge rk .nil⟩ h⟩
    cases vd with
    | rep vd =>
      cases vd with
      | lst g1 g2 => exact fin _ _ (SqL.of (s _ _ g1)) g2
    | lst g1 g2 => exact fin _ _ (SqL.of g1) g2
  | _ => exact h.elim
end
section
variable {X : Cx}
theorem call_lenDR : CallR X (.builtin "len") (fun xs H Q => ∃ a kvs, xs = [V.ref a] ∧ Rd H a (.dK kvs) ∧ Q (.int kvs.length) H) := by
  intro pins s σ H xs us Q I r h
  obtain ⟨a, kvs, rfl, ha, q⟩ := h
  cases r with
  | cons r0 r1 =>
    cases r1
    cases r0
    exact d_len I ha fun t s' I' => ⟨.int kvs.length, H, I', ⟨t, rfl⟩, q⟩
end
end PL
namespace PL
open PySem PySem.Spec PyProof.Rows L2 TB
/-! ### one's own list is looked at as data, and is one's own again -/
mutual
def noLb : D → Bool
  | .tup ds => noLs ds
  | .ktup ds => noLs ds
  | .lst _ => false
  | .arr _ => false
  | .dct _ => false
  | .dcu _ => false
  | .opq _ => true
  | .non => true
  | .bl _ => true
  | .int _ => true
  | .str _ => true
def noLs : List D → Bool
  | [] => true
  | d :: r => noLb d && noLs r
end
theorem noLs_all : ∀ {ds : List D}, noLs ds = true ↔ ∀ d ∈ ds, noLb d = true
  | [] => ⟨fun _ d hd => (by cases hd), fun _ => rfl⟩
  | x :: r => by
    show (noLb x && noLs r) = true ↔ _
    rw [Bool.and_eq_true, noLs_all (ds := r)]
    constructor
    · rintro ⟨h1, h2⟩ d hd
      rcases List.mem_cons.mp hd with rfl | hd
      · exact h1
      · exact h2 d hd
    · exact fun h => ⟨h x List.mem_cons_self, fun d hd => h d (List.mem_cons_of_mem _ hd)⟩
section
variable {K : PySem.W.Frag} {H H' : Hp}
mutual
theorem Rep.noL (s : ∀ b xs, H b = some (.tup xs) → H' b = some (.tup xs)) : ∀ (d : D) (v : V), Rep K H v d → noLb d = true → Rep K H' v d
  | .non, _, h, _ => by cases h; exact .non
  | .bl b, _, h, _ => by cases h; exact .bl b
  | .int i, _, h, _ => by cases h; exact .int i
  | .str x, _, h, _ => by cases h; exact .str x
  | .opq v, _, h, _ => by cases h; exact .opq v
  | .tup ds, _, h, e => by
    cases h with
    | tup h1 h2 => exact .tup (s _ _ h1) (RepAll.noL s ds _ h2 e)
  | .ktup ds, _, h, e => by
    cases h with
    | ktup h1 h2 => exact .ktup h1 (RepAll.noL s ds _ h2 e)
  | .lst ds, _, _, e => nomatch e
  | .arr ds, _, _, e => nomatch e
  | .dct es, _, _, e => nomatch e
  | .dcu es, _, _, e => nomatch e
theorem RepAll.noL (s : ∀ b xs, H b = some (.tup xs) → H' b = some (.tup xs)) : ∀ (ds : List D) (vs : List V), RepAll K H vs ds → noLs ds = true → RepAll K H' vs ds
  | [], _, h, _ => by cases h; exact .nil
  | d :: ds, _, h, e => by
    have e : (noLb d && noLs ds) = true := e
    rw [Bool.and_eq_true] at e
    cases h with
    | cons h1 h2 => exact .cons (Rep.noL s d _ h1 e.1) (RepAll.noL s ds _ h2 e.2)
end
end
def noM : M → Bool
  | .lst ds => noLs ds
  | .dice => true
  | _ => false
theorem MAt.noL {K : PySem.W.Frag} {Hb Hb' H : Hp} {a : Addr} (s : ∀ b xs, Hb b = some (.tup xs) → Hb' b = some (.tup xs)) : ∀ {m : M}, noM m = true → MAt K Hb H a m → MAt K Hb' H a m
  | .lst ds, e, ⟨vs, h1, h2⟩ => ⟨vs, h1, RepAll.noL s ds vs h2 e⟩
  | .dice, _, h => h
  | .dct _, e, _ => nomatch e
  | .dcu _, e, _ => nomatch e
def cleanC : Cell → Cell
  | .val d => if noLb d = true then .val d else .no
  | c => c
def okC : Cell → Bool
  | .no => true
  | .val _ => true
  | .own m => noM m
  | .io _ m => noM m
  | .lck _ _ => false
def dThawN (i : Nat) (dn : DN) : DN := fun ρ Q => ownM ρ[i]? fun m => lstM m fun ds => noLs ds = true ∧ dn (ρ.set i (.val (.lst ds))) fun m' ρ1 => (ρ1[i]? = some (.val (.lst ds)) ∧ ρ1.all okC = true ∧ noM m' = true) ∧ Q m' ((ρ1.map cleanC).set i (.own (.lst ds)))
def sansA (Hb : Hp) (a : Addr) : Hp := fun b => if b = a then none else Hb b
theorem R.thaw {F : Fx} {σ : L2.St} {H Hb : Hp} {ρ : Rho} {i : Nat} {ds : List D} {a : Addr} (r : R F σ H Hb ρ) (e : ρ[i]? = some (.val (.lst ds))) (es : σ[i]? = some (some (.ref a))) (nf : F.fr a = none) (al : F.al a) (ok : ρ.all okC = true) (nd : noLs ds = true) :
    R F σ H (sansA Hb a) ((ρ.map cleanC).set i (.own (.lst ds))) ∧ ∀ b xs, Hb b = some (.tup xs) → sansA Hb a b = some (.tup xs) := by
  obtain ⟨x, ex, rep⟩ := r.cell i _ _ e es
  cases ex
  cases rep with
  | @lst _ vs _ h1 h2 =>
    have st : ∀ b xs, Hb b = some (.tup xs) → sansA Hb a b = some (.tup xs) := fun b xs hb => by
      unfold sansA
      have : b ≠ a := fun z => by rw [z, h1] at hb; cases hb
      rw [if_neg this]; exact hb
    have na : sansA Hb a a = none := if_pos rfl
    have sub : ∀ b, sansA Hb a b ≠ none → Hb b ≠ none := fun b hb => by
      unfold sansA at hb
      by_cases z : b = a
      · rw [if_pos z] at hb; exact absurd rfl hb
      · rw [if_neg z] at hb; exact hb
    have no : ∀ b, Hb b = none → sansA Hb a b = none := fun b hb => by
      unfold sansA
      by_cases z : b = a
      · rw [if_pos z]
      · rw [if_neg z]; exact hb
    have hi := (List.getElem?_eq_some_iff.mp e).1
    have look : ∀ (j : Nat) c, ((ρ.map cleanC).set i (.own (.lst ds)))[j]? = some c → (i = j ∧ c = .own (.lst ds)) ∨ (i ≠ j ∧ ∃ c0, ρ[j]? = some c0 ∧ c = cleanC c0) := fun j c h => by
      rw [List.getElem?_set] at h
      by_cases z : i = j
      · rw [if_pos z] at h
        split at h
        · cases h; exact .inl ⟨z, rfl⟩
        · cases h
      · rw [if_neg z, List.getElem?_map] at h
        cases q : ρ[j]? with
        | none => rw [q] at h; cases h
        | some c0 => rw [q] at h; cases h; exact .inr ⟨z, c0, rfl, rfl⟩
    have okj : ∀ (j : Nat) c0, ρ[j]? = some c0 → okC c0 = true := fun j c0 q => List.all_eq_true.mp ok c0 (List.mem_of_getElem? q)
    refine ⟨⟨fun b o hb => ?_, r.fr, fun b hb => r.al b (sub b hb), r.nw, by rw [List.length_set, List.length_map]; exact r.len, fun j c v e1 e2 => ?_, fun j k c d b n e1 e2 m1 m2 f1 f2 => ?_⟩, st⟩
    · unfold sansA at hb
      by_cases z : b = a
      · rw [if_pos z] at hb; cases hb
      · rw [if_neg z] at hb; exact r.sub b o hb
    · rcases look j c e1 with ⟨rfl, rfl⟩ | ⟨nj, c0, q, rfl⟩
      · rw [es] at e2
        cases e2
        exact ⟨a, rfl, ⟨vs, r.sub _ _ h1, RepAll.noL st ds vs h2 nd⟩, na, nf, al⟩
      · have old := r.cell j c0 v q e2
        have o2 := okj j c0 q
        cases c0 with
        | no => trivial
        | val d =>
          obtain ⟨x, ex, rx⟩ := old
          show CellAt F H (sansA Hb a) v (if noLb d = true then Cell.val d else Cell.no)
          cases hd : noLb d with
          | true => exact ⟨x, ex, Rep.noL st d x rx hd⟩
          | false => trivial
        | own m =>
          obtain ⟨b, ev, mb, nb, fb, ab⟩ := old
          exact ⟨b, ev, MAt.noL st o2 mb, no b nb, fb, ab⟩
        | io b m =>
          obtain ⟨ev, mb, nb, fb⟩ := old
          exact ⟨ev, MAt.noL st o2 mb, no b nb, fb⟩
        | lck b m => cases o2
    · have mine0 : ∀ c0 : Cell, (cleanC c0).mine = true → c0.mine = true := fun c0 h => by
        cases c0 with
        | val d =>
          have h : Cell.mine (if noLb d = true then Cell.val d else Cell.no) = true := h
          cases hd : noLb d with
          | true => rw [hd] at h; cases h
          | false => rw [hd] at h; cases h
        | _ => exact h
      have far : ∀ (k : Nat) c0, ρ[k]? = some c0 → c0.mine = true → σ[k]? = some (some (.ref a)) → False := fun k c0 q hm f => by
        obtain ⟨a2, m2, g1, _, g3, _⟩ := r.mine q hm
        rw [f] at g1
        cases g1
        rw [h1] at g3
        cases g3
      rcases look j c e1 with ⟨rfl, rfl⟩ | ⟨nj, c0, q, rfl⟩
      · rw [es] at f1
        cases f1
        rcases look k d e2 with ⟨rfl, rfl⟩ | ⟨nk, d0, q2, rfl⟩
        · exact n rfl
        · exact far k d0 q2 (mine0 d0 m2) f2
      · rcases look k d e2 with ⟨rfl, rfl⟩ | ⟨nk, d0, q2, rfl⟩
        · rw [es] at f2
          cases f2
          exact far j c0 q (mine0 c0 m1) f1
        · exact r.dis j k c0 d0 b n q q2 (mine0 c0 m1) (mine0 d0 m2) f1 f2
theorem snd_thawN {K : PySem.W.Frag} (i : Nat) {t : TE} {dn : DN} (h : SndN K t dn) : SndN K t (dThawN i dn) := fun F σ H Hb ρ Q Qd hK r hd q => by
  subst hK
  obtain ⟨m, e1, hd⟩ := ownM_ok hd
  obtain ⟨ds, rfl, nd, hd⟩ := lstM_ok hd
  obtain ⟨a, m', es, _, nb, nf, h5⟩ := r.mine e1 rfl
  have al : F.al a := by
    rcases h5 with ⟨_, h7⟩ | h6
    · exact h7
    · cases h6
  obtain ⟨d, v, Hb', hk, sb, e2, _, r'⟩ := r.freeze (k := fun d => d = .lst ds) e1 rfl
  subst hk
  refine h F σ H Hb' _ _ _ rfl r' hd fun p m2 H1 H' Hb1 ρ1 r1 b1 np sH hm ⟨⟨c1, c2, c3⟩, hq⟩ => ?_
  obtain ⟨r2, st⟩ := r1.thaw c1 es nf al c2 nd
  refine q p m2 H1 H' _ _ r2 (fun b o hb => ?_) np sH (MAt.noL st c3 hm) hq
  have hne : b ≠ a := fun z => by rw [z, nb] at hb; cases hb
  show (if b = a then none else Hb1 b) = some o
  rw [if_neg hne]
  exact b1 _ _ (sb _ _ hb)
end PL
namespace PL
open PySem PySem.Spec PyProof.Rows L2 TB
def topS (i : Nat) : Stmt := PySem.Challenge.pw_truebeat_k31_tables_judged.main.body.getD i (.Pass ⟨0, 0, 0, 0⟩)
abbrev s_is_integer : Stmt := topS 7
theorem sc_is_integer : FnScope ["value"] ["value"] (defScope s_is_integer) := ⟨rfl, rfl, rfl, by decide +kernel, rfl, by decide +kernel, by decide +kernel⟩
abbrev s_is_within : Stmt := topS 8
theorem sc_is_within : FnScope ["value", "least", "most"] ["value", "least", "most"] (defScope s_is_within) := ⟨rfl, rfl, rfl, by decide +kernel, rfl, by decide +kernel, by decide +kernel⟩
abbrev s_is_name : Stmt := topS 13
theorem sc_is_name : FnScope ["value", "sign"] ["value"] (defScope s_is_name) := ⟨rfl, rfl, rfl, by decide +kernel, rfl, by decide +kernel, by decide +kernel⟩
abbrev s_are_names : Stmt := topS 19
theorem sc_are_names : FnScope ["value", "name"] ["value"] (defScope s_are_names) := ⟨rfl, rfl, rfl, by decide +kernel, rfl, by decide +kernel, by decide +kernel⟩
abbrev s_is_row : Stmt := topS 20
theorem sc_is_row : FnScope ["value", "many", "at", "low", "high"] ["value", "many"] (defScope s_is_row) := ⟨rfl, rfl, rfl, by decide +kernel, rfl, by decide +kernel, by decide +kernel⟩
abbrev s_asked_by : Stmt := topS 21
theorem sc_asked_by : FnScope ["rows", "node"] ["rows", "node"] (defScope s_asked_by) := ⟨rfl, rfl, rfl, by decide +kernel, rfl, by decide +kernel, by decide +kernel⟩
abbrev s_does_stand : Stmt := topS 22
theorem sc_does_stand : FnScope ["rows", "index", "at", "low", "high"] ["rows", "index"] (defScope s_does_stand) := ⟨rfl, rfl, rfl, by decide +kernel, rfl, by decide +kernel, by decide +kernel⟩
abbrev s_is_table_in : Stmt := topS 23
theorem sc_is_table_in : FnScope ["names", "value", "index", "row"] ["names", "value"] (defScope s_is_table_in) := ⟨rfl, rfl, rfl, by decide +kernel, rfl, by decide +kernel, by decide +kernel⟩
abbrev s_is_node : Stmt := topS 24
theorem sc_is_node : FnScope ["table", "value"] ["table", "value"] (defScope s_is_node) := ⟨rfl, rfl, rfl, by decide +kernel, rfl, by decide +kernel, by decide +kernel⟩
abbrev s_is_filling : Stmt := topS 25
theorem sc_is_filling : FnScope ["names", "value", "name"] ["names", "value"] (defScope s_is_filling) := ⟨rfl, rfl, rfl, by decide +kernel, rfl, by decide +kernel, by decide +kernel⟩
abbrev s_require_names : Stmt := topS 26
theorem sc_require_names : FnScope ["names"] ["names"] (defScope s_require_names) := ⟨rfl, rfl, rfl, by decide +kernel, rfl, by decide +kernel, by decide +kernel⟩
abbrev s_require_table : Stmt := topS 27
theorem sc_require_table : FnScope ["names", "table"] ["names", "table"] (defScope s_require_table) := ⟨rfl, rfl, rfl, by decide +kernel, rfl, by decide +kernel, by decide +kernel⟩
abbrev s_require_node : Stmt := topS 28
theorem sc_require_node : FnScope ["table", "node"] ["table", "node"] (defScope s_require_node) := ⟨rfl, rfl, rfl, by decide +kernel, rfl, by decide +kernel, by decide +kernel⟩
abbrev s_ones_in : Stmt := topS 29
theorem sc_ones_in : FnScope ["table", "node", "size", "found", "at", "low", "high"] ["table", "node", "size"] (defScope s_ones_in) := ⟨rfl, rfl, rfl, by decide +kernel, rfl, by decide +kernel, by decide +kernel⟩
abbrev s_is_table : Stmt := topS 30
theorem sc_is_table : FnScope ["names", "value"] ["names", "value"] (defScope s_is_table) := ⟨rfl, rfl, rfl, by decide +kernel, rfl, by decide +kernel, by decide +kernel⟩
abbrev s_table_value : Stmt := topS 31
theorem sc_table_value : FnScope ["names", "table", "node", "filling", "at", "low", "high"] ["names", "table", "node", "filling"] (defScope s_table_value) := ⟨rfl, rfl, rfl, by decide +kernel, rfl, by decide +kernel, by decide +kernel⟩
abbrev s_ones : Stmt := topS 32
theorem sc_ones : FnScope ["names", "table", "node"] ["names", "table", "node"] (defScope s_ones) := ⟨rfl, rfl, rfl, by decide +kernel, rfl, by decide +kernel, by decide +kernel⟩
abbrev s__law_dice : Stmt := topS 34
theorem sc__law_dice : FnScope ["_law_script", "_law_at", "_law_cell", "_law_great", "_law_left", "_law_mixed_here"] ["_law_script", "_law_at"] (defScope s__law_dice) := ⟨rfl, rfl, rfl, by decide +kernel, rfl, by decide +kernel, by decide +kernel⟩
abbrev s__law_roll : Stmt := topS 35
theorem sc__law_roll : FnScope ["_law_dice_here", "_law_total", "_law_size", "_law_drawn", "_law_one", "_law_two"] ["_law_dice_here", "_law_total"] (defScope s__law_roll) := ⟨rfl, rfl, rfl, by decide +kernel, rfl, by decide +kernel, by decide +kernel⟩
abbrev s__law_one_of : Stmt := topS 36
theorem sc__law_one_of : FnScope ["_law_dice_here", "_law_items"] ["_law_dice_here", "_law_items"] (defScope s__law_one_of) := ⟨rfl, rfl, rfl, by decide +kernel, rfl, by decide +kernel, by decide +kernel⟩
abbrev s__law_two_to : Stmt := topS 37
theorem sc__law_two_to : FnScope ["_law_bits", "_law_found", "_law_turn"] ["_law_bits"] (defScope s__law_two_to) := ⟨rfl, rfl, rfl, by decide +kernel, rfl, by decide +kernel, by decide +kernel⟩
abbrev s__law_mixed : Stmt := topS 38
theorem sc__law_mixed : FnScope ["_law_dice_here", "_law_items", "_law_left", "_law_found"] ["_law_dice_here", "_law_items"] (defScope s__law_mixed) := ⟨rfl, rfl, rfl, by decide +kernel, rfl, by decide +kernel, by decide +kernel⟩
abbrev s__law_is_int : Stmt := topS 39
theorem sc__law_is_int : FnScope ["_law_value_here"] ["_law_value_here"] (defScope s__law_is_int) := ⟨rfl, rfl, rfl, by decide +kernel, rfl, by decide +kernel, by decide +kernel⟩
abbrev s__law_is_table : Stmt := topS 40
theorem sc__law_is_table : FnScope ["_law_names", "_law_value_here", "_law_index", "_law_row", "_law_at", "_law_low", "_law_high", "_law_node", "_law_one"] ["_law_names", "_law_value_here"] (defScope s__law_is_table) := ⟨rfl, rfl, rfl, by decide +kernel, rfl, by decide +kernel, by decide +kernel⟩
abbrev s__law_table_drawn : Stmt := topS 41
theorem sc__law_table_drawn : FnScope ["_law_dice_here", "_law_many", "_law_size", "_law_found", "_law_turn", "_law_at", "_law_row", "_law_some", "_law_index"] ["_law_dice_here", "_law_many", "_law_size"] (defScope s__law_table_drawn) := ⟨rfl, rfl, rfl, by decide +kernel, rfl, by decide +kernel, by decide +kernel⟩
abbrev s__law_near : Stmt := topS 42
theorem sc__law_near : FnScope ["_law_dice_here", "_law_table", "_law_found", "_law_index", "_law_place", "_law_row", "_law_other", "_law_bent"] ["_law_dice_here", "_law_table"] (defScope s__law_near) := ⟨rfl, rfl, rfl, by decide +kernel, rfl, by decide +kernel, by decide +kernel⟩
abbrev s__law_value : Stmt := topS 43
theorem sc__law_value : FnScope ["_law_names", "_law_table", "_law_node", "_law_filling", "_law_at", "_law_low", "_law_high"] ["_law_names", "_law_table", "_law_node", "_law_filling"] (defScope s__law_value) := ⟨rfl, rfl, rfl, by decide +kernel, rfl, by decide +kernel, by decide +kernel⟩
abbrev s__law_right : Stmt := topS 44
theorem sc__law_right : FnScope ["_law_dice_here", "_law_many", "_law_names", "_law_table", "_law_value_here", "_law_node", "_law_total", "_law_number", "_law_filling", "_law_told", "_law_at", "_law_name"] ["_law_dice_here"] (defScope s__law_right) := ⟨rfl, rfl, rfl, by decide +kernel, rfl, by decide +kernel, by decide +kernel⟩
abbrev s_law : Stmt := topS 45
theorem sc_law : FnScope ["_law_script", "_law_at", "_law_dice_here", "_law_rows"] ["_law_script"] (defScope s_law) := ⟨rfl, rfl, rfl, by decide +kernel, rfl, by decide +kernel, by decide +kernel⟩
structure Txt (K : PySem.W.Frag) (w : World) (mg : Str → Option Value) where
  is_integer : DefAt K mg "is_integer" s_is_integer ["value"]
  is_within : DefAt K mg "is_within" s_is_within ["value", "least", "most"]
  is_name : DefAt K mg "is_name" s_is_name ["value"]
  are_names : DefAt K mg "are_names" s_are_names ["value"]
  is_row : DefAt K mg "is_row" s_is_row ["value", "many"]
  asked_by : DefAt K mg "asked_by" s_asked_by ["rows", "node"]
  does_stand : DefAt K mg "does_stand" s_does_stand ["rows", "index"]
  is_table_in : DefAt K mg "is_table_in" s_is_table_in ["names", "value"]
  is_node : DefAt K mg "is_node" s_is_node ["table", "value"]
  is_filling : DefAt K mg "is_filling" s_is_filling ["names", "value"]
  require_names : DefAt K mg "require_names" s_require_names ["names"]
  require_table : DefAt K mg "require_table" s_require_table ["names", "table"]
  require_node : DefAt K mg "require_node" s_require_node ["table", "node"]
  ones_in : DefAt K mg "ones_in" s_ones_in ["table", "node", "size"]
  is_table : DefAt K mg "is_table" s_is_table ["names", "value"]
  table_value : DefAt K mg "table_value" s_table_value ["names", "table", "node", "filling"]
  ones : DefAt K mg "ones" s_ones ["names", "table", "node"]
  _law_dice : DefAt K mg "_law_dice" s__law_dice ["_law_script", "_law_at"]
  _law_roll : DefAt K mg "_law_roll" s__law_roll ["_law_dice_here", "_law_total"]
  _law_one_of : DefAt K mg "_law_one_of" s__law_one_of ["_law_dice_here", "_law_items"]
  _law_two_to : DefAt K mg "_law_two_to" s__law_two_to ["_law_bits"]
  _law_mixed : DefAt K mg "_law_mixed" s__law_mixed ["_law_dice_here", "_law_items"]
  _law_is_int : DefAt K mg "_law_is_int" s__law_is_int ["_law_value_here"]
  _law_is_table : DefAt K mg "_law_is_table" s__law_is_table ["_law_names", "_law_value_here"]
  _law_table_drawn : DefAt K mg "_law_table_drawn" s__law_table_drawn ["_law_dice_here", "_law_many", "_law_size"]
  _law_near : DefAt K mg "_law_near" s__law_near ["_law_dice_here", "_law_table"]
  _law_value : DefAt K mg "_law_value" s__law_value ["_law_names", "_law_table", "_law_node", "_law_filling"]
  _law_right : DefAt K mg "_law_right" s__law_right ["_law_dice_here"]
  law : DefAt K mg "law" s_law ["_law_script"]
  MOST_SIGNS : ConAt mg "MOST_SIGNS" (.int 24)
  FIRST_SIGNS : ConAt mg "FIRST_SIGNS" (.str "abcdefghijklmnopqrstuvwxyz")
  MORE_SIGNS : ConAt mg "MORE_SIGNS" (.str "abcdefghijklmnopqrstuvwxyz0123456789_.")
  MAX_ASKED : ConAt mg "MAX_ASKED" (.int 12)
  MAX_ROWS : ConAt mg "MAX_ROWS" (.int 20000)
  ROW_SIZE : ConAt mg "ROW_SIZE" (.int 3)
  FIRST_NODE : ConAt mg "FIRST_NODE" (.int 2)
  z_isinstance : mg "isinstance" = none
  z_int : mg "int" = none
  z_bool : mg "bool" = none
  z_all : mg "all" = none
  z_str : mg "str" = none
  z_len : mg "len" = none
  z_tuple : mg "tuple" = none
  z_set : mg "set" = none
  z_max : mg "max" = none
  z_range : mg "range" = none
  z_dict : mg "dict" = none
  z_abs : mg "abs" = none
  z_list : mg "list" = none
  z_enumerate : mg "enumerate" = none
  z_min : mg "min" = none
section
variable {P : Program} {w : World} {K : PySem.W.Frag} {mg : Str → Option Value} {base : Heap}
def sp__law_dice (K : PySem.W.Frag) : Sp := fun vs H Q _ => ∃ (a : Addr) (ns : List Int) (i : Nat), vs = [.ref a, .int i] ∧ SqL K H a (ns.map V.int) ∧ ∀ x y z : Int, NewL [.int x, .int y, .int z] H Q
theorem oko__law_dice (T : Txt K w mg) : FnOk P w K mg base CX0 1 T._law_dice.f T._law_dice.fd ["_law_script", "_law_at"] (sp__law_dice K) := by
  refine T._law_dice.F.ok sc__law_dice (fun vs H Q E h => ?_) (fun cdv A outer s H vs Q E hr h => ?_)
  · obtain ⟨a, ns, i, rfl, _⟩ := h
    rfl
  · obtain ⟨a, ns, i, rfl, hS, q⟩ := h
    refine ⟨_, (pss_cons (ps_set (i := 2) sc__law_dice.nd rfl (.inl rfl) (pe_op op_add (pe_op op_mul pe_int (pv 1)) pe_int)) 
      (pss_cons (ps_if (pt_cmpR op_lt (pv 1) (pe_callB call_len_seq (by rfl) T.z_len PySem.boot_len (pa_cons (pv 0) pa_nil)) (nomark _)) 
        (pss_one (ps_set (i := 2) sc__law_dice.nd rfl (.inl rfl) (pe_ix ix_list (pv 0) (pv 1) (fun _ _ => rfl)))) pss_nil) 
      (pss_cons (ps_set (i := 3) sc__law_dice.nd rfl (.inl rfl) (pe_op op_mod (pe_callTy call_int1 (by rfl) T.z_int (by decide +kernel) (pa_cons (pe_callB call_abs (by rfl) T.z_abs (by decide +kernel) (pa_cons (pv 2) pa_nil)) pa_nil)) (pe_op op_powW (pe_op op_pow pe_int pe_int) pe_int))) 
      (pss_cons (ps_set (i := 4) sc__law_dice.nd rfl (.inl rfl) (pe_op op_fdivW (pv 3) (pe_op op_pow pe_int pe_int))) 
      (pss_cons (ps_set (i := 5) sc__law_dice.nd rfl (.inl rfl) (pe_op op_add (pe_op op_add (pe_op op_add (pe_op op_mul (pe_op op_mod (pv 3) pe_int) pe_int) (pe_op op_mul pe_int (pv 1))) (pe_op op_mul pe_int (pe_callTy call_int1 (by rfl) T.z_int (by decide +kernel) (pa_cons (pe_cmpR op_lt (pv 2) pe_int (nomark _)) pa_nil)))) pe_int)) 
      (pss_one (ps_ret (pe_lstA (pa_cons (pv 4) (pa_cons (pe_op op_mod (pv 5) pe_int) (pa_cons pe_int pa_nil))))))))))), ?_⟩
    refine ⟨_, rfl, 127, i, rfl, rfl, .inl (by decide), _, _, rfl, rfl, ?_⟩
    refine ⟨_, rfl, _, rfl, a, _, rfl, .inl hS, _, _, rfl, rfl, _, rfl, ite3 (fun e => ?_) (fun e => ?_)⟩
    · have hi : i < ns.length := by
        have := of_decide_eq_true e
        rw [List.length_map] at this
        omega
      refine ⟨_, rfl, _, rfl, a, _, i, .int ns[i], rfl, rfl, hS, atI_nat (by rw [List.getElem?_map, List.getElem?_eq_getElem hi]; rfl), ?_⟩
      refine ⟨_, rfl, _, rfl, .inl ⟨_, rfl, _, _, rfl, rfl, ⟨by decide, by decide, by decide⟩, _, _, rfl, rfl, ⟨by decide, by decide⟩, _, _, rfl, rfl, (show (0 : Int) < (10 ^ 62) ^ 10 by decide +kernel), ?_⟩⟩
      refine ⟨_, rfl, 10, 18, rfl, rfl, ⟨by decide, by decide, by decide⟩, _, _, rfl, rfl, ⟨by decide, by decide⟩, ?_⟩
      refine ⟨_, rfl, _, _, rfl, rfl, p0, _, _, rfl, rfl, cmulR, _, rfl, _, _, rfl, rfl, cmulL, _, _, rfl, rfl, _, rfl, _, _, rfl, rfl, .inr ⟨_, rfl, _, _, rfl, rfl, cmulL, _, _, rfl, rfl, _, _, rfl, rfl, ?_⟩⟩
      exact ⟨_, rfl, _, rfl, _, _, rfl, rfl, p0, sz, q _ _ _⟩
    · refine ⟨_, rfl, _, rfl, .inl ⟨_, rfl, _, _, rfl, rfl, ⟨by decide, by decide, by decide⟩, _, _, rfl, rfl, ⟨by decide, by decide⟩, _, _, rfl, rfl, (show (0 : Int) < (10 ^ 62) ^ 10 by decide +kernel), ?_⟩⟩
      refine ⟨_, rfl, 10, 18, rfl, rfl, ⟨by decide, by decide, by decide⟩, _, _, rfl, rfl, ⟨by decide, by decide⟩, ?_⟩
      refine ⟨_, rfl, _, _, rfl, rfl, p0, _, _, rfl, rfl, cmulR, _, rfl, _, _, rfl, rfl, cmulL, _, _, rfl, rfl, _, rfl, _, _, rfl, rfl, .inr ⟨_, rfl, _, _, rfl, rfl, cmulL, _, _, rfl, rfl, _, _, rfl, rfl, ?_⟩⟩
      exact ⟨_, rfl, _, rfl, _, _, rfl, rfl, p0, sz, q _ _ _⟩
def sp__law_roll (K : PySem.W.Frag) : Sp := fun vs H Q _ => ∃ (d : Addr) (n : Int), vs = [.ref d, .int n] ∧ Dice H d ∧ 0 < n ∧ n ≤ 2 ^ 64 ∧ ∀ r H', 0 ≤ r → r < n → Ext d H H' → Q (.int r) H'
theorem oko__law_roll (T : Txt K w mg) : FnOk P w K mg base CX0 1 T._law_roll.f T._law_roll.fd ["_law_dice_here", "_law_total"] (sp__law_roll K) := by
  refine T._law_roll.F.ok sc__law_roll (fun vs H Q E h => ?_) (fun cdv A outer s H vs Q E hr h => ?_)
  · obtain ⟨d, n, rfl, _⟩ := h
    rfl
  · obtain ⟨d, n, rfl, ⟨x, y, z, hd⟩, h0, h1, q⟩ := h
    have sz : sizeLine = 16777216 := sizeLine_eq
    have f0 : ∀ {x y z : Int}, atI [V.int x, V.int y, V.int z] 0 = some (.int x) := rfl
    have f1 : ∀ {x y z : Int}, atI [V.int x, V.int y, V.int z] 1 = some (.int y) := rfl
    have f2 : ∀ {x y z : Int}, atI [V.int x, V.int y, V.int z] 2 = some (.int z) := rfl
    refine ⟨_, (pss_cons (ps_set (i := 2) sc__law_roll.nd rfl (.inl rfl) (pe_callTy call_int1 (by rfl) T.z_int (by decide +kernel) (pa_cons (pv 1) pa_nil))) 
      (pss_cons (ps_if (pt_cmpR op_gt (pe_ix ix_list (pv 0) pe_int (fun _ _ => rfl)) pe_int (nomark _)) 
        (pss_cons (ps_set (i := 3) sc__law_roll.nd rfl (.inl rfl) (pe_op op_mod (pe_ix ix_list (pv 0) pe_int (fun _ _ => rfl)) (pv 2))) 
        (pss_cons (ps_asg (pe_op op_fdivW (pe_ix ix_list (pv 0) pe_int (fun _ _ => rfl)) (pv 2)) (pg_sub (pv 0) pe_int set_list)) 
        (pss_one (ps_ret (pe_callTy call_int1 (by rfl) T.z_int (by decide +kernel) (pa_cons (pv 3) pa_nil)))))) pss_nil) 
      (pss_cons (ps_asg (pe_op op_add (pe_ix ix_list (pv 0) pe_int (fun _ _ => rfl)) pe_int) (pg_sub (pv 0) pe_int set_list)) 
      (pss_cons (ps_set (i := 4) sc__law_roll.nd rfl (.inl rfl) (pe_op op_mod (pe_op op_add (pe_ix ix_list (pv 0) pe_int (fun _ _ => rfl)) (pe_op op_mul pe_int (pe_ix ix_list (pv 0) pe_int (fun _ _ => rfl)))) pe_int)) 
      (pss_cons (ps_set (i := 5) sc__law_roll.nd rfl (.inl rfl) (pe_op op_add (pe_op op_mul (pe_op op_mod (pe_op op_mul (pv 4) (pv 4)) pe_int) (pv 4)) (pe_op op_mul pe_int (pe_ix ix_list (pv 0) pe_int (fun _ _ => rfl))))) 
      (pss_cons (ps_set (i := 5) sc__law_roll.nd rfl (.inl rfl) (pe_op op_mod (pv 5) pe_int)) 
      (pss_one (ps_ret (pe_callTy call_int1 (by rfl) T.z_int (by decide +kernel) (pa_cons (pe_op op_mod (pe_op op_fdiv (pv 5) pe_int) (pv 2)) pa_nil)))))))))), ?_⟩
    refine ⟨_, rfl, .inl ⟨_, rfl, ?_⟩⟩
    refine ⟨_, rfl, d, _, 0, _, rfl, rfl, SqL.of hd, f0, x, 0, rfl, rfl, _, rfl, ite3 (fun e => ?_) (fun e => ?_)⟩
    · have hw : CDivW x n := wide_div (b := 65) h0 (by omega) (by decide) (by decide)
      refine ⟨_, rfl, d, _, 0, _, rfl, rfl, SqL.of hd, f0, _, rfl, _, _, rfl, rfl, h0, ?_⟩
      refine ⟨_, rfl, d, _, 0, _, rfl, rfl, SqL.of hd, f0, _, rfl, _, _, rfl, rfl, hw, _, rfl, d, _, 0, 0, rfl, rfl, hd, rfl, ?_⟩
      exact ⟨_, rfl, .inl ⟨_, rfl, q _ _ (Int.emod_nonneg _ (by omega)) (Int.emod_lt_of_pos _ h0) Ext.roll⟩⟩
    · refine ⟨_, rfl, d, _, 2, _, rfl, rfl, SqL.of hd, f2, _, _, rfl, rfl, _, rfl, d, _, 2, 2, rfl, rfl, hd, rfl, ?_⟩
      have h2 : (upd H d (dl x y (z + 1))) d = some (dl x y (z + 1)) := upd_same
      refine ⟨_, rfl, d, _, 1, _, rfl, rfl, SqL.of h2, f1, _, rfl, d, _, 2, _, rfl, rfl, SqL.of h2, f2, 1000427, _, rfl, rfl, .inl (by decide), _, _, rfl, rfl, _, _, rfl, rfl, p0, ?_⟩
      have m0 := Int.emod_nonneg (y + 1000427 * (z + 1)) (by decide : (2305843009213693951 : Int) ≠ 0)
      have m1 := Int.emod_lt_of_pos (y + 1000427 * (z + 1)) (by decide : (0 : Int) < 2305843009213693951)
      refine ⟨_, rfl, _, rfl, _, _, rfl, rfl, .inl ⟨by omega, by omega⟩, _, _, rfl, rfl, p0, _, rfl, _, _, rfl, rfl, .inr ⟨by omega, by omega⟩, _, rfl, d, _, 2, _, rfl, rfl, SqL.of h2, f2, 9539, _, rfl, rfl, .inl (by decide), _, _, rfl, rfl, ?_⟩
      refine ⟨_, rfl, _, _, rfl, rfl, p0, ?_⟩
      exact ⟨_, rfl, _, _, rfl, rfl, cdiv, _, rfl, _, _, rfl, rfl, h0, .inl ⟨_, rfl, q _ _ (Int.emod_nonneg _ (by omega)) (Int.emod_lt_of_pos _ h0) Ext.roll⟩⟩
def pd__law_dice : List D → (M → Prop) → Prop := fun as Q => as.length = 2 ∧ ∃ (ns : List Int) (i : Nat), as = [.arr (ns.map .int), .int i] ∧ Q .dice
theorem ok__law_dice (T : Txt K w mg) : FnOk P w K mg base CX0 1 T._law_dice.f T._law_dice.fd ["_law_script", "_law_at"] (spN K pd__law_dice) := (oko__law_dice T).imp fun vs H Q E ⟨Hb, ds, Qd, sb, ra, ⟨_, ns, i, e, hq⟩, q⟩ => by
  subst e
  cases ra with
  | cons h1 h2 =>
    cases h2 with
    | cons h3 h4 =>
      cases h4
      cases h3
      cases h1 with
      | arr h5 h6 =>
        have e := intL_rep h6 (intL_map ns)
        subst e
        exact ⟨_, ns, i, rfl, sb.seq h5, fun x y z p H' s eH n => q p .dice H' n s ⟨x, y, z, eH⟩ hq⟩
def pd__law_roll : PI' := pdi 1 fun m as Q => m = .dice ∧ ∃ n : Int, as = [.int n] ∧ 0 < n ∧ n ≤ 2 ^ 64 ∧ ∀ r, 0 ≤ r → r < n → Q (.int r) .dice
theorem ext_gri {d : Addr} {H H' Hb : Hp} (x : Ext d H H') (sb : Same Hb H) (nb : Hb d = none) : GrI d H Hb H' Hb :=
  ⟨x.s, Same.refl _, fun b o e => x.s b o (fun z => by rw [z, nb] at e; cases e) (sb _ _ e), fun b e => .inl e, nb⟩
theorem ok__law_roll (T : Txt K w mg) : FnOk P w K mg base CX0 1 T._law_roll.f T._law_roll.fd ["_law_dice_here", "_law_total"] (spI K pd__law_roll) := (oko__law_roll T).imp fun vs H Q E ⟨a, us, Hb, m, ds, Qd, ev, sb, nb, hm, ra, ⟨_, em, n, e, n0, n1, hq⟩, q⟩ => by
  subst e em ev
  cases ra with
  | cons h1 h2 =>
    cases h2
    cases h1
    exact ⟨a, n, rfl, hm, n0, n1, fun r H' r0 r1 x => q _ _ .dice H' Hb (ext_gri x sb nb) x.d (.int r) (hq r r0 r1)⟩
def pd__law_one_of : PI' := pdi 1 fun m as Q => m = .dice ∧ ∃ xs : List D, as = [.lst xs] ∧ 0 < xs.length ∧ xs.length ≤ 100000 ∧ ∀ x ∈ xs, Q x .dice
theorem ok__law_one_of (T : Txt K w mg) : FnOk P w K mg base CX0 2 T._law_one_of.f T._law_one_of.fd ["_law_dice_here", "_law_items"] (spI K pd__law_one_of) := by
  refine T._law_one_of.F.ok sc__law_one_of (fun vs H Q E h => lenI h) (fun cdv A outer s H vs Q E hr h => ⟨_, (pss_one (ps_ret (pe_ix ix_list (pv 1) (pe_call (ok__law_roll T) (hr.mono (by decide)) (by rfl) T._law_roll.g T._law_roll.F.kp T._law_roll.b .nil pass0 (pa_cons (pv 0) (pa_cons (pe_callB call_len_seq (by rfl) T.z_len PySem.boot_len (pa_cons (pv 1) pa_nil)) pa_nil))) (fun _ _ => rfl)))),
    runI ((sns_ret (snd_op s_ixL (sO 1) (sE (snd_callI 0 (sna_cons (snd_cb s_len (.cons (sO 1) .nil)) sna_nil)))))) h (fun m as Qd hp => by rw [hp.1]; decide) ?_⟩)
  rintro a m as Qd ⟨_, rfl, xs, rfl, h0, h1, q⟩
  refine ⟨rfl, rfl, xs.length, rfl, by omega, by omega, fun r r0 r1 => ?_⟩
  have e : xs[r.toNat]? = some xs[r.toNat] := List.getElem?_eq_getElem (by omega)
  exact optD_of (atD (j := r.toNat) (by omega) e) ⟨rfl, q _ (List.getElem_mem _)⟩
def isInt : D → Bool
  | .int _ => true
  | _ => false
def within (lo hi : Int) : D → Bool
  | .int i => decide (lo ≤ i) && decide (i ≤ hi)
  | _ => false
def plain : D → Prop
  | .opq _ => False
  | .dcu _ => False
  | _ => True
def pd_is_integer : PD := pdn 1 fun as Q => ∃ d, as = [d] ∧ plain d ∧ Q (.bl (isInt d))
theorem ok_is_integer (T : Txt K w mg) : FnOk P w K mg base CX0 1 T.is_integer.f T.is_integer.fd ["value"] (spP K pd_is_integer) := by
  refine T.is_integer.F.ok sc_is_integer (fun vs H Q E h => lenP h) (fun cdv A outer s H vs Q E hr h => ⟨_, (pss_one (ps_ret (pe_and (pe_callB TB.call_isiK (by rfl) T.z_isinstance (by decide +kernel) (pa_cons (pv 0) (pa_cons (pe_bltn (v := .ty "int") (by rfl) T.z_int (by decide +kernel) rfl) pa_nil))) (pe_one (pe_not (pe_callB TB.call_isiK (by rfl) T.z_isinstance (by decide +kernel) (pa_cons (pv 0) (pa_cons (pe_bltn (v := .ty "bool") (by rfl) T.z_bool (by decide +kernel) rfl) pa_nil)))))))),
    runP ((sns_ret (snd_andV (snd_cb s_isi (.cons (sO 0) (.cons (sE snd_opq) .nil))) (snd_notV (snd_cb s_isi (.cons (sO 0) (.cons (sE snd_opq) .nil))))))) h (fun as Qd hp => by rw [hp.1]; decide) ?_⟩)
  rintro as Qd ⟨_, d, rfl, hp, q⟩
  cases d <;> first | exact hp.elim | exact ⟨by decide, q⟩ | exact ⟨by decide, by decide, q⟩
def pd_is_within : PD := pdn 3 fun as Q => ∃ d lo hi, as = [d, .int lo, .int hi] ∧ plain d ∧ Q (.bl (within lo hi d))
theorem ok_is_within (T : Txt K w mg) : FnOk P w K mg base CX0 2 T.is_within.f T.is_within.fd ["value", "least", "most"] (spP K pd_is_within) := by
  refine T.is_within.F.ok sc_is_within (fun vs H Q E h => lenP h) (fun cdv A outer s H vs Q E hr h => ⟨_, (pss_one (ps_ret (pe_and (pe_call (ok_is_integer T) (hr.mono (by decide)) (by rfl) T.is_integer.g T.is_integer.F.kp T.is_integer.b .nil pass0 (pa_cons (pv 0) pa_nil)) (pe_one (pe_chain op_le op_le (pv 1) (pv 0) (pv 2)))))),
    runP ((sns_ret (snd_andV (snd_call (sna_cons (snd_var 0) sna_nil)) (snd_chain s_le s_le (snd_var 1) (snd_var 0) (snd_var 2))))) h (fun as Qd hp => by rw [hp.1]; decide) ?_⟩)
  rintro as Qd ⟨_, d, lo, hi, rfl, hp, q⟩
  refine ⟨rfl, d, rfl, hp, ?_⟩
  cases d with
  | int i =>
    have q : Qd (.bl (decide (lo ≤ i) && decide (i ≤ hi))) := q
    refine ifDd (fun h => ?_) fun h => ?_
    · rw [decide_eq_true h] at q; exact q
    · rw [decide_eq_false h] at q; exact q
  | opq _ => exact hp.elim
  | dcu _ => exact hp.elim
  | _ => exact q
/-! ### names -/
def firstS : List Nat := ("abcdefghijklmnopqrstuvwxyz" : Str).cps.toList
def moreS : List Nat := ("abcdefghijklmnopqrstuvwxyz0123456789_." : Str).cps.toList
def nameB (x : Str) : Bool := decide (1 ≤ x.length ∧ x.length ≤ 24) && (match x.cps.toList with
  | [] => false
  | c :: _ => decide (c ∈ firstS)) && x.cps.toList.all fun c => decide (c ∈ moreS)
theorem len_le {α β : Type} {f : α → β} {xs : List α} {k : Nat} (h : xs.length ≤ k) (hk : k ≤ 1000000) : (xs.map f).length ≤ 1000000 := by
  rw [List.length_map]
  omega
theorem blL_map' {α : Type} (f : α → Bool) : ∀ xs : List α, blL (xs.map fun x => D.bl (f x)) = some (xs.map f)
  | [] => rfl
  | x :: r => by
    show (blL (r.map fun x => D.bl (f x))).map (f x :: ·) = _
    rw [blL_map' f r]; rfl
theorem all_map' {α : Type} (f : α → Bool) (xs : List α) : (xs.map f).all id = xs.all f := by rw [List.all_map]; rfl
/-! ### plain values of any kind -/
inductive Pv : Nat → D → Prop
  | non {n : Nat} : Pv n .non
  | bl {n : Nat} (b : Bool) : Pv n (.bl b)
  | int {n : Nat} (i : Int) : Pv n (.int i)
  | str {n : Nat} (x : Str) : (PyData.str x).canLay0 = true → x.length ≤ sizeLine → Pv n (.str x)
  | tup {n : Nat} (ds : List D) : (∀ d ∈ ds, Pv n d) → ds.length ≤ 20000 → Pv (n + 1) (.tup ds)
  | lst {n : Nat} (ds : List D) : (∀ d ∈ ds, Pv n d) → Pv (n + 1) (.lst ds)
theorem Pv.plain {n : Nat} {d : D} (h : Pv n d) : plain d := by cases h <;> trivial
theorem Pv.up {n : Nat} {d : D} (h : Pv n d) : Pv (n + 1) d := by
  induction h with
  | non => exact .non
  | bl b => exact .bl b
  | int i => exact .int i
  | str x a b => exact .str x a b
  | tup ds _ hl ih => exact .tup ds ih hl
  | lst ds _ ih => exact .lst ds ih
theorem Pv.cmp {n : Nat} {d : D} (h : Pv n d) : CmpD n d := by
  induction h with
  | non => exact ⟨rfl, OkD.none⟩
  | bl b => exact .bl b
  | int i => exact .int i
  | str x a b => exact ⟨rfl, a, Nat.zero_le _⟩
  | tup ds _ _ ih => exact .tup ih
  | lst ds _ ih => exact .lst ih
theorem Pv.items {n : Nat} {ds : List D} (h : Pv n (.tup ds)) : ∃ m, n = m + 1 ∧ (∀ d ∈ ds, Pv m d) ∧ ds.length ≤ 20000 := by
  cases h with
  | tup _ h hl => exact ⟨_, rfl, h, hl⟩
def nmB : D → Bool
  | .str x => nameB x
  | _ => false
def pd_is_name : PD := pdn 1 fun as Q => ∃ (d : D) (n : Nat), as = [d] ∧ Pv n d ∧ Q (.bl (nmB d))
theorem ok_is_name (T : Txt K w mg) : FnOk P w K mg base CX0 1 T.is_name.f T.is_name.fd ["value"] (spP K pd_is_name) := by
  refine T.is_name.F.ok sc_is_name (fun vs H Q E h => lenP h) (fun cdv A outer s H vs Q E hr h => ⟨_, (pss_cons (ps_if (PW.pt (pw_or (pt_not (pt_val (pe_callB TB.call_isiK (by rfl) T.z_isinstance (by decide +kernel) (pa_cons (pv 0) (pa_cons (pe_bltn (v := .ty "str") (by rfl) T.z_str (by decide +kernel) rfl) pa_nil))))) (pw_or (pt_not (pt_chain op_le op_le pe_int (pe_callB call_len_str (by rfl) T.z_len PySem.boot_len (pa_cons (pv 0) pa_nil)) (pe_glob rfl T.MOST_SIGNS.g T.MOST_SIGNS.r))) (pw_or1 (pt_cmpR op_notIn_sign (pe_ix ix_str (pv 0) pe_int (fun _ _ => rfl)) (pe_glob rfl T.FIRST_SIGNS.g T.FIRST_SIGNS.r) rfl))))) 
        (pss_one (ps_ret pe_bl)) pss_nil) 
      (pss_one (ps_ret (pe_callB (cr_all rfl) (by rfl) T.z_all (by decide +kernel) (pa_cons (pe_lc (own := [("sign", 1)]) (by rfl) sc_is_name.nd (pi_str (pv 0)) (blkOk_by (own := [("sign", 1)]) (N := ["value", "sign"]) (sc := defScope s_is_name) (by decide +kernel)) (fun _ _ _ _ _ => (pg_name (i := 1) sc_is_name.nd rfl (.inl rfl))) (fun _ _ _ _ _ => pts_nil) (fun _ _ _ _ _ => (pe_cmpR op_in_sign (pv 1) (pe_glob rfl T.MORE_SIGNS.g T.MORE_SIGNS.r) rfl))) pa_nil))))),
    runP ((sns_seq (sns_if (snd_or (snd_not (snd_b (snd_cb s_isi (.cons (sO 0) (.cons (sE snd_opq) .nil))))) (snd_or (snd_not (snd_test (snd_chain s_le s_le snd_int (snd_cb s_lenS (.cons (sO 0) .nil)) snd_int))) (snd_test (snd_op s_notInSign (sE (snd_op s_ixS (sO 0) (sE snd_int))) (sE snd_str))))) 
          (sns_ret snd_bl) sns_next) 
        (sns_ret (snd_cb s_all (.cons (sE (snd_ne (snd_lc (sni_str (snd_var 0)) (sgi_name (i := 1) (by decide)) snd_yes (snd_op s_inSign (sO 1) (sE snd_str))))) .nil))))) h (fun as Qd hp => by rw [hp.1]; decide) ?_⟩)
  rintro as Qd ⟨_, d, n, rfl, hd, q⟩
  cases hd with
  | str x hx hz =>
    have q : Qd (.bl (nameB x)) := q
    refine ⟨by decide, hz, ifD2 (fun h1 => ?_) fun h1 => ?_⟩
    · refine ifD2 (fun h2 => ?_) fun h2 => ?_
      · rw [Bool.not_eq_true'] at h2
        have h2 := of_decide_eq_false h2
        have e : nameB x = false := by
          unfold nameB
          rw [decide_eq_false (by omega)]
          rfl
        rw [e] at q
        exact q
      · rw [Bool.not_eq_false'] at h2
        have h1 := of_decide_eq_true h1
        have h2 := of_decide_eq_true h2
        unfold nameB at q
        rw [decide_eq_true (by omega), Bool.true_and] at q
        cases ex : x.cps.toList with
        | nil =>
          have : x.cps.toList.length = x.length := by rw [Array.length_toList]; rfl
          rw [ex] at this
          have : (0 : Nat) = x.length := this
          omega
        | cons c r =>
          rw [ex] at q
          have q : Qd (.bl (decide (c ∈ firstS) && (c :: r).all fun c => decide (c ∈ moreS))) := q
          refine ⟨hz, optD_of (x := c) (atD (j := 0) rfl (by rw [ex]; rfl)) ⟨c, rfl, ifD2 (fun h3 => ?_) fun h3 => ?_⟩⟩
          · have h3 : (!decide (c ∈ firstS)) = true := h3
            rw [Bool.not_eq_true'] at h3
            rw [h3] at q
            exact q
          · have h3 : (!decide (c ∈ firstS)) = false := h3
            rw [Bool.not_eq_false'] at h3
            rw [h3, Bool.true_and] at q
            refine ⟨len_le (k := 24) (by rw [Array.length_toList]; show x.length ≤ 24; omega) (by decide), lcP_y (tD := fun c => .str ⟨#[c]⟩) rfl (fun c => .bl (decide (c ∈ moreS))) (fun c hc Y hY => ⟨⟨trivial, trivial⟩, ⟨c, rfl, hY⟩⟩) ?_⟩
            refine optD_of (blL_map' _ _) ?_
            rw [all_map', ex]
            exact q
    · have h1 := of_decide_eq_false h1
      have e : nameB x = false := by
        unfold nameB
        rw [decide_eq_false (by omega)]
        rfl
      rw [e] at q
      exact q
  | _ => exact ⟨by decide, q⟩
end
end PL
namespace PL
open PySem PySem.Spec PyProof.Rows L2 TB
section
variable {P : Program} {w : World} {K : PySem.W.Frag} {mg : Str → Option Value} {base : Heap}
/-! ### rows of tables -/
abbrev Row := Int × Int × Int
def rowD (r : Row) : D := .tup [.int r.1, .int r.2.1, .int r.2.2]
def rw3 : D → Option Row
  | .tup [.int a, .int l, .int h] => some (a, l, h)
  | _ => none
theorem rw3_row (r : Row) : rw3 (rowD r) = some r := rfl
theorem rw3_eq {d : D} {r : Row} (h : rw3 d = some r) : d = rowD r := by
  unfold rw3 at h
  split at h
  · cases h; rfl
  · cases h
/-- a row for so many names -/
def rOk (many : Nat) (r : Row) : Bool := (decide (0 ≤ r.1) && decide (r.1 ≤ (many : Int) - 1)) && ((decide (0 ≤ r.2.1) && decide (r.2.1 ≤ 20001)) && ((decide (0 ≤ r.2.2) && decide (r.2.2 ≤ 20001)) && !decide (r.2.1 = r.2.2)))
def rowB (many : Nat) : D → Bool
  | .tup [a, l, h] => within 0 ((many : Int) - 1) a && (within 0 20001 l && (within 0 20001 h && !eqD l h))
  | _ => false
theorem eqD_int {i j : Int} : eqD (.int i) (.int j) = decide (i = j) := by
  show (i == j) = decide (i = j)
  rfl
theorem rowB_row (many : Nat) (r : Row) : rowB many (rowD r) = rOk many r := by
  show (within 0 ((many : Int) - 1) (.int r.1) && (within 0 20001 (.int r.2.1) && (within 0 20001 (.int r.2.2) && !eqD (.int r.2.1) (.int r.2.2)))) = _
  rw [eqD_int]
  rfl
theorem within_int {lo hi : Int} {d : D} (h : within lo hi d = true) : ∃ i, d = .int i ∧ lo ≤ i ∧ i ≤ hi := by
  cases d with
  | int i =>
    have h : (decide (lo ≤ i) && decide (i ≤ hi)) = true := h
    rw [Bool.and_eq_true, decide_eq_true_iff, decide_eq_true_iff] at h
    exact ⟨i, rfl, h.1, h.2⟩
  | _ => cases h
theorem rowB_ex {many : Nat} {d : D} (h : rowB many d = true) : ∃ r : Row, d = rowD r ∧ rOk many r = true := by
  unfold rowB at h
  split at h
  · rename_i a l b
    have h0 := h
    rw [Bool.and_eq_true, Bool.and_eq_true, Bool.and_eq_true] at h
    obtain ⟨i, rfl, _⟩ := within_int h.1
    obtain ⟨j, rfl, _⟩ := within_int h.2.1
    obtain ⟨k, rfl, _⟩ := within_int h.2.2.1
    refine ⟨(i, j, k), rfl, ?_⟩
    rw [← rowB_row]
    exact h0
  · cases h
theorem within_eq {lo hi i : Int} : within lo hi (.int i) = (decide (lo ≤ i) && decide (i ≤ hi)) := rfl
theorem noInt {lo hi : Int} {d : D} (h : ∀ i, d ≠ .int i) : within lo hi d = false := by
  cases d with
  | int i => exact absurd rfl (h i)
  | _ => rfl
theorem notI {d : D} (h : ∀ i, d ≠ .int i) : isInt d = false := by
  cases d with
  | int i => exact absurd rfl (h i)
  | _ => rfl
/-- any value of a call: plain, or {} -/
abbrev Va (n : Nat) (d : D) : Prop := Pv n d ∨ d = .dct []
theorem eqi {a b : Int} : decide (V.int a = V.int b) = decide (a = b) := by
  rw [Bool.eq_iff_iff, decide_eq_true_iff, decide_eq_true_iff]
  exact ⟨fun z => V.int.inj z, fun z => by rw [z]⟩
def pd_is_row : PD := pdn 2 fun as Q => ∃ (d : D) (n many : Nat), as = [d, .int many] ∧ Pv n d ∧ n ≤ 60 ∧ Q (.bl (rowB many d))
theorem ok_is_row (T : Txt K w mg) : FnOk P w K mg base CX0 3 T.is_row.f T.is_row.fd ["value", "many"] (spP K pd_is_row) := by
  refine T.is_row.F.ok sc_is_row (fun vs H Q E h => lenP h) (fun cdv A outer s H vs Q E hr h => ⟨_, (pss_cons (ps_if (PW.pt (pw_or (pt_not (pt_val (pe_callB TB.call_isiK (by rfl) T.z_isinstance (by decide +kernel) (pa_cons (pv 0) (pa_cons (pe_bltn (v := .ty "tuple") (by rfl) T.z_tuple (by decide +kernel) rfl) pa_nil))))) (pw_or1 (pt_cmpR op_ne (pe_callB call_len_seq (by rfl) T.z_len PySem.boot_len (pa_cons (pv 0) pa_nil)) (pe_glob rfl T.ROW_SIZE.g T.ROW_SIZE.r) (nomark _))))) 
        (pss_one (ps_ret pe_bl)) pss_nil) 
      (pss_cons (ps_asg (pv 0) (pg_tup rfl (pgs_cons (pg_name (i := 2) sc_is_row.nd rfl (.inl rfl)) (pgs_cons (pg_name (i := 3) sc_is_row.nd rfl (.inl rfl)) (pgs_cons (pg_name (i := 4) sc_is_row.nd rfl (.inl rfl)) pgs_nil))))) 
      (pss_cons (ps_if (PW.pt (pw_or (pt_not (pt_val (pe_call (ok_is_within T) (hr.mono (by decide)) (by rfl) T.is_within.g T.is_within.F.kp T.is_within.b .nil pass0 (pa_cons (pv 2) (pa_cons pe_int (pa_cons (pe_op op_sub (pv 1) pe_int) pa_nil)))))) (pw_or (pt_not (pt_val (pe_call (ok_is_within T) (hr.mono (by decide)) (by rfl) T.is_within.g T.is_within.F.kp T.is_within.b .nil pass0 (pa_cons (pv 3) (pa_cons pe_int (pa_cons (pe_op op_add (pe_glob rfl T.MAX_ROWS.g T.MAX_ROWS.r) pe_int) pa_nil)))))) (pw_or1 (pt_not (pt_val (pe_call (ok_is_within T) (hr.mono (by decide)) (by rfl) T.is_within.g T.is_within.F.kp T.is_within.b .nil pass0 (pa_cons (pv 4) (pa_cons pe_int (pa_cons (pe_op op_add (pe_glob rfl T.MAX_ROWS.g T.MAX_ROWS.r) pe_int) pa_nil)))))))))) 
        (pss_one (ps_ret pe_bl)) pss_nil) 
      (pss_one (ps_ret (pe_cmpR (op_neDK (K := K) rfl hr.units) (pv 3) (pv 4) (nomark _))))))),
    runP ((sns_seq (sns_if (snd_or (snd_not (snd_b (snd_cb s_isi (.cons (sO 0) (.cons (sE snd_opq) .nil))))) (snd_test (snd_op s_ne (sE (snd_cb s_len (.cons (sO 0) .nil))) (sE snd_int)))) 
          (sns_ret snd_bl) sns_next) 
        (sns_seq (sns_asg (snd_var 0) (sng_tup (sng_cons (sng_name 2) (sng_cons (sng_name 3) (sng_cons (sng_name 4) sng_nil))))) 
        (sns_seq (sns_if (snd_or (snd_not (snd_b (snd_call (sna_cons (snd_var 2) (sna_cons snd_int (sna_cons (snd_op s_sub (sO 1) (sE snd_int)) sna_nil)))))) (snd_or (snd_not (snd_b (snd_call (sna_cons (snd_var 3) (sna_cons snd_int (sna_cons (snd_op s_add (sE snd_int) (sE snd_int)) sna_nil)))))) (snd_not (snd_b (snd_call (sna_cons (snd_var 4) (sna_cons snd_int (sna_cons (snd_op s_add (sE snd_int) (sE snd_int)) sna_nil)))))))) 
          (sns_ret snd_bl) sns_next) 
        (sns_ret (snd_op s_neD (sO 3) (sO 4))))))) h (fun as Qd hp => by rw [hp.1]; decide) ?_⟩)
  rintro as Qd ⟨_, d, n, many, rfl, hd, hn, q⟩
  cases hd with
  | tup ds hi hz =>
    refine ⟨by decide, rfl, ifD2 (fun h => ?_) fun h => ?_⟩
    · have h : (!decide (V.int ((ds.length : Nat) : Int) = V.int 3)) = true := h
      rw [eqi, Bool.not_eq_true'] at h
      have h := of_decide_eq_false h
      have e : rowB many (.tup ds) = false := by
        unfold rowB
        split
        · rename_i e; cases e; exact absurd rfl h
        · rfl
      rw [e] at q
      exact q
    · have h : (!decide (V.int ((ds.length : Nat) : Int) = V.int 3)) = false := h
      rw [eqi, Bool.not_eq_false'] at h
      have h3 : ds.length = 3 := by have := of_decide_eq_true h; omega
      match ds, h3, hi with
      | [a, l, b], _, hi =>
        have q : Qd (.bl (within 0 ((many : Int) - 1) a && (within 0 20001 l && (within 0 20001 b && !eqD l b)))) := q
        have pa := hi a (by simp)
        have pl := hi l (by simp)
        have pb := hi b (by simp)
        refine ⟨rfl, rfl, a, 0, _, rfl, pa.plain, ?_⟩
        cases ea : within 0 ((many : Int) - 1) a with
        | false =>
          rw [ea] at q
          exact q
        | true =>
          rw [ea, Bool.true_and] at q
          refine ⟨rfl, l, 0, 20001, rfl, pl.plain, ?_⟩
          cases el : within 0 20001 l with
          | false =>
            rw [el] at q
            exact q
          | true =>
            rw [el, Bool.true_and] at q
            refine ⟨rfl, b, 0, 20001, rfl, pb.plain, ?_⟩
            cases eb : within 0 20001 b with
            | false =>
              rw [eb] at q
              exact q
            | true =>
              rw [eb, Bool.true_and] at q
              exact ⟨⟨pl.cmp.ok (by omega), pb.cmp.ok (by omega)⟩, q⟩
  | _ => exact ⟨by decide, q⟩
def askI (rs : List Row) (n : Int) : Int := if 2 ≤ n then (match rs[(n - 2).toNat]? with
  | some r => r.1
  | none => 0) else 12
def stB (rs : List Row) (i : Nat) : Bool := match rs[i]? with
  | some r => decide (r.2.1 < 2 + (i : Int)) && (decide (r.2.2 < 2 + (i : Int)) && (decide (r.1 < askI rs r.2.1) && decide (r.1 < askI rs r.2.2)))
  | none => false
def rowL (r : Row) : List Int := [r.1, r.2.1, r.2.2]
theorem rowsI_map : ∀ rs : List Row, rowsI (rs.map rowD) = some (rs.map rowL)
  | [] => rfl
  | r :: rs => by
    show (match rowI (rowD r), rowsI (rs.map rowD) with
      | some k, some l => some (k :: l)
      | _, _ => none) = _
    rw [rowsI_map rs]
    rfl
theorem fm_rows : ∀ rs : List Row, (rs.map rowD).filterMap rw3 = rs
  | [] => rfl
  | r :: rs => by
    rw [List.map_cons, List.filterMap_cons_some (rw3_row r), fm_rows rs]
theorem rows_of {many : Nat} : ∀ {ds : List D}, ds.all (rowB many) = true → ∃ rs : List Row, ds = rs.map rowD ∧ ∀ r ∈ rs, rOk many r = true
  | [], _ => ⟨[], rfl, fun r hr => (by cases hr)⟩
  | d :: ds, h => by
    rw [List.all_cons, Bool.and_eq_true] at h
    obtain ⟨r, rfl, hr⟩ := rowB_ex h.1
    obtain ⟨rs, rfl, hrs⟩ := rows_of h.2
    exact ⟨r :: rs, rfl, fun x hx => (List.mem_cons.mp hx).elim (fun e => by rw [e]; exact hr) (hrs x)⟩
/-- rows that stand, each once -/
def tabR (rs : List Row) : Bool := decide ((nub (rs.map rowL)).length = rs.length) && (List.range rs.length).all (stB rs)
def tabB (many : Nat) : D → Bool
  | .tup ds => ds.all (rowB many) && tabR (ds.filterMap rw3)
  | _ => false
theorem rOk_ex {many : Nat} {r : Row} (h : rOk many r = true) : 0 ≤ r.1 ∧ r.1 ≤ (many : Int) - 1 ∧ 0 ≤ r.2.1 ∧ r.2.1 ≤ 20001 ∧ 0 ≤ r.2.2 ∧ r.2.2 ≤ 20001 ∧ r.2.1 ≠ r.2.2 := by
  unfold rOk at h
  simp only [Bool.and_eq_true, decide_eq_true_iff, Bool.not_eq_true', decide_eq_false_iff_not] at h
  omega
def pd_asked_by : PD := pdn 2 fun as Q => ∃ (rs : List Row) (n : Int), as = [.tup (rs.map rowD), .int n] ∧ 0 ≤ n ∧ n < 2 + (rs.length : Int) ∧ Q (.int (askI rs n))
theorem ok_asked_by (T : Txt K w mg) : FnOk P w K mg base CX0 1 T.asked_by.f T.asked_by.fd ["rows", "node"] (spP K pd_asked_by) := by
  refine T.asked_by.F.ok sc_asked_by (fun vs H Q E h => lenP h) (fun cdv A outer s H vs Q E hr h => ⟨_, (pss_one (ps_ret (pe_ifExp (pt_cmpR op_ge (pv 1) (pe_glob rfl T.FIRST_NODE.g T.FIRST_NODE.r) (nomark _)) (pe_ix ix_tup (pe_ix ix_tup (pv 0) (pe_op op_sub (pv 1) (pe_glob rfl T.FIRST_NODE.g T.FIRST_NODE.r)) (fun _ _ => rfl)) pe_int (fun _ _ => rfl)) (pe_glob rfl T.MAX_ASKED.g T.MAX_ASKED.r)))),
    runP ((sns_ret (snd_if (snd_test (snd_op s_ge (sO 1) (sE snd_int))) (snd_op s_ixT (sE (snd_op s_ixT (sO 0) (sE (snd_op s_sub (sO 1) (sE snd_int))))) (sE snd_int)) snd_int))) h (fun as Qd hp => by rw [hp.1]; decide) ?_⟩)
  rintro as Qd ⟨_, rs, n, rfl, h0, h1, q⟩
  unfold askI at q
  refine ifD2 (fun h => ?_) fun h => ?_
  · have h := of_decide_eq_true h
    rw [if_pos h] at q
    have hj : (n - 2).toNat < rs.length := by omega
    have e : rs[(n - 2).toNat]? = some rs[(n - 2).toNat] := List.getElem?_eq_getElem hj
    rw [e] at q
    exact optD_of (x := rowD rs[(n - 2).toNat]) (atI_map rowD (atD (j := (n - 2).toNat) (by omega) e)) q
  · have h := of_decide_eq_false h
    rw [if_neg h] at q
    exact q
def pd_does_stand : PD := pdn 2 fun as Q => ∃ (rs : List Row) (i : Nat) (r : Row), as = [.tup (rs.map rowD), .int i] ∧ rs[i]? = some r ∧ 0 ≤ r.2.1 ∧ 0 ≤ r.2.2 ∧ Q (.bl (stB rs i))
theorem ok_does_stand (T : Txt K w mg) : FnOk P w K mg base CX0 2 T.does_stand.f T.does_stand.fd ["rows", "index"] (spP K pd_does_stand) := by
  refine T.does_stand.F.ok sc_does_stand (fun vs H Q E h => lenP h) (fun cdv A outer s H vs Q E hr h => ⟨_, (pss_cons (ps_asg (pe_ix ix_tup (pv 0) (pv 1) (fun _ _ => rfl)) (pg_tup rfl (pgs_cons (pg_name (i := 2) sc_does_stand.nd rfl (.inl rfl)) (pgs_cons (pg_name (i := 3) sc_does_stand.nd rfl (.inl rfl)) (pgs_cons (pg_name (i := 4) sc_does_stand.nd rfl (.inl rfl)) pgs_nil))))) 
      (pss_cons (ps_if (pt_cmpR op_ge (pe_callB (call_max2 rfl) (by rfl) T.z_max (by decide +kernel) (pa_cons (pv 3) (pa_cons (pv 4) pa_nil))) (pe_op op_add (pe_glob rfl T.FIRST_NODE.g T.FIRST_NODE.r) (pv 1)) (nomark _)) 
        (pss_one (ps_ret pe_bl)) pss_nil) 
      (pss_one (ps_ret (pe_and (pe_cmpR op_gt (pe_call (ok_asked_by T) (hr.mono (by decide)) (by rfl) T.asked_by.g T.asked_by.F.kp T.asked_by.b .nil pass0 (pa_cons (pv 0) (pa_cons (pv 3) pa_nil))) (pv 2) (nomark _)) (pe_one (pe_cmpR op_gt (pe_call (ok_asked_by T) (hr.mono (by decide)) (by rfl) T.asked_by.g T.asked_by.F.kp T.asked_by.b .nil pass0 (pa_cons (pv 0) (pa_cons (pv 4) pa_nil))) (pv 2) (nomark _)))))))),
    runP ((sns_seq (sns_asg (snd_op s_ixT (sO 0) (sO 1)) (sng_tup (sng_cons (sng_name 2) (sng_cons (sng_name 3) (sng_cons (sng_name 4) sng_nil))))) 
        (sns_seq (sns_if (snd_test (snd_op s_ge (sE (snd_cb s_max2 (.cons (sO 3) (.cons (sO 4) .nil)))) (sE (snd_op s_add (sE snd_int) (sO 1))))) 
          (sns_ret snd_bl) sns_next) 
        (sns_ret (snd_andV (snd_op s_gt (sE (snd_call (sna_cons (snd_var 0) (sna_cons (snd_var 3) sna_nil)))) (sO 2)) (snd_op s_gt (sE (snd_call (sna_cons (snd_var 0) (sna_cons (snd_var 4) sna_nil)))) (sO 2))))))) h (fun as Qd hp => by rw [hp.1]; decide) ?_⟩)
  rintro as Qd ⟨_, rs, i, r, rfl, hr, h1, h2, q⟩
  have e0 : stB rs i = (decide (r.2.1 < 2 + (i : Int)) && (decide (r.2.2 < 2 + (i : Int)) && (decide (r.1 < askI rs r.2.1) && decide (r.1 < askI rs r.2.2)))) := by
    unfold stB
    rw [hr]
  have hi : i < rs.length := (List.getElem?_eq_some_iff.mp hr).1
  refine optD_of (x := rowD r) (atI_map rowD (atD (j := i) rfl hr)) ⟨rfl, ifD2 (fun h => ?_) fun h => ?_⟩
  · have h := of_decide_eq_true h
    have e : stB rs i = false := by
      rw [e0]
      by_cases a : r.2.1 < 2 + (i : Int)
      · have b : ¬ r.2.2 < 2 + (i : Int) := by
          have h : (2 : Int) + (i : Int) ≤ (if r.2.2 > r.2.1 then r.2.2 else r.2.1) := h
          split at h <;> omega
        rw [decide_eq_false b, Bool.false_and, Bool.and_false]
      · rw [decide_eq_false a, Bool.false_and]
    rw [e] at q
    exact q
  · have h := of_decide_eq_false h
    have h : ¬ (2 : Int) + (i : Int) ≤ (if r.2.2 > r.2.1 then r.2.2 else r.2.1) := h
    have a : r.2.1 < 2 + (i : Int) := by split at h <;> omega
    have b : r.2.2 < 2 + (i : Int) := by split at h <;> omega
    rw [e0, decide_eq_true a, decide_eq_true b, Bool.true_and, Bool.true_and] at q
    refine ⟨rfl, rs, r.2.1, rfl, h1, by omega, ifD2 (fun h3 => ?_) fun h3 => ?_⟩
    · have h3 : decide (r.1 < askI rs r.2.1) = true := h3
      rw [h3, Bool.true_and] at q
      exact ⟨rfl, rs, r.2.2, rfl, h2, by omega, q⟩
    · have h3 : decide (r.1 < askI rs r.2.1) = false := h3
      rw [h3, Bool.false_and] at q
      exact q
theorem pv_name {n : Nat} {x : Str} (h : nameB x = true) : Pv n (.str x) := by
  unfold nameB at h
  rw [Bool.and_eq_true, Bool.and_eq_true, decide_eq_true_iff] at h
  refine .str x ?_ ?_
  · show PySem.PyData.canLay0 (.str x) = true
    unfold PySem.PyData.canLay0
    show PySem.PyData.strOk x = true
    unfold PySem.PyData.strOk
    rw [← Array.all_toList, List.all_eq_true]
    have h4 := h.2
    rw [List.all_eq_true] at h4
    intro c hc
    have hm := of_decide_eq_true (h4 c hc)
    have all : ∀ c ∈ moreS, c < 0x110000 := by decide +kernel
    exact decide_eq_true (all c hm)
  · rw [sizeLine_eq]
    omega
theorem strL_id (xs : List Str) : strL (xs.map D.str) = some xs := (strL_map (fun x : Str => x) xs).trans (congrArg some (List.map_id' xs))
def pd_are_names : PD := pdn 1 fun as Q => ∃ xs : List Str, as = [.tup (xs.map .str)] ∧ (∀ x ∈ xs, nameB x = true) ∧ xs.Nodup ∧ xs.length ≤ 12 ∧ Q (.bl true)
theorem ok_are_names (T : Txt K w mg) : FnOk P w K mg base CX0 2 T.are_names.f T.are_names.fd ["value"] (spP K pd_are_names) := by
  refine T.are_names.F.ok sc_are_names (fun vs H Q E h => lenP h) (fun cdv A outer s H vs Q E hr h => ⟨_, (pss_cons (ps_if (PW.pt (pw_or (pt_not (pt_val (pe_callB TB.call_isiK (by rfl) T.z_isinstance (by decide +kernel) (pa_cons (pv 0) (pa_cons (pe_bltn (v := .ty "tuple") (by rfl) T.z_tuple (by decide +kernel) rfl) pa_nil))))) (pw_or (pt_cmpR op_gt (pe_callB call_len_seq (by rfl) T.z_len PySem.boot_len (pa_cons (pv 0) pa_nil)) (pe_glob rfl T.MAX_ASKED.g T.MAX_ASKED.r) (nomark _)) (pw_or1 (pt_not (pt_val (pe_callB (cr_all rfl) (by rfl) T.z_all (by decide +kernel) (pa_cons (pe_lc (own := [("name", 1)]) (by rfl) sc_are_names.nd (pi_tup (pv 0)) (blkOk_by (own := [("name", 1)]) (N := ["value", "name"]) (sc := defScope s_are_names) (by decide +kernel)) (fun _ _ _ _ _ => (pg_name (i := 1) sc_are_names.nd rfl (.inl rfl))) (fun _ _ _ _ _ => pts_nil) (fun _ _ _ _ _ => (pe_call (ok_is_name T) (hr.mono (by decide)) (by rfl) T.is_name.g T.is_name.F.kp T.is_name.b .nil pass0 (pa_cons (pv 1) pa_nil)))) pa_nil)))))))) 
        (pss_one (ps_ret pe_bl)) pss_nil) 
      (pss_one (ps_ret (pe_cmpR op_eq (pe_lenSetX rfl (by rfl) T.z_len (by rfl) T.z_set (pv 0)) (pe_callB call_len_seq (by rfl) T.z_len PySem.boot_len (pa_cons (pv 0) pa_nil)) (nomark _))))),
    runP ((sns_seq (sns_if (snd_or (snd_not (snd_b (snd_cb s_isi (.cons (sO 0) (.cons (sE snd_opq) .nil))))) (snd_or (snd_test (snd_op s_gt (sE (snd_cb s_len (.cons (sO 0) .nil))) (sE snd_int))) (snd_not (snd_b (snd_cb s_all (.cons (sE (snd_ne (snd_lc (sni_tup (snd_var 0)) (sgi_name (i := 1) (by decide)) snd_yes (snd_call (sna_cons (snd_var 1) sna_nil))))) .nil)))))) 
          (sns_ret snd_bl) sns_next) 
        (sns_ret (snd_op s_eq (sE (snd_lenSet (sO 0))) (sE (snd_cb s_len (.cons (sO 0) .nil))))))) h (fun as Qd hp => by rw [hp.1]; decide) ?_⟩)
  rintro as Qd ⟨_, xs, rfl, hx, hn, hl, q⟩
  refine ⟨by decide, ifD_f (decide_eq_false (by rw [List.length_map]; omega)) ?_⟩
  refine ⟨by rw [List.length_map]; omega, lcP_y (tD := D.str) (xs := xs) rfl (fun x => .bl (nameB x)) (fun x hm Y hY => ⟨⟨trivial, trivial⟩, rfl, .str x, 0, rfl, pv_name (hx x hm), hY⟩) (optD_of (blL_map' nameB xs) ?_)⟩
  have ea : (xs.map nameB).all id = true := by
    rw [all_map', List.all_eq_true]
    exact hx
  rw [ea]
  refine optD_of (x := xs) (strL_id xs) ⟨by omega, rfl, ?_⟩
  have e : decide (V.int (((nub xs).length : Nat) : Int) = V.int ((xs.map D.str).length : Int)) = true := by
    rw [nub_of hn, List.length_map]
    exact decide_eq_true rfl
  have q' : Qd (.bl (decide (V.int (((nub xs).length : Nat) : Int) = V.int ((xs.map D.str).length : Int)))) := by rw [e]; exact q
  exact q'
def pd_is_table_in : PD := pdn 2 fun as Q => ∃ (ns : List D) (d : D) (n : Nat), as = [.tup ns, d] ∧ Va n d ∧ n ≤ 60 ∧ (∀ ds, d = .tup ds → ds.length < 64) ∧ Q (.bl (tabB ns.length d))
theorem ok_is_table_in (T : Txt K w mg) : FnOk P w K mg base CX0 4 T.is_table_in.f T.is_table_in.fd ["names", "value"] (spP K pd_is_table_in) := by
  refine T.is_table_in.F.ok sc_is_table_in (fun vs H Q E h => lenP h) (fun cdv A outer s H vs Q E hr h => ⟨_, (pss_cons (ps_if (PW.pt (pw_or (pt_not (pt_val (pe_callB TB.call_isiK (by rfl) T.z_isinstance (by decide +kernel) (pa_cons (pv 1) (pa_cons (pe_bltn (v := .ty "tuple") (by rfl) T.z_tuple (by decide +kernel) rfl) pa_nil))))) (pw_or (pt_cmpR op_gt (pe_callB call_len_seq (by rfl) T.z_len PySem.boot_len (pa_cons (pv 1) pa_nil)) (pe_glob rfl T.MAX_ROWS.g T.MAX_ROWS.r) (nomark _)) (pw_or1 (pt_not (pt_val (pe_callB (cr_all rfl) (by rfl) T.z_all (by decide +kernel) (pa_cons (pe_lc (own := [("row", 3)]) (by rfl) sc_is_table_in.nd (pi_tup (pv 1)) (blkOk_by (own := [("row", 3)]) (N := ["names", "value", "index", "row"]) (sc := defScope s_is_table_in) (by decide +kernel)) (fun _ _ _ _ _ => (pg_name (i := 3) sc_is_table_in.nd rfl (.inl rfl))) (fun _ _ _ _ _ => pts_nil) (fun _ _ _ _ _ => (pe_call (ok_is_row T) (hr.mono (by decide)) (by rfl) T.is_row.g T.is_row.F.kp T.is_row.b .nil pass0 (pa_cons (pv 3) (pa_cons (pe_callB (call_len_seqK (K := K) rfl) (by rfl) T.z_len PySem.boot_len (pa_cons (pv 0) pa_nil)) pa_nil))))) pa_nil)))))))) 
        (pss_one (ps_ret pe_bl)) pss_nil) 
      (pss_cons (ps_if (pt_cmpR op_ne (pe_lenSetT hr.units rfl (by rfl) T.z_len (by rfl) T.z_set (pv 1)) (pe_callB call_len_seq (by rfl) T.z_len PySem.boot_len (pa_cons (pv 1) pa_nil)) (nomark _)) 
        (pss_one (ps_ret pe_bl)) pss_nil) 
      (pss_one (ps_ret (pe_callB (cr_all rfl) (by rfl) T.z_all (by decide +kernel) (pa_cons (pe_lc (own := [("index", 2)]) (by rfl) sc_is_table_in.nd (pi_range1 (by rfl) T.z_range (pa_cons (pe_callB call_len_seq (by rfl) T.z_len PySem.boot_len (pa_cons (pv 1) pa_nil)) pa_nil)) (blkOk_by (own := [("index", 2)]) (N := ["names", "value", "index", "row"]) (sc := defScope s_is_table_in) (by decide +kernel)) (fun _ _ _ _ _ => (pg_name (i := 2) sc_is_table_in.nd rfl (.inl rfl))) (fun _ _ _ _ _ => pts_nil) (fun _ _ _ _ _ => (pe_call (ok_does_stand T) (hr.mono (by decide)) (by rfl) T.does_stand.g T.does_stand.F.kp T.does_stand.b .nil pass0 (pa_cons (pv 1) (pa_cons (pv 2) pa_nil))))) pa_nil)))))),
    runP ((sns_seq (sns_if (snd_or (snd_not (snd_b (snd_cb s_isi (.cons (sO 1) (.cons (sE snd_opq) .nil))))) (snd_or (snd_test (snd_op s_gt (sE (snd_cb s_len (.cons (sO 1) .nil))) (sE snd_int))) (snd_not (snd_b (snd_cb s_all (.cons (sE (snd_ne (snd_lc (sni_tup (snd_var 1)) (sgi_name (i := 3) (by decide)) snd_yes (snd_call (sna_cons (snd_var 3) (sna_cons (snd_cb s_len (.cons (sO 0) .nil)) sna_nil)))))) .nil)))))) 
          (sns_ret snd_bl) sns_next) 
        (sns_seq (sns_if (snd_test (snd_op s_ne (sE (snd_lenSetT (sO 1))) (sE (snd_cb s_len (.cons (sO 1) .nil))))) 
          (sns_ret snd_bl) sns_next) 
        (sns_ret (snd_cb s_all (.cons (sE (snd_ne (snd_lc (sni_rng1 (sna_cons (snd_cb s_len (.cons (sO 1) .nil)) sna_nil)) (sgi_name (i := 2) (by decide)) snd_yes (snd_call (sna_cons (snd_var 1) (sna_cons (snd_var 2) sna_nil)))))) .nil)))))) h (fun as Qd hp => by rw [hp.1]; decide) ?_⟩)
  rintro as Qd ⟨_, ns, d, n, rfl, hd, hn, hl, q⟩
  cases d with
  | tup ds =>
    obtain ⟨m', rfl, hi, hz⟩ := (hd.resolve_right (fun z => by cases z)).items
    have hl := hl ds rfl
    have q : Qd (.bl (ds.all (rowB ns.length) && tabR (ds.filterMap rw3))) := q
    refine ⟨by decide, ifD_f (decide_eq_false (by omega)) ?_⟩
    refine ⟨by omega, lcP_y (tD := fun d : D => d) (xs := ds) (List.map_id ds).symm (fun d => .bl (rowB ns.length d)) (fun d hd Y hY => ⟨⟨trivial, trivial⟩, rfl, d, m', ns.length, rfl, hi d hd, by omega, hY⟩) (optD_of (blL_map' (rowB ns.length) ds) ?_)⟩
    rw [all_map']
    refine ifD2 (fun h2 => ?_) fun h2 => ?_
    · rw [Bool.not_eq_true'] at h2
      rw [h2, Bool.false_and] at q
      exact q
    rw [Bool.not_eq_false'] at h2
    rw [h2, Bool.true_and] at q
    obtain ⟨rs, rfl, hrs⟩ := rows_of h2
    rw [fm_rows] at q
    rw [List.length_map] at hl
    unfold tabR at q
    refine optD_of (x := rs.map rowL) (rowsI_map rs) ⟨by rw [List.length_map]; omega, rfl, ifD2 (fun h3 => ?_) fun h3 => ?_⟩
    · have h3 : (!decide (V.int ((nub (rs.map rowL)).length : Int) = V.int ((rs.map rowD).length : Int))) = true := h3
      rw [eqi, Bool.not_eq_true', List.length_map] at h3
      have h3 := of_decide_eq_false h3
      rw [decide_eq_false (fun z => h3 (by rw [z])), Bool.false_and] at q
      exact q
    · have h3 : (!decide (V.int ((nub (rs.map rowL)).length : Int) = V.int ((rs.map rowD).length : Int))) = false := h3
      rw [eqi, Bool.not_eq_false', List.length_map] at h3
      have h3 : (nub (rs.map rowL)).length = rs.length := Int.ofNat.inj (of_decide_eq_true h3)
      rw [decide_eq_true h3, Bool.true_and] at q
      have el : (((rs.map rowD).length : Nat) : Int).toNat = rs.length := by rw [List.length_map]; exact Int.toNat_natCast _
      refine ⟨⟨by rw [List.length_map]; omega, by rw [List.length_map]; omega⟩, ?_, lcP_y (tD := fun i : Nat => D.int (0 + (i : Int))) (xs := List.range rs.length) ?_ (fun i => .bl (stB rs i)) (fun i hm Y hY => ?_) ?_⟩
      · show (rngD 0 (((rs.map rowD).length : Nat) : Int).toNat).length ≤ 1000000
        rw [el]
        unfold rngD
        rw [List.length_map, List.length_range]
        omega
      · show rngD 0 (((rs.map rowD).length : Nat) : Int).toNat = _
        rw [el]
        rfl
      · have hj := List.mem_range.mp hm
        have e : rs[i]? = some rs[i] := List.getElem?_eq_getElem hj
        have hk := rOk_ex (hrs _ (List.mem_of_getElem? e))
        exact ⟨⟨trivial, trivial⟩, rfl, rs, i, rs[i], congrArg (fun z => [D.tup (rs.map rowD), D.int z]) (Int.zero_add _), e, hk.2.2.1, hk.2.2.2.2.1, hY⟩
      · refine optD_of (blL_map' (stB rs) _) ?_
        rw [all_map']
        exact q
  | dct es => exact ⟨by decide, q⟩
  | _ => first | exact ⟨by decide, q⟩ | (rcases hd with hd | hd <;> cases hd)
end
end PL
namespace PL
open PySem PySem.Spec PyProof.Rows L2 TB
section
variable {P : Program} {w : World} {K : PySem.W.Frag} {mg : Str → Option Value} {base : Heap}
/-! ### rows judged one by one -/
theorem nub_full {κ : Type} [DecidableEq κ] : ∀ {n : Nat} {xs : List κ}, xs.length = n → (nub xs).length = xs.length → xs.Nodup
  | 0, xs, hl, _ => by rw [List.length_eq_zero_iff.mp hl]; exact List.nodup_nil
  | n + 1, xs, hl, h => by
    have hne : xs ≠ [] := fun z => by rw [z] at hl; cases hl
    have ex : xs.dropLast ++ [xs.getLast hne] = xs := List.dropLast_concat_getLast hne
    have hd : xs.dropLast.length = n := by rw [List.length_dropLast, hl]; rfl
    rw [← ex, nub_snoc, List.length_append, List.length_singleton] at h
    have le := nub_le xs.dropLast
    by_cases hx : xs.getLast hne ∈ nub xs.dropLast
    · rw [if_pos hx] at h
      omega
    · rw [if_neg hx, List.length_append, List.length_singleton] at h
      have ih := nub_full hd (by omega)
      rw [← ex]
      rw [nub_mem] at hx
      refine List.nodup_append.mpr ⟨ih, by simp, fun a ha b hb e => ?_⟩
      rw [List.mem_singleton.mp hb] at e
      rw [e] at ha
      exact hx ha
theorem mem_take' {α : Type} {xs : List α} {j : Nat} {x : α} : x ∈ xs.take j ↔ ∃ i, i < j ∧ xs[i]? = some x := by
  rw [List.mem_iff_getElem?]
  constructor
  · rintro ⟨i, h⟩
    rw [List.getElem?_take] at h
    split at h
    · rename_i hi; exact ⟨i, hi, h⟩
    · cases h
  · rintro ⟨i, hi, h⟩
    exact ⟨i, by rw [List.getElem?_take, if_pos hi]; exact h⟩
theorem nodup_take {α : Type} {xs : List α} (h : ∀ (j : Nat) x, xs[j]? = some x → x ∉ xs.take j) : xs.Nodup := by
  refine List.pairwise_iff_getElem.mpr fun i j hi hj hij e => ?_
  refine h j xs[j] (List.getElem?_eq_getElem hj) (mem_take'.mpr ⟨i, hij, ?_⟩)
  rw [← e]
  exact List.getElem?_eq_getElem hi
theorem take_nodup {α : Type} {xs : List α} (h : xs.Nodup) {j : Nat} {x : α} (e : xs[j]? = some x) : x ∉ xs.take j := fun hx => by
  obtain ⟨i, hi, ei⟩ := mem_take'.mp hx
  obtain ⟨li, gi⟩ := List.getElem?_eq_some_iff.mp ei
  obtain ⟨lj, gj⟩ := List.getElem?_eq_some_iff.mp e
  exact (List.pairwise_iff_getElem.mp h) i j li lj hi (by rw [gi, gj])
theorem rowD_inj {a b : Row} (h : rowD a = rowD b) : a = b := by
  have := congrArg rw3 h
  rw [rw3_row, rw3_row] at this
  exact Option.some.inj this
theorem rowL_inj {a b : Row} (h : rowL a = rowL b) : a = b := by
  unfold rowL at h
  injection h with h1 h
  injection h with h2 h
  injection h with h3 h
  exact Prod.ext h1 (Prod.ext h2 h3)
def nodeOk (ds : List D) (j : Nat) (a n : Int) : Prop := n < 2 + (j : Int) ∧ (1 < n → ∃ b : Row, ds[(n - 2).toNat]? = some (rowD b) ∧ a < b.1)
structure RowAt (many : Nat) (ds : List D) (j : Nat) (r : Row) : Prop where
  a0 : 0 ≤ r.1
  a1 : r.1 < (many : Int)
  ne : r.2.1 ≠ r.2.2
  l0 : 0 ≤ r.2.1
  h0 : 0 ≤ r.2.2
  new : rowD r ∉ ds.take j
  l : nodeOk ds j r.1 r.2.1
  h : nodeOk ds j r.1 r.2.2
def okAt (many : Nat) (ds : List D) (j : Nat) : Prop := ∃ r : Row, ds[j]? = some (rowD r) ∧ RowAt many ds j r
theorem map_at {rs : List Row} {j : Nat} {b : Row} : (rs.map rowD)[j]? = some (rowD b) ↔ rs[j]? = some b := by
  rw [List.getElem?_map]
  cases e : rs[j]? with
  | none => simp
  | some r => simp only [Option.map_some, Option.some.injEq]; exact ⟨fun z => rowD_inj z, fun z => by rw [z]⟩
theorem tab_iff {many : Nat} {ds : List D} (hm : many ≤ 12) (hl : ds.length ≤ 19999) : tabB many (.tup ds) = true ↔ ∀ j, j < ds.length → okAt many ds j := by
  have e0 : tabB many (.tup ds) = (ds.all (rowB many) && (decide ((nub ((ds.filterMap rw3).map rowL)).length = (ds.filterMap rw3).length) && (List.range (ds.filterMap rw3).length).all (stB (ds.filterMap rw3)))) := rfl
  rw [e0, Bool.and_eq_true, Bool.and_eq_true, decide_eq_true_iff]
  constructor
  · rintro ⟨h1, h2, h3⟩ j hj
    obtain ⟨rs, rfl, hrs⟩ := rows_of h1
    rw [fm_rows] at h2 h3
    rw [List.length_map] at hj
    have er : rs[j]? = some rs[j] := List.getElem?_eq_getElem hj
    have hk := rOk_ex (hrs _ (List.mem_of_getElem? er))
    have st := List.all_eq_true.mp h3 j (List.mem_range.mpr hj)
    unfold stB at st
    rw [er] at st
    simp only [Bool.and_eq_true, decide_eq_true_iff] at st
    obtain ⟨s1, s2, s3, s4⟩ := st
    have nd : (rs.map rowL).Nodup := nub_full rfl (by rw [List.length_map]; exact h2)
    have node : ∀ n : Int, 0 ≤ n → n < 2 + (j : Int) → rs[j].1 < askI rs n → nodeOk (rs.map rowD) j rs[j].1 n := fun n n0 n1 n2 => by
      refine ⟨n1, fun n3 => ?_⟩
      unfold askI at n2
      rw [if_pos (by omega)] at n2
      have hn : (n - 2).toNat < rs.length := by omega
      have en : rs[(n - 2).toNat]? = some rs[(n - 2).toNat] := List.getElem?_eq_getElem hn
      rw [en] at n2
      exact ⟨_, map_at.mpr en, n2⟩
    refine ⟨rs[j], map_at.mpr er, hk.1, by omega, hk.2.2.2.2.2.2, hk.2.2.1, hk.2.2.2.2.1, fun hx => ?_, node _ hk.2.2.1 s1 s3, node _ hk.2.2.2.2.1 s2 s4⟩
    obtain ⟨i, hi, ei⟩ := mem_take'.mp hx
    rw [map_at] at ei
    exact take_nodup nd (x := rowL rs[j]) (by rw [List.getElem?_map, er]; rfl) (mem_take'.mpr ⟨i, hi, by rw [List.getElem?_map, ei]; rfl⟩)
  · intro h
    have h1 : ds.all (rowB many) = true := by
      rw [List.all_eq_true]
      intro d hd
      obtain ⟨j, hj, ej⟩ := List.getElem_of_mem hd
      obtain ⟨r, er, x⟩ := h j hj
      have : d = rowD r := by
        rw [← ej]
        have := List.getElem?_eq_getElem hj
        rw [er] at this
        exact (Option.some.inj this).symm
      rw [this, rowB_row]
      have a := x.l.1
      have b := x.h.1
      have a0 := x.a0; have a1 := x.a1; have l0 := x.l0; have h0 := x.h0; have ne := x.ne
      unfold rOk
      simp only [Bool.and_eq_true, decide_eq_true_iff, Bool.not_eq_true', decide_eq_false_iff_not]
      omega
    refine ⟨h1, ?_⟩
    obtain ⟨rs, rfl, hrs⟩ := rows_of h1
    rw [fm_rows]
    rw [List.length_map] at h hl
    constructor
    · rw [nub_of, List.length_map]
      refine nodup_take fun j x ex hx => ?_
      rw [List.getElem?_map] at ex
      cases er : rs[j]? with
      | none => rw [er] at ex; cases ex
      | some r =>
        rw [er] at ex
        cases ex
        obtain ⟨r', er', y⟩ := h j (List.getElem?_eq_some_iff.mp er).1
        rw [map_at] at er'
        rw [er] at er'
        cases er'
        obtain ⟨i, hi, ei⟩ := mem_take'.mp hx
        rw [List.getElem?_map] at ei
        cases e2 : rs[i]? with
        | none => rw [e2] at ei; cases ei
        | some r2 =>
          rw [e2] at ei
          have := rowL_inj (Option.some.inj ei)
          rw [this] at e2
          exact y.new (mem_take'.mpr ⟨i, hi, map_at.mpr e2⟩)
    · rw [List.all_eq_true]
      intro j hj
      have hj := List.mem_range.mp hj
      obtain ⟨r, er, y⟩ := h j hj
      rw [map_at] at er
      unfold stB
      rw [er]
      simp only [Bool.and_eq_true, decide_eq_true_iff]
      have ask : ∀ n, nodeOk (rs.map rowD) j r.1 n → r.1 < askI rs n := fun n hn => by
        unfold askI
        by_cases c : 2 ≤ n
        · rw [if_pos c]
          obtain ⟨b, eb, hb⟩ := hn.2 (by omega)
          rw [map_at] at eb
          rw [eb]
          exact hb
        · rw [if_neg c]
          have := y.a1
          omega
      exact ⟨y.l.1, y.h.1, ask _ y.l, ask _ y.h⟩
end
end PL
namespace PL
open PySem PySem.Spec PyProof.Rows L2 TB
section
variable {P : Program} {w : World} {K : PySem.W.Frag} {mg : Str → Option Value} {base : Heap}
def pd__law_is_int : PD := pdn 1 fun as Q => ∃ d, as = [d] ∧ plain d ∧ Q (.bl (isInt d))
theorem ok__law_is_int (T : Txt K w mg) : FnOk P w K mg base CX0 1 T._law_is_int.f T._law_is_int.fd ["_law_value_here"] (spP K pd__law_is_int) := by
  refine T._law_is_int.F.ok sc__law_is_int (fun vs H Q E h => lenP h) (fun cdv A outer s H vs Q E hr h => ⟨_, (pss_one (ps_ret (pe_and (pe_callB TB.call_isiK (by rfl) T.z_isinstance (by decide +kernel) (pa_cons (pv 0) (pa_cons (pe_bltn (v := .ty "int") (by rfl) T.z_int (by decide +kernel) rfl) pa_nil))) (pe_one (pe_not (pe_callB TB.call_isiK (by rfl) T.z_isinstance (by decide +kernel) (pa_cons (pv 0) (pa_cons (pe_bltn (v := .ty "bool") (by rfl) T.z_bool (by decide +kernel) rfl) pa_nil)))))))),
    runP ((sns_ret (snd_andV (snd_cb s_isi (.cons (sO 0) (.cons (sE snd_opq) .nil))) (snd_notV (snd_cb s_isi (.cons (sO 0) (.cons (sE snd_opq) .nil))))))) h (fun as Qd hp => by rw [hp.1]; decide) ?_⟩)
  rintro as Qd ⟨_, d, rfl, hp, q⟩
  cases d <;> first | exact hp.elim | exact ⟨by decide, q⟩ | exact ⟨by decide, by decide, q⟩
theorem nil_cmp : CmpOk (.lst []) := (CmpD.lst (n := 0) fun y hy => by cases hy).ok
theorem eqD_nil : ∀ L : List D, eqD (.lst L) (.lst []) = decide (L = [])
  | [] => rfl
  | x :: r => rfl
def oddI (d : D) : Option D := if isInt d = true then none else some d
theorem odd_none {xs : List D} : xs.filterMap oddI = [] ↔ ∀ x ∈ xs, isInt x = true := by
  rw [List.filterMap_eq_nil_iff]
  refine forall_congr' fun x => forall_congr' fun _ => ?_
  unfold oddI
  split
  · rename_i h; exact ⟨fun _ => h, fun _ => rfl⟩
  · rename_i h; exact ⟨fun z => (by cases z), fun z => absurd z h⟩
theorem eqD_row {a b : Row} : eqD (rowD a) (rowD b) = decide (a = b) := by
  show ((a.1 == b.1) && ((a.2.1 == b.2.1) && ((a.2.2 == b.2.2) && true))) = decide (a = b)
  rw [Bool.eq_iff_iff, decide_eq_true_iff]
  simp only [Bool.and_eq_true, beq_iff_eq, and_true]
  exact ⟨fun ⟨h1, h2, h3⟩ => Prod.ext h1 (Prod.ext h2 h3), fun h => by rw [h]; exact ⟨rfl, rfl, rfl⟩⟩
theorem cut_to {xs : List D} {k : Nat} (h : k ≤ xs.length) : cutD xs none (some (k : Int)) = xs.take k := by
  unfold cutD
  rw [HT.sIx_nat, HT.sIx_none, List.drop_zero, Nat.sub_zero, Nat.min_eq_left h]
theorem isInt_ex {d : D} (h : isInt d = true) : ∃ i, d = .int i := by
  cases d with
  | int i => exact ⟨i, rfl⟩
  | _ => cases h
def pd__law_is_table : PD := pdn 2 fun as Q => ∃ (ns : List D) (d : D) (n : Nat), as = [.tup ns, d] ∧ ns.length ≤ 12 ∧ Va n d ∧ n ≤ 60 ∧ (∀ ds, d = .tup ds → ds.length < 64) ∧ Q (.bl (tabB ns.length d))
theorem ok__law_is_table (T : Txt K w mg) : FnOk P w K mg base CX0 2 T._law_is_table.f T._law_is_table.fd ["_law_names", "_law_value_here"] (spP K pd__law_is_table) := by
  refine T._law_is_table.F.ok sc__law_is_table (fun vs H Q E h => lenP h) (fun cdv A outer s H vs Q E hr h => ⟨_, (pss_cons (ps_if (pt_not (pt_val (pe_callB TB.call_isiK (by rfl) T.z_isinstance (by decide +kernel) (pa_cons (pv 1) (pa_cons (pe_bltn (v := .ty "tuple") (by rfl) T.z_tuple (by decide +kernel) rfl) pa_nil))))) 
        (pss_one (ps_ret pe_bl)) pss_nil) 
      (pss_cons (ps_for PassesOwn.never rfl (pi_enumT (by rfl) T.z_enumerate (pa_cons (pv 1) pa_nil)) (pg_tup rfl (pgs_cons (pg_name (i := 2) sc__law_is_table.nd rfl (.inl rfl)) (pgs_cons (pg_name (i := 3) sc__law_is_table.nd rfl (.inl rfl)) pgs_nil))) 
        (pss_cons (ps_if (PW.pt (pw_or (pt_not (pt_val (pe_callB TB.call_isiK (by rfl) T.z_isinstance (by decide +kernel) (pa_cons (pv 3) (pa_cons (pe_bltn (v := .ty "tuple") (by rfl) T.z_tuple (by decide +kernel) rfl) pa_nil))))) (pw_or (pt_cmpR op_ne (pe_callB call_len_seq (by rfl) T.z_len PySem.boot_len (pa_cons (pv 3) pa_nil)) pe_int (nomark _)) (pw_or1 (pt_cmpR (op_neDK (K := K) rfl hr.units) (pe_lc (own := [("_law_one", 8)]) (by rfl) sc__law_is_table.nd (pi_tup (pv 3)) (blkOk_by (own := [("_law_one", 8)]) (N := ["_law_names", "_law_value_here", "_law_index", "_law_row", "_law_at", "_law_low", "_law_high", "_law_node", "_law_one"]) (sc := defScope s__law_is_table) (by decide +kernel)) (fun _ _ _ _ _ => (pg_name (i := 8) sc__law_is_table.nd rfl (.inl rfl))) (fun _ _ _ _ _ => (pts_one (pt_not (pt_val (pe_call (ok__law_is_int T) (hr.mono (by decide)) (by rfl) T._law_is_int.g T._law_is_int.F.kp T._law_is_int.b .nil pass0 (pa_cons (pv 8) pa_nil)))))) (fun _ _ _ _ _ => (pv 8))) (pe_lstA pa_nil) (nomark _)))))) 
          (pss_one (ps_ret pe_bl)) pss_nil) 
        (pss_cons (ps_asg (pv 3) (pg_tup rfl (pgs_cons (pg_name (i := 4) sc__law_is_table.nd rfl (.inl rfl)) (pgs_cons (pg_name (i := 5) sc__law_is_table.nd rfl (.inl rfl)) (pgs_cons (pg_name (i := 6) sc__law_is_table.nd rfl (.inl rfl)) pgs_nil))))) 
        (pss_cons (ps_if (PW.pt (pw_or (pt_not (pt_chain op_le op_lt pe_int (pv 4) (pe_callB call_len_seq (by rfl) T.z_len PySem.boot_len (pa_cons (pv 0) pa_nil)))) (pw_or (pt_cmpR op_eq (pv 5) (pv 6) (nomark _)) (pw_or (pt_cmpR op_lt (pe_callB (call_min2 rfl) (by rfl) T.z_min (by decide +kernel) (pa_cons (pv 5) (pa_cons (pv 6) pa_nil))) pe_int (nomark _)) (pw_or1 (pt_cmpR (op_inDp (hu65 hr)) (pv 3) (pe_slice (sl_tupleSK (K := K) rfl) (pv 1) po_none (po_some (pv 2))) rfl)))))) 
          (pss_one (ps_ret pe_bl)) pss_nil) 
        (pss_one (ps_for PassesOwn.never rfl (pi_tup (pe_tup (pa_cons (pv 5) (pa_cons (pv 6) pa_nil)))) (pg_name (i := 7) sc__law_is_table.nd rfl (.inl rfl)) 
          (pss_one (ps_if (PW.pt (pw_or (pt_cmpR op_ge (pv 7) (pe_op op_add pe_int (pv 2)) (nomark _)) (pw_or1 (PW.pt (pw_and (pt_cmpR op_gt (pv 7) pe_int (nomark _)) (pw_and1 (pt_cmpR op_le (pe_ix ix_tup (pe_ix ix_tup (pv 1) (pe_op op_sub (pv 7) pe_int) (fun _ _ => rfl)) pe_int (fun _ _ => rfl)) (pv 4) (nomark _)))))))) 
            (pss_one (ps_ret pe_bl)) pss_nil)))))))) 
      (pss_one (ps_ret pe_bl)))),
    runP ((sns_seq (sns_if (snd_not (snd_b (snd_cb s_isi (.cons (sO 1) (.cons (sE snd_opq) .nil))))) 
          (sns_ret snd_bl) sns_next) 
        (sns_seq (sns_for (sni_enumT (sna_cons (snd_var 1) sna_nil)) (sng_tup (sng_cons (sng_name 2) (sng_cons (sng_name 3) sng_nil))) 
          (sns_seq (sns_if (snd_or (snd_not (snd_b (snd_cb s_isi (.cons (sO 3) (.cons (sE snd_opq) .nil))))) (snd_or (snd_test (snd_op s_ne (sE (snd_cb s_len (.cons (sO 3) .nil))) (sE snd_int))) (snd_test (snd_op s_neD (sE (snd_ne (snd_lc (sni_tup (snd_var 3)) (sgi_name (i := 8) (by decide)) (snd_not (snd_b (snd_call (sna_cons (snd_var 8) sna_nil)))) (snd_var 8)))) (sE (snd_ne (snd_lst sna_nil))))))) 
            (sns_ret snd_bl) sns_next) 
          (sns_seq (sns_asg (snd_var 3) (sng_tup (sng_cons (sng_name 4) (sng_cons (sng_name 5) (sng_cons (sng_name 6) sng_nil))))) 
          (sns_seq (sns_if (snd_or (snd_not (snd_test (snd_chain s_le s_lt snd_int (snd_var 4) (snd_cb s_len (.cons (sO 0) .nil))))) (snd_or (snd_test (snd_op s_eq (sO 5) (sO 6))) (snd_or (snd_test (snd_op s_lt (sE (snd_cb s_min2 (.cons (sO 5) (.cons (sO 6) .nil)))) (sE snd_int))) (snd_test (snd_op (s_inDp false) (sO 3) (sE (snd_sl s_slT (sO 1) snp_none (snp_some (snd_var 2))))))))) 
            (sns_ret snd_bl) sns_next) 
          (sns_for (sni_tup (snd_tup (sna_cons (snd_var 5) (sna_cons (snd_var 6) sna_nil)))) (sng_name 7) 
            (sns_if (snd_or (snd_test (snd_op s_ge (sO 7) (sE (snd_op s_add (sE snd_int) (sO 2))))) (snd_and (snd_test (snd_op s_gt (sO 7) (sE snd_int))) (snd_test (snd_op s_le (sE (snd_op s_ixT (sE (snd_op s_ixT (sO 1) (sE (snd_op s_sub (sO 7) (sE snd_int))))) (sE snd_int))) (sO 4))))) 
              (sns_ret snd_bl) sns_next)))))) 
        (sns_ret snd_bl)))) h (fun as Qd hp => by rw [hp.1]; decide) ?_⟩)
  rintro as Qd ⟨_, ns, d, n, rfl, hm, hd, hn, hl, q⟩
  cases d with
  | tup ds =>
    obtain ⟨m', rfl, hi, hz⟩ := (hd.resolve_right (fun z => by cases z)).items
    have hl := hl ds rfl
    have ti := tab_iff (many := ns.length) (ds := ds) hm (by omega)
    have no : ∀ i, i < ds.length → ¬okAt ns.length ds i → Qd (.bl false) := fun i h1 h2 => by
      have e : tabB ns.length (.tup ds) = false := by
        cases e : tabB ns.length (.tup ds) with
        | false => rfl
        | true => exact absurd (ti.mp e i h1) h2
      rw [e] at q
      exact q
    refine ⟨by decide, fun i ρ => (∀ j, j < i → okAt ns.length ds j) ∧ ∃ c2 c3 c4 c5 c6 c7 c8, ρ = [.val (.tup ns), .val (.tup ds), c2, c3, c4, c5, c6, c7, c8] ∧ (c8 = .no ∨ ∃ d, c8 = .val d), ⟨fun j hj => absurd hj (Nat.not_lt_zero _), _, _, _, _, _, _, _, rfl, .inl rfl⟩, ?_, ?_⟩
    · rintro i x ρ hx ⟨hg, c2, c3, c4, c5, c6, c7, c8, rfl, h8⟩
      obtain ⟨d, ed, ex⟩ := enD_get hx
      rw [Nat.zero_add] at ex
      subst ex
      have hj : i < ds.length := (List.getElem?_eq_some_iff.mp ed).1
      have pd := hi d (List.mem_of_getElem? ed)
      have fr : ∀ ρ' : Rho, ρ' = [.val (.tup ns), .val (.tup ds), .val (.int (i : Int)), .val d, c4, c5, c6, c7, c8] → freeC ρ' [8] := fun ρ' e => by
        subst e
        rcases h8 with rfl | ⟨z, rfl⟩ <;> exact ⟨trivial, trivial⟩
      refine ⟨rfl, ?_⟩
      cases d with
      | tup rs =>
        obtain ⟨m2, rfl, hri, hrz⟩ := pd.items
        refine ⟨by decide, rfl, ifD2 (fun h => ?_) fun h => ?_⟩
        · have h : (!decide (V.int ((rs.length : Nat) : Int) = V.int 3)) = true := h
          rw [eqi, Bool.not_eq_true'] at h
          have h := of_decide_eq_false h
          refine no i hj fun ⟨r, er, _⟩ => ?_
          rw [ed] at er
          cases Option.some.inj er
          exact h rfl
        · have h : (!decide (V.int ((rs.length : Nat) : Int) = V.int 3)) = false := h
          rw [eqi, Bool.not_eq_false'] at h
          have h3 : rs.length = 3 := by have := of_decide_eq_true h; omega
          refine ⟨by omega, lcP_x (tD := fun d : D => d) (xs := rs) (List.map_id rs).symm oddI (fun v hv N Y hN hY => ⟨fr _ rfl, rfl, v, rfl, (hri v hv).plain, ?_⟩) ?_⟩
          · cases ev : isInt v with
            | true => exact hN (by unfold oddI; rw [ev]; rfl)
            | false => exact hY v (by unfold oddI; rw [ev]; rfl)
          · have co : CmpOk (D.lst (rs.filterMap oddI)) := (CmpD.lst (n := m2) (fun x hx => by
              obtain ⟨y, hy, e⟩ := List.mem_filterMap.mp hx
              unfold oddI at e
              split at e
              · cases e
              · cases e; exact (hri _ hy).cmp)).ok (by omega)
            refine ⟨⟨co, nil_cmp⟩, ifD2 (fun h4 => ?_) fun h4 => ?_⟩
            · have h4 : (!eqD (.lst (rs.filterMap oddI)) (.lst [])) = true := h4
              rw [eqD_nil, Bool.not_eq_true'] at h4
              have h4 := of_decide_eq_false h4
              refine no i hj fun ⟨r, er, _⟩ => h4 ?_
              rw [ed] at er
              have e : rs = [.int r.1, .int r.2.1, .int r.2.2] := by cases Option.some.inj er; rfl
              rw [e]
              rfl
            · have h4 : (!eqD (.lst (rs.filterMap oddI)) (.lst [])) = false := h4
              rw [eqD_nil, Bool.not_eq_false'] at h4
              have h4 := odd_none.mp (of_decide_eq_true h4)
              obtain ⟨r, rfl⟩ : ∃ r : Row, rs = [.int r.1, .int r.2.1, .int r.2.2] := by
                match rs, h3, h4 with
                | [a, l, b], _, h4 =>
                  obtain ⟨i1, rfl⟩ := isInt_ex (h4 a (by simp))
                  obtain ⟨i2, rfl⟩ := isInt_ex (h4 l (by simp))
                  obtain ⟨i3, rfl⟩ := isInt_ex (h4 b (by simp))
                  exact ⟨(i1, i2, i3), rfl⟩
              have ed : ds[i]? = some (rowD r) := ed
              have nr : ¬RowAt ns.length ds i r → Qd (.bl false) := fun hn => no i hj fun ⟨r2, er, x⟩ => hn (by
                rw [ed] at er
                rw [rowD_inj (Option.some.inj er)]
                exact x)
              refine ⟨rfl, ifD2 (fun a0 => ?_) fun a0 => ?_⟩
              · have a0 : decide ((0 : Int) ≤ r.1) = true := a0
                have a0 := of_decide_eq_true a0
                refine ifD2 (fun a1 => ?_) fun a1 => ?_
                · have a1 : (!decide (r.1 < (ns.length : Int))) = true := a1
                  rw [Bool.not_eq_true'] at a1
                  exact nr fun x => absurd x.a1 (of_decide_eq_false a1)
                have a1 : (!decide (r.1 < (ns.length : Int))) = false := a1
                rw [Bool.not_eq_false'] at a1
                have a1 := of_decide_eq_true a1
                refine ⟨rfl, ifD2 (fun ne => ?_) fun ne => ?_⟩
                · have ne : decide (V.int r.2.1 = V.int r.2.2) = true := ne
                  rw [eqi] at ne
                  exact nr fun x => absurd (of_decide_eq_true ne) x.ne
                have ne : decide (V.int r.2.1 = V.int r.2.2) = false := ne
                rw [eqi] at ne
                have ne := of_decide_eq_false ne
                refine ifD2 (fun mn => ?_) fun mn => ?_
                · have mn : decide ((if r.2.2 < r.2.1 then r.2.2 else r.2.1) < (0 : Int)) = true := mn
                  have mn := of_decide_eq_true mn
                  refine nr fun x => ?_
                  have := x.l0
                  have := x.h0
                  split at mn <;> omega
                have mn : decide ((if r.2.2 < r.2.1 then r.2.2 else r.2.1) < (0 : Int)) = false := mn
                have mn := of_decide_eq_false mn
                have l0 : 0 ≤ r.2.1 := by split at mn <;> omega
                have h0 : 0 ≤ r.2.2 := by split at mn <;> omega
                have ec : cutD ds none (some (i : Int)) = ds.take i := cut_to (by omega)
                have cc : CmpOk (D.tup (cutD ds none (some (i : Int)))) := by
                  rw [ec]
                  exact (CmpD.tup (n := m2 + 1) (fun x hx => (hi x (List.mem_of_mem_take hx)).cmp)).ok (by omega)
                refine ⟨⟨pd.cmp.ok (by omega), cc⟩, ifD2 (fun nw => ?_) fun nw => ?_⟩
                · have nw : ((cutD ds none (some (i : Int))).any fun z => eqD z (rowD r)) = true := nw
                  rw [ec, List.any_eq_true] at nw
                  obtain ⟨z, hz, e⟩ := nw
                  refine nr fun x => x.new ?_
                  obtain ⟨k, hk, ek⟩ := mem_take'.mp hz
                  obtain ⟨b, eb, _⟩ := hg k hk
                  rw [ek] at eb
                  rw [Option.some.inj eb, eqD_row] at e
                  rw [Option.some.inj eb, of_decide_eq_true e] at hz
                  exact hz
                have nw : ((cutD ds none (some (i : Int))).any fun z => eqD z (rowD r)) = false := nw
                have new : rowD r ∉ ds.take i := fun hx => by
                  rw [ec, List.any_eq_false] at nw
                  exact nw _ hx (by rw [eqD_row]; exact decide_eq_true rfl)
                have row : nodeOk ds i r.1 r.2.1 → nodeOk ds i r.1 r.2.2 → okAt ns.length ds i := fun h1 h2 => ⟨r, ed, a0, a1, ne, l0, h0, new, h1, h2⟩
                have nth : ∀ (k : Nat) (v : D), [D.int r.2.1, D.int r.2.2][k]? = some v → ∃ n : Int, v = .int n ∧ 0 ≤ n ∧ (k = 0 ∧ n = r.2.1 ∨ k = 1 ∧ n = r.2.2) := fun k v h => by
                  match k, h with
                  | 0, h => cases h; exact ⟨_, rfl, l0, .inl ⟨rfl, rfl⟩⟩
                  | 1, h => cases h; exact ⟨_, rfl, h0, .inr ⟨rfl, rfl⟩⟩
                  | k + 2, h => cases h
                refine ⟨fun k ρ => (0 < k → nodeOk ds i r.1 r.2.1) ∧ (1 < k → nodeOk ds i r.1 r.2.2) ∧ ∃ c7, ρ = [.val (.tup ns), .val (.tup ds), .val (.int (i : Int)), .val (rowD r), .val (.int r.1), .val (.int r.2.1), .val (.int r.2.2), c7, c8], ⟨fun h => absurd h (by decide), fun h => absurd h (by decide), _, rfl⟩, ?_, ?_⟩
                · rintro k v ρ hv ⟨g1, g2, c7, rfl⟩
                  obtain ⟨n, rfl, n0, hk⟩ := nth k v hv
                  have fin : nodeOk ds i r.1 n → ((0 < k + 1 → nodeOk ds i r.1 r.2.1) ∧ (1 < k + 1 → nodeOk ds i r.1 r.2.2)) := fun hn => by
                    rcases hk with ⟨rfl, rfl⟩ | ⟨rfl, rfl⟩
                    · exact ⟨fun _ => hn, fun h => absurd h (by decide)⟩
                    · exact ⟨fun _ => g1 (by decide), fun _ => hn⟩
                  have bad : ¬nodeOk ds i r.1 n → Qd (.bl false) := fun hn => nr fun x => hn (by
                    rcases hk with ⟨rfl, rfl⟩ | ⟨rfl, rfl⟩
                    · exact x.l
                    · exact x.h)
                  refine ifD2 (fun h1 => ?_) fun h1 => ?_
                  · have h1 : decide ((2 : Int) + (i : Int) ≤ n) = true := h1
                    have h1 := of_decide_eq_true h1
                    exact bad fun x => by have := x.1; omega
                  have h1 : decide ((2 : Int) + (i : Int) ≤ n) = false := h1
                  have h1 := of_decide_eq_false h1
                  refine ifD2 (fun h2 => ?_) fun h2 => ?_
                  · have h2 : decide ((1 : Int) < n) = true := h2
                    have h2 := of_decide_eq_true h2
                    obtain ⟨b, eb, _⟩ := hg (n - 2).toNat (by omega)
                    refine optD_of (x := rowD b) (atD (j := (n - 2).toNat) (by omega) eb) (ifD2 (fun h3 => ?_) fun h3 => ?_)
                    · have h3 : decide (b.1 ≤ r.1) = true := h3
                      have h3 := of_decide_eq_true h3
                      refine bad fun x => ?_
                      obtain ⟨b2, eb2, hb⟩ := x.2 h2
                      rw [eb] at eb2
                      rw [rowD_inj (Option.some.inj eb2)] at h3
                      omega
                    · have h3 : decide (b.1 ≤ r.1) = false := h3
                      have h3 := of_decide_eq_false h3
                      have := fin ⟨by omega, fun _ => ⟨b, eb, by omega⟩⟩
                      exact ⟨this.1, this.2, _, rfl⟩
                  · have h2 : decide ((1 : Int) < n) = false := h2
                    have h2 := of_decide_eq_false h2
                    have := fin ⟨by omega, fun h => absurd h h2⟩
                    exact ⟨this.1, this.2, _, rfl⟩
                · rintro ρ ⟨g1, g2, c7, rfl⟩
                  refine ⟨fun j hj2 => ?_, _, _, _, _, _, _, _, rfl, h8⟩
                  rcases Nat.lt_succ_iff_lt_or_eq.mp hj2 with h | rfl
                  · exact hg j h
                  · exact row (g1 (show 0 < 2 by decide)) (g2 (show 1 < 2 by decide))
              · have a0 : decide ((0 : Int) ≤ r.1) = false := a0
                exact nr fun x => absurd x.a0 (of_decide_eq_false a0)
      | _ => first | exact ⟨by decide, no i hj fun ⟨r, er, _⟩ => (by rw [ed] at er; cases er)⟩ | cases pd
    · rintro ρ ⟨hg, c2, c3, c4, c5, c6, c7, c8, rfl, h8⟩
      rw [enD_len] at hg
      rw [ti.mpr hg] at q
      exact q
  | dct es => exact ⟨by decide, q⟩
  | _ => first | exact ⟨by decide, q⟩ | (rcases hd with hd | hd <;> cases hd)
end
end PL
namespace PL
open PySem PySem.Spec PyProof.Rows L2 TB
section
variable {P : Program} {w : World} {K : PySem.W.Frag} {mg : Str → Option Value} {base : Heap}
/-! ### values of nodes -/
structure Good (many : Nat) (rs : List Row) : Prop where
  a0 : ∀ (j : Nat) r, rs[j]? = some r → 0 ≤ r.1 ∧ r.1 < (many : Int)
  l : ∀ (j : Nat) r, rs[j]? = some r → 0 ≤ r.2.1 ∧ r.2.1 < 2 + (j : Int)
  h : ∀ (j : Nat) r, rs[j]? = some r → 0 ≤ r.2.2 ∧ r.2.2 < 2 + (j : Int)
  lo : ∀ (j : Nat) r, rs[j]? = some r → 1 < r.2.1 → ∃ b, rs[(r.2.1 - 2).toNat]? = some b ∧ r.1 < b.1
  hi : ∀ (j : Nat) r, rs[j]? = some r → 1 < r.2.2 → ∃ b, rs[(r.2.2 - 2).toNat]? = some b ∧ r.1 < b.1
theorem good_tab {many : Nat} {rs : List Row} (hm : many ≤ 12) (hl : rs.length ≤ 19999) (h : tabB many (.tup (rs.map rowD)) = true) : Good many rs := by
  have h := (tab_iff hm (by rw [List.length_map]; exact hl)).mp h
  have key : ∀ (j : Nat) r, rs[j]? = some r → RowAt many (rs.map rowD) j r := fun j r e => by
    obtain ⟨r2, e2, x⟩ := h j (by rw [List.length_map]; exact (List.getElem?_eq_some_iff.mp e).1)
    rw [map_at] at e2
    rw [e] at e2
    cases e2
    exact x
  refine ⟨fun j r e => ⟨(key j r e).a0, (key j r e).a1⟩, fun j r e => ⟨(key j r e).l0, (key j r e).l.1⟩, fun j r e => ⟨(key j r e).h0, (key j r e).h.1⟩, fun j r e h1 => ?_, fun j r e h1 => ?_⟩
  · obtain ⟨b, eb, hb⟩ := (key j r e).l.2 h1
    exact ⟨b, map_at.mp eb, hb⟩
  · obtain ⟨b, eb, hb⟩ := (key j r e).h.2 h1
    exact ⟨b, map_at.mp eb, hb⟩
def ev (rs : List Row) (f : Nat → Bool) : Nat → Int → Int
  | 0, n => n
  | k + 1, n => if n < 2 then n else match rs[(n - 2).toNat]? with
    | some r => ev rs f k (if f r.1.toNat = true then r.2.2 else r.2.1)
    | none => n
theorem ev_leaf {rs : List Row} {f : Nat → Bool} {k : Nat} {n : Int} (h : n < 2) : ev rs f k n = n := by
  cases k with
  | zero => rfl
  | succ k => unfold ev; rw [if_pos h]
theorem ev_row {rs : List Row} {f : Nat → Bool} {k : Nat} {n : Int} {r : Row} (h : 2 ≤ n) (e : rs[(n - 2).toNat]? = some r) : ev rs f (k + 1) n = ev rs f k (if f r.1.toNat = true then r.2.2 else r.2.1) := by
  rw [ev, if_neg (by omega), e]
theorem ev_stay {many : Nat} {rs : List Row} (g : Good many rs) (f : Nat → Bool) : ∀ (k : Nat) (n : Int), n.toNat ≤ k → n < 2 + (rs.length : Int) → ev rs f k n = ev rs f n.toNat n
  | 0, n, h, _ => by
    have : n.toNat = 0 := by omega
    rw [this]
  | k + 1, n, h, hn => by
    by_cases h2 : n < 2
    · rw [ev_leaf h2, ev_leaf h2]
    · have hj : (n - 2).toNat < rs.length := by omega
      have e : rs[(n - 2).toNat]? = some rs[(n - 2).toNat] := List.getElem?_eq_getElem hj
      have a := g.l _ _ e
      have b := g.h _ _ e
      obtain ⟨m, hm⟩ : ∃ m, n.toNat = m + 1 := ⟨n.toNat - 1, by omega⟩
      rw [ev_row (by omega) e, hm, ev_row (by omega) e]
      have c : (if f rs[(n - 2).toNat].1.toNat = true then rs[(n - 2).toNat].2.2 else rs[(n - 2).toNat].2.1).toNat ≤ m := by split <;> omega
      have d : (if f rs[(n - 2).toNat].1.toNat = true then rs[(n - 2).toNat].2.2 else rs[(n - 2).toNat].2.1) < 2 + (rs.length : Int) := by split <;> omega
      rw [ev_stay g f k _ (by omega) d, ev_stay g f m _ c d]
/-- the value of a node -/
def val (rs : List Row) (f : Nat → Bool) (n : Int) : Int := ev rs f n.toNat n
theorem val_leaf {rs : List Row} {f : Nat → Bool} {n : Int} (h : n < 2) : val rs f n = n := ev_leaf h
theorem val_row {many : Nat} {rs : List Row} (g : Good many rs) {f : Nat → Bool} {n : Int} {r : Row} (h : 2 ≤ n) (e : rs[(n - 2).toNat]? = some r) : val rs f n = val rs f (if f r.1.toNat = true then r.2.2 else r.2.1) := by
  have hj := (List.getElem?_eq_some_iff.mp e).1
  have a := g.l _ _ e
  have b := g.h _ _ e
  obtain ⟨m, hm⟩ : ∃ m, n.toNat = m + 1 := ⟨n.toNat - 1, by omega⟩
  unfold val
  rw [hm, ev_row h e]
  exact ev_stay g f m _ (by split <;> omega) (by split <;> omega)
theorem val_bit {many : Nat} {rs : List Row} (g : Good many rs) (f : Nat → Bool) : ∀ (k : Nat) (n : Int), n.toNat ≤ k → 0 ≤ n → n < 2 + (rs.length : Int) → 0 ≤ val rs f n ∧ val rs f n ≤ 1
  | k, n, hk, h0, h1 => by
    by_cases h2 : n < 2
    · rw [val_leaf h2]; omega
    · match k, hk with
      | 0, hk => omega
      | k + 1, hk =>
        have hj : (n - 2).toNat < rs.length := by omega
        have e : rs[(n - 2).toNat]? = some rs[(n - 2).toNat] := List.getElem?_eq_getElem hj
        have a := g.l _ _ e
        have b := g.h _ _ e
        rw [val_row g (by omega) e]
        exact val_bit g f k _ (by split <;> omega) (by split <;> omega) (by split <;> omega)
/-! ### how many are 1 -/
def upb (f : Nat → Bool) (a : Nat) (b : Bool) : Nat → Bool := fun x => if x = a then b else f x
theorem upb_comm {f : Nat → Bool} {a m : Nat} {b c : Bool} (h : a ≠ m) : upb (upb f a c) m b = upb (upb f m b) a c := by
  funext x
  unfold upb
  by_cases h1 : x = m
  · rw [if_pos h1, if_neg (fun z => h (z.symm.trans h1)), if_pos h1]
  · rw [if_neg h1]
    by_cases h2 : x = a
    · rw [if_pos h2, if_pos h2]
    · rw [if_neg h2, if_neg h2, if_neg h1]
def tot : Nat → ((Nat → Bool) → Int) → Int
  | 0, F => F fun _ => false
  | m + 1, F => tot m (fun f => F (upb f m false)) + tot m (fun f => F (upb f m true))
theorem tot_congr : ∀ {m : Nat} {F G : (Nat → Bool) → Int}, (∀ f, F f = G f) → tot m F = tot m G := fun {m F G} h => congrArg (tot m) (funext h)
theorem tot_const (c : Int) : ∀ m : Nat, tot m (fun _ => c) = 2 ^ m * c
  | 0 => by show c = _; rw [Int.pow_zero, Int.one_mul]
  | m + 1 => by
    show tot m (fun _ => c) + tot m (fun _ => c) = _
    rw [tot_const c m, Int.pow_succ, Int.mul_comm (2 ^ m) 2, Int.mul_assoc, Int.two_mul]
def Free (a : Nat) (G : (Nat → Bool) → Int) : Prop := ∀ f b, G (upb f a b) = G f
theorem tot_half : ∀ {m a : Nat} {G H : (Nat → Bool) → Int}, a < m → Free a G → Free a H → tot m G + tot m H = 2 * tot m (fun f => if f a = true then H f else G f)
  | m + 1, a, G, H, ha, hG, hH => by
    by_cases e : a = m
    · subst e
      show tot a (fun f => G (upb f a false)) + tot a (fun f => G (upb f a true)) + (tot a (fun f => H (upb f a false)) + tot a (fun f => H (upb f a true)))
        = 2 * (tot a (fun f => if upb f a false a = true then H (upb f a false) else G (upb f a false)) + tot a (fun f => if upb f a true a = true then H (upb f a true) else G (upb f a true)))
      have u : ∀ f b, upb f a b a = b := fun f b => if_pos rfl
      rw [tot_congr (F := fun f => G (upb f a false)) (G := G) fun f => hG f false, tot_congr (F := fun f => G (upb f a true)) (G := G) fun f => hG f true,
        tot_congr (F := fun f => H (upb f a false)) (G := H) fun f => hH f false, tot_congr (F := fun f => H (upb f a true)) (G := H) fun f => hH f true,
        tot_congr (F := fun f => if upb f a false a = true then H (upb f a false) else G (upb f a false)) (G := G) fun f => by rw [u, if_neg Bool.false_ne_true, hG],
        tot_congr (F := fun f => if upb f a true a = true then H (upb f a true) else G (upb f a true)) (G := H) fun f => by rw [u, if_pos rfl, hH]]
      omega
    · have ha' : a < m := by omega
      have fr : ∀ {F : (Nat → Bool) → Int} (b : Bool), Free a F → Free a (fun f => F (upb f m b)) := fun {F} b h f c => by
        show F (upb (upb f a c) m b) = F (upb f m b)
        rw [upb_comm e]
        exact h _ _
      have st : ∀ b : Bool, tot m (fun f => if upb f m b a = true then H (upb f m b) else G (upb f m b)) = tot m (fun f => if f a = true then H (upb f m b) else G (upb f m b)) := fun b => tot_congr fun f => by
        have : upb f m b a = f a := if_neg e
        rw [this]
      have i1 := tot_half ha' (fr false hG) (fr false hH)
      have i2 := tot_half ha' (fr true hG) (fr true hH)
      show tot m (fun f => G (upb f m false)) + tot m (fun f => G (upb f m true)) + (tot m (fun f => H (upb f m false)) + tot m (fun f => H (upb f m true)))
        = 2 * (tot m (fun f => if upb f m false a = true then H (upb f m false) else G (upb f m false)) + tot m (fun f => if upb f m true a = true then H (upb f m true) else G (upb f m true)))
      rw [st false, st true]
      omega
theorem val_free {many : Nat} {rs : List Row} (g : Good many rs) {a : Nat} : ∀ (k : Nat) (n : Int), n.toNat ≤ k → n < 2 + (rs.length : Int) → (2 ≤ n → ∃ r, rs[(n - 2).toNat]? = some r ∧ (a : Int) < r.1) → Free a (fun f => val rs f n)
  | k, n, hk, hn, h => fun f b => by
    show val rs (upb f a b) n = val rs f n
    by_cases h2 : n < 2
    · rw [val_leaf h2, val_leaf h2]
    · match k, hk with
      | 0, hk => clear h; omega
      | k + 1, hk =>
        obtain ⟨r, e, hr⟩ := h (Int.not_lt.mp h2)
        clear h
        have x := g.l _ _ e
        have y := g.h _ _ e
        have hj := (List.getElem?_eq_some_iff.mp e).1
        have s : upb f a b r.1.toNat = f r.1.toNat := if_neg (by omega)
        rw [val_row g (by omega) e, val_row g (by omega) e, s]
        split
        · exact val_free g k _ (by omega) (by omega) (fun q => by
            obtain ⟨b2, eb, hb⟩ := g.hi _ _ e (by omega)
            exact ⟨b2, eb, by omega⟩) f b
        · exact val_free g k _ (by omega) (by omega) (fun q => by
            obtain ⟨b2, eb, hb⟩ := g.lo _ _ e (by omega)
            exact ⟨b2, eb, by omega⟩) f b
/-- the fillings that make a node 1 -/
def cnt (many : Nat) (rs : List Row) (n : Int) : Int := tot many fun f => val rs f n
theorem cnt_row {many : Nat} {rs : List Row} (g : Good many rs) {j : Nat} {r : Row} (e : rs[j]? = some r) : cnt many rs r.2.1 + cnt many rs r.2.2 = 2 * cnt many rs (2 + (j : Int)) := by
  have x := g.l _ _ e
  have y := g.h _ _ e
  have z := g.a0 _ _ e
  have hj := (List.getElem?_eq_some_iff.mp e).1
  have ej : (2 + (j : Int) - 2).toNat = j := by omega
  have fl : Free r.1.toNat (fun f => val rs f r.2.1) := val_free g _ _ (Nat.le_refl _) (by omega) fun q => by
    obtain ⟨b, eb, hb⟩ := g.lo _ _ e (by omega)
    exact ⟨b, eb, by omega⟩
  have fh : Free r.1.toNat (fun f => val rs f r.2.2) := val_free g _ _ (Nat.le_refl _) (by omega) fun q => by
    obtain ⟨b, eb, hb⟩ := g.hi _ _ e (by omega)
    exact ⟨b, eb, by omega⟩
  unfold cnt
  rw [tot_half (m := many) (a := r.1.toNat) (by omega) fl fh]
  congr 1
  refine tot_congr fun f => ?_
  rw [val_row g (n := 2 + (j : Int)) (by omega) (by rw [ej]; exact e)]
  split <;> rfl
theorem cnt_leaf {many : Nat} {rs : List Row} {n : Int} (h : n < 2) : cnt many rs n = 2 ^ many * n := by
  unfold cnt
  rw [← tot_const n many]
  exact tot_congr fun f => val_leaf h
/-! ### fillings by number -/
def bits (j : Nat) : Nat → Bool := fun a => Nat.testBit j a
theorem range_two (m : Nat) : List.range (2 ^ (m + 1)) = List.range (2 ^ m) ++ (List.range (2 ^ m)).map (2 ^ m + ·) := by
  rw [Nat.pow_succ, Nat.mul_two, List.range_add]
theorem bits_lo {m j : Nat} (h : j < 2 ^ m) : bits j = upb (bits j) m false := by
  funext x
  unfold upb
  by_cases e : x = m
  · rw [if_pos e, e]
    exact Nat.testBit_lt_two_pow h
  · rw [if_neg e]
theorem bits_hi {m j : Nat} (h : j < 2 ^ m) : bits (2 ^ m + j) = upb (bits j) m true := by
  funext x
  unfold upb bits
  by_cases e : x = m
  · rw [if_pos e, e, Nat.testBit_two_pow_add_eq, Nat.testBit_lt_two_pow h]
    rfl
  · rw [if_neg e]
    by_cases l : x < m
    · exact Nat.testBit_two_pow_add_gt l j
    · have h1 : j < 2 ^ x := Nat.lt_of_lt_of_le h (Nat.pow_le_pow_right (by decide) (by omega))
      have h2 : 2 ^ m + j < 2 ^ x := by
        have : 2 ^ (m + 1) ≤ 2 ^ x := Nat.pow_le_pow_right (by decide) (by omega)
        rw [Nat.pow_succ] at this
        omega
      rw [Nat.testBit_lt_two_pow h1, Nat.testBit_lt_two_pow h2]
theorem tot_sum : ∀ (m : Nat) (F : (Nat → Bool) → Int), ((List.range (2 ^ m)).map fun j => F (bits j)).sum = tot m F
  | 0, F => by
    show (F (bits 0)) + 0 = F _
    rw [Int.add_zero]
    congr 1
    funext x
    exact Nat.zero_testBit x
  | m + 1, F => by
    rw [range_two, List.map_append, List.sum_append, List.map_map]
    show _ = tot m (fun f => F (upb f m false)) + tot m (fun f => F (upb f m true))
    rw [← tot_sum m, ← tot_sum m]
    congr 1
    · refine congrArg List.sum (List.map_congr_left fun j hj => ?_)
      rw [← bits_lo (List.mem_range.mp hj)]
    · refine congrArg List.sum (List.map_congr_left fun j hj => ?_)
      show F (bits (2 ^ m + j)) = _
      rw [bits_hi (List.mem_range.mp hj)]
end
end PL
namespace PL
open PySem PySem.Spec PyProof.Rows L2 TB
section
variable {P : Program} {w : World} {K : PySem.W.Frag} {mg : Str → Option Value} {base : Heap}
def APv (n : Nat) (xs : List D) : Prop := ∀ x ∈ xs, Pv n x
theorem APv.app {n : Nat} {xs ys : List D} (h1 : APv n xs) (h2 : APv n ys) : APv n (xs ++ ys) := fun x hx => (List.mem_append.mp hx).elim (h1 x) (h2 x)
theorem APv.cut {n : Nat} {xs : List D} {lo hi : Option Int} (h : APv n xs) : APv n (cutD xs lo hi) := fun x hx => h x (List.mem_of_mem_drop (List.mem_of_mem_take hx))
theorem APv.nil {n : Nat} : APv n [] := fun x hx => by cases hx
theorem APv.cons {n : Nat} {x : D} {xs : List D} (h : Pv n x) (t : APv n xs) : APv n (x :: xs) := fun y hy => by
  rcases List.mem_cons.mp hy with rfl | hy
  · exact h
  · exact t y hy
theorem Pv.s {n : Nat} (x : Str) (h : ((PyData.str x).canLay0 = true ∧ x.length ≤ sizeLine) := by decide +kernel) : Pv n (.str x) := .str x h.1 h.2
theorem APv.tup {n : Nat} {xs : List D} (h : APv n xs) (hl : xs.length ≤ 20000) : Pv (n + 1) (.tup xs) := .tup xs h hl
theorem APv.lst {n : Nat} {xs : List D} (h : APv n xs) : Pv (n + 1) (.lst xs) := .lst xs h
theorem APv.up {n : Nat} {xs : List D} (h : APv n xs) : APv (n + 1) xs := fun x hx => (h x hx).up
theorem cut_le (xs : List D) (lo hi : Option Int) : (cutD xs lo hi).length ≤ xs.length := by
  unfold cutD
  rw [List.length_take, List.length_drop]
  omega
/-! ### fillings -/
def b2 (b : Bool) : Int := if b = true then 1 else 0
def fillE : Nat → List Str → (Nat → Bool) → List (Key × D)
  | _, [], _ => []
  | k, x :: r, f => (.inr x, .int (b2 (f k))) :: fillE (k + 1) r f
def fillD (xs : List Str) (f : Nat → Bool) : D := .dct (fillE 0 xs f)
theorem fillE_len (f : Nat → Bool) : ∀ (k : Nat) (xs : List Str), (fillE k xs f).length = xs.length
  | _, [] => rfl
  | k, x :: r => congrArg Nat.succ (fillE_len f (k + 1) r)
theorem fillE_look {f : Nat → Bool} : ∀ {k : Nat} {xs : List Str} {a : Nat} {x : Str}, xs.Nodup → xs[a]? = some x → lookD (fillE k xs f) (.inr x) = some (.int (b2 (f (k + a))))
  | k, [], a, x, _, h => by cases h
  | k, y :: r, 0, x, hn, h => by
    cases h
    show (if (Sum.inr y : Key) = .inr y then _ else _) = _
    rw [if_pos rfl]
    rfl
  | k, y :: r, a + 1, x, hn, h => by
    have hn := List.nodup_cons.mp hn
    have ne : y ≠ x := fun z => hn.1 (by rw [z]; exact List.mem_of_getElem? h)
    show (if (Sum.inr y : Key) = .inr x then _ else lookD (fillE (k + 1) r f) (.inr x)) = _
    rw [if_neg (fun z => ne (Sum.inr.inj z)), fillE_look hn.2 h, show k + 1 + a = k + (a + 1) by omega]
theorem fill_get {xs : List Str} {f : Nat → Bool} {a : Nat} {x : Str} (hn : xs.Nodup) (h : xs[a]? = some x) : dgetD (fillD xs f) (.str x) = some (some (.int (b2 (f a)))) := by
  show some (lookD (fillE 0 xs f) (.inr x)) = _
  rw [fillE_look hn h, Nat.zero_add]
structure NamesOk (xs : List Str) : Prop where
  ok : ∀ x ∈ xs, nameB x = true
  nd : xs.Nodup
  few : xs.length ≤ 12
/-! ### asked rightly -/
def pd_require_names : PD := pdn 1 fun as Q => ∃ xs : List Str, as = [.tup (xs.map .str)] ∧ NamesOk xs ∧ Q .non
theorem ok_require_names (T : Txt K w mg) : FnOk P w K mg base CX0 3 T.require_names.f T.require_names.fd ["names"] (spP K pd_require_names) := by
  refine T.require_names.F.ok sc_require_names (fun vs H Q E h => lenP h) (fun cdv A outer s H vs Q E hr h => ⟨_, (pss_one (ps_if (pt_not (pt_val (pe_call (ok_are_names T) (hr.mono (by decide)) (by rfl) T.are_names.g T.are_names.F.kp T.are_names.b .nil pass0 (pa_cons (pv 0) pa_nil)))) 
        (pss_one ps_never) pss_nil)),
    runP ((sns_if (snd_not (snd_b (snd_call (sna_cons (snd_var 0) sna_nil)))) 
          sns_never sns_next)) h (fun as Qd hp => by rw [hp.1]; decide) ?_⟩)
  rintro as Qd ⟨_, xs, rfl, h, q⟩
  exact ⟨rfl, xs, rfl, h.ok, h.nd, h.few, q⟩
theorem rows_pv {rs : List Row} : APv 1 (rs.map rowD) := fun d hd => by
  obtain ⟨r, _, rfl⟩ := List.mem_map.mp hd
  exact APv.tup (.cons (.int _) (.cons (.int _) (.cons (.int _) .nil))) (by show 3 ≤ 20000; decide)
theorem tab_va {rs : List Row} (h : rs.length < 64) : Va 2 (.tup (rs.map rowD)) ∧ ∀ ds, D.tup (rs.map rowD) = .tup ds → ds.length < 64 :=
  ⟨.inl (APv.tup rows_pv (by rw [List.length_map]; omega)), fun ds e => by cases e; rw [List.length_map]; exact h⟩
structure TabOk' (xs : List Str) (rs : List Row) : Prop where
  names : NamesOk xs
  tab : tabB xs.length (.tup (rs.map rowD)) = true
  few : rs.length < 64
def pd_require_table : PD := pdn 2 fun as Q => ∃ (xs : List Str) (rs : List Row), as = [.tup (xs.map .str), .tup (rs.map rowD)] ∧ TabOk' xs rs ∧ Q .non
theorem ok_require_table (T : Txt K w mg) : FnOk P w K mg base CX0 5 T.require_table.f T.require_table.fd ["names", "table"] (spP K pd_require_table) := by
  refine T.require_table.F.ok sc_require_table (fun vs H Q E h => lenP h) (fun cdv A outer s H vs Q E hr h => ⟨_, (pss_one (ps_if (pt_not (pt_val (pe_call (ok_is_table_in T) (hr.mono (by decide)) (by rfl) T.is_table_in.g T.is_table_in.F.kp T.is_table_in.b .nil pass0 (pa_cons (pv 0) (pa_cons (pv 1) pa_nil))))) 
        (pss_one ps_never) pss_nil)),
    runP ((sns_if (snd_not (snd_b (snd_call (sna_cons (snd_var 0) (sna_cons (snd_var 1) sna_nil))))) 
          sns_never sns_next)) h (fun as Qd hp => by rw [hp.1]; decide) ?_⟩)
  rintro as Qd ⟨_, xs, rs, rfl, h, q⟩
  refine ⟨rfl, xs.map .str, .tup (rs.map rowD), 2, rfl, (tab_va h.few).1, by decide, (tab_va h.few).2, ?_⟩
  rw [List.length_map, h.tab]
  exact q
def pd_is_node : PD := pdn 2 fun as Q => ∃ (rs : List Row) (n : Int), as = [.tup (rs.map rowD), .int n] ∧ 0 ≤ n ∧ n < 2 + (rs.length : Int) ∧ Q (.bl true)
theorem ok_is_node (T : Txt K w mg) : FnOk P w K mg base CX0 3 T.is_node.f T.is_node.fd ["table", "value"] (spP K pd_is_node) := by
  refine T.is_node.F.ok sc_is_node (fun vs H Q E h => lenP h) (fun cdv A outer s H vs Q E hr h => ⟨_, (pss_one (ps_ret (pe_call (ok_is_within T) (hr.mono (by decide)) (by rfl) T.is_within.g T.is_within.F.kp T.is_within.b .nil pass0 (pa_cons (pv 1) (pa_cons pe_int (pa_cons (pe_op op_add (pe_callB call_len_seq (by rfl) T.z_len PySem.boot_len (pa_cons (pv 0) pa_nil)) pe_int) pa_nil)))))),
    runP ((sns_ret (snd_call (sna_cons (snd_var 1) (sna_cons snd_int (sna_cons (snd_op s_add (sE (snd_cb s_len (.cons (sO 0) .nil))) (sE snd_int)) sna_nil)))))) h (fun as Qd hp => by rw [hp.1]; decide) ?_⟩)
  rintro as Qd ⟨_, rs, n, rfl, h0, h1, q⟩
  refine ⟨rfl, .int n, 0, _, rfl, trivial, ?_⟩
  have e : within 0 (((rs.map rowD).length : Int) + 1) (.int n) = true := by
    rw [within_eq, decide_eq_true (by omega), decide_eq_true (by rw [List.length_map]; omega)]
    rfl
  rw [e]
  exact q
def pd_require_node : PD := pdn 2 fun as Q => ∃ (rs : List Row) (n : Int), as = [.tup (rs.map rowD), .int n] ∧ 0 ≤ n ∧ n < 2 + (rs.length : Int) ∧ Q .non
theorem ok_require_node (T : Txt K w mg) : FnOk P w K mg base CX0 4 T.require_node.f T.require_node.fd ["table", "node"] (spP K pd_require_node) := by
  refine T.require_node.F.ok sc_require_node (fun vs H Q E h => lenP h) (fun cdv A outer s H vs Q E hr h => ⟨_, (pss_one (ps_if (pt_not (pt_val (pe_call (ok_is_node T) (hr.mono (by decide)) (by rfl) T.is_node.g T.is_node.F.kp T.is_node.b .nil pass0 (pa_cons (pv 0) (pa_cons (pv 1) pa_nil))))) 
        (pss_one ps_never) pss_nil)),
    runP ((sns_if (snd_not (snd_b (snd_call (sna_cons (snd_var 0) (sna_cons (snd_var 1) sna_nil))))) 
          sns_never sns_next)) h (fun as Qd hp => by rw [hp.1]; decide) ?_⟩)
  rintro as Qd ⟨_, rs, n, rfl, h0, h1, q⟩
  exact ⟨rfl, rs, n, rfl, h0, h1, q⟩
def pd_is_filling : PD := pdn 2 fun as Q => ∃ (xs : List Str) (f : Nat → Bool), as = [.tup (xs.map .str), fillD xs f] ∧ NamesOk xs ∧ Q (.bl true)
theorem ok_is_filling (T : Txt K w mg) : FnOk P w K mg base CX0 3 T.is_filling.f T.is_filling.fd ["names", "value"] (spP K pd_is_filling) := by
  refine T.is_filling.F.ok sc_is_filling (fun vs H Q E h => lenP h) (fun cdv A outer s H vs Q E hr h => ⟨_, (pss_cons (ps_if (PW.pt (pw_or (pt_not (pt_val (pe_callB TB.call_isiK (by rfl) T.z_isinstance (by decide +kernel) (pa_cons (pv 1) (pa_cons (pe_bltn (v := .ty "dict") (by rfl) T.z_dict (by decide +kernel) rfl) pa_nil))))) (pw_or1 (pt_cmpR op_ne (pe_callB call_lenDR (by rfl) T.z_len PySem.boot_len (pa_cons (pv 1) pa_nil)) (pe_callB call_len_seq (by rfl) T.z_len PySem.boot_len (pa_cons (pv 0) pa_nil)) (nomark _))))) 
        (pss_one (ps_ret pe_bl)) pss_nil) 
      (pss_one (ps_ret (pe_callB (cr_all rfl) (by rfl) T.z_all (by decide +kernel) (pa_cons (pe_lc (own := [("name", 2)]) (by rfl) sc_is_filling.nd (pi_tup (pv 0)) (blkOk_by (own := [("name", 2)]) (N := ["names", "value", "name"]) (sc := defScope s_is_filling) (by decide +kernel)) (fun _ _ _ _ _ => (pg_name (i := 2) sc_is_filling.nd rfl (.inl rfl))) (fun _ _ _ _ _ => pts_nil) (fun _ _ _ _ _ => (pe_and (pe_cmp (pc_din (hu_of hr) (pv 2) (pv 1))) (pe_one (pe_call (ok_is_within T) (hr.mono (by decide)) (by rfl) T.is_within.g T.is_within.F.kp T.is_within.b .nil pass0 (pa_cons (pe_dget (hu_of hr) (pv 1) (pv 2) (fun _ _ => rfl)) (pa_cons pe_int (pa_cons pe_int pa_nil)))))))) pa_nil))))),
    runP ((sns_seq (sns_if (snd_or (snd_not (snd_b (snd_cb s_isi (.cons (sO 1) (.cons (sE snd_opq) .nil))))) (snd_test (snd_op s_ne (sE (snd_cb s_lenD (.cons (sO 1) .nil))) (sE (snd_cb s_len (.cons (sO 0) .nil)))))) 
          (sns_ret snd_bl) sns_next) 
        (sns_ret (snd_cb s_all (.cons (sE (snd_ne (snd_lc (sni_tup (snd_var 0)) (sgi_name (i := 2) (by decide)) snd_yes (snd_andV (snd_din (sO 2) (sO 1)) (snd_call (sna_cons (snd_dget (sO 1) (sO 2)) (sna_cons snd_int (sna_cons snd_int sna_nil)))))))) .nil))))) h (fun as Qd hp => by rw [hp.1]; decide) ?_⟩)
  rintro as Qd ⟨_, xs, f, rfl, h, q⟩
  refine ⟨by decide, rfl, ifD_f ?_ ?_⟩
  · show (!decide (V.int ((fillE 0 xs f).length : Int) = V.int ((xs.map D.str).length : Int))) = false
    rw [fillE_len, List.length_map, decide_eq_true rfl]
    rfl
  · have few := h.few
    refine ⟨by rw [List.length_map]; omega, lcP_y (tD := D.str) (xs := xs) rfl (fun x => .bl true) (fun x hm Y hY => ?_) ?_⟩
    · obtain ⟨a, ha⟩ := List.getElem?_of_mem hm
      have e := fill_get (f := f) h.nd ha
      have hw : within 0 1 (.int (b2 (f a))) = true := by unfold b2; cases f a <;> rfl
      generalize fillD xs f = F at e hY ⊢
      refine ⟨⟨trivial, trivial⟩, optD_of e (optD_of e ⟨rfl, .int (b2 (f a)), 0, 1, rfl, trivial, ?_⟩)⟩
      rw [hw]
      exact hY
    · refine optD_of (blL_map' (fun _ => true) xs) ?_
      have ea : (xs.map fun _ => true).all id = true := by
        rw [all_map', List.all_eq_true]
        exact fun _ _ => rfl
      rw [ea]
      exact q
/-! ### values told -/
theorem bit_one {b : Bool} : decide (V.int (b2 b) = V.int 1) = b := by
  rw [eqi]
  cases b <;> rfl
def pd_table_value : PD := pdn 4 fun as Q => ∃ (xs : List Str) (rs : List Row) (n : Int) (f : Nat → Bool), as = [.tup (xs.map .str), .tup (rs.map rowD), .int n, fillD xs f] ∧ TabOk' xs rs ∧ 0 ≤ n ∧ n < 2 + (rs.length : Int) ∧ Q (.int (val rs f n))
theorem ok_table_value (T : Txt K w mg) : FnOk P w K mg base CX0 6 T.table_value.f T.table_value.fd ["names", "table", "node", "filling"] (spP K pd_table_value) := by
  refine T.table_value.F.ok sc_table_value (fun vs H Q E h => lenP h) (fun cdv A outer s H vs Q E hr h => ⟨_, (pss_cons (ps_expr (pe_call (ok_require_names T) (hr.mono (by decide)) (by rfl) T.require_names.g T.require_names.F.kp T.require_names.b .nil pass0 (pa_cons (pv 0) pa_nil))) 
      (pss_cons (ps_expr (pe_call (ok_require_table T) (hr.mono (by decide)) (by rfl) T.require_table.g T.require_table.F.kp T.require_table.b .nil pass0 (pa_cons (pv 0) (pa_cons (pv 1) pa_nil)))) 
      (pss_cons (ps_expr (pe_call (ok_require_node T) (hr.mono (by decide)) (by rfl) T.require_node.g T.require_node.F.kp T.require_node.b .nil pass0 (pa_cons (pv 1) (pa_cons (pv 2) pa_nil)))) 
      (pss_cons (ps_if (pt_not (pt_val (pe_call (ok_is_filling T) (hr.mono (by decide)) (by rfl) T.is_filling.g T.is_filling.F.kp T.is_filling.b .nil pass0 (pa_cons (pv 0) (pa_cons (pv 3) pa_nil))))) 
        (pss_one ps_never) pss_nil) 
      (pss_cons (ps_while PassesOwn.never (pt_cmpR op_ge (pv 2) (pe_glob rfl T.FIRST_NODE.g T.FIRST_NODE.r) (nomark _)) 
        (pss_cons (ps_asg (pe_ix ix_tup (pv 1) (pe_op op_sub (pv 2) (pe_glob rfl T.FIRST_NODE.g T.FIRST_NODE.r)) (fun _ _ => rfl)) (pg_tup rfl (pgs_cons (pg_name (i := 4) sc_table_value.nd rfl (.inl rfl)) (pgs_cons (pg_name (i := 5) sc_table_value.nd rfl (.inl rfl)) (pgs_cons (pg_name (i := 6) sc_table_value.nd rfl (.inl rfl)) pgs_nil))))) 
        (pss_one (ps_set (i := 2) sc_table_value.nd rfl (.inl rfl) (pe_ifExp (pt_cmpR op_eq (pe_dget (hu_of hr) (pv 3) (pe_ix ix_tup (pv 0) (pv 4) (fun _ _ => rfl)) (fun _ _ => rfl)) pe_int (nomark _)) (pv 6) (pv 5)))))) 
      (pss_one (ps_ret (pv 2)))))))),
    runP ((sns_seq (sns_drop (snd_call (sna_cons (snd_var 0) sna_nil))) 
        (sns_seq (sns_drop (snd_call (sna_cons (snd_var 0) (sna_cons (snd_var 1) sna_nil)))) 
        (sns_seq (sns_drop (snd_call (sna_cons (snd_var 1) (sna_cons (snd_var 2) sna_nil)))) 
        (sns_seq (sns_if (snd_not (snd_b (snd_call (sna_cons (snd_var 0) (sna_cons (snd_var 3) sna_nil))))) 
          sns_never sns_next) 
        (sns_seq (sns_while (snd_test (snd_op s_ge (sO 2) (sE snd_int))) 
          (sns_seq (sns_asg (snd_op s_ixT (sO 1) (sE (snd_op s_sub (sO 2) (sE snd_int)))) (sng_tup (sng_cons (sng_name 4) (sng_cons (sng_name 5) (sng_cons (sng_name 6) sng_nil))))) 
          (sns_asg (snd_if (snd_test (snd_op s_eq (sE (snd_dget (sO 3) (sE (snd_op s_ixT (sO 0) (sO 4))))) (sE snd_int))) (snd_var 6) (snd_var 5)) (sng_name 2)))) 
        (sns_ret (snd_var 2)))))))) h (fun as Qd hp => by rw [hp.1]; decide) ?_⟩)
  rintro as Qd ⟨_, xs, rs, n, f, rfl, h, n0, n1, q⟩
  have g := good_tab h.names.few (by have := h.few; omega) h.tab
  refine ⟨rfl, xs, rfl, h.names, rfl, xs, rs, rfl, h, rfl, rs, n, rfl, n0, n1, rfl, xs, f, rfl, h.names, ?_⟩
  refine ⟨fun m ρ => ∃ (k : Int) (c4 c5 c6 : Cell), ρ = [.val (.tup (xs.map .str)), .val (.tup (rs.map rowD)), .val (.int k), .val (fillD xs f), c4, c5, c6] ∧ k.toNat = m ∧ 0 ≤ k ∧ k < 2 + (rs.length : Int) ∧ val rs f k = val rs f n, ⟨n.toNat, n, _, _, _, rfl, rfl, n0, n1, rfl⟩, ?_⟩
  rintro m ρ ⟨k, c4, c5, c6, rfl, hm, k0, k1, hv⟩
  refine ifD2 (fun h1 => ?_) fun h1 => ?_
  · have h1 : decide ((2 : Int) ≤ k) = true := h1
    have h1 := of_decide_eq_true h1
    have hj : (k - 2).toNat < rs.length := by omega
    have e : rs[(k - 2).toNat]? = some rs[(k - 2).toNat] := List.getElem?_eq_getElem hj
    generalize rs[(k - 2).toNat] = r at e
    have a0 := g.a0 _ _ e
    have lo := g.l _ _ e
    have hi := g.h _ _ e
    have step := val_row g (f := f) h1 e
    have hx : r.1.toNat < xs.length := by omega
    have ex : xs[r.1.toNat]? = some xs[r.1.toNat] := List.getElem?_eq_getElem hx
    generalize xs[r.1.toNat] = x at ex
    have ef := fill_get (f := f) h.names.nd ex
    generalize fillD xs f = F at ef ⊢
    refine optD_of (x := rowD r) (atI_map rowD (atD (j := (k - 2).toNat) (by omega) e)) ⟨rfl, ?_⟩
    refine optD_of (x := .str x) (atI_map D.str (atD (j := r.1.toNat) (by omega) ex)) (optD_of ef ⟨rfl, ifD2 (fun h2 => ?_) fun h2 => ?_⟩)
    · have h2 : decide (V.int (b2 (f r.1.toNat)) = V.int 1) = true := h2
      rw [bit_one] at h2
      rw [if_pos h2] at step
      exact ⟨r.2.2.toNat, by omega, r.2.2, _, _, _, rfl, rfl, hi.1, by omega, by rw [← step]; exact hv⟩
    · have h2 : decide (V.int (b2 (f r.1.toNat)) = V.int 1) = false := h2
      rw [bit_one] at h2
      rw [if_neg (by rw [h2]; exact Bool.false_ne_true)] at step
      exact ⟨r.2.1.toNat, by omega, r.2.1, _, _, _, rfl, rfl, lo.1, by omega, by rw [← step]; exact hv⟩
  · have h1 : decide ((2 : Int) ≤ k) = false := h1
    have h1 := of_decide_eq_false h1
    rw [← hv, val_leaf (by omega)] at q
    exact q
def pd__law_value : PD := pdn 4 fun as Q => ∃ (xs : List Str) (rs : List Row) (n : Int) (f : Nat → Bool), as = [.tup (xs.map .str), .tup (rs.map rowD), .int n, fillD xs f] ∧ TabOk' xs rs ∧ 0 ≤ n ∧ n < 2 + (rs.length : Int) ∧ Q (.int (val rs f n))
theorem ok__law_value (T : Txt K w mg) : FnOk P w K mg base CX0 1 T._law_value.f T._law_value.fd ["_law_names", "_law_table", "_law_node", "_law_filling"] (spP K pd__law_value) := by
  refine T._law_value.F.ok sc__law_value (fun vs H Q E h => lenP h) (fun cdv A outer s H vs Q E hr h => ⟨_, (pss_cons (ps_while PassesOwn.never (pt_cmpR op_gt (pv 2) pe_int (nomark _)) 
        (pss_cons (ps_asg (pe_ix ix_tup (pv 1) (pe_op op_sub (pv 2) pe_int) (fun _ _ => rfl)) (pg_tup rfl (pgs_cons (pg_name (i := 4) sc__law_value.nd rfl (.inl rfl)) (pgs_cons (pg_name (i := 5) sc__law_value.nd rfl (.inl rfl)) (pgs_cons (pg_name (i := 6) sc__law_value.nd rfl (.inl rfl)) pgs_nil))))) 
        (pss_one (ps_set (i := 2) sc__law_value.nd rfl (.inl rfl) (pe_ifExp (pt_cmpR op_eq (pe_dget (hu_of hr) (pv 3) (pe_ix ix_tup (pv 0) (pv 4) (fun _ _ => rfl)) (fun _ _ => rfl)) pe_int (nomark _)) (pv 6) (pv 5)))))) 
      (pss_one (ps_ret (pv 2)))),
    runP ((sns_seq (sns_while (snd_test (snd_op s_gt (sO 2) (sE snd_int))) 
          (sns_seq (sns_asg (snd_op s_ixT (sO 1) (sE (snd_op s_sub (sO 2) (sE snd_int)))) (sng_tup (sng_cons (sng_name 4) (sng_cons (sng_name 5) (sng_cons (sng_name 6) sng_nil))))) 
          (sns_asg (snd_if (snd_test (snd_op s_eq (sE (snd_dget (sO 3) (sE (snd_op s_ixT (sO 0) (sO 4))))) (sE snd_int))) (snd_var 6) (snd_var 5)) (sng_name 2)))) 
        (sns_ret (snd_var 2)))) h (fun as Qd hp => by rw [hp.1]; decide) ?_⟩)
  rintro as Qd ⟨_, xs, rs, n, f, rfl, h, n0, n1, q⟩
  have g := good_tab h.names.few (by have := h.few; omega) h.tab
  refine ⟨fun m ρ => ∃ (k : Int) (c4 c5 c6 : Cell), ρ = [.val (.tup (xs.map .str)), .val (.tup (rs.map rowD)), .val (.int k), .val (fillD xs f), c4, c5, c6] ∧ k.toNat = m ∧ 0 ≤ k ∧ k < 2 + (rs.length : Int) ∧ val rs f k = val rs f n, ⟨n.toNat, n, _, _, _, rfl, rfl, n0, n1, rfl⟩, ?_⟩
  rintro m ρ ⟨k, c4, c5, c6, rfl, hm, k0, k1, hv⟩
  refine ifD2 (fun h1 => ?_) fun h1 => ?_
  · have h1 : decide ((1 : Int) < k) = true := h1
    have h1 : 2 ≤ k := of_decide_eq_true h1
    have hj : (k - 2).toNat < rs.length := by omega
    have e : rs[(k - 2).toNat]? = some rs[(k - 2).toNat] := List.getElem?_eq_getElem hj
    generalize rs[(k - 2).toNat] = r at e
    have a0 := g.a0 _ _ e
    have lo := g.l _ _ e
    have hi := g.h _ _ e
    have step := val_row g (f := f) h1 e
    have hx : r.1.toNat < xs.length := by omega
    have ex : xs[r.1.toNat]? = some xs[r.1.toNat] := List.getElem?_eq_getElem hx
    generalize xs[r.1.toNat] = x at ex
    have ef := fill_get (f := f) h.names.nd ex
    generalize fillD xs f = F at ef ⊢
    refine optD_of (x := rowD r) (atI_map rowD (atD (j := (k - 2).toNat) (by omega) e)) ⟨rfl, ?_⟩
    refine optD_of (x := .str x) (atI_map D.str (atD (j := r.1.toNat) (by omega) ex)) (optD_of ef ⟨rfl, ifD2 (fun h2 => ?_) fun h2 => ?_⟩)
    · have h2 : decide (V.int (b2 (f r.1.toNat)) = V.int 1) = true := h2
      rw [bit_one] at h2
      rw [if_pos h2] at step
      exact ⟨r.2.2.toNat, by omega, r.2.2, _, _, _, rfl, rfl, hi.1, by omega, by rw [← step]; exact hv⟩
    · have h2 : decide (V.int (b2 (f r.1.toNat)) = V.int 1) = false := h2
      rw [bit_one] at h2
      rw [if_neg (by rw [h2]; exact Bool.false_ne_true)] at step
      exact ⟨r.2.1.toNat, by omega, r.2.1, _, _, _, rfl, rfl, lo.1, by omega, by rw [← step]; exact hv⟩
  · have h1 : decide ((1 : Int) < k) = false := h1
    have h1 := of_decide_eq_false h1
    rw [← hv, val_leaf (by omega)] at q
    exact q
def pd_is_table : PD := pdn 2 fun as Q => ∃ (xs : List Str) (d : D) (n : Nat), as = [.tup (xs.map .str), d] ∧ NamesOk xs ∧ Va n d ∧ n ≤ 60 ∧ (∀ ds, d = .tup ds → ds.length < 64) ∧ Q (.bl (tabB xs.length d))
theorem ok_is_table (T : Txt K w mg) : FnOk P w K mg base CX0 5 T.is_table.f T.is_table.fd ["names", "value"] (spP K pd_is_table) := by
  refine T.is_table.F.ok sc_is_table (fun vs H Q E h => lenP h) (fun cdv A outer s H vs Q E hr h => ⟨_, (pss_cons (ps_expr (pe_call (ok_require_names T) (hr.mono (by decide)) (by rfl) T.require_names.g T.require_names.F.kp T.require_names.b .nil pass0 (pa_cons (pv 0) pa_nil))) 
      (pss_one (ps_ret (pe_call (ok_is_table_in T) (hr.mono (by decide)) (by rfl) T.is_table_in.g T.is_table_in.F.kp T.is_table_in.b .nil pass0 (pa_cons (pv 0) (pa_cons (pv 1) pa_nil)))))),
    runP ((sns_seq (sns_drop (snd_call (sna_cons (snd_var 0) sna_nil))) 
        (sns_ret (snd_call (sna_cons (snd_var 0) (sna_cons (snd_var 1) sna_nil)))))) h (fun as Qd hp => by rw [hp.1]; decide) ?_⟩)
  rintro as Qd ⟨_, xs, d, n, rfl, h, hd, hn, hl, q⟩
  refine ⟨rfl, xs, rfl, h, rfl, xs.map .str, d, n, rfl, hd, hn, hl, ?_⟩
  rw [List.length_map]
  exact q
/-! ### how many, told -/
def cntL (many : Nat) (rs : List Row) (k : Nat) : List D := (List.range k).map fun j : Nat => D.int (cnt many rs (j : Int))
theorem cntL_get {many : Nat} {rs : List Row} {k : Nat} {n : Int} (h0 : 0 ≤ n) (h1 : n < (k : Int)) : atI (cntL many rs k) n = some (.int (cnt many rs n)) := by
  refine atD (j := n.toNat) (by omega) ?_
  unfold cntL
  rw [List.getElem?_map, List.getElem?_range (by omega)]
  show some (D.int (cnt many rs (n.toNat : Int))) = _
  rw [Int.toNat_of_nonneg h0]
theorem cntL_succ {many : Nat} {rs : List Row} (k : Nat) : cntL many rs (k + 1) = cntL many rs k ++ [.int (cnt many rs (k : Int))] := by
  unfold cntL
  rw [List.range_succ, List.map_append]
  rfl
def pd_ones_in : PD := pdn 3 fun as Q => ∃ (many : Nat) (rs : List Row) (n : Int), as = [.tup (rs.map rowD), .int n, .int (2 ^ many)] ∧ Good many rs ∧ rs.length < 64 ∧ 0 ≤ n ∧ n < 2 + (rs.length : Int) ∧ Q (.int (cnt many rs n))
theorem ok_ones_in (T : Txt K w mg) : FnOk P w K mg base CX0 1 T.ones_in.f T.ones_in.fd ["table", "node", "size"] (spP K pd_ones_in) := by
  refine T.ones_in.F.ok sc_ones_in (fun vs H Q E h => lenP h) (fun cdv A outer s H vs Q E hr h => ⟨_, (pss_cons (ps_set (i := 3) sc_ones_in.nd rfl (.inl rfl) (pe_lstA (pa_cons pe_int (pa_cons (pv 2) pa_nil)))) 
      (pss_cons (ps_for PassesOwn.never rfl (pi_tup (pv 0)) (pg_tup rfl (pgs_cons (pg_name (i := 4) sc_ones_in.nd rfl (.inl rfl)) (pgs_cons (pg_name (i := 5) sc_ones_in.nd rfl (.inl rfl)) (pgs_cons (pg_name (i := 6) sc_ones_in.nd rfl (.inl rfl)) pgs_nil)))) 
        (pss_one (ps_expr (pe_bm PySem.F.plainAttrs_list PySem.F.slot_list_append PySem.F.type_list_append mt_append (pv 3) (pa_cons (pe_op op_fdiv (pe_op op_add (pe_ix ix_list (pv 3) (pv 5) (fun _ _ => rfl)) (pe_ix ix_list (pv 3) (pv 6) (fun _ _ => rfl))) pe_int) pa_nil))))) 
      (pss_one (ps_ret (pe_ix ix_list (pv 3) (pv 1) (fun _ _ => rfl)))))),
    runP ((sns_seq (sns_setN 3 (snd_lst (sna_cons snd_int (sna_cons (snd_var 2) sna_nil)))) 
        (sns_seq (sns_for (sni_tup (snd_var 0)) (sng_tup (sng_cons (sng_name 4) (sng_cons (sng_name 5) (sng_cons (sng_name 6) sng_nil)))) 
          (sns_drop (snd_meth 3 s_append (sna_cons (snd_op s_fdiv (sE (snd_op s_add (sE (snd_op s_ixL (sO 3) (sO 5))) (sE (snd_op s_ixL (sO 3) (sO 6))))) (sE snd_int)) sna_nil)))) 
        (sns_ret (snd_op s_ixL (sO 3) (sO 1)))))) h (fun as Qd hp => by rw [hp.1]; decide) ?_⟩)
  rintro as Qd ⟨_, many, rs, n, rfl, g, few, n0, n1, q⟩
  have e2 : [D.int 0, .int (2 ^ many)] = cntL many rs 2 := by
    have a : cnt many rs 0 = 0 := by rw [cnt_leaf (by decide), Int.mul_zero]
    have b : cnt many rs 1 = 2 ^ many := by rw [cnt_leaf (by decide), Int.mul_one]
    show _ = [D.int (cnt many rs ((0 : Nat) : Int)), .int (cnt many rs ((1 : Nat) : Int))]
    rw [← a, ← b]
    rfl
  refine ⟨fun i ρ => ∃ c4 c5 c6 L, ρ = [.val (.tup (rs.map rowD)), .val (.int n), .val (.int (2 ^ many)), .own (.lst L), c4, c5, c6] ∧ L = cntL many rs (2 + i), ⟨_, _, _, _, rfl, e2⟩, ?_, ?_⟩
  · rintro i d ρ hx ⟨c4, c5, c6, L, rfl, hL⟩
    rw [List.getElem?_map] at hx
    cases er : rs[i]? with
    | none => rw [er] at hx; cases hx
    | some r =>
      rw [er] at hx
      cases hx
      have lo := g.l _ _ er
      have hi := g.h _ _ er
      have hj := (List.getElem?_eq_some_iff.mp er).1
      have step := cnt_row g er
      have l1 : L.length ≤ 1000 := by rw [hL]; unfold cntL; rw [List.length_map, List.length_range]; omega
      have ea : atI L r.2.1 = some (.int (cnt many rs r.2.1)) := by rw [hL]; exact cntL_get lo.1 (by omega)
      have eb : atI L r.2.2 = some (.int (cnt many rs r.2.2)) := by rw [hL]; exact cntL_get hi.1 (by omega)
      refine ⟨rfl, optD_of ea (optD_of eb ⟨⟨by decide, by decide⟩, by omega, _, _, _, _, rfl, ?_⟩)⟩
      have ec : (cnt many rs r.2.1 + cnt many rs r.2.2) / 2 = cnt many rs ((2 + i : Nat) : Int) := by
        rw [step]
        show 2 * cnt many rs (2 + (i : Int)) / 2 = cnt many rs (((2 : Nat) : Int) + (i : Int))
        exact Int.mul_ediv_cancel_left _ (by decide)
      show L ++ [D.int ((cnt many rs r.2.1 + cnt many rs r.2.2) / 2)] = _
      rw [hL, ec, show 2 + (i + 1) = 2 + i + 1 from rfl, cntL_succ]
  · rintro ρ ⟨c4, c5, c6, L, rfl, hL⟩
    rw [List.length_map] at hL
    refine optD_of (x := .int (cnt many rs n)) ?_ q
    rw [hL]
    exact cntL_get n0 (by omega)
def pd_ones : PD := pdn 3 fun as Q => ∃ (xs : List Str) (rs : List Row) (n : Int), as = [.tup (xs.map .str), .tup (rs.map rowD), .int n] ∧ TabOk' xs rs ∧ 0 ≤ n ∧ n < 2 + (rs.length : Int) ∧ Q (.int (cnt xs.length rs n))
theorem ok_ones (T : Txt K w mg) : FnOk P w K mg base CX0 6 T.ones.f T.ones.fd ["names", "table", "node"] (spP K pd_ones) := by
  refine T.ones.F.ok sc_ones (fun vs H Q E h => lenP h) (fun cdv A outer s H vs Q E hr h => ⟨_, (pss_cons (ps_expr (pe_call (ok_require_names T) (hr.mono (by decide)) (by rfl) T.require_names.g T.require_names.F.kp T.require_names.b .nil pass0 (pa_cons (pv 0) pa_nil))) 
      (pss_cons (ps_expr (pe_call (ok_require_table T) (hr.mono (by decide)) (by rfl) T.require_table.g T.require_table.F.kp T.require_table.b .nil pass0 (pa_cons (pv 0) (pa_cons (pv 1) pa_nil)))) 
      (pss_cons (ps_expr (pe_call (ok_require_node T) (hr.mono (by decide)) (by rfl) T.require_node.g T.require_node.F.kp T.require_node.b .nil pass0 (pa_cons (pv 1) (pa_cons (pv 2) pa_nil)))) 
      (pss_one (ps_ret (pe_call (ok_ones_in T) (hr.mono (by decide)) (by rfl) T.ones_in.g T.ones_in.F.kp T.ones_in.b .nil pass0 (pa_cons (pv 1) (pa_cons (pv 2) (pa_cons (pe_op op_oneShl pe_int (pe_callB call_len_seq (by rfl) T.z_len PySem.boot_len (pa_cons (pv 0) pa_nil))) pa_nil))))))))),
    runP ((sns_seq (sns_drop (snd_call (sna_cons (snd_var 0) sna_nil))) 
        (sns_seq (sns_drop (snd_call (sna_cons (snd_var 0) (sna_cons (snd_var 1) sna_nil)))) 
        (sns_seq (sns_drop (snd_call (sna_cons (snd_var 1) (sna_cons (snd_var 2) sna_nil)))) 
        (sns_ret (snd_call (sna_cons (snd_var 1) (sna_cons (snd_var 2) (sna_cons (snd_op s_oneShl (sE snd_int) (sE (snd_cb s_len (.cons (sO 0) .nil)))) sna_nil))))))))) h (fun as Qd hp => by rw [hp.1]; decide) ?_⟩)
  rintro as Qd ⟨_, xs, rs, n, rfl, h, n0, n1, q⟩
  have g := good_tab h.names.few (by have := h.few; omega) h.tab
  have few := h.few
  have nf := h.names.few
  refine ⟨rfl, xs, rfl, h.names, rfl, xs, rs, rfl, h, rfl, rs, n, rfl, n0, n1, ?_⟩
  exact ⟨rfl, xs.length, congrArg (fun k : Nat => (k : Int)) (List.length_map _), by omega, rfl, xs.length, rs, n, rfl, g, few, n0, n1, q⟩
end
end PL
namespace PL
open PySem PySem.Spec PyProof.Rows L2 TB
section
variable {P : Program} {w : World} {K : PySem.W.Frag} {mg : Str → Option Value} {base : Heap}
theorem mul2l {i : Int} : CMul 2 i := .inl ⟨by decide, by decide⟩
theorem two_succ (i : Nat) : (2 : Int) ^ (i + 1) = 2 * 2 ^ i := by rw [Int.pow_succ, Int.mul_comm]
def pd__law_two_to : PD := pdn 1 fun as Q => ∃ n : Nat, as = [.int n] ∧ n ≤ 1000 ∧ Q (.int (2 ^ n))
theorem ok__law_two_to (T : Txt K w mg) : FnOk P w K mg base CX0 1 T._law_two_to.f T._law_two_to.fd ["_law_bits"] (spP K pd__law_two_to) := by
  refine T._law_two_to.F.ok sc__law_two_to (fun vs H Q E h => lenP h) (fun cdv A outer s H vs Q E hr h => ⟨_, (pss_cons (ps_set (i := 1) sc__law_two_to.nd rfl (.inl rfl) pe_int) 
      (pss_cons (ps_for PassesOwn.never rfl (pi_range1 (by rfl) T.z_range (pa_cons (pv 0) pa_nil)) (pg_name (i := 2) sc__law_two_to.nd rfl (.inl rfl)) 
        (pss_one (ps_set (i := 1) sc__law_two_to.nd rfl (.inl rfl) (pe_op op_mul pe_int (pv 1))))) 
      (pss_one (ps_ret (pv 1))))),
    runP ((sns_seq (sns_asg snd_int (sng_name 1)) 
        (sns_seq (sns_for (sni_rng1 (sna_cons (snd_var 0) sna_nil)) (sng_name 2) 
          (sns_asg (snd_op s_mul (sE snd_int) (sO 1)) (sng_name 1))) 
        (sns_ret (snd_var 1))))) h (fun as Qd hp => by rw [hp.1]; decide) ?_⟩)
  rintro as Qd ⟨_, n, rfl, hn, q⟩
  refine ⟨⟨by omega, by omega⟩, fun i ρ => ∃ c, ρ = [.val (.int n), .val (.int (2 ^ i)), c], ⟨_, rfl⟩, ?_, ?_⟩
  · rintro i d ρ hx ⟨c, rfl⟩
    obtain ⟨_, rfl⟩ := rngD_get hx
    refine ⟨mul2l, .val (.int (0 + (i : Int))), ?_⟩
    rw [two_succ]
    rfl
  · rintro ρ ⟨c, e⟩
    rw [rngD_len] at e
    subst e
    exact q
theorem erase_perm {α : Type} : ∀ {l : List α} {j : Nat} {d : α}, l[j]? = some d → (d :: l.eraseIdx j).Perm l
  | a :: l, 0, d, h => by cases h; exact .refl _
  | a :: l, j + 1, d, h => (List.Perm.swap a d (l.eraseIdx j)).trans ((erase_perm (l := l) h).cons a)
theorem erase_len {α : Type} {l : List α} {j : Nat} {d : α} (h : l[j]? = some d) : (l.eraseIdx j).length + 1 = l.length := (erase_perm h).length_eq
def pd__law_mixed : PI' := pdi 1 fun m as Q => m = .dice ∧ ∃ xs : List D, as = [.lst xs] ∧ xs.length ≤ 1000 ∧ (∀ x ∈ xs, CmpD 1 x) ∧ ∀ ys : List D, ys.Perm xs → Q (.lst ys) .dice
theorem ok__law_mixed (T : Txt K w mg) : FnOk P w K mg base CX0 2 T._law_mixed.f T._law_mixed.fd ["_law_dice_here", "_law_items"] (spI K pd__law_mixed) := by
  refine T._law_mixed.F.ok sc__law_mixed (fun vs H Q E h => lenI h) (fun cdv A outer s H vs Q E hr h => ⟨_, (pss_cons (ps_par (i := 2) (j := 3) rfl sc__law_mixed.nd rfl rfl (by decide) rfl rfl (pa_cons (pe_callTy call_listA (by rfl) T.z_list (by decide +kernel) (pa_cons (pv 1) pa_nil)) (pa_cons (pe_lstA pa_nil) pa_nil)) (by rfl)) 
      (pss_cons (ps_while PassesOwn.never (pt_cmpR (op_neDK (K := K) rfl hr.units) (pv 2) (pe_lstA pa_nil) (nomark _)) 
        (pss_one (ps_expr (pe_bm PySem.F.plainAttrs_list PySem.F.slot_list_append PySem.F.type_list_append mt_append (pv 3) (pa_cons (pe_bm PySem.F.plainAttrs_list PySem.F.slot_list_pop PySem.F.type_list_pop mt_popAt (pv 2) (pa_cons (pe_call (ok__law_roll T) (hr.mono (by decide)) (by rfl) T._law_roll.g T._law_roll.F.kp T._law_roll.b .nil pass0 (pa_cons (pv 0) (pa_cons (pe_callB call_len_seq (by rfl) T.z_len PySem.boot_len (pa_cons (pv 2) pa_nil)) pa_nil))) pa_nil)) pa_nil))))) 
      (pss_one (ps_ret (pv 3))))),
    runI ((sns_seq (sns_par2 2 3 (sm_n (snd_cbN s_list (.cons (sO 1) .nil)) (sm_n (snd_lst sna_nil) sm_nil))) 
        (sns_seq (sns_while (snd_test (snd_op s_neD (sO 2) (sE (snd_ne (snd_lst sna_nil))))) 
          (sns_drop (snd_meth 3 s_append (sna_cons (snd_meth 2 s_popAt (sna_cons (snd_callI 0 (sna_cons (snd_cb s_len (.cons (sO 2) .nil)) sna_nil)) sna_nil)) sna_nil)))) 
        (sns_ret (snd_varF 3))))) h (fun m as Qd hp => by rw [hp.1]; decide) ?_⟩)
  rintro ad m as Qd ⟨_, rfl, xs, rfl, hl, hc, q⟩
  refine ⟨fun m ρ => ∃ l f : List D, ρ = [.io ad .dice, .val (.lst xs), .own (.lst l), .own (.lst f)] ∧ l.length = m ∧ (f ++ l).Perm xs, ⟨xs.length, xs, [], rfl, rfl, .refl _⟩, ?_⟩
  rintro m ρ ⟨l, f, rfl, hm, hp⟩
  have pl := hp.length_eq
  rw [List.length_append] at pl
  have cl : CmpOk (.lst l) := (CmpD.lst (n := 1) fun x hx => hc x (hp.mem_iff.mp (List.mem_append_right _ hx))).ok
  refine ⟨⟨cl, nil_cmp⟩, ifD2 (fun h => ?_) fun h => ?_⟩
  · have h : (!eqD (.lst l) (.lst [])) = true := h
    rw [eqD_nil, Bool.not_eq_true'] at h
    have h := of_decide_eq_false h
    have l0 : 0 < l.length := List.length_pos_iff.mpr h
    refine ⟨rfl, rfl, l.length, rfl, by omega, by omega, fun r r0 r1 => ?_⟩
    have hr : r.toNat < l.length := by omega
    have er : l[r.toNat]? = some l[r.toNat] := List.getElem?_eq_getElem hr
    generalize l[r.toNat] = d at er
    have el := erase_len er
    have sx : seqIndex? r l.length = some r.toNat := by
      simp [seqIndex?, show ¬ r < 0 by omega, r0, r1]
    have r3 : r < 1001 := by omega
    refine ⟨⟨by omega, Int.lt_of_lt_of_le r3 (by decide)⟩, optD_of sx (optD_of er ⟨by omega, m - 1, by omega, l.eraseIdx r.toNat, f ++ [d], rfl, by omega, ?_⟩)⟩
    rw [List.append_assoc]
    exact (List.Perm.append_left f (erase_perm er)).trans hp
  · have h : (!eqD (.lst l) (.lst [])) = false := h
    rw [eqD_nil, Bool.not_eq_false'] at h
    have h := of_decide_eq_true h
    subst h
    rw [List.append_nil] at hp
    exact ⟨rfl, q f hp⟩
theorem max0 (X : Int) : 0 ≤ (if X > 0 then X else 0) := by split <;> omega
theorem max0_lt (Y : Int) {m : Int} (h : 0 < m) : (if (if Y < m - 1 then Y else m - 1) > 0 then (if Y < m - 1 then Y else m - 1) else 0) < m := by
  by_cases c : Y < m - 1
  · rw [if_pos c]; split <;> omega
  · rw [if_neg c]; split <;> omega
theorem vC_clean {c : Cell} (h : c = .no ∨ ∃ d, c = .val d) : cleanC c = .no ∨ ∃ d, cleanC c = .val d := by
  rcases h with rfl | ⟨d, rfl⟩
  · exact .inl rfl
  · show (if noLb d = true then Cell.val d else Cell.no) = .no ∨ ∃ d', (if noLb d = true then Cell.val d else Cell.no) = .val d'
    cases noLb d with
    | true => exact .inr ⟨d, rfl⟩
    | false => exact .inl rfl
theorem okAt_snoc {many : Nat} {ds : List D} {d : D} {j : Nat} (hj : j < ds.length) (h : okAt many ds j) : okAt many (ds ++ [d]) j := by
  obtain ⟨r, e, x⟩ := h
  have nd : ∀ {n : Int}, nodeOk ds j r.1 n → nodeOk (ds ++ [d]) j r.1 n := fun {n} hn => ⟨hn.1, fun h1 => by
    obtain ⟨b, eb, hb⟩ := hn.2 h1
    exact ⟨b, by rw [List.getElem?_append_left (List.getElem?_eq_some_iff.mp eb).1]; exact eb, hb⟩⟩
  exact ⟨r, by rw [List.getElem?_append_left hj]; exact e, x.a0, x.a1, x.ne, x.l0, x.h0, by rw [List.take_append_of_le_length (Nat.le_of_lt hj)]; exact x.new, nd x.l, nd x.h⟩
def pd__law_table_drawn : PI' := pdi 2 fun m as Q => m = .dice ∧ ∃ many size : Nat, as = [.int many, .int size] ∧ many ≤ 4 ∧ 1 ≤ size ∧ size ≤ 9 ∧ ∀ rs : List Row, rs.length ≤ 9 → (∀ j, j < rs.length → okAt many (rs.map rowD) j) → Q (.tup (rs.map rowD)) .dice
theorem ok__law_table_drawn (T : Txt K w mg) : FnOk P w K mg base CX0 3 T._law_table_drawn.f T._law_table_drawn.fd ["_law_dice_here", "_law_many", "_law_size"] (spI K pd__law_table_drawn) := by
  refine T._law_table_drawn.F.ok sc__law_table_drawn (fun vs H Q E h => lenI h) (fun cdv A outer s H vs Q E hr h => ⟨_, (pss_cons (ps_set (i := 3) sc__law_table_drawn.nd rfl (.inl rfl) (pe_lstA pa_nil)) 
      (pss_cons (ps_for PassesOwn.never rfl (pi_range1 (by rfl) T.z_range (pa_cons (pe_ifExp (pt_cmpR op_gt (pv 1) pe_int (nomark _)) (pv 2) pe_int) pa_nil)) (pg_name (i := 4) sc__law_table_drawn.nd rfl (.inl rfl)) 
        (pss_cons (ps_set (i := 5) sc__law_table_drawn.nd rfl (.inr rfl) (pe_op op_sub (pe_op op_sub (pv 1) pe_int) (pe_callB (call_min2 rfl) (by rfl) T.z_min (by decide +kernel) (pa_cons (pe_op op_sub (pv 1) pe_int) (pa_cons (pe_op op_sub (pe_op op_add (pe_op op_fdivW (pe_op op_mul (pv 4) (pv 1)) (pv 2)) (pe_call (ok__law_roll T) (hr.mono (by decide)) (by rfl) T._law_roll.g T._law_roll.F.kp T._law_roll.b .nil pass0 (pa_cons (pv 0) (pa_cons pe_int pa_nil)))) (pe_call (ok__law_roll T) (hr.mono (by decide)) (by rfl) T._law_roll.g T._law_roll.F.kp T._law_roll.b .nil pass0 (pa_cons (pv 0) (pa_cons pe_int pa_nil)))) pa_nil))))) 
        (pss_cons (ps_join (ps_set (i := 5) sc__law_table_drawn.nd rfl (.inr rfl) (pe_callB (call_max2 rfl) (by rfl) T.z_max (by decide +kernel) (pa_cons pe_int (pa_cons (pe_callB (call_min2 rfl) (by rfl) T.z_min (by decide +kernel) (pa_cons (pe_op op_sub (pv 1) pe_int) (pa_cons (pv 5) pa_nil))) pa_nil))))) 
        (pss_cons (ps_set (i := 7) sc__law_table_drawn.nd rfl (.inl rfl) (pe_op op_catL (pe_lstA (pa_cons pe_int (pa_cons pe_int pa_nil))) (pe_lc (own := [("_law_index", 8), ("_law_row", 6)]) (g := gTup K 2 (gCons (gName 8) (gCons (gName 6) gNil))) (by rfl) sc__law_table_drawn.nd (pi_enum (by rfl) T.z_enumerate (pa_cons (pv 3) pa_nil)) (blkOk_by (own := [("_law_index", 8), ("_law_row", 6)]) (N := ["_law_dice_here", "_law_many", "_law_size", "_law_found", "_law_turn", "_law_at", "_law_row", "_law_some", "_law_index"]) (sc := defScope s__law_table_drawn) (by decide +kernel)) (fun _ _ _ _ _ => (pg_tup rfl (pgs_cons (pg_name (i := 8) sc__law_table_drawn.nd rfl (.inl rfl)) (pgs_cons (pg_name (i := 6) sc__law_table_drawn.nd rfl (by first | exact .inl rfl | exact .inr rfl)) pgs_nil)))) (fun _ _ _ _ _ => (pts_one (pt_cmpR op_gt (pe_ix ix_tup (pv 6) pe_int (fun _ _ => rfl)) (pv 5) (nomark _)))) (fun _ _ _ _ _ => (pe_op op_add pe_int (pv 8)))))) 
        (pss_cons (ps_set (i := 6) sc__law_table_drawn.nd rfl (by first | exact .inl rfl | exact .inr rfl) (pe_tup (pa_cons (pv 5) (pa_cons (pe_call (ok__law_one_of T) (hr.mono (by decide)) (by rfl) T._law_one_of.g T._law_one_of.F.kp T._law_one_of.b .nil pass0 (pa_cons (pv 0) (pa_cons (pv 7) pa_nil))) (pa_cons (pe_call (ok__law_one_of T) (hr.mono (by decide)) (by rfl) T._law_one_of.g T._law_one_of.F.kp T._law_one_of.b .nil pass0 (pa_cons (pv 0) (pa_cons (pv 7) pa_nil))) pa_nil))))) 
        (pss_one (ps_if (PW.pt (pw_and (pt_cmpR op_ne (pe_ix ix_tup (pv 6) pe_int (fun _ _ => rfl)) (pe_ix ix_tup (pv 6) pe_int (fun _ _ => rfl)) (nomark _)) (pw_and1 (pt_cmpR (op_notInDp (hu65 hr)) (pv 6) (pv 3) rfl)))) 
          (pss_one (ps_expr (pe_bm PySem.F.plainAttrs_list PySem.F.slot_list_append PySem.F.type_list_append mt_append (pv 3) (pa_cons (pv 6) pa_nil)))) pss_nil))))))) 
      (pss_one (ps_ret (pe_callTy (call_tupleSK (K := K) rfl) (by rfl) T.z_tuple (by decide +kernel) (pa_cons (pv 3) pa_nil)))))),
    runI ((sns_seq (sns_setN 3 (snd_lst sna_nil)) 
        (sns_seq (sns_for (sni_rng1 (sna_cons (snd_if (snd_test (snd_op s_gt (sO 1) (sE snd_int))) (snd_var 2) snd_int) sna_nil)) (sng_name 4) 
          (sns_seq (sns_asg (snd_op s_sub (sE (snd_op s_sub (sO 1) (sE snd_int))) (sE (snd_cb s_min2 (.cons (sE (snd_op s_sub (sO 1) (sE snd_int))) (.cons (sE (snd_op s_sub (sE (snd_op s_add (sE (snd_op s_fdivW (sE (snd_op s_mul (sO 4) (sO 1))) (sO 2))) (sE (snd_callI 0 (sna_cons snd_int sna_nil))))) (sE (snd_callI 0 (sna_cons snd_int sna_nil))))) .nil))))) (sng_name 5)) 
          (sns_seq (sns_join (sns_asg (snd_cb s_max2 (.cons (sE snd_int) (.cons (sE (snd_cb s_min2 (.cons (sE (snd_op s_sub (sO 1) (sE snd_int))) (.cons (sO 5) .nil)))) .nil))) (sng_name 5))) 
          (sns_seq (sns_asg (snd_ne (snd_opN s_catL (sE (snd_ne (snd_lst (sna_cons snd_int (sna_cons snd_int sna_nil))))) (sE (snd_ne (snd_thawN 3 (snd_lc (sni_enum (sna_cons (snd_varF 3) sna_nil)) (sgi_tup (sgi_cons (sgi_name (i := 8) (by decide)) (sgi_cons (sgi_name (i := 6) (by decide)) sgi_nil))) (snd_test (snd_op s_gt (sE (snd_op s_ixT (sO 6) (sE snd_int))) (sO 5))) (snd_op s_add (sE snd_int) (sO 8)))))))) (sng_name 7)) 
          (sns_seq (sns_asg (snd_tup (sna_cons (snd_var 5) (sna_cons (snd_callI 0 (sna_cons (snd_var 7) sna_nil)) (sna_cons (snd_callI 0 (sna_cons (snd_var 7) sna_nil)) sna_nil)))) (sng_name 6)) 
          (sns_if (snd_and (snd_test (snd_op s_ne (sE (snd_op s_ixT (sO 6) (sE snd_int))) (sE (snd_op s_ixT (sO 6) (sE snd_int))))) (snd_test (snd_op (s_inDp true) (sO 6) (sO 3)))) 
            (sns_drop (snd_meth 3 s_append (sna_cons (snd_var 6) sna_nil))) sns_next)))))) 
        (sns_ret (snd_cb s_tuple (.cons (sO 3) .nil)))))) h (fun m as Qd hp => by rw [hp.1]; decide) ?_⟩)
  rintro ad m as Qd ⟨_, rfl, many, size, rfl, hm, s1, s2, q⟩
  have vC_ok : ∀ {c : Cell}, (c = .no ∨ ∃ d, c = .val d) → okC c = true := fun {c} h => by
    rcases h with rfl | ⟨d, rfl⟩ <;> rfl
  refine ifD2 (fun h => ?_) fun h => ?_
  · have h : decide ((0 : Int) < (many : Int)) = true := h
    have h := of_decide_eq_true h
    refine ⟨⟨by omega, by omega⟩, fun i ρ => ∃ (rs : List Row) (L : List D) (c4 c5 c6 c7 c8 : Cell), ρ = [.io ad .dice, .val (.int many), .val (.int size), .own (.lst L), c4, c5, c6, c7, c8] ∧ L = rs.map rowD ∧ rs.length ≤ i ∧ (∀ j, j < rs.length → okAt many (rs.map rowD) j) ∧
      (c4 = .no ∨ ∃ d, c4 = .val d) ∧ (c5 = .no ∨ ∃ d, c5 = .val d) ∧ (c6 = .no ∨ ∃ d, c6 = .val d) ∧ (c7 = .no ∨ ∃ d, c7 = .val d) ∧ (c8 = .no ∨ ∃ d, c8 = .val d), ⟨[], [], _, _, _, _, _, rfl, rfl, Nat.le_refl _, fun j hj => absurd hj (Nat.not_lt_zero _), .inl rfl, .inl rfl, .inl rfl, .inl rfl, .inl rfl⟩, ?_, ?_⟩
    · rintro i d ρ hx ⟨rs, L, c4, c5, c6, c7, c8, rfl, hL, hi, ok, h4, h5, h6, h7, h8⟩
      obtain ⟨hn, rfl⟩ := rngD_get hx
      have hn : i < size := hn
      have w1 : CMul (0 + (i : Int)) (many : Int) := .inl ⟨by omega, by omega⟩
      have w2 : CDivW ((0 + (i : Int)) * (many : Int)) (size : Int) := wide_div (b := 8) (by omega) (by rw [Int.natAbs_natCast]; exact Nat.lt_of_le_of_lt s2 (by decide)) (by decide) (by decide)
      refine ⟨w1, w2, rfl, rfl, 2, rfl, by decide, by decide, fun r _ _ => ⟨rfl, rfl, 2, rfl, by decide, by decide, fun r' _ _ => ?_⟩⟩
      refine ⟨fun ρ => ∃ (a : Int) (c4 c5 : Cell), ρ = [.io ad .dice, .val (.int many), .val (.int size), .own (.lst L), c4, .val (.int a), c6, c7, c8] ∧ (c4 = .no ∨ ∃ d, c4 = .val d) ∧ 0 ≤ a ∧ a < (many : Int), ⟨_, _, .no, rfl, .inr ⟨_, rfl⟩, ?_, ?_⟩, ?_⟩
      · exact max0 _
      · exact max0_lt _ h
      rintro ρ ⟨a, c4', _, rfl, h4', a0, a1⟩
      clear h4 h5 w1 w2
      have nL : noLs L = true := by
        rw [hL, noLs_all]
        intro d hd
        obtain ⟨r, _, rfl⟩ := List.mem_map.mp hd
        rfl
      have lL : L.length = rs.length := by rw [hL, List.length_map]
      have fr : freeC [.io ad .dice, .val (.int many), .val (.int size), .val (.lst L), c4', .val (.int a), c6, c7, c8] [8, 6] := by
        rcases h6 with rfl | ⟨z, rfl⟩ <;> rcases h8 with rfl | ⟨z2, rfl⟩ <;> exact ⟨trivial, trivial, trivial⟩
      refine ⟨nL, by rw [enD_len]; omega, fun k ρ acc => ρ = [.io ad .dice, .val (.int many), .val (.int size), .val (.lst L), c4', .val (.int a), c6, c7, c8] ∧ acc.length ≤ k ∧ ∀ x ∈ acc, ∃ (n : Nat) (b : Row), x = D.int (2 + (n : Int)) ∧ rs[n]? = some b ∧ a < b.1, ⟨rfl, Nat.le_refl _, fun x hx => by cases hx⟩, ?_, ?_⟩
      · rintro k x ρ acc hx ⟨rfl, hk, ha⟩
        obtain ⟨d, ed, ex⟩ := enD_get hx
        rw [Nat.zero_add] at ex
        subst ex
        obtain ⟨b, eb, rfl⟩ : ∃ b, rs[k]? = some b ∧ d = rowD b := by
          rw [hL, List.getElem?_map] at ed
          cases eb : rs[k]? with
          | none => rw [eb] at ed; cases ed
          | some b => rw [eb] at ed; cases ed; exact ⟨b, rfl, rfl⟩
        refine ⟨fr, rfl, ifD2 (fun g => ?_) fun g => ?_⟩
        · have g : decide (a < b.1) = true := g
          have g := of_decide_eq_true g
          refine ⟨rfl, by rw [List.length_append]; show acc.length + 1 ≤ k + 1; omega, fun x hx => ?_⟩
          · rcases List.mem_append.mp hx with hx | hx
            · exact ha x hx
            · rw [List.mem_singleton.mp hx]
              exact ⟨k, b, rfl, eb, g⟩
        · exact ⟨rfl, by omega, ha⟩
      · rintro ρ acc ⟨rfl, hk, ha⟩
        rw [enD_len] at hk
        have eok : List.all [.io ad .dice, .val (.int many), .val (.int size), .val (.lst L), c4', .val (.int a), c6, c7, c8] okC = true := by
          show (true && (true && (true && (true && (okC c4' && (true && (okC c6 && (okC c7 && (okC c8 && true))))))))) = true
          rw [vC_ok h4', vC_ok h6, vC_ok h7, vC_ok h8]
          rfl
        have eno : noLs acc = true := by
          rw [noLs_all]
          intro x hx
          obtain ⟨n, b, rfl, _⟩ := ha x hx
          rfl
        have opts : ∀ x ∈ [D.int 0, .int 1] ++ acc, ∃ n : Int, x = .int n ∧ 0 ≤ n ∧ nodeOk L rs.length a n := fun x hx => by
          rcases List.mem_append.mp hx with hx | hx
          · simp only [List.mem_cons, List.not_mem_nil, or_false] at hx
            rcases hx with rfl | rfl
            · exact ⟨0, rfl, by decide, by omega, fun z => absurd z (by decide)⟩
            · exact ⟨1, rfl, by decide, by omega, fun z => absurd z (by decide)⟩
          · obtain ⟨n, b, rfl, eb, hb⟩ := ha x hx
            have hn2 := (List.getElem?_eq_some_iff.mp eb).1
            refine ⟨_, rfl, by omega, by omega, fun _ => ⟨b, ?_, hb⟩⟩
            rw [show (2 + (n : Int) - 2).toNat = n by omega, hL]
            exact map_at.mpr eb
        refine ⟨⟨rfl, eok, eno⟩, by show 2 + acc.length ≤ 1000000; omega, ?_⟩
        have l0 : 0 < ([D.int 0, .int 1] ++ acc).length := by rw [List.length_append]; show 0 < 2 + _; omega
        have l1 : ([D.int 0, .int 1] ++ acc).length ≤ 100000 := by rw [List.length_append]; show 2 + _ ≤ _; omega
        generalize [D.int 0, .int 1] ++ acc = os at opts l0 l1
        refine ⟨rfl, rfl, os, rfl, l0, l1, fun x hx => ?_⟩
        obtain ⟨l, rfl, hl0, hl⟩ := opts x hx
        refine ⟨rfl, rfl, os, rfl, l0, l1, fun y hy => ?_⟩
        obtain ⟨g, rfl, hg0, hg⟩ := opts y hy
        refine ⟨rfl, ifD2 (fun ne => ?_) fun ne => ?_⟩
        · have ne : (!decide (V.int l = V.int g)) = true := ne
          rw [eqi, Bool.not_eq_true'] at ne
          have ne := of_decide_eq_false ne
          have cr : CmpOk (rowD (a, l, g)) := (CmpD.tup (n := 0) (fun x hx => by
            simp only [List.mem_cons, List.not_mem_nil, or_false] at hx
            rcases hx with rfl | rfl | rfl <;> exact .int _)).ok
          have cL : CmpOk (.lst L) := (CmpD.lst (n := 1) fun x hx => by
            rw [hL] at hx
            exact (rows_pv x hx).cmp).ok
          refine ⟨⟨cr, cL⟩, ifD2 (fun nw => ?_) fun nw => ?_⟩
          · have nw : (!L.any fun z => eqD z (rowD (a, l, g))) = true := nw
            rw [Bool.not_eq_true', List.any_eq_false] at nw
            refine ⟨by omega, rs ++ [(a, l, g)], L ++ [rowD (a, l, g)], _, _, _, _, _, rfl, by rw [hL, List.map_append]; rfl, by rw [List.length_append]; show rs.length + 1 ≤ i + 1; omega, fun j hj => ?_, vC_clean h4', .inr ⟨_, rfl⟩, .inr ⟨_, rfl⟩, .inr ⟨_, rfl⟩, vC_clean h8⟩
            rw [List.length_append] at hj
            have hj : j < rs.length + 1 := hj
            rw [List.map_append]
            rcases Nat.lt_succ_iff_lt_or_eq.mp hj with h | rfl
            · exact okAt_snoc (by rw [List.length_map]; exact h) (ok j h)
            · have nd : ∀ {n : Int}, nodeOk L rs.length a n → nodeOk (rs.map rowD ++ [rowD (a, l, g)]) rs.length a n := fun {n} hn => ⟨hn.1, fun h1 => by
                obtain ⟨b, eb, hb⟩ := hn.2 h1
                rw [hL] at eb
                exact ⟨b, by rw [List.getElem?_append_left (List.getElem?_eq_some_iff.mp eb).1]; exact eb, hb⟩⟩
              refine ⟨(a, l, g), ?_, a0, a1, ne, hl0, hg0, ?_, nd hl, nd hg⟩
              · show (rs.map rowD ++ [rowD (a, l, g)])[rs.length]? = _
                rw [List.getElem?_append_right (by rw [List.length_map]; exact Nat.le_refl _), List.length_map, Nat.sub_self]
                rfl
              · show rowD (a, l, g) ∉ (rs.map rowD ++ [rowD (a, l, g)]).take rs.length
                rw [List.take_append_of_le_length (by rw [List.length_map]; exact Nat.le_refl _), List.take_of_length_le (by rw [List.length_map]; exact Nat.le_refl _), ← hL]
                exact fun hx => nw _ hx (by rw [eqD_row]; exact decide_eq_true rfl)
          · exact ⟨rs, L, _, _, _, _, _, rfl, hL, by omega, ok, vC_clean h4', .inr ⟨_, rfl⟩, .inr ⟨_, rfl⟩, .inr ⟨_, rfl⟩, vC_clean h8⟩
        · exact ⟨rs, L, _, _, _, _, _, rfl, hL, by omega, ok, vC_clean h4', .inr ⟨_, rfl⟩, .inr ⟨_, rfl⟩, .inr ⟨_, rfl⟩, vC_clean h8⟩
    · rintro ρ ⟨rs, L, c4, c5, c6, c7, c8, rfl, hL, hi, ok, _⟩
      subst hL
      rw [rngD_len] at hi
      have hi : rs.length ≤ size := hi
      exact ⟨rfl, q rs (by omega) ok⟩
  · refine ⟨⟨by decide, by decide⟩, fun i ρ => ∃ c4, ρ = [.io ad .dice, .val (.int many), .val (.int size), .own (.lst []), c4, .no, .no, .no, .no], ⟨_, rfl⟩, ?_, ?_⟩
    · rintro i d ρ hx ⟨c4, rfl⟩
      cases hx
    · rintro ρ ⟨c4, rfl⟩
      exact ⟨rfl, q [] (by decide) fun j hj => absurd hj (Nat.not_lt_zero _)⟩
end
end PL
namespace PL
open PySem PySem.Spec PyProof.Rows L2 TB
section
variable {P : Program} {w : World} {K : PySem.W.Frag} {mg : Str → Option Value} {base : Heap}
/-- a value to be judged -/
def Vj (d : D) : Prop := Va 3 d ∧ ∀ ds, d = .tup ds → ds.length < 64
theorem vj_tup {ds : List D} (h : APv 2 ds) (hl : ds.length < 64) : Vj (.tup ds) := ⟨.inl (APv.tup h (by omega)), fun es e => by cases e; exact hl⟩
theorem vj_pv {d : D} (h : Pv 3 d) (n : ∀ ds, d ≠ .tup ds) : Vj d := ⟨.inl h, fun ds e => absurd e (n ds)⟩
def pd__law_near : PI' := pdi 1 fun m as Q => m = .dice ∧ ∃ rs : List Row, as = [.tup (rs.map rowD)] ∧ rs.length ≤ 9 ∧ ∀ vs : List D, (∀ v ∈ vs, Vj v) → vs.length ≤ 100 → Q (.lst vs) .dice
theorem ok__law_near (T : Txt K w mg) : FnOk P w K mg base CX0 2 T._law_near.f T._law_near.fd ["_law_dice_here", "_law_table"] (spI K pd__law_near) := by
  refine T._law_near.F.ok sc__law_near (fun vs H Q E h => lenI h) (fun cdv A outer s H vs Q E hr h => ⟨_, (pss_cons (ps_set (i := 2) sc__law_near.nd rfl (.inl rfl) (pe_lstA (pa_cons (pv 1) (pa_cons (pe_callTy call_listA (by rfl) T.z_list (by decide +kernel) (pa_cons (pv 1) pa_nil)) (pa_cons (pe_revT (pv 1)) (pa_cons (pe_slice (sl_tupleSK (K := K) rfl) (pv 1) (po_some pe_int) po_none) (pa_cons (pe_op (op_catSK (K := K) rfl) (pv 1) (pe_tup (pa_cons (pe_tup (pa_cons pe_int (pa_cons pe_int (pa_cons pe_int pa_nil)))) pa_nil))) (pa_cons pe_non (pa_cons (pe_tup pa_nil) (pa_cons pe_int (pa_cons pe_dnewK (pa_cons pe_str (pa_cons (pe_tup (pa_cons (pe_tup (pa_cons pe_int (pa_cons pe_int (pa_cons pe_int pa_nil)))) pa_nil)) pa_nil))))))))))))) 
      (pss_cons (ps_set (i := 2) sc__law_near.nd rfl (.inl rfl) (pe_op op_catL (pv 2) (pe_lstA (pa_cons (pe_op (op_catSK (K := K) rfl) (pv 1) (pe_tup (pa_cons (pe_tup (pa_cons pe_int (pa_cons pe_int (pa_cons pe_int pa_nil)))) pa_nil))) (pa_cons (pe_tup (pa_cons (pe_tup (pa_cons pe_int (pa_cons pe_int (pa_cons pe_int pa_nil)))) (pa_cons (pe_tup (pa_cons pe_int (pa_cons pe_int (pa_cons pe_int pa_nil)))) pa_nil))) (pa_cons (pe_tup (pa_cons (pe_tup (pa_cons pe_int (pa_cons pe_int (pa_cons pe_int pa_nil)))) pa_nil)) (pa_cons (pe_tup (pa_cons pe_non pa_nil)) (pa_cons (pe_tup (pa_cons (pe_tup (pa_cons pe_int (pa_cons pe_int pa_nil))) pa_nil)) pa_nil)))))))) 
      (pss_cons (ps_join (ps_expr (pe_bm PySem.F.plainAttrs_list PySem.F.slot_list_append PySem.F.type_list_append mt_append (pv 2) (pa_cons (pe_op (op_catSK (K := K) rfl) (pv 1) (pe_slice (sl_tupleSK (K := K) rfl) (pv 1) po_none (po_some pe_int))) pa_nil)))) 
      (pss_cons (ps_if (pt_cmpR (op_neDK (K := K) rfl hr.units) (pv 1) (pe_tup pa_nil) (nomark _)) 
        (pss_cons (ps_set (i := 3) sc__law_near.nd rfl (.inl rfl) (pe_call (ok__law_roll T) (hr.mono (by decide)) (by rfl) T._law_roll.g T._law_roll.F.kp T._law_roll.b .nil pass0 (pa_cons (pv 0) (pa_cons (pe_callB call_len_seq (by rfl) T.z_len PySem.boot_len (pa_cons (pv 1) pa_nil)) pa_nil)))) 
        (pss_cons (ps_par (i := 4) (j := 5) rfl sc__law_near.nd rfl rfl (by decide) rfl rfl (pa_cons (pe_call (ok__law_roll T) (hr.mono (by decide)) (by rfl) T._law_roll.g T._law_roll.F.kp T._law_roll.b .nil pass0 (pa_cons (pv 0) (pa_cons pe_int pa_nil))) (pa_cons (pe_callTy call_listA (by rfl) T.z_list (by decide +kernel) (pa_cons (pe_ix ix_tup (pv 1) (pv 3) (fun _ _ => rfl)) pa_nil)) pa_nil)) (by rfl)) 
        (pss_cons (ps_for PassesOwn.never rfl (pi_tup (pe_tup (pa_cons (pe_op op_add (pe_ix ix_list (pv 5) (pv 4) (fun _ _ => rfl)) pe_int) (pa_cons (pe_op op_sub (pe_ix ix_list (pv 5) (pv 4) (fun _ _ => rfl)) pe_int) (pa_cons pe_bl (pa_cons pe_non (pa_cons pe_str (pa_cons (pe_op op_pow pe_int pe_int) (pa_cons (pe_un un_neg pe_int) (pa_cons (pe_op op_sub pe_int (pe_ix ix_list (pv 5) (pv 4) (fun _ _ => rfl))) pa_nil)))))))))) (pg_name (i := 6) sc__law_near.nd rfl (.inl rfl)) 
          (pss_cons (ps_set (i := 7) sc__law_near.nd rfl (.inl rfl) (pe_callTy (call_tupleSK (K := K) rfl) (by rfl) T.z_tuple (by decide +kernel) (pa_cons (pe_op op_catL (pe_op op_catL (pe_slice sl_listA (pv 5) po_none (po_some (pv 4))) (pe_lstA (pa_cons (pv 6) pa_nil))) (pe_slice sl_listA (pv 5) (po_some (pe_op op_add (pv 4) pe_int)) po_none)) pa_nil))) 
          (pss_one (ps_expr (pe_bm PySem.F.plainAttrs_list PySem.F.slot_list_append PySem.F.type_list_append mt_append (pv 2) (pa_cons (pe_op (op_catSK (K := K) rfl) (pe_op (op_catSK (K := K) rfl) (pe_slice (sl_tupleSK (K := K) rfl) (pv 1) po_none (po_some (pv 3))) (pe_tup (pa_cons (pv 7) pa_nil))) (pe_slice (sl_tupleSK (K := K) rfl) (pv 1) (po_some (pe_op op_add (pv 3) pe_int)) po_none)) pa_nil)))))) 
        (pss_cons (ps_expr (pe_bm PySem.F.plainAttrs_list PySem.F.slot_list_append PySem.F.type_list_append mt_append (pv 2) (pa_cons (pe_op (op_catSK (K := K) rfl) (pe_op (op_catSK (K := K) rfl) (pe_slice (sl_tupleSK (K := K) rfl) (pv 1) po_none (po_some (pv 3))) (pe_tup (pa_cons (pe_callTy call_listA (by rfl) T.z_list (by decide +kernel) (pa_cons (pe_ix ix_tup (pv 1) (pv 3) (fun _ _ => rfl)) pa_nil)) pa_nil))) (pe_slice (sl_tupleSK (K := K) rfl) (pv 1) (po_some (pe_op op_add (pv 3) pe_int)) po_none)) pa_nil))) 
        (pss_one (ps_expr (pe_bm PySem.F.plainAttrs_list PySem.F.slot_list_append PySem.F.type_list_append mt_append (pv 2) (pa_cons (pe_op (op_catSK (K := K) rfl) (pe_op (op_catSK (K := K) rfl) (pe_slice (sl_tupleSK (K := K) rfl) (pv 1) po_none (po_some (pv 3))) (pe_tup (pa_cons (pe_op (op_catSK (K := K) rfl) (pe_ix ix_tup (pv 1) (pv 3) (fun _ _ => rfl)) (pe_tup (pa_cons pe_int pa_nil))) pa_nil))) (pe_slice (sl_tupleSK (K := K) rfl) (pv 1) (po_some (pe_op op_add (pv 3) pe_int)) po_none)) pa_nil)))))))) pss_nil) 
      (pss_one (ps_ret (pv 2))))))),
    runI ((sns_seq (sns_setN 2 (snd_lst (sna_cons (snd_var 1) (sna_cons (snd_ne (snd_cbN s_list (.cons (sO 1) .nil))) (sna_cons (snd_revT (sO 1)) (sna_cons (snd_sl s_slT (sO 1) (snp_some snd_int) snp_none) (sna_cons (snd_op s_catT (sO 1) (sE (snd_tup (sna_cons (snd_tup (sna_cons snd_int (sna_cons snd_int (sna_cons snd_int sna_nil)))) sna_nil)))) (sna_cons snd_non (sna_cons (snd_tup sna_nil) (sna_cons snd_int (sna_cons (snd_ne snd_dnewK) (sna_cons snd_str (sna_cons (snd_tup (sna_cons (snd_tup (sna_cons snd_int (sna_cons snd_int (sna_cons snd_int sna_nil)))) sna_nil)) sna_nil))))))))))))) 
        (sns_seq (sns_setN 2 (snd_opN s_catL (sO 2) (sE (snd_ne (snd_lst (sna_cons (snd_op s_catT (sO 1) (sE (snd_tup (sna_cons (snd_tup (sna_cons snd_int (sna_cons snd_int (sna_cons snd_int sna_nil)))) sna_nil)))) (sna_cons (snd_tup (sna_cons (snd_tup (sna_cons snd_int (sna_cons snd_int (sna_cons snd_int sna_nil)))) (sna_cons (snd_tup (sna_cons snd_int (sna_cons snd_int (sna_cons snd_int sna_nil)))) sna_nil))) (sna_cons (snd_tup (sna_cons (snd_tup (sna_cons snd_int (sna_cons snd_int (sna_cons snd_int sna_nil)))) sna_nil)) (sna_cons (snd_tup (sna_cons snd_non sna_nil)) (sna_cons (snd_tup (sna_cons (snd_tup (sna_cons snd_int (sna_cons snd_int sna_nil))) sna_nil)) sna_nil)))))))))) 
        (sns_seq (sns_join (sns_drop (snd_meth 2 s_append (sna_cons (snd_op s_catT (sO 1) (sE (snd_sl s_slT (sO 1) snp_none (snp_some snd_int)))) sna_nil)))) 
        (sns_seq (sns_if (snd_test (snd_op s_neD (sO 1) (sE (snd_tup sna_nil)))) 
          (sns_seq (sns_asg (snd_callI 0 (sna_cons (snd_cb s_len (.cons (sO 1) .nil)) sna_nil)) (sng_name 3)) 
          (sns_seq (sns_par2 4 5 (sm_e (snd_callI 0 (sna_cons snd_int sna_nil)) (sm_e (snd_ne (snd_cbN s_list (.cons (sE (snd_op s_ixT (sO 1) (sO 3))) .nil))) sm_nil))) 
          (sns_seq (sns_for (sni_tup (snd_tup (sna_cons (snd_op s_add (sE (snd_op s_ixL (sO 5) (sO 4))) (sE snd_int)) (sna_cons (snd_op s_sub (sE (snd_op s_ixL (sO 5) (sO 4))) (sE snd_int)) (sna_cons snd_bl (sna_cons snd_non (sna_cons snd_str (sna_cons (snd_op s_pow (sE snd_int) (sE snd_int)) (sna_cons (snd_un s_neg (sE snd_int)) (sna_cons (snd_op s_sub (sE snd_int) (sE (snd_op s_ixL (sO 5) (sO 4)))) sna_nil)))))))))) (sng_name 6) 
            (sns_seq (sns_asg (snd_cb s_tuple (.cons (sE (snd_ne (snd_opN s_catL (sE (snd_ne (snd_opN s_catL (sE (snd_ne (snd_slN s_slL (sO 5) snp_none (snp_some (snd_var 4))))) (sE (snd_ne (snd_lst (sna_cons (snd_var 6) sna_nil))))))) (sE (snd_ne (snd_slN s_slL (sO 5) (snp_some (snd_op s_add (sO 4) (sE snd_int))) snp_none)))))) .nil)) (sng_name 7)) 
            (sns_drop (snd_meth 2 s_append (sna_cons (snd_op s_catT (sE (snd_op s_catT (sE (snd_sl s_slT (sO 1) snp_none (snp_some (snd_var 3)))) (sE (snd_tup (sna_cons (snd_var 7) sna_nil))))) (sE (snd_sl s_slT (sO 1) (snp_some (snd_op s_add (sO 3) (sE snd_int))) snp_none))) sna_nil))))) 
          (sns_seq (sns_drop (snd_meth 2 s_append (sna_cons (snd_op s_catT (sE (snd_op s_catT (sE (snd_sl s_slT (sO 1) snp_none (snp_some (snd_var 3)))) (sE (snd_tup (sna_cons (snd_ne (snd_cbN s_list (.cons (sE (snd_op s_ixT (sO 1) (sO 3))) .nil))) sna_nil))))) (sE (snd_sl s_slT (sO 1) (snp_some (snd_op s_add (sO 3) (sE snd_int))) snp_none))) sna_nil))) 
          (sns_drop (snd_meth 2 s_append (sna_cons (snd_op s_catT (sE (snd_op s_catT (sE (snd_sl s_slT (sO 1) snp_none (snp_some (snd_var 3)))) (sE (snd_tup (sna_cons (snd_op s_catT (sE (snd_op s_ixT (sO 1) (sO 3))) (sE (snd_tup (sna_cons snd_int sna_nil)))) sna_nil))))) (sE (snd_sl s_slT (sO 1) (snp_some (snd_op s_add (sO 3) (sE snd_int))) snp_none))) sna_nil))))))) sns_next) 
        (sns_ret (snd_varF 2))))))) h (fun m as Qd hp => by rw [hp.1]; decide) ?_⟩)
  rintro ad m as Qd ⟨_, rfl, rs, rfl, hl, q⟩
  have hT : APv 2 (rs.map rowD) := rows_pv.up
  have lT : (rs.map rowD).length ≤ 9 := by rw [List.length_map]; exact hl
  have hR : ∀ d ∈ rs.map rowD, ∃ r : Row, d = rowD r := fun d hd => by
    obtain ⟨r, _, e⟩ := List.mem_map.mp hd
    exact ⟨r, e.symm⟩
  generalize rs.map rowD = ts at hT lT hR ⊢
  have r3 : ∀ a b c : Int, Pv 2 (.tup [.int a, .int b, .int c]) := fun a b c => APv.tup (.cons (.int _) (.cons (.int _) (.cons (.int _) .nil))) (by show 3 ≤ 20000; decide)
  have one : ∀ d : D, Pv 2 d → Vj (.tup (ts ++ [d])) := fun d hd => vj_tup (hT.app (.cons hd .nil)) (by rw [List.length_append]; show _ + 1 < 64; omega)
  have cT : ∀ lo hi, Vj (.tup (cutD ts lo hi)) := fun lo hi => vj_tup hT.cut (by have := cut_le ts lo hi; omega)
  refine ⟨by show _ + 1 ≤ 1000000; omega, by show _ + 1 ≤ 1000000; omega, by show 11 + 5 ≤ 1000000; decide, fun ρ => ∃ F : List D, ρ = [.io ad .dice, .val (.tup ts), .own (.lst F), .no, .no, .no, .no, .no] ∧ (∀ v ∈ F, Vj v) ∧ F.length ≤ 20, ?_, ?_⟩
  · refine ⟨by have := cut_le ts none (some 1); omega, by show 11 + 5 ≤ 1000000; decide, _, rfl, ?_, by show 11 + 5 + 1 ≤ 20; decide⟩
    intro v hv
    simp only [List.cons_append, List.nil_append, List.mem_cons, List.not_mem_nil, or_false] at hv
    rcases hv with rfl | rfl | rfl | rfl | rfl | rfl | rfl | rfl | rfl | rfl | rfl | rfl | rfl | rfl | rfl | rfl | rfl
    · exact vj_tup hT (by omega)
    · exact vj_pv (APv.lst hT) fun ds e => by cases e
    · exact vj_tup (fun x hx => hT x (List.mem_reverse.mp hx)) (by rw [List.length_reverse]; omega)
    · exact cT _ _
    · exact one _ (r3 _ _ _)
    · exact vj_pv .non fun ds e => by cases e
    · exact vj_tup .nil (by decide)
    · exact vj_pv (.int _) fun ds e => by cases e
    · exact ⟨.inr rfl, fun ds e => by cases e⟩
    · exact vj_pv (.s "table") fun ds e => by cases e
    · exact vj_tup (.cons (r3 _ _ _) .nil) (by decide)
    · exact one _ (r3 _ _ _)
    · exact vj_tup (.cons (r3 _ _ _) (.cons (r3 _ _ _) .nil)) (by decide)
    · exact vj_tup (.cons (r3 _ _ _) .nil) (by decide)
    · exact vj_tup (.cons .non .nil) (by decide)
    · exact vj_tup (.cons (APv.tup (.cons (.int _) (.cons (.int _) .nil)) (by decide)) .nil) (by decide)
    · exact vj_tup (hT.app hT.cut) (by have := cut_le ts none (some 1); rw [List.length_append]; omega)
  rintro ρ ⟨F, rfl, hF, lF⟩
  have cT2 : CmpOk (.tup ts) := (APv.tup hT (by omega)).cmp.ok
  have cN : CmpOk (.tup []) := (CmpD.tup (n := 0) (fun x hx => by cases hx)).ok
  refine ⟨⟨cT2, cN⟩, ifD2 (fun h => ?_) fun h => ?_⟩
  · have l0 : 0 < ts.length := by
      cases ts with
      | nil => cases h
      | cons x r => exact Nat.succ_pos _
    refine ⟨rfl, rfl, ts.length, rfl, by omega, by omega, fun r r0 r1 => ?_⟩
    have hr : r.toNat < ts.length := by omega
    have er : ts[r.toNat]? = some ts[r.toNat] := List.getElem?_eq_getElem hr
    obtain ⟨⟨a, l, b⟩, erw⟩ := hR _ (List.mem_of_getElem? er)
    rw [erw] at er
    refine ⟨rfl, rfl, 3, rfl, by decide, by decide, fun p p0 p1 => ?_⟩
    have eat : atI ts r = some (rowD (a, l, b)) := atD (j := r.toNat) (by omega) er
    obtain ⟨x, ex⟩ : ∃ x : Int, atI [D.int a, .int l, .int b] p = some (.int x) := by
      have : p = 0 ∨ p = 1 ∨ p = 2 := by omega
      rcases this with rfl | rfl | rfl
      · exact ⟨a, atD (j := 0) rfl rfl⟩
      · exact ⟨l, atD (j := 1) rfl rfl⟩
      · exact ⟨b, atD (j := 2) rfl rfl⟩
    have hv : ∀ v ∈ [D.int (x + 1), .int (x - 1), .bl true, .non, .str "1", .int (10 ^ (40 : Int).toNat), .int (-1), .int (1 - x)], Pv 1 v := fun v hv => by
      simp only [List.mem_cons, List.not_mem_nil, or_false] at hv
      rcases hv with rfl | rfl | rfl | rfl | rfl | rfl | rfl | rfl
      · exact .int _
      · exact .int _
      · exact .bl _
      · exact .non
      · exact .s "1"
      · exact .int _
      · exact .int _
      · exact .int _
    have t1 := cut_le ts none (some r)
    have t2 := cut_le ts (some (r + 1)) none
    have put : ∀ d : D, Pv 2 d → Vj (.tup (cutD ts none (some r) ++ [d] ++ cutD ts (some (r + 1)) none)) := fun d hd => vj_tup ((hT.cut.app (.cons hd .nil)).app hT.cut) (by rw [List.length_append, List.length_append]; show _ + 1 + _ < 64; omega)
    have snoc : ∀ {G : List D} {d : D}, (∀ v ∈ G, Vj v) → Vj d → ∀ v ∈ G ++ [d], Vj v := fun {G d} hG hd v hv => (List.mem_append.mp hv).elim (hG v) fun z => by rw [List.mem_singleton.mp z]; exact hd
    have h3 : APv 1 [D.int a, .int l, .int b] := .cons (.int _) (.cons (.int _) (.cons (.int _) .nil))
    refine optD_of eat (optD_of ex (optD_of ex ⟨⟨by decide, by decide, by decide⟩, optD_of ex ⟨fun k ρ => ∃ (G : List D) (c6 c7 : Cell), ρ = [.io ad .dice, .val (.tup ts), .own (.lst G), .val (.int r), .val (.int p), .val (.lst [.int a, .int l, .int b]), c6, c7] ∧ (∀ v ∈ G, Vj v) ∧ G.length ≤ 20 + k, ⟨F, _, _, rfl, hF, lF⟩, ?_, ?_⟩⟩))
    · rintro k v ρ hx ⟨G, c6, c7, rfl, hG, lG⟩
      have hpv := hv v (List.mem_of_getElem? hx)
      have hk : k < 8 := (List.getElem?_eq_some_iff.mp hx).1
      have q1 := cut_le [D.int a, .int l, .int b] none (some p)
      have q2 := cut_le [D.int a, .int l, .int b] (some (p + 1)) none
      have q3 : [D.int a, .int l, .int b].length = 3 := rfl
      have bent : Pv 2 (.tup (cutD [D.int a, .int l, .int b] none (some p) ++ [v] ++ cutD [D.int a, .int l, .int b] (some (p + 1)) none)) := APv.tup ((h3.cut.app (.cons hpv .nil)).app h3.cut) (by rw [List.length_append, List.length_append]; show _ + 1 + _ ≤ 20000; omega)
      refine ⟨by show _ + 1 ≤ 1000000; omega, by rw [List.length_append]; show _ + 1 + _ ≤ 1000000; omega, by show _ + 1 ≤ 1000000; omega, by rw [List.length_append]; show _ + 1 + _ ≤ 1000000; omega, by omega, _, _, _, rfl, snoc hG (put _ bent), by rw [List.length_append]; show _ + 1 ≤ _; omega⟩
    · rintro ρ ⟨G, c6, c7, rfl, hG, lG⟩
      have lG : G.length ≤ 28 := lG
      have p4 : Pv 2 (.tup ([D.int a, .int l, .int b] ++ [.int 0])) := APv.tup (h3.app (.cons (.int _) .nil)) (by show 4 ≤ 20000; decide)
      have h4 := snoc hG (put _ (APv.lst h3))
      exact optD_of eat ⟨by show _ + 1 ≤ 1000000; omega, by rw [List.length_append]; show _ + 1 + _ ≤ 1000000; omega, by omega, optD_of eat ⟨by show 3 + 1 ≤ 1000000; decide, by show _ + 1 ≤ 1000000; omega, by rw [List.length_append]; show _ + 1 + _ ≤ 1000000; omega, by rw [List.length_append]; show _ + 1 ≤ 1000000; omega, rfl, q _ (snoc h4 (put _ p4)) (by rw [List.length_append, List.length_append]; show _ + 1 + 1 ≤ _; omega)⟩⟩
  · exact ⟨rfl, q F hF (by omega)⟩
end
end PL
namespace PL
open PySem PySem.Spec PyProof.Rows L2 TB
section
variable {P : Program} {w : World} {K : PySem.W.Frag} {mg : Str → Option Value} {base : Heap}
/-! ### fillings made -/
theorem enD_zip {α : Type} (g : α → D) : ∀ (k : Nat) (xs : List α), enD k (xs.map g) = (xs.zipIdx k).map fun p => .tup [.int (p.2 : Int), g p.1]
  | _, [] => rfl
  | k, x :: r => by
    show D.tup [.int (k : Int), g x] :: enD (k + 1) (r.map g) = _
    rw [enD_zip g (k + 1) r]
    rfl
theorem zip_lt' {α : Type} : ∀ {k : Nat} {xs : List α} {p : α × Nat}, p ∈ xs.zipIdx k → p.2 < k + xs.length
  | _, [], _, h => by cases h
  | k, x :: r, p, h => by
    rcases List.mem_cons.mp h with rfl | h
    · show k < k + (r.length + 1); omega
    · have := zip_lt' h
      show p.2 < k + (r.length + 1)
      omega
theorem zip_lt {α : Type} {xs : List α} {p : α × Nat} (h : p ∈ xs.zipIdx) : p.2 < xs.length := by have := zip_lt' h; omega
def fillP (N : Nat) (p : Str × Nat) : D := .tup [.str p.1, .int ((0 + (N : Int)) / 2 ^ p.2 % 2)]
theorem bit_of (N a : Nat) : ((0 + (N : Int)) / 2 ^ a % 2 : Int) = b2 (bits N a) := by
  have e : ((0 + (N : Int)) / 2 ^ a % 2 : Int) = ((N / 2 ^ a % 2 : Nat) : Int) := by
    rw [Int.zero_add, Int.natCast_emod, Int.natCast_ediv, Int.natCast_pow]
    rfl
  rw [e]
  unfold bits b2
  rw [Nat.testBit_eq_decide_div_mod_eq]
  have h : N / 2 ^ a % 2 < 2 := Nat.mod_lt _ (by decide)
  by_cases c : N / 2 ^ a % 2 = 1
  · rw [decide_eq_true c, if_pos rfl, c]
    rfl
  · rw [decide_eq_false c, if_neg Bool.false_ne_true]
    have : N / 2 ^ a % 2 = 0 := by omega
    rw [this]
    rfl
theorem pairs_fill (N : Nat) : ∀ (k : Nat) (xs : List Str), pairsD ((xs.zipIdx k).map (fillP N)) = some (fillE k xs (bits N))
  | _, [] => rfl
  | k, x :: r => by
    show (match pairD (fillP N (x, k)), pairsD ((r.zipIdx (k + 1)).map (fillP N)) with
      | some p, some l => some (p :: l)
      | _, _ => none) = _
    rw [pairs_fill N (k + 1) r]
    show some ((Sum.inr x, D.int ((0 + (N : Int)) / 2 ^ k % 2)) :: fillE (k + 1) r (bits N)) = some ((Sum.inr x, D.int (b2 (bits N k))) :: fillE (k + 1) r (bits N))
    rw [bit_of]
theorem look_no {es : List (Key × D)} {k : Key} : k ∉ es.map (·.1) → lookD es k = none := by
  induction es with
  | nil => exact fun _ => rfl
  | cons p r ih =>
    intro h
    obtain ⟨j, d⟩ := p
    rw [List.map_cons, List.mem_cons, not_or] at h
    show (if j = k then some d else lookD r k) = none
    rw [if_neg (fun z => h.1 z.symm), ih h.2]
theorem fillE_keys (f : Nat → Bool) : ∀ (k : Nat) (xs : List Str), (fillE k xs f).map (·.1) = xs.map Sum.inr
  | _, [] => rfl
  | k, x :: r => by
    show _ :: (fillE (k + 1) r f).map (·.1) = _
    rw [fillE_keys f (k + 1) r]
    rfl
theorem merge_new : ∀ {ms es : List (Key × D)}, (ms.map (·.1)).Nodup → (∀ k ∈ ms.map (·.1), k ∉ es.map (·.1)) → mergeD es ms = es ++ ms
  | [], es, _, _ => (List.append_nil es).symm
  | (k, d) :: r, es, hn, hk => by
    have hn : k ∉ r.map (·.1) ∧ (r.map (·.1)).Nodup := List.nodup_cons.mp hn
    show mergeD (putD es k d) r = _
    have e : putD es k d = es ++ [(k, d)] := by
      unfold putD hasD
      rw [look_no (hk k List.mem_cons_self)]
      rfl
    rw [e, merge_new hn.2, List.append_assoc]
    · rfl
    · intro j hj hx
      rw [List.map_append] at hx
      rcases List.mem_append.mp hx with hx | hx
      · exact hk j (List.mem_cons_of_mem _ hj) hx
      · have : j = k := List.mem_singleton.mp hx
        rw [this] at hj
        exact hn.1 hj
theorem fill_made {xs : List Str} (hn : xs.Nodup) (N : Nat) : D.dct (mergeD [] (fillE 0 xs (bits N))) = fillD xs (bits N) := by
  rw [merge_new]
  · rfl
  · rw [fillE_keys]
    exact List.Pairwise.map _ (fun a b h z => h (Sum.inr.inj z)) hn
  · intro k _ h
    cases h
/-! ### names drawn -/
def unS : D → Str
  | .str x => x
  | _ => ""
theorem names_perm {L : List Str} {ys : List D} (h : ys.Perm (L.map D.str)) : ∃ zs : List Str, ys = zs.map D.str ∧ zs.Perm L := by
  refine ⟨ys.map unS, ?_, ?_⟩
  · rw [List.map_map]
    refine ((List.map_congr_left fun d hd => ?_).trans (List.map_id ys)).symm
    obtain ⟨x, _, rfl⟩ := List.mem_map.mp (h.mem_iff.mp hd)
    rfl
  · have := h.map unS
    rw [List.map_map] at this
    exact this.trans (List.Perm.of_eq (List.map_id L))
def four : List Str := ["a", "b.0", "c_1", "d"]
theorem four_ok : (∀ x ∈ four, nameB x = true) ∧ four.Nodup := by decide +kernel
theorem names_ok {zs : List Str} (h : zs.Perm four) (m : Nat) : NamesOk (zs.take m) :=
  ⟨fun x hx => four_ok.1 x (h.mem_iff.mp (List.mem_of_mem_take hx)), (h.nodup_iff.mpr four_ok.2).sublist (List.take_sublist _ _), by have := h.length_eq; have : zs.length = 4 := this; rw [List.length_take]; omega⟩
theorem same_bl (a : Bool) : (!decide (V.bl a = V.bl a)) = false := by rw [decide_eq_true rfl]; rfl
theorem same_int (a : Int) : (!decide (V.int a = V.int a)) = false := by rw [decide_eq_true rfl]; rfl
def pd__law_right : PI' := pdi 0 fun m as Q => m = .dice ∧ as = [] ∧ Q (.bl true) .dice
theorem ok__law_right (T : Txt K w mg) : FnOk P w K mg base CX0 7 T._law_right.f T._law_right.fd ["_law_dice_here"] (spI K pd__law_right) := by
  refine T._law_right.F.ok sc__law_right (fun vs H Q E h => lenI h) (fun cdv A outer s H vs Q E hr h => ⟨_, (pss_cons (ps_set (i := 1) sc__law_right.nd rfl (.inl rfl) (pe_call (ok__law_roll T) (hr.mono (by decide)) (by rfl) T._law_roll.g T._law_roll.F.kp T._law_roll.b .nil pass0 (pa_cons (pv 0) (pa_cons pe_int pa_nil)))) 
      (pss_cons (ps_join (ps_set (i := 2) sc__law_right.nd rfl (.inl rfl) (pe_callTy (call_tupleSK (K := K) rfl) (by rfl) T.z_tuple (by decide +kernel) (pa_cons (pe_slice sl_listA (pe_call (ok__law_mixed T) (hr.mono (by decide)) (by rfl) T._law_mixed.g T._law_mixed.F.kp T._law_mixed.b .nil pass0 (pa_cons (pv 0) (pa_cons (pe_lstA (pa_cons pe_str (pa_cons pe_str (pa_cons pe_str (pa_cons pe_str pa_nil))))) pa_nil))) po_none (po_some (pv 1))) pa_nil)))) 
      (pss_cons (ps_set (i := 3) sc__law_right.nd rfl (.inl rfl) (pe_call (ok__law_table_drawn T) (hr.mono (by decide)) (by rfl) T._law_table_drawn.g T._law_table_drawn.F.kp T._law_table_drawn.b .nil pass0 (pa_cons (pv 0) (pa_cons (pv 1) (pa_cons (pe_op op_add pe_int (pe_call (ok__law_roll T) (hr.mono (by decide)) (by rfl) T._law_roll.g T._law_roll.F.kp T._law_roll.b .nil pass0 (pa_cons (pv 0) (pa_cons pe_int pa_nil)))) pa_nil))))) 
      (pss_cons (ps_if (pt_not (pt_val (pe_call (ok__law_is_table T) (hr.mono (by decide)) (by rfl) T._law_is_table.g T._law_is_table.F.kp T._law_is_table.b .nil pass0 (pa_cons (pv 2) (pa_cons (pv 3) pa_nil))))) 
        (pss_one (ps_ret pe_bl)) pss_nil) 
      (pss_cons (ps_for PassesOwn.never rfl (pi_list (pe_call (ok__law_near T) (hr.mono (by decide)) (by rfl) T._law_near.g T._law_near.F.kp T._law_near.b .nil pass0 (pa_cons (pv 0) (pa_cons (pv 3) pa_nil)))) (pg_name (i := 4) sc__law_right.nd rfl (.inl rfl)) 
        (pss_one (ps_if (pt_cmpR op_ne (pe_call (ok_is_table T) (hr.mono (by decide)) (by rfl) T.is_table.g T.is_table.F.kp T.is_table.b .nil pass0 (pa_cons (pv 2) (pa_cons (pv 4) pa_nil))) (pe_call (ok__law_is_table T) (hr.mono (by decide)) (by rfl) T._law_is_table.g T._law_is_table.F.kp T._law_is_table.b .nil pass0 (pa_cons (pv 2) (pa_cons (pv 4) pa_nil))) (nomark _)) 
          (pss_one (ps_ret pe_bl)) pss_nil))) 
      (pss_cons (ps_par (i := 5) (j := 6) rfl sc__law_right.nd rfl rfl (by decide) rfl rfl (pa_cons (pe_call (ok__law_roll T) (hr.mono (by decide)) (by rfl) T._law_roll.g T._law_roll.F.kp T._law_roll.b .nil pass0 (pa_cons (pv 0) (pa_cons (pe_op op_add (pe_callB call_len_seq (by rfl) T.z_len PySem.boot_len (pa_cons (pv 3) pa_nil)) pe_int) pa_nil))) (pa_cons pe_int pa_nil)) (by rfl)) 
      (pss_cons (ps_for PassesOwn.never rfl (pi_range1 (by rfl) T.z_range (pa_cons (pe_call (ok__law_two_to T) (hr.mono (by decide)) (by rfl) T._law_two_to.g T._law_two_to.F.kp T._law_two_to.b .nil pass0 (pa_cons (pv 1) pa_nil)) pa_nil)) (pg_name (i := 7) sc__law_right.nd rfl (.inr rfl)) 
        (pss_cons (ps_join (ps_set (i := 8) sc__law_right.nd rfl (.inl rfl) (pe_callTy (call_dictP rfl) (by rfl) T.z_dict (by decide +kernel) (pa_cons (pe_lc (own := [("_law_at", 10), ("_law_name", 11)]) (g := gTup K 2 (gCons (gName 10) (gCons (gName 11) gNil))) (by rfl) sc__law_right.nd (pi_enumT (by rfl) T.z_enumerate (pa_cons (pv 2) pa_nil)) (blkOk_by (own := [("_law_at", 10), ("_law_name", 11)]) (N := ["_law_dice_here", "_law_many", "_law_names", "_law_table", "_law_value_here", "_law_node", "_law_total", "_law_number", "_law_filling", "_law_told", "_law_at", "_law_name"]) (sc := defScope s__law_right) (by decide +kernel)) (fun _ _ _ _ _ => (pg_tup rfl (pgs_cons (pg_name (i := 10) sc__law_right.nd rfl (.inl rfl)) (pgs_cons (pg_name (i := 11) sc__law_right.nd rfl (.inl rfl)) pgs_nil)))) (fun _ _ _ _ _ => pts_nil) (fun _ _ _ _ _ => (pe_tup (pa_cons (pv 11) (pa_cons (pe_op op_mod (pe_op op_fdivW (pv 7) (pe_call (ok__law_two_to T) (hr.mono (by decide)) (by rfl) T._law_two_to.g T._law_two_to.F.kp T._law_two_to.b .nil pass0 (pa_cons (pv 10) pa_nil))) pe_int) pa_nil))))) pa_nil)))) 
        (pss_cons (ps_set (i := 9) sc__law_right.nd rfl (.inl rfl) (pe_call (ok_table_value T) (hr.mono (by decide)) (by rfl) T.table_value.g T.table_value.F.kp T.table_value.b .nil pass0 (pa_cons (pv 2) (pa_cons (pv 3) (pa_cons (pv 5) (pa_cons (pv 8) pa_nil)))))) 
        (pss_cons (ps_if (pt_cmpR op_ne (pv 9) (pe_call (ok__law_value T) (hr.mono (by decide)) (by rfl) T._law_value.g T._law_value.F.kp T._law_value.b .nil pass0 (pa_cons (pv 2) (pa_cons (pv 3) (pa_cons (pv 5) (pa_cons (pv 8) pa_nil))))) (nomark _)) 
          (pss_one (ps_ret pe_bl)) pss_nil) 
        (pss_one (ps_set (i := 6) sc__law_right.nd rfl (.inl rfl) (pe_op op_add (pv 6) (pv 9)))))))) 
      (pss_one (ps_ret (pe_cmpR op_eq (pe_call (ok_ones T) (hr.mono (by decide)) (by rfl) T.ones.g T.ones.F.kp T.ones.b .nil pass0 (pa_cons (pv 2) (pa_cons (pv 3) (pa_cons (pv 5) pa_nil)))) (pv 6) (nomark _))))))))))),
    runI ((sns_seq (sns_asg (snd_callI 0 (sna_cons snd_int sna_nil)) (sng_name 1)) 
        (sns_seq (sns_join (sns_asg (snd_cb s_tuple (.cons (sE (snd_ne (snd_slN s_slL (sE (snd_callI 0 (sna_cons (snd_ne (snd_lst (sna_cons snd_str (sna_cons snd_str (sna_cons snd_str (sna_cons snd_str sna_nil)))))) sna_nil))) snp_none (snp_some (snd_var 1))))) .nil)) (sng_name 2))) 
        (sns_seq (sns_asg (snd_callI 0 (sna_cons (snd_var 1) (sna_cons (snd_op s_add (sE snd_int) (sE (snd_callI 0 (sna_cons snd_int sna_nil)))) sna_nil))) (sng_name 3)) 
        (sns_seq (sns_if (snd_not (snd_b (snd_call (sna_cons (snd_var 2) (sna_cons (snd_var 3) sna_nil))))) 
          (sns_ret snd_bl) sns_next) 
        (sns_seq (sns_for (sni_list (snd_callI 0 (sna_cons (snd_var 3) sna_nil))) (sng_name 4) 
          (sns_if (snd_test (snd_op s_ne (sE (snd_call (sna_cons (snd_var 2) (sna_cons (snd_var 4) sna_nil)))) (sE (snd_call (sna_cons (snd_var 2) (sna_cons (snd_var 4) sna_nil)))))) 
            (sns_ret snd_bl) sns_next)) 
        (sns_seq (sns_par2 5 6 (sm_e (snd_callI 0 (sna_cons (snd_op s_add (sE (snd_cb s_len (.cons (sO 3) .nil))) (sE snd_int)) sna_nil)) (sm_e snd_int sm_nil))) 
        (sns_seq (sns_for (sni_rng1 (sna_cons (snd_call (sna_cons (snd_var 1) sna_nil)) sna_nil)) (sng_name 7) 
          (sns_seq (sns_join (sns_asg (snd_ne (snd_cbN s_dictP (.cons (sE (snd_ne (snd_lc (sni_enumT (sna_cons (snd_var 2) sna_nil)) (sgi_tup (sgi_cons (sgi_name (i := 10) (by decide)) (sgi_cons (sgi_name (i := 11) (by decide)) sgi_nil))) snd_yes (snd_tup (sna_cons (snd_var 11) (sna_cons (snd_op s_mod (sE (snd_op s_fdivW (sO 7) (sE (snd_call (sna_cons (snd_var 10) sna_nil))))) (sE snd_int)) sna_nil)))))) .nil))) (sng_name 8))) 
          (sns_seq (sns_asg (snd_call (sna_cons (snd_var 2) (sna_cons (snd_var 3) (sna_cons (snd_var 5) (sna_cons (snd_var 8) sna_nil))))) (sng_name 9)) 
          (sns_seq (sns_if (snd_test (snd_op s_ne (sO 9) (sE (snd_call (sna_cons (snd_var 2) (sna_cons (snd_var 3) (sna_cons (snd_var 5) (sna_cons (snd_var 8) sna_nil)))))))) 
            (sns_ret snd_bl) sns_next) 
          (sns_asg (snd_op s_add (sO 6) (sO 9)) (sng_name 6)))))) 
        (sns_ret (snd_op s_eq (sE (snd_call (sna_cons (snd_var 2) (sna_cons (snd_var 3) (sna_cons (snd_var 5) sna_nil))))) (sO 6))))))))))) h (fun m as Qd hp => by rw [hp.1]; decide) ?_⟩)
  rintro ad m as Qd ⟨_, rfl, rfl, q⟩
  refine ⟨rfl, rfl, 5, rfl, by decide, by decide, fun r r0 r1 => ?_⟩
  obtain ⟨mm, rfl⟩ : ∃ n : Nat, r = (n : Int) := ⟨r.toNat, by omega⟩
  refine ⟨fun ρ => ∃ xs : List Str, ρ = [.io ad .dice, .val (.int mm), .val (.tup (xs.map .str)), .no, .no, .no, .no, .no, .no, .no, .no, .no] ∧ NamesOk xs ∧ xs.length = mm, ?_, ?_⟩
  · refine ⟨rfl, rfl, four.map .str, rfl, by decide, fun x hx => ?_, fun ys hys => ?_⟩
    · obtain ⟨y, hy, rfl⟩ := List.mem_map.mp hx
      exact (pv_name (n := 1) (four_ok.1 y hy)).cmp
    obtain ⟨zs, rfl, hz⟩ := names_perm hys
    have zl : zs.length = 4 := hz.length_eq
    refine ⟨zs.take mm, ?_, names_ok hz mm, by rw [List.length_take]; omega⟩
    have e : cutD (zs.map D.str) none (some (mm : Int)) = (zs.take mm).map D.str := by
      rw [cut_to (by rw [List.length_map]; omega), List.map_take]
    rw [← e]
    rfl
  rintro ρ ⟨xs, rfl, hx, hl⟩
  refine ⟨rfl, rfl, 9, rfl, by decide, by decide, fun t t0 t1 => ?_⟩
  obtain ⟨sz, rfl⟩ : ∃ n : Nat, t = (n : Int) := ⟨t.toNat, by omega⟩
  refine ⟨rfl, rfl, mm, 1 + sz, rfl, by omega, by omega, by omega, fun rs hrs ok => ?_⟩
  have tb : tabB xs.length (.tup (rs.map rowD)) = true := (tab_iff hx.few (by rw [List.length_map]; omega)).mpr (by rw [List.length_map, hl]; exact ok)
  have few : rs.length < 64 := by omega
  have TT : TabOk' xs rs := ⟨hx, tb, few⟩
  have vT := tab_va few
  have ll : (xs.map D.str).length = xs.length := List.length_map _
  refine ⟨rfl, xs.map .str, .tup (rs.map rowD), 2, rfl, by rw [ll]; exact hx.few, vT.1, by decide, vT.2, ?_⟩
  rw [ll, tb]
  refine ⟨rfl, rfl, rs, rfl, hrs, fun vs hvs lvs => ?_⟩
  refine ⟨fun i ρ => ∃ c4, ρ = [.io ad .dice, .val (.int mm), .val (.tup (xs.map .str)), .val (.tup (rs.map rowD)), c4, .no, .no, .no, .no, .no, .no, .no], ⟨_, rfl⟩, ?_, ?_⟩
  · rintro i v ρ hv ⟨c4, rfl⟩
    have hj := hvs v (List.mem_of_getElem? hv)
    refine ⟨rfl, xs, v, 3, rfl, hx, hj.1, by decide, hj.2, rfl, xs.map .str, v, 3, rfl, by rw [ll]; exact hx.few, hj.1, by decide, hj.2, ?_⟩
    rw [ll]
    exact ⟨rfl, ifD_f (same_bl _) ⟨_, rfl⟩⟩
  rintro ρ ⟨c4, rfl⟩
  have lr : (rs.map rowD).length = rs.length := List.length_map _
  refine ⟨rfl, rfl, ((rs.map rowD).length : Int) + 2, rfl, by omega, by omega, fun n n0 n1 => ?_⟩
  rw [lr] at n1
  have p16 : (2 : Int) ^ mm ≤ 2 ^ 4 := by
    have : (2 : Nat) ^ mm ≤ 2 ^ 4 := Nat.pow_le_pow_right (by decide) (by omega)
    exact_mod_cast this
  have p0 : (0 : Int) ≤ 2 ^ mm := Int.pow_nonneg (by decide)
  refine ⟨rfl, mm, rfl, by omega, ⟨by omega, by omega⟩, fun i ρ => ∃ c7 c8 c9, ρ = [.io ad .dice, .val (.int mm), .val (.tup (xs.map .str)), .val (.tup (rs.map rowD)), c4, .val (.int n), .val (.int ((List.range i).map fun j => val rs (bits j) n).sum), c7, c8, c9, .no, .no], ⟨_, _, _, rfl⟩, ?_, ?_⟩
  · rintro i d ρ hi ⟨c7, c8, c9, rfl⟩
    obtain ⟨_, rfl⟩ := rngD_get hi
    refine ⟨fun ρ => ρ = [.io ad .dice, .val (.int mm), .val (.tup (xs.map .str)), .val (.tup (rs.map rowD)), c4, .val (.int n), .val (.int ((List.range i).map fun j => val rs (bits j) n).sum), .val (.int (0 + (i : Int))), .val (fillD xs (bits i)), c9, .no, .no], ?_, ?_⟩
    · have lx : (enD 0 (xs.map D.str)).length ≤ 1000000 := by rw [enD_len, ll]; have := hx.few; omega
      refine ⟨lx, lcP_y (tD := fun p : Str × Nat => D.tup [.int (p.2 : Int), .str p.1]) (xs := xs.zipIdx) (enD_zip D.str 0 xs) (fillP i) (fun p hp Y hY => ⟨⟨trivial, trivial, trivial⟩, rfl, rfl, p.2, rfl, ?_, ?_, by show (0 : Int) < 2; decide, hY⟩) (optD_of (pairs_fill i 0 xs) ?_)⟩
      · have := zip_lt hp
        have := hx.few
        omega
      · have h1 := zip_lt hp
        have h2 := hx.few
        have e : ((2 : Int) ^ p.2) = ((2 ^ p.2 : Nat) : Int) := by rw [Int.natCast_pow]; rfl
        rw [e]
        refine wide_div (b := 20) ?_ ?_ (by decide) (by decide)
        · have : 0 < 2 ^ p.2 := Nat.pow_pos (by decide)
          exact_mod_cast this
        · rw [Int.natAbs_natCast]
          exact Nat.pow_lt_pow_right (by decide) (by omega)
      · show [Cell.io ad M.dice, .val (.int mm), .val (.tup (xs.map .str)), .val (.tup (rs.map rowD)), c4, .val (.int n), .val (.int ((List.range i).map fun j => val rs (bits j) n).sum), .val (.int (0 + (i : Int))), .val (.dct (mergeD [] (fillE 0 xs (bits i)))), c9, .no, .no] = _
        rw [fill_made hx.nd i]
    rintro ρ rfl
    refine ⟨rfl, xs, rs, n, bits i, rfl, TT, n0, by omega, rfl, xs, rs, n, bits i, rfl, TT, n0, by omega, rfl, ifD_f (same_int _) ⟨.val (.int (0 + (i : Int))), .val (fillD xs (bits i)), .val (.int (val rs (bits i) n)), ?_⟩⟩
    have es : ((List.range (i + 1)).map fun j => val rs (bits j) n).sum = ((List.range i).map fun j => val rs (bits j) n).sum + val rs (bits i) n := by
      rw [List.range_succ, List.map_append, List.sum_append]
      show _ + (val rs (bits i) n + 0) = _
      rw [Int.add_zero]
    rw [es]
    rfl
  · rintro ρ ⟨c7, c8, c9, rfl⟩
    refine ⟨rfl, xs, rs, n, rfl, TT, n0, by omega, rfl, ?_⟩
    have e : ((List.range (rngD 0 ((2 : Int) ^ mm).toNat).length).map fun j => val rs (bits j) n).sum = cnt xs.length rs n := by
      have e2 : ((2 : Int) ^ mm).toNat = 2 ^ mm := by
        have : ((2 : Int) ^ mm) = ((2 ^ mm : Nat) : Int) := by rw [Int.natCast_pow]; rfl
        rw [this, Int.toNat_natCast]
      rw [rngD_len, e2, hl]
      exact tot_sum mm fun f => val rs f n
    rw [e]
    have q' : Qd (.bl (decide (V.int (cnt xs.length rs n) = V.int (cnt xs.length rs n)))) .dice := by rw [decide_eq_true rfl]; exact q
    exact ⟨rfl, q'⟩
/-! ### the law -/
def rw9 : List Row := [(1, 0, 1), (0, 0, 2), (0, 2, 1)]
theorem ab_ok : NamesOk ["a", "b"] := ⟨by decide +kernel, by decide +kernel, by decide⟩
theorem a_ok : NamesOk ["a"] := ⟨by decide +kernel, by decide +kernel, by decide⟩
theorem e_ok : NamesOk [] := ⟨by decide, by decide, by decide⟩
theorem rw9_yes : tabB 2 (.tup (rw9.map rowD)) = true := by decide +kernel
theorem rw9_no1 : tabB 1 (.tup (rw9.map rowD)) = false := by decide +kernel
theorem rw9_no2 : tabB 2 (.tup ((rw9.drop 1).map rowD)) = false := by decide +kernel
theorem rw0_yes : tabB 0 (.tup []) = true := by decide +kernel
theorem rw0_no : tabB 0 (.tup ([((0 : Int), (0 : Int), (1 : Int))].map rowD)) = false := by decide +kernel
theorem cnt9 : cnt 2 rw9 4 = 3 := by decide +kernel
def pd_law : PD := pdn 1 fun as Q => ∃ ns : List Int, as = [.arr (ns.map .int)] ∧ ns.length ≤ 63 ∧ Q (.bl true)
theorem ok_lawD (T : Txt K w mg) : FnOk P w K mg base CX0 8 T.law.f T.law.fd ["_law_script"] (spP K pd_law) := by
  refine T.law.F.ok sc_law (fun vs H Q E h => lenP h) (fun cdv A outer s H vs Q E hr h => ⟨_, (pss_cons (ps_for PassesOwn.never rfl (pi_range1 (by rfl) T.z_range (pa_cons (pe_callB (call_max2 rfl) (by rfl) T.z_max (by decide +kernel) (pa_cons pe_int (pa_cons (pe_callB (call_min2 rfl) (by rfl) T.z_min (by decide +kernel) (pa_cons pe_int (pa_cons (pe_callB call_len_seq (by rfl) T.z_len PySem.boot_len (pa_cons (pv 0) pa_nil)) pa_nil))) pa_nil))) pa_nil)) (pg_name (i := 1) sc_law.nd rfl (.inl rfl)) 
        (pss_cons (ps_set (i := 2) sc_law.nd rfl (.inl rfl) (pe_call (ok__law_dice T) (hr.mono (by decide)) (by rfl) T._law_dice.g T._law_dice.F.kp T._law_dice.b .nil pass0 (pa_cons (pv 0) (pa_cons (pv 1) pa_nil)))) 
        (pss_one (ps_if (PW.pt (pw_or (pt_not (pt_val (pe_call (ok__law_right T) (hr.mono (by decide)) (by rfl) T._law_right.g T._law_right.F.kp T._law_right.b .nil pass0 (pa_cons (pv 2) pa_nil)))) (pw_or1 (pt_not (pt_val (pe_call (ok__law_right T) (hr.mono (by decide)) (by rfl) T._law_right.g T._law_right.F.kp T._law_right.b .nil pass0 (pa_cons (pv 2) pa_nil))))))) 
          (pss_one (ps_ret pe_bl)) pss_nil)))) 
      (pss_cons (ps_set (i := 3) sc_law.nd rfl (.inl rfl) (pe_tup (pa_cons (pe_tup (pa_cons pe_int (pa_cons pe_int (pa_cons pe_int pa_nil)))) (pa_cons (pe_tup (pa_cons pe_int (pa_cons pe_int (pa_cons pe_int pa_nil)))) (pa_cons (pe_tup (pa_cons pe_int (pa_cons pe_int (pa_cons pe_int pa_nil)))) pa_nil))))) 
      (pss_cons (ps_if (PW.pt (pw_or (pt_not (pt_val (pe_call (ok_is_table T) (hr.mono (by decide)) (by rfl) T.is_table.g T.is_table.F.kp T.is_table.b .nil pass0 (pa_cons (pe_tup (pa_cons pe_str (pa_cons pe_str pa_nil))) (pa_cons (pv 3) pa_nil))))) (pw_or (pt_val (pe_call (ok_is_table T) (hr.mono (by decide)) (by rfl) T.is_table.g T.is_table.F.kp T.is_table.b .nil pass0 (pa_cons (pe_tup (pa_cons pe_str pa_nil)) (pa_cons (pv 3) pa_nil)))) (pw_or1 (pt_val (pe_call (ok_is_table T) (hr.mono (by decide)) (by rfl) T.is_table.g T.is_table.F.kp T.is_table.b .nil pass0 (pa_cons (pe_tup (pa_cons pe_str (pa_cons pe_str pa_nil))) (pa_cons (pe_slice (sl_tupleSK (K := K) rfl) (pv 3) (po_some pe_int) po_none) pa_nil)))))))) 
        (pss_one (ps_ret pe_bl)) pss_nil) 
      (pss_one (ps_ret (pe_and (pe_call (ok_is_table T) (hr.mono (by decide)) (by rfl) T.is_table.g T.is_table.F.kp T.is_table.b .nil pass0 (pa_cons (pe_tup pa_nil) (pa_cons (pe_tup pa_nil) pa_nil))) (pe_and (pe_not (pe_call (ok_is_table T) (hr.mono (by decide)) (by rfl) T.is_table.g T.is_table.F.kp T.is_table.b .nil pass0 (pa_cons (pe_tup pa_nil) (pa_cons (pe_tup (pa_cons (pe_tup (pa_cons pe_int (pa_cons pe_int (pa_cons pe_int pa_nil)))) pa_nil)) pa_nil)))) (pe_one (pe_cmpR op_eq (pe_call (ok_ones T) (hr.mono (by decide)) (by rfl) T.ones.g T.ones.F.kp T.ones.b .nil pass0 (pa_cons (pe_tup (pa_cons pe_str (pa_cons pe_str pa_nil))) (pa_cons (pv 3) (pa_cons pe_int pa_nil)))) pe_int (nomark _)))))))))),
    runP ((sns_seq (sns_for (sni_rng1 (sna_cons (snd_cb s_max2 (.cons (sE snd_int) (.cons (sE (snd_cb s_min2 (.cons (sE snd_int) (.cons (sE (snd_cb s_len (.cons (sO 0) .nil))) .nil)))) .nil))) sna_nil)) (sng_name 1) 
          (sns_seq (sns_setN 2 (snd_callN (sna_cons (snd_var 0) (sna_cons (snd_var 1) sna_nil)))) 
          (sns_if (snd_or (snd_not (snd_b (snd_callI 2 sna_nil))) (snd_not (snd_b (snd_callI 2 sna_nil)))) 
            (sns_ret snd_bl) sns_next))) 
        (sns_seq (sns_asg (snd_tup (sna_cons (snd_tup (sna_cons snd_int (sna_cons snd_int (sna_cons snd_int sna_nil)))) (sna_cons (snd_tup (sna_cons snd_int (sna_cons snd_int (sna_cons snd_int sna_nil)))) (sna_cons (snd_tup (sna_cons snd_int (sna_cons snd_int (sna_cons snd_int sna_nil)))) sna_nil)))) (sng_name 3)) 
        (sns_seq (sns_if (snd_or (snd_not (snd_b (snd_call (sna_cons (snd_tup (sna_cons snd_str (sna_cons snd_str sna_nil))) (sna_cons (snd_var 3) sna_nil))))) (snd_or (snd_b (snd_call (sna_cons (snd_tup (sna_cons snd_str sna_nil)) (sna_cons (snd_var 3) sna_nil)))) (snd_b (snd_call (sna_cons (snd_tup (sna_cons snd_str (sna_cons snd_str sna_nil))) (sna_cons (snd_sl s_slT (sO 3) (snp_some snd_int) snp_none) sna_nil)))))) 
          (sns_ret snd_bl) sns_next) 
        (sns_ret (snd_andV (snd_call (sna_cons (snd_tup sna_nil) (sna_cons (snd_tup sna_nil) sna_nil))) (snd_andV (snd_notV (snd_call (sna_cons (snd_tup sna_nil) (sna_cons (snd_tup (sna_cons (snd_tup (sna_cons snd_int (sna_cons snd_int (sna_cons snd_int sna_nil)))) sna_nil)) sna_nil)))) (snd_op s_eq (sE (snd_call (sna_cons (snd_tup (sna_cons snd_str (sna_cons snd_str sna_nil))) (sna_cons (snd_var 3) (sna_cons snd_int sna_nil))))) (sE snd_int))))))))) h (fun as Qd hp => by rw [hp.1]; decide) ?_⟩)
  rintro as Qd ⟨_, ns, rfl, hn, q⟩
  refine ⟨⟨by split <;> split <;> omega, by split <;> split <;> omega⟩, fun i ρ => ∃ c1 c2 c3, ρ = [.val (.arr (ns.map .int)), c1, c2, c3], ⟨_, _, _, rfl⟩, ?_, ?_⟩
  · rintro i d ρ hx ⟨c1, c2, c3, rfl⟩
    obtain ⟨hi, rfl⟩ := rngD_get hx
    refine ⟨rfl, ns, i, congrArg (fun z => [D.arr (ns.map .int), D.int z]) (Int.zero_add _), ?_⟩
    exact ⟨rfl, rfl, rfl, rfl, rfl, rfl, _, _, _, rfl⟩
  · rintro ρ ⟨c1, c2, c3, rfl⟩
    have few : rw9.length < 64 := by decide
    have v0 := tab_va few
    have v1 := tab_va (rs := rw9.drop 1) (by decide)
    have v2 := tab_va (rs := [((0 : Int), (0 : Int), (1 : Int))]) (by decide)
    have v3 := tab_va (rs := []) (by decide)
    have TT : TabOk' ["a", "b"] rw9 := ⟨ab_ok, rw9_yes, few⟩
    refine ⟨rfl, ["a", "b"], .tup (rw9.map rowD), 2, rfl, ab_ok, v0.1, by decide, v0.2, ?_⟩
    have y1 : tabB (["a", "b"] : List Str).length (.tup (rw9.map rowD)) = true := rw9_yes
    rw [y1]
    refine ⟨rfl, ["a"], .tup (rw9.map rowD), 2, rfl, a_ok, v0.1, by decide, v0.2, ?_⟩
    have y2 : tabB (["a"] : List Str).length (.tup (rw9.map rowD)) = false := rw9_no1
    rw [y2]
    refine ⟨rfl, ["a", "b"], .tup ((rw9.drop 1).map rowD), 2, rfl, ab_ok, v1.1, by decide, v1.2, ?_⟩
    have y3 : tabB (["a", "b"] : List Str).length (.tup ((rw9.drop 1).map rowD)) = false := rw9_no2
    rw [y3]
    refine ⟨rfl, [], .tup [], 2, rfl, e_ok, v3.1, by decide, v3.2, ?_⟩
    have y4 : tabB ([] : List Str).length (.tup []) = true := rw0_yes
    rw [y4]
    refine ⟨rfl, [], .tup ([((0 : Int), (0 : Int), (1 : Int))].map rowD), 2, rfl, e_ok, v2.1, by decide, v2.2, ?_⟩
    have y5 : tabB ([] : List Str).length (.tup ([((0 : Int), (0 : Int), (1 : Int))].map rowD)) = false := rw0_no
    rw [y5]
    refine ⟨rfl, ["a", "b"], rw9, 4, rfl, TT, by decide, by decide, rfl, ?_⟩
    have y6 : cnt (["a", "b"] : List Str).length rw9 4 = 3 := cnt9
    rw [y6]
    exact q
def sp_law (K : PySem.W.Frag) : Sp := fun vs H Q _ => ∃ (a : Addr) (ns : List Int), vs = [.ref a] ∧ SqL K H a (ns.map V.int) ∧ ns.length ≤ 63 ∧ ∀ H', Q (.bl true) H'
theorem ok_law (T : Txt K w mg) : FnOk P w K mg base CX0 8 T.law.f T.law.fd ["_law_script"] (sp_law K) := (ok_lawD T).imp fun vs H Q E ⟨a, ns, ev, hS, hl, q⟩ => by
  subst ev
  refine ⟨H, [.arr (ns.map .int)], fun d => d = .bl true, Same.refl _, .cons (.arr hS (reps_int ns)) .nil, ⟨rfl, ns, rfl, hl, rfl⟩, fun v d H' Hb' g rp e => ?_⟩
  subst e
  cases rp
  exact q H'
end
end PL
namespace PL
open PySem PySem.Spec PyProof.Rows L2 TB
/-! ### the end -/
noncomputable def txt_mk {K : PySem.W.Frag} {w : World} {h : Heap} {mg : Str → Option Value} (X : K.In h) (G : h.Ns mainGlobals mg)
    {f0 f1 f2 f3 f4 f5 f6 f7 f8 f9 f10 f11 f12 f13 f14 f15 f16 f17 f18 f19 f20 f21 f22 f23 f24 f25 f26 f27 f28 : Addr} {od0 an0 od1 an1 od2 an2 od3 an3 od4 an4 od5 an5 od6 an6 od7 an7 od8 an8 od9 an9 od10 an10 od11 an11 od12 an12 od13 an13 od14 an14 od15 an15 od16 an16 od17 an17 od18 an18 od19 an19 od20 an20 od21 an21 od22 an22 od23 an23 od24 an24 od25 an25 od26 an26 od27 an27 od28 an28 : Option Addr} {sl0 sl1 sl2 sl3 sl4 sl5 sl6 sl7 sl8 sl9 sl10 sl11 sl12 sl13 sl14 sl15 sl16 sl17 sl18 sl19 sl20 sl21 sl22 sl23 sl24 sl25 sl26 sl27 sl28 : Array (Option Value)} {oc0 dc0 pm0 cd0 ct0 kV0 oc1 dc1 pm1 cd1 ct1 kV1 oc2 dc2 pm2 cd2 ct2 kV2 oc3 dc3 pm3 cd3 ct3 kV3 oc4 dc4 pm4 cd4 ct4 kV4 oc5 dc5 pm5 cd5 ct5 kV5 oc6 dc6 pm6 cd6 ct6 kV6 oc7 dc7 pm7 cd7 ct7 kV7 oc8 dc8 pm8 cd8 ct8 kV8 oc9 dc9 pm9 cd9 ct9 kV9 oc10 dc10 pm10 cd10 ct10 kV10 oc11 dc11 pm11 cd11 ct11 kV11 oc12 dc12 pm12 cd12 ct12 kV12 oc13 dc13 pm13 cd13 ct13 kV13 oc14 dc14 pm14 cd14 ct14 kV14 oc15 dc15 pm15 cd15 ct15 kV15 oc16 dc16 pm16 cd16 ct16 kV16 oc17 dc17 pm17 cd17 ct17 kV17 oc18 dc18 pm18 cd18 ct18 kV18 oc19 dc19 pm19 cd19 ct19 kV19 oc20 dc20 pm20 cd20 ct20 kV20 oc21 dc21 pm21 cd21 ct21 kV21 oc22 dc22 pm22 cd22 ct22 kV22 oc23 dc23 pm23 cd23 ct23 kV23 oc24 dc24 pm24 cd24 ct24 kV24 oc25 dc25 pm25 cd25 ct25 kV25 oc26 dc26 pm26 cd26 ct26 kV26 oc27 dc27 pm27 cd27 ct27 kV27 oc28 dc28 pm28 cd28 ct28 kV28 : Value} {tk0 tk1 tk2 tk3 tk4 tk5 tk6 : Tok}
    (a0 : PySem.W.nsIn K mainGlobals "is_integer" = some (some (.ref f0)))
    (l0 : K.lookup f0 = some ⟨oc0, od0, .func (PySem.W.fnOf "is_integer" "is_integer" (defArgs s_is_integer) (defBody s_is_integer) (defScope s_is_integer) .none kV0 dc0 pm0 an0 cd0 ct0), sl0⟩)
    (c0 : PySem.W.codeIn K cd0 "is_integer" = true)
    (k0 : PySem.W.keepIn K (.ref f0) = true)
    (a1 : PySem.W.nsIn K mainGlobals "is_within" = some (some (.ref f1)))
    (l1 : K.lookup f1 = some ⟨oc1, od1, .func (PySem.W.fnOf "is_within" "is_within" (defArgs s_is_within) (defBody s_is_within) (defScope s_is_within) .none kV1 dc1 pm1 an1 cd1 ct1), sl1⟩)
    (c1 : PySem.W.codeIn K cd1 "is_within" = true)
    (k1 : PySem.W.keepIn K (.ref f1) = true)
    (a2 : PySem.W.nsIn K mainGlobals "is_name" = some (some (.ref f2)))
    (l2 : K.lookup f2 = some ⟨oc2, od2, .func (PySem.W.fnOf "is_name" "is_name" (defArgs s_is_name) (defBody s_is_name) (defScope s_is_name) .none kV2 dc2 pm2 an2 cd2 ct2), sl2⟩)
    (c2 : PySem.W.codeIn K cd2 "is_name" = true)
    (k2 : PySem.W.keepIn K (.ref f2) = true)
    (a3 : PySem.W.nsIn K mainGlobals "are_names" = some (some (.ref f3)))
    (l3 : K.lookup f3 = some ⟨oc3, od3, .func (PySem.W.fnOf "are_names" "are_names" (defArgs s_are_names) (defBody s_are_names) (defScope s_are_names) .none kV3 dc3 pm3 an3 cd3 ct3), sl3⟩)
    (c3 : PySem.W.codeIn K cd3 "are_names" = true)
    (k3 : PySem.W.keepIn K (.ref f3) = true)
    (a4 : PySem.W.nsIn K mainGlobals "is_row" = some (some (.ref f4)))
    (l4 : K.lookup f4 = some ⟨oc4, od4, .func (PySem.W.fnOf "is_row" "is_row" (defArgs s_is_row) (defBody s_is_row) (defScope s_is_row) .none kV4 dc4 pm4 an4 cd4 ct4), sl4⟩)
    (c4 : PySem.W.codeIn K cd4 "is_row" = true)
    (k4 : PySem.W.keepIn K (.ref f4) = true)
    (a5 : PySem.W.nsIn K mainGlobals "asked_by" = some (some (.ref f5)))
    (l5 : K.lookup f5 = some ⟨oc5, od5, .func (PySem.W.fnOf "asked_by" "asked_by" (defArgs s_asked_by) (defBody s_asked_by) (defScope s_asked_by) .none kV5 dc5 pm5 an5 cd5 ct5), sl5⟩)
    (c5 : PySem.W.codeIn K cd5 "asked_by" = true)
    (k5 : PySem.W.keepIn K (.ref f5) = true)
    (a6 : PySem.W.nsIn K mainGlobals "does_stand" = some (some (.ref f6)))
    (l6 : K.lookup f6 = some ⟨oc6, od6, .func (PySem.W.fnOf "does_stand" "does_stand" (defArgs s_does_stand) (defBody s_does_stand) (defScope s_does_stand) .none kV6 dc6 pm6 an6 cd6 ct6), sl6⟩)
    (c6 : PySem.W.codeIn K cd6 "does_stand" = true)
    (k6 : PySem.W.keepIn K (.ref f6) = true)
    (a7 : PySem.W.nsIn K mainGlobals "is_table_in" = some (some (.ref f7)))
    (l7 : K.lookup f7 = some ⟨oc7, od7, .func (PySem.W.fnOf "is_table_in" "is_table_in" (defArgs s_is_table_in) (defBody s_is_table_in) (defScope s_is_table_in) .none kV7 dc7 pm7 an7 cd7 ct7), sl7⟩)
    (c7 : PySem.W.codeIn K cd7 "is_table_in" = true)
    (k7 : PySem.W.keepIn K (.ref f7) = true)
    (a8 : PySem.W.nsIn K mainGlobals "is_node" = some (some (.ref f8)))
    (l8 : K.lookup f8 = some ⟨oc8, od8, .func (PySem.W.fnOf "is_node" "is_node" (defArgs s_is_node) (defBody s_is_node) (defScope s_is_node) .none kV8 dc8 pm8 an8 cd8 ct8), sl8⟩)
    (c8 : PySem.W.codeIn K cd8 "is_node" = true)
    (k8 : PySem.W.keepIn K (.ref f8) = true)
    (a9 : PySem.W.nsIn K mainGlobals "is_filling" = some (some (.ref f9)))
    (l9 : K.lookup f9 = some ⟨oc9, od9, .func (PySem.W.fnOf "is_filling" "is_filling" (defArgs s_is_filling) (defBody s_is_filling) (defScope s_is_filling) .none kV9 dc9 pm9 an9 cd9 ct9), sl9⟩)
    (c9 : PySem.W.codeIn K cd9 "is_filling" = true)
    (k9 : PySem.W.keepIn K (.ref f9) = true)
    (a10 : PySem.W.nsIn K mainGlobals "require_names" = some (some (.ref f10)))
    (l10 : K.lookup f10 = some ⟨oc10, od10, .func (PySem.W.fnOf "require_names" "require_names" (defArgs s_require_names) (defBody s_require_names) (defScope s_require_names) .none kV10 dc10 pm10 an10 cd10 ct10), sl10⟩)
    (c10 : PySem.W.codeIn K cd10 "require_names" = true)
    (k10 : PySem.W.keepIn K (.ref f10) = true)
    (a11 : PySem.W.nsIn K mainGlobals "require_table" = some (some (.ref f11)))
    (l11 : K.lookup f11 = some ⟨oc11, od11, .func (PySem.W.fnOf "require_table" "require_table" (defArgs s_require_table) (defBody s_require_table) (defScope s_require_table) .none kV11 dc11 pm11 an11 cd11 ct11), sl11⟩)
    (c11 : PySem.W.codeIn K cd11 "require_table" = true)
    (k11 : PySem.W.keepIn K (.ref f11) = true)
    (a12 : PySem.W.nsIn K mainGlobals "require_node" = some (some (.ref f12)))
    (l12 : K.lookup f12 = some ⟨oc12, od12, .func (PySem.W.fnOf "require_node" "require_node" (defArgs s_require_node) (defBody s_require_node) (defScope s_require_node) .none kV12 dc12 pm12 an12 cd12 ct12), sl12⟩)
    (c12 : PySem.W.codeIn K cd12 "require_node" = true)
    (k12 : PySem.W.keepIn K (.ref f12) = true)
    (a13 : PySem.W.nsIn K mainGlobals "ones_in" = some (some (.ref f13)))
    (l13 : K.lookup f13 = some ⟨oc13, od13, .func (PySem.W.fnOf "ones_in" "ones_in" (defArgs s_ones_in) (defBody s_ones_in) (defScope s_ones_in) .none kV13 dc13 pm13 an13 cd13 ct13), sl13⟩)
    (c13 : PySem.W.codeIn K cd13 "ones_in" = true)
    (k13 : PySem.W.keepIn K (.ref f13) = true)
    (a14 : PySem.W.nsIn K mainGlobals "is_table" = some (some (.ref f14)))
    (l14 : K.lookup f14 = some ⟨oc14, od14, .func (PySem.W.fnOf "is_table" "is_table" (defArgs s_is_table) (defBody s_is_table) (defScope s_is_table) .none kV14 dc14 pm14 an14 cd14 ct14), sl14⟩)
    (c14 : PySem.W.codeIn K cd14 "is_table" = true)
    (k14 : PySem.W.keepIn K (.ref f14) = true)
    (a15 : PySem.W.nsIn K mainGlobals "table_value" = some (some (.ref f15)))
    (l15 : K.lookup f15 = some ⟨oc15, od15, .func (PySem.W.fnOf "table_value" "table_value" (defArgs s_table_value) (defBody s_table_value) (defScope s_table_value) .none kV15 dc15 pm15 an15 cd15 ct15), sl15⟩)
    (c15 : PySem.W.codeIn K cd15 "table_value" = true)
    (k15 : PySem.W.keepIn K (.ref f15) = true)
    (a16 : PySem.W.nsIn K mainGlobals "ones" = some (some (.ref f16)))
    (l16 : K.lookup f16 = some ⟨oc16, od16, .func (PySem.W.fnOf "ones" "ones" (defArgs s_ones) (defBody s_ones) (defScope s_ones) .none kV16 dc16 pm16 an16 cd16 ct16), sl16⟩)
    (c16 : PySem.W.codeIn K cd16 "ones" = true)
    (k16 : PySem.W.keepIn K (.ref f16) = true)
    (a17 : PySem.W.nsIn K mainGlobals "_law_dice" = some (some (.ref f17)))
    (l17 : K.lookup f17 = some ⟨oc17, od17, .func (PySem.W.fnOf "_law_dice" "_law_dice" (defArgs s__law_dice) (defBody s__law_dice) (defScope s__law_dice) .none kV17 dc17 pm17 an17 cd17 ct17), sl17⟩)
    (c17 : PySem.W.codeIn K cd17 "_law_dice" = true)
    (k17 : PySem.W.keepIn K (.ref f17) = true)
    (a18 : PySem.W.nsIn K mainGlobals "_law_roll" = some (some (.ref f18)))
    (l18 : K.lookup f18 = some ⟨oc18, od18, .func (PySem.W.fnOf "_law_roll" "_law_roll" (defArgs s__law_roll) (defBody s__law_roll) (defScope s__law_roll) .none kV18 dc18 pm18 an18 cd18 ct18), sl18⟩)
    (c18 : PySem.W.codeIn K cd18 "_law_roll" = true)
    (k18 : PySem.W.keepIn K (.ref f18) = true)
    (a19 : PySem.W.nsIn K mainGlobals "_law_one_of" = some (some (.ref f19)))
    (l19 : K.lookup f19 = some ⟨oc19, od19, .func (PySem.W.fnOf "_law_one_of" "_law_one_of" (defArgs s__law_one_of) (defBody s__law_one_of) (defScope s__law_one_of) .none kV19 dc19 pm19 an19 cd19 ct19), sl19⟩)
    (c19 : PySem.W.codeIn K cd19 "_law_one_of" = true)
    (k19 : PySem.W.keepIn K (.ref f19) = true)
    (a20 : PySem.W.nsIn K mainGlobals "_law_two_to" = some (some (.ref f20)))
    (l20 : K.lookup f20 = some ⟨oc20, od20, .func (PySem.W.fnOf "_law_two_to" "_law_two_to" (defArgs s__law_two_to) (defBody s__law_two_to) (defScope s__law_two_to) .none kV20 dc20 pm20 an20 cd20 ct20), sl20⟩)
    (c20 : PySem.W.codeIn K cd20 "_law_two_to" = true)
    (k20 : PySem.W.keepIn K (.ref f20) = true)
    (a21 : PySem.W.nsIn K mainGlobals "_law_mixed" = some (some (.ref f21)))
    (l21 : K.lookup f21 = some ⟨oc21, od21, .func (PySem.W.fnOf "_law_mixed" "_law_mixed" (defArgs s__law_mixed) (defBody s__law_mixed) (defScope s__law_mixed) .none kV21 dc21 pm21 an21 cd21 ct21), sl21⟩)
    (c21 : PySem.W.codeIn K cd21 "_law_mixed" = true)
    (k21 : PySem.W.keepIn K (.ref f21) = true)
    (a22 : PySem.W.nsIn K mainGlobals "_law_is_int" = some (some (.ref f22)))
    (l22 : K.lookup f22 = some ⟨oc22, od22, .func (PySem.W.fnOf "_law_is_int" "_law_is_int" (defArgs s__law_is_int) (defBody s__law_is_int) (defScope s__law_is_int) .none kV22 dc22 pm22 an22 cd22 ct22), sl22⟩)
    (c22 : PySem.W.codeIn K cd22 "_law_is_int" = true)
    (k22 : PySem.W.keepIn K (.ref f22) = true)
    (a23 : PySem.W.nsIn K mainGlobals "_law_is_table" = some (some (.ref f23)))
    (l23 : K.lookup f23 = some ⟨oc23, od23, .func (PySem.W.fnOf "_law_is_table" "_law_is_table" (defArgs s__law_is_table) (defBody s__law_is_table) (defScope s__law_is_table) .none kV23 dc23 pm23 an23 cd23 ct23), sl23⟩)
    (c23 : PySem.W.codeIn K cd23 "_law_is_table" = true)
    (k23 : PySem.W.keepIn K (.ref f23) = true)
    (a24 : PySem.W.nsIn K mainGlobals "_law_table_drawn" = some (some (.ref f24)))
    (l24 : K.lookup f24 = some ⟨oc24, od24, .func (PySem.W.fnOf "_law_table_drawn" "_law_table_drawn" (defArgs s__law_table_drawn) (defBody s__law_table_drawn) (defScope s__law_table_drawn) .none kV24 dc24 pm24 an24 cd24 ct24), sl24⟩)
    (c24 : PySem.W.codeIn K cd24 "_law_table_drawn" = true)
    (k24 : PySem.W.keepIn K (.ref f24) = true)
    (a25 : PySem.W.nsIn K mainGlobals "_law_near" = some (some (.ref f25)))
    (l25 : K.lookup f25 = some ⟨oc25, od25, .func (PySem.W.fnOf "_law_near" "_law_near" (defArgs s__law_near) (defBody s__law_near) (defScope s__law_near) .none kV25 dc25 pm25 an25 cd25 ct25), sl25⟩)
    (c25 : PySem.W.codeIn K cd25 "_law_near" = true)
    (k25 : PySem.W.keepIn K (.ref f25) = true)
    (a26 : PySem.W.nsIn K mainGlobals "_law_value" = some (some (.ref f26)))
    (l26 : K.lookup f26 = some ⟨oc26, od26, .func (PySem.W.fnOf "_law_value" "_law_value" (defArgs s__law_value) (defBody s__law_value) (defScope s__law_value) .none kV26 dc26 pm26 an26 cd26 ct26), sl26⟩)
    (c26 : PySem.W.codeIn K cd26 "_law_value" = true)
    (k26 : PySem.W.keepIn K (.ref f26) = true)
    (a27 : PySem.W.nsIn K mainGlobals "_law_right" = some (some (.ref f27)))
    (l27 : K.lookup f27 = some ⟨oc27, od27, .func (PySem.W.fnOf "_law_right" "_law_right" (defArgs s__law_right) (defBody s__law_right) (defScope s__law_right) .none kV27 dc27 pm27 an27 cd27 ct27), sl27⟩)
    (c27 : PySem.W.codeIn K cd27 "_law_right" = true)
    (k27 : PySem.W.keepIn K (.ref f27) = true)
    (a28 : PySem.W.nsIn K mainGlobals "law" = some (some (.ref f28)))
    (l28 : K.lookup f28 = some ⟨oc28, od28, .func (PySem.W.fnOf "law" "law" (defArgs s_law) (defBody s_law) (defScope s_law) .none kV28 dc28 pm28 an28 cd28 ct28), sl28⟩)
    (c28 : PySem.W.codeIn K cd28 "law" = true)
    (k28 : PySem.W.keepIn K (.ref f28) = true)
    (v0 : PySem.W.nsIn K mainGlobals "MOST_SIGNS" = some (some (.int 24 tk0)))
    (v1 : PySem.W.nsIn K mainGlobals "FIRST_SIGNS" = some (some (.str "abcdefghijklmnopqrstuvwxyz" tk1)))
    (v2 : PySem.W.nsIn K mainGlobals "MORE_SIGNS" = some (some (.str "abcdefghijklmnopqrstuvwxyz0123456789_." tk2)))
    (v3 : PySem.W.nsIn K mainGlobals "MAX_ASKED" = some (some (.int 12 tk3)))
    (v4 : PySem.W.nsIn K mainGlobals "MAX_ROWS" = some (some (.int 20000 tk4)))
    (v5 : PySem.W.nsIn K mainGlobals "ROW_SIZE" = some (some (.int 3 tk5)))
    (v6 : PySem.W.nsIn K mainGlobals "FIRST_NODE" = some (some (.int 2 tk6)))
    (z0 : PySem.W.nsIn K mainGlobals "isinstance" = some none)
    (z1 : PySem.W.nsIn K mainGlobals "int" = some none)
    (z2 : PySem.W.nsIn K mainGlobals "bool" = some none)
    (z3 : PySem.W.nsIn K mainGlobals "all" = some none)
    (z4 : PySem.W.nsIn K mainGlobals "str" = some none)
    (z5 : PySem.W.nsIn K mainGlobals "len" = some none)
    (z6 : PySem.W.nsIn K mainGlobals "tuple" = some none)
    (z7 : PySem.W.nsIn K mainGlobals "set" = some none)
    (z8 : PySem.W.nsIn K mainGlobals "max" = some none)
    (z9 : PySem.W.nsIn K mainGlobals "range" = some none)
    (z10 : PySem.W.nsIn K mainGlobals "dict" = some none)
    (z11 : PySem.W.nsIn K mainGlobals "abs" = some none)
    (z12 : PySem.W.nsIn K mainGlobals "list" = some none)
    (z13 : PySem.W.nsIn K mainGlobals "enumerate" = some none)
    (z14 : PySem.W.nsIn K mainGlobals "min" = some none)
    : Txt K w mg :=
  ⟨defAt X G a0 l0 c0 k0 (fun _ _ _ _ _ _ us hl => match us, hl with | [_], _ => rfl),
   defAt X G a1 l1 c1 k1 (fun _ _ _ _ _ _ us hl => match us, hl with | [_, _, _], _ => rfl),
   defAt X G a2 l2 c2 k2 (fun _ _ _ _ _ _ us hl => match us, hl with | [_], _ => rfl),
   defAt X G a3 l3 c3 k3 (fun _ _ _ _ _ _ us hl => match us, hl with | [_], _ => rfl),
   defAt X G a4 l4 c4 k4 (fun _ _ _ _ _ _ us hl => match us, hl with | [_, _], _ => rfl),
   defAt X G a5 l5 c5 k5 (fun _ _ _ _ _ _ us hl => match us, hl with | [_, _], _ => rfl),
   defAt X G a6 l6 c6 k6 (fun _ _ _ _ _ _ us hl => match us, hl with | [_, _], _ => rfl),
   defAt X G a7 l7 c7 k7 (fun _ _ _ _ _ _ us hl => match us, hl with | [_, _], _ => rfl),
   defAt X G a8 l8 c8 k8 (fun _ _ _ _ _ _ us hl => match us, hl with | [_, _], _ => rfl),
   defAt X G a9 l9 c9 k9 (fun _ _ _ _ _ _ us hl => match us, hl with | [_, _], _ => rfl),
   defAt X G a10 l10 c10 k10 (fun _ _ _ _ _ _ us hl => match us, hl with | [_], _ => rfl),
   defAt X G a11 l11 c11 k11 (fun _ _ _ _ _ _ us hl => match us, hl with | [_, _], _ => rfl),
   defAt X G a12 l12 c12 k12 (fun _ _ _ _ _ _ us hl => match us, hl with | [_, _], _ => rfl),
   defAt X G a13 l13 c13 k13 (fun _ _ _ _ _ _ us hl => match us, hl with | [_, _, _], _ => rfl),
   defAt X G a14 l14 c14 k14 (fun _ _ _ _ _ _ us hl => match us, hl with | [_, _], _ => rfl),
   defAt X G a15 l15 c15 k15 (fun _ _ _ _ _ _ us hl => match us, hl with | [_, _, _, _], _ => rfl),
   defAt X G a16 l16 c16 k16 (fun _ _ _ _ _ _ us hl => match us, hl with | [_, _, _], _ => rfl),
   defAt X G a17 l17 c17 k17 (fun _ _ _ _ _ _ us hl => match us, hl with | [_, _], _ => rfl),
   defAt X G a18 l18 c18 k18 (fun _ _ _ _ _ _ us hl => match us, hl with | [_, _], _ => rfl),
   defAt X G a19 l19 c19 k19 (fun _ _ _ _ _ _ us hl => match us, hl with | [_, _], _ => rfl),
   defAt X G a20 l20 c20 k20 (fun _ _ _ _ _ _ us hl => match us, hl with | [_], _ => rfl),
   defAt X G a21 l21 c21 k21 (fun _ _ _ _ _ _ us hl => match us, hl with | [_, _], _ => rfl),
   defAt X G a22 l22 c22 k22 (fun _ _ _ _ _ _ us hl => match us, hl with | [_], _ => rfl),
   defAt X G a23 l23 c23 k23 (fun _ _ _ _ _ _ us hl => match us, hl with | [_, _], _ => rfl),
   defAt X G a24 l24 c24 k24 (fun _ _ _ _ _ _ us hl => match us, hl with | [_, _, _], _ => rfl),
   defAt X G a25 l25 c25 k25 (fun _ _ _ _ _ _ us hl => match us, hl with | [_, _], _ => rfl),
   defAt X G a26 l26 c26 k26 (fun _ _ _ _ _ _ us hl => match us, hl with | [_, _, _, _], _ => rfl),
   defAt X G a27 l27 c27 k27 (fun _ _ _ _ _ _ us hl => match us, hl with | [_], _ => rfl),
   defAt X G a28 l28 c28 k28 (fun _ _ _ _ _ _ us hl => match us, hl with | [_], _ => rfl),
   ⟨_, PySem.W.mg_of X G v0, ⟨_, rfl⟩⟩,
   ⟨_, PySem.W.mg_of X G v1, ⟨_, rfl⟩⟩,
   ⟨_, PySem.W.mg_of X G v2, ⟨_, rfl⟩⟩,
   ⟨_, PySem.W.mg_of X G v3, ⟨_, rfl⟩⟩,
   ⟨_, PySem.W.mg_of X G v4, ⟨_, rfl⟩⟩,
   ⟨_, PySem.W.mg_of X G v5, ⟨_, rfl⟩⟩,
   ⟨_, PySem.W.mg_of X G v6, ⟨_, rfl⟩⟩,
   PySem.W.mg_none_of X G z0,
   PySem.W.mg_none_of X G z1,
   PySem.W.mg_none_of X G z2,
   PySem.W.mg_none_of X G z3,
   PySem.W.mg_none_of X G z4,
   PySem.W.mg_none_of X G z5,
   PySem.W.mg_none_of X G z6,
   PySem.W.mg_none_of X G z7,
   PySem.W.mg_none_of X G z8,
   PySem.W.mg_none_of X G z9,
   PySem.W.mg_none_of X G z10,
   PySem.W.mg_none_of X G z11,
   PySem.W.mg_none_of X G z12,
   PySem.W.mg_none_of X G z13,
   PySem.W.mg_none_of X G z14⟩
theorem fin {l : PySem.W.OpenLaw} {w : World} {K : PySem.W.Frag} {h : Heap} {mg : Str → Option Value} {fa : Addr} (X : K.In h) (G : h.Ns mainGlobals mg) (hfa : mg "law" = some (.ref fa))
    {f0 f1 f2 f3 f4 f5 f6 f7 f8 f9 f10 f11 f12 f13 f14 f15 f16 f17 f18 f19 f20 f21 f22 f23 f24 f25 f26 f27 f28 : Addr} {od0 an0 od1 an1 od2 an2 od3 an3 od4 an4 od5 an5 od6 an6 od7 an7 od8 an8 od9 an9 od10 an10 od11 an11 od12 an12 od13 an13 od14 an14 od15 an15 od16 an16 od17 an17 od18 an18 od19 an19 od20 an20 od21 an21 od22 an22 od23 an23 od24 an24 od25 an25 od26 an26 od27 an27 od28 an28 : Option Addr} {sl0 sl1 sl2 sl3 sl4 sl5 sl6 sl7 sl8 sl9 sl10 sl11 sl12 sl13 sl14 sl15 sl16 sl17 sl18 sl19 sl20 sl21 sl22 sl23 sl24 sl25 sl26 sl27 sl28 : Array (Option Value)} {oc0 dc0 pm0 cd0 ct0 kV0 oc1 dc1 pm1 cd1 ct1 kV1 oc2 dc2 pm2 cd2 ct2 kV2 oc3 dc3 pm3 cd3 ct3 kV3 oc4 dc4 pm4 cd4 ct4 kV4 oc5 dc5 pm5 cd5 ct5 kV5 oc6 dc6 pm6 cd6 ct6 kV6 oc7 dc7 pm7 cd7 ct7 kV7 oc8 dc8 pm8 cd8 ct8 kV8 oc9 dc9 pm9 cd9 ct9 kV9 oc10 dc10 pm10 cd10 ct10 kV10 oc11 dc11 pm11 cd11 ct11 kV11 oc12 dc12 pm12 cd12 ct12 kV12 oc13 dc13 pm13 cd13 ct13 kV13 oc14 dc14 pm14 cd14 ct14 kV14 oc15 dc15 pm15 cd15 ct15 kV15 oc16 dc16 pm16 cd16 ct16 kV16 oc17 dc17 pm17 cd17 ct17 kV17 oc18 dc18 pm18 cd18 ct18 kV18 oc19 dc19 pm19 cd19 ct19 kV19 oc20 dc20 pm20 cd20 ct20 kV20 oc21 dc21 pm21 cd21 ct21 kV21 oc22 dc22 pm22 cd22 ct22 kV22 oc23 dc23 pm23 cd23 ct23 kV23 oc24 dc24 pm24 cd24 ct24 kV24 oc25 dc25 pm25 cd25 ct25 kV25 oc26 dc26 pm26 cd26 ct26 kV26 oc27 dc27 pm27 cd27 ct27 kV27 oc28 dc28 pm28 cd28 ct28 kV28 : Value} {tk0 tk1 tk2 tk3 tk4 tk5 tk6 : Tok}
    (a0 : PySem.W.nsIn K mainGlobals "is_integer" = some (some (.ref f0)))
    (l0 : K.lookup f0 = some ⟨oc0, od0, .func (PySem.W.fnOf "is_integer" "is_integer" (defArgs s_is_integer) (defBody s_is_integer) (defScope s_is_integer) .none kV0 dc0 pm0 an0 cd0 ct0), sl0⟩)
    (c0 : PySem.W.codeIn K cd0 "is_integer" = true)
    (k0 : PySem.W.keepIn K (.ref f0) = true)
    (a1 : PySem.W.nsIn K mainGlobals "is_within" = some (some (.ref f1)))
    (l1 : K.lookup f1 = some ⟨oc1, od1, .func (PySem.W.fnOf "is_within" "is_within" (defArgs s_is_within) (defBody s_is_within) (defScope s_is_within) .none kV1 dc1 pm1 an1 cd1 ct1), sl1⟩)
    (c1 : PySem.W.codeIn K cd1 "is_within" = true)
    (k1 : PySem.W.keepIn K (.ref f1) = true)
    (a2 : PySem.W.nsIn K mainGlobals "is_name" = some (some (.ref f2)))
    (l2 : K.lookup f2 = some ⟨oc2, od2, .func (PySem.W.fnOf "is_name" "is_name" (defArgs s_is_name) (defBody s_is_name) (defScope s_is_name) .none kV2 dc2 pm2 an2 cd2 ct2), sl2⟩)
    (c2 : PySem.W.codeIn K cd2 "is_name" = true)
    (k2 : PySem.W.keepIn K (.ref f2) = true)
    (a3 : PySem.W.nsIn K mainGlobals "are_names" = some (some (.ref f3)))
    (l3 : K.lookup f3 = some ⟨oc3, od3, .func (PySem.W.fnOf "are_names" "are_names" (defArgs s_are_names) (defBody s_are_names) (defScope s_are_names) .none kV3 dc3 pm3 an3 cd3 ct3), sl3⟩)
    (c3 : PySem.W.codeIn K cd3 "are_names" = true)
    (k3 : PySem.W.keepIn K (.ref f3) = true)
    (a4 : PySem.W.nsIn K mainGlobals "is_row" = some (some (.ref f4)))
    (l4 : K.lookup f4 = some ⟨oc4, od4, .func (PySem.W.fnOf "is_row" "is_row" (defArgs s_is_row) (defBody s_is_row) (defScope s_is_row) .none kV4 dc4 pm4 an4 cd4 ct4), sl4⟩)
    (c4 : PySem.W.codeIn K cd4 "is_row" = true)
    (k4 : PySem.W.keepIn K (.ref f4) = true)
    (a5 : PySem.W.nsIn K mainGlobals "asked_by" = some (some (.ref f5)))
    (l5 : K.lookup f5 = some ⟨oc5, od5, .func (PySem.W.fnOf "asked_by" "asked_by" (defArgs s_asked_by) (defBody s_asked_by) (defScope s_asked_by) .none kV5 dc5 pm5 an5 cd5 ct5), sl5⟩)
    (c5 : PySem.W.codeIn K cd5 "asked_by" = true)
    (k5 : PySem.W.keepIn K (.ref f5) = true)
    (a6 : PySem.W.nsIn K mainGlobals "does_stand" = some (some (.ref f6)))
    (l6 : K.lookup f6 = some ⟨oc6, od6, .func (PySem.W.fnOf "does_stand" "does_stand" (defArgs s_does_stand) (defBody s_does_stand) (defScope s_does_stand) .none kV6 dc6 pm6 an6 cd6 ct6), sl6⟩)
    (c6 : PySem.W.codeIn K cd6 "does_stand" = true)
    (k6 : PySem.W.keepIn K (.ref f6) = true)
    (a7 : PySem.W.nsIn K mainGlobals "is_table_in" = some (some (.ref f7)))
    (l7 : K.lookup f7 = some ⟨oc7, od7, .func (PySem.W.fnOf "is_table_in" "is_table_in" (defArgs s_is_table_in) (defBody s_is_table_in) (defScope s_is_table_in) .none kV7 dc7 pm7 an7 cd7 ct7), sl7⟩)
    (c7 : PySem.W.codeIn K cd7 "is_table_in" = true)
    (k7 : PySem.W.keepIn K (.ref f7) = true)
    (a8 : PySem.W.nsIn K mainGlobals "is_node" = some (some (.ref f8)))
    (l8 : K.lookup f8 = some ⟨oc8, od8, .func (PySem.W.fnOf "is_node" "is_node" (defArgs s_is_node) (defBody s_is_node) (defScope s_is_node) .none kV8 dc8 pm8 an8 cd8 ct8), sl8⟩)
    (c8 : PySem.W.codeIn K cd8 "is_node" = true)
    (k8 : PySem.W.keepIn K (.ref f8) = true)
    (a9 : PySem.W.nsIn K mainGlobals "is_filling" = some (some (.ref f9)))
    (l9 : K.lookup f9 = some ⟨oc9, od9, .func (PySem.W.fnOf "is_filling" "is_filling" (defArgs s_is_filling) (defBody s_is_filling) (defScope s_is_filling) .none kV9 dc9 pm9 an9 cd9 ct9), sl9⟩)
    (c9 : PySem.W.codeIn K cd9 "is_filling" = true)
    (k9 : PySem.W.keepIn K (.ref f9) = true)
    (a10 : PySem.W.nsIn K mainGlobals "require_names" = some (some (.ref f10)))
    (l10 : K.lookup f10 = some ⟨oc10, od10, .func (PySem.W.fnOf "require_names" "require_names" (defArgs s_require_names) (defBody s_require_names) (defScope s_require_names) .none kV10 dc10 pm10 an10 cd10 ct10), sl10⟩)
    (c10 : PySem.W.codeIn K cd10 "require_names" = true)
    (k10 : PySem.W.keepIn K (.ref f10) = true)
    (a11 : PySem.W.nsIn K mainGlobals "require_table" = some (some (.ref f11)))
    (l11 : K.lookup f11 = some ⟨oc11, od11, .func (PySem.W.fnOf "require_table" "require_table" (defArgs s_require_table) (defBody s_require_table) (defScope s_require_table) .none kV11 dc11 pm11 an11 cd11 ct11), sl11⟩)
    (c11 : PySem.W.codeIn K cd11 "require_table" = true)
    (k11 : PySem.W.keepIn K (.ref f11) = true)
    (a12 : PySem.W.nsIn K mainGlobals "require_node" = some (some (.ref f12)))
    (l12 : K.lookup f12 = some ⟨oc12, od12, .func (PySem.W.fnOf "require_node" "require_node" (defArgs s_require_node) (defBody s_require_node) (defScope s_require_node) .none kV12 dc12 pm12 an12 cd12 ct12), sl12⟩)
    (c12 : PySem.W.codeIn K cd12 "require_node" = true)
    (k12 : PySem.W.keepIn K (.ref f12) = true)
    (a13 : PySem.W.nsIn K mainGlobals "ones_in" = some (some (.ref f13)))
    (l13 : K.lookup f13 = some ⟨oc13, od13, .func (PySem.W.fnOf "ones_in" "ones_in" (defArgs s_ones_in) (defBody s_ones_in) (defScope s_ones_in) .none kV13 dc13 pm13 an13 cd13 ct13), sl13⟩)
    (c13 : PySem.W.codeIn K cd13 "ones_in" = true)
    (k13 : PySem.W.keepIn K (.ref f13) = true)
    (a14 : PySem.W.nsIn K mainGlobals "is_table" = some (some (.ref f14)))
    (l14 : K.lookup f14 = some ⟨oc14, od14, .func (PySem.W.fnOf "is_table" "is_table" (defArgs s_is_table) (defBody s_is_table) (defScope s_is_table) .none kV14 dc14 pm14 an14 cd14 ct14), sl14⟩)
    (c14 : PySem.W.codeIn K cd14 "is_table" = true)
    (k14 : PySem.W.keepIn K (.ref f14) = true)
    (a15 : PySem.W.nsIn K mainGlobals "table_value" = some (some (.ref f15)))
    (l15 : K.lookup f15 = some ⟨oc15, od15, .func (PySem.W.fnOf "table_value" "table_value" (defArgs s_table_value) (defBody s_table_value) (defScope s_table_value) .none kV15 dc15 pm15 an15 cd15 ct15), sl15⟩)
    (c15 : PySem.W.codeIn K cd15 "table_value" = true)
    (k15 : PySem.W.keepIn K (.ref f15) = true)
    (a16 : PySem.W.nsIn K mainGlobals "ones" = some (some (.ref f16)))
    (l16 : K.lookup f16 = some ⟨oc16, od16, .func (PySem.W.fnOf "ones" "ones" (defArgs s_ones) (defBody s_ones) (defScope s_ones) .none kV16 dc16 pm16 an16 cd16 ct16), sl16⟩)
    (c16 : PySem.W.codeIn K cd16 "ones" = true)
    (k16 : PySem.W.keepIn K (.ref f16) = true)
    (a17 : PySem.W.nsIn K mainGlobals "_law_dice" = some (some (.ref f17)))
    (l17 : K.lookup f17 = some ⟨oc17, od17, .func (PySem.W.fnOf "_law_dice" "_law_dice" (defArgs s__law_dice) (defBody s__law_dice) (defScope s__law_dice) .none kV17 dc17 pm17 an17 cd17 ct17), sl17⟩)
    (c17 : PySem.W.codeIn K cd17 "_law_dice" = true)
    (k17 : PySem.W.keepIn K (.ref f17) = true)
    (a18 : PySem.W.nsIn K mainGlobals "_law_roll" = some (some (.ref f18)))
    (l18 : K.lookup f18 = some ⟨oc18, od18, .func (PySem.W.fnOf "_law_roll" "_law_roll" (defArgs s__law_roll) (defBody s__law_roll) (defScope s__law_roll) .none kV18 dc18 pm18 an18 cd18 ct18), sl18⟩)
    (c18 : PySem.W.codeIn K cd18 "_law_roll" = true)
    (k18 : PySem.W.keepIn K (.ref f18) = true)
    (a19 : PySem.W.nsIn K mainGlobals "_law_one_of" = some (some (.ref f19)))
    (l19 : K.lookup f19 = some ⟨oc19, od19, .func (PySem.W.fnOf "_law_one_of" "_law_one_of" (defArgs s__law_one_of) (defBody s__law_one_of) (defScope s__law_one_of) .none kV19 dc19 pm19 an19 cd19 ct19), sl19⟩)
    (c19 : PySem.W.codeIn K cd19 "_law_one_of" = true)
    (k19 : PySem.W.keepIn K (.ref f19) = true)
    (a20 : PySem.W.nsIn K mainGlobals "_law_two_to" = some (some (.ref f20)))
    (l20 : K.lookup f20 = some ⟨oc20, od20, .func (PySem.W.fnOf "_law_two_to" "_law_two_to" (defArgs s__law_two_to) (defBody s__law_two_to) (defScope s__law_two_to) .none kV20 dc20 pm20 an20 cd20 ct20), sl20⟩)
    (c20 : PySem.W.codeIn K cd20 "_law_two_to" = true)
    (k20 : PySem.W.keepIn K (.ref f20) = true)
    (a21 : PySem.W.nsIn K mainGlobals "_law_mixed" = some (some (.ref f21)))
    (l21 : K.lookup f21 = some ⟨oc21, od21, .func (PySem.W.fnOf "_law_mixed" "_law_mixed" (defArgs s__law_mixed) (defBody s__law_mixed) (defScope s__law_mixed) .none kV21 dc21 pm21 an21 cd21 ct21), sl21⟩)
    (c21 : PySem.W.codeIn K cd21 "_law_mixed" = true)
    (k21 : PySem.W.keepIn K (.ref f21) = true)
    (a22 : PySem.W.nsIn K mainGlobals "_law_is_int" = some (some (.ref f22)))
    (l22 : K.lookup f22 = some ⟨oc22, od22, .func (PySem.W.fnOf "_law_is_int" "_law_is_int" (defArgs s__law_is_int) (defBody s__law_is_int) (defScope s__law_is_int) .none kV22 dc22 pm22 an22 cd22 ct22), sl22⟩)
    (c22 : PySem.W.codeIn K cd22 "_law_is_int" = true)
    (k22 : PySem.W.keepIn K (.ref f22) = true)
    (a23 : PySem.W.nsIn K mainGlobals "_law_is_table" = some (some (.ref f23)))
    (l23 : K.lookup f23 = some ⟨oc23, od23, .func (PySem.W.fnOf "_law_is_table" "_law_is_table" (defArgs s__law_is_table) (defBody s__law_is_table) (defScope s__law_is_table) .none kV23 dc23 pm23 an23 cd23 ct23), sl23⟩)
    (c23 : PySem.W.codeIn K cd23 "_law_is_table" = true)
    (k23 : PySem.W.keepIn K (.ref f23) = true)
    (a24 : PySem.W.nsIn K mainGlobals "_law_table_drawn" = some (some (.ref f24)))
    (l24 : K.lookup f24 = some ⟨oc24, od24, .func (PySem.W.fnOf "_law_table_drawn" "_law_table_drawn" (defArgs s__law_table_drawn) (defBody s__law_table_drawn) (defScope s__law_table_drawn) .none kV24 dc24 pm24 an24 cd24 ct24), sl24⟩)
    (c24 : PySem.W.codeIn K cd24 "_law_table_drawn" = true)
    (k24 : PySem.W.keepIn K (.ref f24) = true)
    (a25 : PySem.W.nsIn K mainGlobals "_law_near" = some (some (.ref f25)))
    (l25 : K.lookup f25 = some ⟨oc25, od25, .func (PySem.W.fnOf "_law_near" "_law_near" (defArgs s__law_near) (defBody s__law_near) (defScope s__law_near) .none kV25 dc25 pm25 an25 cd25 ct25), sl25⟩)
    (c25 : PySem.W.codeIn K cd25 "_law_near" = true)
    (k25 : PySem.W.keepIn K (.ref f25) = true)
    (a26 : PySem.W.nsIn K mainGlobals "_law_value" = some (some (.ref f26)))
    (l26 : K.lookup f26 = some ⟨oc26, od26, .func (PySem.W.fnOf "_law_value" "_law_value" (defArgs s__law_value) (defBody s__law_value) (defScope s__law_value) .none kV26 dc26 pm26 an26 cd26 ct26), sl26⟩)
    (c26 : PySem.W.codeIn K cd26 "_law_value" = true)
    (k26 : PySem.W.keepIn K (.ref f26) = true)
    (a27 : PySem.W.nsIn K mainGlobals "_law_right" = some (some (.ref f27)))
    (l27 : K.lookup f27 = some ⟨oc27, od27, .func (PySem.W.fnOf "_law_right" "_law_right" (defArgs s__law_right) (defBody s__law_right) (defScope s__law_right) .none kV27 dc27 pm27 an27 cd27 ct27), sl27⟩)
    (c27 : PySem.W.codeIn K cd27 "_law_right" = true)
    (k27 : PySem.W.keepIn K (.ref f27) = true)
    (a28 : PySem.W.nsIn K mainGlobals "law" = some (some (.ref f28)))
    (l28 : K.lookup f28 = some ⟨oc28, od28, .func (PySem.W.fnOf "law" "law" (defArgs s_law) (defBody s_law) (defScope s_law) .none kV28 dc28 pm28 an28 cd28 ct28), sl28⟩)
    (c28 : PySem.W.codeIn K cd28 "law" = true)
    (k28 : PySem.W.keepIn K (.ref f28) = true)
    (v0 : PySem.W.nsIn K mainGlobals "MOST_SIGNS" = some (some (.int 24 tk0)))
    (v1 : PySem.W.nsIn K mainGlobals "FIRST_SIGNS" = some (some (.str "abcdefghijklmnopqrstuvwxyz" tk1)))
    (v2 : PySem.W.nsIn K mainGlobals "MORE_SIGNS" = some (some (.str "abcdefghijklmnopqrstuvwxyz0123456789_." tk2)))
    (v3 : PySem.W.nsIn K mainGlobals "MAX_ASKED" = some (some (.int 12 tk3)))
    (v4 : PySem.W.nsIn K mainGlobals "MAX_ROWS" = some (some (.int 20000 tk4)))
    (v5 : PySem.W.nsIn K mainGlobals "ROW_SIZE" = some (some (.int 3 tk5)))
    (v6 : PySem.W.nsIn K mainGlobals "FIRST_NODE" = some (some (.int 2 tk6)))
    (z0 : PySem.W.nsIn K mainGlobals "isinstance" = some none)
    (z1 : PySem.W.nsIn K mainGlobals "int" = some none)
    (z2 : PySem.W.nsIn K mainGlobals "bool" = some none)
    (z3 : PySem.W.nsIn K mainGlobals "all" = some none)
    (z4 : PySem.W.nsIn K mainGlobals "str" = some none)
    (z5 : PySem.W.nsIn K mainGlobals "len" = some none)
    (z6 : PySem.W.nsIn K mainGlobals "tuple" = some none)
    (z7 : PySem.W.nsIn K mainGlobals "set" = some none)
    (z8 : PySem.W.nsIn K mainGlobals "max" = some none)
    (z9 : PySem.W.nsIn K mainGlobals "range" = some none)
    (z10 : PySem.W.nsIn K mainGlobals "dict" = some none)
    (z11 : PySem.W.nsIn K mainGlobals "abs" = some none)
    (z12 : PySem.W.nsIn K mainGlobals "list" = some none)
    (z13 : PySem.W.nsIn K mainGlobals "enumerate" = some none)
    (z14 : PySem.W.nsIn K mainGlobals "min" = some none)
    : ∃ fd : FuncData, (∀ (s : Shared) (v : Value), BindsTo s fd ⟨[v], []⟩ [("_law_script", v)]) ∧ ∀ base : Heap, K.In base → base.Ns mainGlobals mg → FnOk l.prog w K mg base CX0 8 fa fd ["_law_script"] (sp_law K) := by
  have e := hfa.symm.trans (PySem.W.mg_of X G a28)
  cases e
  exact ⟨PySem.W.fnOf "law" "law" (defArgs s_law) (defBody s_law) (defScope s_law) .none kV28 dc28 pm28 an28 cd28 ct28, fun s v => .of_eq rfl, fun base _ _ => ok_law (txt_mk X G a0 l0 c0 k0 a1 l1 c1 k1 a2 l2 c2 k2 a3 l3 c3 k3 a4 l4 c4 k4 a5 l5 c5 k5 a6 l6 c6 k6 a7 l7 c7 k7 a8 l8 c8 k8 a9 l9 c9 k9 a10 l10 c10 k10 a11 l11 c11 k11 a12 l12 c12 k12 a13 l13 c13 k13 a14 l14 c14 k14 a15 l15 c15 k15 a16 l16 c16 k16 a17 l17 c17 k17 a18 l18 c18 k18 a19 l19 c19 k19 a20 l20 c20 k20 a21 l21 c21 k21 a22 l22 c22 k22 a23 l23 c23 k23 a24 l24 c24 k24 a25 l25 c25 k25 a26 l26 c26 k26 a27 l27 c27 k27 a28 l28 c28 k28 v0 v1 v2 v3 v4 v5 v6 z0 z1 z2 z3 z4 z5 z6 z7 z8 z9 z10 z11 z12 z13 z14)⟩
end PL
open PySem PySem.W PyProof.Rows
set_option maxRecDepth 100000 in
set_option maxHeartbeats 0 in
theorem PySem.Challenge.cw_truebeat_k31_tables_judged_holds : PySem.Challenge.rw_truebeat_k31_tables_judged.Holds := by
  w_on; o_law; k_head; (case hw => w_witness2)
  k_fill
  refine L2.walk_of (l := PySem.Challenge.rw_truebeat_k31_tables_judged) (n := 63) (k := 8) (x := "_law_script") (CX := fun _ => L2.CX0) (sp := fun w => PL.sp_law _) rfl (by decide) rfl ⟨rfl, by decide, by decide⟩ (fun w h Y => PySem.W.kIn_of Y) ?F (fun _ _ a ns hl _ hS => ⟨a, ns, rfl, hS, hl, fun _ => rfl⟩) (fun _ _ _ _ _ h => h)
  case F =>
    intro w mg fa h KX G hmg
    refine' PL.fin KX G hmg ?a0 ?l0 ?c0 ?k0 ?a1 ?l1 ?c1 ?k1 ?a2 ?l2 ?c2 ?k2 ?a3 ?l3 ?c3 ?k3 ?a4 ?l4 ?c4 ?k4 ?a5 ?l5 ?c5 ?k5 ?a6 ?l6 ?c6 ?k6 ?a7 ?l7 ?c7 ?k7 ?a8 ?l8 ?c8 ?k8 ?a9 ?l9 ?c9 ?k9 ?a10 ?l10 ?c10 ?k10 ?a11 ?l11 ?c11 ?k11 ?a12 ?l12 ?c12 ?k12 ?a13 ?l13 ?c13 ?k13 ?a14 ?l14 ?c14 ?k14 ?a15 ?l15 ?c15 ?k15 ?a16 ?l16 ?c16 ?k16 ?a17 ?l17 ?c17 ?k17 ?a18 ?l18 ?c18 ?k18 ?a19 ?l19 ?c19 ?k19 ?a20 ?l20 ?c20 ?k20 ?a21 ?l21 ?c21 ?k21 ?a22 ?l22 ?c22 ?k22 ?a23 ?l23 ?c23 ?k23 ?a24 ?l24 ?c24 ?k24 ?a25 ?l25 ?c25 ?k25 ?a26 ?l26 ?c26 ?k26 ?a27 ?l27 ?c27 ?k27 ?a28 ?l28 ?c28 ?k28 ?v0 ?v1 ?v2 ?v3 ?v4 ?v5 ?v6 ?z0 ?z1 ?z2 ?z3 ?z4 ?z5 ?z6 ?z7 ?z8 ?z9 ?z10 ?z11 ?z12 ?z13 ?z14
    (case a0 => k_is)
    (case l0 => k_is)
    (case c0 => k_is)
    (case k0 => k_is)
    (case a1 => k_is)
    (case l1 => k_is)
    (case c1 => k_is)
    (case k1 => k_is)
    (case a2 => k_is)
    (case l2 => k_is)
    (case c2 => k_is)
    (case k2 => k_is)
    (case a3 => k_is)
    (case l3 => k_is)
    (case c3 => k_is)
    (case k3 => k_is)
    (case a4 => k_is)
    (case l4 => k_is)
    (case c4 => k_is)
    (case k4 => k_is)
    (case a5 => k_is)
    (case l5 => k_is)
    (case c5 => k_is)
    (case k5 => k_is)
    (case a6 => k_is)
    (case l6 => k_is)
    (case c6 => k_is)
    (case k6 => k_is)
    (case a7 => k_is)
    (case l7 => k_is)
    (case c7 => k_is)
    (case k7 => k_is)
    (case a8 => k_is)
    (case l8 => k_is)
    (case c8 => k_is)
    (case k8 => k_is)
    (case a9 => k_is)
    (case l9 => k_is)
    (case c9 => k_is)
    (case k9 => k_is)
    (case a10 => k_is)
    (case l10 => k_is)
    (case c10 => k_is)
    (case k10 => k_is)
    (case a11 => k_is)
    (case l11 => k_is)
    (case c11 => k_is)
    (case k11 => k_is)
    (case a12 => k_is)
    (case l12 => k_is)
    (case c12 => k_is)
    (case k12 => k_is)
    (case a13 => k_is)
    (case l13 => k_is)
    (case c13 => k_is)
    (case k13 => k_is)
    (case a14 => k_is)
    (case l14 => k_is)
    (case c14 => k_is)
    (case k14 => k_is)
    (case a15 => k_is)
    (case l15 => k_is)
    (case c15 => k_is)
    (case k15 => k_is)
    (case a16 => k_is)
    (case l16 => k_is)
    (case c16 => k_is)
    (case k16 => k_is)
    (case a17 => k_is)
    (case l17 => k_is)
    (case c17 => k_is)
    (case k17 => k_is)
    (case a18 => k_is)
    (case l18 => k_is)
    (case c18 => k_is)
    (case k18 => k_is)
    (case a19 => k_is)
    (case l19 => k_is)
    (case c19 => k_is)
    (case k19 => k_is)
    (case a20 => k_is)
    (case l20 => k_is)
    (case c20 => k_is)
    (case k20 => k_is)
    (case a21 => k_is)
    (case l21 => k_is)
    (case c21 => k_is)
    (case k21 => k_is)
    (case a22 => k_is)
    (case l22 => k_is)
    (case c22 => k_is)
    (case k22 => k_is)
    (case a23 => k_is)
    (case l23 => k_is)
    (case c23 => k_is)
    (case k23 => k_is)
    (case a24 => k_is)
    (case l24 => k_is)
    (case c24 => k_is)
    (case k24 => k_is)
    (case a25 => k_is)
    (case l25 => k_is)
    (case c25 => k_is)
    (case k25 => k_is)
    (case a26 => k_is)
    (case l26 => k_is)
    (case c26 => k_is)
    (case k26 => k_is)
    (case a27 => k_is)
    (case l27 => k_is)
    (case c27 => k_is)
    (case k27 => k_is)
    (case a28 => k_is)
    (case l28 => k_is)
    (case c28 => k_is)
    (case k28 => k_is)
    (case v0 => k_is)
    (case v1 => k_is)
    (case v2 => k_is)
    (case v3 => k_is)
    (case v4 => k_is)
    (case v5 => k_is)
    (case v6 => k_is)
    (case z0 => k_is)
    (case z1 => k_is)
    (case z2 => k_is)
    (case z3 => k_is)
    (case z4 => k_is)
    (case z5 => k_is)
    (case z6 => k_is)
    (case z7 => k_is)
    (case z8 => k_is)
    (case z9 => k_is)
    (case z10 => k_is)
    (case z11 => k_is)
    (case z12 => k_is)
    (case z13 => k_is)
    (case z14 => k_is)
#print axioms PySem.Challenge.cw_truebeat_k31_tables_judged_holds
