import PyProof.Rows.All
import Wide.All
import OpenK.AllK
import Wide.FinOn
import HandS.ForMost
import HandS.Wide
import HandS.WideBits
import HandS.Style
import HandS.IsInst
import HandS.TupAny
import PySem.Challenge.RW_truebeat_k02_whole_products_and_quotient
set_option Elab.async false
set_option linter.all false
set_option maxRecDepth 100000
set_option maxHeartbeats 4000000
namespace TB
open PySem PySem.Spec PyProof.Rows L2
/-! ### where a def of the text stands; a module's constant -/
structure DefAt (K : PySem.W.Frag) (mg : Str → Option Value) (x : Str) (st : Stmt) (ps : List Str) where
  f : Addr
  fd : FuncData
  F : Fun K x x st f fd
  b : Binds K fd ps []
  g : mg x = some (.ref f)
structure ConAt (mg : Str → Option Value) (x : Str) (v : V) where
  u : Value
  g : mg x = some u
  r : RelV v u
def defAt {K : PySem.W.Frag} {h : Heap} {mg : Str → Option Value} {x : Str} {st : Stmt} {ps : List Str} (X : K.In h) (G : h.Ns mainGlobals mg) {f : Addr} {od an : Option Addr} {sl : Array (Option Value)} {oc kV dc pm cd ct : Value}
    (a : PySem.W.nsIn K mainGlobals x = some (some (.ref f))) (l : K.lookup f = some ⟨oc, od, .func (PySem.W.fnOf x x (defArgs st) (defBody st) (defScope st) .none kV dc pm an cd ct), sl⟩) (c : PySem.W.codeIn K cd x = true) (k : PySem.W.keepIn K (.ref f) = true)
    (hb : ∀ (kV doc pm : Value) (an : Option Addr) (cdv ct : Value) (us : List Value), us.length = ps.length → bindArgs (PySem.W.fnOf x x (defArgs st) (defBody st) (defScope st) .none kV doc pm an cdv ct) ⟨us, []⟩ = pure (ps.zip us)) : DefAt K mg x st ps :=
  ⟨f, _, fun_mk l c k, (fun_mk l c k).binds hb, PySem.W.mg_of X G a⟩

/-! ### heaps -/
theorem same_new {H : Hp} {p : Addr} {o : HO} (h : H p = none) : Same H (upd H p o) := fun b x e => by
  rw [upd_ne (ne_of_none e h)]
  exact e
theorem seqT_same {K : PySem.W.Frag} {H H' : Hp} {a : Addr} {xs : List V} (e : Same H H') (h : SqT K H a xs) : SqT K H' a xs := by
  rcases h with (h | ⟨o, h⟩) | h
  · exact .inl (.inl (e _ _ h))
  · exact .inl (.inr ⟨o, e _ _ h⟩)
  · exact .inr h
theorem upd_comm {H : Hp} {a b : Addr} {o u : HO} (h : a ≠ b) : upd (upd H a o) b u = upd (upd H b u) a o := by
  funext c
  unfold upd
  by_cases h1 : c = b
  · subst h1
    rw [if_pos rfl, if_neg (Ne.symm h), if_pos rfl]
  · by_cases h2 : c = a
    · subst h2
      rw [if_neg h1, if_pos rfl, if_pos rfl]
    · rw [if_neg h1, if_neg h2, if_neg h2, if_neg h1]
/-! ### the dice: a list of three ints -/
abbrev dl (x y z : Int) : HO := .lst [.int x, .int y, .int z]
def Dice (H : Hp) (d : Addr) : Prop := ∃ x y z : Int, H d = some (dl x y z)
/-- all but the dice stays -/
structure Ext (d : Addr) (H H' : Hp) : Prop where
  s : ∀ b o, b ≠ d → H b = some o → H' b = some o
  d : Dice H' d
theorem Ext.refl {d : Addr} {H : Hp} (h : Dice H d) : Ext d H H := ⟨fun _ _ _ e => e, h⟩
theorem Ext.trans {d : Addr} {H H1 H2 : Hp} (a : Ext d H H1) (b : Ext d H1 H2) : Ext d H H2 := ⟨fun c o n e => b.s c o n (a.s c o n e), b.d⟩
theorem Ext.same {d : Addr} {H H1 H2 : Hp} (a : Ext d H H1) (b : Same H1 H2) : Ext d H H2 := ⟨fun c o n e => b c o (a.s c o n e), let ⟨x, y, z, e⟩ := a.d; ⟨x, y, z, b _ _ e⟩⟩
theorem Dice.same {d : Addr} {H H1 : Hp} (a : Dice H d) (b : Same H H1) : Dice H1 d := let ⟨x, y, z, e⟩ := a; ⟨x, y, z, b _ _ e⟩
theorem Dice.ne {d p : Addr} {H : Hp} (a : Dice H d) (h : H p = none) : p ≠ d := fun e => by
  obtain ⟨x, y, z, q⟩ := a
  rw [e, q] at h
  cases h
theorem Dice.neT {d p : Addr} {H : Hp} {xs : List V} (a : Dice H d) (h : H p = some (.tup xs)) : p ≠ d := fun e => by
  obtain ⟨x, y, z, q⟩ := a
  rw [e, q] at h
  cases h
theorem Ext.of {d : Addr} {H H' : Hp} (a : Dice H d) (b : Same H H') : Ext d H H' := (Ext.refl a).same b
theorem Ext.new {d p : Addr} {H : Hp} {o : HO} (a : Dice H d) (h : H p = none) : Ext d H (upd H p o) := .of a (same_new h)
theorem Ext.roll {d : Addr} {H : Hp} {x y z : Int} : Ext d H (upd H d (dl x y z)) := ⟨fun b o n e => by rw [upd_ne n]; exact e, x, y, z, upd_same⟩
theorem Ext.seqT {K : PySem.W.Frag} {d a : Addr} {H H' : Hp} {xs : List V} (e : Ext d H H') (hd : Dice H d) (h : SqT K H a xs) : SqT K H' a xs := by
  rcases h with (h | ⟨o, h⟩) | h
  · exact .inl (.inl (e.s _ _ (hd.neT h) h))
  · refine .inl (.inr ⟨o, e.s _ _ (fun z => ?_) h⟩)
    obtain ⟨x, y, w, q⟩ := hd
    rw [z, q] at h
    cases h
  · exact .inr h
theorem Ext.free {d p : Addr} {H H' : Hp} (e : Ext d H H') (hd : Dice H d) (h : H' p = none) : H p = none := by
  cases q : H p with
  | none => rfl
  | some o =>
    have n : p ≠ d := fun z => by
      obtain ⟨x, y, w, r⟩ := e.d
      rw [z, r] at h
      cases h
    rw [e.s _ _ n q] at h
    cases h
/-! ### tests -/
theorem iteB {A B : Prop} {b : Bool} (h : b = true) (q : A) : if b = true then A else B := by
  rw [h]
  exact iteT q
theorem iteBF {A B : Prop} {b : Bool} (h : b = false) (q : B) : if b = true then A else B := by
  rw [h]
  exact iteF q
theorem iteN {A B : Prop} {b : Bool} (h : b = true) (q : B) : if (!b) = true then A else B := by
  rw [h]
  exact iteF q
theorem iteNF {A B : Prop} {b : Bool} (h : b = false) (q : A) : if (!b) = true then A else B := by
  rw [h]
  exact iteT q
theorem ite3 {A B : Prop} {b : Bool} (h1 : b = true → A) (h2 : b = false → B) : if b = true then A else B := by
  cases b with
  | true => exact iteT (h1 rfl)
  | false => exact iteF (h2 rfl)
theorem neF {x y : V} (h : x = y) : (!decide (x = y)) = false := by
  rw [decide_eq_true h]
  rfl
theorem neT {x y : V} (h : x ≠ y) : (!decide (x = y)) = true := by
  rw [decide_eq_false h]
  rfl
theorem neFI {i j : Int} (h : i = j) : (!decide (V.int i = V.int j)) = false := neF (congrArg V.int h)
theorem eqTI {i j : Int} (h : i = j) : decide (V.int i = V.int j) = true := decide_eq_true (congrArg V.int h)
theorem eqFI {i j : Int} (h : i ≠ j) : decide (V.int i = V.int j) = false := decide_eq_false fun z => h (V.int.inj z)
theorem neTI {i j : Int} (h : i ≠ j) : (!decide (V.int i = V.int j)) = true := neT fun z => h (V.int.inj z)
/-! ### written numbers, sizes -/
theorem p0 {c : Int} (h : decide (0 < c) = true := by rfl) : 0 < c := of_decide_eq_true h
theorem cdiv {i j : Int} (h : decide (0 < j ∧ j < 1073741824) = true := by rfl) : CDiv i j := show 0 < j ∧ j < 1073741824 from of_decide_eq_true h
theorem cmulL {i j : Int} (h : decide (-(2 ^ 64) < i ∧ i < 2 ^ 64) = true := by rfl) : CMul i j := .inl (of_decide_eq_true h)
theorem cmulR {i j : Int} (h : decide (-(2 ^ 64) < j ∧ j < 2 ^ 64) = true := by rfl) : CMul i j := .inr (of_decide_eq_true h)
theorem sz {α : Type} {xs : List α} {n : Nat} (h : xs.length = n := by rfl) (h2 : decide (n ≤ 100000) = true := by rfl) : xs.length ≤ sizeLine := by
  rw [h]
  have := of_decide_eq_true h2
  rw [sizeLine_eq]
  omega
theorem szl {n : Nat} (h : n ≤ 100000) : n ≤ sizeLine := by
  rw [sizeLine_eq]
  omega
theorem szlt {n : Nat} (h : n ≤ 100000) : n < sizeLine := by
  rw [sizeLine_eq]
  omega
/-! ### slices -/
theorem cut_to (xs : List V) (k : Nat) : cutV xs none (some (k : Int)) = xs.take k := by
  unfold cutV
  rw [HT.sIx_nat, HT.sIx_none, List.drop_zero, Nat.sub_zero]
  by_cases h : k ≤ xs.length
  · rw [Nat.min_eq_left h]
  · rw [Nat.min_eq_right (by omega), List.take_length, List.take_of_length_le (by omega)]
theorem cut_from (xs : List V) (k : Nat) : cutV xs (some (k : Int)) none = xs.drop k := by
  unfold cutV
  rw [HT.sIx_nat, HT.sIx_none]
  by_cases h : k ≤ xs.length
  · rw [Nat.min_eq_left h, List.take_of_length_le (by rw [List.length_drop]; omega)]
  · rw [Nat.min_eq_right (by omega), List.drop_length, List.drop_of_length_le (by omega), List.take_nil]
/-! ### loops -/
/-- for .. in range(n), the turn's number a Nat -/
theorem for_rangeN {n : Nat} {g : TG} {tb : TS} {D : Ends} {σ : L2.St} {H : Hp} (Pv : Nat → L2.St → Hp → Prop) (h0 : Pv 0 σ H)
    (hs : ∀ i σ H, i < n → Pv i σ H → g (.int (i : Int)) σ H fun σ2 H2 => tb { D with nx := Pv (i + 1), ct := Pv (i + 1), bk := D.nx } σ2 H2) (hd : ∀ σ H, Pv n σ H → D.nx σ H) :
    ∃ W : Nat → Nat → L2.St → Hp → Prop, (∃ m, W 0 m σ H) ∧ ∀ i m σ H, W i m σ H → ((Itr 0 n).stop i H ∧ D.nx σ H) ∨ ((Itr 0 n).go i H ∧ ∃ N : L2.St → Hp → Prop, (∀ σ' H', N σ' H' → ∃ m', m' < m ∧ W (i + 1) m' σ' H') ∧ ∀ x H', (Itr 0 n).yld i H x H' → g x σ H' fun σ2 H2 => tb { D with nx := N, ct := N, bk := D.nx } σ2 H2) :=
  for_range (lo := 0) (n := n) Pv h0 (fun i σ H hi p => by
    have e0 : (0 : Int) + (i : Int) = (i : Int) := Int.zero_add _
    rw [e0]
    exact hs i σ H hi p) hd
/-- for i, x in enumerate(xs) -/
theorem for_enumL {K : PySem.W.Frag} {a : Addr} {xs : List V} {g : TG} {tb : TS} {D : Ends} {σ : L2.St} {H : Hp} (Pv : Nat → L2.St → Hp → Prop) (h0 : Pv 0 σ H) (hq : ∀ i σ H, Pv i σ H → SqL K H a xs)
    (hs : ∀ (i : Nat) (x : V) (T : Addr) (σ : L2.St) (H : Hp), xs[i]? = some x → Pv i σ H → H T = none → g (.ref T) σ (upd H T (.tup [.int (i : Int), x])) fun σ2 H2 => tb { D with nx := Pv (i + 1), ct := Pv (i + 1), bk := D.nx } σ2 H2) (hd : ∀ σ H, Pv xs.length σ H → D.nx σ H) :
    ∃ W : Nat → Nat → L2.St → Hp → Prop, (∃ m, W 0 m σ H) ∧ ∀ i m σ H, W i m σ H → ((Ite K a).stop i H ∧ D.nx σ H) ∨ ((Ite K a).go i H ∧ ∃ N : L2.St → Hp → Prop, (∀ σ' H', N σ' H' → ∃ m', m' < m ∧ W (i + 1) m' σ' H') ∧ ∀ v H', (Ite K a).yld i H v H' → g v σ H' fun σ2 H2 => tb { D with nx := N, ct := N, bk := D.nx } σ2 H2) := by
  refine ⟨fun i m σ H => m = xs.length - i ∧ i ≤ xs.length ∧ Pv i σ H, ⟨xs.length, rfl, Nat.zero_le _, h0⟩, ?_⟩
  rintro i m σ H ⟨rfl, hi, p⟩
  have qx := hq i σ H p
  by_cases hlt : i < xs.length
  · have hx : xs[i]? = some xs[i] := List.getElem?_eq_getElem hlt
    refine .inr ⟨⟨xs, xs[i], qx, hx⟩, Pv (i + 1), fun σ' H' p' => ⟨xs.length - (i + 1), by omega, rfl, hlt, p'⟩, fun v H' y => ?_⟩
    obtain ⟨T, x, rfl, nT, rfl, f⟩ := y
    exact hs i x T σ H (f xs qx) p nT
  · have e : i = xs.length := by omega
    subst e
    exact .inl ⟨⟨xs, qx, Nat.le_refl _⟩, hd σ H p⟩
/-! ### powers of great ints -/
def CPowW (i j : Int) : Prop := 0 ≤ j ∧ (Builtin.Int.intBits i : Int) * j ≤ 2 ^ 27
theorem op_powW {X : Cx} : OpR X (binaryOp .Pow) (rI CPowW fun i j => .int (i ^ j.toNat)) := opI fun _ _ _ _ _ _ _ hc q => pow_int hc.1 hc.2 q
end TB
namespace TB
/-! ### whole numbers -/
theorem two_pos (n : Nat) : (0 : Int) < 2 ^ n := Int.pow_pos (by decide)
theorem two_succ (n : Nat) : (2 : Int) ^ (n + 1) = 2 * 2 ^ n := by rw [Int.pow_succ, Int.mul_comm]
theorem two_add (a b : Nat) : (2 : Int) ^ (a + b) = 2 ^ a * 2 ^ b := Int.pow_add 2 a b
theorem two_mono {a b : Nat} (h : a ≤ b) : (2 : Int) ^ a ≤ 2 ^ b := by
  obtain ⟨c, rfl⟩ := Nat.exists_eq_add_of_le h
  rw [two_add]
  have := two_pos a
  have h2 : (1 : Int) ≤ 2 ^ c := two_pos c
  have := Int.mul_le_mul_of_nonneg_left h2 (Int.le_of_lt (two_pos a))
  omega
theorem two32 {w : Nat} (h : w ≤ 32) : (2 : Int) ^ w ≤ 4294967296 := Int.le_trans (two_mono h) (by decide)
theorem divmod_of {a b q r : Int} (hb : 0 < b) (e : r + b * q = a) (h0 : 0 ≤ r) (h1 : r < b) : a / b = q ∧ a % b = r := (Int.ediv_emod_unique hb).mpr ⟨e, h0, h1⟩
theorem mod_succ (x : Int) (i : Nat) : x % 2 ^ (i + 1) = x % 2 ^ i + 2 ^ i * (x / 2 ^ i % 2) := by
  have hd := two_pos i
  have e1 := Int.emod_add_mul_ediv x (2 ^ i)
  have e2 := Int.emod_add_mul_ediv (x / 2 ^ i) 2
  have l1 := Int.emod_nonneg x (Int.ne_of_gt hd)
  have l2 := Int.emod_lt_of_pos x hd
  rw [two_succ]
  refine (divmod_of (q := x / 2 ^ i / 2) (by omega) ?_ ?_ ?_).2
  · rw [Int.mul_comm 2 ((2 : Int) ^ i), Int.mul_assoc]
    have e3 : (2 : Int) ^ i * (x / 2 ^ i) = 2 ^ i * (x / 2 ^ i % 2) + 2 ^ i * (2 * (x / 2 ^ i / 2)) := by rw [← Int.mul_add, e2]
    omega
  · have := Int.mul_nonneg (Int.le_of_lt hd) (Int.emod_nonneg (x / 2 ^ i) (by decide : (2 : Int) ≠ 0))
    omega
  · have h3 : x / 2 ^ i % 2 ≤ 1 := by omega
    have := Int.mul_le_mul_of_nonneg_left h3 (Int.le_of_lt hd)
    omega
theorem div_div (x : Int) (a b : Nat) : x / 2 ^ a / 2 ^ b = x / 2 ^ (a + b) := by
  rw [two_add, Int.ediv_ediv_of_nonneg (Int.le_of_lt (two_pos a))]
/-! ### bits -/
def bitsI : Nat → Int → List Int
  | 0, _ => []
  | n + 1, x => (x % 2) :: bitsI n (x / 2)
def ofBits : List Int → Int
  | [] => 0
  | b :: r => 2 * ofBits r + b
theorem bitsI_length : ∀ (n : Nat) (x : Int), (bitsI n x).length = n
  | 0, _ => rfl
  | n + 1, x => by simp [bitsI, bitsI_length n (x / 2)]
theorem bitsI_get : ∀ (n : Nat) (x : Int) (i : Nat), i < n → (bitsI n x)[i]? = some (x / 2 ^ i % 2)
  | 0, _, _, h => by omega
  | n + 1, x, 0, _ => by simp [bitsI]
  | n + 1, x, i + 1, h => by
    have := bitsI_get n (x / 2) i (by omega)
    simp only [bitsI, List.getElem?_cons_succ]
    rw [this]
    have e := div_div x 1 i
    rw [show (2 : Int) ^ 1 = 2 from rfl] at e
    rw [e, Nat.add_comm 1 i]
theorem bitsI_range (n : Nat) (x : Int) : ∀ b ∈ bitsI n x, b = 0 ∨ b = 1 := by
  induction n generalizing x with
  | zero => intro b h; cases h
  | succ n ih =>
    intro b h
    rcases List.mem_cons.mp h with rfl | h
    · omega
    · exact ih _ b h
theorem bitsI_snoc (n : Nat) (x : Int) : bitsI (n + 1) x = bitsI n x ++ [x / 2 ^ n % 2] := by
  induction n generalizing x with
  | zero => simp [bitsI]
  | succ n ih =>
    show (x % 2) :: bitsI (n + 1) (x / 2) = (x % 2) :: bitsI n (x / 2) ++ [x / 2 ^ (n + 1) % 2]
    rw [ih (x / 2)]
    have e := div_div x 1 n
    rw [show (2 : Int) ^ 1 = 2 from rfl] at e
    rw [e, Nat.add_comm 1 n]
    rfl
theorem ofBits_bitsI : ∀ (n : Nat) (x : Int), ofBits (bitsI n x) = x % 2 ^ n
  | 0, x => by simp [bitsI, ofBits, Int.emod_one]
  | n + 1, x => by
    show 2 * ofBits (bitsI n (x / 2)) + x % 2 = x % 2 ^ (n + 1)
    rw [ofBits_bitsI n (x / 2)]
    have hd := two_pos n
    have e1 := Int.emod_add_mul_ediv (x / 2) (2 ^ n)
    have l1 := Int.emod_nonneg (x / 2) (Int.ne_of_gt hd)
    have l2 := Int.emod_lt_of_pos (x / 2) hd
    rw [two_succ]
    refine ((divmod_of (q := x / 2 / 2 ^ n) (by omega) ?_ (by omega) (by omega)).2).symm
    rw [Int.mul_assoc]
    omega
theorem bitsI_drop : ∀ (m n : Nat) (x : Int), (bitsI n x).drop m = bitsI (n - m) (x / 2 ^ m)
  | 0, n, x => by simp
  | m + 1, 0, x => by simp [bitsI]
  | m + 1, n + 1, x => by
    show (bitsI n (x / 2)).drop m = _
    rw [bitsI_drop m n (x / 2), Nat.add_sub_add_right]
    have e := div_div x 1 m
    rw [show (2 : Int) ^ 1 = 2 from rfl] at e
    rw [e, Nat.add_comm 1 m]
theorem bitsI_take : ∀ (m n : Nat) (x : Int), m ≤ n → (bitsI n x).take m = bitsI m x
  | 0, n, x, _ => by simp [bitsI]
  | m + 1, 0, x, h => by omega
  | m + 1, n + 1, x, h => by
    show (x % 2) :: (bitsI n (x / 2)).take m = (x % 2) :: bitsI m (x / 2)
    rw [bitsI_take m n (x / 2) (by omega)]
theorem ofBits_zeros : ∀ (p : Nat) (l : List Int), ofBits (List.replicate p 0 ++ l) = 2 ^ p * ofBits l
  | 0, l => by simp
  | p + 1, l => by
    show 2 * ofBits (List.replicate p 0 ++ l) + 0 = 2 ^ (p + 1) * ofBits l
    rw [ofBits_zeros p l, two_succ, Int.mul_assoc]
    omega
theorem mod_small {x : Int} {n : Nat} (h0 : 0 ≤ x) (h1 : x < 2 ^ n) : x % 2 ^ n = x := Int.emod_eq_of_lt h0 h1
theorem div_small {x : Int} {n : Nat} (h0 : 0 ≤ x) (h1 : x < 2 ^ n) : x / 2 ^ n = 0 := Int.ediv_eq_zero_of_lt h0 h1
/-- moved left: zeros come in -/
theorem ofBits_left (w p : Nat) (x : Int) : ofBits ((List.replicate p 0 ++ bitsI w x).take w) = x * 2 ^ p % 2 ^ w := by
  by_cases h : p ≤ w
  · have e : (List.replicate p (0 : Int) ++ bitsI w x).take w = List.replicate p 0 ++ bitsI (w - p) x := by
      rw [List.take_append, List.length_replicate, List.take_of_length_le (by simp; exact h), bitsI_take _ _ _ (by omega)]
    rw [e, ofBits_zeros, ofBits_bitsI]
    have e2 : (2 : Int) ^ w = 2 ^ p * 2 ^ (w - p) := by rw [← two_add, Nat.add_sub_cancel' h]
    rw [e2, Int.mul_comm x, Int.mul_emod_mul_of_pos _ _ (two_pos p)]
  · have e : (List.replicate p (0 : Int) ++ bitsI w x).take w = List.replicate w 0 ++ [] := by
      rw [List.take_append, List.length_replicate, List.take_replicate, Nat.min_eq_left (by omega), show w - p = 0 by omega]
      simp
    rw [e, ofBits_zeros]
    have e2 : (2 : Int) ^ p = 2 ^ w * 2 ^ (p - w) := by rw [← two_add, Nat.add_sub_cancel' (by omega)]
    rw [e2, ← Int.mul_assoc, Int.mul_comm x, Int.mul_assoc, Int.mul_emod_right]
    show 2 ^ w * (0 : Int) = 0
    omega
theorem ofBits_right {w : Nat} (p : Nat) {x : Int} (h0 : 0 ≤ x) (h1 : x < 2 ^ w) : ofBits ((bitsI w x).drop p) = x / 2 ^ p := by
  rw [bitsI_drop, ofBits_bitsI]
  by_cases h : p ≤ w
  · refine Int.emod_eq_of_lt (Int.ediv_nonneg h0 (Int.le_of_lt (two_pos p))) ?_
    refine Int.ediv_lt_of_lt_mul (two_pos p) ?_
    rw [← two_add, Nat.sub_add_cancel h]
    exact h1
  · rw [show w - p = 0 by omega, Int.pow_zero, Int.emod_one]
    exact (div_small h0 (Int.lt_of_lt_of_le h1 (two_mono (by omega)))).symm
/-! ### signed numbers -/
def sgn (w : Nat) (x : Int) : Int := if x / 2 ^ (w - 1) = 1 then x - 2 ^ w else x
theorem sgn_mod (w : Nat) (x : Int) : ∃ k : Int, sgn w x = x + 2 ^ w * k := by
  unfold sgn
  split
  · exact ⟨-1, by omega⟩
  · exact ⟨0, by omega⟩
/-! ### a quotient, bit by bit -/
theorem quot_step {N y b : Int} (hy : 0 < y) (hb : b = 0 ∨ b = 1) :
    (2 * N + b) / y = 2 * (N / y) + (if y ≤ 2 * (N % y) + b then 1 else 0) ∧ (2 * N + b) % y = (if y ≤ 2 * (N % y) + b then 2 * (N % y) + b - y else 2 * (N % y) + b) := by
  have e1 := Int.emod_add_mul_ediv N y
  have l1 := Int.emod_nonneg N (Int.ne_of_gt hy)
  have l2 := Int.emod_lt_of_pos N hy
  have e2 : y * (2 * (N / y)) = 2 * (y * (N / y)) := by rw [← Int.mul_assoc, Int.mul_comm y 2, Int.mul_assoc]
  have e3 : y * (2 * (N / y) + 1) = 2 * (y * (N / y)) + y := by rw [Int.mul_add, e2, Int.mul_one]
  split
  · refine divmod_of hy ?_ (by omega) (by omega)
    omega
  · have e4 : y * (2 * (N / y) + 0) = 2 * (y * (N / y)) := by rw [Int.add_zero, e2]
    refine divmod_of hy ?_ (by omega) (by omega)
    omega
theorem half_bit (x : Int) (k : Nat) : x / 2 ^ k = 2 * (x / 2 ^ (k + 1)) + x / 2 ^ k % 2 := by
  have e := div_div x k 1
  rw [show (2 : Int) ^ 1 = 2 from rfl] at e
  rw [← e]
  omega
end TB
namespace TB
open PySem PySem.Spec PyProof.Rows L2
def topS (i : Nat) : Stmt := PySem.Challenge.pw_truebeat_k02_whole_products_and_quotient.main.body.getD i (.Pass ⟨0, 0, 0, 0⟩)
abbrev s_is_integer : Stmt := topS 5
theorem sc_is_integer : FnScope ["value"] ["value"] (defScope s_is_integer) := ⟨rfl, rfl, rfl, by decide +kernel, rfl, by decide +kernel, by decide +kernel⟩
abbrev s_is_short : Stmt := topS 6
theorem sc_is_short : FnScope ["value"] ["value"] (defScope s_is_short) := ⟨rfl, rfl, rfl, by decide +kernel, rfl, by decide +kernel, by decide +kernel⟩
abbrev s_is_within : Stmt := topS 7
theorem sc_is_within : FnScope ["value", "least", "most"] ["value", "least", "most"] (defScope s_is_within) := ⟨rfl, rfl, rfl, by decide +kernel, rfl, by decide +kernel, by decide +kernel⟩
abbrev s_require_within : Stmt := topS 8
theorem sc_require_within : FnScope ["value", "least", "most"] ["value", "least", "most"] (defScope s_require_within) := ⟨rfl, rfl, rfl, by decide +kernel, rfl, by decide +kernel, by decide +kernel⟩
abbrev s_is_word_in : Stmt := topS 13
theorem sc_is_word_in : FnScope ["width", "value"] ["width", "value"] (defScope s_is_word_in) := ⟨rfl, rfl, rfl, by decide +kernel, rfl, by decide +kernel, by decide +kernel⟩
abbrev s_require_width : Stmt := topS 14
theorem sc_require_width : FnScope ["width"] ["width"] (defScope s_require_width) := ⟨rfl, rfl, rfl, by decide +kernel, rfl, by decide +kernel, by decide +kernel⟩
abbrev s_require_word : Stmt := topS 15
theorem sc_require_word : FnScope ["width", "word"] ["width", "word"] (defScope s_require_word) := ⟨rfl, rfl, rfl, by decide +kernel, rfl, by decide +kernel, by decide +kernel⟩
abbrev s_require_one_word : Stmt := topS 16
theorem sc_require_one_word : FnScope ["width", "word"] ["width", "word"] (defScope s_require_one_word) := ⟨rfl, rfl, rfl, by decide +kernel, rfl, by decide +kernel, by decide +kernel⟩
abbrev s_require_two_words : Stmt := topS 17
theorem sc_require_two_words : FnScope ["width", "one", "other"] ["width", "one", "other"] (defScope s_require_two_words) := ⟨rfl, rfl, rfl, by decide +kernel, rfl, by decide +kernel, by decide +kernel⟩
abbrev s_signed_in : Stmt := topS 18
theorem sc_signed_in : FnScope ["width", "word"] ["width", "word"] (defScope s_signed_in) := ⟨rfl, rfl, rfl, by decide +kernel, rfl, by decide +kernel, by decide +kernel⟩
abbrev s_wrapped : Stmt := topS 19
theorem sc_wrapped : FnScope ["width", "number"] ["width", "number"] (defScope s_wrapped) := ⟨rfl, rfl, rfl, by decide +kernel, rfl, by decide +kernel, by decide +kernel⟩
abbrev s_signed : Stmt := topS 20
theorem sc_signed : FnScope ["width", "word"] ["width", "word"] (defScope s_signed) := ⟨rfl, rfl, rfl, by decide +kernel, rfl, by decide +kernel, by decide +kernel⟩
abbrev s_multiplied : Stmt := topS 21
theorem sc_multiplied : FnScope ["width", "one", "other"] ["width", "one", "other"] (defScope s_multiplied) := ⟨rfl, rfl, rfl, by decide +kernel, rfl, by decide +kernel, by decide +kernel⟩
abbrev s_divided : Stmt := topS 22
theorem sc_divided : FnScope ["width", "one", "other"] ["width", "one", "other"] (defScope s_divided) := ⟨rfl, rfl, rfl, by decide +kernel, rfl, by decide +kernel, by decide +kernel⟩
abbrev s_moved_left : Stmt := topS 23
theorem sc_moved_left : FnScope ["width", "word", "places"] ["width", "word", "places"] (defScope s_moved_left) := ⟨rfl, rfl, rfl, by decide +kernel, rfl, by decide +kernel, by decide +kernel⟩
abbrev s_moved_right : Stmt := topS 24
theorem sc_moved_right : FnScope ["width", "word", "places"] ["width", "word", "places"] (defScope s_moved_right) := ⟨rfl, rfl, rfl, by decide +kernel, rfl, by decide +kernel, by decide +kernel⟩
abbrev s__law_dice : Stmt := topS 26
theorem sc__law_dice : FnScope ["_law_script", "_law_at", "_law_cell", "_law_great", "_law_left", "_law_mixed"] ["_law_script", "_law_at"] (defScope s__law_dice) := ⟨rfl, rfl, rfl, by decide +kernel, rfl, by decide +kernel, by decide +kernel⟩
abbrev s__law_roll : Stmt := topS 27
theorem sc__law_roll : FnScope ["_law_dice_here", "_law_total", "_law_size", "_law_drawn", "_law_one", "_law_two"] ["_law_dice_here", "_law_total"] (defScope s__law_roll) := ⟨rfl, rfl, rfl, by decide +kernel, rfl, by decide +kernel, by decide +kernel⟩
abbrev s__law_one_of : Stmt := topS 28
theorem sc__law_one_of : FnScope ["_law_dice_here", "_law_items"] ["_law_dice_here", "_law_items"] (defScope s__law_one_of) := ⟨rfl, rfl, rfl, by decide +kernel, rfl, by decide +kernel, by decide +kernel⟩
abbrev s__law_two_to : Stmt := topS 29
theorem sc__law_two_to : FnScope ["_law_bits_here", "_law_found", "_law_turn"] ["_law_bits_here"] (defScope s__law_two_to) := ⟨rfl, rfl, rfl, by decide +kernel, rfl, by decide +kernel, by decide +kernel⟩
abbrev s__law_word_drawn : Stmt := topS 30
theorem sc__law_word_drawn : FnScope ["_law_dice_here", "_law_width", "_law_size"] ["_law_dice_here", "_law_width"] (defScope s__law_word_drawn) := ⟨rfl, rfl, rfl, by decide +kernel, rfl, by decide +kernel, by decide +kernel⟩
abbrev s__law_bits : Stmt := topS 31
theorem sc__law_bits : FnScope ["_law_width", "_law_word", "_law_found", "_law_left", "_law_place"] ["_law_width", "_law_word"] (defScope s__law_bits) := ⟨rfl, rfl, rfl, by decide +kernel, rfl, by decide +kernel, by decide +kernel⟩
abbrev s__law_of_bits : Stmt := topS 32
theorem sc__law_of_bits : FnScope ["_law_bits_here", "_law_found", "_law_bit"] ["_law_bits_here"] (defScope s__law_of_bits) := ⟨rfl, rfl, rfl, by decide +kernel, rfl, by decide +kernel, by decide +kernel⟩
abbrev s__law_width_drawn : Stmt := topS 33
theorem sc__law_width_drawn : FnScope ["_law_dice_here"] ["_law_dice_here"] (defScope s__law_width_drawn) := ⟨rfl, rfl, rfl, by decide +kernel, rfl, by decide +kernel, by decide +kernel⟩
abbrev s__law_product : Stmt := topS 34
theorem sc__law_product : FnScope ["_law_width", "_law_one", "_law_other", "_law_total", "_law_place", "_law_bit"] ["_law_width", "_law_one", "_law_other"] (defScope s__law_product) := ⟨rfl, rfl, rfl, by decide +kernel, rfl, by decide +kernel, by decide +kernel⟩
abbrev s__law_quotient : Stmt := topS 35
theorem sc__law_quotient : FnScope ["_law_width", "_law_one", "_law_other", "_law_rest", "_law_found", "_law_bit"] ["_law_width", "_law_one", "_law_other"] (defScope s__law_quotient) := ⟨rfl, rfl, rfl, by decide +kernel, rfl, by decide +kernel, by decide +kernel⟩
abbrev s__law_moves_right : Stmt := topS 36
theorem sc__law_moves_right : FnScope ["_law_dice_here", "_law_width", "_law_word", "_law_bits_here", "_law_places"] ["_law_dice_here", "_law_width", "_law_word"] (defScope s__law_moves_right) := ⟨rfl, rfl, rfl, by decide +kernel, rfl, by decide +kernel, by decide +kernel⟩
abbrev s__law_right : Stmt := topS 37
theorem sc__law_right : FnScope ["_law_dice_here", "_law_width", "_law_one", "_law_other", "_law_size", "_law_both", "_law_lesser", "_law_parts"] ["_law_dice_here"] (defScope s__law_right) := ⟨rfl, rfl, rfl, by decide +kernel, rfl, by decide +kernel, by decide +kernel⟩
abbrev s_law : Stmt := topS 38
theorem sc_law : FnScope ["_law_script", "_law_at", "_law_dice_here", "_law_turn", "_law_told"] ["_law_script"] (defScope s_law) := ⟨rfl, rfl, rfl, by decide +kernel, rfl, by decide +kernel, by decide +kernel⟩
structure Txt (K : PySem.W.Frag) (mg : Str → Option Value) where
  is_integer : DefAt K mg "is_integer" s_is_integer ["value"]
  is_short : DefAt K mg "is_short" s_is_short ["value"]
  is_within : DefAt K mg "is_within" s_is_within ["value", "least", "most"]
  require_within : DefAt K mg "require_within" s_require_within ["value", "least", "most"]
  is_word_in : DefAt K mg "is_word_in" s_is_word_in ["width", "value"]
  require_width : DefAt K mg "require_width" s_require_width ["width"]
  require_word : DefAt K mg "require_word" s_require_word ["width", "word"]
  require_one_word : DefAt K mg "require_one_word" s_require_one_word ["width", "word"]
  require_two_words : DefAt K mg "require_two_words" s_require_two_words ["width", "one", "other"]
  signed_in : DefAt K mg "signed_in" s_signed_in ["width", "word"]
  wrapped : DefAt K mg "wrapped" s_wrapped ["width", "number"]
  signed : DefAt K mg "signed" s_signed ["width", "word"]
  multiplied : DefAt K mg "multiplied" s_multiplied ["width", "one", "other"]
  divided : DefAt K mg "divided" s_divided ["width", "one", "other"]
  moved_left : DefAt K mg "moved_left" s_moved_left ["width", "word", "places"]
  moved_right : DefAt K mg "moved_right" s_moved_right ["width", "word", "places"]
  _law_dice : DefAt K mg "_law_dice" s__law_dice ["_law_script", "_law_at"]
  _law_roll : DefAt K mg "_law_roll" s__law_roll ["_law_dice_here", "_law_total"]
  _law_one_of : DefAt K mg "_law_one_of" s__law_one_of ["_law_dice_here", "_law_items"]
  _law_two_to : DefAt K mg "_law_two_to" s__law_two_to ["_law_bits_here"]
  _law_word_drawn : DefAt K mg "_law_word_drawn" s__law_word_drawn ["_law_dice_here", "_law_width"]
  _law_bits : DefAt K mg "_law_bits" s__law_bits ["_law_width", "_law_word"]
  _law_of_bits : DefAt K mg "_law_of_bits" s__law_of_bits ["_law_bits_here"]
  _law_width_drawn : DefAt K mg "_law_width_drawn" s__law_width_drawn ["_law_dice_here"]
  _law_product : DefAt K mg "_law_product" s__law_product ["_law_width", "_law_one", "_law_other"]
  _law_quotient : DefAt K mg "_law_quotient" s__law_quotient ["_law_width", "_law_one", "_law_other"]
  _law_moves_right : DefAt K mg "_law_moves_right" s__law_moves_right ["_law_dice_here", "_law_width", "_law_word"]
  _law_right : DefAt K mg "_law_right" s__law_right ["_law_dice_here"]
  law : DefAt K mg "law" s_law ["_law_script"]
  SIXTY : ConAt mg "SIXTY" (.int (10 ^ 60))
  MAX_WIDTH : ConAt mg "MAX_WIDTH" (.int 32)
  MAX_PLACES : ConAt mg "MAX_PLACES" (.int 63)
  z_isinstance : mg "isinstance" = none
  z_int : mg "int" = none
  z_bool : mg "bool" = none
  z_divmod : mg "divmod" = none
  z_len : mg "len" = none
  z_abs : mg "abs" = none
  z_range : mg "range" = none
  z_list : mg "list" = none
  z_enumerate : mg "enumerate" = none
  z_max : mg "max" = none
  z_min : mg "min" = none
section
variable {P : Program} {w : World} {K : PySem.W.Frag} {mg : Str → Option Value} {base : Heap}
/-! ### the package -/
def sp_is_integer (K : PySem.W.Frag) : Sp := fun vs H Q _ => ∃ i : Int, vs = [.int i] ∧ Q (.bl true) H
theorem ok_is_integer (T : Txt K mg) : FnOk P w K mg base CX0 1 T.is_integer.f T.is_integer.fd ["value"] (sp_is_integer K) := by
  refine T.is_integer.F.ok sc_is_integer (fun vs H Q E h => ?_) (fun cdv A outer s H vs Q E hr h => ?_)
  · obtain ⟨i, rfl, _⟩ := h
    rfl
  · obtain ⟨i, rfl, q⟩ := h
    refine ⟨_, (pss_one (ps_ret (pe_and (pe_callB call_isi (by rfl) T.z_isinstance (by decide +kernel) (pa_cons (pv 0) (pa_cons (pe_bltn (v := .ty "int") (by rfl) T.z_int (by decide +kernel) rfl) pa_nil))) (pe_one (pe_not (pe_callB call_isi (by rfl) T.z_isinstance (by decide +kernel) (pa_cons (pv 0) (pa_cons (pe_bltn (v := .ty "bool") (by rfl) T.z_bool (by decide +kernel) rfl) pa_nil)))))))), ?_⟩
    refine ⟨_, rfl, .int i, .ty "int", .type "int", .type "int", true, rfl, .ty _, .base (.int i), kit_ty (by decide +kernel), true, rfl, iteT ?_⟩
    exact ⟨_, rfl, .int i, .ty "bool", .type "int", .type "bool", false, rfl, .ty _, .base (.int i), kit_ty (by decide +kernel), false, rfl, q⟩
def sp_is_short (K : PySem.W.Frag) : Sp := fun vs H Q _ => ∃ i : Int, vs = [.int i] ∧ -(10 ^ 60) < i ∧ i < 10 ^ 60 ∧ Q (.bl true) H
theorem ok_is_short (T : Txt K mg) : FnOk P w K mg base CX0 2 T.is_short.f T.is_short.fd ["value"] (sp_is_short K) := by
  refine T.is_short.F.ok sc_is_short (fun vs H Q E h => ?_) (fun cdv A outer s H vs Q E hr h => ?_)
  · obtain ⟨i, rfl, _⟩ := h
    rfl
  · obtain ⟨i, rfl, h1, h2, q⟩ := h
    refine ⟨_, (pss_one (ps_ret (pe_and (pe_call (ok_is_integer T) (hr.mono (by decide)) (by rfl) T.is_integer.g T.is_integer.F.kp T.is_integer.b .nil pass0 (pa_cons (pv 0) pa_nil)) (pe_one (pe_chain op_lt op_lt (pe_un un_neg (pe_glob rfl T.SIXTY.g T.SIXTY.r)) (pv 0) (pe_glob rfl T.SIXTY.g T.SIXTY.r)))))), ?_⟩
    refine ⟨_, rfl, i, rfl, true, rfl, iteT ?_⟩
    refine ⟨_, rfl, _, rfl, _, i, rfl, rfl, _, rfl, iteB (decide_eq_true h1) ?_⟩
    refine ⟨i, _, rfl, rfl, ?_⟩
    show Q (.bl (decide (i < 10 ^ 60))) H
    rw [decide_eq_true h2]
    exact q
def sp_is_within (K : PySem.W.Frag) : Sp := fun vs H Q _ => ∃ i lo hi : Int, vs = [.int i, .int lo, .int hi] ∧ Q (.bl (decide (lo ≤ i) && decide (i ≤ hi))) H
theorem ok_is_within (T : Txt K mg) : FnOk P w K mg base CX0 2 T.is_within.f T.is_within.fd ["value", "least", "most"] (sp_is_within K) := by
  refine T.is_within.F.ok sc_is_within (fun vs H Q E h => ?_) (fun cdv A outer s H vs Q E hr h => ?_)
  · obtain ⟨i, lo, hi, rfl, _⟩ := h
    rfl
  · obtain ⟨i, lo, hi, rfl, q⟩ := h
    refine ⟨_, (pss_one (ps_ret (pe_and (pe_call (ok_is_integer T) (hr.mono (by decide)) (by rfl) T.is_integer.g T.is_integer.F.kp T.is_integer.b .nil pass0 (pa_cons (pv 0) pa_nil)) (pe_one (pe_chain op_le op_le (pv 1) (pv 0) (pv 2)))))), ?_⟩
    refine ⟨_, rfl, i, rfl, true, rfl, iteT ?_⟩
    refine ⟨_, rfl, _, rfl, lo, i, rfl, rfl, _, rfl, ?_⟩
    cases e : decide (lo ≤ i) with
    | true =>
      rw [e] at q
      exact iteT ⟨_, rfl, i, hi, rfl, rfl, q⟩
    | false =>
      rw [e] at q
      exact iteF q
def sp_require_within (K : PySem.W.Frag) : Sp := fun vs H Q _ => ∃ i lo hi : Int, vs = [.int i, .int lo, .int hi] ∧ lo ≤ i ∧ i ≤ hi ∧ Q .non H
theorem ok_require_within (T : Txt K mg) : FnOk P w K mg base CX0 3 T.require_within.f T.require_within.fd ["value", "least", "most"] (sp_require_within K) := by
  refine T.require_within.F.ok sc_require_within (fun vs H Q E h => ?_) (fun cdv A outer s H vs Q E hr h => ?_)
  · obtain ⟨i, lo, hi, rfl, _⟩ := h
    rfl
  · obtain ⟨i, lo, hi, rfl, h1, h2, q⟩ := h
    refine ⟨_, (pss_one (ps_if (pt_not (pt_val (pe_call (ok_is_within T) (hr.mono (by decide)) (by rfl) T.is_within.g T.is_within.F.kp T.is_within.b .nil pass0 (pa_cons (pv 0) (pa_cons (pv 1) (pa_cons (pv 2) pa_nil)))))) 
        (pss_one ps_never) pss_nil)), ?_⟩
    exact ⟨_, rfl, _, rfl, _, rfl, i, lo, hi, rfl, _, rfl, iteN (by rw [decide_eq_true h1, decide_eq_true h2]; rfl) q⟩
def sp_is_word_in (K : PySem.W.Frag) : Sp := fun vs H Q _ => ∃ (n : Nat) (x : Int), vs = [.int n, .int x] ∧ n ≤ 1000 ∧ Q (.bl (decide (0 ≤ x) && decide (x ≤ 2 ^ n - 1))) H
theorem ok_is_word_in (T : Txt K mg) : FnOk P w K mg base CX0 3 T.is_word_in.f T.is_word_in.fd ["width", "value"] (sp_is_word_in K) := by
  refine T.is_word_in.F.ok sc_is_word_in (fun vs H Q E h => ?_) (fun cdv A outer s H vs Q E hr h => ?_)
  · obtain ⟨n, x, rfl, _⟩ := h
    rfl
  · obtain ⟨n, x, rfl, hn, q⟩ := h
    refine ⟨_, (pss_one (ps_ret (pe_call (ok_is_within T) (hr.mono (by decide)) (by rfl) T.is_within.g T.is_within.F.kp T.is_within.b .nil pass0 (pa_cons (pv 1) (pa_cons pe_int (pa_cons (pe_op op_sub (pe_op op_oneShl pe_int (pv 0)) pe_int) pa_nil)))))), ?_⟩
    exact ⟨_, rfl, _, rfl, n, rfl, rfl, by omega, _, _, rfl, rfl, x, 0, _, rfl, q⟩
def sp_require_width (K : PySem.W.Frag) : Sp := fun vs H Q _ => ∃ n : Nat, vs = [.int n] ∧ 1 ≤ n ∧ n ≤ 32 ∧ Q .non H
theorem ok_require_width (T : Txt K mg) : FnOk P w K mg base CX0 4 T.require_width.f T.require_width.fd ["width"] (sp_require_width K) := by
  refine T.require_width.F.ok sc_require_width (fun vs H Q E h => ?_) (fun cdv A outer s H vs Q E hr h => ?_)
  · obtain ⟨n, rfl, _⟩ := h
    rfl
  · obtain ⟨n, rfl, h1, h2, q⟩ := h
    refine ⟨_, (pss_one (ps_expr (pe_call (ok_require_within T) (hr.mono (by decide)) (by rfl) T.require_within.g T.require_within.F.kp T.require_within.b .nil pass0 (pa_cons (pv 0) (pa_cons pe_int (pa_cons (pe_glob rfl T.MAX_WIDTH.g T.MAX_WIDTH.r) pa_nil)))))), ?_⟩
    exact ⟨_, rfl, n, 1, 32, rfl, by omega, by omega, q⟩
def sp_require_word (K : PySem.W.Frag) : Sp := fun vs H Q _ => ∃ (n : Nat) (x : Int), vs = [.int n, .int x] ∧ n ≤ 1000 ∧ 0 ≤ x ∧ x < 2 ^ n ∧ Q .non H
theorem ok_require_word (T : Txt K mg) : FnOk P w K mg base CX0 4 T.require_word.f T.require_word.fd ["width", "word"] (sp_require_word K) := by
  refine T.require_word.F.ok sc_require_word (fun vs H Q E h => ?_) (fun cdv A outer s H vs Q E hr h => ?_)
  · obtain ⟨n, x, rfl, _⟩ := h
    rfl
  · obtain ⟨n, x, rfl, hn, h1, h2, q⟩ := h
    refine ⟨_, (pss_one (ps_if (pt_not (pt_val (pe_call (ok_is_word_in T) (hr.mono (by decide)) (by rfl) T.is_word_in.g T.is_word_in.F.kp T.is_word_in.b .nil pass0 (pa_cons (pv 0) (pa_cons (pv 1) pa_nil))))) 
        (pss_one ps_never) pss_nil)), ?_⟩
    exact ⟨_, rfl, _, rfl, n, x, rfl, hn, _, rfl, iteN (by rw [decide_eq_true h1, decide_eq_true (show x ≤ 2 ^ n - 1 by omega)]; rfl) q⟩
def sp_require_one_word (K : PySem.W.Frag) : Sp := fun vs H Q _ => ∃ (n : Nat) (x : Int), vs = [.int n, .int x] ∧ 1 ≤ n ∧ n ≤ 32 ∧ 0 ≤ x ∧ x < 2 ^ n ∧ Q .non H
theorem ok_require_one_word (T : Txt K mg) : FnOk P w K mg base CX0 5 T.require_one_word.f T.require_one_word.fd ["width", "word"] (sp_require_one_word K) := by
  refine T.require_one_word.F.ok sc_require_one_word (fun vs H Q E h => ?_) (fun cdv A outer s H vs Q E hr h => ?_)
  · obtain ⟨n, x, rfl, _⟩ := h
    rfl
  · obtain ⟨n, x, rfl, h1, h2, h3, h4, q⟩ := h
    refine ⟨_, (pss_cons (ps_expr (pe_call (ok_require_width T) (hr.mono (by decide)) (by rfl) T.require_width.g T.require_width.F.kp T.require_width.b .nil pass0 (pa_cons (pv 0) pa_nil))) 
      (pss_one (ps_expr (pe_call (ok_require_word T) (hr.mono (by decide)) (by rfl) T.require_word.g T.require_word.F.kp T.require_word.b .nil pass0 (pa_cons (pv 0) (pa_cons (pv 1) pa_nil)))))), ?_⟩
    exact ⟨_, rfl, n, rfl, h1, h2, _, rfl, _, rfl, n, x, rfl, by omega, h3, h4, q⟩
def sp_require_two_words (K : PySem.W.Frag) : Sp := fun vs H Q _ => ∃ (n : Nat) (x y : Int), vs = [.int n, .int x, .int y] ∧ 1 ≤ n ∧ n ≤ 32 ∧ 0 ≤ x ∧ x < 2 ^ n ∧ 0 ≤ y ∧ y < 2 ^ n ∧ Q .non H
theorem ok_require_two_words (T : Txt K mg) : FnOk P w K mg base CX0 6 T.require_two_words.f T.require_two_words.fd ["width", "one", "other"] (sp_require_two_words K) := by
  refine T.require_two_words.F.ok sc_require_two_words (fun vs H Q E h => ?_) (fun cdv A outer s H vs Q E hr h => ?_)
  · obtain ⟨n, x, y, rfl, _⟩ := h
    rfl
  · obtain ⟨n, x, y, rfl, h1, h2, h3, h4, h5, h6, q⟩ := h
    refine ⟨_, (pss_cons (ps_expr (pe_call (ok_require_one_word T) (hr.mono (by decide)) (by rfl) T.require_one_word.g T.require_one_word.F.kp T.require_one_word.b .nil pass0 (pa_cons (pv 0) (pa_cons (pv 1) pa_nil)))) 
      (pss_one (ps_expr (pe_call (ok_require_word T) (hr.mono (by decide)) (by rfl) T.require_word.g T.require_word.F.kp T.require_word.b .nil pass0 (pa_cons (pv 0) (pa_cons (pv 2) pa_nil)))))), ?_⟩
    exact ⟨_, rfl, _, rfl, n, x, rfl, h1, h2, h3, h4, _, rfl, _, rfl, n, y, rfl, by omega, h5, h6, q⟩
def sp_signed_in (K : PySem.W.Frag) : Sp := fun vs H Q _ => ∃ (n : Nat) (x : Int), vs = [.int n, .int x] ∧ 1 ≤ n ∧ n ≤ 1000 ∧ Q (.int (sgn n x)) H
theorem ok_signed_in (T : Txt K mg) : FnOk P w K mg base CX0 1 T.signed_in.f T.signed_in.fd ["width", "word"] (sp_signed_in K) := by
  refine T.signed_in.F.ok sc_signed_in (fun vs H Q E h => ?_) (fun cdv A outer s H vs Q E hr h => ?_)
  · obtain ⟨n, x, rfl, _⟩ := h
    rfl
  · obtain ⟨n, x, rfl, h1, h2, q⟩ := h
    refine ⟨_, (pss_one (ps_ret (pe_ifExp (pt_cmpR op_eq (pe_op op_shrN (pv 1) (pe_op op_sub (pv 0) pe_int)) pe_int (nomark _)) (pe_op op_sub (pv 1) (pe_op op_oneShl pe_int (pv 0))) (pv 1)))), ?_⟩
    refine ⟨_, rfl, _, rfl, n, 1, rfl, rfl, x, n - 1, rfl, congrArg V.int (by omega), rfl, _, rfl, ?_⟩
    unfold sgn at q
    refine ite2 (fun e => ?_) (fun e => ?_)
    · have e1 : x / 2 ^ (n - 1) = 1 := V.int.inj (of_decide_eq_true e)
      rw [if_pos e1] at q
      exact ⟨_, rfl, _, rfl, n, rfl, rfl, by omega, _, _, rfl, rfl, q⟩
    · have e1 : ¬ x / 2 ^ (n - 1) = 1 := fun z => e (decide_eq_true (congrArg V.int z))
      rw [if_neg e1] at q
      exact ⟨_, rfl, q⟩
def sp_wrapped (K : PySem.W.Frag) : Sp := fun vs H Q _ => ∃ (n : Nat) (x : Int), vs = [.int n, .int x] ∧ 1 ≤ n ∧ n ≤ 32 ∧ -(10 ^ 60) < x ∧ x < 10 ^ 60 ∧ Q (.int (x % 2 ^ n)) H
theorem ok_wrapped (T : Txt K mg) : FnOk P w K mg base CX0 5 T.wrapped.f T.wrapped.fd ["width", "number"] (sp_wrapped K) := by
  refine T.wrapped.F.ok sc_wrapped (fun vs H Q E h => ?_) (fun cdv A outer s H vs Q E hr h => ?_)
  · obtain ⟨n, x, rfl, _⟩ := h
    rfl
  · obtain ⟨n, x, rfl, h1, h2, h3, h4, q⟩ := h
    refine ⟨_, (pss_cons (ps_expr (pe_call (ok_require_width T) (hr.mono (by decide)) (by rfl) T.require_width.g T.require_width.F.kp T.require_width.b .nil pass0 (pa_cons (pv 0) pa_nil))) 
      (pss_cons (ps_if (pt_not (pt_val (pe_call (ok_is_short T) (hr.mono (by decide)) (by rfl) T.is_short.g T.is_short.F.kp T.is_short.b .nil pass0 (pa_cons (pv 1) pa_nil)))) 
        (pss_one ps_never) pss_nil) 
      (pss_one (ps_ret (pe_op op_mod (pv 1) (pe_op op_oneShl pe_int (pv 0))))))), ?_⟩
    exact ⟨_, rfl, n, rfl, h1, h2, _, rfl, x, rfl, h3, h4, _, rfl, iteF ⟨_, rfl, _, rfl, n, rfl, rfl, by omega, _, _, rfl, rfl, two_pos n, q⟩⟩
def sp_signed (K : PySem.W.Frag) : Sp := fun vs H Q _ => ∃ (n : Nat) (x : Int), vs = [.int n, .int x] ∧ 1 ≤ n ∧ n ≤ 32 ∧ 0 ≤ x ∧ x < 2 ^ n ∧ Q (.int (sgn n x)) H
theorem ok_signed (T : Txt K mg) : FnOk P w K mg base CX0 6 T.signed.f T.signed.fd ["width", "word"] (sp_signed K) := by
  refine T.signed.F.ok sc_signed (fun vs H Q E h => ?_) (fun cdv A outer s H vs Q E hr h => ?_)
  · obtain ⟨n, x, rfl, _⟩ := h
    rfl
  · obtain ⟨n, x, rfl, h1, h2, h3, h4, q⟩ := h
    refine ⟨_, (pss_cons (ps_expr (pe_call (ok_require_one_word T) (hr.mono (by decide)) (by rfl) T.require_one_word.g T.require_one_word.F.kp T.require_one_word.b .nil pass0 (pa_cons (pv 0) (pa_cons (pv 1) pa_nil)))) 
      (pss_one (ps_ret (pe_call (ok_signed_in T) (hr.mono (by decide)) (by rfl) T.signed_in.g T.signed_in.F.kp T.signed_in.b .nil pass0 (pa_cons (pv 0) (pa_cons (pv 1) pa_nil)))))), ?_⟩
    exact ⟨_, rfl, _, rfl, n, x, rfl, h1, h2, h3, h4, _, rfl, _, rfl, n, x, rfl, h1, by omega, q⟩
def sp_multiplied (K : PySem.W.Frag) : Sp := fun vs H Q _ => ∃ (n : Nat) (x y : Int), vs = [.int n, .int x, .int y] ∧ 1 ≤ n ∧ n ≤ 32 ∧ 0 ≤ x ∧ x < 2 ^ n ∧ 0 ≤ y ∧ y < 2 ^ n ∧ ∀ p, H p = none → Q (.ref p) (upd H p (.tup [.int (x * y % 2 ^ n), .int (x * y / 2 ^ n)]))
theorem ok_multiplied (T : Txt K mg) : FnOk P w K mg base CX0 7 T.multiplied.f T.multiplied.fd ["width", "one", "other"] (sp_multiplied K) := by
  refine T.multiplied.F.ok sc_multiplied (fun vs H Q E h => ?_) (fun cdv A outer s H vs Q E hr h => ?_)
  · obtain ⟨n, x, y, rfl, _⟩ := h
    rfl
  · obtain ⟨n, x, y, rfl, h1, h2, h3, h4, h5, h6, q⟩ := h
    have hb := two32 h2
    have hc : CMul x y := .inl ⟨by omega, by omega⟩
    refine ⟨_, (pss_cons (ps_expr (pe_call (ok_require_two_words T) (hr.mono (by decide)) (by rfl) T.require_two_words.g T.require_two_words.F.kp T.require_two_words.b .nil pass0 (pa_cons (pv 0) (pa_cons (pv 1) (pa_cons (pv 2) pa_nil))))) 
      (pss_one (ps_ret (pe_tup (pa_cons (pe_op op_mod (pe_op op_mul (pv 1) (pv 2)) (pe_op op_oneShl pe_int (pv 0))) (pa_cons (pe_op op_shrN (pe_op op_mul (pv 1) (pv 2)) (pv 0)) pa_nil)))))), ?_⟩
    refine ⟨_, rfl, _, rfl, _, rfl, n, x, y, rfl, h1, h2, h3, h4, h5, h6, ?_⟩
    refine ⟨_, rfl, _, rfl, x, y, rfl, rfl, hc, _, rfl, n, rfl, rfl, by omega, _, _, rfl, rfl, two_pos n, ?_⟩
    exact ⟨_, rfl, _, rfl, x, y, rfl, rfl, hc, _, rfl, _, n, rfl, rfl, (by show 2 ≤ sizeLine; decide), q⟩
def sp_divided (K : PySem.W.Frag) : Sp := fun vs H Q _ => ∃ (n : Nat) (x y : Int), vs = [.int n, .int x, .int y] ∧ 1 ≤ n ∧ n ≤ 32 ∧ 0 ≤ x ∧ x < 2 ^ n ∧ 0 < y ∧ y < 2 ^ n ∧ ∀ p, H p = none → Q (.ref p) (upd H p (.tup [.int (x / y), .int (x % y)]))
theorem ok_divided (T : Txt K mg) : FnOk P w K mg base CX0 7 T.divided.f T.divided.fd ["width", "one", "other"] (sp_divided K) := by
  refine T.divided.F.ok sc_divided (fun vs H Q E h => ?_) (fun cdv A outer s H vs Q E hr h => ?_)
  · obtain ⟨n, x, y, rfl, _⟩ := h
    rfl
  · obtain ⟨n, x, y, rfl, h1, h2, h3, h4, h5, h6, q⟩ := h
    have hb := two32 h2
    refine ⟨_, (pss_cons (ps_expr (pe_call (ok_require_two_words T) (hr.mono (by decide)) (by rfl) T.require_two_words.g T.require_two_words.F.kp T.require_two_words.b .nil pass0 (pa_cons (pv 0) (pa_cons (pv 1) (pa_cons (pv 2) pa_nil))))) 
      (pss_cons (ps_if (pt_cmpR op_eq (pv 2) pe_int (nomark _)) 
        (pss_one ps_never) pss_nil) 
      (pss_one (ps_ret (pe_callB call_divmodW (by rfl) T.z_divmod (by decide +kernel) (pa_cons (pv 1) (pa_cons (pv 2) pa_nil))))))), ?_⟩
    refine ⟨_, rfl, _, rfl, _, rfl, n, x, y, rfl, h1, h2, h3, h4, by omega, h6, ?_⟩
    refine ⟨_, rfl, rfl, _, rfl, iteBF (decide_eq_false fun z => by have := V.int.inj z; omega) ?_⟩
    refine ⟨_, rfl, _, rfl, x, y, rfl, divp_ok h5 ?_, q⟩
    have := intBits_le (a := x) (k := 32) (by omega)
    omega
def sp_moved_left (K : PySem.W.Frag) : Sp := fun vs H Q _ => ∃ (n : Nat) (x : Int) (k : Nat), vs = [.int n, .int x, .int k] ∧ 1 ≤ n ∧ n ≤ 32 ∧ 0 ≤ x ∧ x < 2 ^ n ∧ k ≤ 63 ∧ Q (.int (x * 2 ^ k % 2 ^ n)) H
theorem ok_moved_left (T : Txt K mg) : FnOk P w K mg base CX0 6 T.moved_left.f T.moved_left.fd ["width", "word", "places"] (sp_moved_left K) := by
  refine T.moved_left.F.ok sc_moved_left (fun vs H Q E h => ?_) (fun cdv A outer s H vs Q E hr h => ?_)
  · obtain ⟨n, x, k, rfl, _⟩ := h
    rfl
  · obtain ⟨n, x, k, rfl, h1, h2, h3, h4, h5, q⟩ := h
    have hb := two32 h2
    refine ⟨_, (pss_cons (ps_expr (pe_call (ok_require_one_word T) (hr.mono (by decide)) (by rfl) T.require_one_word.g T.require_one_word.F.kp T.require_one_word.b .nil pass0 (pa_cons (pv 0) (pa_cons (pv 1) pa_nil)))) 
      (pss_cons (ps_expr (pe_call (ok_require_within T) (hr.mono (by decide)) (by rfl) T.require_within.g T.require_within.F.kp T.require_within.b .nil pass0 (pa_cons (pv 2) (pa_cons pe_int (pa_cons (pe_glob rfl T.MAX_PLACES.g T.MAX_PLACES.r) pa_nil))))) 
      (pss_one (ps_ret (pe_op op_mod (pe_op op_shlN (pv 1) (pv 2)) (pe_op op_oneShl pe_int (pv 0))))))), ?_⟩
    refine ⟨_, rfl, _, rfl, n, x, rfl, h1, h2, h3, h4, _, rfl, k, 0, 63, rfl, by omega, by omega, ?_⟩
    exact ⟨_, rfl, _, rfl, x, k, rfl, rfl, shl_ok (n := 32) (by omega) (by omega), _, rfl, n, rfl, rfl, by omega, _, _, rfl, rfl, two_pos n, q⟩
def sp_moved_right (K : PySem.W.Frag) : Sp := fun vs H Q _ => ∃ (n : Nat) (x : Int) (k : Nat), vs = [.int n, .int x, .int k] ∧ 1 ≤ n ∧ n ≤ 32 ∧ 0 ≤ x ∧ x < 2 ^ n ∧ k ≤ 63 ∧ Q (.int (x / 2 ^ k)) H
theorem ok_moved_right (T : Txt K mg) : FnOk P w K mg base CX0 6 T.moved_right.f T.moved_right.fd ["width", "word", "places"] (sp_moved_right K) := by
  refine T.moved_right.F.ok sc_moved_right (fun vs H Q E h => ?_) (fun cdv A outer s H vs Q E hr h => ?_)
  · obtain ⟨n, x, k, rfl, _⟩ := h
    rfl
  · obtain ⟨n, x, k, rfl, h1, h2, h3, h4, h5, q⟩ := h
    refine ⟨_, (pss_cons (ps_expr (pe_call (ok_require_one_word T) (hr.mono (by decide)) (by rfl) T.require_one_word.g T.require_one_word.F.kp T.require_one_word.b .nil pass0 (pa_cons (pv 0) (pa_cons (pv 1) pa_nil)))) 
      (pss_cons (ps_expr (pe_call (ok_require_within T) (hr.mono (by decide)) (by rfl) T.require_within.g T.require_within.F.kp T.require_within.b .nil pass0 (pa_cons (pv 2) (pa_cons pe_int (pa_cons (pe_glob rfl T.MAX_PLACES.g T.MAX_PLACES.r) pa_nil))))) 
      (pss_one (ps_ret (pe_op op_shrN (pv 1) (pv 2)))))), ?_⟩
    exact ⟨_, rfl, _, rfl, n, x, rfl, h1, h2, h3, h4, _, rfl, k, 0, 63, rfl, by omega, by omega, _, rfl, _, rfl, _, k, rfl, rfl, q⟩
end
end TB
namespace TB
open PySem PySem.Spec PyProof.Rows L2
section
variable {P : Program} {w : World} {K : PySem.W.Frag} {mg : Str → Option Value} {base : Heap}
/-! ### the law's own helpers -/
def sp__law_dice (K : PySem.W.Frag) : Sp := fun vs H Q _ => ∃ (a : Addr) (ns : List Int) (i : Nat), vs = [.ref a, .int i] ∧ SqL K H a (ns.map V.int) ∧ ∀ p x y z, H p = none → Q (.ref p) (upd H p (dl x y z))
theorem ok__law_dice (T : Txt K mg) : FnOk P w K mg base CX0 1 T._law_dice.f T._law_dice.fd ["_law_script", "_law_at"] (sp__law_dice K) := by
  refine T._law_dice.F.ok sc__law_dice (fun vs H Q E h => ?_) (fun cdv A outer s H vs Q E hr h => ?_)
  · obtain ⟨a, ns, i, rfl, _⟩ := h
    rfl
  · obtain ⟨a, ns, i, rfl, hS, q⟩ := h
    refine ⟨_, (pss_cons (ps_set (i := 2) sc__law_dice.nd rfl (.inl rfl) (pe_op op_add (pe_op op_mul pe_int (pv 1)) pe_int)) 
      (pss_cons (ps_if (pt_cmpR op_lt (pv 1) (pe_callB call_len_seq (by rfl) T.z_len PySem.boot_len (pa_cons (pv 0) pa_nil)) (nomark _)) 
        (pss_one (ps_set (i := 2) sc__law_dice.nd rfl (.inl rfl) (pe_ix ix_list (pv 0) (pv 1) (fun _ _ => rfl)))) pss_nil) 
      (pss_cons (ps_set (i := 3) sc__law_dice.nd rfl (.inl rfl) (pe_op op_mod (pe_callTy call_int1 (by rfl) T.z_int (by decide +kernel) (pa_cons (pe_callB call_abs (by rfl) T.z_abs (by decide +kernel) (pa_cons (pv 2) pa_nil)) pa_nil)) (pe_op op_powW (pe_op op_pow pe_int pe_int) pe_int))) 
      (pss_cons (ps_set (i := 4) sc__law_dice.nd rfl (.inl rfl) (pe_op op_fdivW (pv 3) (pe_op op_pow pe_int pe_int))) 
      (pss_cons (ps_set (i := 5) sc__law_dice.nd rfl (.inl rfl) (pe_op op_add (pe_op op_add (pe_op op_add (pe_op op_mul (pe_op op_mod (pv 3) pe_int) pe_int) (pe_op op_mul pe_int (pv 1))) (pe_op op_mul pe_int (pe_callTy call_int1 (by rfl) T.z_int (by decide +kernel) (pa_cons (pe_cmpR op_lt (pv 2) pe_int (nomark _)) pa_nil)))) pe_int)) 
      (pss_one (ps_ret (pe_lst (pa_cons (pv 4) (pa_cons (pe_op op_mod (pv 5) pe_int) (pa_cons pe_int pa_nil))))))))))), ?_⟩
    refine ⟨_, rfl, 127, i, rfl, rfl, .inl (by decide), _, _, rfl, rfl, ?_⟩
    refine ⟨_, rfl, _, rfl, a, _, rfl, .inl hS, _, _, rfl, rfl, _, rfl, ite3 (fun e => ?_) (fun e => ?_)⟩
    · have hi : i < ns.length := by
        have := of_decide_eq_true e
        rw [List.length_map] at this
        omega
      refine ⟨_, rfl, _, rfl, a, _, i, .int ns[i], rfl, rfl, hS, atI_nat (by rw [List.getElem?_map, List.getElem?_eq_getElem hi]; rfl), ?_⟩
      refine ⟨_, rfl, _, rfl, .inl ⟨_, rfl, _, _, rfl, rfl, ⟨by decide, by decide, by decide⟩, _, _, rfl, rfl, ⟨by decide, by decide⟩, _, _, rfl, rfl, (show (0 : Int) < (10 ^ 62) ^ 10 by decide +kernel), ?_⟩⟩
      refine ⟨_, rfl, 10, 18, rfl, rfl, ⟨by decide, by decide, by decide⟩, _, _, rfl, rfl, ⟨by decide, by decide⟩, ?_⟩
      refine ⟨_, rfl, _, _, rfl, rfl, p0, _, _, rfl, rfl, cmulR, _, rfl, _, _, rfl, rfl, cmulL, _, _, rfl, rfl, _, rfl, _, _, rfl, rfl, .inr ⟨_, rfl, _, _, rfl, rfl, cmulL, _, _, rfl, rfl, _, _, rfl, rfl, ?_⟩⟩
      exact ⟨_, rfl, _, rfl, _, _, rfl, rfl, p0, sz, fun p np => q p _ _ _ np⟩
    · refine ⟨_, rfl, _, rfl, .inl ⟨_, rfl, _, _, rfl, rfl, ⟨by decide, by decide, by decide⟩, _, _, rfl, rfl, ⟨by decide, by decide⟩, _, _, rfl, rfl, (show (0 : Int) < (10 ^ 62) ^ 10 by decide +kernel), ?_⟩⟩
      refine ⟨_, rfl, 10, 18, rfl, rfl, ⟨by decide, by decide, by decide⟩, _, _, rfl, rfl, ⟨by decide, by decide⟩, ?_⟩
      refine ⟨_, rfl, _, _, rfl, rfl, p0, _, _, rfl, rfl, cmulR, _, rfl, _, _, rfl, rfl, cmulL, _, _, rfl, rfl, _, rfl, _, _, rfl, rfl, .inr ⟨_, rfl, _, _, rfl, rfl, cmulL, _, _, rfl, rfl, _, _, rfl, rfl, ?_⟩⟩
      exact ⟨_, rfl, _, rfl, _, _, rfl, rfl, p0, sz, fun p np => q p _ _ _ np⟩
def sp__law_roll (K : PySem.W.Frag) : Sp := fun vs H Q _ => ∃ (d : Addr) (n : Int), vs = [.ref d, .int n] ∧ Dice H d ∧ 0 < n ∧ n ≤ 2 ^ 64 ∧ ∀ r H', 0 ≤ r → r < n → Ext d H H' → Q (.int r) H'
theorem ok__law_roll (T : Txt K mg) : FnOk P w K mg base CX0 1 T._law_roll.f T._law_roll.fd ["_law_dice_here", "_law_total"] (sp__law_roll K) := by
  refine T._law_roll.F.ok sc__law_roll (fun vs H Q E h => ?_) (fun cdv A outer s H vs Q E hr h => ?_)
  · obtain ⟨d, n, rfl, _⟩ := h
    rfl
  · obtain ⟨d, n, rfl, ⟨x, y, z, hd⟩, h0, h1, q⟩ := h
    have sz : sizeLine = 16777216 := sizeLine_eq
    have f0 : ∀ {x y z : Int}, atI [V.int x, V.int y, V.int z] 0 = some (.int x) := rfl
    have f1 : ∀ {x y z : Int}, atI [V.int x, V.int y, V.int z] 1 = some (.int y) := rfl
    have f2 : ∀ {x y z : Int}, atI [V.int x, V.int y, V.int z] 2 = some (.int z) := rfl
    refine ⟨_, (pss_cons (ps_set (i := 2) sc__law_roll.nd rfl (.inl rfl) (pe_callTy call_int1 (by rfl) T.z_int (by decide +kernel) (pa_cons (pv 1) pa_nil))) 
      (pss_cons (ps_if (pt_cmpR op_gt (pe_ix ix_list (pv 0) pe_int (fun _ _ => rfl)) pe_int (nomark _)) 
        (pss_cons (ps_set (i := 3) sc__law_roll.nd rfl (.inl rfl) (pe_op op_mod (pe_ix ix_list (pv 0) pe_int (fun _ _ => rfl)) (pv 2))) 
        (pss_cons (ps_asg (pe_op op_fdivW (pe_ix ix_list (pv 0) pe_int (fun _ _ => rfl)) (pv 2)) (pg_sub (pv 0) pe_int set_list)) 
        (pss_one (ps_ret (pe_callTy call_int1 (by rfl) T.z_int (by decide +kernel) (pa_cons (pv 3) pa_nil)))))) pss_nil) 
      (pss_cons (ps_asg (pe_op op_add (pe_ix ix_list (pv 0) pe_int (fun _ _ => rfl)) pe_int) (pg_sub (pv 0) pe_int set_list)) 
      (pss_cons (ps_set (i := 4) sc__law_roll.nd rfl (.inl rfl) (pe_op op_mod (pe_op op_add (pe_ix ix_list (pv 0) pe_int (fun _ _ => rfl)) (pe_op op_mul pe_int (pe_ix ix_list (pv 0) pe_int (fun _ _ => rfl)))) pe_int)) 
      (pss_cons (ps_set (i := 5) sc__law_roll.nd rfl (.inl rfl) (pe_op op_add (pe_op op_mul (pe_op op_mod (pe_op op_mul (pv 4) (pv 4)) pe_int) (pv 4)) (pe_op op_mul pe_int (pe_ix ix_list (pv 0) pe_int (fun _ _ => rfl))))) 
      (pss_cons (ps_set (i := 5) sc__law_roll.nd rfl (.inl rfl) (pe_op op_mod (pv 5) pe_int)) 
      (pss_one (ps_ret (pe_callTy call_int1 (by rfl) T.z_int (by decide +kernel) (pa_cons (pe_op op_mod (pe_op op_fdiv (pv 5) pe_int) (pv 2)) pa_nil)))))))))), ?_⟩
    refine ⟨_, rfl, .inl ⟨_, rfl, ?_⟩⟩
    refine ⟨_, rfl, d, _, 0, _, rfl, rfl, SqL.of hd, f0, x, 0, rfl, rfl, _, rfl, ite3 (fun e => ?_) (fun e => ?_)⟩
    · have hw : CDivW x n := wide_div (b := 65) h0 (by omega) (by decide) (by decide)
      refine ⟨_, rfl, d, _, 0, _, rfl, rfl, SqL.of hd, f0, _, rfl, _, _, rfl, rfl, h0, ?_⟩
      refine ⟨_, rfl, d, _, 0, _, rfl, rfl, SqL.of hd, f0, _, rfl, _, _, rfl, rfl, hw, _, rfl, d, _, 0, 0, rfl, rfl, hd, rfl, ?_⟩
      exact ⟨_, rfl, .inl ⟨_, rfl, q _ _ (Int.emod_nonneg _ (by omega)) (Int.emod_lt_of_pos _ h0) Ext.roll⟩⟩
    · refine ⟨_, rfl, d, _, 2, _, rfl, rfl, SqL.of hd, f2, _, _, rfl, rfl, _, rfl, d, _, 2, 2, rfl, rfl, hd, rfl, ?_⟩
      have h2 : (upd H d (dl x y (z + 1))) d = some (dl x y (z + 1)) := upd_same
      refine ⟨_, rfl, d, _, 1, _, rfl, rfl, SqL.of h2, f1, _, rfl, d, _, 2, _, rfl, rfl, SqL.of h2, f2, 1000427, _, rfl, rfl, .inl (by decide), _, _, rfl, rfl, _, _, rfl, rfl, p0, ?_⟩
      have m0 := Int.emod_nonneg (y + 1000427 * (z + 1)) (by decide : (2305843009213693951 : Int) ≠ 0)
      have m1 := Int.emod_lt_of_pos (y + 1000427 * (z + 1)) (by decide : (0 : Int) < 2305843009213693951)
      refine ⟨_, rfl, _, rfl, _, _, rfl, rfl, .inl ⟨by omega, by omega⟩, _, _, rfl, rfl, p0, _, rfl, _, _, rfl, rfl, .inr ⟨by omega, by omega⟩, _, rfl, d, _, 2, _, rfl, rfl, SqL.of h2, f2, 9539, _, rfl, rfl, .inl (by decide), _, _, rfl, rfl, ?_⟩
      refine ⟨_, rfl, _, _, rfl, rfl, p0, ?_⟩
      exact ⟨_, rfl, _, _, rfl, rfl, cdiv, _, rfl, _, _, rfl, rfl, h0, .inl ⟨_, rfl, q _ _ (Int.emod_nonneg _ (by omega)) (Int.emod_lt_of_pos _ h0) Ext.roll⟩⟩
def sp__law_one_of (K : PySem.W.Frag) : Sp := fun vs H Q _ => ∃ (d a : Addr) (xs : List V), vs = [.ref d, .ref a] ∧ Dice H d ∧ a ≠ d ∧ H a = some (.lst xs) ∧ 0 < xs.length ∧ xs.length ≤ 100000 ∧ ∀ v H', v ∈ xs → Ext d H H' → Q v H'
theorem ok__law_one_of (T : Txt K mg) : FnOk P w K mg base CX0 2 T._law_one_of.f T._law_one_of.fd ["_law_dice_here", "_law_items"] (sp__law_one_of K) := by
  refine T._law_one_of.F.ok sc__law_one_of (fun vs H Q E h => ?_) (fun cdv A outer s H vs Q E hr h => ?_)
  · obtain ⟨d, a, xs, rfl, _⟩ := h
    rfl
  · obtain ⟨d, a, xs, rfl, hd, na, ha, h0, h1, q⟩ := h
    refine ⟨_, (pss_one (ps_ret (pe_ix ix_list (pv 1) (pe_call (ok__law_roll T) (hr.mono (by decide)) (by rfl) T._law_roll.g T._law_roll.F.kp T._law_roll.b .nil pass0 (pa_cons (pv 0) (pa_cons (pe_callB call_len_seq (by rfl) T.z_len PySem.boot_len (pa_cons (pv 1) pa_nil)) pa_nil))) (fun _ _ => rfl)))), ?_⟩
    refine ⟨_, rfl, _, rfl, _, rfl, a, _, rfl, .inl (SqL.of ha), d, xs.length, rfl, hd, by omega, by omega, fun r H1 r0 r1 x1 => ?_⟩
    have hi : r.toNat < xs.length := by omega
    have e : xs[r.toNat]? = some xs[r.toNat] := List.getElem?_eq_getElem hi
    exact ⟨a, xs, r, xs[r.toNat], rfl, rfl, SqL.of (x1.s _ _ na ha), at_of (by omega) e, q _ _ (List.getElem_mem hi) x1⟩
def sp__law_two_to (K : PySem.W.Frag) : Sp := fun vs H Q _ => ∃ n : Nat, vs = [.int n] ∧ n ≤ 1000000 ∧ Q (.int (2 ^ n)) H
theorem ok__law_two_to (T : Txt K mg) : FnOk P w K mg base CX0 1 T._law_two_to.f T._law_two_to.fd ["_law_bits_here"] (sp__law_two_to K) := by
  refine T._law_two_to.F.ok sc__law_two_to (fun vs H Q E h => ?_) (fun cdv A outer s H vs Q E hr h => ?_)
  · obtain ⟨n, rfl, _⟩ := h
    rfl
  · obtain ⟨n, rfl, hn, q⟩ := h
    refine ⟨_, (pss_cons (ps_set (i := 1) sc__law_two_to.nd rfl (.inl rfl) pe_int) 
      (pss_cons (ps_for PassesOwn.never rfl (pi_range1 (by rfl) T.z_range (pa_cons (pv 0) pa_nil)) (pg_name (i := 2) sc__law_two_to.nd rfl (.inl rfl)) 
        (pss_one (ps_set (i := 1) sc__law_two_to.nd rfl (.inl rfl) (pe_op op_mul pe_int (pv 1))))) 
      (pss_one (ps_ret (pv 1))))), ?_⟩
    refine ⟨_, rfl, _, rfl, by omega, by omega, for_rangeN (n := n) (fun i σ H' => ∃ y, σ = [some (.int n), some (.int (2 ^ i)), y] ∧ H' = H) ⟨none, rfl, rfl⟩ ?_ ?_⟩
    · rintro i σ H' hi ⟨y, rfl, rfl⟩
      exact ⟨_, rfl, 2, _, rfl, rfl, .inl (by decide), _, by rw [two_succ]; rfl, rfl⟩
    · rintro σ H' ⟨y, rfl, rfl⟩
      exact ⟨_, rfl, q⟩
def sp__law_bits (K : PySem.W.Frag) : Sp := fun vs H Q _ => ∃ (n : Nat) (x : Int), vs = [.int n, .int x] ∧ n ≤ 100000 ∧ ∀ p, H p = none → Q (.ref p) (upd H p (.lst ((bitsI n x).map V.int)))
theorem ok__law_bits (T : Txt K mg) : FnOk P w K mg base CX0 1 T._law_bits.f T._law_bits.fd ["_law_width", "_law_word"] (sp__law_bits K) := by
  refine T._law_bits.F.ok sc__law_bits (fun vs H Q E h => ?_) (fun cdv A outer s H vs Q E hr h => ?_)
  · obtain ⟨n, x, rfl, _⟩ := h
    rfl
  · obtain ⟨n, x, rfl, hn, q⟩ := h
    refine ⟨_, (pss_cons (ps_par (i := 2) (j := 3) rfl sc__law_bits.nd rfl rfl (by decide) rfl rfl (pa_cons (pe_lst pa_nil) (pa_cons (pv 1) pa_nil)) (by rfl)) 
      (pss_cons (ps_for PassesOwn.never rfl (pi_range1 (by rfl) T.z_range (pa_cons (pv 0) pa_nil)) (pg_name (i := 4) sc__law_bits.nd rfl (.inl rfl)) 
        (pss_cons (ps_expr (pe_bm PySem.F.plainAttrs_list PySem.F.slot_list_append PySem.F.type_list_append mt_append (pv 2) (pa_cons (pe_op op_mod (pv 3) pe_int) pa_nil))) 
        (pss_one (ps_set (i := 3) sc__law_bits.nd rfl (.inl rfl) (pe_op op_fdiv (pv 3) pe_int))))) 
      (pss_one (ps_ret (pv 2))))), ?_⟩
    refine ⟨Nat.zero_le _, fun p np => ⟨_, rfl, _, _, rfl, ?_⟩⟩
    refine ⟨_, rfl, _, rfl, by omega, by omega, for_rangeN (n := n) (fun i σ H' => ∃ y, σ = [some (.int n), some (.int x), some (.ref p), some (.int (x / 2 ^ i)), y] ∧ H' = upd H p (.lst ((bitsI i x).map V.int))) ⟨none, by rw [Int.pow_zero, Int.ediv_one]; rfl, rfl⟩ ?_ ?_⟩
    · rintro i σ H' hi ⟨y, rfl, rfl⟩
      refine ⟨_, rfl, .inl ⟨rfl, _, SqL.of upd_same⟩, _, rfl, _, _, rfl, rfl, p0, p, _, _, rfl, rfl, upd_same, ?_, ?_⟩
      · rw [List.length_map, bitsI_length, sizeLine_eq]
        omega
      · refine ⟨_, rfl, _, _, rfl, rfl, cdiv, some (.int i), ?_, ?_⟩
        · rw [show (2 : Int) ^ (i + 1) = 2 ^ i * 2 from Int.pow_succ 2 i, ← Int.ediv_ediv_of_nonneg (Int.le_of_lt (two_pos i))]
          rfl
        · rw [upd_upd, bitsI_snoc, List.map_append]
          rfl
    · rintro σ H' ⟨y, rfl, rfl⟩
      exact ⟨_, rfl, q p np⟩
def sp__law_of_bits (K : PySem.W.Frag) : Sp := fun vs H Q _ => ∃ (a : Addr) (bs : List Int), vs = [.ref a] ∧ SqL K H a (bs.map V.int) ∧ ∀ H', Same H H' → Q (.int (ofBits bs)) H'
theorem ofBits_rev (bs : List Int) (i : Nat) (b : Int) (h : bs.reverse[i]? = some b) : ofBits (bs.drop (bs.length - (i + 1))) = 2 * ofBits (bs.drop (bs.length - i)) + b := by
  have hi : i < bs.length := by
    have := (List.getElem?_eq_some_iff.mp h).1
    rw [List.length_reverse] at this
    exact this
  rw [List.getElem?_reverse hi] at h
  have hj : bs.length - 1 - i < bs.length := by omega
  rw [List.getElem?_eq_getElem hj] at h
  have e : bs.drop (bs.length - 1 - i) = bs[bs.length - 1 - i] :: bs.drop (bs.length - 1 - i + 1) := List.drop_eq_getElem_cons hj
  rw [show bs.length - (i + 1) = bs.length - 1 - i by omega, e, show bs.length - 1 - i + 1 = bs.length - i by omega, Option.some.inj h]
  rfl
theorem ok__law_of_bits (T : Txt K mg) : FnOk P w K mg base CX0 1 T._law_of_bits.f T._law_of_bits.fd ["_law_bits_here"] (sp__law_of_bits K) := by
  refine T._law_of_bits.F.ok sc__law_of_bits (fun vs H Q E h => ?_) (fun cdv A outer s H vs Q E hr h => ?_)
  · obtain ⟨a, bs, rfl, _⟩ := h
    rfl
  · obtain ⟨a, bs, rfl, hS, q⟩ := h
    refine ⟨_, (pss_cons (ps_set (i := 1) sc__law_of_bits.nd rfl (.inl rfl) pe_int) 
      (pss_cons (ps_for PassesOwn.never rfl (pi_list (pe_revL (pe_callTy call_list_of (by rfl) T.z_list (by decide +kernel) (pa_cons (pv 0) pa_nil)))) (pg_name (i := 2) sc__law_of_bits.nd rfl (.inl rfl)) 
        (pss_one (ps_set (i := 1) sc__law_of_bits.nd rfl (.inl rfl) (pe_op op_add (pe_op op_mul pe_int (pv 1)) (pv 2))))) 
      (pss_one (ps_ret (pv 1))))), ?_⟩
    refine ⟨_, rfl, a, _, rfl, .inl hS, fun l nl => ⟨l, _, rfl, SqL.of upd_same, fun p np => ?_⟩⟩
    have s1 : Same H (upd (upd H l (.lst (bs.map V.int))) p (.lst (bs.map V.int).reverse)) := (same_new nl).trans (same_new np)
    refine ⟨p, rfl, ⟨_, SqL.of upd_same⟩, for_list (K := K) (a := p) (xs := (bs.map V.int).reverse) (fun i σ H' => ∃ y, σ = [some (.ref a), some (.int (ofBits (bs.drop (bs.length - i)))), y] ∧ H' = upd (upd H l (.lst (bs.map V.int))) p (.lst (bs.map V.int).reverse)) ⟨none, ?_, rfl⟩ ?_ ?_ ?_⟩
    · rw [Nat.sub_zero, List.drop_length]
      rfl
    · rintro i σ H' _ ⟨y, _, rfl⟩
      exact SqL.of upd_same
    · rintro i v σ H' hv ⟨y, rfl, rfl⟩
      rw [← List.map_reverse, List.getElem?_map] at hv
      cases e : bs.reverse[i]? with
      | none =>
        rw [e] at hv
        cases hv
      | some b =>
        rw [e] at hv
        cases hv
        refine ⟨_, rfl, 2, _, rfl, rfl, cmulL, _, rfl, _, _, rfl, rfl, some (.int b), ?_, rfl⟩
        rw [ofBits_rev bs i b e]
        rfl
    · rintro σ H' ⟨y, rfl, rfl⟩
      rw [List.length_reverse, List.length_map, Nat.sub_self, List.drop_zero]
      exact ⟨_, rfl, q _ s1⟩
def sp__law_word_drawn (K : PySem.W.Frag) : Sp := fun vs H Q _ => ∃ (d : Addr) (n : Nat), vs = [.ref d, .int n] ∧ Dice H d ∧ 1 ≤ n ∧ n ≤ 32 ∧ ∀ r H', 0 ≤ r → r < 2 ^ n → Ext d H H' → Q (.int r) H'
theorem ok__law_word_drawn (T : Txt K mg) : FnOk P w K mg base CX0 3 T._law_word_drawn.f T._law_word_drawn.fd ["_law_dice_here", "_law_width"] (sp__law_word_drawn K) := by
  refine T._law_word_drawn.F.ok sc__law_word_drawn (fun vs H Q E h => ?_) (fun cdv A outer s H vs Q E hr h => ?_)
  · obtain ⟨d, n, rfl, _⟩ := h
    rfl
  · obtain ⟨d, n, rfl, hd, h1, h2, q⟩ := h
    have hb := two32 h2
    have h0 : (2 : Int) ≤ 2 ^ n := two_mono (a := 1) h1
    refine ⟨_, (pss_cons (ps_set (i := 2) sc__law_word_drawn.nd rfl (.inl rfl) (pe_call (ok__law_two_to T) (hr.mono (by decide)) (by rfl) T._law_two_to.g T._law_two_to.F.kp T._law_two_to.b .nil pass0 (pa_cons (pv 1) pa_nil))) 
      (pss_cons (ps_if (pt_cmpR op_eq (pe_call (ok__law_roll T) (hr.mono (by decide)) (by rfl) T._law_roll.g T._law_roll.F.kp T._law_roll.b .nil pass0 (pa_cons (pv 0) (pa_cons pe_int pa_nil))) pe_int (nomark _)) 
        (pss_one (ps_ret (pe_call (ok__law_one_of T) (hr.mono (by decide)) (by rfl) T._law_one_of.g T._law_one_of.F.kp T._law_one_of.b .nil pass0 (pa_cons (pv 0) (pa_cons (pe_lst (pa_cons pe_int (pa_cons pe_int (pa_cons (pe_op op_sub (pv 2) pe_int) (pa_cons (pe_op op_fdiv (pv 2) pe_int) (pa_cons (pe_op op_sub (pe_op op_fdiv (pv 2) pe_int) pe_int) pa_nil)))))) pa_nil))))) pss_nil) 
      (pss_one (ps_ret (pe_call (ok__law_roll T) (hr.mono (by decide)) (by rfl) T._law_roll.g T._law_roll.F.kp T._law_roll.b .nil pass0 (pa_cons (pv 0) (pa_cons (pv 2) pa_nil))))))), ?_⟩
    refine ⟨_, rfl, n, rfl, by omega, ?_⟩
    refine ⟨_, rfl, d, 2, rfl, hd, by decide, by decide, fun r H1 r0 r1 x1 => ⟨rfl, _, rfl, ite3 (fun e => ?_) (fun e => ?_)⟩⟩
    · refine ⟨_, rfl, _, rfl, _, _, rfl, rfl, _, rfl, _, _, rfl, rfl, cdiv, _, rfl, _, _, rfl, rfl, cdiv, _, _, rfl, rfl, sz, fun p np => ?_⟩
      refine ⟨d, p, _, rfl, (Ext.new x1.d np).d, x1.d.ne np, upd_same, by show 0 < 5; decide, by show 5 ≤ 100000; decide, fun v H2 hv x2 => ?_⟩
      have x3 : Ext d H H2 := x1.trans ((Ext.new x1.d np).trans x2)
      simp only [List.mem_cons, List.not_mem_nil, or_false] at hv
      rcases hv with rfl | rfl | rfl | rfl | rfl <;> exact q _ _ (by omega) (by omega) x3
    · exact ⟨_, rfl, _, rfl, d, _, rfl, x1.d, by omega, by omega, fun r H2 r0 r1 x2 => q _ _ r0 r1 (x1.trans x2)⟩
def sp__law_width_drawn (K : PySem.W.Frag) : Sp := fun vs H Q _ => ∃ d : Addr, vs = [.ref d] ∧ Dice H d ∧ ∀ (n : Nat) H', 1 ≤ n → n ≤ 32 → Ext d H H' → Q (.int n) H'
theorem ok__law_width_drawn (T : Txt K mg) : FnOk P w K mg base CX0 3 T._law_width_drawn.f T._law_width_drawn.fd ["_law_dice_here"] (sp__law_width_drawn K) := by
  refine T._law_width_drawn.F.ok sc__law_width_drawn (fun vs H Q E h => ?_) (fun cdv A outer s H vs Q E hr h => ?_)
  · obtain ⟨d, rfl, _⟩ := h
    rfl
  · obtain ⟨d, rfl, hd, q⟩ := h
    refine ⟨_, (pss_one (ps_ret (pe_call (ok__law_one_of T) (hr.mono (by decide)) (by rfl) T._law_one_of.g T._law_one_of.F.kp T._law_one_of.b .nil pass0 (pa_cons (pv 0) (pa_cons (pe_lst (pa_cons pe_int (pa_cons pe_int (pa_cons pe_int (pa_cons pe_int (pa_cons pe_int (pa_cons pe_int (pa_cons pe_int (pa_cons pe_int (pa_cons pe_int (pa_cons (pe_op op_add pe_int (pe_call (ok__law_roll T) (hr.mono (by decide)) (by rfl) T._law_roll.g T._law_roll.F.kp T._law_roll.b .nil pass0 (pa_cons (pv 0) (pa_cons pe_int pa_nil)))) pa_nil))))))))))) pa_nil))))), ?_⟩
    refine ⟨_, rfl, _, rfl, d, 32, rfl, hd, by decide, by decide, fun r H1 r0 r1 x1 => ⟨1, r, rfl, rfl, sz, fun p np => ?_⟩⟩
    refine ⟨d, p, _, rfl, (Ext.new x1.d np).d, x1.d.ne np, upd_same, by show 0 < 10; decide, by show 10 ≤ 100000; decide, fun v H2 hv x2 => ?_⟩
    have x3 : Ext d H H2 := x1.trans ((Ext.new x1.d np).trans x2)
    have fin : ∀ m : Int, v = .int m → 1 ≤ m → m ≤ 32 → Q v H2 := fun m e m1 m2 => by
      have := q m.toNat _ (by omega) (by omega) x3
      rw [show ((m.toNat : Nat) : Int) = m by omega] at this
      rw [e]
      exact this
    simp only [List.mem_cons, List.not_mem_nil, or_false] at hv
    rcases hv with h | h | h | h | h | h | h | h | h | h <;> exact fin _ h (by omega) (by omega)
end
end TB
namespace TB
open PySem PySem.Spec PyProof.Rows L2
theorem dp2 {K : PySem.W.Frag} {H : Hp} {a : Addr} {x y : Int} (h : SqT K H a [.int x, .int y]) : Dp K H (.ref a) (.tuple [.int x, .int y]) := .tup h (.cons (.int x) (.cons (.int y) .nil))
theorem eqv2 {x y x' y' : Int} (h1 : x = x') (h2 : y = y') : PyData.eqv (.tuple [.int x, .int y]) (.tuple [.int x', .int y']) = true := by
  subst h1 h2
  exact SeqAt.eqv_refl _ rfl
section
variable {P : Program} {w : World} {K : PySem.W.Frag} {mg : Str → Option Value} {base : Heap}
def sp__law_product (K : PySem.W.Frag) : Sp := fun vs H Q _ => ∃ (n : Nat) (x y : Int), vs = [.int n, .int x, .int y] ∧ n ≤ 32 ∧ 0 ≤ x ∧ x < 2 ^ n ∧ 0 ≤ y ∧ y < 2 ^ n ∧ ∀ p H', Same H H' → H' p = some (.tup [.int (x * y % 2 ^ n), .int (x * y / 2 ^ n)]) → Q (.ref p) H'
theorem ok__law_product (T : Txt K mg) : FnOk P w K mg base CX0 2 T._law_product.f T._law_product.fd ["_law_width", "_law_one", "_law_other"] (sp__law_product K) := by
  refine T._law_product.F.ok sc__law_product (fun vs H Q E h => ?_) (fun cdv A outer s H vs Q E hr h => ?_)
  · obtain ⟨n, x, y, rfl, _⟩ := h
    rfl
  · obtain ⟨n, x, y, rfl, hn, hx0, hx, hy0, hy, q⟩ := h
    have hb := two32 hn
    refine ⟨_, (pss_cons (ps_set (i := 3) sc__law_product.nd rfl (.inl rfl) pe_int) 
      (pss_cons (ps_for PassesOwn.never rfl (pi_enum (by rfl) T.z_enumerate (pa_cons (pe_call (ok__law_bits T) (hr.mono (by decide)) (by rfl) T._law_bits.g T._law_bits.F.kp T._law_bits.b .nil pass0 (pa_cons (pv 0) (pa_cons (pv 1) pa_nil))) pa_nil)) (pg_tup rfl (pgs_cons (pg_name (i := 4) sc__law_product.nd rfl (.inl rfl)) (pgs_cons (pg_name (i := 5) sc__law_product.nd rfl (.inl rfl)) pgs_nil))) 
        (pss_one (ps_set (i := 3) sc__law_product.nd rfl (.inl rfl) (pe_op op_add (pv 3) (pe_op op_mul (pe_op op_mul (pv 5) (pe_call (ok__law_two_to T) (hr.mono (by decide)) (by rfl) T._law_two_to.g T._law_two_to.F.kp T._law_two_to.b .nil pass0 (pa_cons (pv 4) pa_nil))) (pv 2)))))) 
      (pss_one (ps_ret (pe_tup (pa_cons (pe_op op_mod (pv 3) (pe_call (ok__law_two_to T) (hr.mono (by decide)) (by rfl) T._law_two_to.g T._law_two_to.F.kp T._law_two_to.b .nil pass0 (pa_cons (pv 0) pa_nil))) (pa_cons (pe_op op_fdivW (pv 3) (pe_call (ok__law_two_to T) (hr.mono (by decide)) (by rfl) T._law_two_to.g T._law_two_to.F.kp T._law_two_to.b .nil pass0 (pa_cons (pv 0) pa_nil))) pa_nil))))))), ?_⟩
    refine ⟨_, rfl, _, rfl, n, x, rfl, by omega, fun p np => ⟨p, _, rfl, SqL.of upd_same, ?_⟩⟩
    have s1 : Same H (upd H p (.lst ((bitsI n x).map V.int))) := same_new np
    refine for_enumL (K := K) (a := p) (xs := (bitsI n x).map V.int) (fun i σ H' => ∃ y1 y2, σ = [some (.int n), some (.int x), some (.int y), some (.int (x % 2 ^ i * y)), y1, y2] ∧ Same (upd H p (.lst ((bitsI n x).map V.int))) H') ⟨none, none, ?_, Same.refl _⟩ ?_ ?_ ?_
    · rw [Int.pow_zero, Int.emod_one, Int.zero_mul]
      rfl
    · rintro i σ H' ⟨y1, y2, _, sm⟩
      exact sm.seq (SqL.of upd_same)
    · rintro i v t σ H' hv ⟨y1, y2, rfl, sm⟩ nt
      have hi : i < n := by
        have := (List.getElem?_eq_some_iff.mp hv).1
        rw [List.length_map, bitsI_length] at this
        exact this
      rw [List.getElem?_map, bitsI_get n x i hi] at hv
      cases hv
      refine ⟨t, _, rfl, SqT.of upd_same, rfl, _, _, rfl, _, [], rfl, rfl, ?_⟩
      have hbit := Int.emod_nonneg (x / 2 ^ i) (by decide : (2 : Int) ≠ 0)
      have hbit1 := Int.emod_lt_of_pos (x / 2 ^ i) (by decide : (0 : Int) < 2)
      refine ⟨_, rfl, _, rfl, _, rfl, i, rfl, by omega, _, _, rfl, rfl, .inl ⟨by omega, by omega⟩, _, rfl, _, _, rfl, rfl, .inr ⟨by omega, by omega⟩, _, _, rfl, rfl, some (.int i), some (.int (x / 2 ^ i % 2)), ?_, sm.trans (same_new nt)⟩
      rw [mod_succ x i, Int.add_mul, Int.mul_comm (2 ^ i) (x / 2 ^ i % 2)]
      rfl
    · rintro σ H' ⟨y1, y2, rfl, sm⟩
      rw [List.length_map, bitsI_length, mod_small hx0 hx]
      have hpos := two_pos n
      refine ⟨_, rfl, _, rfl, n, rfl, by omega, _, _, rfl, rfl, hpos, _, rfl, _, rfl, n, rfl, by omega, _, _, rfl, rfl, wide_div (b := 33) hpos (by omega) (by decide) (by decide), sz, fun r nr => ?_⟩
      exact q r _ ((s1.trans sm).trans (same_new nr)) upd_same
def sp__law_quotient (K : PySem.W.Frag) : Sp := fun vs H Q _ => ∃ (n : Nat) (x y : Int), vs = [.int n, .int x, .int y] ∧ n ≤ 32 ∧ 0 ≤ x ∧ x < 2 ^ n ∧ 0 < y ∧ ∀ p H', Same H H' → H' p = some (.tup [.int (x / y), .int (x % y)]) → Q (.ref p) H'
theorem ok__law_quotient (T : Txt K mg) : FnOk P w K mg base CX0 2 T._law_quotient.f T._law_quotient.fd ["_law_width", "_law_one", "_law_other"] (sp__law_quotient K) := by
  refine T._law_quotient.F.ok sc__law_quotient (fun vs H Q E h => ?_) (fun cdv A outer s H vs Q E hr h => ?_)
  · obtain ⟨n, x, y, rfl, _⟩ := h
    rfl
  · obtain ⟨n, x, y, rfl, hn, hx0, hx, hy0, q⟩ := h
    refine ⟨_, (pss_cons (ps_asg (pe_tup (pa_cons pe_int (pa_cons pe_int pa_nil))) (pg_tup rfl (pgs_cons (pg_name (i := 3) sc__law_quotient.nd rfl (.inl rfl)) (pgs_cons (pg_name (i := 4) sc__law_quotient.nd rfl (.inl rfl)) pgs_nil)))) 
      (pss_cons (ps_for PassesOwn.never rfl (pi_list (pe_revL (pe_call (ok__law_bits T) (hr.mono (by decide)) (by rfl) T._law_bits.g T._law_bits.F.kp T._law_bits.b .nil pass0 (pa_cons (pv 0) (pa_cons (pv 1) pa_nil))))) (pg_name (i := 5) sc__law_quotient.nd rfl (.inl rfl)) 
        (pss_cons (ps_set (i := 3) sc__law_quotient.nd rfl (.inl rfl) (pe_op op_add (pe_op op_mul pe_int (pv 3)) (pv 5))) 
        (pss_cons (ps_set (i := 4) sc__law_quotient.nd rfl (.inl rfl) (pe_op op_add (pe_op op_mul pe_int (pv 4)) (pe_callTy call_int1 (by rfl) T.z_int (by decide +kernel) (pa_cons (pe_cmpR op_ge (pv 3) (pv 2) (nomark _)) pa_nil)))) 
        (pss_one (ps_set (i := 3) sc__law_quotient.nd rfl (.inl rfl) (pe_ifExp (pt_cmpR op_ge (pv 3) (pv 2) (nomark _)) (pe_op op_sub (pv 3) (pv 2)) (pv 3))))))) 
      (pss_one (ps_ret (pe_tup (pa_cons (pv 4) (pa_cons (pv 3) pa_nil))))))), ?_⟩
    refine ⟨sz, fun z0 nz0 => ⟨z0, _, rfl, SqT.of upd_same, rfl, _, _, rfl, _, [], rfl, rfl, ?_⟩⟩
    refine ⟨_, rfl, _, rfl, n, x, rfl, by omega, fun p np => ⟨p, _, rfl, SqL.of upd_same, fun r nr => ⟨r, rfl, ⟨_, SqL.of upd_same⟩, ?_⟩⟩⟩
    have s1 := ((same_new (o := .tup [.int 0, .int 0]) nz0).trans (same_new (o := .lst ((bitsI n x).map V.int)) np)).trans (same_new (o := .lst ((bitsI n x).map V.int).reverse) nr)
    refine for_list (K := K) (a := r) (xs := ((bitsI n x).map V.int).reverse) (fun i σ H' => ∃ y1, σ = [some (.int n), some (.int x), some (.int y), some (.int (x / 2 ^ (n - i) % y)), some (.int (x / 2 ^ (n - i) / y)), y1] ∧ H' = upd (upd (upd H z0 (.tup [.int 0, .int 0])) p (.lst ((bitsI n x).map V.int))) r (.lst ((bitsI n x).map V.int).reverse)) ⟨none, ?_, rfl⟩ ?_ ?_ ?_
    · rw [Nat.sub_zero, div_small hx0 hx, Int.zero_emod, Int.zero_ediv]
      rfl
    · rintro i σ H' _ ⟨y1, _, rfl⟩
      exact SqL.of upd_same
    · rintro i v σ H' hv ⟨y1, rfl, rfl⟩
      have hi : i < n := by
        have := (List.getElem?_eq_some_iff.mp hv).1
        rw [List.length_reverse, List.length_map, bitsI_length] at this
        exact this
      rw [← List.map_reverse, List.getElem?_map, List.getElem?_reverse (by rw [bitsI_length]; exact hi), bitsI_length, bitsI_get n x _ (by omega)] at hv
      cases hv
      have e1 : n - 1 - i + 1 = n - i := by omega
      have e2 : n - (i + 1) = n - 1 - i := by omega
      have hs := half_bit x (n - 1 - i)
      rw [e1] at hs
      have hb : x / 2 ^ (n - 1 - i) % 2 = 0 ∨ x / 2 ^ (n - 1 - i) % 2 = 1 := by omega
      have qs := quot_step (N := x / 2 ^ (n - i)) hy0 hb
      rw [← hs] at qs
      refine ⟨_, rfl, 2, _, rfl, rfl, cmulL, _, rfl, _, _, rfl, rfl, ?_⟩
      refine ⟨_, rfl, 2, _, rfl, rfl, cmulL, _, rfl, _, rfl, _, _, rfl, rfl, .inr ⟨_, rfl, _, _, rfl, rfl, ?_⟩⟩
      by_cases hc : y ≤ 2 * (x / 2 ^ (n - i) % y) + x / 2 ^ (n - 1 - i) % 2
      · rw [if_pos hc, if_pos hc] at qs
        refine ⟨_, rfl, _, rfl, _, _, rfl, rfl, _, rfl, iteB (decide_eq_true hc) ⟨_, rfl, _, rfl, _, _, rfl, rfl, some (.int (x / 2 ^ (n - 1 - i) % 2)), ?_, rfl⟩⟩
        rw [e2, qs.1, qs.2, decide_eq_true hc]
        rfl
      · rw [if_neg hc, if_neg hc] at qs
        refine ⟨_, rfl, _, rfl, _, _, rfl, rfl, _, rfl, iteBF (decide_eq_false hc) ⟨_, rfl, some (.int (x / 2 ^ (n - 1 - i) % 2)), ?_, rfl⟩⟩
        rw [e2, qs.1, qs.2, decide_eq_false hc]
        rfl
    · rintro σ H' ⟨y1, rfl, rfl⟩
      rw [List.length_reverse, List.length_map, bitsI_length, Nat.sub_self, Int.pow_zero, Int.ediv_one]
      exact ⟨_, rfl, _, rfl, sz, fun t nt => q t _ (s1.trans (same_new nt)) upd_same⟩
def sp__law_moves_right (K : PySem.W.Frag) : Sp := fun vs H Q _ => ∃ (d : Addr) (n : Nat) (x : Int), vs = [.ref d, .int n, .int x] ∧ Dice H d ∧ 1 ≤ n ∧ n ≤ 32 ∧ 0 ≤ x ∧ x < 2 ^ n ∧ ∀ H', Ext d H H' → Q (.bl true) H'
theorem ok__law_moves_right (T : Txt K mg) : FnOk P w K mg base CX0 7 T._law_moves_right.f T._law_moves_right.fd ["_law_dice_here", "_law_width", "_law_word"] (sp__law_moves_right K) := by
  refine T._law_moves_right.F.ok sc__law_moves_right (fun vs H Q E h => ?_) (fun cdv A outer s H vs Q E hr h => ?_)
  · obtain ⟨d, n, x, rfl, _⟩ := h
    rfl
  · obtain ⟨d, n, x, rfl, hd, h1, h2, hx0, hx, q⟩ := h
    refine ⟨_, (pss_cons (ps_set (i := 3) sc__law_moves_right.nd rfl (.inl rfl) (pe_call (ok__law_bits T) (hr.mono (by decide)) (by rfl) T._law_bits.g T._law_bits.F.kp T._law_bits.b .nil pass0 (pa_cons (pv 1) (pa_cons (pv 2) pa_nil)))) 
      (pss_cons (ps_for PassesOwn.never rfl (pi_tup (pe_tup (pa_cons pe_int (pa_cons pe_int (pa_cons (pe_op op_sub (pv 1) pe_int) (pa_cons (pv 1) (pa_cons (pe_call (ok__law_roll T) (hr.mono (by decide)) (by rfl) T._law_roll.g T._law_roll.F.kp T._law_roll.b .nil pass0 (pa_cons (pv 0) (pa_cons pe_int pa_nil))) (pa_cons pe_int pa_nil)))))))) (pg_name (i := 4) sc__law_moves_right.nd rfl (.inl rfl)) 
        (pss_cons (ps_if (pt_cmpR op_ne (pe_call (ok_moved_left T) (hr.mono (by decide)) (by rfl) T.moved_left.g T.moved_left.F.kp T.moved_left.b .nil pass0 (pa_cons (pv 1) (pa_cons (pv 2) (pa_cons (pv 4) pa_nil)))) (pe_call (ok__law_of_bits T) (hr.mono (by decide)) (by rfl) T._law_of_bits.g T._law_of_bits.F.kp T._law_of_bits.b .nil pass0 (pa_cons (pe_slice sl_list (pe_op op_cat (pe_op op_rep (pe_lst (pa_cons pe_int pa_nil)) (pv 4)) (pv 3)) po_none (po_some (pv 1))) pa_nil)) (nomark _)) 
          (pss_one (ps_ret pe_bl)) pss_nil) 
        (pss_one (ps_if (pt_cmpR op_ne (pe_call (ok_moved_right T) (hr.mono (by decide)) (by rfl) T.moved_right.g T.moved_right.F.kp T.moved_right.b .nil pass0 (pa_cons (pv 1) (pa_cons (pv 2) (pa_cons (pv 4) pa_nil)))) (pe_call (ok__law_of_bits T) (hr.mono (by decide)) (by rfl) T._law_of_bits.g T._law_of_bits.F.kp T._law_of_bits.b .nil pass0 (pa_cons (pe_slice sl_list (pv 3) (po_some (pv 4)) po_none) pa_nil)) (nomark _)) 
          (pss_one (ps_ret pe_bl)) pss_nil)))) 
      (pss_one (ps_ret pe_bl)))), ?_⟩
    refine ⟨_, rfl, _, rfl, n, x, rfl, by omega, fun b nb => ?_⟩
    have x1 : Ext d H (upd H b (.lst ((bitsI n x).map V.int))) := Ext.new hd nb
    have nbd := hd.ne nb
    refine ⟨_, rfl, _, _, rfl, rfl, _, rfl, _, rfl, d, 64, rfl, x1.d, by decide, by decide, fun r H1 r0 r1 x2 => ?_⟩
    have hB : H1 b = some (.lst ((bitsI n x).map V.int)) := x2.s _ _ nbd upd_same
    refine ⟨sz, fun t nt => ⟨t, rfl, ⟨_, SqT.of upd_same⟩, ?_⟩⟩
    have s2 : Same H1 (upd H1 t (.tup [.int 0, .int 1, .int (n - 1), .int n, .int r, .int 63])) := same_new nt
    refine for_tup (K := K) (a := t) (xs := [.int 0, .int 1, .int (n - 1), .int n, .int r, .int 63]) (fun i σ H' => ∃ y1, σ = [some (.ref d), some (.int n), some (.int x), some (.ref b), y1] ∧ Same (upd H1 t (.tup [.int 0, .int 1, .int (n - 1), .int n, .int r, .int 63])) H') ⟨none, rfl, Same.refl _⟩ ?_ ?_ ?_
    · rintro i σ H' _ ⟨y1, _, sm⟩
      exact seqT_same sm (SqT.of upd_same)
    · rintro i v σ H' hv ⟨y1, rfl, sm⟩
      have hmem := List.mem_of_getElem? hv
      obtain ⟨k, rfl, hk⟩ : ∃ k : Nat, v = .int k ∧ k ≤ 63 := by
        have go : ∀ m : Int, v = .int m → 0 ≤ m → m ≤ 63 → ∃ k : Nat, v = .int k ∧ k ≤ 63 := fun m e m0 m1 => ⟨m.toNat, by rw [e]; exact congrArg V.int (by omega), by omega⟩
        simp only [List.mem_cons, List.not_mem_nil, or_false] at hmem
        rcases hmem with h | h | h | h | h | h <;> exact go _ h (by omega) (by omega)
      have hB' : H' b = some (.lst ((bitsI n x).map V.int)) := sm _ _ (s2 _ _ hB)
      -- moved_left(..) != _law_of_bits(([0] * places + bits)[:width])
      refine ⟨_, rfl, _, rfl, _, rfl, n, x, k, rfl, h1, h2, hx0, hx, hk, ?_⟩
      refine ⟨sz, fun l nl => ⟨_, rfl, l, k, _, rfl, rfl, upd_same, by omega, by omega, szl (by show 1 * _ ≤ 100000; omega), fun l2 nl2 => ?_⟩⟩
      have s3 : Same H' (upd (upd H' l (.lst [.int 0])) l2 (.lst (List.replicate (k : Int).toNat [V.int 0]).flatten)) := (same_new nl).trans (same_new nl2)
      have ez : (List.replicate (k : Int).toNat [V.int 0]).flatten = (List.replicate k (0 : Int)).map V.int := by
        rw [Int.toNat_natCast, List.map_replicate, List.flatten_replicate_singleton]
      rw [ez] at s3 ⊢
      refine ⟨_, rfl, l2, b, _, _, rfl, rfl, upd_same, s3 _ _ hB', szl (by rw [List.length_map, List.length_map, List.length_replicate, bitsI_length]; omega), fun l3 nl3 => ?_⟩
      have s4 := s3.trans (same_new (o := .lst ((List.replicate k (0 : Int)).map V.int ++ (bitsI n x).map V.int)) nl3)
      refine ⟨_, rfl, _, rfl, l3, _, rfl, SqL.of upd_same, fun l4 nl4 => ?_⟩
      have ec : cutV ((List.replicate k (0 : Int)).map V.int ++ (bitsI n x).map V.int) none (some (n : Int)) = ((List.replicate k (0 : Int) ++ bitsI n x).take n).map V.int := by
        rw [cut_to, ← List.map_append, List.map_take]
      have s5 := s4.trans (same_new (o := .lst (((List.replicate k (0 : Int) ++ bitsI n x).take n).map V.int)) nl4)
      rw [ec]
      refine ⟨l4, _, rfl, SqL.of upd_same, fun H2 s6 => ⟨rfl, _, rfl, ?_⟩⟩
      have s7 := s5.trans s6
      rw [ofBits_left]
      refine iteBF (by rw [decide_eq_true rfl]; rfl) ?_
      -- moved_right(..) != _law_of_bits(bits[places:])
      refine ⟨_, rfl, _, rfl, _, rfl, n, x, k, rfl, h1, h2, hx0, hx, hk, ?_⟩
      refine ⟨_, rfl, _, rfl, _, rfl, b, _, rfl, SqL.of (s7 _ _ hB'), fun l5 nl5 => ?_⟩
      have ec2 : cutV ((bitsI n x).map V.int) (some (k : Int)) none = ((bitsI n x).drop k).map V.int := by
        rw [cut_from, List.map_drop]
      rw [ec2]
      refine ⟨l5, _, rfl, SqL.of upd_same, fun H3 s8 => ⟨rfl, _, rfl, ?_⟩⟩
      rw [ofBits_right k hx0 hx]
      refine iteBF (by rw [decide_eq_true rfl]; rfl) ?_
      exact ⟨some (.int k), rfl, sm.trans (s7.trans ((same_new nl5).trans s8))⟩
    · rintro σ H' ⟨y1, rfl, sm⟩
      exact q _ ((x1.trans x2).same (s2.trans sm))
end
end TB
namespace TB
open PySem PySem.Spec PyProof.Rows L2
theorem sgn_bound {n : Nat} {x : Int} (hn : n ≤ 32) (h0 : 0 ≤ x) (h1 : x < 2 ^ n) : (sgn n x).natAbs < 2 ^ 33 := by
  have hb := two32 hn
  have hp := two_pos n
  unfold sgn
  split <;> omega
theorem sgn_mul {n : Nat} {x y : Int} : (sgn n x * sgn n y) % 2 ^ n = x * y % 2 ^ n := by
  obtain ⟨k, e1⟩ := sgn_mod n x
  obtain ⟨l, e2⟩ := sgn_mod n y
  rw [e1, e2, Int.mul_emod, Int.add_mul_emod_self_left, Int.add_mul_emod_self_left, ← Int.mul_emod]
section
variable {P : Program} {w : World} {K : PySem.W.Frag} {mg : Str → Option Value} {base : Heap}
def sp__law_right (K : PySem.W.Frag) : Sp := fun vs H Q _ => ∃ (d : Addr), vs = [.ref d] ∧ Dice H d ∧ ∀ H', Ext d H H' → Q (.bl true) H'
theorem ok__law_right (T : Txt K mg) : FnOk P w K mg base CX0 8 T._law_right.f T._law_right.fd ["_law_dice_here"] (sp__law_right K) := by
  refine T._law_right.F.ok sc__law_right (fun vs H Q E h => ?_) (fun cdv A outer s H vs Q E hr h => ?_)
  · obtain ⟨d, rfl, _⟩ := h
    rfl
  · obtain ⟨d, rfl, hd, q⟩ := h
    refine ⟨_, (pss_cons (ps_set (i := 1) sc__law_right.nd rfl (.inl rfl) (pe_call (ok__law_width_drawn T) (hr.mono (by decide)) (by rfl) T._law_width_drawn.g T._law_width_drawn.F.kp T._law_width_drawn.b .nil pass0 (pa_cons (pv 0) pa_nil))) 
      (pss_cons (ps_par3 (i := 2) (j := 3) (l := 4) rfl sc__law_right.nd rfl rfl rfl (by decide) (by decide) (by decide) rfl rfl rfl (pa_cons (pe_call (ok__law_word_drawn T) (hr.mono (by decide)) (by rfl) T._law_word_drawn.g T._law_word_drawn.F.kp T._law_word_drawn.b .nil pass0 (pa_cons (pv 0) (pa_cons (pv 1) pa_nil))) (pa_cons (pe_call (ok__law_word_drawn T) (hr.mono (by decide)) (by rfl) T._law_word_drawn.g T._law_word_drawn.F.kp T._law_word_drawn.b .nil pass0 (pa_cons (pv 0) (pa_cons (pv 1) pa_nil))) (pa_cons (pe_call (ok__law_two_to T) (hr.mono (by decide)) (by rfl) T._law_two_to.g T._law_two_to.F.kp T._law_two_to.b .nil pass0 (pa_cons (pv 1) pa_nil)) pa_nil))) (by rfl)) 
      (pss_cons (ps_set (i := 5) sc__law_right.nd rfl (.inl rfl) (pe_call (ok_multiplied T) (hr.mono (by decide)) (by rfl) T.multiplied.g T.multiplied.F.kp T.multiplied.b .nil pass0 (pa_cons (pv 1) (pa_cons (pv 2) (pa_cons (pv 3) pa_nil))))) 
      (pss_cons (ps_if (PW.pt (pw_or (pt_cmpR (op_neD hr.units) (pv 5) (pe_call (ok__law_product T) (hr.mono (by decide)) (by rfl) T._law_product.g T._law_product.F.kp T._law_product.b .nil pass0 (pa_cons (pv 1) (pa_cons (pv 2) (pa_cons (pv 3) pa_nil)))) (nomark _)) (pw_or1 (pt_cmpR (op_neD hr.units) (pv 5) (pe_call (ok_multiplied T) (hr.mono (by decide)) (by rfl) T.multiplied.g T.multiplied.F.kp T.multiplied.b .nil pass0 (pa_cons (pv 1) (pa_cons (pv 3) (pa_cons (pv 2) pa_nil)))) (nomark _))))) 
        (pss_one (ps_ret pe_bl)) pss_nil) 
      (pss_cons (ps_if (pt_cmpR op_ne (pe_ix ix_tup (pv 5) pe_int (fun _ _ => rfl)) (pe_call (ok_wrapped T) (hr.mono (by decide)) (by rfl) T.wrapped.g T.wrapped.F.kp T.wrapped.b .nil pass0 (pa_cons (pv 1) (pa_cons (pe_op op_mul (pe_call (ok_signed T) (hr.mono (by decide)) (by rfl) T.signed.g T.signed.F.kp T.signed.b .nil pass0 (pa_cons (pv 1) (pa_cons (pv 2) pa_nil))) (pe_call (ok_signed T) (hr.mono (by decide)) (by rfl) T.signed.g T.signed.F.kp T.signed.b .nil pass0 (pa_cons (pv 1) (pa_cons (pv 3) pa_nil)))) pa_nil))) (nomark _)) 
        (pss_one (ps_ret pe_bl)) pss_nil) 
      (pss_cons (ps_if (pt_cmpR op_ne (pe_op op_add (pe_ix ix_tup (pv 5) pe_int (fun _ _ => rfl)) (pe_op op_mul (pv 4) (pe_ix ix_tup (pv 5) pe_int (fun _ _ => rfl)))) (pe_op op_mul (pv 2) (pv 3)) (nomark _)) 
        (pss_one (ps_ret pe_bl)) pss_nil) 
      (pss_cons (ps_set (i := 6) sc__law_right.nd rfl (.inl rfl) (pe_callB (call_max2 rfl) (by rfl) T.z_max (by decide +kernel) (pa_cons pe_int (pa_cons (pe_call (ok__law_one_of T) (hr.mono (by decide)) (by rfl) T._law_one_of.g T._law_one_of.F.kp T._law_one_of.b .nil pass0 (pa_cons (pv 0) (pa_cons (pe_lst (pa_cons (pv 3) (pa_cons (pe_op op_mod (pv 3) pe_int) (pa_cons (pe_op op_fdiv (pv 3) pe_int) (pa_cons (pe_op op_fdiv (pv 4) pe_int) (pa_cons (pe_op op_sub (pv 4) pe_int) pa_nil)))))) pa_nil))) pa_nil)))) 
      (pss_cons (ps_set (i := 7) sc__law_right.nd rfl (.inl rfl) (pe_call (ok_divided T) (hr.mono (by decide)) (by rfl) T.divided.g T.divided.F.kp T.divided.b .nil pass0 (pa_cons (pv 1) (pa_cons (pv 2) (pa_cons (pv 6) pa_nil))))) 
      (pss_cons (ps_if (PW.pt (pw_or (pt_cmpR (op_neD hr.units) (pv 7) (pe_call (ok__law_quotient T) (hr.mono (by decide)) (by rfl) T._law_quotient.g T._law_quotient.F.kp T._law_quotient.b .nil pass0 (pa_cons (pv 1) (pa_cons (pv 2) (pa_cons (pv 6) pa_nil)))) (nomark _)) (pw_or1 (pt_cmpR op_ne (pe_op op_add (pe_op op_mul (pe_ix ix_tup (pv 7) pe_int (fun _ _ => rfl)) (pv 6)) (pe_ix ix_tup (pv 7) pe_int (fun _ _ => rfl))) (pv 2) (nomark _))))) 
        (pss_one (ps_ret pe_bl)) pss_nil) 
      (pss_one (ps_ret (pe_and (pe_chain op_le op_lt pe_int (pe_ix ix_tup (pv 7) pe_int (fun _ _ => rfl)) (pv 6)) (pe_one (pe_call (ok__law_moves_right T) (hr.mono (by decide)) (by rfl) T._law_moves_right.g T._law_moves_right.F.kp T._law_moves_right.b .nil pass0 (pa_cons (pv 0) (pa_cons (pv 1) (pa_cons (pv 2) pa_nil))))))))))))))))), ?_⟩
    refine ⟨_, rfl, d, rfl, hd, fun n H1 n1 n2 x1 => ?_⟩
    refine ⟨_, rfl, _, rfl, d, n, rfl, x1.d, n1, n2, fun x H2 a0 a1 x2 => ?_⟩
    refine ⟨_, rfl, _, rfl, d, n, rfl, x2.d, n1, n2, fun y H3 b0 b1 x3 => ?_⟩
    refine ⟨_, rfl, n, rfl, by omega, _, _, _, rfl, ?_⟩
    have hb := two32 n2
    have hp := two_pos n
    have h2 : (2 : Int) ≤ 2 ^ n := two_mono (a := 1) n1
    have X3 := (x1.trans x2).trans x3
    -- both
    refine ⟨_, rfl, _, rfl, _, rfl, n, x, y, rfl, n1, n2, a0, a1, b0, b1, fun p np => ?_⟩
    have s1 : Same H3 (upd H3 p (.tup [.int (x * y % 2 ^ n), .int (x * y / 2 ^ n)])) := same_new np
    refine ⟨_, rfl, _, rfl, _, rfl, _, rfl, n, x, y, rfl, n2, a0, a1, b0, b1, fun p2 H4 s2 e2 => ?_⟩
    refine ⟨_, _, dp2 (SqT.of (s2 _ _ upd_same)), dp2 (SqT.of e2), rfl, rfl, _, rfl, iteBF (by rw [eqv2 rfl rfl]; rfl) ?_⟩
    refine ⟨_, rfl, _, rfl, _, rfl, _, rfl, n, y, x, rfl, n1, n2, b0, b1, a0, a1, fun p3 np3 => ?_⟩
    have s3 := s2.trans (same_new (o := .tup [.int (y * x % 2 ^ n), .int (y * x / 2 ^ n)]) np3)
    refine ⟨_, _, dp2 (SqT.of (s3 _ _ upd_same)), dp2 (SqT.of upd_same), rfl, rfl, _, rfl, iteBF (by rw [eqv2 (by rw [Int.mul_comm]) (by rw [Int.mul_comm])]; rfl) ?_⟩
    have eP := s3 _ _ upd_same
    have X4 := X3.same (s1.trans s3)
    -- both[0] != wrapped(..)
    have hm := wide_lt (sgn_bound n2 a0 a1) (sgn_bound n2 b0 b1)
    have hm2 : (2 : Nat) ^ (33 + 33) < 10 ^ 60 := by decide
    refine ⟨_, rfl, p, _, 0, _, rfl, rfl, SqT.of eP, atI_nat (j := 0) rfl, _, rfl, _, rfl, _, rfl, n, x, rfl, n1, n2, a0, a1, _, rfl, _, rfl, n, y, rfl, n1, n2, b0, b1, _, _, rfl, rfl, .inl (by have := sgn_bound n2 a0 a1; constructor <;> omega), ?_⟩
    refine ⟨n, _, rfl, n1, n2, by omega, by omega, ?_⟩
    rw [sgn_mul]
    refine ⟨rfl, _, rfl, iteBF (by rw [decide_eq_true rfl]; rfl) ?_⟩
    -- both[0] + size * both[1] != one * other
    refine ⟨_, rfl, p, _, 0, _, rfl, rfl, SqT.of eP, atI_nat (j := 0) rfl, _, rfl, _, rfl, p, _, 1, _, rfl, rfl, SqT.of eP, atI_nat (j := 1) rfl, _, _, rfl, rfl, .inl ⟨by omega, by omega⟩, _, _, rfl, rfl, ?_⟩
    refine ⟨_, rfl, _, rfl, x, y, rfl, rfl, .inl ⟨by omega, by omega⟩, ?_⟩
    refine ⟨rfl, _, rfl, iteBF (by show (!decide (V.int (x * y % 2 ^ n + 2 ^ n * (x * y / 2 ^ n)) = V.int (x * y))) = false; rw [Int.emod_add_mul_ediv, decide_eq_true rfl]; rfl) ?_⟩
    -- lesser
    refine ⟨_, rfl, _, rfl, _, rfl, y, _, rfl, rfl, p0, _, rfl, y, _, rfl, rfl, cdiv, _, rfl, _, _, rfl, rfl, cdiv, _, rfl, _, _, rfl, rfl, sz, fun l nl => ?_⟩
    refine ⟨d, l, _, rfl, (Ext.new X4.d nl).d, X4.d.ne nl, upd_same, by show 0 < 5; decide, by show 5 ≤ 100000; decide, fun v H5 hv x5 => ?_⟩
    have X6 := X4.trans ((Ext.new X4.d nl).trans x5)
    obtain ⟨m, rfl, m0, m1⟩ : ∃ m : Int, v = .int m ∧ 0 ≤ m ∧ m < 2 ^ n := by
      simp only [List.mem_cons, List.not_mem_nil, or_false] at hv
      rcases hv with h | h | h | h | h <;> exact ⟨_, h, by omega, by omega⟩
    refine ⟨1, m, rfl, ?_⟩
    obtain ⟨z, ez, z0, z1⟩ : ∃ z : Int, (if m > 1 then m else 1) = z ∧ 0 < z ∧ z < 2 ^ n := ⟨_, rfl, by split <;> omega, by split <;> omega⟩
    rw [ez]
    -- parts
    refine ⟨_, rfl, _, rfl, _, rfl, n, x, z, rfl, n1, n2, a0, a1, z0, z1, fun r nr => ?_⟩
    have x7 := Ext.new (o := .tup [.int (x / z), .int (x % z)]) X6.d nr
    refine ⟨_, rfl, _, rfl, _, rfl, _, rfl, n, x, z, rfl, n2, a0, a1, z0, fun r2 H6 s6 e6 => ?_⟩
    have eR := s6 _ _ (upd_same (H := H5) (a := r) (o := .tup [.int (x / z), .int (x % z)]))
    refine ⟨_, _, dp2 (SqT.of eR), dp2 (SqT.of e6), rfl, rfl, _, rfl, iteBF (by rw [eqv2 rfl rfl]; rfl) ?_⟩
    have X7 := (X6.trans x7).same s6
    refine ⟨_, rfl, r, _, 0, _, rfl, rfl, SqT.of eR, atI_nat (j := 0) rfl, _, rfl, _, _, rfl, rfl, .inr ⟨by omega, by omega⟩, _, rfl, r, _, 1, _, rfl, rfl, SqT.of eR, atI_nat (j := 1) rfl, _, _, rfl, rfl, _, rfl, ?_⟩
    have er : x / z * z + x % z = x := by rw [Int.mul_comm]; exact Int.mul_ediv_add_emod x z
    refine ⟨rfl, _, rfl, iteBF (neFI er) ?_⟩
    -- return
    have g0 := Int.emod_nonneg x (show z ≠ 0 by omega)
    have g1 := Int.emod_lt_of_pos x z0
    refine ⟨_, rfl, r, _, 1, _, rfl, rfl, SqT.of eR, atI_nat (j := 1) rfl, 0, _, rfl, rfl, _, rfl, iteB (decide_eq_true g0) ⟨_, rfl, _, _, rfl, rfl, _, rfl, iteB (decide_eq_true g1) ?_⟩⟩
    exact ⟨_, rfl, _, rfl, _, rfl, d, n, x, rfl, X7.d, n1, n2, a0, a1, fun H7 x8 => q _ (X7.trans x8)⟩
def sp_law (K : PySem.W.Frag) : Sp := fun vs H Q _ => ∃ (a : Addr) (ns : List Int), vs = [.ref a] ∧ SqL K H a (ns.map V.int) ∧ ns.length ≤ 63 ∧ ∀ H', Q (.bl true) H'
theorem ok_law (T : Txt K mg) : FnOk P w K mg base CX0 9 T.law.f T.law.fd ["_law_script"] (sp_law K) := by
  refine T.law.F.ok sc_law (fun vs H Q E h => ?_) (fun cdv A outer s H vs Q E hr h => ?_)
  · obtain ⟨a, ns, rfl, _⟩ := h
    rfl
  · obtain ⟨a, ns, rfl, hS, hlen, q⟩ := h
    refine ⟨_, (pss_cons (ps_for PassesOwn.never rfl (pi_range1 (by rfl) T.z_range (pa_cons (pe_callB (call_max2 rfl) (by rfl) T.z_max (by decide +kernel) (pa_cons pe_int (pa_cons (pe_callB (call_min2 rfl) (by rfl) T.z_min (by decide +kernel) (pa_cons pe_int (pa_cons (pe_callB call_len_seq (by rfl) T.z_len PySem.boot_len (pa_cons (pv 0) pa_nil)) pa_nil))) pa_nil))) pa_nil)) (pg_name (i := 1) sc_law.nd rfl (.inl rfl)) 
        (pss_cons (ps_set (i := 2) sc_law.nd rfl (.inl rfl) (pe_call (ok__law_dice T) (hr.mono (by decide)) (by rfl) T._law_dice.g T._law_dice.F.kp T._law_dice.b .nil pass0 (pa_cons (pv 0) (pa_cons (pv 1) pa_nil)))) 
        (pss_one (ps_for PassesOwn.never rfl (pi_range1 (by rfl) T.z_range (pa_cons pe_int pa_nil)) (pg_name (i := 3) sc_law.nd rfl (.inl rfl)) 
          (pss_one (ps_if (pt_not (pt_val (pe_call (ok__law_right T) (hr.mono (by decide)) (by rfl) T._law_right.g T._law_right.F.kp T._law_right.b .nil pass0 (pa_cons (pv 2) pa_nil)))) 
            (pss_one (ps_ret pe_bl)) pss_nil)))))) 
      (pss_cons (ps_set (i := 4) sc_law.nd rfl (.inl rfl) (pe_lst (pa_cons (pe_call (ok_multiplied T) (hr.mono (by decide)) (by rfl) T.multiplied.g T.multiplied.F.kp T.multiplied.b .nil pass0 (pa_cons pe_int (pa_cons pe_int (pa_cons pe_int pa_nil)))) (pa_cons (pe_call (ok_multiplied T) (hr.mono (by decide)) (by rfl) T.multiplied.g T.multiplied.F.kp T.multiplied.b .nil pass0 (pa_cons pe_int (pa_cons pe_int (pa_cons pe_int pa_nil)))) (pa_cons (pe_call (ok_divided T) (hr.mono (by decide)) (by rfl) T.divided.g T.divided.F.kp T.divided.b .nil pass0 (pa_cons pe_int (pa_cons pe_int (pa_cons pe_int pa_nil)))) (pa_cons (pe_call (ok_divided T) (hr.mono (by decide)) (by rfl) T.divided.g T.divided.F.kp T.divided.b .nil pass0 (pa_cons pe_int (pa_cons pe_int (pa_cons pe_int pa_nil)))) pa_nil)))))) 
      (pss_one (ps_ret (pe_and (pe_cmpR (op_eqD hr.units) (pv 4) (pe_lst (pa_cons (pe_tup (pa_cons pe_int (pa_cons pe_int pa_nil))) (pa_cons (pe_tup (pa_cons pe_int (pa_cons pe_int pa_nil))) (pa_cons (pe_tup (pa_cons pe_int (pa_cons pe_int pa_nil))) (pa_cons (pe_tup (pa_cons pe_int (pa_cons pe_int pa_nil))) pa_nil))))) (nomark _)) (pe_one (pe_cmpR op_eq (pe_call (ok_moved_right T) (hr.mono (by decide)) (by rfl) T.moved_right.g T.moved_right.F.kp T.moved_right.b .nil pass0 (pa_cons pe_int (pa_cons pe_int (pa_cons pe_int pa_nil)))) pe_int (nomark _)))))))), ?_⟩
    refine ⟨_, rfl, a, _, rfl, .inl hS, _, _, rfl, _, _, rfl, _, rfl, ?_, ?_, ?_⟩
    · rw [List.length_map]
      split <;> split <;> omega
    · rw [List.length_map]
      split <;> split <;> omega
    refine for_rangeN (fun i σ H' => ∃ y1 y2 y3 y4, σ = [some (.ref a), y1, y2, y3, y4] ∧ Same H H') ⟨none, none, none, none, rfl, Same.refl H⟩ ?_ ?_
    · rintro i σ H' _ ⟨y1, y2, y3, y4, rfl, sm⟩
      refine ⟨_, rfl, _, rfl, a, ns, i, rfl, sm.seq hS, fun d x y z nd => ?_⟩
      have hd : Dice (upd H' d (dl x y z)) d := ⟨x, y, z, upd_same⟩
      refine ⟨_, rfl, by decide, by decide, for_rangeN (n := 3) (fun j σ H2 => ∃ y3, σ = [some (.ref a), some (.int i), some (.ref d), y3, y4] ∧ Ext d (upd H' d (dl x y z)) H2) ⟨y3, rfl, Ext.refl hd⟩ ?_ ?_⟩
      · rintro j σ H2 _ ⟨y3, rfl, xx⟩
        refine ⟨_, rfl, d, rfl, xx.d, fun H3 x3 => ⟨true, rfl, iteF ?_⟩⟩
        exact ⟨_, rfl, xx.trans x3⟩
      · rintro σ H2 ⟨y3, rfl, xx⟩
        refine ⟨_, _, _, _, rfl, fun b o e => ?_⟩
        have e2 := sm _ _ e
        have nb : b ≠ d := ne_of_none e2 nd
        exact xx.s _ _ nb (by rw [upd_ne nb]; exact e2)
    · rintro σ H1 ⟨y1, y2, y3, y4, rfl, sm⟩
      have c1 : (2 : Int) ^ 4 = 16 := rfl
      have c2 : (2 : Int) ^ 32 = 4294967296 := rfl
      refine ⟨4, 7, 7, rfl, by decide, by decide, by decide, by decide, by decide, by decide, fun p1 n1 => ?_⟩
      refine ⟨32, 4294967295, 4294967295, rfl, by decide, by decide, by decide, by decide, by decide, by decide, fun p2 n2 => ?_⟩
      refine ⟨4, 15, 4, rfl, by decide, by decide, by decide, by decide, by decide, by decide, fun p3 n3 => ?_⟩
      refine ⟨1, 1, 1, rfl, by decide, by decide, by decide, by decide, by decide, by decide, fun p4 n4 => ?_⟩
      refine ⟨sz, fun l nl => ?_⟩
      refine ⟨_, rfl, sz, fun r1 m1 => ⟨sz, fun r2 m2 => ⟨sz, fun r3 m3 => ⟨sz, fun r4 m4 => ⟨sz, fun l2 nl2 => ?_⟩⟩⟩⟩⟩
      have t7 := same_new (o := .lst [.ref r1, .ref r2, .ref r3, .ref r4]) nl2
      have t6 := (same_new (o := .tup [.int 1, .int 0]) m4).trans t7
      have t5 := (same_new (o := .tup [.int 3, .int 3]) m3).trans t6
      have t4 := (same_new (o := .tup [.int 1, .int 4294967294]) m2).trans t5
      have t3 := (same_new (o := .tup [.int 1, .int 3]) m1).trans t4
      have t2 := (same_new (o := .lst [.ref p1, .ref p2, .ref p3, .ref p4]) nl).trans t3
      have u4 := (same_new (o := .tup [.int (1 / 1), .int (1 % 1)]) n4).trans t2
      have u3 := (same_new (o := .tup [.int (15 / 4), .int (15 % 4)]) n3).trans u4
      have u2 := (same_new (o := .tup [.int (4294967295 * 4294967295 % 2 ^ 32), .int (4294967295 * 4294967295 / 2 ^ 32)]) n2).trans u3
      refine ⟨_, _, .lst (SqL.of (t3 _ _ upd_same)) (.cons (dp2 (SqT.of (u2 _ _ upd_same))) (.cons (dp2 (SqT.of (u3 _ _ upd_same))) (.cons (dp2 (SqT.of (u4 _ _ upd_same))) (.cons (dp2 (SqT.of (t2 _ _ upd_same))) .nil)))),
        .lst (SqL.of upd_same) (.cons (dp2 (SqT.of (t4 _ _ upd_same))) (.cons (dp2 (SqT.of (t5 _ _ upd_same))) (.cons (dp2 (SqT.of (t6 _ _ upd_same))) (.cons (dp2 (SqT.of (t7 _ _ upd_same))) .nil)))), rfl, rfl, _, rfl, iteB (by decide +kernel) ?_⟩
      refine ⟨4, 13, 40, rfl, by decide, by decide, by decide, by decide, by decide, rfl, ?_⟩
      exact q _
end
/-! ### the end -/
def txt_mk {K : PySem.W.Frag} {h : Heap} {mg : Str → Option Value} (X : K.In h) (G : h.Ns mainGlobals mg)
    {f0 f1 f2 f3 f4 f5 f6 f7 f8 f9 f10 f11 f12 f13 f14 f15 f16 f17 f18 f19 f20 f21 f22 f23 f24 f25 f26 f27 f28 : Addr} {od0 an0 od1 an1 od2 an2 od3 an3 od4 an4 od5 an5 od6 an6 od7 an7 od8 an8 od9 an9 od10 an10 od11 an11 od12 an12 od13 an13 od14 an14 od15 an15 od16 an16 od17 an17 od18 an18 od19 an19 od20 an20 od21 an21 od22 an22 od23 an23 od24 an24 od25 an25 od26 an26 od27 an27 od28 an28 : Option Addr} {sl0 sl1 sl2 sl3 sl4 sl5 sl6 sl7 sl8 sl9 sl10 sl11 sl12 sl13 sl14 sl15 sl16 sl17 sl18 sl19 sl20 sl21 sl22 sl23 sl24 sl25 sl26 sl27 sl28 : Array (Option Value)} {oc0 kV0 dc0 pm0 cd0 ct0 oc1 kV1 dc1 pm1 cd1 ct1 oc2 kV2 dc2 pm2 cd2 ct2 oc3 kV3 dc3 pm3 cd3 ct3 oc4 kV4 dc4 pm4 cd4 ct4 oc5 kV5 dc5 pm5 cd5 ct5 oc6 kV6 dc6 pm6 cd6 ct6 oc7 kV7 dc7 pm7 cd7 ct7 oc8 kV8 dc8 pm8 cd8 ct8 oc9 kV9 dc9 pm9 cd9 ct9 oc10 kV10 dc10 pm10 cd10 ct10 oc11 kV11 dc11 pm11 cd11 ct11 oc12 kV12 dc12 pm12 cd12 ct12 oc13 kV13 dc13 pm13 cd13 ct13 oc14 kV14 dc14 pm14 cd14 ct14 oc15 kV15 dc15 pm15 cd15 ct15 oc16 kV16 dc16 pm16 cd16 ct16 oc17 kV17 dc17 pm17 cd17 ct17 oc18 kV18 dc18 pm18 cd18 ct18 oc19 kV19 dc19 pm19 cd19 ct19 oc20 kV20 dc20 pm20 cd20 ct20 oc21 kV21 dc21 pm21 cd21 ct21 oc22 kV22 dc22 pm22 cd22 ct22 oc23 kV23 dc23 pm23 cd23 ct23 oc24 kV24 dc24 pm24 cd24 ct24 oc25 kV25 dc25 pm25 cd25 ct25 oc26 kV26 dc26 pm26 cd26 ct26 oc27 kV27 dc27 pm27 cd27 ct27 oc28 kV28 dc28 pm28 cd28 ct28 : Value} {tk0 tk1 tk2 : Tok}
    (a0 : PySem.W.nsIn K mainGlobals "is_integer" = some (some (.ref f0)))
    (l0 : K.lookup f0 = some ⟨oc0, od0, .func (PySem.W.fnOf "is_integer" "is_integer" (defArgs s_is_integer) (defBody s_is_integer) (defScope s_is_integer) .none kV0 dc0 pm0 an0 cd0 ct0), sl0⟩)
    (c0 : PySem.W.codeIn K cd0 "is_integer" = true)
    (k0 : PySem.W.keepIn K (.ref f0) = true)
    (a1 : PySem.W.nsIn K mainGlobals "is_short" = some (some (.ref f1)))
    (l1 : K.lookup f1 = some ⟨oc1, od1, .func (PySem.W.fnOf "is_short" "is_short" (defArgs s_is_short) (defBody s_is_short) (defScope s_is_short) .none kV1 dc1 pm1 an1 cd1 ct1), sl1⟩)
    (c1 : PySem.W.codeIn K cd1 "is_short" = true)
    (k1 : PySem.W.keepIn K (.ref f1) = true)
    (a2 : PySem.W.nsIn K mainGlobals "is_within" = some (some (.ref f2)))
    (l2 : K.lookup f2 = some ⟨oc2, od2, .func (PySem.W.fnOf "is_within" "is_within" (defArgs s_is_within) (defBody s_is_within) (defScope s_is_within) .none kV2 dc2 pm2 an2 cd2 ct2), sl2⟩)
    (c2 : PySem.W.codeIn K cd2 "is_within" = true)
    (k2 : PySem.W.keepIn K (.ref f2) = true)
    (a3 : PySem.W.nsIn K mainGlobals "require_within" = some (some (.ref f3)))
    (l3 : K.lookup f3 = some ⟨oc3, od3, .func (PySem.W.fnOf "require_within" "require_within" (defArgs s_require_within) (defBody s_require_within) (defScope s_require_within) .none kV3 dc3 pm3 an3 cd3 ct3), sl3⟩)
    (c3 : PySem.W.codeIn K cd3 "require_within" = true)
    (k3 : PySem.W.keepIn K (.ref f3) = true)
    (a4 : PySem.W.nsIn K mainGlobals "is_word_in" = some (some (.ref f4)))
    (l4 : K.lookup f4 = some ⟨oc4, od4, .func (PySem.W.fnOf "is_word_in" "is_word_in" (defArgs s_is_word_in) (defBody s_is_word_in) (defScope s_is_word_in) .none kV4 dc4 pm4 an4 cd4 ct4), sl4⟩)
    (c4 : PySem.W.codeIn K cd4 "is_word_in" = true)
    (k4 : PySem.W.keepIn K (.ref f4) = true)
    (a5 : PySem.W.nsIn K mainGlobals "require_width" = some (some (.ref f5)))
    (l5 : K.lookup f5 = some ⟨oc5, od5, .func (PySem.W.fnOf "require_width" "require_width" (defArgs s_require_width) (defBody s_require_width) (defScope s_require_width) .none kV5 dc5 pm5 an5 cd5 ct5), sl5⟩)
    (c5 : PySem.W.codeIn K cd5 "require_width" = true)
    (k5 : PySem.W.keepIn K (.ref f5) = true)
    (a6 : PySem.W.nsIn K mainGlobals "require_word" = some (some (.ref f6)))
    (l6 : K.lookup f6 = some ⟨oc6, od6, .func (PySem.W.fnOf "require_word" "require_word" (defArgs s_require_word) (defBody s_require_word) (defScope s_require_word) .none kV6 dc6 pm6 an6 cd6 ct6), sl6⟩)
    (c6 : PySem.W.codeIn K cd6 "require_word" = true)
    (k6 : PySem.W.keepIn K (.ref f6) = true)
    (a7 : PySem.W.nsIn K mainGlobals "require_one_word" = some (some (.ref f7)))
    (l7 : K.lookup f7 = some ⟨oc7, od7, .func (PySem.W.fnOf "require_one_word" "require_one_word" (defArgs s_require_one_word) (defBody s_require_one_word) (defScope s_require_one_word) .none kV7 dc7 pm7 an7 cd7 ct7), sl7⟩)
    (c7 : PySem.W.codeIn K cd7 "require_one_word" = true)
    (k7 : PySem.W.keepIn K (.ref f7) = true)
    (a8 : PySem.W.nsIn K mainGlobals "require_two_words" = some (some (.ref f8)))
    (l8 : K.lookup f8 = some ⟨oc8, od8, .func (PySem.W.fnOf "require_two_words" "require_two_words" (defArgs s_require_two_words) (defBody s_require_two_words) (defScope s_require_two_words) .none kV8 dc8 pm8 an8 cd8 ct8), sl8⟩)
    (c8 : PySem.W.codeIn K cd8 "require_two_words" = true)
    (k8 : PySem.W.keepIn K (.ref f8) = true)
    (a9 : PySem.W.nsIn K mainGlobals "signed_in" = some (some (.ref f9)))
    (l9 : K.lookup f9 = some ⟨oc9, od9, .func (PySem.W.fnOf "signed_in" "signed_in" (defArgs s_signed_in) (defBody s_signed_in) (defScope s_signed_in) .none kV9 dc9 pm9 an9 cd9 ct9), sl9⟩)
    (c9 : PySem.W.codeIn K cd9 "signed_in" = true)
    (k9 : PySem.W.keepIn K (.ref f9) = true)
    (a10 : PySem.W.nsIn K mainGlobals "wrapped" = some (some (.ref f10)))
    (l10 : K.lookup f10 = some ⟨oc10, od10, .func (PySem.W.fnOf "wrapped" "wrapped" (defArgs s_wrapped) (defBody s_wrapped) (defScope s_wrapped) .none kV10 dc10 pm10 an10 cd10 ct10), sl10⟩)
    (c10 : PySem.W.codeIn K cd10 "wrapped" = true)
    (k10 : PySem.W.keepIn K (.ref f10) = true)
    (a11 : PySem.W.nsIn K mainGlobals "signed" = some (some (.ref f11)))
    (l11 : K.lookup f11 = some ⟨oc11, od11, .func (PySem.W.fnOf "signed" "signed" (defArgs s_signed) (defBody s_signed) (defScope s_signed) .none kV11 dc11 pm11 an11 cd11 ct11), sl11⟩)
    (c11 : PySem.W.codeIn K cd11 "signed" = true)
    (k11 : PySem.W.keepIn K (.ref f11) = true)
    (a12 : PySem.W.nsIn K mainGlobals "multiplied" = some (some (.ref f12)))
    (l12 : K.lookup f12 = some ⟨oc12, od12, .func (PySem.W.fnOf "multiplied" "multiplied" (defArgs s_multiplied) (defBody s_multiplied) (defScope s_multiplied) .none kV12 dc12 pm12 an12 cd12 ct12), sl12⟩)
    (c12 : PySem.W.codeIn K cd12 "multiplied" = true)
    (k12 : PySem.W.keepIn K (.ref f12) = true)
    (a13 : PySem.W.nsIn K mainGlobals "divided" = some (some (.ref f13)))
    (l13 : K.lookup f13 = some ⟨oc13, od13, .func (PySem.W.fnOf "divided" "divided" (defArgs s_divided) (defBody s_divided) (defScope s_divided) .none kV13 dc13 pm13 an13 cd13 ct13), sl13⟩)
    (c13 : PySem.W.codeIn K cd13 "divided" = true)
    (k13 : PySem.W.keepIn K (.ref f13) = true)
    (a14 : PySem.W.nsIn K mainGlobals "moved_left" = some (some (.ref f14)))
    (l14 : K.lookup f14 = some ⟨oc14, od14, .func (PySem.W.fnOf "moved_left" "moved_left" (defArgs s_moved_left) (defBody s_moved_left) (defScope s_moved_left) .none kV14 dc14 pm14 an14 cd14 ct14), sl14⟩)
    (c14 : PySem.W.codeIn K cd14 "moved_left" = true)
    (k14 : PySem.W.keepIn K (.ref f14) = true)
    (a15 : PySem.W.nsIn K mainGlobals "moved_right" = some (some (.ref f15)))
    (l15 : K.lookup f15 = some ⟨oc15, od15, .func (PySem.W.fnOf "moved_right" "moved_right" (defArgs s_moved_right) (defBody s_moved_right) (defScope s_moved_right) .none kV15 dc15 pm15 an15 cd15 ct15), sl15⟩)
    (c15 : PySem.W.codeIn K cd15 "moved_right" = true)
    (k15 : PySem.W.keepIn K (.ref f15) = true)
    (a16 : PySem.W.nsIn K mainGlobals "_law_dice" = some (some (.ref f16)))
    (l16 : K.lookup f16 = some ⟨oc16, od16, .func (PySem.W.fnOf "_law_dice" "_law_dice" (defArgs s__law_dice) (defBody s__law_dice) (defScope s__law_dice) .none kV16 dc16 pm16 an16 cd16 ct16), sl16⟩)
    (c16 : PySem.W.codeIn K cd16 "_law_dice" = true)
    (k16 : PySem.W.keepIn K (.ref f16) = true)
    (a17 : PySem.W.nsIn K mainGlobals "_law_roll" = some (some (.ref f17)))
    (l17 : K.lookup f17 = some ⟨oc17, od17, .func (PySem.W.fnOf "_law_roll" "_law_roll" (defArgs s__law_roll) (defBody s__law_roll) (defScope s__law_roll) .none kV17 dc17 pm17 an17 cd17 ct17), sl17⟩)
    (c17 : PySem.W.codeIn K cd17 "_law_roll" = true)
    (k17 : PySem.W.keepIn K (.ref f17) = true)
    (a18 : PySem.W.nsIn K mainGlobals "_law_one_of" = some (some (.ref f18)))
    (l18 : K.lookup f18 = some ⟨oc18, od18, .func (PySem.W.fnOf "_law_one_of" "_law_one_of" (defArgs s__law_one_of) (defBody s__law_one_of) (defScope s__law_one_of) .none kV18 dc18 pm18 an18 cd18 ct18), sl18⟩)
    (c18 : PySem.W.codeIn K cd18 "_law_one_of" = true)
    (k18 : PySem.W.keepIn K (.ref f18) = true)
    (a19 : PySem.W.nsIn K mainGlobals "_law_two_to" = some (some (.ref f19)))
    (l19 : K.lookup f19 = some ⟨oc19, od19, .func (PySem.W.fnOf "_law_two_to" "_law_two_to" (defArgs s__law_two_to) (defBody s__law_two_to) (defScope s__law_two_to) .none kV19 dc19 pm19 an19 cd19 ct19), sl19⟩)
    (c19 : PySem.W.codeIn K cd19 "_law_two_to" = true)
    (k19 : PySem.W.keepIn K (.ref f19) = true)
    (a20 : PySem.W.nsIn K mainGlobals "_law_word_drawn" = some (some (.ref f20)))
    (l20 : K.lookup f20 = some ⟨oc20, od20, .func (PySem.W.fnOf "_law_word_drawn" "_law_word_drawn" (defArgs s__law_word_drawn) (defBody s__law_word_drawn) (defScope s__law_word_drawn) .none kV20 dc20 pm20 an20 cd20 ct20), sl20⟩)
    (c20 : PySem.W.codeIn K cd20 "_law_word_drawn" = true)
    (k20 : PySem.W.keepIn K (.ref f20) = true)
    (a21 : PySem.W.nsIn K mainGlobals "_law_bits" = some (some (.ref f21)))
    (l21 : K.lookup f21 = some ⟨oc21, od21, .func (PySem.W.fnOf "_law_bits" "_law_bits" (defArgs s__law_bits) (defBody s__law_bits) (defScope s__law_bits) .none kV21 dc21 pm21 an21 cd21 ct21), sl21⟩)
    (c21 : PySem.W.codeIn K cd21 "_law_bits" = true)
    (k21 : PySem.W.keepIn K (.ref f21) = true)
    (a22 : PySem.W.nsIn K mainGlobals "_law_of_bits" = some (some (.ref f22)))
    (l22 : K.lookup f22 = some ⟨oc22, od22, .func (PySem.W.fnOf "_law_of_bits" "_law_of_bits" (defArgs s__law_of_bits) (defBody s__law_of_bits) (defScope s__law_of_bits) .none kV22 dc22 pm22 an22 cd22 ct22), sl22⟩)
    (c22 : PySem.W.codeIn K cd22 "_law_of_bits" = true)
    (k22 : PySem.W.keepIn K (.ref f22) = true)
    (a23 : PySem.W.nsIn K mainGlobals "_law_width_drawn" = some (some (.ref f23)))
    (l23 : K.lookup f23 = some ⟨oc23, od23, .func (PySem.W.fnOf "_law_width_drawn" "_law_width_drawn" (defArgs s__law_width_drawn) (defBody s__law_width_drawn) (defScope s__law_width_drawn) .none kV23 dc23 pm23 an23 cd23 ct23), sl23⟩)
    (c23 : PySem.W.codeIn K cd23 "_law_width_drawn" = true)
    (k23 : PySem.W.keepIn K (.ref f23) = true)
    (a24 : PySem.W.nsIn K mainGlobals "_law_product" = some (some (.ref f24)))
    (l24 : K.lookup f24 = some ⟨oc24, od24, .func (PySem.W.fnOf "_law_product" "_law_product" (defArgs s__law_product) (defBody s__law_product) (defScope s__law_product) .none kV24 dc24 pm24 an24 cd24 ct24), sl24⟩)
    (c24 : PySem.W.codeIn K cd24 "_law_product" = true)
    (k24 : PySem.W.keepIn K (.ref f24) = true)
    (a25 : PySem.W.nsIn K mainGlobals "_law_quotient" = some (some (.ref f25)))
    (l25 : K.lookup f25 = some ⟨oc25, od25, .func (PySem.W.fnOf "_law_quotient" "_law_quotient" (defArgs s__law_quotient) (defBody s__law_quotient) (defScope s__law_quotient) .none kV25 dc25 pm25 an25 cd25 ct25), sl25⟩)
    (c25 : PySem.W.codeIn K cd25 "_law_quotient" = true)
    (k25 : PySem.W.keepIn K (.ref f25) = true)
    (a26 : PySem.W.nsIn K mainGlobals "_law_moves_right" = some (some (.ref f26)))
    (l26 : K.lookup f26 = some ⟨oc26, od26, .func (PySem.W.fnOf "_law_moves_right" "_law_moves_right" (defArgs s__law_moves_right) (defBody s__law_moves_right) (defScope s__law_moves_right) .none kV26 dc26 pm26 an26 cd26 ct26), sl26⟩)
    (c26 : PySem.W.codeIn K cd26 "_law_moves_right" = true)
    (k26 : PySem.W.keepIn K (.ref f26) = true)
    (a27 : PySem.W.nsIn K mainGlobals "_law_right" = some (some (.ref f27)))
    (l27 : K.lookup f27 = some ⟨oc27, od27, .func (PySem.W.fnOf "_law_right" "_law_right" (defArgs s__law_right) (defBody s__law_right) (defScope s__law_right) .none kV27 dc27 pm27 an27 cd27 ct27), sl27⟩)
    (c27 : PySem.W.codeIn K cd27 "_law_right" = true)
    (k27 : PySem.W.keepIn K (.ref f27) = true)
    (a28 : PySem.W.nsIn K mainGlobals "law" = some (some (.ref f28)))
    (l28 : K.lookup f28 = some ⟨oc28, od28, .func (PySem.W.fnOf "law" "law" (defArgs s_law) (defBody s_law) (defScope s_law) .none kV28 dc28 pm28 an28 cd28 ct28), sl28⟩)
    (c28 : PySem.W.codeIn K cd28 "law" = true)
    (k28 : PySem.W.keepIn K (.ref f28) = true)
    (v0 : PySem.W.nsIn K mainGlobals "SIXTY" = some (some (.int (10 ^ 60) tk0)))
    (v1 : PySem.W.nsIn K mainGlobals "MAX_WIDTH" = some (some (.int 32 tk1)))
    (v2 : PySem.W.nsIn K mainGlobals "MAX_PLACES" = some (some (.int 63 tk2)))
    (z0 : PySem.W.nsIn K mainGlobals "isinstance" = some none)
    (z1 : PySem.W.nsIn K mainGlobals "int" = some none)
    (z2 : PySem.W.nsIn K mainGlobals "bool" = some none)
    (z3 : PySem.W.nsIn K mainGlobals "divmod" = some none)
    (z4 : PySem.W.nsIn K mainGlobals "len" = some none)
    (z5 : PySem.W.nsIn K mainGlobals "abs" = some none)
    (z6 : PySem.W.nsIn K mainGlobals "range" = some none)
    (z7 : PySem.W.nsIn K mainGlobals "list" = some none)
    (z8 : PySem.W.nsIn K mainGlobals "enumerate" = some none)
    (z9 : PySem.W.nsIn K mainGlobals "max" = some none)
    (z10 : PySem.W.nsIn K mainGlobals "min" = some none)
    : Txt K mg :=
  ⟨defAt X G a0 l0 c0 k0 (fun _ _ _ _ _ _ us hl => match us, hl with | [_], _ => rfl),
   defAt X G a1 l1 c1 k1 (fun _ _ _ _ _ _ us hl => match us, hl with | [_], _ => rfl),
   defAt X G a2 l2 c2 k2 (fun _ _ _ _ _ _ us hl => match us, hl with | [_, _, _], _ => rfl),
   defAt X G a3 l3 c3 k3 (fun _ _ _ _ _ _ us hl => match us, hl with | [_, _, _], _ => rfl),
   defAt X G a4 l4 c4 k4 (fun _ _ _ _ _ _ us hl => match us, hl with | [_, _], _ => rfl),
   defAt X G a5 l5 c5 k5 (fun _ _ _ _ _ _ us hl => match us, hl with | [_], _ => rfl),
   defAt X G a6 l6 c6 k6 (fun _ _ _ _ _ _ us hl => match us, hl with | [_, _], _ => rfl),
   defAt X G a7 l7 c7 k7 (fun _ _ _ _ _ _ us hl => match us, hl with | [_, _], _ => rfl),
   defAt X G a8 l8 c8 k8 (fun _ _ _ _ _ _ us hl => match us, hl with | [_, _, _], _ => rfl),
   defAt X G a9 l9 c9 k9 (fun _ _ _ _ _ _ us hl => match us, hl with | [_, _], _ => rfl),
   defAt X G a10 l10 c10 k10 (fun _ _ _ _ _ _ us hl => match us, hl with | [_, _], _ => rfl),
   defAt X G a11 l11 c11 k11 (fun _ _ _ _ _ _ us hl => match us, hl with | [_, _], _ => rfl),
   defAt X G a12 l12 c12 k12 (fun _ _ _ _ _ _ us hl => match us, hl with | [_, _, _], _ => rfl),
   defAt X G a13 l13 c13 k13 (fun _ _ _ _ _ _ us hl => match us, hl with | [_, _, _], _ => rfl),
   defAt X G a14 l14 c14 k14 (fun _ _ _ _ _ _ us hl => match us, hl with | [_, _, _], _ => rfl),
   defAt X G a15 l15 c15 k15 (fun _ _ _ _ _ _ us hl => match us, hl with | [_, _, _], _ => rfl),
   defAt X G a16 l16 c16 k16 (fun _ _ _ _ _ _ us hl => match us, hl with | [_, _], _ => rfl),
   defAt X G a17 l17 c17 k17 (fun _ _ _ _ _ _ us hl => match us, hl with | [_, _], _ => rfl),
   defAt X G a18 l18 c18 k18 (fun _ _ _ _ _ _ us hl => match us, hl with | [_, _], _ => rfl),
   defAt X G a19 l19 c19 k19 (fun _ _ _ _ _ _ us hl => match us, hl with | [_], _ => rfl),
   defAt X G a20 l20 c20 k20 (fun _ _ _ _ _ _ us hl => match us, hl with | [_, _], _ => rfl),
   defAt X G a21 l21 c21 k21 (fun _ _ _ _ _ _ us hl => match us, hl with | [_, _], _ => rfl),
   defAt X G a22 l22 c22 k22 (fun _ _ _ _ _ _ us hl => match us, hl with | [_], _ => rfl),
   defAt X G a23 l23 c23 k23 (fun _ _ _ _ _ _ us hl => match us, hl with | [_], _ => rfl),
   defAt X G a24 l24 c24 k24 (fun _ _ _ _ _ _ us hl => match us, hl with | [_, _, _], _ => rfl),
   defAt X G a25 l25 c25 k25 (fun _ _ _ _ _ _ us hl => match us, hl with | [_, _, _], _ => rfl),
   defAt X G a26 l26 c26 k26 (fun _ _ _ _ _ _ us hl => match us, hl with | [_, _, _], _ => rfl),
   defAt X G a27 l27 c27 k27 (fun _ _ _ _ _ _ us hl => match us, hl with | [_], _ => rfl),
   defAt X G a28 l28 c28 k28 (fun _ _ _ _ _ _ us hl => match us, hl with | [_], _ => rfl),
   ⟨_, PySem.W.mg_of X G v0, ⟨_, rfl⟩⟩,
   ⟨_, PySem.W.mg_of X G v1, ⟨_, rfl⟩⟩,
   ⟨_, PySem.W.mg_of X G v2, ⟨_, rfl⟩⟩,
   PySem.W.mg_none_of X G z0,
   PySem.W.mg_none_of X G z1,
   PySem.W.mg_none_of X G z2,
   PySem.W.mg_none_of X G z3,
   PySem.W.mg_none_of X G z4,
   PySem.W.mg_none_of X G z5,
   PySem.W.mg_none_of X G z6,
   PySem.W.mg_none_of X G z7,
   PySem.W.mg_none_of X G z8,
   PySem.W.mg_none_of X G z9,
   PySem.W.mg_none_of X G z10⟩
theorem fin {l : PySem.W.OpenLaw} {w : World} {K : PySem.W.Frag} {h : Heap} {mg : Str → Option Value} {fa : Addr} (X : K.In h) (G : h.Ns mainGlobals mg) (hfa : mg "law" = some (.ref fa))
    {f0 f1 f2 f3 f4 f5 f6 f7 f8 f9 f10 f11 f12 f13 f14 f15 f16 f17 f18 f19 f20 f21 f22 f23 f24 f25 f26 f27 f28 : Addr} {od0 an0 od1 an1 od2 an2 od3 an3 od4 an4 od5 an5 od6 an6 od7 an7 od8 an8 od9 an9 od10 an10 od11 an11 od12 an12 od13 an13 od14 an14 od15 an15 od16 an16 od17 an17 od18 an18 od19 an19 od20 an20 od21 an21 od22 an22 od23 an23 od24 an24 od25 an25 od26 an26 od27 an27 od28 an28 : Option Addr} {sl0 sl1 sl2 sl3 sl4 sl5 sl6 sl7 sl8 sl9 sl10 sl11 sl12 sl13 sl14 sl15 sl16 sl17 sl18 sl19 sl20 sl21 sl22 sl23 sl24 sl25 sl26 sl27 sl28 : Array (Option Value)} {oc0 kV0 dc0 pm0 cd0 ct0 oc1 kV1 dc1 pm1 cd1 ct1 oc2 kV2 dc2 pm2 cd2 ct2 oc3 kV3 dc3 pm3 cd3 ct3 oc4 kV4 dc4 pm4 cd4 ct4 oc5 kV5 dc5 pm5 cd5 ct5 oc6 kV6 dc6 pm6 cd6 ct6 oc7 kV7 dc7 pm7 cd7 ct7 oc8 kV8 dc8 pm8 cd8 ct8 oc9 kV9 dc9 pm9 cd9 ct9 oc10 kV10 dc10 pm10 cd10 ct10 oc11 kV11 dc11 pm11 cd11 ct11 oc12 kV12 dc12 pm12 cd12 ct12 oc13 kV13 dc13 pm13 cd13 ct13 oc14 kV14 dc14 pm14 cd14 ct14 oc15 kV15 dc15 pm15 cd15 ct15 oc16 kV16 dc16 pm16 cd16 ct16 oc17 kV17 dc17 pm17 cd17 ct17 oc18 kV18 dc18 pm18 cd18 ct18 oc19 kV19 dc19 pm19 cd19 ct19 oc20 kV20 dc20 pm20 cd20 ct20 oc21 kV21 dc21 pm21 cd21 ct21 oc22 kV22 dc22 pm22 cd22 ct22 oc23 kV23 dc23 pm23 cd23 ct23 oc24 kV24 dc24 pm24 cd24 ct24 oc25 kV25 dc25 pm25 cd25 ct25 oc26 kV26 dc26 pm26 cd26 ct26 oc27 kV27 dc27 pm27 cd27 ct27 oc28 kV28 dc28 pm28 cd28 ct28 : Value} {tk0 tk1 tk2 : Tok}
    (a0 : PySem.W.nsIn K mainGlobals "is_integer" = some (some (.ref f0)))
    (l0 : K.lookup f0 = some ⟨oc0, od0, .func (PySem.W.fnOf "is_integer" "is_integer" (defArgs s_is_integer) (defBody s_is_integer) (defScope s_is_integer) .none kV0 dc0 pm0 an0 cd0 ct0), sl0⟩)
    (c0 : PySem.W.codeIn K cd0 "is_integer" = true)
    (k0 : PySem.W.keepIn K (.ref f0) = true)
    (a1 : PySem.W.nsIn K mainGlobals "is_short" = some (some (.ref f1)))
    (l1 : K.lookup f1 = some ⟨oc1, od1, .func (PySem.W.fnOf "is_short" "is_short" (defArgs s_is_short) (defBody s_is_short) (defScope s_is_short) .none kV1 dc1 pm1 an1 cd1 ct1), sl1⟩)
    (c1 : PySem.W.codeIn K cd1 "is_short" = true)
    (k1 : PySem.W.keepIn K (.ref f1) = true)
    (a2 : PySem.W.nsIn K mainGlobals "is_within" = some (some (.ref f2)))
    (l2 : K.lookup f2 = some ⟨oc2, od2, .func (PySem.W.fnOf "is_within" "is_within" (defArgs s_is_within) (defBody s_is_within) (defScope s_is_within) .none kV2 dc2 pm2 an2 cd2 ct2), sl2⟩)
    (c2 : PySem.W.codeIn K cd2 "is_within" = true)
    (k2 : PySem.W.keepIn K (.ref f2) = true)
    (a3 : PySem.W.nsIn K mainGlobals "require_within" = some (some (.ref f3)))
    (l3 : K.lookup f3 = some ⟨oc3, od3, .func (PySem.W.fnOf "require_within" "require_within" (defArgs s_require_within) (defBody s_require_within) (defScope s_require_within) .none kV3 dc3 pm3 an3 cd3 ct3), sl3⟩)
    (c3 : PySem.W.codeIn K cd3 "require_within" = true)
    (k3 : PySem.W.keepIn K (.ref f3) = true)
    (a4 : PySem.W.nsIn K mainGlobals "is_word_in" = some (some (.ref f4)))
    (l4 : K.lookup f4 = some ⟨oc4, od4, .func (PySem.W.fnOf "is_word_in" "is_word_in" (defArgs s_is_word_in) (defBody s_is_word_in) (defScope s_is_word_in) .none kV4 dc4 pm4 an4 cd4 ct4), sl4⟩)
    (c4 : PySem.W.codeIn K cd4 "is_word_in" = true)
    (k4 : PySem.W.keepIn K (.ref f4) = true)
    (a5 : PySem.W.nsIn K mainGlobals "require_width" = some (some (.ref f5)))
    (l5 : K.lookup f5 = some ⟨oc5, od5, .func (PySem.W.fnOf "require_width" "require_width" (defArgs s_require_width) (defBody s_require_width) (defScope s_require_width) .none kV5 dc5 pm5 an5 cd5 ct5), sl5⟩)
    (c5 : PySem.W.codeIn K cd5 "require_width" = true)
    (k5 : PySem.W.keepIn K (.ref f5) = true)
    (a6 : PySem.W.nsIn K mainGlobals "require_word" = some (some (.ref f6)))
    (l6 : K.lookup f6 = some ⟨oc6, od6, .func (PySem.W.fnOf "require_word" "require_word" (defArgs s_require_word) (defBody s_require_word) (defScope s_require_word) .none kV6 dc6 pm6 an6 cd6 ct6), sl6⟩)
    (c6 : PySem.W.codeIn K cd6 "require_word" = true)
    (k6 : PySem.W.keepIn K (.ref f6) = true)
    (a7 : PySem.W.nsIn K mainGlobals "require_one_word" = some (some (.ref f7)))
    (l7 : K.lookup f7 = some ⟨oc7, od7, .func (PySem.W.fnOf "require_one_word" "require_one_word" (defArgs s_require_one_word) (defBody s_require_one_word) (defScope s_require_one_word) .none kV7 dc7 pm7 an7 cd7 ct7), sl7⟩)
    (c7 : PySem.W.codeIn K cd7 "require_one_word" = true)
    (k7 : PySem.W.keepIn K (.ref f7) = true)
    (a8 : PySem.W.nsIn K mainGlobals "require_two_words" = some (some (.ref f8)))
    (l8 : K.lookup f8 = some ⟨oc8, od8, .func (PySem.W.fnOf "require_two_words" "require_two_words" (defArgs s_require_two_words) (defBody s_require_two_words) (defScope s_require_two_words) .none kV8 dc8 pm8 an8 cd8 ct8), sl8⟩)
    (c8 : PySem.W.codeIn K cd8 "require_two_words" = true)
    (k8 : PySem.W.keepIn K (.ref f8) = true)
    (a9 : PySem.W.nsIn K mainGlobals "signed_in" = some (some (.ref f9)))
    (l9 : K.lookup f9 = some ⟨oc9, od9, .func (PySem.W.fnOf "signed_in" "signed_in" (defArgs s_signed_in) (defBody s_signed_in) (defScope s_signed_in) .none kV9 dc9 pm9 an9 cd9 ct9), sl9⟩)
    (c9 : PySem.W.codeIn K cd9 "signed_in" = true)
    (k9 : PySem.W.keepIn K (.ref f9) = true)
    (a10 : PySem.W.nsIn K mainGlobals "wrapped" = some (some (.ref f10)))
    (l10 : K.lookup f10 = some ⟨oc10, od10, .func (PySem.W.fnOf "wrapped" "wrapped" (defArgs s_wrapped) (defBody s_wrapped) (defScope s_wrapped) .none kV10 dc10 pm10 an10 cd10 ct10), sl10⟩)
    (c10 : PySem.W.codeIn K cd10 "wrapped" = true)
    (k10 : PySem.W.keepIn K (.ref f10) = true)
    (a11 : PySem.W.nsIn K mainGlobals "signed" = some (some (.ref f11)))
    (l11 : K.lookup f11 = some ⟨oc11, od11, .func (PySem.W.fnOf "signed" "signed" (defArgs s_signed) (defBody s_signed) (defScope s_signed) .none kV11 dc11 pm11 an11 cd11 ct11), sl11⟩)
    (c11 : PySem.W.codeIn K cd11 "signed" = true)
    (k11 : PySem.W.keepIn K (.ref f11) = true)
    (a12 : PySem.W.nsIn K mainGlobals "multiplied" = some (some (.ref f12)))
    (l12 : K.lookup f12 = some ⟨oc12, od12, .func (PySem.W.fnOf "multiplied" "multiplied" (defArgs s_multiplied) (defBody s_multiplied) (defScope s_multiplied) .none kV12 dc12 pm12 an12 cd12 ct12), sl12⟩)
    (c12 : PySem.W.codeIn K cd12 "multiplied" = true)
    (k12 : PySem.W.keepIn K (.ref f12) = true)
    (a13 : PySem.W.nsIn K mainGlobals "divided" = some (some (.ref f13)))
    (l13 : K.lookup f13 = some ⟨oc13, od13, .func (PySem.W.fnOf "divided" "divided" (defArgs s_divided) (defBody s_divided) (defScope s_divided) .none kV13 dc13 pm13 an13 cd13 ct13), sl13⟩)
    (c13 : PySem.W.codeIn K cd13 "divided" = true)
    (k13 : PySem.W.keepIn K (.ref f13) = true)
    (a14 : PySem.W.nsIn K mainGlobals "moved_left" = some (some (.ref f14)))
    (l14 : K.lookup f14 = some ⟨oc14, od14, .func (PySem.W.fnOf "moved_left" "moved_left" (defArgs s_moved_left) (defBody s_moved_left) (defScope s_moved_left) .none kV14 dc14 pm14 an14 cd14 ct14), sl14⟩)
    (c14 : PySem.W.codeIn K cd14 "moved_left" = true)
    (k14 : PySem.W.keepIn K (.ref f14) = true)
    (a15 : PySem.W.nsIn K mainGlobals "moved_right" = some (some (.ref f15)))
    (l15 : K.lookup f15 = some ⟨oc15, od15, .func (PySem.W.fnOf "moved_right" "moved_right" (defArgs s_moved_right) (defBody s_moved_right) (defScope s_moved_right) .none kV15 dc15 pm15 an15 cd15 ct15), sl15⟩)
    (c15 : PySem.W.codeIn K cd15 "moved_right" = true)
    (k15 : PySem.W.keepIn K (.ref f15) = true)
    (a16 : PySem.W.nsIn K mainGlobals "_law_dice" = some (some (.ref f16)))
    (l16 : K.lookup f16 = some ⟨oc16, od16, .func (PySem.W.fnOf "_law_dice" "_law_dice" (defArgs s__law_dice) (defBody s__law_dice) (defScope s__law_dice) .none kV16 dc16 pm16 an16 cd16 ct16), sl16⟩)
    (c16 : PySem.W.codeIn K cd16 "_law_dice" = true)
    (k16 : PySem.W.keepIn K (.ref f16) = true)
    (a17 : PySem.W.nsIn K mainGlobals "_law_roll" = some (some (.ref f17)))
    (l17 : K.lookup f17 = some ⟨oc17, od17, .func (PySem.W.fnOf "_law_roll" "_law_roll" (defArgs s__law_roll) (defBody s__law_roll) (defScope s__law_roll) .none kV17 dc17 pm17 an17 cd17 ct17), sl17⟩)
    (c17 : PySem.W.codeIn K cd17 "_law_roll" = true)
    (k17 : PySem.W.keepIn K (.ref f17) = true)
    (a18 : PySem.W.nsIn K mainGlobals "_law_one_of" = some (some (.ref f18)))
    (l18 : K.lookup f18 = some ⟨oc18, od18, .func (PySem.W.fnOf "_law_one_of" "_law_one_of" (defArgs s__law_one_of) (defBody s__law_one_of) (defScope s__law_one_of) .none kV18 dc18 pm18 an18 cd18 ct18), sl18⟩)
    (c18 : PySem.W.codeIn K cd18 "_law_one_of" = true)
    (k18 : PySem.W.keepIn K (.ref f18) = true)
    (a19 : PySem.W.nsIn K mainGlobals "_law_two_to" = some (some (.ref f19)))
    (l19 : K.lookup f19 = some ⟨oc19, od19, .func (PySem.W.fnOf "_law_two_to" "_law_two_to" (defArgs s__law_two_to) (defBody s__law_two_to) (defScope s__law_two_to) .none kV19 dc19 pm19 an19 cd19 ct19), sl19⟩)
    (c19 : PySem.W.codeIn K cd19 "_law_two_to" = true)
    (k19 : PySem.W.keepIn K (.ref f19) = true)
    (a20 : PySem.W.nsIn K mainGlobals "_law_word_drawn" = some (some (.ref f20)))
    (l20 : K.lookup f20 = some ⟨oc20, od20, .func (PySem.W.fnOf "_law_word_drawn" "_law_word_drawn" (defArgs s__law_word_drawn) (defBody s__law_word_drawn) (defScope s__law_word_drawn) .none kV20 dc20 pm20 an20 cd20 ct20), sl20⟩)
    (c20 : PySem.W.codeIn K cd20 "_law_word_drawn" = true)
    (k20 : PySem.W.keepIn K (.ref f20) = true)
    (a21 : PySem.W.nsIn K mainGlobals "_law_bits" = some (some (.ref f21)))
    (l21 : K.lookup f21 = some ⟨oc21, od21, .func (PySem.W.fnOf "_law_bits" "_law_bits" (defArgs s__law_bits) (defBody s__law_bits) (defScope s__law_bits) .none kV21 dc21 pm21 an21 cd21 ct21), sl21⟩)
    (c21 : PySem.W.codeIn K cd21 "_law_bits" = true)
    (k21 : PySem.W.keepIn K (.ref f21) = true)
    (a22 : PySem.W.nsIn K mainGlobals "_law_of_bits" = some (some (.ref f22)))
    (l22 : K.lookup f22 = some ⟨oc22, od22, .func (PySem.W.fnOf "_law_of_bits" "_law_of_bits" (defArgs s__law_of_bits) (defBody s__law_of_bits) (defScope s__law_of_bits) .none kV22 dc22 pm22 an22 cd22 ct22), sl22⟩)
    (c22 : PySem.W.codeIn K cd22 "_law_of_bits" = true)
    (k22 : PySem.W.keepIn K (.ref f22) = true)
    (a23 : PySem.W.nsIn K mainGlobals "_law_width_drawn" = some (some (.ref f23)))
    (l23 : K.lookup f23 = some ⟨oc23, od23, .func (PySem.W.fnOf "_law_width_drawn" "_law_width_drawn" (defArgs s__law_width_drawn) (defBody s__law_width_drawn) (defScope s__law_width_drawn) .none kV23 dc23 pm23 an23 cd23 ct23), sl23⟩)
    (c23 : PySem.W.codeIn K cd23 "_law_width_drawn" = true)
    (k23 : PySem.W.keepIn K (.ref f23) = true)
    (a24 : PySem.W.nsIn K mainGlobals "_law_product" = some (some (.ref f24)))
    (l24 : K.lookup f24 = some ⟨oc24, od24, .func (PySem.W.fnOf "_law_product" "_law_product" (defArgs s__law_product) (defBody s__law_product) (defScope s__law_product) .none kV24 dc24 pm24 an24 cd24 ct24), sl24⟩)
    (c24 : PySem.W.codeIn K cd24 "_law_product" = true)
    (k24 : PySem.W.keepIn K (.ref f24) = true)
    (a25 : PySem.W.nsIn K mainGlobals "_law_quotient" = some (some (.ref f25)))
    (l25 : K.lookup f25 = some ⟨oc25, od25, .func (PySem.W.fnOf "_law_quotient" "_law_quotient" (defArgs s__law_quotient) (defBody s__law_quotient) (defScope s__law_quotient) .none kV25 dc25 pm25 an25 cd25 ct25), sl25⟩)
    (c25 : PySem.W.codeIn K cd25 "_law_quotient" = true)
    (k25 : PySem.W.keepIn K (.ref f25) = true)
    (a26 : PySem.W.nsIn K mainGlobals "_law_moves_right" = some (some (.ref f26)))
    (l26 : K.lookup f26 = some ⟨oc26, od26, .func (PySem.W.fnOf "_law_moves_right" "_law_moves_right" (defArgs s__law_moves_right) (defBody s__law_moves_right) (defScope s__law_moves_right) .none kV26 dc26 pm26 an26 cd26 ct26), sl26⟩)
    (c26 : PySem.W.codeIn K cd26 "_law_moves_right" = true)
    (k26 : PySem.W.keepIn K (.ref f26) = true)
    (a27 : PySem.W.nsIn K mainGlobals "_law_right" = some (some (.ref f27)))
    (l27 : K.lookup f27 = some ⟨oc27, od27, .func (PySem.W.fnOf "_law_right" "_law_right" (defArgs s__law_right) (defBody s__law_right) (defScope s__law_right) .none kV27 dc27 pm27 an27 cd27 ct27), sl27⟩)
    (c27 : PySem.W.codeIn K cd27 "_law_right" = true)
    (k27 : PySem.W.keepIn K (.ref f27) = true)
    (a28 : PySem.W.nsIn K mainGlobals "law" = some (some (.ref f28)))
    (l28 : K.lookup f28 = some ⟨oc28, od28, .func (PySem.W.fnOf "law" "law" (defArgs s_law) (defBody s_law) (defScope s_law) .none kV28 dc28 pm28 an28 cd28 ct28), sl28⟩)
    (c28 : PySem.W.codeIn K cd28 "law" = true)
    (k28 : PySem.W.keepIn K (.ref f28) = true)
    (v0 : PySem.W.nsIn K mainGlobals "SIXTY" = some (some (.int (10 ^ 60) tk0)))
    (v1 : PySem.W.nsIn K mainGlobals "MAX_WIDTH" = some (some (.int 32 tk1)))
    (v2 : PySem.W.nsIn K mainGlobals "MAX_PLACES" = some (some (.int 63 tk2)))
    (z0 : PySem.W.nsIn K mainGlobals "isinstance" = some none)
    (z1 : PySem.W.nsIn K mainGlobals "int" = some none)
    (z2 : PySem.W.nsIn K mainGlobals "bool" = some none)
    (z3 : PySem.W.nsIn K mainGlobals "divmod" = some none)
    (z4 : PySem.W.nsIn K mainGlobals "len" = some none)
    (z5 : PySem.W.nsIn K mainGlobals "abs" = some none)
    (z6 : PySem.W.nsIn K mainGlobals "range" = some none)
    (z7 : PySem.W.nsIn K mainGlobals "list" = some none)
    (z8 : PySem.W.nsIn K mainGlobals "enumerate" = some none)
    (z9 : PySem.W.nsIn K mainGlobals "max" = some none)
    (z10 : PySem.W.nsIn K mainGlobals "min" = some none)
    : ∃ fd : FuncData, (∀ (s : Shared) (v : Value), BindsTo s fd ⟨[v], []⟩ [("_law_script", v)]) ∧ ∀ base : Heap, K.In base → base.Ns mainGlobals mg → FnOk l.prog w K mg base CX0 9 fa fd ["_law_script"] (sp_law K) := by
  have e := hfa.symm.trans (PySem.W.mg_of X G a28)
  cases e
  exact ⟨PySem.W.fnOf "law" "law" (defArgs s_law) (defBody s_law) (defScope s_law) .none kV28 dc28 pm28 an28 cd28 ct28, fun s v => .of_eq rfl, fun base _ _ => ok_law (txt_mk X G a0 l0 c0 k0 a1 l1 c1 k1 a2 l2 c2 k2 a3 l3 c3 k3 a4 l4 c4 k4 a5 l5 c5 k5 a6 l6 c6 k6 a7 l7 c7 k7 a8 l8 c8 k8 a9 l9 c9 k9 a10 l10 c10 k10 a11 l11 c11 k11 a12 l12 c12 k12 a13 l13 c13 k13 a14 l14 c14 k14 a15 l15 c15 k15 a16 l16 c16 k16 a17 l17 c17 k17 a18 l18 c18 k18 a19 l19 c19 k19 a20 l20 c20 k20 a21 l21 c21 k21 a22 l22 c22 k22 a23 l23 c23 k23 a24 l24 c24 k24 a25 l25 c25 k25 a26 l26 c26 k26 a27 l27 c27 k27 a28 l28 c28 k28 v0 v1 v2 z0 z1 z2 z3 z4 z5 z6 z7 z8 z9 z10)⟩
end TB
open PySem PySem.W PyProof.Rows
set_option maxRecDepth 100000 in
set_option maxHeartbeats 0 in
theorem PySem.Challenge.cw_truebeat_k02_whole_products_and_quotient_holds : PySem.Challenge.rw_truebeat_k02_whole_products_and_quotient.Holds := by
  w_on; o_law; k_head; (case hw => w_witness2)
  k_fill
  refine L2.walk_of (l := PySem.Challenge.rw_truebeat_k02_whole_products_and_quotient) (n := 63) (k := 9) (x := "_law_script") (CX := fun _ => L2.CX0) (sp := fun w => TB.sp_law _) rfl (by decide) rfl ⟨rfl, by decide, by decide⟩ (fun w h Y => PySem.W.kIn_of Y) ?F (fun _ _ a ns hl _ hS => ⟨a, ns, rfl, hS, hl, fun _ => rfl⟩) (fun _ _ _ _ _ h => h)
  case F =>
    intro w mg fa h KX G hmg
    refine' TB.fin KX G hmg ?a0 ?l0 ?c0 ?k0 ?a1 ?l1 ?c1 ?k1 ?a2 ?l2 ?c2 ?k2 ?a3 ?l3 ?c3 ?k3 ?a4 ?l4 ?c4 ?k4 ?a5 ?l5 ?c5 ?k5 ?a6 ?l6 ?c6 ?k6 ?a7 ?l7 ?c7 ?k7 ?a8 ?l8 ?c8 ?k8 ?a9 ?l9 ?c9 ?k9 ?a10 ?l10 ?c10 ?k10 ?a11 ?l11 ?c11 ?k11 ?a12 ?l12 ?c12 ?k12 ?a13 ?l13 ?c13 ?k13 ?a14 ?l14 ?c14 ?k14 ?a15 ?l15 ?c15 ?k15 ?a16 ?l16 ?c16 ?k16 ?a17 ?l17 ?c17 ?k17 ?a18 ?l18 ?c18 ?k18 ?a19 ?l19 ?c19 ?k19 ?a20 ?l20 ?c20 ?k20 ?a21 ?l21 ?c21 ?k21 ?a22 ?l22 ?c22 ?k22 ?a23 ?l23 ?c23 ?k23 ?a24 ?l24 ?c24 ?k24 ?a25 ?l25 ?c25 ?k25 ?a26 ?l26 ?c26 ?k26 ?a27 ?l27 ?c27 ?k27 ?a28 ?l28 ?c28 ?k28 ?v0 ?v1 ?v2 ?z0 ?z1 ?z2 ?z3 ?z4 ?z5 ?z6 ?z7 ?z8 ?z9 ?z10
    (case a0 => k_is)
    (case l0 => k_is)
    (case c0 => k_is)
    (case k0 => k_is)
    (case a1 => k_is)
    (case l1 => k_is)
    (case c1 => k_is)
    (case k1 => k_is)
    (case a2 => k_is)
    (case l2 => k_is)
    (case c2 => k_is)
    (case k2 => k_is)
    (case a3 => k_is)
    (case l3 => k_is)
    (case c3 => k_is)
    (case k3 => k_is)
    (case a4 => k_is)
    (case l4 => k_is)
    (case c4 => k_is)
    (case k4 => k_is)
    (case a5 => k_is)
    (case l5 => k_is)
    (case c5 => k_is)
    (case k5 => k_is)
    (case a6 => k_is)
    (case l6 => k_is)
    (case c6 => k_is)
    (case k6 => k_is)
    (case a7 => k_is)
    (case l7 => k_is)
    (case c7 => k_is)
    (case k7 => k_is)
    (case a8 => k_is)
    (case l8 => k_is)
    (case c8 => k_is)
    (case k8 => k_is)
    (case a9 => k_is)
    (case l9 => k_is)
    (case c9 => k_is)
    (case k9 => k_is)
    (case a10 => k_is)
    (case l10 => k_is)
    (case c10 => k_is)
    (case k10 => k_is)
    (case a11 => k_is)
    (case l11 => k_is)
    (case c11 => k_is)
    (case k11 => k_is)
    (case a12 => k_is)
    (case l12 => k_is)
    (case c12 => k_is)
    (case k12 => k_is)
    (case a13 => k_is)
    (case l13 => k_is)
    (case c13 => k_is)
    (case k13 => k_is)
    (case a14 => k_is)
    (case l14 => k_is)
    (case c14 => k_is)
    (case k14 => k_is)
    (case a15 => k_is)
    (case l15 => k_is)
    (case c15 => k_is)
    (case k15 => k_is)
    (case a16 => k_is)
    (case l16 => k_is)
    (case c16 => k_is)
    (case k16 => k_is)
    (case a17 => k_is)
    (case l17 => k_is)
    (case c17 => k_is)
    (case k17 => k_is)
    (case a18 => k_is)
    (case l18 => k_is)
    (case c18 => k_is)
    (case k18 => k_is)
    (case a19 => k_is)
    (case l19 => k_is)
    (case c19 => k_is)
    (case k19 => k_is)
    (case a20 => k_is)
    (case l20 => k_is)
    (case c20 => k_is)
    (case k20 => k_is)
    (case a21 => k_is)
    (case l21 => k_is)
    (case c21 => k_is)
    (case k21 => k_is)
    (case a22 => k_is)
    (case l22 => k_is)
    (case c22 => k_is)
    (case k22 => k_is)
    (case a23 => k_is)
    (case l23 => k_is)
    (case c23 => k_is)
    (case k23 => k_is)
    (case a24 => k_is)
    (case l24 => k_is)
    (case c24 => k_is)
    (case k24 => k_is)
    (case a25 => k_is)
    (case l25 => k_is)
    (case c25 => k_is)
    (case k25 => k_is)
    (case a26 => k_is)
    (case l26 => k_is)
    (case c26 => k_is)
    (case k26 => k_is)
    (case a27 => k_is)
    (case l27 => k_is)
    (case c27 => k_is)
    (case k27 => k_is)
    (case a28 => k_is)
    (case l28 => k_is)
    (case c28 => k_is)
    (case k28 => k_is)
    (case v0 => k_is)
    (case v1 => k_is)
    (case v2 => k_is)
    (case z0 => k_is)
    (case z1 => k_is)
    (case z2 => k_is)
    (case z3 => k_is)
    (case z4 => k_is)
    (case z5 => k_is)
    (case z6 => k_is)
    (case z7 => k_is)
    (case z8 => k_is)
    (case z9 => k_is)
    (case z10 => k_is)
