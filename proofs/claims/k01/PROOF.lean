import PyProof.Rows.All
import Wide.All
import OpenK.AllK
import Wide.FinOn
import HandS.ForMost
import HandS.Wide
import HandS.WideBits
import HandS.Style
import HandS.IsInst
import HandS.TupAny
import HandS.Defaults
import HandS.Zip
import HandS.TupMul
import PySem.Challenge.RW_truebeat_k01_whole_sums_and_carries
set_option Elab.async false
set_option linter.all false
set_option maxRecDepth 100000
set_option maxHeartbeats 4000000
namespace TB
open PySem PySem.Spec PyProof.Rows L2
/-! ### where a def of the text stands; a module's constant -/
structure DefAt (K : PySem.W.Frag) (mg : Str → Option Value) (x : Str) (st : Stmt) (ps : List Str) where
  f : Addr
  fd : FuncData
  F : Fun K x x st f fd
  b : Binds K fd ps []
  g : mg x = some (.ref f)
structure ConAt (mg : Str → Option Value) (x : Str) (v : V) where
  u : Value
  g : mg x = some u
  r : RelV v u
def defAt {K : PySem.W.Frag} {h : Heap} {mg : Str → Option Value} {x : Str} {st : Stmt} {ps : List Str} (X : K.In h) (G : h.Ns mainGlobals mg) {f : Addr} {od an : Option Addr} {sl : Array (Option Value)} {oc kV dc pm cd ct : Value}
    (a : PySem.W.nsIn K mainGlobals x = some (some (.ref f))) (l : K.lookup f = some ⟨oc, od, .func (PySem.W.fnOf x x (defArgs st) (defBody st) (defScope st) .none kV dc pm an cd ct), sl⟩) (c : PySem.W.codeIn K cd x = true) (k : PySem.W.keepIn K (.ref f) = true)
    (hb : ∀ (kV doc pm : Value) (an : Option Addr) (cdv ct : Value) (us : List Value), us.length = ps.length → bindArgs (PySem.W.fnOf x x (defArgs st) (defBody st) (defScope st) .none kV doc pm an cdv ct) ⟨us, []⟩ = pure (ps.zip us)) : DefAt K mg x st ps :=
  ⟨f, _, fun_mk l c k, (fun_mk l c k).binds hb, PySem.W.mg_of X G a⟩

/-- a def with keyword-only parameters at its end, each with a default -/
structure DefKw (K : PySem.W.Frag) (mg : Str → Option Value) (x : Str) (st : Stmt) (ps : List Str) (n : Nat) (kws : List (Str × V)) where
  f : Addr
  fd : FuncData
  F : Fun K x x st f fd
  ds : List Value
  dv : Vals (kws.map (·.2)) ds
  b : Binds K fd ps ds
  kb : KBn K fd ps n (kws.map (·.1)) (fun us ws => us ++ ws) (fun vs zs => vs ++ zs)
  g : mg x = some (.ref f)
theorem defKw {K : PySem.W.Frag} {h : Heap} {mg : Str → Option Value} {x : Str} {st : Stmt} {ps : List Str} {n : Nat} {y : Str} {i : Int} {tk : Tok} (X : K.In h) (G : h.Ns mainGlobals mg) {f D : Addr} {od an : Option Addr} {sl : Array (Option Value)} {oc dc pm cd ct : Value}
    (a : PySem.W.nsIn K mainGlobals x = some (some (.ref f))) (l : K.lookup f = some ⟨oc, od, .func (PySem.W.fnOf x x (defArgs st) (defBody st) (defScope st) .none (.ref D) dc pm an cd ct), sl⟩) (c : PySem.W.codeIn K cd x = true) (k : PySem.W.keepIn K (.ref f) = true)
    (kd : PySem.W.nsIn K D y = some (some (.int i tk))) (hn : n + 1 = ps.length)
    (h1 : ∀ (D : Addr) (doc pm : Value) (an : Option Addr) (cdv ct : Value) (us ks : List Value), us.length = n → ks.length = 1 →
      KwChain D ([y].zip ks) (bindArgs (PySem.W.fnOf x x (defArgs st) (defBody st) (defScope st) .none (.ref D) doc pm an cdv ct) ⟨us, []⟩) (ps.zip (us ++ ks)))
    (h2 : ∀ (D : Addr) (doc pm : Value) (an : Option Addr) (cdv ct : Value) (us ks : List Value), us.length = n → ks.length = 1 →
      bindArgs (PySem.W.fnOf x x (defArgs st) (defBody st) (defScope st) .none (.ref D) doc pm an cdv ct) ⟨us, [y].zip ks⟩ = pure (ps.zip (us ++ ks))) : Nonempty (DefKw K mg x st ps n [(y, .int i)]) := by
  have FD : FunD K x x (defArgs st) (defBody st) (defScope st) [] [(y, .int i)] f (PySem.W.fnOf x x (defArgs st) (defBody st) (defScope st) .none (.ref D) dc pm an cd ct) :=
    ⟨⟨oc, od, .none, .ref D, dc, pm, an, cd, ct, sl, rfl, l, c, .inl ⟨rfl, rfl⟩, .inr ⟨D, rfl, fun q hq => by
      rcases List.mem_cons.mp hq with e | hq
      · rw [e]
        exact ⟨_, kd, _, rfl⟩
      · cases hq⟩⟩, k⟩
  obtain ⟨ds, dv, b⟩ := FD.binds0 n (by simp) hn fun D doc pm an cdv ct us ks l1 l2 => h1 D doc pm an cdv ct us ks l1 l2
  exact ⟨⟨f, _, fun_mk l c k, ds, dv, b, ⟨fun s us ws X l1 l2 => .of_eq (h2 D dc pm an cd ct us ws l1 l2), fun r1 r2 => r1.append r2⟩, PySem.W.mg_of X G a⟩⟩

/-! ### heaps -/
theorem same_new {H : Hp} {p : Addr} {o : HO} (h : H p = none) : Same H (upd H p o) := fun b x e => by
  rw [upd_ne (ne_of_none e h)]
  exact e
theorem seqT_same {K : PySem.W.Frag} {H H' : Hp} {a : Addr} {xs : List V} (e : Same H H') (h : SqT K H a xs) : SqT K H' a xs := by
  rcases h with (h | ⟨o, h⟩) | h
  · exact .inl (.inl (e _ _ h))
  · exact .inl (.inr ⟨o, e _ _ h⟩)
  · exact .inr h
theorem upd_comm {H : Hp} {a b : Addr} {o u : HO} (h : a ≠ b) : upd (upd H a o) b u = upd (upd H b u) a o := by
  funext c
  unfold upd
  by_cases h1 : c = b
  · subst h1
    rw [if_pos rfl, if_neg (Ne.symm h), if_pos rfl]
  · by_cases h2 : c = a
    · subst h2
      rw [if_neg h1, if_pos rfl, if_pos rfl]
    · rw [if_neg h1, if_neg h2, if_neg h2, if_neg h1]
/-! ### the dice: a list of three ints -/
abbrev dl (x y z : Int) : HO := .lst [.int x, .int y, .int z]
def Dice (H : Hp) (d : Addr) : Prop := ∃ x y z : Int, H d = some (dl x y z)
/-- all but the dice stays -/
structure Ext (d : Addr) (H H' : Hp) : Prop where
  s : ∀ b o, b ≠ d → H b = some o → H' b = some o
  d : Dice H' d
theorem Ext.refl {d : Addr} {H : Hp} (h : Dice H d) : Ext d H H := ⟨fun _ _ _ e => e, h⟩
theorem Ext.trans {d : Addr} {H H1 H2 : Hp} (a : Ext d H H1) (b : Ext d H1 H2) : Ext d H H2 := ⟨fun c o n e => b.s c o n (a.s c o n e), b.d⟩
theorem Ext.same {d : Addr} {H H1 H2 : Hp} (a : Ext d H H1) (b : Same H1 H2) : Ext d H H2 := ⟨fun c o n e => b c o (a.s c o n e), let ⟨x, y, z, e⟩ := a.d; ⟨x, y, z, b _ _ e⟩⟩
theorem Dice.same {d : Addr} {H H1 : Hp} (a : Dice H d) (b : Same H H1) : Dice H1 d := let ⟨x, y, z, e⟩ := a; ⟨x, y, z, b _ _ e⟩
theorem Dice.ne {d p : Addr} {H : Hp} (a : Dice H d) (h : H p = none) : p ≠ d := fun e => by
  obtain ⟨x, y, z, q⟩ := a
  rw [e, q] at h
  cases h
theorem Dice.neT {d p : Addr} {H : Hp} {xs : List V} (a : Dice H d) (h : H p = some (.tup xs)) : p ≠ d := fun e => by
  obtain ⟨x, y, z, q⟩ := a
  rw [e, q] at h
  cases h
theorem Ext.of {d : Addr} {H H' : Hp} (a : Dice H d) (b : Same H H') : Ext d H H' := (Ext.refl a).same b
theorem Ext.new {d p : Addr} {H : Hp} {o : HO} (a : Dice H d) (h : H p = none) : Ext d H (upd H p o) := .of a (same_new h)
theorem Ext.roll {d : Addr} {H : Hp} {x y z : Int} : Ext d H (upd H d (dl x y z)) := ⟨fun b o n e => by rw [upd_ne n]; exact e, x, y, z, upd_same⟩
theorem Ext.seqT {K : PySem.W.Frag} {d a : Addr} {H H' : Hp} {xs : List V} (e : Ext d H H') (hd : Dice H d) (h : SqT K H a xs) : SqT K H' a xs := by
  rcases h with (h | ⟨o, h⟩) | h
  · exact .inl (.inl (e.s _ _ (hd.neT h) h))
  · refine .inl (.inr ⟨o, e.s _ _ (fun z => ?_) h⟩)
    obtain ⟨x, y, w, q⟩ := hd
    rw [z, q] at h
    cases h
  · exact .inr h
theorem Ext.free {d p : Addr} {H H' : Hp} (e : Ext d H H') (hd : Dice H d) (h : H' p = none) : H p = none := by
  cases q : H p with
  | none => rfl
  | some o =>
    have n : p ≠ d := fun z => by
      obtain ⟨x, y, w, r⟩ := e.d
      rw [z, r] at h
      cases h
    rw [e.s _ _ n q] at h
    cases h
/-! ### all but one object stays -/
def But (l : Addr) (H H' : Hp) : Prop := ∀ b o, b ≠ l → H b = some o → H' b = some o
theorem But.refl (l : Addr) (H : Hp) : But l H H := fun _ _ _ e => e
theorem But.trans {l : Addr} {H H1 H2 : Hp} (a : But l H H1) (b : But l H1 H2) : But l H H2 := fun c o n e => b c o n (a c o n e)
theorem But.same {l : Addr} {H H1 H2 : Hp} (a : But l H H1) (b : Same H1 H2) : But l H H2 := fun c o n e => b c o (a c o n e)
theorem But.of {l : Addr} {H H1 : Hp} (b : Same H H1) : But l H H1 := fun c o _ e => b c o e
theorem But.mut {l : Addr} {H : Hp} {o : HO} : But l H (upd H l o) := fun c u n e => by
  rw [upd_ne n]
  exact e
/-- what stood ahead of the object's making -/
theorem But.back {l : Addr} {H0 H H' : Hp} {o : HO} (hn : H0 l = none) (s : Same (upd H0 l o) H) (a : But l H H') : Same H0 H' := fun c u e => by
  have n : c ≠ l := ne_of_none e hn
  exact a c u n (s c u (by rw [upd_ne n]; exact e))
theorem Ext.but {d : Addr} {H H' : Hp} (a : Ext d H H') : But d H H' := a.s
theorem But.seqT {K : PySem.W.Frag} {l a : Addr} {H H' : Hp} {xs ys : List V} (e : But l H H') (hl : H l = some (.lst ys)) (h : SqT K H a xs) : SqT K H' a xs := by
  rcases h with (h | ⟨o, h⟩) | h
  · exact .inl (.inl (e _ _ (ne_of h hl (by intro z; cases z)) h))
  · exact .inl (.inr ⟨o, e _ _ (ne_of h hl (by intro z; cases z)) h⟩)
  · exact .inr h
/-! ### a new object, its heap by a letter -/
theorem nw {H : Hp} {o : HO} {Q : V → Hp → Prop} (h : ∀ p H', Same H H' → H' p = some o → H p = none → Q (.ref p) H') : ∀ p, H p = none → Q (.ref p) (upd H p o) := fun p np => h p _ (same_new np) upd_same np
/-! ### rows of whole numbers as data -/
theorem dpI {K : PySem.W.Frag} {H : Hp} : ∀ ns : List Int, DpAll K H (ns.map V.int) (ns.map PyData.int)
  | [] => .nil
  | n :: r => .cons (.int n) (dpI r)
theorem canI : ∀ ns : List Int, PyData.canLayAll0 (ns.map PyData.int) = true
  | [] => rfl
  | n :: r => by
    show (PyData.canLay0 (.int n) && PyData.canLayAll0 (r.map PyData.int)) = true
    rw [canI r]
    rfl
theorem depthI : ∀ ns : List Int, PyData.depthAll (ns.map PyData.int) ≤ 1
  | [] => by decide
  | n :: r => by
    have := depthI r
    show max (PyData.depth (.int n)) (PyData.depthAll (r.map PyData.int)) ≤ 1
    have e : PyData.depth (.int n) = 0 := rfl
    omega
theorem shT (ns : List Int) : SeqAt.shaped (.tuple (ns.map PyData.int)) = true := by
  unfold SeqAt.shaped
  have e : PyData.canLay0 (.tuple (ns.map PyData.int)) = true := canI ns
  have d : PyData.depth (.tuple (ns.map PyData.int)) = PyData.depthAll (ns.map PyData.int) + 1 := rfl
  have := depthI ns
  rw [e, d, decide_eq_true (by omega)]
  rfl
theorem shL (ns : List Int) : SeqAt.shaped (.list (ns.map PyData.int)) = true := by
  unfold SeqAt.shaped
  have e : PyData.canLay0 (.list (ns.map PyData.int)) = true := canI ns
  have d : PyData.depth (.list (ns.map PyData.int)) = PyData.depthAll (ns.map PyData.int) + 1 := rfl
  have := depthI ns
  rw [e, d, decide_eq_true (by omega)]
  rfl
theorem eqvR {d : PyData} (h : SeqAt.shaped d = true) : PyData.eqv d d = true := SeqAt.eqv_refl d (SeqAt.canLay_of_shaped h)
theorem dp2 {K : PySem.W.Frag} {H : Hp} {a : Addr} {x y : Int} (h : SqT K H a [.int x, .int y]) : Dp K H (.ref a) (.tuple [.int x, .int y]) := .tup h (.cons (.int x) (.cons (.int y) .nil))
theorem eqv2 {x y x' y' : Int} (h1 : x = x') (h2 : y = y') : PyData.eqv (.tuple [.int x, .int y]) (.tuple [.int x', .int y']) = true := by
  subst h1 h2
  exact SeqAt.eqv_refl _ rfl
theorem neqv2 {x y x' y' : Int} (h1 : x = x') (h2 : y = y') : (!PyData.eqv (.tuple [.int x, .int y]) (.tuple [.int x', .int y'])) = false := by
  rw [eqv2 h1 h2]
  rfl
theorem neqvR {d : PyData} (h : SeqAt.shaped d = true) : (!PyData.eqv d d) = false := by
  rw [eqvR h]
  rfl
/-! ### tests -/
theorem iteB {A B : Prop} {b : Bool} (h : b = true) (q : A) : if b = true then A else B := by
  rw [h]
  exact iteT q
theorem iteBF {A B : Prop} {b : Bool} (h : b = false) (q : B) : if b = true then A else B := by
  rw [h]
  exact iteF q
theorem iteN {A B : Prop} {b : Bool} (h : b = true) (q : B) : if (!b) = true then A else B := by
  rw [h]
  exact iteF q
theorem iteNF {A B : Prop} {b : Bool} (h : b = false) (q : A) : if (!b) = true then A else B := by
  rw [h]
  exact iteT q
theorem ite3 {A B : Prop} {b : Bool} (h1 : b = true → A) (h2 : b = false → B) : if b = true then A else B := by
  cases b with
  | true => exact iteT (h1 rfl)
  | false => exact iteF (h2 rfl)
theorem neF {x y : V} (h : x = y) : (!decide (x = y)) = false := by
  rw [decide_eq_true h]
  rfl
theorem neT {x y : V} (h : x ≠ y) : (!decide (x = y)) = true := by
  rw [decide_eq_false h]
  rfl
theorem neFI {i j : Int} (h : i = j) : (!decide (V.int i = V.int j)) = false := neF (congrArg V.int h)
theorem eqTI {i j : Int} (h : i = j) : decide (V.int i = V.int j) = true := decide_eq_true (congrArg V.int h)
theorem eqFI {i j : Int} (h : i ≠ j) : decide (V.int i = V.int j) = false := decide_eq_false fun z => h (V.int.inj z)
theorem neTI {i j : Int} (h : i ≠ j) : (!decide (V.int i = V.int j)) = true := neT fun z => h (V.int.inj z)
/-! ### written numbers, sizes -/
theorem p0 {c : Int} (h : decide (0 < c) = true := by rfl) : 0 < c := of_decide_eq_true h
theorem cdiv {i j : Int} (h : decide (0 < j ∧ j < 1073741824) = true := by rfl) : CDiv i j := show 0 < j ∧ j < 1073741824 from of_decide_eq_true h
theorem cmulL {i j : Int} (h : decide (-(2 ^ 64) < i ∧ i < 2 ^ 64) = true := by rfl) : CMul i j := .inl (of_decide_eq_true h)
theorem cmulR {i j : Int} (h : decide (-(2 ^ 64) < j ∧ j < 2 ^ 64) = true := by rfl) : CMul i j := .inr (of_decide_eq_true h)
theorem sz {α : Type} {xs : List α} {n : Nat} (h : xs.length = n := by rfl) (h2 : decide (n ≤ 100000) = true := by rfl) : xs.length ≤ sizeLine := by
  rw [h]
  have := of_decide_eq_true h2
  rw [sizeLine_eq]
  omega
theorem szl {n : Nat} (h : n ≤ 100000) : n ≤ sizeLine := by
  rw [sizeLine_eq]
  omega
theorem szlt {n : Nat} (h : n ≤ 100000) : n < sizeLine := by
  rw [sizeLine_eq]
  omega
/-! ### slices -/
theorem cut_to (xs : List V) (k : Nat) : cutV xs none (some (k : Int)) = xs.take k := by
  unfold cutV
  rw [HT.sIx_nat, HT.sIx_none, List.drop_zero, Nat.sub_zero]
  by_cases h : k ≤ xs.length
  · rw [Nat.min_eq_left h]
  · rw [Nat.min_eq_right (by omega), List.take_length, List.take_of_length_le (by omega)]
theorem cut_from (xs : List V) (k : Nat) : cutV xs (some (k : Int)) none = xs.drop k := by
  unfold cutV
  rw [HT.sIx_nat, HT.sIx_none]
  by_cases h : k ≤ xs.length
  · rw [Nat.min_eq_left h, List.take_of_length_le (by rw [List.length_drop]; omega)]
  · rw [Nat.min_eq_right (by omega), List.drop_length, List.drop_of_length_le (by omega), List.take_nil]
/-! ### loops -/
/-- for .. in range(n), the turn's number a Nat -/
theorem for_rangeN {n : Nat} {g : TG} {tb : TS} {D : Ends} {σ : L2.St} {H : Hp} (Pv : Nat → L2.St → Hp → Prop) (h0 : Pv 0 σ H)
    (hs : ∀ i σ H, i < n → Pv i σ H → g (.int (i : Int)) σ H fun σ2 H2 => tb { D with nx := Pv (i + 1), ct := Pv (i + 1), bk := D.nx } σ2 H2) (hd : ∀ σ H, Pv n σ H → D.nx σ H) :
    ∃ W : Nat → Nat → L2.St → Hp → Prop, (∃ m, W 0 m σ H) ∧ ∀ i m σ H, W i m σ H → ((Itr 0 n).stop i H ∧ D.nx σ H) ∨ ((Itr 0 n).go i H ∧ ∃ N : L2.St → Hp → Prop, (∀ σ' H', N σ' H' → ∃ m', m' < m ∧ W (i + 1) m' σ' H') ∧ ∀ x H', (Itr 0 n).yld i H x H' → g x σ H' fun σ2 H2 => tb { D with nx := N, ct := N, bk := D.nx } σ2 H2) :=
  for_range (lo := 0) (n := n) Pv h0 (fun i σ H hi p => by
    have e0 : (0 : Int) + (i : Int) = (i : Int) := Int.zero_add _
    rw [e0]
    exact hs i σ H hi p) hd
/-- [.. for .. in range(n)], the turn's number a Nat -/
theorem lc_rangeN {n : Nat} {g : TG} {tt : TT} {te : TE} {vs : List Nat} {σ : L2.St} {H1 : Hp} {D : Addr} {Qd : Hp → Prop} (Pv : Nat → Hp → Prop) (h0 : Pv 0 (upd H1 D (.lst [])))
    (hs : ∀ i H, i < n → Pv i H → g (.int (i : Int)) (wipe σ vs) H fun σ2 H2 => wipe σ2 vs = wipe σ vs ∧ tt σ2 H2 fun b H3 =>
      if b = true then te σ2 H3 fun y H4 => ∃ acc, H4 D = some (.lst acc) ∧ acc.length < sizeLine ∧ Pv (i + 1) (upd H4 D (.lst (acc ++ [y]))) else Pv (i + 1) H3) (hd : ∀ H, Pv n H → Qd H) :
    ∃ W : Nat → Nat → Hp → Prop, (∃ m, W 0 m (upd H1 D (.lst []))) ∧ ∀ i m H, W i m H →
      ((Itr 0 n).stop i H ∧ Qd H) ∨ ((Itr 0 n).go i H ∧ ∃ Nx : Hp → Prop, (∀ H', Nx H' → ∃ m', m' < m ∧ W (i + 1) m' H') ∧ ∀ x H', (Itr 0 n).yld i H x H' → g x (wipe σ vs) H' fun σ2 H2 => wipe σ2 vs = wipe σ vs ∧ tt σ2 H2 fun b H3 =>
        if b = true then te σ2 H3 fun y H4 => ∃ acc, H4 D = some (.lst acc) ∧ acc.length < sizeLine ∧ Nx (upd H4 D (.lst (acc ++ [y]))) else Nx H3) :=
  lc_range (lo := 0) (n := n) Pv h0 (fun i H hi p => by
    have e0 : (0 : Int) + (i : Int) = (i : Int) := Int.zero_add _
    rw [e0]
    exact hs i H hi p) hd
/-- for i, x in enumerate(xs) -/
theorem for_enumL {K : PySem.W.Frag} {a : Addr} {xs : List V} {g : TG} {tb : TS} {D : Ends} {σ : L2.St} {H : Hp} (Pv : Nat → L2.St → Hp → Prop) (h0 : Pv 0 σ H) (hq : ∀ i σ H, Pv i σ H → SqL K H a xs)
    (hs : ∀ (i : Nat) (x : V) (T : Addr) (σ : L2.St) (H : Hp), xs[i]? = some x → Pv i σ H → H T = none → g (.ref T) σ (upd H T (.tup [.int (i : Int), x])) fun σ2 H2 => tb { D with nx := Pv (i + 1), ct := Pv (i + 1), bk := D.nx } σ2 H2) (hd : ∀ σ H, Pv xs.length σ H → D.nx σ H) :
    ∃ W : Nat → Nat → L2.St → Hp → Prop, (∃ m, W 0 m σ H) ∧ ∀ i m σ H, W i m σ H → ((Ite K a).stop i H ∧ D.nx σ H) ∨ ((Ite K a).go i H ∧ ∃ N : L2.St → Hp → Prop, (∀ σ' H', N σ' H' → ∃ m', m' < m ∧ W (i + 1) m' σ' H') ∧ ∀ v H', (Ite K a).yld i H v H' → g v σ H' fun σ2 H2 => tb { D with nx := N, ct := N, bk := D.nx } σ2 H2) := by
  refine ⟨fun i m σ H => m = xs.length - i ∧ i ≤ xs.length ∧ Pv i σ H, ⟨xs.length, rfl, Nat.zero_le _, h0⟩, ?_⟩
  rintro i m σ H ⟨rfl, hi, p⟩
  have qx := hq i σ H p
  by_cases hlt : i < xs.length
  · have hx : xs[i]? = some xs[i] := List.getElem?_eq_getElem hlt
    refine .inr ⟨⟨xs, xs[i], qx, hx⟩, Pv (i + 1), fun σ' H' p' => ⟨xs.length - (i + 1), by omega, rfl, hlt, p'⟩, fun v H' y => ?_⟩
    obtain ⟨T, x, rfl, nT, rfl, f⟩ := y
    exact hs i x T σ H (f xs qx) p nT
  · have e : i = xs.length := by omega
    subst e
    exact .inl ⟨⟨xs, qx, Nat.le_refl _⟩, hd σ H p⟩
/-! ### powers of great ints -/
def CPowW (i j : Int) : Prop := 0 ≤ j ∧ (Builtin.Int.intBits i : Int) * j ≤ 2 ^ 27
theorem op_powW {X : Cx} : OpR X (binaryOp .Pow) (rI CPowW fun i j => .int (i ^ j.toNat)) := opI fun _ _ _ _ _ _ _ hc q => pow_int hc.1 hc.2 q
end TB
namespace TB
/-! ### whole numbers -/
theorem two_pos (n : Nat) : (0 : Int) < 2 ^ n := Int.pow_pos (by decide)
theorem two_succ (n : Nat) : (2 : Int) ^ (n + 1) = 2 * 2 ^ n := by rw [Int.pow_succ, Int.mul_comm]
theorem two_add (a b : Nat) : (2 : Int) ^ (a + b) = 2 ^ a * 2 ^ b := Int.pow_add 2 a b
theorem two_mono {a b : Nat} (h : a ≤ b) : (2 : Int) ^ a ≤ 2 ^ b := by
  obtain ⟨c, rfl⟩ := Nat.exists_eq_add_of_le h
  rw [two_add]
  have := two_pos a
  have h2 : (1 : Int) ≤ 2 ^ c := two_pos c
  have := Int.mul_le_mul_of_nonneg_left h2 (Int.le_of_lt (two_pos a))
  omega
theorem two32 {w : Nat} (h : w ≤ 32) : (2 : Int) ^ w ≤ 4294967296 := Int.le_trans (two_mono h) (by decide)
theorem divmod_of {a b q r : Int} (hb : 0 < b) (e : r + b * q = a) (h0 : 0 ≤ r) (h1 : r < b) : a / b = q ∧ a % b = r := (Int.ediv_emod_unique hb).mpr ⟨e, h0, h1⟩
theorem mod_succ (x : Int) (i : Nat) : x % 2 ^ (i + 1) = x % 2 ^ i + 2 ^ i * (x / 2 ^ i % 2) := by
  have hd := two_pos i
  have e1 := Int.emod_add_mul_ediv x (2 ^ i)
  have e2 := Int.emod_add_mul_ediv (x / 2 ^ i) 2
  have l1 := Int.emod_nonneg x (Int.ne_of_gt hd)
  have l2 := Int.emod_lt_of_pos x hd
  rw [two_succ]
  refine (divmod_of (q := x / 2 ^ i / 2) (by omega) ?_ ?_ ?_).2
  · rw [Int.mul_comm 2 ((2 : Int) ^ i), Int.mul_assoc]
    have e3 : (2 : Int) ^ i * (x / 2 ^ i) = 2 ^ i * (x / 2 ^ i % 2) + 2 ^ i * (2 * (x / 2 ^ i / 2)) := by rw [← Int.mul_add, e2]
    omega
  · have := Int.mul_nonneg (Int.le_of_lt hd) (Int.emod_nonneg (x / 2 ^ i) (by decide : (2 : Int) ≠ 0))
    omega
  · have h3 : x / 2 ^ i % 2 ≤ 1 := by omega
    have := Int.mul_le_mul_of_nonneg_left h3 (Int.le_of_lt hd)
    omega
theorem div_div (x : Int) (a b : Nat) : x / 2 ^ a / 2 ^ b = x / 2 ^ (a + b) := by
  rw [two_add, Int.ediv_ediv_of_nonneg (Int.le_of_lt (two_pos a))]
/-! ### bits -/
def bitsI : Nat → Int → List Int
  | 0, _ => []
  | n + 1, x => (x % 2) :: bitsI n (x / 2)
def ofBits : List Int → Int
  | [] => 0
  | b :: r => 2 * ofBits r + b
theorem bitsI_length : ∀ (n : Nat) (x : Int), (bitsI n x).length = n
  | 0, _ => rfl
  | n + 1, x => by simp [bitsI, bitsI_length n (x / 2)]
theorem bitsI_get : ∀ (n : Nat) (x : Int) (i : Nat), i < n → (bitsI n x)[i]? = some (x / 2 ^ i % 2)
  | 0, _, _, h => by omega
  | n + 1, x, 0, _ => by simp [bitsI]
  | n + 1, x, i + 1, h => by
    have := bitsI_get n (x / 2) i (by omega)
    simp only [bitsI, List.getElem?_cons_succ]
    rw [this]
    have e := div_div x 1 i
    rw [show (2 : Int) ^ 1 = 2 from rfl] at e
    rw [e, Nat.add_comm 1 i]
theorem bitsI_range (n : Nat) (x : Int) : ∀ b ∈ bitsI n x, b = 0 ∨ b = 1 := by
  induction n generalizing x with
  | zero => intro b h; cases h
  | succ n ih =>
    intro b h
    rcases List.mem_cons.mp h with rfl | h
    · omega
    · exact ih _ b h
theorem bitsI_snoc (n : Nat) (x : Int) : bitsI (n + 1) x = bitsI n x ++ [x / 2 ^ n % 2] := by
  induction n generalizing x with
  | zero => simp [bitsI]
  | succ n ih =>
    show (x % 2) :: bitsI (n + 1) (x / 2) = (x % 2) :: bitsI n (x / 2) ++ [x / 2 ^ (n + 1) % 2]
    rw [ih (x / 2)]
    have e := div_div x 1 n
    rw [show (2 : Int) ^ 1 = 2 from rfl] at e
    rw [e, Nat.add_comm 1 n]
    rfl
theorem ofBits_bitsI : ∀ (n : Nat) (x : Int), ofBits (bitsI n x) = x % 2 ^ n
  | 0, x => by simp [bitsI, ofBits, Int.emod_one]
  | n + 1, x => by
    show 2 * ofBits (bitsI n (x / 2)) + x % 2 = x % 2 ^ (n + 1)
    rw [ofBits_bitsI n (x / 2)]
    have hd := two_pos n
    have e1 := Int.emod_add_mul_ediv (x / 2) (2 ^ n)
    have l1 := Int.emod_nonneg (x / 2) (Int.ne_of_gt hd)
    have l2 := Int.emod_lt_of_pos (x / 2) hd
    rw [two_succ]
    refine ((divmod_of (q := x / 2 / 2 ^ n) (by omega) ?_ (by omega) (by omega)).2).symm
    rw [Int.mul_assoc]
    omega
theorem bitsI_drop : ∀ (m n : Nat) (x : Int), (bitsI n x).drop m = bitsI (n - m) (x / 2 ^ m)
  | 0, n, x => by simp
  | m + 1, 0, x => by simp [bitsI]
  | m + 1, n + 1, x => by
    show (bitsI n (x / 2)).drop m = _
    rw [bitsI_drop m n (x / 2), Nat.add_sub_add_right]
    have e := div_div x 1 m
    rw [show (2 : Int) ^ 1 = 2 from rfl] at e
    rw [e, Nat.add_comm 1 m]
theorem bitsI_take : ∀ (m n : Nat) (x : Int), m ≤ n → (bitsI n x).take m = bitsI m x
  | 0, n, x, _ => by simp [bitsI]
  | m + 1, 0, x, h => by omega
  | m + 1, n + 1, x, h => by
    show (x % 2) :: (bitsI n (x / 2)).take m = (x % 2) :: bitsI m (x / 2)
    rw [bitsI_take m n (x / 2) (by omega)]
theorem ofBits_zeros : ∀ (p : Nat) (l : List Int), ofBits (List.replicate p 0 ++ l) = 2 ^ p * ofBits l
  | 0, l => by simp
  | p + 1, l => by
    show 2 * ofBits (List.replicate p 0 ++ l) + 0 = 2 ^ (p + 1) * ofBits l
    rw [ofBits_zeros p l, two_succ, Int.mul_assoc]
    omega
theorem mod_small {x : Int} {n : Nat} (h0 : 0 ≤ x) (h1 : x < 2 ^ n) : x % 2 ^ n = x := Int.emod_eq_of_lt h0 h1
theorem div_small {x : Int} {n : Nat} (h0 : 0 ≤ x) (h1 : x < 2 ^ n) : x / 2 ^ n = 0 := Int.ediv_eq_zero_of_lt h0 h1
/-- moved left: zeros come in -/
theorem ofBits_left (w p : Nat) (x : Int) : ofBits ((List.replicate p 0 ++ bitsI w x).take w) = x * 2 ^ p % 2 ^ w := by
  by_cases h : p ≤ w
  · have e : (List.replicate p (0 : Int) ++ bitsI w x).take w = List.replicate p 0 ++ bitsI (w - p) x := by
      rw [List.take_append, List.length_replicate, List.take_of_length_le (by simp; exact h), bitsI_take _ _ _ (by omega)]
    rw [e, ofBits_zeros, ofBits_bitsI]
    have e2 : (2 : Int) ^ w = 2 ^ p * 2 ^ (w - p) := by rw [← two_add, Nat.add_sub_cancel' h]
    rw [e2, Int.mul_comm x, Int.mul_emod_mul_of_pos _ _ (two_pos p)]
  · have e : (List.replicate p (0 : Int) ++ bitsI w x).take w = List.replicate w 0 ++ [] := by
      rw [List.take_append, List.length_replicate, List.take_replicate, Nat.min_eq_left (by omega), show w - p = 0 by omega]
      simp
    rw [e, ofBits_zeros]
    have e2 : (2 : Int) ^ p = 2 ^ w * 2 ^ (p - w) := by rw [← two_add, Nat.add_sub_cancel' (by omega)]
    rw [e2, ← Int.mul_assoc, Int.mul_comm x, Int.mul_assoc, Int.mul_emod_right]
    show 2 ^ w * (0 : Int) = 0
    omega
theorem ofBits_right {w : Nat} (p : Nat) {x : Int} (h0 : 0 ≤ x) (h1 : x < 2 ^ w) : ofBits ((bitsI w x).drop p) = x / 2 ^ p := by
  rw [bitsI_drop, ofBits_bitsI]
  by_cases h : p ≤ w
  · refine Int.emod_eq_of_lt (Int.ediv_nonneg h0 (Int.le_of_lt (two_pos p))) ?_
    refine Int.ediv_lt_of_lt_mul (two_pos p) ?_
    rw [← two_add, Nat.sub_add_cancel h]
    exact h1
  · rw [show w - p = 0 by omega, Int.pow_zero, Int.emod_one]
    exact (div_small h0 (Int.lt_of_lt_of_le h1 (two_mono (by omega)))).symm
theorem ofBits_rev (bs : List Int) (i : Nat) (b : Int) (h : bs.reverse[i]? = some b) : ofBits (bs.drop (bs.length - (i + 1))) = 2 * ofBits (bs.drop (bs.length - i)) + b := by
  have hi : i < bs.length := by
    have := (List.getElem?_eq_some_iff.mp h).1
    rw [List.length_reverse] at this
    exact this
  rw [List.getElem?_reverse hi] at h
  have hj : bs.length - 1 - i < bs.length := by omega
  rw [List.getElem?_eq_getElem hj] at h
  have e : bs.drop (bs.length - 1 - i) = bs[bs.length - 1 - i] :: bs.drop (bs.length - 1 - i + 1) := List.drop_eq_getElem_cons hj
  rw [show bs.length - (i + 1) = bs.length - 1 - i by omega, e, show bs.length - 1 - i + 1 = bs.length - i by omega, Option.some.inj h]
  rfl
/-! ### signed numbers -/
def sgn (w : Nat) (x : Int) : Int := if x / 2 ^ (w - 1) = 1 then x - 2 ^ w else x
theorem sgn_mod (w : Nat) (x : Int) : ∃ k : Int, sgn w x = x + 2 ^ w * k := by
  unfold sgn
  split
  · exact ⟨-1, by omega⟩
  · exact ⟨0, by omega⟩
/-! ### a quotient, bit by bit -/
theorem quot_step {N y b : Int} (hy : 0 < y) (hb : b = 0 ∨ b = 1) :
    (2 * N + b) / y = 2 * (N / y) + (if y ≤ 2 * (N % y) + b then 1 else 0) ∧ (2 * N + b) % y = (if y ≤ 2 * (N % y) + b then 2 * (N % y) + b - y else 2 * (N % y) + b) := by
  have e1 := Int.emod_add_mul_ediv N y
  have l1 := Int.emod_nonneg N (Int.ne_of_gt hy)
  have l2 := Int.emod_lt_of_pos N hy
  have e2 : y * (2 * (N / y)) = 2 * (y * (N / y)) := by rw [← Int.mul_assoc, Int.mul_comm y 2, Int.mul_assoc]
  have e3 : y * (2 * (N / y) + 1) = 2 * (y * (N / y)) + y := by rw [Int.mul_add, e2, Int.mul_one]
  split
  · refine divmod_of hy ?_ (by omega) (by omega)
    omega
  · have e4 : y * (2 * (N / y) + 0) = 2 * (y * (N / y)) := by rw [Int.add_zero, e2]
    refine divmod_of hy ?_ (by omega) (by omega)
    omega
theorem half_bit (x : Int) (k : Nat) : x / 2 ^ k = 2 * (x / 2 ^ (k + 1)) + x / 2 ^ k % 2 := by
  have e := div_div x k 1
  rw [show (2 : Int) ^ 1 = 2 from rfl] at e
  rw [← e]
  omega
/-! ### carries -/
def carry (x y c : Int) (i : Nat) : Int := (x % 2 ^ i + y % 2 ^ i + c) / 2 ^ i
def cars (n : Nat) (x y c : Int) : List Int := (List.range (n + 1)).map (carry x y c)
theorem cars_length (n : Nat) (x y c : Int) : (cars n x y c).length = n + 1 := by simp [cars]
theorem cars_get {n : Nat} {x y c : Int} {i : Nat} (h : i ≤ n) : (cars n x y c)[i]? = some (carry x y c i) := by
  unfold cars
  rw [List.getElem?_map, List.getElem?_range (by omega)]
  rfl
theorem cars_snoc (n : Nat) (x y c : Int) : cars (n + 1) x y c = cars n x y c ++ [carry x y c (n + 1)] := by
  unfold cars
  rw [List.range_succ, List.map_append]
  rfl
theorem carry_zero (x y c : Int) : carry x y c 0 = c := by simp [carry, Int.emod_one]
theorem carry_range {x y c : Int} (h0 : 0 ≤ c) (h1 : c ≤ 1) (i : Nat) : 0 ≤ carry x y c i ∧ carry x y c i ≤ 1 := by
  have hd := two_pos i
  have a0 := Int.emod_nonneg x (Int.ne_of_gt hd)
  have a1 := Int.emod_lt_of_pos x hd
  have b0 := Int.emod_nonneg y (Int.ne_of_gt hd)
  have b1 := Int.emod_lt_of_pos y hd
  unfold carry
  constructor
  · exact Int.ediv_nonneg (by omega) (Int.le_of_lt hd)
  · have := Int.ediv_lt_of_lt_mul (a := x % 2 ^ i + y % 2 ^ i + c) (b := 2) (c := 2 ^ i) hd (by omega)
    omega
theorem carry_succ (x y c : Int) (i : Nat) : carry x y c (i + 1) = (x / 2 ^ i % 2 + y / 2 ^ i % 2 + carry x y c i) / 2 := by
  have hd := two_pos i
  unfold carry
  rw [mod_succ x i, mod_succ y i, two_succ, Int.mul_comm 2, ← Int.ediv_ediv_of_nonneg (Int.le_of_lt hd)]
  have e : x % 2 ^ i + 2 ^ i * (x / 2 ^ i % 2) + (y % 2 ^ i + 2 ^ i * (y / 2 ^ i % 2)) + c = x % 2 ^ i + y % 2 ^ i + c + 2 ^ i * (x / 2 ^ i % 2 + y / 2 ^ i % 2) := by
    rw [Int.mul_add]
    omega
  rw [e, Int.add_mul_ediv_left _ _ (Int.ne_of_gt hd)]
  congr 1
  omega
theorem sum_bit (x y c : Int) (i : Nat) : (x + y + c) / 2 ^ i % 2 = (x / 2 ^ i % 2 + y / 2 ^ i % 2 + carry x y c i) % 2 := by
  have hd := two_pos i
  have e1 := Int.emod_add_mul_ediv x (2 ^ i)
  have e2 := Int.emod_add_mul_ediv y (2 ^ i)
  have e : x + y + c = x % 2 ^ i + y % 2 ^ i + c + 2 ^ i * (x / 2 ^ i + y / 2 ^ i) := by
    rw [Int.mul_add]
    omega
  unfold carry
  rw [e, Int.add_mul_ediv_left _ _ (Int.ne_of_gt hd)]
  omega
theorem carry_last {n : Nat} {x y c : Int} (hx0 : 0 ≤ x) (hx : x < 2 ^ n) (hy0 : 0 ≤ y) (hy : y < 2 ^ n) : carry x y c n = (x + y + c) / 2 ^ n := by
  unfold carry
  rw [mod_small hx0 hx, mod_small hy0 hy]
theorem half_int (b : Int) (h0 : 0 ≤ b) (h1 : b ≤ 3) : (if b > 1 then (1 : Int) else 0) = b / 2 := by
  split <;> omega
/-! ### signed numbers, once more -/
theorem sgn_eq {n : Nat} {x : Int} (hn : 1 ≤ n) (h0 : 0 ≤ x) (h1 : x < 2 ^ n) : sgn n x = if 2 ^ (n - 1) ≤ x then x - 2 ^ n else x := by
  have hd := two_pos (n - 1)
  have e : (2 : Int) ^ n = 2 * 2 ^ (n - 1) := by rw [← two_succ, Nat.sub_add_cancel hn]
  unfold sgn
  by_cases h : 2 ^ (n - 1) ≤ x
  · rw [if_pos h, if_pos]
    exact (divmod_of (q := 1) (r := x - 2 ^ (n - 1)) hd (by omega) (by omega) (by omega)).1
  · rw [if_neg h, if_neg]
    rw [Int.ediv_eq_zero_of_lt h0 (by omega)]
    decide
theorem sgn_less {n : Nat} {x y : Int} (hn : 1 ≤ n) (hx0 : 0 ≤ x) (hx : x < 2 ^ n) (hy0 : 0 ≤ y) (hy : y < 2 ^ n) : (sgn n x < sgn n y) ↔ (x + 2 ^ (n - 1)) % 2 ^ n < (y + 2 ^ (n - 1)) % 2 ^ n := by
  have hd := two_pos (n - 1)
  have e : (2 : Int) ^ n = 2 * 2 ^ (n - 1) := by rw [← two_succ, Nat.sub_add_cancel hn]
  have m : ∀ {z : Int}, 0 ≤ z → z < 2 ^ n → (z + 2 ^ (n - 1)) % 2 ^ n = if 2 ^ (n - 1) ≤ z then z - 2 ^ (n - 1) else z + 2 ^ (n - 1) := fun {z} z0 z1 => by
    split
    · exact (divmod_of (q := 1) (by omega) (by omega) (by omega) (by omega)).2
    · exact Int.emod_eq_of_lt (by omega) (by omega)
  rw [sgn_eq hn hx0 hx, sgn_eq hn hy0 hy, m hx0 hx, m hy0 hy]
  split <;> split <;> omega
theorem sgn_bound {n : Nat} {x : Int} (hn : n ≤ 32) (h0 : 0 ≤ x) (h1 : x < 2 ^ n) : (sgn n x).natAbs < 2 ^ 33 := by
  have hb := two32 hn
  have hp := two_pos n
  unfold sgn
  split <;> omega
theorem sgn_mul {n : Nat} {x y : Int} : (sgn n x * sgn n y) % 2 ^ n = x * y % 2 ^ n := by
  obtain ⟨k, e1⟩ := sgn_mod n x
  obtain ⟨l, e2⟩ := sgn_mod n y
  rw [e1, e2, Int.mul_emod, Int.add_mul_emod_self_left, Int.add_mul_emod_self_left, ← Int.mul_emod]
theorem sgn_add {n : Nat} {x y c : Int} : (sgn n x + sgn n y + c) % 2 ^ n = (x + y + c) % 2 ^ n := by
  obtain ⟨k, e1⟩ := sgn_mod n x
  obtain ⟨l, e2⟩ := sgn_mod n y
  have e : sgn n x + sgn n y + c = x + y + c + 2 ^ n * (k + l) := by
    rw [e1, e2, Int.mul_add]
    omega
  rw [e, Int.add_mul_emod_self_left]
/-- the difference, as a sum -/
theorem less_sum {n : Nat} {x y : Int} (hx0 : 0 ≤ x) (hx : x < 2 ^ n) (hy0 : 0 ≤ y) (hy : y < 2 ^ n) :
    (x + (2 ^ n - 1 - y) + 1) % 2 ^ n = (x - y) % 2 ^ n ∧ (x + (2 ^ n - 1 - y) + 1) / 2 ^ n = if y ≤ x then 1 else 0 := by
  have hd := two_pos n
  have e : x + (2 ^ n - 1 - y) + 1 = x - y + 2 ^ n * 1 := by omega
  refine ⟨by rw [e, Int.add_mul_emod_self_left], ?_⟩
  split
  · exact (divmod_of (r := x - y) hd (by omega) (by omega) (by omega)).1
  · exact Int.ediv_eq_zero_of_lt (by omega) (by omega)
end TB
namespace TB
open PySem PySem.Spec PyProof.Rows L2
/-! ### a rule by a stronger reading -/
section
variable {X : Cx}
theorem PE_imp {e : Expr} {t t' : TE} (h : PE X e t) (hi : ∀ σ H Q, t' σ H Q → t σ H Q) : PE X e t' := ⟨fun pins s σ H Q I hw => h.run pins s σ H Q I (hi σ H Q hw)⟩
/-- what follows may be less -/
def clA (t : TA) : TA := fun σ H Q => ∃ R, t σ H R ∧ ∀ vs H', R vs H' → Q vs H'
def clE (t : TE) : TE := fun σ H Q => ∃ R, t σ H R ∧ ∀ v H', R v H' → Q v H'
theorem PA_cl {es : List Expr} {t : TA} (h : PA X es t) : PA X es (clA t) := ⟨fun pos pins s σ H Q I hw => by
  obtain ⟨R, h1, h2⟩ := hw
  exact thn (h.run pos pins s σ H R I h1) fun us s' ⟨vs, H', I', r, q⟩ => ⟨vs, H', I', r, h2 _ _ q⟩⟩
theorem PE_cl {e : Expr} {t : TE} (h : PE X e t) : PE X e (clE t) := ⟨fun pins s σ H Q I hw => by
  obtain ⟨R, h1, h2⟩ := hw
  exact thn (h.run pins s σ H R I h1) fun us s' ⟨v, H', I', r, q⟩ => ⟨v, H', I', r, h2 _ _ q⟩⟩
theorem OpR_imp {f : Value → Value → Sem Value} {r r' : R2} (h : OpR X f r) (hi : ∀ x y H Q, r' x y H Q → r x y H Q) : OpR X f r' := fun pins s σ H x y v u Q I rx ry hw => h pins s σ H x y v u Q I rx ry (hi _ _ _ _ hw)
theorem CallR_imp {f : Value} {r r' : List V → Hp → VK → Prop} (h : CallR X f r) (hi : ∀ xs H Q, r' xs H Q → r xs H Q) : CallR X f r' := fun pins s σ H xs us Q I rx hw => h pins s σ H xs us Q I rx (hi _ _ _ hw)
theorem SlR_imp {r r' : V → Option Int → Option Int → Hp → VK → Prop} (h : L2.SlR X r) (hi : ∀ x lo hi' H Q, r' x lo hi' H Q → r x lo hi' H Q) : L2.SlR X r' := fun pins s σ H x v vl vu lo hi' sl Q I rx hs pl pu hw => h pins s σ H x v vl vu lo hi' sl Q I rx hs pl pu (hi _ _ _ _ _ hw)
/-! ### new tuples, new lists -/
def NewT (K : PySem.W.Frag) (xs : List V) (H : Hp) (Q : VK) : Prop := ∀ p H', Same H H' → SqT K H' p xs → Q (.ref p) H'
def NewL (xs : List V) (H : Hp) (Q : VK) : Prop := ∀ p H', Same H H' → H' p = some (.lst xs) → H p = none → Q (.ref p) H'
theorem newT {K : PySem.W.Frag} {xs : List V} {H : Hp} {Q : VK} (h : NewT K xs H Q) : ∀ p, H p = none → Q (.ref p) (upd H p (.tup xs)) := fun p np => h p _ (same_new np) (SqT.of upd_same)
theorem newL {xs : List V} {H : Hp} {Q : VK} (h : NewL xs H Q) : ∀ p, H p = none → Q (.ref p) (upd H p (.lst xs)) := fun p np => h p _ (same_new np) upd_same np
def tTupA (K : PySem.W.Frag) (t : TA) : TE := fun σ H Q => t σ H fun xs H1 => xs.length ≤ sizeLine ∧ NewT K xs H1 Q
def tLstA (t : TA) : TE := fun σ H Q => t σ H fun xs H1 => xs.length ≤ sizeLine ∧ NewL xs H1 Q
theorem pe_tupA {es : List Expr} {t : TA} {x1} {pos : Pos} (h : PA X es t) : PE X (.Tuple es x1 pos) (tTupA X.K t) := PE_imp (pe_tup (PA_cl h)) fun σ H Q hw => ⟨_, hw, fun xs H1 z => ⟨z.1, newT z.2⟩⟩
theorem pe_lstA {es : List Expr} {t : TA} {pos : Pos} (h : PA X es t) : PE X (.List es pos) (tLstA t) := PE_imp (pe_lst (PA_cl h)) fun σ H Q hw => ⟨_, hw, fun xs H1 z => ⟨z.1, newL z.2⟩⟩
theorem call_tupleA : CallR X (.type "tuple") (fun xs H Q => ∃ p ys, xs = [.ref p] ∧ (SqL X.K H p ys ∨ SqT X.K H p ys) ∧ NewT X.K ys H Q) := CallR_imp call_tuple_of fun xs H Q ⟨p, ys, e, h, q⟩ => ⟨p, ys, e, by
  rcases h with h | h
  · exact .inl ⟨h, newT q⟩
  · exact .inr ⟨h, q p H (Same.refl H) h⟩⟩
theorem call_listA : CallR X (.type "list") (fun xs H Q => ∃ p ys, xs = [.ref p] ∧ (SqL X.K H p ys ∨ SqT X.K H p ys) ∧ NewL ys H Q) := CallR_imp call_list_of fun xs H Q ⟨p, ys, e, h, q⟩ => ⟨p, ys, e, h, newL q⟩
theorem sl_listA : L2.SlR X (fun x lo hi H Q => ∃ a xs, x = .ref a ∧ SqL X.K H a xs ∧ NewL (cutV xs lo hi) H Q) := SlR_imp sl_list fun x lo hi H Q ⟨a, xs, e, h, q⟩ => ⟨a, xs, e, h, newL q⟩
theorem sl_tupleA : L2.SlR X (fun x lo hi H Q => ∃ a xs, x = .ref a ∧ SqT X.K H a xs ∧ NewT X.K (cutV xs lo hi) H Q) := SlR_imp sl_tupA fun x lo hi H Q ⟨a, xs, e, h, q⟩ => ⟨a, xs, e, h, fun z => by
    have e : cutV xs lo hi = xs := by
      unfold cutV
      rw [z.1, z.2, List.drop_zero, Nat.sub_zero, List.take_length]
    exact q a H (Same.refl H) (by rw [e]; exact h), fun _ => newT q⟩
theorem op_catL : OpR X (binaryOp .Add) (fun x y H Q => ∃ l b xs zs, x = .ref l ∧ y = .ref b ∧ H l = some (.lst xs) ∧ H b = some (.lst zs) ∧ xs.length + zs.length ≤ sizeLine ∧ NewL (xs ++ zs) H Q) := OpR_imp op_cat fun x y H Q ⟨l, b, xs, zs, e1, e2, h1, h2, z, q⟩ => ⟨l, b, xs, zs, e1, e2, h1, h2, z, newL q⟩
theorem op_repL : OpR X (binaryOp .Mult) (fun x y H Q => ∃ l k xs, x = .ref l ∧ y = .int k ∧ H l = some (.lst xs) ∧ -(2 ^ 63) ≤ k ∧ k < 2 ^ 63 ∧ xs.length * k.toNat ≤ sizeLine ∧ NewL (List.replicate k.toNat xs).flatten H Q) := OpR_imp op_rep fun x y H Q ⟨l, k, xs, e1, e2, h1, h2, h3, z, q⟩ => ⟨l, k, xs, e1, e2, h1, h2, h3, z, newL q⟩
theorem op_catU : OpR X (binaryOp .Add) (fun x y H Q => ∃ a b xs ys, x = .ref a ∧ y = .ref b ∧ SqT X.K H a xs ∧ SqT X.K H b ys ∧ xs.length + ys.length ≤ sizeLine ∧ NewT X.K (xs ++ ys) H Q) := OpR_imp op_catA fun x y H Q ⟨a, b, xs, ys, e1, e2, h1, h2, z, q⟩ => ⟨a, b, xs, ys, e1, e2, h1, h2, z,
  (fun e => q b H (Same.refl H) (by rw [e]; exact h2)), (fun _ e => q a H (Same.refl H) (by rw [e, List.append_nil]; exact h1)), (fun _ _ => newT q)⟩
theorem call_divmodA : CallR X (.builtin "divmod") (fun xs H Q => ∃ i j, xs = [.int i, .int j] ∧ CDivP i j ∧ NewT X.K [.int (i / j), .int (i % j)] H Q) := CallR_imp call_divmodW fun xs H Q ⟨i, j, e, h, q⟩ => ⟨i, j, e, h, newT q⟩
def tRevLA (K : PySem.W.Frag) (te : TE) : TE := fun σ H Q => te σ H fun x H1 => ∃ a xs, x = .ref a ∧ SqL K H1 a xs ∧ NewL xs.reverse H1 Q
theorem pe_revLA {e : Expr} {te : TE} {k : Nat} {p1 p2 p3 pos : Pos} (he : PE X e te) : PE X (.Subscript e (.Slice none none (some (.UnaryOp .USub (.Constant (.int 1) k p1) p2)) p3) pos) (tRevLA X.K te) :=
  PE_imp (pe_revL (PE_cl he)) fun σ H Q hw => ⟨_, hw, fun x H1 ⟨a, xs, e, h, q⟩ => ⟨a, xs, e, h, newL q⟩⟩
end
/-! ### what stands, through Same, Ext, But -/
section
variable {K : PySem.W.Frag} {H H' : Hp} {a d l : Addr} {xs ys : List V}
theorem sT (e : Same H H') (h : SqT K H a xs) : SqT K H' a xs := seqT_same e h
theorem sL (e : Same H H') (h : SqL K H a xs) : SqL K H' a xs := e.seq h
/-- a list that was made anew and then changed: what stood before stands -/
theorem Same.back {H0 H1 H2 : Hp} (hn : H0 l = none) (s : Same H0 H1) (b : But l H1 H2) : Same H0 H2 := fun c o e => b c o (ne_of_none e hn) (s c o e)
theorem Ext.list (e : Ext d H H') (n : a ≠ d) (h : H a = some (.lst xs)) : H' a = some (.lst xs) := e.s _ _ n h
theorem Ext.seqL (e : Ext d H H') (hd : Dice H d) (n : a ≠ d) (h : SqL K H a xs) : SqL K H' a xs := by
  rcases h with (h | ⟨o, h⟩) | h
  · exact .inl (.inl (e.s _ _ n h))
  · exact .inl (.inr ⟨o, e.s _ _ n h⟩)
  · exact .inr h
/-- what a dice is not -/
theorem Dice.neL (h : Dice H d) (e : H a = some (.lst xs)) (n : xs.length ≠ 3) : a ≠ d := fun z => by
  obtain ⟨x, y, w, q⟩ := h
  rw [z, q] at e
  cases e
  exact n rfl
theorem dp2s {x y : Int} (h : SqT K H a [.int x, .int y]) : Dp K H (.ref a) (.tuple [.int x, .int y]) := dp2 h
end
/-! ### lists of pure elements: f tells what each item gives, if anything -/
theorem range_snoc {α : Type} (f : Nat → Option α) (i : Nat) : (List.range (i + 1)).filterMap f = (List.range i).filterMap f ++ (f i).toList := by
  rw [List.range_succ, List.filterMap_append]
  cases h : f i <;> simp [h]
theorem take_snoc {α β : Type} (f : α → Option β) {xs : List α} {i : Nat} {x : α} (h : xs[i]? = some x) : (xs.take (i + 1)).filterMap f = (xs.take i).filterMap f ++ (f x).toList := by
  rw [List.take_add_one, h, List.filterMap_append]
  cases e : f x <;> simp [e]
theorem lc_rangeF {n : Nat} {g : TG} {tt : TT} {te : TE} {vs : List Nat} {σ : L2.St} {H1 : Hp} {Qd : Addr → Hp → Prop} (f : Nat → Option V) (hn : n ≤ 100000)
    (hs : ∀ i H, i < n → Same H1 H → ∀ (R : V → Hp → Prop) (N : Hp → Prop), (∀ v H', f i = some v → Same H H' → R v H') → (∀ H', f i = none → Same H H' → N H') →
      g (.int (i : Int)) (wipe σ vs) H fun σ2 H2 => wipe σ2 vs = wipe σ vs ∧ tt σ2 H2 fun b H3 => if b = true then te σ2 H3 R else N H3)
    (hd : ∀ D H', Same H1 H' → H' D = some (.lst ((List.range n).filterMap f)) → H1 D = none → Qd D H') :
    ∀ D, H1 D = none → ∃ W : Nat → Nat → Hp → Prop, (∃ m, W 0 m (upd H1 D (.lst []))) ∧ ∀ i m H, W i m H →
      ((Itr 0 n).stop i H ∧ Qd D H) ∨ ((Itr 0 n).go i H ∧ ∃ Nx : Hp → Prop, (∀ H', Nx H' → ∃ m', m' < m ∧ W (i + 1) m' H') ∧ ∀ x H', (Itr 0 n).yld i H x H' → g x (wipe σ vs) H' fun σ2 H2 => wipe σ2 vs = wipe σ vs ∧ tt σ2 H2 fun b H3 =>
        if b = true then te σ2 H3 fun y H4 => ∃ acc, H4 D = some (.lst acc) ∧ acc.length < sizeLine ∧ Nx (upd H4 D (.lst (acc ++ [y]))) else Nx H3) := fun D nD =>
  lc_rangeN (n := n) (fun i H => Same H1 H ∧ H D = some (.lst ((List.range i).filterMap f))) ⟨same_new nD, upd_same⟩ (fun i H hi ⟨sm, hD⟩ => by
    refine hs i H hi sm _ _ (fun v H' e s => ?_) (fun H' e s => ?_)
    · refine ⟨_, s _ _ hD, szlt ?_, fun b o hb => ?_, ?_⟩
      · have := List.length_filterMap_le f (List.range i)
        rw [List.length_range] at this
        omega
      · rw [upd_ne (ne_of_none hb nD)]
        exact s _ _ (sm _ _ hb)
      · rw [upd_same, range_snoc, e]
        rfl
    · refine ⟨sm.trans s, ?_⟩
      rw [range_snoc, e, s _ _ hD, Option.toList, List.append_nil]) fun H ⟨sm, hD⟩ => hd D H sm hD nD
theorem lc_listF {K : PySem.W.Frag} {a : Addr} {xs : List V} {g : TG} {tt : TT} {te : TE} {vs : List Nat} {σ : L2.St} {H1 : Hp} {Qd : Addr → Hp → Prop} (hl : SqL K H1 a xs) (f : V → Option V) (hn : xs.length ≤ 100000)
    (hs : ∀ (i : Nat) x H, xs[i]? = some x → Same H1 H → ∀ (R : V → Hp → Prop) (N : Hp → Prop), (∀ v H', f x = some v → Same H H' → R v H') → (∀ H', f x = none → Same H H' → N H') →
      g x (wipe σ vs) H fun σ2 H2 => wipe σ2 vs = wipe σ vs ∧ tt σ2 H2 fun b H3 => if b = true then te σ2 H3 R else N H3)
    (hd : ∀ D H', Same H1 H' → H' D = some (.lst (xs.filterMap f)) → H1 D = none → Qd D H') :
    ∀ D, H1 D = none → ∃ W : Nat → Nat → Hp → Prop, (∃ m, W 0 m (upd H1 D (.lst []))) ∧ ∀ i m H, W i m H →
      ((Itl K a).stop i H ∧ Qd D H) ∨ ((Itl K a).go i H ∧ ∃ Nx : Hp → Prop, (∀ H', Nx H' → ∃ m', m' < m ∧ W (i + 1) m' H') ∧ ∀ x H', (Itl K a).yld i H x H' → g x (wipe σ vs) H' fun σ2 H2 => wipe σ2 vs = wipe σ vs ∧ tt σ2 H2 fun b H3 =>
        if b = true then te σ2 H3 fun y H4 => ∃ acc, H4 D = some (.lst acc) ∧ acc.length < sizeLine ∧ Nx (upd H4 D (.lst (acc ++ [y]))) else Nx H3) := fun D nD =>
  lc_list (K := K) (a := a) (xs := xs) (fun i H => Same H1 H ∧ H D = some (.lst ((xs.take i).filterMap f))) ⟨same_new nD, upd_same⟩ (fun i H _ ⟨sm, _⟩ => sm.seq hl) (fun i x H hx ⟨sm, hD⟩ => by
    refine hs i x H hx sm _ _ (fun v H' e s => ?_) (fun H' e s => ?_)
    · refine ⟨_, s _ _ hD, szlt ?_, fun b o hb => ?_, ?_⟩
      · have := List.length_filterMap_le f (xs.take i)
        rw [List.length_take] at this
        omega
      · rw [upd_ne (ne_of_none hb nD)]
        exact s _ _ (sm _ _ hb)
      · rw [upd_same, take_snoc f hx, e]
        rfl
    · refine ⟨sm.trans s, ?_⟩
      rw [take_snoc f hx, e, s _ _ hD, Option.toList, List.append_nil]) fun H ⟨sm, hD⟩ => hd D H sm (by rw [hD, List.take_length]) nD
theorem lc_tupF {K : PySem.W.Frag} {a : Addr} {xs : List V} {g : TG} {tt : TT} {te : TE} {vs : List Nat} {σ : L2.St} {H1 : Hp} {Qd : Addr → Hp → Prop} (hl : SqT K H1 a xs) (f : V → Option V) (hn : xs.length ≤ 100000)
    (hs : ∀ (i : Nat) x H, xs[i]? = some x → Same H1 H → ∀ (R : V → Hp → Prop) (N : Hp → Prop), (∀ v H', f x = some v → Same H H' → R v H') → (∀ H', f x = none → Same H H' → N H') →
      g x (wipe σ vs) H fun σ2 H2 => wipe σ2 vs = wipe σ vs ∧ tt σ2 H2 fun b H3 => if b = true then te σ2 H3 R else N H3)
    (hd : ∀ D H', Same H1 H' → H' D = some (.lst (xs.filterMap f)) → H1 D = none → Qd D H') :
    ∀ D, H1 D = none → ∃ W : Nat → Nat → Hp → Prop, (∃ m, W 0 m (upd H1 D (.lst []))) ∧ ∀ i m H, W i m H →
      ((Itt K a).stop i H ∧ Qd D H) ∨ ((Itt K a).go i H ∧ ∃ Nx : Hp → Prop, (∀ H', Nx H' → ∃ m', m' < m ∧ W (i + 1) m' H') ∧ ∀ x H', (Itt K a).yld i H x H' → g x (wipe σ vs) H' fun σ2 H2 => wipe σ2 vs = wipe σ vs ∧ tt σ2 H2 fun b H3 =>
        if b = true then te σ2 H3 fun y H4 => ∃ acc, H4 D = some (.lst acc) ∧ acc.length < sizeLine ∧ Nx (upd H4 D (.lst (acc ++ [y]))) else Nx H3) := fun D nD =>
  lc_tup (K := K) (a := a) (xs := xs) (fun i H => Same H1 H ∧ H D = some (.lst ((xs.take i).filterMap f))) ⟨same_new nD, upd_same⟩ (fun i H _ ⟨sm, _⟩ => sT sm hl) (fun i x H hx ⟨sm, hD⟩ => by
    refine hs i x H hx sm _ _ (fun v H' e s => ?_) (fun H' e s => ?_)
    · refine ⟨_, s _ _ hD, szlt ?_, fun b o hb => ?_, ?_⟩
      · have := List.length_filterMap_le f (xs.take i)
        rw [List.length_take] at this
        omega
      · rw [upd_ne (ne_of_none hb nD)]
        exact s _ _ (sm _ _ hb)
      · rw [upd_same, take_snoc f hx, e]
        rfl
    · refine ⟨sm.trans s, ?_⟩
      rw [take_snoc f hx, e, s _ _ hD, Option.toList, List.append_nil]) fun H ⟨sm, hD⟩ => hd D H sm (by rw [hD, List.take_length]) nD
end TB
namespace TB
open PySem PySem.Spec PyProof.Rows L2
def topS (i : Nat) : Stmt := PySem.Challenge.pw_truebeat_k01_whole_sums_and_carries.main.body.getD i (.Pass ⟨0, 0, 0, 0⟩)
abbrev s_is_integer : Stmt := topS 4
theorem sc_is_integer : FnScope ["value"] ["value"] (defScope s_is_integer) := ⟨rfl, rfl, rfl, by decide +kernel, rfl, by decide +kernel, by decide +kernel⟩
abbrev s_is_short : Stmt := topS 5
theorem sc_is_short : FnScope ["value"] ["value"] (defScope s_is_short) := ⟨rfl, rfl, rfl, by decide +kernel, rfl, by decide +kernel, by decide +kernel⟩
abbrev s_is_within : Stmt := topS 6
theorem sc_is_within : FnScope ["value", "least", "most"] ["value", "least", "most"] (defScope s_is_within) := ⟨rfl, rfl, rfl, by decide +kernel, rfl, by decide +kernel, by decide +kernel⟩
abbrev s_require_within : Stmt := topS 7
theorem sc_require_within : FnScope ["value", "least", "most"] ["value", "least", "most"] (defScope s_require_within) := ⟨rfl, rfl, rfl, by decide +kernel, rfl, by decide +kernel, by decide +kernel⟩
abbrev s_require_bit : Stmt := topS 8
theorem sc_require_bit : FnScope ["value"] ["value"] (defScope s_require_bit) := ⟨rfl, rfl, rfl, by decide +kernel, rfl, by decide +kernel, by decide +kernel⟩
abbrev s_is_word_in : Stmt := topS 11
theorem sc_is_word_in : FnScope ["width", "value"] ["width", "value"] (defScope s_is_word_in) := ⟨rfl, rfl, rfl, by decide +kernel, rfl, by decide +kernel, by decide +kernel⟩
abbrev s_require_width : Stmt := topS 12
theorem sc_require_width : FnScope ["width"] ["width"] (defScope s_require_width) := ⟨rfl, rfl, rfl, by decide +kernel, rfl, by decide +kernel, by decide +kernel⟩
abbrev s_require_word : Stmt := topS 13
theorem sc_require_word : FnScope ["width", "word"] ["width", "word"] (defScope s_require_word) := ⟨rfl, rfl, rfl, by decide +kernel, rfl, by decide +kernel, by decide +kernel⟩
abbrev s_require_one_word : Stmt := topS 14
theorem sc_require_one_word : FnScope ["width", "word"] ["width", "word"] (defScope s_require_one_word) := ⟨rfl, rfl, rfl, by decide +kernel, rfl, by decide +kernel, by decide +kernel⟩
abbrev s_require_two_words : Stmt := topS 15
theorem sc_require_two_words : FnScope ["width", "one", "other"] ["width", "one", "other"] (defScope s_require_two_words) := ⟨rfl, rfl, rfl, by decide +kernel, rfl, by decide +kernel, by decide +kernel⟩
abbrev s_bits_in : Stmt := topS 16
theorem sc_bits_in : FnScope ["width", "word", "place"] ["width", "word"] (defScope s_bits_in) := ⟨rfl, rfl, rfl, by decide +kernel, rfl, by decide +kernel, by decide +kernel⟩
abbrev s_signed_in : Stmt := topS 17
theorem sc_signed_in : FnScope ["width", "word"] ["width", "word"] (defScope s_signed_in) := ⟨rfl, rfl, rfl, by decide +kernel, rfl, by decide +kernel, by decide +kernel⟩
abbrev s_carries_in : Stmt := topS 18
theorem sc_carries_in : FnScope ["width", "one", "other", "first", "found", "left", "right"] ["width", "one", "other", "first"] (defScope s_carries_in) := ⟨rfl, rfl, rfl, by decide +kernel, rfl, by decide +kernel, by decide +kernel⟩
abbrev s_added_in : Stmt := topS 19
theorem sc_added_in : FnScope ["width", "one", "other", "first", "total"] ["width", "one", "other", "first"] (defScope s_added_in) := ⟨rfl, rfl, rfl, by decide +kernel, rfl, by decide +kernel, by decide +kernel⟩
abbrev s_lessened_in : Stmt := topS 20
theorem sc_lessened_in : FnScope ["width", "one", "other"] ["width", "one", "other"] (defScope s_lessened_in) := ⟨rfl, rfl, rfl, by decide +kernel, rfl, by decide +kernel, by decide +kernel⟩
abbrev s_cut_in : Stmt := topS 21
theorem sc_cut_in : FnScope ["word", "low", "many"] ["word", "low", "many"] (defScope s_cut_in) := ⟨rfl, rfl, rfl, by decide +kernel, rfl, by decide +kernel, by decide +kernel⟩
abbrev s_wrapped : Stmt := topS 22
theorem sc_wrapped : FnScope ["width", "number"] ["width", "number"] (defScope s_wrapped) := ⟨rfl, rfl, rfl, by decide +kernel, rfl, by decide +kernel, by decide +kernel⟩
abbrev s_signed : Stmt := topS 23
theorem sc_signed : FnScope ["width", "word"] ["width", "word"] (defScope s_signed) := ⟨rfl, rfl, rfl, by decide +kernel, rfl, by decide +kernel, by decide +kernel⟩
abbrev s_carries : Stmt := topS 24
theorem sc_carries : FnScope ["width", "one", "other", "first"] ["width", "one", "other", "first"] (defScope s_carries) := ⟨rfl, rfl, rfl, by decide +kernel, rfl, by decide +kernel, by decide +kernel⟩
abbrev s_added : Stmt := topS 25
theorem sc_added : FnScope ["width", "one", "other", "first"] ["width", "one", "other", "first"] (defScope s_added) := ⟨rfl, rfl, rfl, by decide +kernel, rfl, by decide +kernel, by decide +kernel⟩
abbrev s_lessened : Stmt := topS 26
theorem sc_lessened : FnScope ["width", "one", "other"] ["width", "one", "other"] (defScope s_lessened) := ⟨rfl, rfl, rfl, by decide +kernel, rfl, by decide +kernel, by decide +kernel⟩
abbrev s_is_below : Stmt := topS 27
theorem sc_is_below : FnScope ["width", "one", "other"] ["width", "one", "other"] (defScope s_is_below) := ⟨rfl, rfl, rfl, by decide +kernel, rfl, by decide +kernel, by decide +kernel⟩
abbrev s_is_under : Stmt := topS 28
theorem sc_is_under : FnScope ["width", "one", "other"] ["width", "one", "other"] (defScope s_is_under) := ⟨rfl, rfl, rfl, by decide +kernel, rfl, by decide +kernel, by decide +kernel⟩
abbrev s_cut : Stmt := topS 29
theorem sc_cut : FnScope ["width", "word", "low", "many"] ["width", "word", "low", "many"] (defScope s_cut) := ⟨rfl, rfl, rfl, by decide +kernel, rfl, by decide +kernel, by decide +kernel⟩
abbrev s__law_dice : Stmt := topS 31
theorem sc__law_dice : FnScope ["_law_script", "_law_at", "_law_cell", "_law_great", "_law_left", "_law_mixed"] ["_law_script", "_law_at"] (defScope s__law_dice) := ⟨rfl, rfl, rfl, by decide +kernel, rfl, by decide +kernel, by decide +kernel⟩
abbrev s__law_roll : Stmt := topS 32
theorem sc__law_roll : FnScope ["_law_dice_here", "_law_total", "_law_size", "_law_drawn", "_law_one", "_law_two"] ["_law_dice_here", "_law_total"] (defScope s__law_roll) := ⟨rfl, rfl, rfl, by decide +kernel, rfl, by decide +kernel, by decide +kernel⟩
abbrev s__law_one_of : Stmt := topS 33
theorem sc__law_one_of : FnScope ["_law_dice_here", "_law_items"] ["_law_dice_here", "_law_items"] (defScope s__law_one_of) := ⟨rfl, rfl, rfl, by decide +kernel, rfl, by decide +kernel, by decide +kernel⟩
abbrev s__law_two_to : Stmt := topS 34
theorem sc__law_two_to : FnScope ["_law_bits_here", "_law_found", "_law_turn"] ["_law_bits_here"] (defScope s__law_two_to) := ⟨rfl, rfl, rfl, by decide +kernel, rfl, by decide +kernel, by decide +kernel⟩
abbrev s__law_word_drawn : Stmt := topS 35
theorem sc__law_word_drawn : FnScope ["_law_dice_here", "_law_width", "_law_size"] ["_law_dice_here", "_law_width"] (defScope s__law_word_drawn) := ⟨rfl, rfl, rfl, by decide +kernel, rfl, by decide +kernel, by decide +kernel⟩
abbrev s__law_bits : Stmt := topS 36
theorem sc__law_bits : FnScope ["_law_width", "_law_word", "_law_found", "_law_left", "_law_place"] ["_law_width", "_law_word"] (defScope s__law_bits) := ⟨rfl, rfl, rfl, by decide +kernel, rfl, by decide +kernel, by decide +kernel⟩
abbrev s__law_of_bits : Stmt := topS 37
theorem sc__law_of_bits : FnScope ["_law_bits_here", "_law_found", "_law_bit"] ["_law_bits_here"] (defScope s__law_of_bits) := ⟨rfl, rfl, rfl, by decide +kernel, rfl, by decide +kernel, by decide +kernel⟩
abbrev s__law_rippled : Stmt := topS 38
theorem sc__law_rippled : FnScope ["_law_width", "_law_one", "_law_other", "_law_ahead", "_law_found", "_law_sums", "_law_left", "_law_right_here", "_law_both"] ["_law_width", "_law_one", "_law_other", "_law_ahead"] (defScope s__law_rippled) := ⟨rfl, rfl, rfl, by decide +kernel, rfl, by decide +kernel, by decide +kernel⟩
abbrev s__law_width_drawn : Stmt := topS 39
theorem sc__law_width_drawn : FnScope ["_law_dice_here"] ["_law_dice_here"] (defScope s__law_width_drawn) := ⟨rfl, rfl, rfl, by decide +kernel, rfl, by decide +kernel, by decide +kernel⟩
abbrev s__law_orders_right : Stmt := topS 40
theorem sc__law_orders_right : FnScope ["_law_width", "_law_one", "_law_other", "_law_half", "_law_size"] ["_law_width", "_law_one", "_law_other"] (defScope s__law_orders_right) := ⟨rfl, rfl, rfl, by decide +kernel, rfl, by decide +kernel, by decide +kernel⟩
abbrev s__law_right : Stmt := topS 41
theorem sc__law_right : FnScope ["_law_dice_here", "_law_width", "_law_one", "_law_other", "_law_ahead", "_law_size", "_law_due", "_law_total", "_law_last", "_law_less", "_law_many", "_law_lower"] ["_law_dice_here"] (defScope s__law_right) := ⟨rfl, rfl, rfl, by decide +kernel, rfl, by decide +kernel, by decide +kernel⟩
abbrev s_law : Stmt := topS 42
theorem sc_law : FnScope ["_law_script", "_law_at", "_law_dice_here", "_law_turn", "_law_told"] ["_law_script"] (defScope s_law) := ⟨rfl, rfl, rfl, by decide +kernel, rfl, by decide +kernel, by decide +kernel⟩
structure Txt (K : PySem.W.Frag) (mg : Str → Option Value) where
  is_integer : DefAt K mg "is_integer" s_is_integer ["value"]
  is_short : DefAt K mg "is_short" s_is_short ["value"]
  is_within : DefAt K mg "is_within" s_is_within ["value", "least", "most"]
  require_within : DefAt K mg "require_within" s_require_within ["value", "least", "most"]
  require_bit : DefAt K mg "require_bit" s_require_bit ["value"]
  is_word_in : DefAt K mg "is_word_in" s_is_word_in ["width", "value"]
  require_width : DefAt K mg "require_width" s_require_width ["width"]
  require_word : DefAt K mg "require_word" s_require_word ["width", "word"]
  require_one_word : DefAt K mg "require_one_word" s_require_one_word ["width", "word"]
  require_two_words : DefAt K mg "require_two_words" s_require_two_words ["width", "one", "other"]
  bits_in : DefAt K mg "bits_in" s_bits_in ["width", "word"]
  signed_in : DefAt K mg "signed_in" s_signed_in ["width", "word"]
  carries_in : DefAt K mg "carries_in" s_carries_in ["width", "one", "other", "first"]
  added_in : DefAt K mg "added_in" s_added_in ["width", "one", "other", "first"]
  lessened_in : DefAt K mg "lessened_in" s_lessened_in ["width", "one", "other"]
  cut_in : DefAt K mg "cut_in" s_cut_in ["word", "low", "many"]
  wrapped : DefAt K mg "wrapped" s_wrapped ["width", "number"]
  signed : DefAt K mg "signed" s_signed ["width", "word"]
  carries : DefKw K mg "carries" s_carries ["width", "one", "other", "first"] 3 [("first", .int 0)]
  added : DefKw K mg "added" s_added ["width", "one", "other", "first"] 3 [("first", .int 0)]
  lessened : DefAt K mg "lessened" s_lessened ["width", "one", "other"]
  is_below : DefAt K mg "is_below" s_is_below ["width", "one", "other"]
  is_under : DefAt K mg "is_under" s_is_under ["width", "one", "other"]
  cut : DefAt K mg "cut" s_cut ["width", "word", "low", "many"]
  _law_dice : DefAt K mg "_law_dice" s__law_dice ["_law_script", "_law_at"]
  _law_roll : DefAt K mg "_law_roll" s__law_roll ["_law_dice_here", "_law_total"]
  _law_one_of : DefAt K mg "_law_one_of" s__law_one_of ["_law_dice_here", "_law_items"]
  _law_two_to : DefAt K mg "_law_two_to" s__law_two_to ["_law_bits_here"]
  _law_word_drawn : DefAt K mg "_law_word_drawn" s__law_word_drawn ["_law_dice_here", "_law_width"]
  _law_bits : DefAt K mg "_law_bits" s__law_bits ["_law_width", "_law_word"]
  _law_of_bits : DefAt K mg "_law_of_bits" s__law_of_bits ["_law_bits_here"]
  _law_rippled : DefAt K mg "_law_rippled" s__law_rippled ["_law_width", "_law_one", "_law_other", "_law_ahead"]
  _law_width_drawn : DefAt K mg "_law_width_drawn" s__law_width_drawn ["_law_dice_here"]
  _law_orders_right : DefAt K mg "_law_orders_right" s__law_orders_right ["_law_width", "_law_one", "_law_other"]
  _law_right : DefAt K mg "_law_right" s__law_right ["_law_dice_here"]
  law : DefAt K mg "law" s_law ["_law_script"]
  SIXTY : ConAt mg "SIXTY" (.int (10 ^ 60))
  MAX_WIDTH : ConAt mg "MAX_WIDTH" (.int 32)
  z_isinstance : mg "isinstance" = none
  z_int : mg "int" = none
  z_bool : mg "bool" = none
  z_tuple : mg "tuple" = none
  z_range : mg "range" = none
  z_zip : mg "zip" = none
  z_len : mg "len" = none
  z_abs : mg "abs" = none
  z_list : mg "list" = none
  z_max : mg "max" = none
  z_min : mg "min" = none
section
variable {P : Program} {w : World} {K : PySem.W.Frag} {mg : Str → Option Value} {base : Heap}
def sp_is_integer (K : PySem.W.Frag) : Sp := fun vs H Q _ => ∃ i : Int, vs = [.int i] ∧ Q (.bl true) H
theorem ok_is_integer (T : Txt K mg) : FnOk P w K mg base CX0 1 T.is_integer.f T.is_integer.fd ["value"] (sp_is_integer K) := by
  refine T.is_integer.F.ok sc_is_integer (fun vs H Q E h => ?_) (fun cdv A outer s H vs Q E hr h => ?_)
  · obtain ⟨i, rfl, _⟩ := h
    rfl
  · obtain ⟨i, rfl, q⟩ := h
    refine ⟨_, (pss_one (ps_ret (pe_and (pe_callB call_isi (by rfl) T.z_isinstance (by decide +kernel) (pa_cons (pv 0) (pa_cons (pe_bltn (v := .ty "int") (by rfl) T.z_int (by decide +kernel) rfl) pa_nil))) (pe_one (pe_not (pe_callB call_isi (by rfl) T.z_isinstance (by decide +kernel) (pa_cons (pv 0) (pa_cons (pe_bltn (v := .ty "bool") (by rfl) T.z_bool (by decide +kernel) rfl) pa_nil)))))))), ?_⟩
    refine ⟨_, rfl, .int i, .ty "int", .type "int", .type "int", true, rfl, .ty _, .base (.int i), kit_ty (by decide +kernel), true, rfl, iteT ?_⟩
    exact ⟨_, rfl, .int i, .ty "bool", .type "int", .type "bool", false, rfl, .ty _, .base (.int i), kit_ty (by decide +kernel), false, rfl, q⟩
def sp_is_short (K : PySem.W.Frag) : Sp := fun vs H Q _ => ∃ i : Int, vs = [.int i] ∧ -(10 ^ 60) < i ∧ i < 10 ^ 60 ∧ Q (.bl true) H
theorem ok_is_short (T : Txt K mg) : FnOk P w K mg base CX0 2 T.is_short.f T.is_short.fd ["value"] (sp_is_short K) := by
  refine T.is_short.F.ok sc_is_short (fun vs H Q E h => ?_) (fun cdv A outer s H vs Q E hr h => ?_)
  · obtain ⟨i, rfl, _⟩ := h
    rfl
  · obtain ⟨i, rfl, h1, h2, q⟩ := h
    refine ⟨_, (pss_one (ps_ret (pe_and (pe_call (ok_is_integer T) (hr.mono (by decide)) (by rfl) T.is_integer.g T.is_integer.F.kp T.is_integer.b .nil pass0 (pa_cons (pv 0) pa_nil)) (pe_one (pe_chain op_lt op_lt (pe_un un_neg (pe_glob rfl T.SIXTY.g T.SIXTY.r)) (pv 0) (pe_glob rfl T.SIXTY.g T.SIXTY.r)))))), ?_⟩
    refine ⟨_, rfl, i, rfl, true, rfl, iteT ?_⟩
    refine ⟨_, rfl, _, rfl, _, i, rfl, rfl, _, rfl, iteB (decide_eq_true h1) ?_⟩
    refine ⟨i, _, rfl, rfl, ?_⟩
    show Q (.bl (decide (i < 10 ^ 60))) H
    rw [decide_eq_true h2]
    exact q
def sp_is_within (K : PySem.W.Frag) : Sp := fun vs H Q _ => ∃ i lo hi : Int, vs = [.int i, .int lo, .int hi] ∧ Q (.bl (decide (lo ≤ i) && decide (i ≤ hi))) H
theorem ok_is_within (T : Txt K mg) : FnOk P w K mg base CX0 2 T.is_within.f T.is_within.fd ["value", "least", "most"] (sp_is_within K) := by
  refine T.is_within.F.ok sc_is_within (fun vs H Q E h => ?_) (fun cdv A outer s H vs Q E hr h => ?_)
  · obtain ⟨i, lo, hi, rfl, _⟩ := h
    rfl
  · obtain ⟨i, lo, hi, rfl, q⟩ := h
    refine ⟨_, (pss_one (ps_ret (pe_and (pe_call (ok_is_integer T) (hr.mono (by decide)) (by rfl) T.is_integer.g T.is_integer.F.kp T.is_integer.b .nil pass0 (pa_cons (pv 0) pa_nil)) (pe_one (pe_chain op_le op_le (pv 1) (pv 0) (pv 2)))))), ?_⟩
    refine ⟨_, rfl, i, rfl, true, rfl, iteT ?_⟩
    refine ⟨_, rfl, _, rfl, lo, i, rfl, rfl, _, rfl, ?_⟩
    cases e : decide (lo ≤ i) with
    | true =>
      rw [e] at q
      exact iteT ⟨_, rfl, i, hi, rfl, rfl, q⟩
    | false =>
      rw [e] at q
      exact iteF q
def sp_require_within (K : PySem.W.Frag) : Sp := fun vs H Q _ => ∃ i lo hi : Int, vs = [.int i, .int lo, .int hi] ∧ lo ≤ i ∧ i ≤ hi ∧ Q .non H
theorem ok_require_within (T : Txt K mg) : FnOk P w K mg base CX0 3 T.require_within.f T.require_within.fd ["value", "least", "most"] (sp_require_within K) := by
  refine T.require_within.F.ok sc_require_within (fun vs H Q E h => ?_) (fun cdv A outer s H vs Q E hr h => ?_)
  · obtain ⟨i, lo, hi, rfl, _⟩ := h
    rfl
  · obtain ⟨i, lo, hi, rfl, h1, h2, q⟩ := h
    refine ⟨_, (pss_one (ps_if (pt_not (pt_val (pe_call (ok_is_within T) (hr.mono (by decide)) (by rfl) T.is_within.g T.is_within.F.kp T.is_within.b .nil pass0 (pa_cons (pv 0) (pa_cons (pv 1) (pa_cons (pv 2) pa_nil)))))) 
        (pss_one ps_never) pss_nil)), ?_⟩
    exact ⟨_, rfl, _, rfl, _, rfl, i, lo, hi, rfl, _, rfl, iteN (by rw [decide_eq_true h1, decide_eq_true h2]; rfl) q⟩
def sp_is_word_in (K : PySem.W.Frag) : Sp := fun vs H Q _ => ∃ (n : Nat) (x : Int), vs = [.int n, .int x] ∧ n ≤ 1000 ∧ Q (.bl (decide (0 ≤ x) && decide (x ≤ 2 ^ n - 1))) H
theorem ok_is_word_in (T : Txt K mg) : FnOk P w K mg base CX0 3 T.is_word_in.f T.is_word_in.fd ["width", "value"] (sp_is_word_in K) := by
  refine T.is_word_in.F.ok sc_is_word_in (fun vs H Q E h => ?_) (fun cdv A outer s H vs Q E hr h => ?_)
  · obtain ⟨n, x, rfl, _⟩ := h
    rfl
  · obtain ⟨n, x, rfl, hn, q⟩ := h
    refine ⟨_, (pss_one (ps_ret (pe_call (ok_is_within T) (hr.mono (by decide)) (by rfl) T.is_within.g T.is_within.F.kp T.is_within.b .nil pass0 (pa_cons (pv 1) (pa_cons pe_int (pa_cons (pe_op op_sub (pe_op op_oneShl pe_int (pv 0)) pe_int) pa_nil)))))), ?_⟩
    exact ⟨_, rfl, _, rfl, n, rfl, rfl, by omega, _, _, rfl, rfl, x, 0, _, rfl, q⟩
def sp_require_width (K : PySem.W.Frag) : Sp := fun vs H Q _ => ∃ n : Nat, vs = [.int n] ∧ 1 ≤ n ∧ n ≤ 32 ∧ Q .non H
theorem ok_require_width (T : Txt K mg) : FnOk P w K mg base CX0 4 T.require_width.f T.require_width.fd ["width"] (sp_require_width K) := by
  refine T.require_width.F.ok sc_require_width (fun vs H Q E h => ?_) (fun cdv A outer s H vs Q E hr h => ?_)
  · obtain ⟨n, rfl, _⟩ := h
    rfl
  · obtain ⟨n, rfl, h1, h2, q⟩ := h
    refine ⟨_, (pss_one (ps_expr (pe_call (ok_require_within T) (hr.mono (by decide)) (by rfl) T.require_within.g T.require_within.F.kp T.require_within.b .nil pass0 (pa_cons (pv 0) (pa_cons pe_int (pa_cons (pe_glob rfl T.MAX_WIDTH.g T.MAX_WIDTH.r) pa_nil)))))), ?_⟩
    exact ⟨_, rfl, n, 1, 32, rfl, by omega, by omega, q⟩
def sp_require_word (K : PySem.W.Frag) : Sp := fun vs H Q _ => ∃ (n : Nat) (x : Int), vs = [.int n, .int x] ∧ n ≤ 1000 ∧ 0 ≤ x ∧ x < 2 ^ n ∧ Q .non H
theorem ok_require_word (T : Txt K mg) : FnOk P w K mg base CX0 4 T.require_word.f T.require_word.fd ["width", "word"] (sp_require_word K) := by
  refine T.require_word.F.ok sc_require_word (fun vs H Q E h => ?_) (fun cdv A outer s H vs Q E hr h => ?_)
  · obtain ⟨n, x, rfl, _⟩ := h
    rfl
  · obtain ⟨n, x, rfl, hn, h1, h2, q⟩ := h
    refine ⟨_, (pss_one (ps_if (pt_not (pt_val (pe_call (ok_is_word_in T) (hr.mono (by decide)) (by rfl) T.is_word_in.g T.is_word_in.F.kp T.is_word_in.b .nil pass0 (pa_cons (pv 0) (pa_cons (pv 1) pa_nil))))) 
        (pss_one ps_never) pss_nil)), ?_⟩
    exact ⟨_, rfl, _, rfl, n, x, rfl, hn, _, rfl, iteN (by rw [decide_eq_true h1, decide_eq_true (show x ≤ 2 ^ n - 1 by omega)]; rfl) q⟩
def sp_require_one_word (K : PySem.W.Frag) : Sp := fun vs H Q _ => ∃ (n : Nat) (x : Int), vs = [.int n, .int x] ∧ 1 ≤ n ∧ n ≤ 32 ∧ 0 ≤ x ∧ x < 2 ^ n ∧ Q .non H
theorem ok_require_one_word (T : Txt K mg) : FnOk P w K mg base CX0 5 T.require_one_word.f T.require_one_word.fd ["width", "word"] (sp_require_one_word K) := by
  refine T.require_one_word.F.ok sc_require_one_word (fun vs H Q E h => ?_) (fun cdv A outer s H vs Q E hr h => ?_)
  · obtain ⟨n, x, rfl, _⟩ := h
    rfl
  · obtain ⟨n, x, rfl, h1, h2, h3, h4, q⟩ := h
    refine ⟨_, (pss_cons (ps_expr (pe_call (ok_require_width T) (hr.mono (by decide)) (by rfl) T.require_width.g T.require_width.F.kp T.require_width.b .nil pass0 (pa_cons (pv 0) pa_nil))) 
      (pss_one (ps_expr (pe_call (ok_require_word T) (hr.mono (by decide)) (by rfl) T.require_word.g T.require_word.F.kp T.require_word.b .nil pass0 (pa_cons (pv 0) (pa_cons (pv 1) pa_nil)))))), ?_⟩
    exact ⟨_, rfl, n, rfl, h1, h2, _, rfl, _, rfl, n, x, rfl, by omega, h3, h4, q⟩
def sp_require_two_words (K : PySem.W.Frag) : Sp := fun vs H Q _ => ∃ (n : Nat) (x y : Int), vs = [.int n, .int x, .int y] ∧ 1 ≤ n ∧ n ≤ 32 ∧ 0 ≤ x ∧ x < 2 ^ n ∧ 0 ≤ y ∧ y < 2 ^ n ∧ Q .non H
theorem ok_require_two_words (T : Txt K mg) : FnOk P w K mg base CX0 6 T.require_two_words.f T.require_two_words.fd ["width", "one", "other"] (sp_require_two_words K) := by
  refine T.require_two_words.F.ok sc_require_two_words (fun vs H Q E h => ?_) (fun cdv A outer s H vs Q E hr h => ?_)
  · obtain ⟨n, x, y, rfl, _⟩ := h
    rfl
  · obtain ⟨n, x, y, rfl, h1, h2, h3, h4, h5, h6, q⟩ := h
    refine ⟨_, (pss_cons (ps_expr (pe_call (ok_require_one_word T) (hr.mono (by decide)) (by rfl) T.require_one_word.g T.require_one_word.F.kp T.require_one_word.b .nil pass0 (pa_cons (pv 0) (pa_cons (pv 1) pa_nil)))) 
      (pss_one (ps_expr (pe_call (ok_require_word T) (hr.mono (by decide)) (by rfl) T.require_word.g T.require_word.F.kp T.require_word.b .nil pass0 (pa_cons (pv 0) (pa_cons (pv 2) pa_nil)))))), ?_⟩
    exact ⟨_, rfl, _, rfl, n, x, rfl, h1, h2, h3, h4, _, rfl, _, rfl, n, y, rfl, by omega, h5, h6, q⟩
def sp_signed_in (K : PySem.W.Frag) : Sp := fun vs H Q _ => ∃ (n : Nat) (x : Int), vs = [.int n, .int x] ∧ 1 ≤ n ∧ n ≤ 1000 ∧ Q (.int (sgn n x)) H
theorem ok_signed_in (T : Txt K mg) : FnOk P w K mg base CX0 1 T.signed_in.f T.signed_in.fd ["width", "word"] (sp_signed_in K) := by
  refine T.signed_in.F.ok sc_signed_in (fun vs H Q E h => ?_) (fun cdv A outer s H vs Q E hr h => ?_)
  · obtain ⟨n, x, rfl, _⟩ := h
    rfl
  · obtain ⟨n, x, rfl, h1, h2, q⟩ := h
    refine ⟨_, (pss_one (ps_ret (pe_ifExp (pt_cmpR op_eq (pe_op op_shrN (pv 1) (pe_op op_sub (pv 0) pe_int)) pe_int (nomark _)) (pe_op op_sub (pv 1) (pe_op op_oneShl pe_int (pv 0))) (pv 1)))), ?_⟩
    refine ⟨_, rfl, _, rfl, n, 1, rfl, rfl, x, n - 1, rfl, congrArg V.int (by omega), rfl, _, rfl, ?_⟩
    unfold sgn at q
    refine ite2 (fun e => ?_) (fun e => ?_)
    · have e1 : x / 2 ^ (n - 1) = 1 := V.int.inj (of_decide_eq_true e)
      rw [if_pos e1] at q
      exact ⟨_, rfl, _, rfl, n, rfl, rfl, by omega, _, _, rfl, rfl, q⟩
    · have e1 : ¬ x / 2 ^ (n - 1) = 1 := fun z => e (decide_eq_true (congrArg V.int z))
      rw [if_neg e1] at q
      exact ⟨_, rfl, q⟩
def sp_wrapped (K : PySem.W.Frag) : Sp := fun vs H Q _ => ∃ (n : Nat) (x : Int), vs = [.int n, .int x] ∧ 1 ≤ n ∧ n ≤ 32 ∧ -(10 ^ 60) < x ∧ x < 10 ^ 60 ∧ Q (.int (x % 2 ^ n)) H
theorem ok_wrapped (T : Txt K mg) : FnOk P w K mg base CX0 5 T.wrapped.f T.wrapped.fd ["width", "number"] (sp_wrapped K) := by
  refine T.wrapped.F.ok sc_wrapped (fun vs H Q E h => ?_) (fun cdv A outer s H vs Q E hr h => ?_)
  · obtain ⟨n, x, rfl, _⟩ := h
    rfl
  · obtain ⟨n, x, rfl, h1, h2, h3, h4, q⟩ := h
    refine ⟨_, (pss_cons (ps_expr (pe_call (ok_require_width T) (hr.mono (by decide)) (by rfl) T.require_width.g T.require_width.F.kp T.require_width.b .nil pass0 (pa_cons (pv 0) pa_nil))) 
      (pss_cons (ps_if (pt_not (pt_val (pe_call (ok_is_short T) (hr.mono (by decide)) (by rfl) T.is_short.g T.is_short.F.kp T.is_short.b .nil pass0 (pa_cons (pv 1) pa_nil)))) 
        (pss_one ps_never) pss_nil) 
      (pss_one (ps_ret (pe_op op_mod (pv 1) (pe_op op_oneShl pe_int (pv 0))))))), ?_⟩
    exact ⟨_, rfl, n, rfl, h1, h2, _, rfl, x, rfl, h3, h4, _, rfl, iteF ⟨_, rfl, _, rfl, n, rfl, rfl, by omega, _, _, rfl, rfl, two_pos n, q⟩⟩
def sp_signed (K : PySem.W.Frag) : Sp := fun vs H Q _ => ∃ (n : Nat) (x : Int), vs = [.int n, .int x] ∧ 1 ≤ n ∧ n ≤ 32 ∧ 0 ≤ x ∧ x < 2 ^ n ∧ Q (.int (sgn n x)) H
theorem ok_signed (T : Txt K mg) : FnOk P w K mg base CX0 6 T.signed.f T.signed.fd ["width", "word"] (sp_signed K) := by
  refine T.signed.F.ok sc_signed (fun vs H Q E h => ?_) (fun cdv A outer s H vs Q E hr h => ?_)
  · obtain ⟨n, x, rfl, _⟩ := h
    rfl
  · obtain ⟨n, x, rfl, h1, h2, h3, h4, q⟩ := h
    refine ⟨_, (pss_cons (ps_expr (pe_call (ok_require_one_word T) (hr.mono (by decide)) (by rfl) T.require_one_word.g T.require_one_word.F.kp T.require_one_word.b .nil pass0 (pa_cons (pv 0) (pa_cons (pv 1) pa_nil)))) 
      (pss_one (ps_ret (pe_call (ok_signed_in T) (hr.mono (by decide)) (by rfl) T.signed_in.g T.signed_in.F.kp T.signed_in.b .nil pass0 (pa_cons (pv 0) (pa_cons (pv 1) pa_nil)))))), ?_⟩
    exact ⟨_, rfl, _, rfl, n, x, rfl, h1, h2, h3, h4, _, rfl, _, rfl, n, x, rfl, h1, by omega, q⟩
def sp_require_bit (K : PySem.W.Frag) : Sp := fun vs H Q _ => ∃ c : Int, vs = [.int c] ∧ 0 ≤ c ∧ c ≤ 1 ∧ Q .non H
theorem ok_require_bit (T : Txt K mg) : FnOk P w K mg base CX0 4 T.require_bit.f T.require_bit.fd ["value"] (sp_require_bit K) := by
  refine T.require_bit.F.ok sc_require_bit (fun vs H Q E h => ?_) (fun cdv A outer s H vs Q E hr h => ?_)
  · obtain ⟨c, rfl, _⟩ := h
    rfl
  · obtain ⟨c, rfl, h0, h1, q⟩ := h
    refine ⟨_, (pss_one (ps_expr (pe_call (ok_require_within T) (hr.mono (by decide)) (by rfl) T.require_within.g T.require_within.F.kp T.require_within.b .nil pass0 (pa_cons (pv 0) (pa_cons pe_int (pa_cons pe_int pa_nil)))))), ?_⟩
    exact ⟨_, rfl, c, 0, 1, rfl, h0, h1, q⟩
def sp_bits_in (K : PySem.W.Frag) : Sp := fun vs H Q _ => ∃ (n : Nat) (x : Int), vs = [.int n, .int x] ∧ n ≤ 1000 ∧ NewT K ((bitsI n x).map V.int) H Q
theorem bitsI_rangeF (n : Nat) (x : Int) : (List.range n).filterMap (fun i => some (V.int (x / 2 ^ i % 2))) = (bitsI n x).map V.int := by
  induction n with
  | zero => rfl
  | succ n ih =>
    rw [range_snoc, ih, bitsI_snoc, List.map_append]
    rfl
theorem ok_bits_in (T : Txt K mg) : FnOk P w K mg base CX0 1 T.bits_in.f T.bits_in.fd ["width", "word"] (sp_bits_in K) := by
  refine T.bits_in.F.ok sc_bits_in (fun vs H Q E h => ?_) (fun cdv A outer s H vs Q E hr h => ?_)
  · obtain ⟨n, x, rfl, _⟩ := h
    rfl
  · obtain ⟨n, x, rfl, hn, q⟩ := h
    refine ⟨_, (pss_one (ps_ret (pe_callTy call_tupleA (by rfl) T.z_tuple (by decide +kernel) (pa_cons (pe_lc (own := [("place", 2)]) (by rfl) sc_bits_in.nd (pi_range1 (by rfl) T.z_range (pa_cons (pv 0) pa_nil)) (blkOk_by (own := [("place", 2)]) (N := ["width", "word", "place"]) (sc := defScope s_bits_in) (by decide +kernel)) (fun _ _ _ _ _ => (pg_name (i := 2) sc_bits_in.nd rfl (.inl rfl))) (fun _ _ _ _ _ => pts_nil) (fun _ _ _ _ _ => (pe_op op_andM (pe_op op_shrN (pv 1) (pv 2)) pe_int))) pa_nil)))), ?_⟩
    refine ⟨_, rfl, _, rfl, by omega, by omega, lc_rangeF (n := n) (fun i => some (V.int (x / 2 ^ i % 2))) (by omega) ?_ fun D H1 s1 e1 _ => ?_⟩
    · intro i H' hi sm R N hR _
      exact ⟨rfl, _, rfl, _, rfl, x, i, rfl, rfl, _, 1, rfl, rfl, hR _ _ rfl (Same.refl _)⟩
    · rw [bitsI_rangeF] at e1
      exact ⟨D, _, rfl, .inl (SqL.of e1), fun p H2 s2 e2 => q p _ (s1.trans s2) e2⟩
theorem cars_last (i : Nat) (x y c : Int) : (cars i x y c).map V.int = ((List.range i).map (carry x y c)).map V.int ++ [V.int (carry x y c i)] := by
  unfold cars
  rw [List.range_succ, List.map_append, List.map_append]
  rfl
def sp_carries_in (K : PySem.W.Frag) : Sp := fun vs H Q _ => ∃ (n : Nat) (x y c : Int), vs = [.int n, .int x, .int y, .int c] ∧ n ≤ 1000 ∧ 0 ≤ c ∧ c ≤ 1 ∧ NewT K ((cars n x y c).map V.int) H Q
theorem ok_carries_in (T : Txt K mg) : FnOk P w K mg base CX0 2 T.carries_in.f T.carries_in.fd ["width", "one", "other", "first"] (sp_carries_in K) := by
  refine T.carries_in.F.ok sc_carries_in (fun vs H Q E h => ?_) (fun cdv A outer s H vs Q E hr h => ?_)
  · obtain ⟨n, x, y, c, rfl, _⟩ := h
    rfl
  · obtain ⟨n, x, y, c, rfl, hn, c0, c1, q⟩ := h
    refine ⟨_, (pss_cons (ps_set (i := 4) sc_carries_in.nd rfl (.inl rfl) (pe_lstA (pa_cons (pv 3) pa_nil))) 
      (pss_cons (ps_for PassesOwn.never rfl (RZ.pi_zipA (by rfl) T.z_zip (pa_cons (pe_call (ok_bits_in T) (hr.mono (by decide)) (by rfl) T.bits_in.g T.bits_in.F.kp T.bits_in.b .nil pass0 (pa_cons (pv 0) (pa_cons (pv 1) pa_nil))) (pa_cons (pe_call (ok_bits_in T) (hr.mono (by decide)) (by rfl) T.bits_in.g T.bits_in.F.kp T.bits_in.b .nil pass0 (pa_cons (pv 0) (pa_cons (pv 2) pa_nil))) pa_nil))) (pg_tup rfl (pgs_cons (pg_name (i := 5) sc_carries_in.nd rfl (.inl rfl)) (pgs_cons (pg_name (i := 6) sc_carries_in.nd rfl (.inl rfl)) pgs_nil))) 
        (pss_one (ps_expr (pe_bm PySem.F.plainAttrs_list PySem.F.slot_list_append PySem.F.type_list_append mt_append (pv 4) (pa_cons (pe_callTy call_int1 (by rfl) T.z_int (by decide +kernel) (pa_cons (pe_cmpR op_gt (pe_op op_add (pe_op op_add (pv 5) (pv 6)) (pe_ix ix_list (pv 4) (pe_un un_neg pe_int) (fun _ _ => rfl))) pe_int (nomark _)) pa_nil)) pa_nil))))) 
      (pss_one (ps_ret (pe_callTy call_tupleA (by rfl) T.z_tuple (by decide +kernel) (pa_cons (pv 4) pa_nil)))))), ?_⟩
    refine ⟨_, rfl, sz, fun l H0 s0 e0 nl => ?_⟩
    refine ⟨_, rfl, _, rfl, n, x, rfl, hn, fun p1 H1 s1 e1 => ⟨_, rfl, _, rfl, n, y, rfl, hn, fun p2 H2 s2 e2 => ⟨p1, p2, _, _, rfl, .inr ⟨sT s2 e1, e2, ?_⟩⟩⟩⟩
    have hL := s2 _ _ (s1 _ _ e0)
    refine RZ.for_zipT (K := K) (a := p1) (b := p2) (xs := (bitsI n x).map V.int) (ys := (bitsI n y).map V.int) (by simp [bitsI_length])
      (fun i σ H' => ∃ u v, σ = [some (.int n), some (.int x), some (.int y), some (.int c), some (.ref l), u, v] ∧ But l H2 H' ∧ H' l = some (.lst ((cars i x y c).map V.int))) ⟨none, none, rfl, But.refl _ _, ?_⟩ ?_ ?_ ?_
    · rw [hL, cars_last, carry_zero]
      rfl
    · rintro i σ H' ⟨u, v, _, b, _⟩
      exact ⟨b.seqT hL (sT s2 e1), b.seqT hL e2⟩
    · rintro i v1 v2 t σ H' h1 h2 ⟨u, v, rfl, b, hl⟩ nt
      have hi : i < n := by
        have := (List.getElem?_eq_some_iff.mp h1).1
        rw [List.length_map, bitsI_length] at this
        exact this
      rw [List.getElem?_map, bitsI_get n x i hi] at h1
      rw [List.getElem?_map, bitsI_get n y i hi] at h2
      cases h1
      cases h2
      have hl' := same_new (o := .tup [.int (x / 2 ^ i % 2), .int (y / 2 ^ i % 2)]) nt _ _ hl
      refine ⟨t, _, rfl, SqT.of upd_same, rfl, _, _, rfl, _, [], rfl, rfl, ?_⟩
      have la : atI ((cars i x y c).map V.int) (-1) = some (.int (carry x y c i)) := by
        rw [cars_last]
        exact atI_last _ _
      have cr := carry_range (x := x) (y := y) c0 c1 i
      refine ⟨_, rfl, .inl ⟨rfl, _, SqL.of hl'⟩, _, rfl, _, rfl, _, _, rfl, rfl, _, rfl, 1, rfl, l, _, -1, _, rfl, rfl, SqL.of hl', la, _, _, rfl, rfl, _, _, rfl, rfl, .inr ⟨_, rfl, l, _, _, rfl, rfl, hl', ?_, ?_⟩⟩
      · rw [List.length_map, cars_length]
        exact szlt (by omega)
      · refine ⟨_, _, rfl, (b.same (same_new nt)).trans But.mut, ?_⟩
        rw [upd_same, cars_snoc, List.map_append, carry_succ]
        have b0 := Int.emod_nonneg (x / 2 ^ i) (by decide : (2 : Int) ≠ 0)
        have b1 := Int.emod_lt_of_pos (x / 2 ^ i) (by decide : (0 : Int) < 2)
        have b2 := Int.emod_nonneg (y / 2 ^ i) (by decide : (2 : Int) ≠ 0)
        have b3 := Int.emod_lt_of_pos (y / 2 ^ i) (by decide : (0 : Int) < 2)
        rw [← half_int _ (by omega) (by omega)]
        by_cases hc : x / 2 ^ i % 2 + y / 2 ^ i % 2 + carry x y c i > 1
        · rw [if_pos hc, decide_eq_true hc]
          rfl
        · rw [if_neg hc, decide_eq_false hc]
          rfl
    · rintro σ H' ⟨u, v, rfl, b, hl⟩
      rw [List.length_map, bitsI_length] at hl
      refine ⟨_, rfl, l, _, rfl, .inl (SqL.of hl), fun p H3 s3 e3 => q p _ ((Same.back nl ((s0.trans s1).trans s2) b).trans s3) e3⟩
def sp_added_in (K : PySem.W.Frag) : Sp := fun vs H Q _ => ∃ (n : Nat) (x y c : Int), vs = [.int n, .int x, .int y, .int c] ∧ n ≤ 1000 ∧ NewT K [.int ((x + y + c) % 2 ^ n), .int ((x + y + c) / 2 ^ n)] H Q
theorem ok_added_in (T : Txt K mg) : FnOk P w K mg base CX0 1 T.added_in.f T.added_in.fd ["width", "one", "other", "first"] (sp_added_in K) := by
  refine T.added_in.F.ok sc_added_in (fun vs H Q E h => ?_) (fun cdv A outer s H vs Q E hr h => ?_)
  · obtain ⟨n, x, y, c, rfl, _⟩ := h
    rfl
  · obtain ⟨n, x, y, c, rfl, hn, q⟩ := h
    refine ⟨_, (pss_cons (ps_set (i := 4) sc_added_in.nd rfl (.inl rfl) (pe_op op_add (pe_op op_add (pv 1) (pv 2)) (pv 3))) 
      (pss_one (ps_ret (pe_tupA (pa_cons (pe_op op_mod (pv 4) (pe_op op_oneShl pe_int (pv 0))) (pa_cons (pe_op op_shrN (pv 4) (pv 0)) pa_nil)))))), ?_⟩
    refine ⟨_, rfl, _, rfl, _, _, rfl, rfl, _, rfl, _, _, rfl, rfl, ?_⟩
    exact ⟨_, rfl, _, rfl, n, rfl, rfl, by omega, _, _, rfl, rfl, two_pos n, _, rfl, _, rfl, _, n, rfl, rfl, sz, q⟩
def sp_lessened_in (K : PySem.W.Frag) : Sp := fun vs H Q _ => ∃ (n : Nat) (x y : Int), vs = [.int n, .int x, .int y] ∧ n ≤ 1000 ∧ NewT K [.int ((x + (2 ^ n - 1 - y) + 1) % 2 ^ n), .int ((x + (2 ^ n - 1 - y) + 1) / 2 ^ n)] H Q
theorem ok_lessened_in (T : Txt K mg) : FnOk P w K mg base CX0 2 T.lessened_in.f T.lessened_in.fd ["width", "one", "other"] (sp_lessened_in K) := by
  refine T.lessened_in.F.ok sc_lessened_in (fun vs H Q E h => ?_) (fun cdv A outer s H vs Q E hr h => ?_)
  · obtain ⟨n, x, y, rfl, _⟩ := h
    rfl
  · obtain ⟨n, x, y, rfl, hn, q⟩ := h
    refine ⟨_, (pss_one (ps_ret (pe_call (ok_added_in T) (hr.mono (by decide)) (by rfl) T.added_in.g T.added_in.F.kp T.added_in.b .nil pass0 (pa_cons (pv 0) (pa_cons (pv 1) (pa_cons (pe_op op_sub (pe_op op_sub (pe_op op_oneShl pe_int (pv 0)) pe_int) (pv 2)) (pa_cons pe_int pa_nil))))))), ?_⟩
    exact ⟨_, rfl, _, rfl, _, rfl, n, rfl, rfl, by omega, _, _, rfl, rfl, _, rfl, _, _, rfl, rfl, n, _, _, _, rfl, hn, q⟩
def sp_cut_in (K : PySem.W.Frag) : Sp := fun vs H Q _ => ∃ (x : Int) (k m : Nat), vs = [.int x, .int k, .int m] ∧ m ≤ 1000 ∧ Q (.int (x / 2 ^ k % 2 ^ m)) H
theorem ok_cut_in (T : Txt K mg) : FnOk P w K mg base CX0 1 T.cut_in.f T.cut_in.fd ["word", "low", "many"] (sp_cut_in K) := by
  refine T.cut_in.F.ok sc_cut_in (fun vs H Q E h => ?_) (fun cdv A outer s H vs Q E hr h => ?_)
  · obtain ⟨x, k, m, rfl, _⟩ := h
    rfl
  · obtain ⟨x, k, m, rfl, hm, q⟩ := h
    refine ⟨_, (pss_one (ps_ret (pe_op op_mod (pe_op op_shrN (pv 0) (pv 1)) (pe_op op_oneShl pe_int (pv 2))))), ?_⟩
    exact ⟨_, rfl, _, rfl, x, k, rfl, rfl, _, rfl, m, rfl, rfl, by omega, _, _, rfl, rfl, two_pos m, q⟩
def sp_carries (K : PySem.W.Frag) : Sp := fun vs H Q _ => ∃ (n : Nat) (x y c : Int), vs = [.int n, .int x, .int y, .int c] ∧ 1 ≤ n ∧ n ≤ 32 ∧ 0 ≤ x ∧ x < 2 ^ n ∧ 0 ≤ y ∧ y < 2 ^ n ∧ 0 ≤ c ∧ c ≤ 1 ∧ NewT K ((cars n x y c).map V.int) H Q
theorem ok_carries (T : Txt K mg) : FnOk P w K mg base CX0 7 T.carries.f T.carries.fd ["width", "one", "other", "first"] (sp_carries K) := by
  refine T.carries.F.ok sc_carries (fun vs H Q E h => ?_) (fun cdv A outer s H vs Q E hr h => ?_)
  · obtain ⟨n, x, y, c, rfl, _⟩ := h
    rfl
  · obtain ⟨n, x, y, c, rfl, h1, h2, h3, h4, h5, h6, h7, h8, q⟩ := h
    refine ⟨_, (pss_cons (ps_expr (pe_call (ok_require_two_words T) (hr.mono (by decide)) (by rfl) T.require_two_words.g T.require_two_words.F.kp T.require_two_words.b .nil pass0 (pa_cons (pv 0) (pa_cons (pv 1) (pa_cons (pv 2) pa_nil))))) 
      (pss_cons (ps_expr (pe_call (ok_require_bit T) (hr.mono (by decide)) (by rfl) T.require_bit.g T.require_bit.F.kp T.require_bit.b .nil pass0 (pa_cons (pv 3) pa_nil))) 
      (pss_one (ps_ret (pe_call (ok_carries_in T) (hr.mono (by decide)) (by rfl) T.carries_in.g T.carries_in.F.kp T.carries_in.b .nil pass0 (pa_cons (pv 0) (pa_cons (pv 1) (pa_cons (pv 2) (pa_cons (pv 3) pa_nil))))))))), ?_⟩
    refine ⟨_, rfl, _, rfl, _, rfl, n, x, y, rfl, h1, h2, h3, h4, h5, h6, _, rfl, c, rfl, h7, h8, ?_⟩
    exact ⟨_, rfl, _, rfl, _, rfl, _, rfl, n, x, y, c, rfl, by omega, h7, h8, q⟩
def sp_added (K : PySem.W.Frag) : Sp := fun vs H Q _ => ∃ (n : Nat) (x y c : Int), vs = [.int n, .int x, .int y, .int c] ∧ 1 ≤ n ∧ n ≤ 32 ∧ 0 ≤ x ∧ x < 2 ^ n ∧ 0 ≤ y ∧ y < 2 ^ n ∧ 0 ≤ c ∧ c ≤ 1 ∧ NewT K [.int ((x + y + c) % 2 ^ n), .int ((x + y + c) / 2 ^ n)] H Q
theorem ok_added (T : Txt K mg) : FnOk P w K mg base CX0 7 T.added.f T.added.fd ["width", "one", "other", "first"] (sp_added K) := by
  refine T.added.F.ok sc_added (fun vs H Q E h => ?_) (fun cdv A outer s H vs Q E hr h => ?_)
  · obtain ⟨n, x, y, c, rfl, _⟩ := h
    rfl
  · obtain ⟨n, x, y, c, rfl, h1, h2, h3, h4, h5, h6, h7, h8, q⟩ := h
    refine ⟨_, (pss_cons (ps_expr (pe_call (ok_require_two_words T) (hr.mono (by decide)) (by rfl) T.require_two_words.g T.require_two_words.F.kp T.require_two_words.b .nil pass0 (pa_cons (pv 0) (pa_cons (pv 1) (pa_cons (pv 2) pa_nil))))) 
      (pss_cons (ps_expr (pe_call (ok_require_bit T) (hr.mono (by decide)) (by rfl) T.require_bit.g T.require_bit.F.kp T.require_bit.b .nil pass0 (pa_cons (pv 3) pa_nil))) 
      (pss_one (ps_ret (pe_call (ok_added_in T) (hr.mono (by decide)) (by rfl) T.added_in.g T.added_in.F.kp T.added_in.b .nil pass0 (pa_cons (pv 0) (pa_cons (pv 1) (pa_cons (pv 2) (pa_cons (pv 3) pa_nil))))))))), ?_⟩
    refine ⟨_, rfl, _, rfl, _, rfl, n, x, y, rfl, h1, h2, h3, h4, h5, h6, _, rfl, c, rfl, h7, h8, ?_⟩
    exact ⟨_, rfl, _, rfl, _, rfl, _, rfl, n, x, y, c, rfl, by omega, q⟩
def sp_lessened (K : PySem.W.Frag) : Sp := fun vs H Q _ => ∃ (n : Nat) (x y : Int), vs = [.int n, .int x, .int y] ∧ 1 ≤ n ∧ n ≤ 32 ∧ 0 ≤ x ∧ x < 2 ^ n ∧ 0 ≤ y ∧ y < 2 ^ n ∧ NewT K [.int ((x - y) % 2 ^ n), .int (if y ≤ x then 1 else 0)] H Q
theorem ok_lessened (T : Txt K mg) : FnOk P w K mg base CX0 7 T.lessened.f T.lessened.fd ["width", "one", "other"] (sp_lessened K) := by
  refine T.lessened.F.ok sc_lessened (fun vs H Q E h => ?_) (fun cdv A outer s H vs Q E hr h => ?_)
  · obtain ⟨n, x, y, rfl, _⟩ := h
    rfl
  · obtain ⟨n, x, y, rfl, h1, h2, h3, h4, h5, h6, q⟩ := h
    have e := less_sum h3 h4 h5 h6
    rw [← e.1, ← e.2] at q
    refine ⟨_, (pss_cons (ps_expr (pe_call (ok_require_two_words T) (hr.mono (by decide)) (by rfl) T.require_two_words.g T.require_two_words.F.kp T.require_two_words.b .nil pass0 (pa_cons (pv 0) (pa_cons (pv 1) (pa_cons (pv 2) pa_nil))))) 
      (pss_one (ps_ret (pe_call (ok_lessened_in T) (hr.mono (by decide)) (by rfl) T.lessened_in.g T.lessened_in.F.kp T.lessened_in.b .nil pass0 (pa_cons (pv 0) (pa_cons (pv 1) (pa_cons (pv 2) pa_nil))))))), ?_⟩
    refine ⟨_, rfl, _, rfl, _, rfl, n, x, y, rfl, h1, h2, h3, h4, h5, h6, ?_⟩
    exact ⟨_, rfl, _, rfl, _, rfl, n, x, y, rfl, by omega, q⟩
def sp_is_below (K : PySem.W.Frag) : Sp := fun vs H Q _ => ∃ (n : Nat) (x y : Int), vs = [.int n, .int x, .int y] ∧ 1 ≤ n ∧ n ≤ 32 ∧ 0 ≤ x ∧ x < 2 ^ n ∧ 0 ≤ y ∧ y < 2 ^ n ∧ Q (.bl (decide (x < y))) H
theorem ok_is_below (T : Txt K mg) : FnOk P w K mg base CX0 7 T.is_below.f T.is_below.fd ["width", "one", "other"] (sp_is_below K) := by
  refine T.is_below.F.ok sc_is_below (fun vs H Q E h => ?_) (fun cdv A outer s H vs Q E hr h => ?_)
  · obtain ⟨n, x, y, rfl, _⟩ := h
    rfl
  · obtain ⟨n, x, y, rfl, h1, h2, h3, h4, h5, h6, q⟩ := h
    refine ⟨_, (pss_cons (ps_expr (pe_call (ok_require_two_words T) (hr.mono (by decide)) (by rfl) T.require_two_words.g T.require_two_words.F.kp T.require_two_words.b .nil pass0 (pa_cons (pv 0) (pa_cons (pv 1) (pa_cons (pv 2) pa_nil))))) 
      (pss_one (ps_ret (pe_cmpR op_lt (pv 1) (pv 2) (nomark _))))), ?_⟩
    exact ⟨_, rfl, _, rfl, _, rfl, n, x, y, rfl, h1, h2, h3, h4, h5, h6, _, rfl, _, rfl, x, y, rfl, rfl, q⟩
def sp_is_under (K : PySem.W.Frag) : Sp := fun vs H Q _ => ∃ (n : Nat) (x y : Int), vs = [.int n, .int x, .int y] ∧ 1 ≤ n ∧ n ≤ 32 ∧ 0 ≤ x ∧ x < 2 ^ n ∧ 0 ≤ y ∧ y < 2 ^ n ∧ Q (.bl (decide (sgn n x < sgn n y))) H
theorem ok_is_under (T : Txt K mg) : FnOk P w K mg base CX0 7 T.is_under.f T.is_under.fd ["width", "one", "other"] (sp_is_under K) := by
  refine T.is_under.F.ok sc_is_under (fun vs H Q E h => ?_) (fun cdv A outer s H vs Q E hr h => ?_)
  · obtain ⟨n, x, y, rfl, _⟩ := h
    rfl
  · obtain ⟨n, x, y, rfl, h1, h2, h3, h4, h5, h6, q⟩ := h
    refine ⟨_, (pss_cons (ps_expr (pe_call (ok_require_two_words T) (hr.mono (by decide)) (by rfl) T.require_two_words.g T.require_two_words.F.kp T.require_two_words.b .nil pass0 (pa_cons (pv 0) (pa_cons (pv 1) (pa_cons (pv 2) pa_nil))))) 
      (pss_one (ps_ret (pe_cmpR op_lt (pe_call (ok_signed_in T) (hr.mono (by decide)) (by rfl) T.signed_in.g T.signed_in.F.kp T.signed_in.b .nil pass0 (pa_cons (pv 0) (pa_cons (pv 1) pa_nil))) (pe_call (ok_signed_in T) (hr.mono (by decide)) (by rfl) T.signed_in.g T.signed_in.F.kp T.signed_in.b .nil pass0 (pa_cons (pv 0) (pa_cons (pv 2) pa_nil))) (nomark _))))), ?_⟩
    exact ⟨_, rfl, _, rfl, _, rfl, n, x, y, rfl, h1, h2, h3, h4, h5, h6, _, rfl, _, rfl, n, x, rfl, h1, by omega, _, rfl, _, rfl, n, y, rfl, h1, by omega, _, _, rfl, rfl, q⟩
def sp_cut (K : PySem.W.Frag) : Sp := fun vs H Q _ => ∃ (n : Nat) (x : Int) (k m : Nat), vs = [.int n, .int x, .int k, .int m] ∧ 1 ≤ n ∧ n ≤ 32 ∧ 0 ≤ x ∧ x < 2 ^ n ∧ 1 ≤ m ∧ k + m ≤ n ∧ Q (.int (x / 2 ^ k % 2 ^ m)) H
theorem ok_cut (T : Txt K mg) : FnOk P w K mg base CX0 6 T.cut.f T.cut.fd ["width", "word", "low", "many"] (sp_cut K) := by
  refine T.cut.F.ok sc_cut (fun vs H Q E h => ?_) (fun cdv A outer s H vs Q E hr h => ?_)
  · obtain ⟨n, x, k, m, rfl, _⟩ := h
    rfl
  · obtain ⟨n, x, k, m, rfl, h1, h2, h3, h4, h5, h6, q⟩ := h
    refine ⟨_, (pss_cons (ps_expr (pe_call (ok_require_one_word T) (hr.mono (by decide)) (by rfl) T.require_one_word.g T.require_one_word.F.kp T.require_one_word.b .nil pass0 (pa_cons (pv 0) (pa_cons (pv 1) pa_nil)))) 
      (pss_cons (ps_expr (pe_call (ok_require_within T) (hr.mono (by decide)) (by rfl) T.require_within.g T.require_within.F.kp T.require_within.b .nil pass0 (pa_cons (pv 2) (pa_cons pe_int (pa_cons (pe_op op_sub (pv 0) pe_int) pa_nil))))) 
      (pss_cons (ps_expr (pe_call (ok_require_within T) (hr.mono (by decide)) (by rfl) T.require_within.g T.require_within.F.kp T.require_within.b .nil pass0 (pa_cons (pv 3) (pa_cons pe_int (pa_cons (pe_op op_sub (pv 0) (pv 2)) pa_nil))))) 
      (pss_one (ps_ret (pe_call (ok_cut_in T) (hr.mono (by decide)) (by rfl) T.cut_in.g T.cut_in.F.kp T.cut_in.b .nil pass0 (pa_cons (pv 1) (pa_cons (pv 2) (pa_cons (pv 3) pa_nil))))))))), ?_⟩
    refine ⟨_, rfl, _, rfl, n, x, rfl, h1, h2, h3, h4, ?_⟩
    refine ⟨_, rfl, _, rfl, _, _, rfl, rfl, k, 0, _, rfl, by omega, by omega, ?_⟩
    refine ⟨_, rfl, _, rfl, _, rfl, _, _, rfl, rfl, m, 1, _, rfl, by omega, by omega, ?_⟩
    exact ⟨_, rfl, _, rfl, _, rfl, x, k, m, rfl, by omega, q⟩
end
end TB
namespace TB
open PySem PySem.Spec PyProof.Rows L2
section
variable {P : Program} {w : World} {K : PySem.W.Frag} {mg : Str → Option Value} {base : Heap}
def sp__law_dice (K : PySem.W.Frag) : Sp := fun vs H Q _ => ∃ (a : Addr) (ns : List Int) (i : Nat), vs = [.ref a, .int i] ∧ SqL K H a (ns.map V.int) ∧ ∀ x y z : Int, NewL [.int x, .int y, .int z] H Q
theorem ok__law_dice (T : Txt K mg) : FnOk P w K mg base CX0 1 T._law_dice.f T._law_dice.fd ["_law_script", "_law_at"] (sp__law_dice K) := by
  refine T._law_dice.F.ok sc__law_dice (fun vs H Q E h => ?_) (fun cdv A outer s H vs Q E hr h => ?_)
  · obtain ⟨a, ns, i, rfl, _⟩ := h
    rfl
  · obtain ⟨a, ns, i, rfl, hS, q⟩ := h
    refine ⟨_, (pss_cons (ps_set (i := 2) sc__law_dice.nd rfl (.inl rfl) (pe_op op_add (pe_op op_mul pe_int (pv 1)) pe_int)) 
      (pss_cons (ps_if (pt_cmpR op_lt (pv 1) (pe_callB call_len_seq (by rfl) T.z_len PySem.boot_len (pa_cons (pv 0) pa_nil)) (nomark _)) 
        (pss_one (ps_set (i := 2) sc__law_dice.nd rfl (.inl rfl) (pe_ix ix_list (pv 0) (pv 1) (fun _ _ => rfl)))) pss_nil) 
      (pss_cons (ps_set (i := 3) sc__law_dice.nd rfl (.inl rfl) (pe_op op_mod (pe_callTy call_int1 (by rfl) T.z_int (by decide +kernel) (pa_cons (pe_callB call_abs (by rfl) T.z_abs (by decide +kernel) (pa_cons (pv 2) pa_nil)) pa_nil)) (pe_op op_powW (pe_op op_pow pe_int pe_int) pe_int))) 
      (pss_cons (ps_set (i := 4) sc__law_dice.nd rfl (.inl rfl) (pe_op op_fdivW (pv 3) (pe_op op_pow pe_int pe_int))) 
      (pss_cons (ps_set (i := 5) sc__law_dice.nd rfl (.inl rfl) (pe_op op_add (pe_op op_add (pe_op op_add (pe_op op_mul (pe_op op_mod (pv 3) pe_int) pe_int) (pe_op op_mul pe_int (pv 1))) (pe_op op_mul pe_int (pe_callTy call_int1 (by rfl) T.z_int (by decide +kernel) (pa_cons (pe_cmpR op_lt (pv 2) pe_int (nomark _)) pa_nil)))) pe_int)) 
      (pss_one (ps_ret (pe_lstA (pa_cons (pv 4) (pa_cons (pe_op op_mod (pv 5) pe_int) (pa_cons pe_int pa_nil))))))))))), ?_⟩
    refine ⟨_, rfl, 127, i, rfl, rfl, .inl (by decide), _, _, rfl, rfl, ?_⟩
    refine ⟨_, rfl, _, rfl, a, _, rfl, .inl hS, _, _, rfl, rfl, _, rfl, ite3 (fun e => ?_) (fun e => ?_)⟩
    · have hi : i < ns.length := by
        have := of_decide_eq_true e
        rw [List.length_map] at this
        omega
      refine ⟨_, rfl, _, rfl, a, _, i, .int ns[i], rfl, rfl, hS, atI_nat (by rw [List.getElem?_map, List.getElem?_eq_getElem hi]; rfl), ?_⟩
      refine ⟨_, rfl, _, rfl, .inl ⟨_, rfl, _, _, rfl, rfl, ⟨by decide, by decide, by decide⟩, _, _, rfl, rfl, ⟨by decide, by decide⟩, _, _, rfl, rfl, (show (0 : Int) < (10 ^ 62) ^ 10 by decide +kernel), ?_⟩⟩
      refine ⟨_, rfl, 10, 18, rfl, rfl, ⟨by decide, by decide, by decide⟩, _, _, rfl, rfl, ⟨by decide, by decide⟩, ?_⟩
      refine ⟨_, rfl, _, _, rfl, rfl, p0, _, _, rfl, rfl, cmulR, _, rfl, _, _, rfl, rfl, cmulL, _, _, rfl, rfl, _, rfl, _, _, rfl, rfl, .inr ⟨_, rfl, _, _, rfl, rfl, cmulL, _, _, rfl, rfl, _, _, rfl, rfl, ?_⟩⟩
      exact ⟨_, rfl, _, rfl, _, _, rfl, rfl, p0, sz, q _ _ _⟩
    · refine ⟨_, rfl, _, rfl, .inl ⟨_, rfl, _, _, rfl, rfl, ⟨by decide, by decide, by decide⟩, _, _, rfl, rfl, ⟨by decide, by decide⟩, _, _, rfl, rfl, (show (0 : Int) < (10 ^ 62) ^ 10 by decide +kernel), ?_⟩⟩
      refine ⟨_, rfl, 10, 18, rfl, rfl, ⟨by decide, by decide, by decide⟩, _, _, rfl, rfl, ⟨by decide, by decide⟩, ?_⟩
      refine ⟨_, rfl, _, _, rfl, rfl, p0, _, _, rfl, rfl, cmulR, _, rfl, _, _, rfl, rfl, cmulL, _, _, rfl, rfl, _, rfl, _, _, rfl, rfl, .inr ⟨_, rfl, _, _, rfl, rfl, cmulL, _, _, rfl, rfl, _, _, rfl, rfl, ?_⟩⟩
      exact ⟨_, rfl, _, rfl, _, _, rfl, rfl, p0, sz, q _ _ _⟩
def sp__law_roll (K : PySem.W.Frag) : Sp := fun vs H Q _ => ∃ (d : Addr) (n : Int), vs = [.ref d, .int n] ∧ Dice H d ∧ 0 < n ∧ n ≤ 2 ^ 64 ∧ ∀ r H', 0 ≤ r → r < n → Ext d H H' → Q (.int r) H'
theorem ok__law_roll (T : Txt K mg) : FnOk P w K mg base CX0 1 T._law_roll.f T._law_roll.fd ["_law_dice_here", "_law_total"] (sp__law_roll K) := by
  refine T._law_roll.F.ok sc__law_roll (fun vs H Q E h => ?_) (fun cdv A outer s H vs Q E hr h => ?_)
  · obtain ⟨d, n, rfl, _⟩ := h
    rfl
  · obtain ⟨d, n, rfl, ⟨x, y, z, hd⟩, h0, h1, q⟩ := h
    have sz : sizeLine = 16777216 := sizeLine_eq
    have f0 : ∀ {x y z : Int}, atI [V.int x, V.int y, V.int z] 0 = some (.int x) := rfl
    have f1 : ∀ {x y z : Int}, atI [V.int x, V.int y, V.int z] 1 = some (.int y) := rfl
    have f2 : ∀ {x y z : Int}, atI [V.int x, V.int y, V.int z] 2 = some (.int z) := rfl
    refine ⟨_, (pss_cons (ps_set (i := 2) sc__law_roll.nd rfl (.inl rfl) (pe_callTy call_int1 (by rfl) T.z_int (by decide +kernel) (pa_cons (pv 1) pa_nil))) 
      (pss_cons (ps_if (pt_cmpR op_gt (pe_ix ix_list (pv 0) pe_int (fun _ _ => rfl)) pe_int (nomark _)) 
        (pss_cons (ps_set (i := 3) sc__law_roll.nd rfl (.inl rfl) (pe_op op_mod (pe_ix ix_list (pv 0) pe_int (fun _ _ => rfl)) (pv 2))) 
        (pss_cons (ps_asg (pe_op op_fdivW (pe_ix ix_list (pv 0) pe_int (fun _ _ => rfl)) (pv 2)) (pg_sub (pv 0) pe_int set_list)) 
        (pss_one (ps_ret (pe_callTy call_int1 (by rfl) T.z_int (by decide +kernel) (pa_cons (pv 3) pa_nil)))))) pss_nil) 
      (pss_cons (ps_asg (pe_op op_add (pe_ix ix_list (pv 0) pe_int (fun _ _ => rfl)) pe_int) (pg_sub (pv 0) pe_int set_list)) 
      (pss_cons (ps_set (i := 4) sc__law_roll.nd rfl (.inl rfl) (pe_op op_mod (pe_op op_add (pe_ix ix_list (pv 0) pe_int (fun _ _ => rfl)) (pe_op op_mul pe_int (pe_ix ix_list (pv 0) pe_int (fun _ _ => rfl)))) pe_int)) 
      (pss_cons (ps_set (i := 5) sc__law_roll.nd rfl (.inl rfl) (pe_op op_add (pe_op op_mul (pe_op op_mod (pe_op op_mul (pv 4) (pv 4)) pe_int) (pv 4)) (pe_op op_mul pe_int (pe_ix ix_list (pv 0) pe_int (fun _ _ => rfl))))) 
      (pss_cons (ps_set (i := 5) sc__law_roll.nd rfl (.inl rfl) (pe_op op_mod (pv 5) pe_int)) 
      (pss_one (ps_ret (pe_callTy call_int1 (by rfl) T.z_int (by decide +kernel) (pa_cons (pe_op op_mod (pe_op op_fdiv (pv 5) pe_int) (pv 2)) pa_nil)))))))))), ?_⟩
    refine ⟨_, rfl, .inl ⟨_, rfl, ?_⟩⟩
    refine ⟨_, rfl, d, _, 0, _, rfl, rfl, SqL.of hd, f0, x, 0, rfl, rfl, _, rfl, ite3 (fun e => ?_) (fun e => ?_)⟩
    · have hw : CDivW x n := wide_div (b := 65) h0 (by omega) (by decide) (by decide)
      refine ⟨_, rfl, d, _, 0, _, rfl, rfl, SqL.of hd, f0, _, rfl, _, _, rfl, rfl, h0, ?_⟩
      refine ⟨_, rfl, d, _, 0, _, rfl, rfl, SqL.of hd, f0, _, rfl, _, _, rfl, rfl, hw, _, rfl, d, _, 0, 0, rfl, rfl, hd, rfl, ?_⟩
      exact ⟨_, rfl, .inl ⟨_, rfl, q _ _ (Int.emod_nonneg _ (by omega)) (Int.emod_lt_of_pos _ h0) Ext.roll⟩⟩
    · refine ⟨_, rfl, d, _, 2, _, rfl, rfl, SqL.of hd, f2, _, _, rfl, rfl, _, rfl, d, _, 2, 2, rfl, rfl, hd, rfl, ?_⟩
      have h2 : (upd H d (dl x y (z + 1))) d = some (dl x y (z + 1)) := upd_same
      refine ⟨_, rfl, d, _, 1, _, rfl, rfl, SqL.of h2, f1, _, rfl, d, _, 2, _, rfl, rfl, SqL.of h2, f2, 1000427, _, rfl, rfl, .inl (by decide), _, _, rfl, rfl, _, _, rfl, rfl, p0, ?_⟩
      have m0 := Int.emod_nonneg (y + 1000427 * (z + 1)) (by decide : (2305843009213693951 : Int) ≠ 0)
      have m1 := Int.emod_lt_of_pos (y + 1000427 * (z + 1)) (by decide : (0 : Int) < 2305843009213693951)
      refine ⟨_, rfl, _, rfl, _, _, rfl, rfl, .inl ⟨by omega, by omega⟩, _, _, rfl, rfl, p0, _, rfl, _, _, rfl, rfl, .inr ⟨by omega, by omega⟩, _, rfl, d, _, 2, _, rfl, rfl, SqL.of h2, f2, 9539, _, rfl, rfl, .inl (by decide), _, _, rfl, rfl, ?_⟩
      refine ⟨_, rfl, _, _, rfl, rfl, p0, ?_⟩
      exact ⟨_, rfl, _, _, rfl, rfl, cdiv, _, rfl, _, _, rfl, rfl, h0, .inl ⟨_, rfl, q _ _ (Int.emod_nonneg _ (by omega)) (Int.emod_lt_of_pos _ h0) Ext.roll⟩⟩
def sp__law_one_of (K : PySem.W.Frag) : Sp := fun vs H Q _ => ∃ (d a : Addr) (xs : List V), vs = [.ref d, .ref a] ∧ Dice H d ∧ a ≠ d ∧ H a = some (.lst xs) ∧ 0 < xs.length ∧ xs.length ≤ 100000 ∧ ∀ v H', v ∈ xs → Ext d H H' → Q v H'
theorem ok__law_one_of (T : Txt K mg) : FnOk P w K mg base CX0 2 T._law_one_of.f T._law_one_of.fd ["_law_dice_here", "_law_items"] (sp__law_one_of K) := by
  refine T._law_one_of.F.ok sc__law_one_of (fun vs H Q E h => ?_) (fun cdv A outer s H vs Q E hr h => ?_)
  · obtain ⟨d, a, xs, rfl, _⟩ := h
    rfl
  · obtain ⟨d, a, xs, rfl, hd, na, ha, h0, h1, q⟩ := h
    refine ⟨_, (pss_one (ps_ret (pe_ix ix_list (pv 1) (pe_call (ok__law_roll T) (hr.mono (by decide)) (by rfl) T._law_roll.g T._law_roll.F.kp T._law_roll.b .nil pass0 (pa_cons (pv 0) (pa_cons (pe_callB call_len_seq (by rfl) T.z_len PySem.boot_len (pa_cons (pv 1) pa_nil)) pa_nil))) (fun _ _ => rfl)))), ?_⟩
    refine ⟨_, rfl, _, rfl, _, rfl, a, _, rfl, .inl (SqL.of ha), d, xs.length, rfl, hd, by omega, by omega, fun r H1 r0 r1 x1 => ?_⟩
    have hi : r.toNat < xs.length := by omega
    have e : xs[r.toNat]? = some xs[r.toNat] := List.getElem?_eq_getElem hi
    exact ⟨a, xs, r, xs[r.toNat], rfl, rfl, SqL.of (x1.s _ _ na ha), at_of (by omega) e, q _ _ (List.getElem_mem hi) x1⟩
def sp__law_two_to (K : PySem.W.Frag) : Sp := fun vs H Q _ => ∃ n : Nat, vs = [.int n] ∧ n ≤ 1000000 ∧ Q (.int (2 ^ n)) H
theorem ok__law_two_to (T : Txt K mg) : FnOk P w K mg base CX0 1 T._law_two_to.f T._law_two_to.fd ["_law_bits_here"] (sp__law_two_to K) := by
  refine T._law_two_to.F.ok sc__law_two_to (fun vs H Q E h => ?_) (fun cdv A outer s H vs Q E hr h => ?_)
  · obtain ⟨n, rfl, _⟩ := h
    rfl
  · obtain ⟨n, rfl, hn, q⟩ := h
    refine ⟨_, (pss_cons (ps_set (i := 1) sc__law_two_to.nd rfl (.inl rfl) pe_int) 
      (pss_cons (ps_for PassesOwn.never rfl (pi_range1 (by rfl) T.z_range (pa_cons (pv 0) pa_nil)) (pg_name (i := 2) sc__law_two_to.nd rfl (.inl rfl)) 
        (pss_one (ps_set (i := 1) sc__law_two_to.nd rfl (.inl rfl) (pe_op op_mul pe_int (pv 1))))) 
      (pss_one (ps_ret (pv 1))))), ?_⟩
    refine ⟨_, rfl, _, rfl, by omega, by omega, for_rangeN (n := n) (fun i σ H' => ∃ y, σ = [some (.int n), some (.int (2 ^ i)), y] ∧ H' = H) ⟨none, rfl, rfl⟩ ?_ ?_⟩
    · rintro i σ H' hi ⟨y, rfl, rfl⟩
      exact ⟨_, rfl, 2, _, rfl, rfl, .inl (by decide), _, by rw [two_succ]; rfl, rfl⟩
    · rintro σ H' ⟨y, rfl, rfl⟩
      exact ⟨_, rfl, q⟩
def sp__law_word_drawn (K : PySem.W.Frag) : Sp := fun vs H Q _ => ∃ (d : Addr) (n : Nat), vs = [.ref d, .int n] ∧ Dice H d ∧ 1 ≤ n ∧ n ≤ 32 ∧ ∀ r H', 0 ≤ r → r < 2 ^ n → Ext d H H' → Q (.int r) H'
theorem ok__law_word_drawn (T : Txt K mg) : FnOk P w K mg base CX0 3 T._law_word_drawn.f T._law_word_drawn.fd ["_law_dice_here", "_law_width"] (sp__law_word_drawn K) := by
  refine T._law_word_drawn.F.ok sc__law_word_drawn (fun vs H Q E h => ?_) (fun cdv A outer s H vs Q E hr h => ?_)
  · obtain ⟨d, n, rfl, _⟩ := h
    rfl
  · obtain ⟨d, n, rfl, hd, h1, h2, q⟩ := h
    have hb := two32 h2
    have h0 : (2 : Int) ≤ 2 ^ n := two_mono (a := 1) h1
    refine ⟨_, (pss_cons (ps_set (i := 2) sc__law_word_drawn.nd rfl (.inl rfl) (pe_call (ok__law_two_to T) (hr.mono (by decide)) (by rfl) T._law_two_to.g T._law_two_to.F.kp T._law_two_to.b .nil pass0 (pa_cons (pv 1) pa_nil))) 
      (pss_cons (ps_if (pt_cmpR op_eq (pe_call (ok__law_roll T) (hr.mono (by decide)) (by rfl) T._law_roll.g T._law_roll.F.kp T._law_roll.b .nil pass0 (pa_cons (pv 0) (pa_cons pe_int pa_nil))) pe_int (nomark _)) 
        (pss_one (ps_ret (pe_call (ok__law_one_of T) (hr.mono (by decide)) (by rfl) T._law_one_of.g T._law_one_of.F.kp T._law_one_of.b .nil pass0 (pa_cons (pv 0) (pa_cons (pe_lstA (pa_cons pe_int (pa_cons pe_int (pa_cons (pe_op op_sub (pv 2) pe_int) (pa_cons (pe_op op_fdiv (pv 2) pe_int) (pa_cons (pe_op op_sub (pe_op op_fdiv (pv 2) pe_int) pe_int) pa_nil)))))) pa_nil))))) pss_nil) 
      (pss_one (ps_ret (pe_call (ok__law_roll T) (hr.mono (by decide)) (by rfl) T._law_roll.g T._law_roll.F.kp T._law_roll.b .nil pass0 (pa_cons (pv 0) (pa_cons (pv 2) pa_nil))))))), ?_⟩
    refine ⟨_, rfl, n, rfl, by omega, ?_⟩
    refine ⟨_, rfl, d, 2, rfl, hd, by decide, by decide, fun r H1 r0 r1 x1 => ⟨rfl, _, rfl, ite3 (fun e => ?_) (fun e => ?_)⟩⟩
    · refine ⟨_, rfl, _, rfl, _, _, rfl, rfl, _, rfl, _, _, rfl, rfl, cdiv, _, rfl, _, _, rfl, rfl, cdiv, _, _, rfl, rfl, sz, fun p H2 s2 e2 np => ?_⟩
      have x2 := x1.same s2
      refine ⟨d, p, _, rfl, x2.d, x1.d.ne np, e2, by show 0 < 5; decide, by show 5 ≤ 100000; decide, fun v H3 hv x3 => ?_⟩
      simp only [List.mem_cons, List.not_mem_nil, or_false] at hv
      rcases hv with rfl | rfl | rfl | rfl | rfl <;> exact q _ _ (by omega) (by omega) (x2.trans x3)
    · exact ⟨_, rfl, _, rfl, d, _, rfl, x1.d, by omega, by omega, fun r H2 r0 r1 x2 => q _ _ r0 r1 (x1.trans x2)⟩
def sp__law_bits (K : PySem.W.Frag) : Sp := fun vs H Q _ => ∃ (n : Nat) (x : Int), vs = [.int n, .int x] ∧ n ≤ 100000 ∧ NewL ((bitsI n x).map V.int) H Q
theorem ok__law_bits (T : Txt K mg) : FnOk P w K mg base CX0 1 T._law_bits.f T._law_bits.fd ["_law_width", "_law_word"] (sp__law_bits K) := by
  refine T._law_bits.F.ok sc__law_bits (fun vs H Q E h => ?_) (fun cdv A outer s H vs Q E hr h => ?_)
  · obtain ⟨n, x, rfl, _⟩ := h
    rfl
  · obtain ⟨n, x, rfl, hn, q⟩ := h
    refine ⟨_, (pss_cons (ps_par (i := 2) (j := 3) rfl sc__law_bits.nd rfl rfl (by decide) rfl rfl (pa_cons (pe_lstA pa_nil) (pa_cons (pv 1) pa_nil)) (by rfl)) 
      (pss_cons (ps_for PassesOwn.never rfl (pi_range1 (by rfl) T.z_range (pa_cons (pv 0) pa_nil)) (pg_name (i := 4) sc__law_bits.nd rfl (.inl rfl)) 
        (pss_cons (ps_expr (pe_bm PySem.F.plainAttrs_list PySem.F.slot_list_append PySem.F.type_list_append mt_append (pv 2) (pa_cons (pe_op op_mod (pv 3) pe_int) pa_nil))) 
        (pss_one (ps_set (i := 3) sc__law_bits.nd rfl (.inl rfl) (pe_op op_fdiv (pv 3) pe_int))))) 
      (pss_one (ps_ret (pv 2))))), ?_⟩
    refine ⟨Nat.zero_le _, fun p H1 s1 e1 np => ⟨_, rfl, _, _, rfl, ?_⟩⟩
    refine ⟨_, rfl, _, rfl, by omega, by omega, for_rangeN (n := n) (fun i σ H' => ∃ y, σ = [some (.int n), some (.int x), some (.ref p), some (.int (x / 2 ^ i)), y] ∧ But p H1 H' ∧ H' p = some (.lst ((bitsI i x).map V.int))) ⟨none, by rw [Int.pow_zero, Int.ediv_one]; rfl, But.refl _ _, e1⟩ ?_ ?_⟩
    · rintro i σ H' hi ⟨y, rfl, b, e⟩
      refine ⟨_, rfl, .inl ⟨rfl, _, SqL.of e⟩, _, rfl, _, _, rfl, rfl, p0, p, _, _, rfl, rfl, e, ?_, ?_⟩
      · rw [List.length_map, bitsI_length, sizeLine_eq]
        omega
      · refine ⟨_, rfl, _, _, rfl, rfl, cdiv, some (.int i), ?_, b.trans But.mut, ?_⟩
        · rw [show (2 : Int) ^ (i + 1) = 2 ^ i * 2 from Int.pow_succ 2 i, ← Int.ediv_ediv_of_nonneg (Int.le_of_lt (two_pos i))]
          rfl
        · rw [upd_same, bitsI_snoc, List.map_append]
          rfl
    · rintro σ H' ⟨y, rfl, b, e⟩
      exact ⟨_, rfl, q p H' (Same.back np s1 b) e np⟩
def sp__law_of_bits (K : PySem.W.Frag) : Sp := fun vs H Q _ => ∃ (a : Addr) (bs : List Int), vs = [.ref a] ∧ (SqL K H a (bs.map V.int) ∨ SqT K H a (bs.map V.int)) ∧ ∀ H', Same H H' → Q (.int (ofBits bs)) H'
theorem ok__law_of_bits (T : Txt K mg) : FnOk P w K mg base CX0 1 T._law_of_bits.f T._law_of_bits.fd ["_law_bits_here"] (sp__law_of_bits K) := by
  refine T._law_of_bits.F.ok sc__law_of_bits (fun vs H Q E h => ?_) (fun cdv A outer s H vs Q E hr h => ?_)
  · obtain ⟨a, bs, rfl, _⟩ := h
    rfl
  · obtain ⟨a, bs, rfl, hS, q⟩ := h
    refine ⟨_, (pss_cons (ps_set (i := 1) sc__law_of_bits.nd rfl (.inl rfl) pe_int) 
      (pss_cons (ps_for PassesOwn.never rfl (pi_list (pe_revLA (pe_callTy call_listA (by rfl) T.z_list (by decide +kernel) (pa_cons (pv 0) pa_nil)))) (pg_name (i := 2) sc__law_of_bits.nd rfl (.inl rfl)) 
        (pss_one (ps_set (i := 1) sc__law_of_bits.nd rfl (.inl rfl) (pe_op op_add (pe_op op_mul pe_int (pv 1)) (pv 2))))) 
      (pss_one (ps_ret (pv 1))))), ?_⟩
    refine ⟨_, rfl, a, _, rfl, hS, fun l H1 s1 e1 _ => ⟨l, _, rfl, SqL.of e1, fun p H2 s2 e2 _ => ?_⟩⟩
    refine ⟨p, rfl, ⟨_, SqL.of e2⟩, for_list (K := K) (a := p) (xs := (bs.map V.int).reverse) (fun i σ H' => ∃ y, σ = [some (.ref a), some (.int (ofBits (bs.drop (bs.length - i)))), y] ∧ H' = H2) ⟨none, ?_, rfl⟩ ?_ ?_ ?_⟩
    · rw [Nat.sub_zero, List.drop_length]
      rfl
    · rintro i σ H' _ ⟨y, _, rfl⟩
      exact SqL.of e2
    · rintro i v σ H' hv ⟨y, rfl, rfl⟩
      rw [← List.map_reverse, List.getElem?_map] at hv
      cases e : bs.reverse[i]? with
      | none =>
        rw [e] at hv
        cases hv
      | some b =>
        rw [e] at hv
        cases hv
        refine ⟨_, rfl, 2, _, rfl, rfl, cmulL, _, rfl, _, _, rfl, rfl, some (.int b), ?_, rfl⟩
        rw [ofBits_rev bs i b e]
        rfl
    · rintro σ H' ⟨y, rfl, rfl⟩
      rw [List.length_reverse, List.length_map, Nat.sub_self, List.drop_zero]
      exact ⟨_, rfl, q _ (s1.trans s2)⟩
def sp__law_width_drawn (K : PySem.W.Frag) : Sp := fun vs H Q _ => ∃ d : Addr, vs = [.ref d] ∧ Dice H d ∧ ∀ (n : Nat) H', 1 ≤ n → n ≤ 32 → Ext d H H' → Q (.int n) H'
theorem ok__law_width_drawn (T : Txt K mg) : FnOk P w K mg base CX0 3 T._law_width_drawn.f T._law_width_drawn.fd ["_law_dice_here"] (sp__law_width_drawn K) := by
  refine T._law_width_drawn.F.ok sc__law_width_drawn (fun vs H Q E h => ?_) (fun cdv A outer s H vs Q E hr h => ?_)
  · obtain ⟨d, rfl, _⟩ := h
    rfl
  · obtain ⟨d, rfl, hd, q⟩ := h
    refine ⟨_, (pss_one (ps_ret (pe_call (ok__law_one_of T) (hr.mono (by decide)) (by rfl) T._law_one_of.g T._law_one_of.F.kp T._law_one_of.b .nil pass0 (pa_cons (pv 0) (pa_cons (pe_lstA (pa_cons pe_int (pa_cons pe_int (pa_cons pe_int (pa_cons pe_int (pa_cons pe_int (pa_cons pe_int (pa_cons pe_int (pa_cons pe_int (pa_cons pe_int (pa_cons (pe_op op_add pe_int (pe_call (ok__law_roll T) (hr.mono (by decide)) (by rfl) T._law_roll.g T._law_roll.F.kp T._law_roll.b .nil pass0 (pa_cons (pv 0) (pa_cons pe_int pa_nil)))) pa_nil))))))))))) pa_nil))))), ?_⟩
    refine ⟨_, rfl, _, rfl, d, 32, rfl, hd, by decide, by decide, fun r H1 r0 r1 x1 => ⟨1, r, rfl, rfl, sz, fun p H2 s2 e2 np => ?_⟩⟩
    have x2 := x1.same s2
    refine ⟨d, p, _, rfl, x2.d, x1.d.ne np, e2, by show 0 < 10; decide, by show 10 ≤ 100000; decide, fun v H3 hv x3 => ?_⟩
    have fin : ∀ m : Int, v = .int m → 1 ≤ m → m ≤ 32 → Q v H3 := fun m e m1 m2 => by
      have := q m.toNat _ (by omega) (by omega) (x2.trans x3)
      rw [show ((m.toNat : Nat) : Int) = m by omega] at this
      rw [e]
      exact this
    simp only [List.mem_cons, List.not_mem_nil, or_false] at hv
    rcases hv with h | h | h | h | h | h | h | h | h | h <;> exact fin _ h (by omega) (by omega)
/-- (carries, sum): p is such a pair, its list new -/
def sp__law_rippled (K : PySem.W.Frag) : Sp := fun vs H Q _ => ∃ (n : Nat) (x y c : Int), vs = [.int n, .int x, .int y, .int c] ∧ n ≤ 32 ∧ 0 ≤ c ∧ c ≤ 1 ∧ ∀ p l H', Same H H' → H l = none → SqT K H' p [.ref l, .int ((x + y + c) % 2 ^ n)] → H' l = some (.lst ((cars n x y c).map V.int)) → Q (.ref p) H'
theorem ok__law_rippled (T : Txt K mg) : FnOk P w K mg base CX0 2 T._law_rippled.f T._law_rippled.fd ["_law_width", "_law_one", "_law_other", "_law_ahead"] (sp__law_rippled K) := by
  refine T._law_rippled.F.ok sc__law_rippled (fun vs H Q E h => ?_) (fun cdv A outer s H vs Q E hr h => ?_)
  · obtain ⟨n, x, y, c, rfl, _⟩ := h
    rfl
  · obtain ⟨n, x, y, c, rfl, hn, c0, c1, q⟩ := h
    refine ⟨_, (pss_cons (ps_par (i := 4) (j := 5) rfl sc__law_rippled.nd rfl rfl (by decide) rfl rfl (pa_cons (pe_lstA (pa_cons (pv 3) pa_nil)) (pa_cons (pe_lstA pa_nil) pa_nil)) (by rfl)) 
      (pss_cons (ps_for PassesOwn.never rfl (pi_zip (by rfl) T.z_zip (pa_cons (pe_call (ok__law_bits T) (hr.mono (by decide)) (by rfl) T._law_bits.g T._law_bits.F.kp T._law_bits.b .nil pass0 (pa_cons (pv 0) (pa_cons (pv 1) pa_nil))) (pa_cons (pe_call (ok__law_bits T) (hr.mono (by decide)) (by rfl) T._law_bits.g T._law_bits.F.kp T._law_bits.b .nil pass0 (pa_cons (pv 0) (pa_cons (pv 2) pa_nil))) pa_nil))) (pg_tup rfl (pgs_cons (pg_name (i := 6) sc__law_rippled.nd rfl (.inl rfl)) (pgs_cons (pg_name (i := 7) sc__law_rippled.nd rfl (.inl rfl)) pgs_nil))) 
        (pss_cons (ps_set (i := 8) sc__law_rippled.nd rfl (.inl rfl) (pe_op op_add (pe_op op_add (pv 6) (pv 7)) (pe_ix ix_list (pv 4) (pe_un un_neg pe_int) (fun _ _ => rfl)))) 
        (pss_cons (ps_expr (pe_bm PySem.F.plainAttrs_list PySem.F.slot_list_append PySem.F.type_list_append mt_append (pv 5) (pa_cons (pe_op op_mod (pv 8) pe_int) pa_nil))) 
        (pss_one (ps_expr (pe_bm PySem.F.plainAttrs_list PySem.F.slot_list_append PySem.F.type_list_append mt_append (pv 4) (pa_cons (pe_callTy call_int1 (by rfl) T.z_int (by decide +kernel) (pa_cons (pe_cmpR op_gt (pv 8) pe_int (nomark _)) pa_nil)) pa_nil))))))) 
      (pss_one (ps_ret (pe_tupA (pa_cons (pv 4) (pa_cons (pe_call (ok__law_of_bits T) (hr.mono (by decide)) (by rfl) T._law_of_bits.g T._law_of_bits.F.kp T._law_of_bits.b .nil pass0 (pa_cons (pv 5) pa_nil)) pa_nil))))))), ?_⟩
    refine ⟨_, rfl, sz, fun l H0 s0 e0 nl => ⟨sz, fun k H1 s1 e1 nk => ⟨_, _, rfl, ?_⟩⟩⟩
    have nlk : l ≠ k := ne_of_none e0 nk
    refine ⟨_, rfl, _, rfl, n, x, rfl, by omega, fun p1 H2 s2 e2 n2 => ⟨_, rfl, _, rfl, n, y, rfl, by omega, fun p2 H3 s3 e3 n3 => ⟨p1, p2, _, _, rfl, SqL.of (s3 _ _ e2), SqL.of e3, ?_⟩⟩⟩
    have e1l := s1 _ _ e0
    have e2l := s2 _ _ e1l
    have e2k := s2 _ _ e1
    have h1l : p1 ≠ l := (ne_of_none e1l n2).symm
    have h1k : p1 ≠ k := (ne_of_none e1 n2).symm
    have h2l : p2 ≠ l := (ne_of_none e2l n3).symm
    have h2k : p2 ≠ k := (ne_of_none e2k n3).symm
    refine RZ.for_zipL (K := K) (a := p1) (b := p2) (xs := (bitsI n x).map V.int) (ys := (bitsI n y).map V.int) (by simp [bitsI_length])
      (fun i σ H' => ∃ u v r, σ = [some (.int n), some (.int x), some (.int y), some (.int c), some (.ref l), some (.ref k), u, v, r] ∧
        (∀ b o, b ≠ l → b ≠ k → H3 b = some o → H' b = some o) ∧ H' l = some (.lst ((cars i x y c).map V.int)) ∧ H' k = some (.lst ((bitsI i (x + y + c)).map V.int))) ⟨none, none, none, rfl, fun _ _ _ _ e => e, ?_, s3 _ _ e2k⟩ ?_ ?_ ?_
    · rw [s3 _ _ e2l, cars_last, carry_zero]
      rfl
    · rintro i σ H' ⟨u, v, r, _, b, _, _⟩
      exact ⟨SqL.of (b _ _ h1l h1k (s3 _ _ e2)), SqL.of (b _ _ h2l h2k e3)⟩
    · rintro i v1 v2 t σ H' h1 h2 ⟨u, v, r, rfl, b, hl, hk⟩ nt
      have hi : i < n := by
        have := (List.getElem?_eq_some_iff.mp h1).1
        rw [List.length_map, bitsI_length] at this
        exact this
      rw [List.getElem?_map, bitsI_get n x i hi] at h1
      rw [List.getElem?_map, bitsI_get n y i hi] at h2
      cases h1
      cases h2
      have sT : Same H' (upd H' t (.tup [.int (x / 2 ^ i % 2), .int (y / 2 ^ i % 2)])) := same_new nt
      have hl' := sT _ _ hl
      have hk' := sT _ _ hk
      refine ⟨t, _, rfl, SqT.of upd_same, rfl, _, _, rfl, _, [], rfl, rfl, ?_⟩
      have la : atI ((cars i x y c).map V.int) (-1) = some (.int (carry x y c i)) := by
        rw [cars_last]
        exact atI_last _ _
      have cr := carry_range (x := x) (y := y) c0 c1 i
      have b0 := Int.emod_nonneg (x / 2 ^ i) (by decide : (2 : Int) ≠ 0)
      have b1 := Int.emod_lt_of_pos (x / 2 ^ i) (by decide : (0 : Int) < 2)
      have b2 := Int.emod_nonneg (y / 2 ^ i) (by decide : (2 : Int) ≠ 0)
      have b3 := Int.emod_lt_of_pos (y / 2 ^ i) (by decide : (0 : Int) < 2)
      refine ⟨_, rfl, _, rfl, _, _, rfl, rfl, _, rfl, 1, rfl, l, _, -1, _, rfl, rfl, SqL.of hl', la, _, _, rfl, rfl, ?_⟩
      refine ⟨_, rfl, .inl ⟨rfl, _, SqL.of hk'⟩, _, rfl, _, _, rfl, rfl, p0, k, _, _, rfl, rfl, hk', ?_, ?_⟩
      · rw [List.length_map, bitsI_length]
        exact szlt (by omega)
      have hl2 : (upd (upd H' t (.tup [.int (x / 2 ^ i % 2), .int (y / 2 ^ i % 2)])) k (.lst ((bitsI i (x + y + c)).map V.int ++ [(fun i j => V.int (i % j)) (x / 2 ^ i % 2 + y / 2 ^ i % 2 + carry x y c i) 2]))) l = some (.lst ((cars i x y c).map V.int)) := by
        rw [upd_ne nlk]
        exact hl'
      refine ⟨_, rfl, .inl ⟨rfl, _, SqL.of hl2⟩, _, rfl, _, _, rfl, rfl, .inr ⟨_, rfl, l, _, _, rfl, rfl, hl2, ?_, ?_⟩⟩
      · rw [List.length_map, cars_length]
        exact szlt (by omega)
      refine ⟨_, _, _, rfl, fun g o ng1 ng2 eg => ?_, ?_, ?_⟩
      · rw [upd_ne ng1, upd_ne ng2]
        exact sT _ _ (b _ _ ng1 ng2 eg)
      · rw [upd_same, cars_snoc, List.map_append, carry_succ]
        rw [← half_int _ (by omega) (by omega)]
        by_cases hc : x / 2 ^ i % 2 + y / 2 ^ i % 2 + carry x y c i > 1
        · rw [if_pos hc, decide_eq_true hc]
          rfl
        · rw [if_neg hc, decide_eq_false hc]
          rfl
      · rw [upd_ne nlk.symm, upd_same, bitsI_snoc, List.map_append, sum_bit]
        rfl
    · rintro σ H' ⟨u, v, r, rfl, b, hl, hk⟩
      rw [List.length_map, bitsI_length] at hl hk
      refine ⟨_, rfl, _, rfl, k, _, rfl, .inl (SqL.of hk), fun H4 s4 => ⟨sz, fun p H5 s5 e5 => ?_⟩⟩
      rw [ofBits_bitsI] at e5
      refine q p l _ (fun g o e => ?_) nl e5 (s5 _ _ (s4 _ _ hl))
      have ng1 : g ≠ l := ne_of_none e nl
      have ng2 : g ≠ k := ne_of_none (s0 _ _ e) nk
      exact s5 _ _ (s4 _ _ (b _ _ ng1 ng2 (s3 _ _ (s2 _ _ (s1 _ _ (s0 _ _ e))))))
def sp__law_orders_right (K : PySem.W.Frag) : Sp := fun vs H Q _ => ∃ (n : Nat) (x y : Int), vs = [.int n, .int x, .int y] ∧ 1 ≤ n ∧ n ≤ 32 ∧ 0 ≤ x ∧ x < 2 ^ n ∧ 0 ≤ y ∧ y < 2 ^ n ∧ Q (.bl true) H
theorem ok__law_orders_right (T : Txt K mg) : FnOk P w K mg base CX0 8 T._law_orders_right.f T._law_orders_right.fd ["_law_width", "_law_one", "_law_other"] (sp__law_orders_right K) := by
  refine T._law_orders_right.F.ok sc__law_orders_right (fun vs H Q E h => ?_) (fun cdv A outer s H vs Q E hr h => ?_)
  · obtain ⟨n, x, y, rfl, _⟩ := h
    rfl
  · obtain ⟨n, x, y, rfl, h1, h2, h3, h4, h5, h6, q⟩ := h
    have hp := two_pos n
    refine ⟨_, (pss_cons (ps_par (i := 3) (j := 4) rfl sc__law_orders_right.nd rfl rfl (by decide) rfl rfl (pa_cons (pe_call (ok__law_two_to T) (hr.mono (by decide)) (by rfl) T._law_two_to.g T._law_two_to.F.kp T._law_two_to.b .nil pass0 (pa_cons (pe_op op_sub (pv 0) pe_int) pa_nil)) (pa_cons (pe_call (ok__law_two_to T) (hr.mono (by decide)) (by rfl) T._law_two_to.g T._law_two_to.F.kp T._law_two_to.b .nil pass0 (pa_cons (pv 0) pa_nil)) pa_nil)) (by rfl)) 
      (pss_cons (ps_if (pt_cmpR op_ne (pe_call (ok_is_below T) (hr.mono (by decide)) (by rfl) T.is_below.g T.is_below.F.kp T.is_below.b .nil pass0 (pa_cons (pv 0) (pa_cons (pv 1) (pa_cons (pv 2) pa_nil)))) (pe_cmpR op_lt (pv 1) (pv 2) (nomark _)) (nomark _)) 
        (pss_one (ps_ret pe_bl)) pss_nil) 
      (pss_cons (ps_if (pt_cmpR op_ne (pe_call (ok_is_under T) (hr.mono (by decide)) (by rfl) T.is_under.g T.is_under.F.kp T.is_under.b .nil pass0 (pa_cons (pv 0) (pa_cons (pv 1) (pa_cons (pv 2) pa_nil)))) (pe_cmpR op_lt (pe_call (ok_signed T) (hr.mono (by decide)) (by rfl) T.signed.g T.signed.F.kp T.signed.b .nil pass0 (pa_cons (pv 0) (pa_cons (pv 1) pa_nil))) (pe_call (ok_signed T) (hr.mono (by decide)) (by rfl) T.signed.g T.signed.F.kp T.signed.b .nil pass0 (pa_cons (pv 0) (pa_cons (pv 2) pa_nil))) (nomark _)) (nomark _)) 
        (pss_one (ps_ret pe_bl)) pss_nil) 
      (pss_one (ps_ret (pe_cmpR op_eq (pe_call (ok_is_under T) (hr.mono (by decide)) (by rfl) T.is_under.g T.is_under.F.kp T.is_under.b .nil pass0 (pa_cons (pv 0) (pa_cons (pv 1) (pa_cons (pv 2) pa_nil)))) (pe_call (ok_is_below T) (hr.mono (by decide)) (by rfl) T.is_below.g T.is_below.F.kp T.is_below.b .nil pass0 (pa_cons (pv 0) (pa_cons (pe_op op_mod (pe_op op_add (pv 1) (pv 3)) (pv 4)) (pa_cons (pe_op op_mod (pe_op op_add (pv 2) (pv 3)) (pv 4)) pa_nil)))) (nomark _))))))), ?_⟩
    refine ⟨_, rfl, _, _, rfl, rfl, n - 1, congrArg (fun z => [V.int z]) (by omega), by omega, _, rfl, n, rfl, by omega, _, _, rfl, ?_⟩
    refine ⟨_, rfl, _, rfl, _, rfl, n, x, y, rfl, h1, h2, h3, h4, h5, h6, _, rfl, _, rfl, x, y, rfl, rfl, rfl, _, rfl, iteBF (neF rfl) ?_⟩
    refine ⟨_, rfl, _, rfl, _, rfl, n, x, y, rfl, h1, h2, h3, h4, h5, h6, _, rfl, _, rfl, n, x, rfl, h1, h2, h3, h4, _, rfl, _, rfl, n, y, rfl, h1, h2, h5, h6, _, _, rfl, rfl, rfl, _, rfl, iteBF (neF rfl) ?_⟩
    refine ⟨_, rfl, _, rfl, _, rfl, n, x, y, rfl, h1, h2, h3, h4, h5, h6, ?_⟩
    refine ⟨_, rfl, _, rfl, _, rfl, _, _, rfl, rfl, _, rfl, _, _, rfl, rfl, hp, _, rfl, _, rfl, _, _, rfl, rfl, _, rfl, _, _, rfl, rfl, hp, ?_⟩
    refine ⟨n, _, _, rfl, h1, h2, Int.emod_nonneg _ (by omega), Int.emod_lt_of_pos _ hp, Int.emod_nonneg _ (by omega), Int.emod_lt_of_pos _ hp, rfl, ?_⟩
    have e : decide (V.bl (decide (sgn n x < sgn n y)) = V.bl (decide ((x + 2 ^ (n - 1)) % 2 ^ n < (y + 2 ^ (n - 1)) % 2 ^ n))) = true :=
      decide_eq_true (congrArg V.bl (decide_eq_decide.mpr (sgn_less h1 h3 h4 h5 h6)))
    rw [e]
    exact q
end
end TB
namespace TB
open PySem PySem.Spec PyProof.Rows L2
section
variable {P : Program} {w : World} {K : PySem.W.Frag} {mg : Str → Option Value} {base : Heap}
def sp__law_right (K : PySem.W.Frag) : Sp := fun vs H Q _ => ∃ (d : Addr), vs = [.ref d] ∧ Dice H d ∧ ∀ H', Ext d H H' → Q (.bl true) H'
theorem ok__law_right (T : Txt K mg) : FnOk P w K mg base CX0 9 T._law_right.f T._law_right.fd ["_law_dice_here"] (sp__law_right K) := by
  refine T._law_right.F.ok sc__law_right (fun vs H Q E h => ?_) (fun cdv A outer s H vs Q E hr h => ?_)
  · obtain ⟨d, rfl, _⟩ := h
    rfl
  · obtain ⟨d, rfl, hd, q⟩ := h
    refine ⟨_, (pss_cons (ps_set (i := 1) sc__law_right.nd rfl (.inl rfl) (pe_call (ok__law_width_drawn T) (hr.mono (by decide)) (by rfl) T._law_width_drawn.g T._law_width_drawn.F.kp T._law_width_drawn.b .nil pass0 (pa_cons (pv 0) pa_nil))) 
      (pss_cons (ps_par3 (i := 2) (j := 3) (l := 4) rfl sc__law_right.nd rfl rfl rfl (by decide) (by decide) (by decide) rfl rfl rfl (pa_cons (pe_call (ok__law_word_drawn T) (hr.mono (by decide)) (by rfl) T._law_word_drawn.g T._law_word_drawn.F.kp T._law_word_drawn.b .nil pass0 (pa_cons (pv 0) (pa_cons (pv 1) pa_nil))) (pa_cons (pe_call (ok__law_word_drawn T) (hr.mono (by decide)) (by rfl) T._law_word_drawn.g T._law_word_drawn.F.kp T._law_word_drawn.b .nil pass0 (pa_cons (pv 0) (pa_cons (pv 1) pa_nil))) (pa_cons (pe_call (ok__law_roll T) (hr.mono (by decide)) (by rfl) T._law_roll.g T._law_roll.F.kp T._law_roll.b .nil pass0 (pa_cons (pv 0) (pa_cons pe_int pa_nil))) pa_nil))) (by rfl)) 
      (pss_cons (ps_par (i := 5) (j := 6) rfl sc__law_right.nd rfl rfl (by decide) rfl rfl (pa_cons (pe_call (ok__law_two_to T) (hr.mono (by decide)) (by rfl) T._law_two_to.g T._law_two_to.F.kp T._law_two_to.b .nil pass0 (pa_cons (pv 1) pa_nil)) (pa_cons (pe_call (ok__law_rippled T) (hr.mono (by decide)) (by rfl) T._law_rippled.g T._law_rippled.F.kp T._law_rippled.b .nil pass0 (pa_cons (pv 1) (pa_cons (pv 2) (pa_cons (pv 3) (pa_cons (pv 4) pa_nil))))) pa_nil)) (by rfl)) 
      (pss_cons (ps_par (i := 7) (j := 8) rfl sc__law_right.nd rfl rfl (by decide) rfl rfl (pa_cons (pe_ix ix_tup (pv 6) pe_int (fun _ _ => rfl)) (pa_cons (pe_ix ix_list (pe_ix ix_tup (pv 6) pe_int (fun _ _ => rfl)) (pe_un un_neg pe_int) (fun _ _ => rfl)) pa_nil)) (by rfl)) 
      (pss_cons (ps_if (pt_cmpR (op_neD hr.units) (pe_callN (ok_carries T) (hr.mono (by decide)) (by rfl) T.carries.g T.carries.F.kp T.carries.kb pass0 (pa_cons (pv 1) (pa_cons (pv 2) (pa_cons (pv 3) pa_nil))) (pk_cons (pv 4) pk_nil)) (pe_callTy call_tupleA (by rfl) T.z_tuple (by decide +kernel) (pa_cons (pe_ix ix_tup (pv 6) pe_int (fun _ _ => rfl)) pa_nil)) (nomark _)) 
        (pss_one (ps_ret pe_bl)) pss_nil) 
      (pss_cons (ps_if (pt_cmpR (op_neD hr.units) (pe_callN (ok_added T) (hr.mono (by decide)) (by rfl) T.added.g T.added.F.kp T.added.kb pass0 (pa_cons (pv 1) (pa_cons (pv 2) (pa_cons (pv 3) pa_nil))) (pk_cons (pv 4) pk_nil)) (pe_tupA (pa_cons (pv 7) (pa_cons (pv 8) pa_nil))) (nomark _)) 
        (pss_one (ps_ret pe_bl)) pss_nil) 
      (pss_cons (ps_if (PW.pt (pw_or (pt_cmpR op_ne (pe_op op_add (pv 7) (pe_op op_mul (pv 5) (pv 8))) (pe_op op_add (pe_op op_add (pv 2) (pv 3)) (pv 4)) (nomark _)) (pw_or1 (pt_cmpR (op_neD hr.units) (pe_call (ok_added T) (hr.mono (by decide)) (by rfl) T.added.g T.added.F.kp T.added.b T.added.dv pass0 (pa_cons (pv 1) (pa_cons (pv 2) (pa_cons (pv 3) pa_nil)))) (pe_call (ok_added T) (hr.mono (by decide)) (by rfl) T.added.g T.added.F.kp T.added.b T.added.dv pass0 (pa_cons (pv 1) (pa_cons (pv 3) (pa_cons (pv 2) pa_nil)))) (nomark _))))) 
        (pss_one (ps_ret pe_bl)) pss_nil) 
      (pss_cons (ps_set (i := 9) sc__law_right.nd rfl (.inl rfl) (pe_call (ok_lessened T) (hr.mono (by decide)) (by rfl) T.lessened.g T.lessened.F.kp T.lessened.b .nil pass0 (pa_cons (pv 1) (pa_cons (pv 2) (pa_cons (pv 3) pa_nil))))) 
      (pss_cons (ps_if (PW.pt (pw_or (pt_cmpR (op_neD hr.units) (pv 9) (pe_tupA (pa_cons (pe_op op_mod (pe_op op_sub (pv 2) (pv 3)) (pv 5)) (pa_cons (pe_callTy call_int1 (by rfl) T.z_int (by decide +kernel) (pa_cons (pe_cmpR op_ge (pv 2) (pv 3) (nomark _)) pa_nil)) pa_nil))) (nomark _)) (pw_or1 (pt_cmpR (op_neD hr.units) (pv 9) (pe_callN (ok_added T) (hr.mono (by decide)) (by rfl) T.added.g T.added.F.kp T.added.kb pass0 (pa_cons (pv 1) (pa_cons (pv 2) (pa_cons (pe_op op_sub (pe_op op_sub (pv 5) pe_int) (pv 3)) pa_nil))) (pk_cons pe_int pk_nil)) (nomark _))))) 
        (pss_one (ps_ret pe_bl)) pss_nil) 
      (pss_cons (ps_if (pt_cmpR op_ne (pe_call (ok_wrapped T) (hr.mono (by decide)) (by rfl) T.wrapped.g T.wrapped.F.kp T.wrapped.b .nil pass0 (pa_cons (pv 1) (pa_cons (pe_op op_add (pe_op op_add (pe_call (ok_signed T) (hr.mono (by decide)) (by rfl) T.signed.g T.signed.F.kp T.signed.b .nil pass0 (pa_cons (pv 1) (pa_cons (pv 2) pa_nil))) (pe_call (ok_signed T) (hr.mono (by decide)) (by rfl) T.signed.g T.signed.F.kp T.signed.b .nil pass0 (pa_cons (pv 1) (pa_cons (pv 3) pa_nil)))) (pv 4)) pa_nil))) (pv 7) (nomark _)) 
        (pss_one (ps_ret pe_bl)) pss_nil) 
      (pss_cons (ps_set (i := 10) sc__law_right.nd rfl (.inl rfl) (pe_op op_add pe_int (pe_call (ok__law_roll T) (hr.mono (by decide)) (by rfl) T._law_roll.g T._law_roll.F.kp T._law_roll.b .nil pass0 (pa_cons (pv 0) (pa_cons (pv 1) pa_nil))))) 
      (pss_cons (ps_set (i := 11) sc__law_right.nd rfl (.inl rfl) (pe_callN (ok_added T) (hr.mono (by decide)) (by rfl) T.added.g T.added.F.kp T.added.kb pass0 (pa_cons (pv 10) (pa_cons (pe_call (ok_cut T) (hr.mono (by decide)) (by rfl) T.cut.g T.cut.F.kp T.cut.b .nil pass0 (pa_cons (pv 1) (pa_cons (pv 2) (pa_cons pe_int (pa_cons (pv 10) pa_nil))))) (pa_cons (pe_call (ok_cut T) (hr.mono (by decide)) (by rfl) T.cut.g T.cut.F.kp T.cut.b .nil pass0 (pa_cons (pv 1) (pa_cons (pv 3) (pa_cons pe_int (pa_cons (pv 10) pa_nil))))) pa_nil))) (pk_cons (pv 4) pk_nil))) 
      (pss_cons (ps_if (PW.pt (pw_or (pt_cmpR (op_neD hr.units) (pv 11) (pe_tupA (pa_cons (pe_call (ok_cut T) (hr.mono (by decide)) (by rfl) T.cut.g T.cut.F.kp T.cut.b .nil pass0 (pa_cons (pv 1) (pa_cons (pv 7) (pa_cons pe_int (pa_cons (pv 10) pa_nil))))) (pa_cons (pe_ix ix_list (pe_ix ix_tup (pv 6) pe_int (fun _ _ => rfl)) (pv 10) (fun _ _ => rfl)) pa_nil))) (nomark _)) (pw_or1 (pt_not (pt_val (pe_call (ok__law_orders_right T) (hr.mono (by decide)) (by rfl) T._law_orders_right.g T._law_orders_right.F.kp T._law_orders_right.b .nil pass0 (pa_cons (pv 1) (pa_cons (pv 2) (pa_cons (pv 3) pa_nil))))))))) 
        (pss_one (ps_ret pe_bl)) pss_nil) 
      (pss_one (ps_ret (pe_cmpR (op_eqD hr.units) (pe_call (ok_carries T) (hr.mono (by decide)) (by rfl) T.carries.g T.carries.F.kp T.carries.b T.carries.dv pass0 (pa_cons (pv 1) (pa_cons (pv 2) (pa_cons (pv 3) pa_nil)))) (pe_callTy call_tupleA (by rfl) T.z_tuple (by decide +kernel) (pa_cons (pe_ix ix_tup (pe_call (ok__law_rippled T) (hr.mono (by decide)) (by rfl) T._law_rippled.g T._law_rippled.F.kp T._law_rippled.b .nil pass0 (pa_cons (pv 1) (pa_cons (pv 2) (pa_cons (pv 3) (pa_cons pe_int pa_nil))))) pe_int (fun _ _ => rfl)) pa_nil)) (nomark _))))))))))))))))), ?_⟩
    refine ⟨_, rfl, d, rfl, hd, fun n H1 n1 n2 x1 => ?_⟩
    refine ⟨_, rfl, _, rfl, d, n, rfl, x1.d, n1, n2, fun x H2 a0 a1 x2 => ?_⟩
    refine ⟨_, rfl, _, rfl, d, n, rfl, x2.d, n1, n2, fun y H3 b0 b1 x3 => ?_⟩
    refine ⟨_, rfl, d, 2, rfl, x3.d, by decide, by decide, fun c H4 c0 c1 x4 => ⟨_, _, _, rfl, ?_⟩⟩
    have hb := two32 n2
    have hp := two_pos n
    have X4 := ((x1.trans x2).trans x3).trans x4
    have c1' : c ≤ 1 := by omega
    -- size, due
    refine ⟨_, rfl, n, rfl, by omega, _, rfl, _, rfl, _, rfl, _, rfl, n, x, y, c, rfl, n2, c0, c1', fun p l H5 s5 nl ep el => ⟨_, _, rfl, ?_⟩⟩
    have nld : l ≠ d := X4.d.ne nl
    have X5 := X4.same s5
    have la : atI ((cars n x y c).map V.int) (-1) = some (.int ((x + y + c) / 2 ^ n)) := by
      rw [cars_last, ← carry_last a0 a1 b0 b1]
      exact atI_last _ _
    -- total, last
    refine ⟨_, rfl, p, _, 1, _, rfl, rfl, ep, atI_nat (j := 1) rfl, _, rfl, p, _, 0, _, rfl, rfl, ep, atI_nat (j := 0) rfl, 1, rfl, l, _, -1, _, rfl, rfl, SqL.of el, la, _, _, rfl, ?_⟩
    have hg0 := Int.emod_nonneg (x + y + c) (show (2 : Int) ^ n ≠ 0 by omega)
    have hg1 := Int.emod_lt_of_pos (x + y + c) hp
    have hq := carry_range (x := x) (y := y) c0 c1' n
    rw [carry_last a0 a1 b0 b1] at hq
    -- carries
    refine ⟨_, rfl, _, rfl, _, rfl, _, rfl, rfl, rfl, n, x, y, c, rfl, n1, n2, a0, a1, b0, b1, c0, c1', fun p2 H6 s6 e6 => ?_⟩
    refine ⟨_, rfl, p, _, 0, _, rfl, rfl, sT s6 ep, atI_nat (j := 0) rfl, l, _, rfl, .inl (SqL.of (s6 _ _ el)), fun p3 H7 s7 e7 => ?_⟩
    refine ⟨_, _, .tup (sT s7 e6) (dpI _), .tup e7 (dpI _), shT _, shT _, _, rfl, iteBF (by rw [eqvR (shT _)]; rfl) ?_⟩
    have s67 := s6.trans s7
    -- added
    refine ⟨_, rfl, _, rfl, _, rfl, _, rfl, rfl, rfl, n, x, y, c, rfl, n1, n2, a0, a1, b0, b1, c0, c1', fun p4 H8 s8 e8 => ?_⟩
    refine ⟨_, rfl, _, rfl, sz, fun p5 H9 s9 e9 => ?_⟩
    refine ⟨_, _, dp2 (sT s9 e8), dp2 e9, rfl, rfl, _, rfl, iteBF (by rw [eqv2 rfl rfl]; rfl) ?_⟩
    have s69 := (s67.trans s8).trans s9
    -- total + size * last
    refine ⟨_, rfl, _, rfl, _, rfl, _, _, rfl, rfl, .inl ⟨by omega, by omega⟩, _, _, rfl, rfl, _, rfl, _, rfl, _, _, rfl, rfl, _, rfl, _, _, rfl, rfl, rfl, _, rfl, iteBF (neFI (Int.emod_add_mul_ediv _ _)) ?_⟩
    refine ⟨_, rfl, _, rfl, _, rfl, n, x, y, 0, rfl, n1, n2, a0, a1, b0, b1, by decide, by decide, fun p6 H10 s10 e10 => ?_⟩
    refine ⟨_, rfl, _, rfl, _, rfl, n, y, x, 0, rfl, n1, n2, b0, b1, a0, a1, by decide, by decide, fun p7 H11 s11 e11 => ?_⟩
    refine ⟨_, _, dp2 (sT s11 e10), dp2 e11, rfl, rfl, _, rfl, iteBF (by rw [eqv2 (by rw [Int.add_comm x y]) (by rw [Int.add_comm x y])]; rfl) ?_⟩
    have s611 := (s69.trans s10).trans s11
    -- less
    refine ⟨_, rfl, _, rfl, _, rfl, n, x, y, rfl, n1, n2, a0, a1, b0, b1, fun p8 H12 s12 e12 => ?_⟩
    refine ⟨_, rfl, _, rfl, _, rfl, _, _, rfl, rfl, _, rfl, _, _, rfl, rfl, hp, _, rfl, _, rfl, _, _, rfl, rfl, .inr ⟨_, rfl, sz, fun p9 H13 s13 e13 => ?_⟩⟩
    have ew : (if decide (y ≤ x) = true then (1 : Int) else 0) = if y ≤ x then 1 else 0 := by
      by_cases h : y ≤ x
      · rw [if_pos h, if_pos (decide_eq_true h)]
      · rw [if_neg h, if_neg (by rw [decide_eq_false h]; decide)]
    refine ⟨_, _, dp2 (sT s13 e12), dp2 e13, rfl, rfl, _, rfl, iteBF (by rw [eqv2 rfl ew.symm]; rfl) ?_⟩
    have hls := less_sum a0 a1 b0 b1
    refine ⟨_, rfl, _, rfl, _, rfl, _, rfl, _, _, rfl, rfl, _, rfl, _, _, rfl, rfl, rfl, rfl, n, x, _, 1, rfl, n1, n2, a0, a1, by omega, by omega, by decide, by decide, fun p10 H14 s14 e14 => ?_⟩
    refine ⟨_, _, dp2 (sT s14 (sT s13 e12)), dp2 e14, rfl, rfl, _, rfl, iteBF (by rw [eqv2 hls.1.symm hls.2.symm]; rfl) ?_⟩
    have s614 := ((s611.trans s12).trans s13).trans s14
    have X14 := X5.same s614
    have ep14 := sT s614 ep
    have el14 := s614 _ _ el
    -- wrapped
    have g1 := sgn_bound n2 a0 a1
    have g2 := sgn_bound n2 b0 b1
    have g3 : (2 : Int) ^ 33 < 10 ^ 50 := by decide
    have g4 : (10 : Int) ^ 50 * 4 < 10 ^ 60 := by decide
    refine ⟨_, rfl, _, rfl, _, rfl, n, x, rfl, n1, n2, a0, a1, _, rfl, _, rfl, n, y, rfl, n1, n2, b0, b1, _, _, rfl, rfl, _, rfl, _, _, rfl, rfl, ?_⟩
    refine ⟨n, _, rfl, n1, n2, by omega, by omega, _, rfl, rfl, _, rfl, iteBF (neFI sgn_add) ?_⟩
    -- many
    refine ⟨_, rfl, _, rfl, d, n, rfl, X14.d, by omega, by omega, fun r H15 r0 r1 x15 => ⟨1, r, rfl, rfl, ?_⟩⟩
    obtain ⟨m, hm⟩ : ∃ m : Nat, 1 + r = (m : Int) := ⟨(1 + r).toNat, by omega⟩
    rw [show (fun i j => V.int (i + j)) 1 r = V.int (m : Int) from congrArg V.int hm]
    have hm1 : 1 ≤ m := by omega
    have hmn : m ≤ n := by omega
    have X15 := X14.trans x15
    have ep15 := x15.seqT X14.d ep14
    have el15 := x15.s _ _ nld el14
    have hpm := two_pos m
    have cut0 : ∀ z : Int, z / 2 ^ 0 % 2 ^ m = z % 2 ^ m := fun z => by rw [Int.pow_zero, Int.ediv_one]
    have q0 := Int.emod_nonneg x (show (2 : Int) ^ m ≠ 0 by omega)
    have q1 := Int.emod_lt_of_pos x hpm
    have q2 := Int.emod_nonneg y (show (2 : Int) ^ m ≠ 0 by omega)
    have q3 := Int.emod_lt_of_pos y hpm
    refine ⟨_, rfl, _, rfl, _, rfl, _, rfl, n, x, 0, m, rfl, n1, n2, a0, a1, hm1, by omega, _, rfl, _, rfl, _, rfl, n, y, 0, m, rfl, n1, n2, b0, b1, hm1, by omega, _, rfl, rfl, rfl, m, _, _, c, rfl, hm1, by omega, by rw [cut0]; exact q0, by rw [cut0]; exact q1, by rw [cut0]; exact q2, by rw [cut0]; exact q3, c0, c1', fun p11 H16 s16 e16 => ?_⟩
    rw [cut0, cut0] at e16
    refine ⟨_, rfl, _, rfl, _, rfl, _, rfl, n, _, 0, m, rfl, n1, n2, hg0, hg1, hm1, by omega, _, rfl, p, _, 0, _, rfl, rfl, sT s16 ep15, atI_nat (j := 0) rfl, _, rfl, l, _, m, .int (carry x y c m), rfl, rfl, SqL.of (s16 _ _ el15), atI_nat (by rw [List.getElem?_map, cars_get hmn]; rfl), sz, fun p12 H17 s17 e17 => ?_⟩
    have ecut : (x % 2 ^ m + y % 2 ^ m + c) % 2 ^ m = (x + y + c) % 2 ^ n / 2 ^ 0 % 2 ^ m := by
      rw [cut0]
      have e1 : (2 : Int) ^ n = 2 ^ m * 2 ^ (n - m) := by rw [← two_add, Nat.add_sub_cancel' hmn]
      rw [e1, Int.emod_emod_of_dvd _ ⟨2 ^ (n - m), rfl⟩]
      have f1 := Int.emod_add_mul_ediv x (2 ^ m)
      have f2 := Int.emod_add_mul_ediv y (2 ^ m)
      have f3 : x + y + c = x % 2 ^ m + y % 2 ^ m + c + 2 ^ m * (x / 2 ^ m + y / 2 ^ m) := by
        rw [Int.mul_add]
        omega
      rw [f3, Int.add_mul_emod_self_left]
    refine ⟨_, _, dp2 (sT s17 e16), dp2 e17, rfl, rfl, _, rfl, iteBF (neqv2 ecut rfl) ?_⟩
    refine ⟨_, rfl, _, rfl, _, rfl, n, x, y, rfl, n1, n2, a0, a1, b0, b1, _, rfl, iteF ?_⟩
    have X17 := (X15.same s16).same s17
    -- return
    refine ⟨_, rfl, _, rfl, _, rfl, n, x, y, 0, rfl, n1, n2, a0, a1, b0, b1, by decide, by decide, fun p13 H18 s18 e18 => ?_⟩
    refine ⟨_, rfl, _, rfl, _, rfl, n, x, y, 0, rfl, n2, by decide, by decide, fun p14 l2 H19 s19 _ e19 el19 => ?_⟩
    refine ⟨p14, _, 0, _, rfl, rfl, e19, atI_nat (j := 0) rfl, l2, _, rfl, .inl (SqL.of el19), fun p15 H20 s20 e20 => ?_⟩
    refine ⟨_, _, .tup (sT s20 (sT s19 e18)) (dpI _), .tup e20 (dpI _), shT _, shT _, ?_⟩
    rw [eqvR (shT _)]
    exact q _ (((X17.same s18).same s19).same s20)
def sp_law (K : PySem.W.Frag) : Sp := fun vs H Q _ => ∃ (a : Addr) (ns : List Int), vs = [.ref a] ∧ SqL K H a (ns.map V.int) ∧ ns.length ≤ 63 ∧ ∀ H', Q (.bl true) H'
theorem ok_law (T : Txt K mg) : FnOk P w K mg base CX0 10 T.law.f T.law.fd ["_law_script"] (sp_law K) := by
  refine T.law.F.ok sc_law (fun vs H Q E h => ?_) (fun cdv A outer s H vs Q E hr h => ?_)
  · obtain ⟨a, ns, rfl, _⟩ := h
    rfl
  · obtain ⟨a, ns, rfl, hS, hlen, q⟩ := h
    refine ⟨_, (pss_cons (ps_for PassesOwn.never rfl (pi_range1 (by rfl) T.z_range (pa_cons (pe_callB (call_max2 rfl) (by rfl) T.z_max (by decide +kernel) (pa_cons pe_int (pa_cons (pe_callB (call_min2 rfl) (by rfl) T.z_min (by decide +kernel) (pa_cons pe_int (pa_cons (pe_callB call_len_seq (by rfl) T.z_len PySem.boot_len (pa_cons (pv 0) pa_nil)) pa_nil))) pa_nil))) pa_nil)) (pg_name (i := 1) sc_law.nd rfl (.inl rfl)) 
        (pss_cons (ps_set (i := 2) sc_law.nd rfl (.inl rfl) (pe_call (ok__law_dice T) (hr.mono (by decide)) (by rfl) T._law_dice.g T._law_dice.F.kp T._law_dice.b .nil pass0 (pa_cons (pv 0) (pa_cons (pv 1) pa_nil)))) 
        (pss_one (ps_for PassesOwn.never rfl (pi_range1 (by rfl) T.z_range (pa_cons pe_int pa_nil)) (pg_name (i := 3) sc_law.nd rfl (.inl rfl)) 
          (pss_one (ps_if (pt_not (pt_val (pe_call (ok__law_right T) (hr.mono (by decide)) (by rfl) T._law_right.g T._law_right.F.kp T._law_right.b .nil pass0 (pa_cons (pv 2) pa_nil)))) 
            (pss_one (ps_ret pe_bl)) pss_nil)))))) 
      (pss_cons (ps_set (i := 4) sc_law.nd rfl (.inl rfl) (pe_lstA (pa_cons (pe_callN (ok_added T) (hr.mono (by decide)) (by rfl) T.added.g T.added.F.kp T.added.kb pass0 (pa_cons pe_int (pa_cons pe_int (pa_cons pe_int pa_nil))) (pk_cons pe_int pk_nil)) (pa_cons (pe_call (ok_added T) (hr.mono (by decide)) (by rfl) T.added.g T.added.F.kp T.added.b T.added.dv pass0 (pa_cons pe_int (pa_cons pe_int (pa_cons pe_int pa_nil)))) (pa_cons (pe_call (ok_lessened T) (hr.mono (by decide)) (by rfl) T.lessened.g T.lessened.F.kp T.lessened.b .nil pass0 (pa_cons pe_int (pa_cons pe_int (pa_cons pe_int pa_nil)))) (pa_cons (pe_call (ok_lessened T) (hr.mono (by decide)) (by rfl) T.lessened.g T.lessened.F.kp T.lessened.b .nil pass0 (pa_cons pe_int (pa_cons pe_int (pa_cons pe_int pa_nil)))) pa_nil)))))) 
      (pss_one (ps_ret (pe_and (pe_cmpR (op_eqD hr.units) (pv 4) (pe_lstA (pa_cons (pe_tupA (pa_cons pe_int (pa_cons pe_int pa_nil))) (pa_cons (pe_tupA (pa_cons pe_int (pa_cons pe_int pa_nil))) (pa_cons (pe_tupA (pa_cons pe_int (pa_cons pe_int pa_nil))) (pa_cons (pe_tupA (pa_cons pe_int (pa_cons pe_int pa_nil))) pa_nil))))) (nomark _)) (pe_and (pe_call (ok_is_under T) (hr.mono (by decide)) (by rfl) T.is_under.g T.is_under.F.kp T.is_under.b .nil pass0 (pa_cons pe_int (pa_cons pe_int (pa_cons pe_int pa_nil)))) (pe_one (pe_not (pe_call (ok_is_below T) (hr.mono (by decide)) (by rfl) T.is_below.g T.is_below.F.kp T.is_below.b .nil pass0 (pa_cons pe_int (pa_cons pe_int (pa_cons pe_int pa_nil)))))))))))), ?_⟩
    refine ⟨_, rfl, a, _, rfl, .inl hS, _, _, rfl, _, _, rfl, _, rfl, ?_, ?_, ?_⟩
    · rw [List.length_map]
      split <;> split <;> omega
    · rw [List.length_map]
      split <;> split <;> omega
    refine for_rangeN (fun i σ H' => ∃ y1 y2 y3 y4, σ = [some (.ref a), y1, y2, y3, y4] ∧ Same H H') ⟨none, none, none, none, rfl, Same.refl H⟩ ?_ ?_
    · rintro i σ H' _ ⟨y1, y2, y3, y4, rfl, sm⟩
      refine ⟨_, rfl, _, rfl, a, ns, i, rfl, sm.seq hS, fun x y z d H1 s1 e1 nd => ?_⟩
      have hd : Dice H1 d := ⟨x, y, z, e1⟩
      refine ⟨_, rfl, by decide, by decide, for_rangeN (n := 4) (fun j σ H2 => ∃ y3, σ = [some (.ref a), some (.int i), some (.ref d), y3, y4] ∧ Ext d H1 H2) ⟨y3, rfl, Ext.refl hd⟩ ?_ ?_⟩
      · rintro j σ H2 _ ⟨y3, rfl, xx⟩
        refine ⟨_, rfl, d, rfl, xx.d, fun H3 x3 => ⟨true, rfl, iteF ?_⟩⟩
        exact ⟨_, rfl, xx.trans x3⟩
      · rintro σ H2 ⟨y3, rfl, xx⟩
        exact ⟨_, _, _, _, rfl, sm.trans (Same.back nd s1 xx.s)⟩
    · rintro σ H1 ⟨y1, y2, y3, y4, rfl, sm⟩
      refine ⟨rfl, rfl, 4, 15, 15, 1, rfl, by decide, by decide, by decide, by decide, by decide, by decide, by decide, by decide, fun p1 K1 s1 e1 => ?_⟩
      refine ⟨1, 1, 1, 0, rfl, by decide, by decide, by decide, by decide, by decide, by decide, by decide, by decide, fun p2 K2 s2 e2 => ?_⟩
      refine ⟨4, 3, 5, rfl, by decide, by decide, by decide, by decide, by decide, by decide, fun p3 K3 s3 e3 => ?_⟩
      refine ⟨4, 5, 5, rfl, by decide, by decide, by decide, by decide, by decide, by decide, fun p4 K4 s4 e4 => ?_⟩
      refine ⟨sz, fun l K5 s5 e5 _ => ?_⟩
      refine ⟨_, rfl, sz, fun r1 K6 s6 e6 => ⟨sz, fun r2 K7 s7 e7 => ⟨sz, fun r3 K8 s8 e8 => ⟨sz, fun r4 K9 s9 e9 => ⟨sz, fun l2 K10 s10 e10 _ => ?_⟩⟩⟩⟩⟩
      have t9 := s10
      have t8 := s9.trans t9
      have t7 := s8.trans t8
      have t6 := s7.trans t7
      have t5 := s6.trans t6
      have t4 := s5.trans t5
      have t3 := s4.trans t4
      have t2 := s3.trans t3
      have t1 := s2.trans t2
      refine ⟨_, _, .lst (SqL.of (t5 _ _ e5)) (.cons (dp2 (sT t1 e1)) (.cons (dp2 (sT t2 e2)) (.cons (dp2 (sT t3 e3)) (.cons (dp2 (sT t4 e4)) .nil)))),
        .lst (SqL.of e10) (.cons (dp2 (sT t6 e6)) (.cons (dp2 (sT t7 e7)) (.cons (dp2 (sT t8 e8)) (.cons (dp2 (sT t9 e9)) .nil)))), rfl, rfl, _, rfl, iteB (by decide +kernel) ?_⟩
      refine ⟨4, 8, 7, rfl, by decide, by decide, by decide, by decide, by decide, by decide, _, rfl, iteB (by decide +kernel) ?_⟩
      refine ⟨4, 8, 7, rfl, by decide, by decide, by decide, by decide, by decide, by decide, _, rfl, ?_⟩
      exact q _
end
end TB
namespace TB
open PySem PySem.Spec PyProof.Rows L2
/-! ### the end -/
noncomputable def txt_mk {K : PySem.W.Frag} {h : Heap} {mg : Str → Option Value} (X : K.In h) (G : h.Ns mainGlobals mg)
    {f0 f1 f2 f3 f4 f5 f6 f7 f8 f9 f10 f11 f12 f13 f14 f15 f16 f17 f18 f19 f20 f21 f22 f23 f24 f25 f26 f27 f28 f29 f30 f31 f32 f33 f34 f35 : Addr} {od0 an0 od1 an1 od2 an2 od3 an3 od4 an4 od5 an5 od6 an6 od7 an7 od8 an8 od9 an9 od10 an10 od11 an11 od12 an12 od13 an13 od14 an14 od15 an15 od16 an16 od17 an17 od18 an18 od19 an19 od20 an20 od21 an21 od22 an22 od23 an23 od24 an24 od25 an25 od26 an26 od27 an27 od28 an28 od29 an29 od30 an30 od31 an31 od32 an32 od33 an33 od34 an34 od35 an35 : Option Addr} {sl0 sl1 sl2 sl3 sl4 sl5 sl6 sl7 sl8 sl9 sl10 sl11 sl12 sl13 sl14 sl15 sl16 sl17 sl18 sl19 sl20 sl21 sl22 sl23 sl24 sl25 sl26 sl27 sl28 sl29 sl30 sl31 sl32 sl33 sl34 sl35 : Array (Option Value)} {oc0 dc0 pm0 cd0 ct0 kV0 oc1 dc1 pm1 cd1 ct1 kV1 oc2 dc2 pm2 cd2 ct2 kV2 oc3 dc3 pm3 cd3 ct3 kV3 oc4 dc4 pm4 cd4 ct4 kV4 oc5 dc5 pm5 cd5 ct5 kV5 oc6 dc6 pm6 cd6 ct6 kV6 oc7 dc7 pm7 cd7 ct7 kV7 oc8 dc8 pm8 cd8 ct8 kV8 oc9 dc9 pm9 cd9 ct9 kV9 oc10 dc10 pm10 cd10 ct10 kV10 oc11 dc11 pm11 cd11 ct11 kV11 oc12 dc12 pm12 cd12 ct12 kV12 oc13 dc13 pm13 cd13 ct13 kV13 oc14 dc14 pm14 cd14 ct14 kV14 oc15 dc15 pm15 cd15 ct15 kV15 oc16 dc16 pm16 cd16 ct16 kV16 oc17 dc17 pm17 cd17 ct17 kV17 oc18 dc18 pm18 cd18 ct18 oc19 dc19 pm19 cd19 ct19 oc20 dc20 pm20 cd20 ct20 kV20 oc21 dc21 pm21 cd21 ct21 kV21 oc22 dc22 pm22 cd22 ct22 kV22 oc23 dc23 pm23 cd23 ct23 kV23 oc24 dc24 pm24 cd24 ct24 kV24 oc25 dc25 pm25 cd25 ct25 kV25 oc26 dc26 pm26 cd26 ct26 kV26 oc27 dc27 pm27 cd27 ct27 kV27 oc28 dc28 pm28 cd28 ct28 kV28 oc29 dc29 pm29 cd29 ct29 kV29 oc30 dc30 pm30 cd30 ct30 kV30 oc31 dc31 pm31 cd31 ct31 kV31 oc32 dc32 pm32 cd32 ct32 kV32 oc33 dc33 pm33 cd33 ct33 kV33 oc34 dc34 pm34 cd34 ct34 kV34 oc35 dc35 pm35 cd35 ct35 kV35 : Value} {D18 D19 : Addr} {tkk18 tkk19 : Tok} {tk0 tk1 : Tok}
    (a0 : PySem.W.nsIn K mainGlobals "is_integer" = some (some (.ref f0)))
    (l0 : K.lookup f0 = some ⟨oc0, od0, .func (PySem.W.fnOf "is_integer" "is_integer" (defArgs s_is_integer) (defBody s_is_integer) (defScope s_is_integer) .none kV0 dc0 pm0 an0 cd0 ct0), sl0⟩)
    (c0 : PySem.W.codeIn K cd0 "is_integer" = true)
    (k0 : PySem.W.keepIn K (.ref f0) = true)
    (a1 : PySem.W.nsIn K mainGlobals "is_short" = some (some (.ref f1)))
    (l1 : K.lookup f1 = some ⟨oc1, od1, .func (PySem.W.fnOf "is_short" "is_short" (defArgs s_is_short) (defBody s_is_short) (defScope s_is_short) .none kV1 dc1 pm1 an1 cd1 ct1), sl1⟩)
    (c1 : PySem.W.codeIn K cd1 "is_short" = true)
    (k1 : PySem.W.keepIn K (.ref f1) = true)
    (a2 : PySem.W.nsIn K mainGlobals "is_within" = some (some (.ref f2)))
    (l2 : K.lookup f2 = some ⟨oc2, od2, .func (PySem.W.fnOf "is_within" "is_within" (defArgs s_is_within) (defBody s_is_within) (defScope s_is_within) .none kV2 dc2 pm2 an2 cd2 ct2), sl2⟩)
    (c2 : PySem.W.codeIn K cd2 "is_within" = true)
    (k2 : PySem.W.keepIn K (.ref f2) = true)
    (a3 : PySem.W.nsIn K mainGlobals "require_within" = some (some (.ref f3)))
    (l3 : K.lookup f3 = some ⟨oc3, od3, .func (PySem.W.fnOf "require_within" "require_within" (defArgs s_require_within) (defBody s_require_within) (defScope s_require_within) .none kV3 dc3 pm3 an3 cd3 ct3), sl3⟩)
    (c3 : PySem.W.codeIn K cd3 "require_within" = true)
    (k3 : PySem.W.keepIn K (.ref f3) = true)
    (a4 : PySem.W.nsIn K mainGlobals "require_bit" = some (some (.ref f4)))
    (l4 : K.lookup f4 = some ⟨oc4, od4, .func (PySem.W.fnOf "require_bit" "require_bit" (defArgs s_require_bit) (defBody s_require_bit) (defScope s_require_bit) .none kV4 dc4 pm4 an4 cd4 ct4), sl4⟩)
    (c4 : PySem.W.codeIn K cd4 "require_bit" = true)
    (k4 : PySem.W.keepIn K (.ref f4) = true)
    (a5 : PySem.W.nsIn K mainGlobals "is_word_in" = some (some (.ref f5)))
    (l5 : K.lookup f5 = some ⟨oc5, od5, .func (PySem.W.fnOf "is_word_in" "is_word_in" (defArgs s_is_word_in) (defBody s_is_word_in) (defScope s_is_word_in) .none kV5 dc5 pm5 an5 cd5 ct5), sl5⟩)
    (c5 : PySem.W.codeIn K cd5 "is_word_in" = true)
    (k5 : PySem.W.keepIn K (.ref f5) = true)
    (a6 : PySem.W.nsIn K mainGlobals "require_width" = some (some (.ref f6)))
    (l6 : K.lookup f6 = some ⟨oc6, od6, .func (PySem.W.fnOf "require_width" "require_width" (defArgs s_require_width) (defBody s_require_width) (defScope s_require_width) .none kV6 dc6 pm6 an6 cd6 ct6), sl6⟩)
    (c6 : PySem.W.codeIn K cd6 "require_width" = true)
    (k6 : PySem.W.keepIn K (.ref f6) = true)
    (a7 : PySem.W.nsIn K mainGlobals "require_word" = some (some (.ref f7)))
    (l7 : K.lookup f7 = some ⟨oc7, od7, .func (PySem.W.fnOf "require_word" "require_word" (defArgs s_require_word) (defBody s_require_word) (defScope s_require_word) .none kV7 dc7 pm7 an7 cd7 ct7), sl7⟩)
    (c7 : PySem.W.codeIn K cd7 "require_word" = true)
    (k7 : PySem.W.keepIn K (.ref f7) = true)
    (a8 : PySem.W.nsIn K mainGlobals "require_one_word" = some (some (.ref f8)))
    (l8 : K.lookup f8 = some ⟨oc8, od8, .func (PySem.W.fnOf "require_one_word" "require_one_word" (defArgs s_require_one_word) (defBody s_require_one_word) (defScope s_require_one_word) .none kV8 dc8 pm8 an8 cd8 ct8), sl8⟩)
    (c8 : PySem.W.codeIn K cd8 "require_one_word" = true)
    (k8 : PySem.W.keepIn K (.ref f8) = true)
    (a9 : PySem.W.nsIn K mainGlobals "require_two_words" = some (some (.ref f9)))
    (l9 : K.lookup f9 = some ⟨oc9, od9, .func (PySem.W.fnOf "require_two_words" "require_two_words" (defArgs s_require_two_words) (defBody s_require_two_words) (defScope s_require_two_words) .none kV9 dc9 pm9 an9 cd9 ct9), sl9⟩)
    (c9 : PySem.W.codeIn K cd9 "require_two_words" = true)
    (k9 : PySem.W.keepIn K (.ref f9) = true)
    (a10 : PySem.W.nsIn K mainGlobals "bits_in" = some (some (.ref f10)))
    (l10 : K.lookup f10 = some ⟨oc10, od10, .func (PySem.W.fnOf "bits_in" "bits_in" (defArgs s_bits_in) (defBody s_bits_in) (defScope s_bits_in) .none kV10 dc10 pm10 an10 cd10 ct10), sl10⟩)
    (c10 : PySem.W.codeIn K cd10 "bits_in" = true)
    (k10 : PySem.W.keepIn K (.ref f10) = true)
    (a11 : PySem.W.nsIn K mainGlobals "signed_in" = some (some (.ref f11)))
    (l11 : K.lookup f11 = some ⟨oc11, od11, .func (PySem.W.fnOf "signed_in" "signed_in" (defArgs s_signed_in) (defBody s_signed_in) (defScope s_signed_in) .none kV11 dc11 pm11 an11 cd11 ct11), sl11⟩)
    (c11 : PySem.W.codeIn K cd11 "signed_in" = true)
    (k11 : PySem.W.keepIn K (.ref f11) = true)
    (a12 : PySem.W.nsIn K mainGlobals "carries_in" = some (some (.ref f12)))
    (l12 : K.lookup f12 = some ⟨oc12, od12, .func (PySem.W.fnOf "carries_in" "carries_in" (defArgs s_carries_in) (defBody s_carries_in) (defScope s_carries_in) .none kV12 dc12 pm12 an12 cd12 ct12), sl12⟩)
    (c12 : PySem.W.codeIn K cd12 "carries_in" = true)
    (k12 : PySem.W.keepIn K (.ref f12) = true)
    (a13 : PySem.W.nsIn K mainGlobals "added_in" = some (some (.ref f13)))
    (l13 : K.lookup f13 = some ⟨oc13, od13, .func (PySem.W.fnOf "added_in" "added_in" (defArgs s_added_in) (defBody s_added_in) (defScope s_added_in) .none kV13 dc13 pm13 an13 cd13 ct13), sl13⟩)
    (c13 : PySem.W.codeIn K cd13 "added_in" = true)
    (k13 : PySem.W.keepIn K (.ref f13) = true)
    (a14 : PySem.W.nsIn K mainGlobals "lessened_in" = some (some (.ref f14)))
    (l14 : K.lookup f14 = some ⟨oc14, od14, .func (PySem.W.fnOf "lessened_in" "lessened_in" (defArgs s_lessened_in) (defBody s_lessened_in) (defScope s_lessened_in) .none kV14 dc14 pm14 an14 cd14 ct14), sl14⟩)
    (c14 : PySem.W.codeIn K cd14 "lessened_in" = true)
    (k14 : PySem.W.keepIn K (.ref f14) = true)
    (a15 : PySem.W.nsIn K mainGlobals "cut_in" = some (some (.ref f15)))
    (l15 : K.lookup f15 = some ⟨oc15, od15, .func (PySem.W.fnOf "cut_in" "cut_in" (defArgs s_cut_in) (defBody s_cut_in) (defScope s_cut_in) .none kV15 dc15 pm15 an15 cd15 ct15), sl15⟩)
    (c15 : PySem.W.codeIn K cd15 "cut_in" = true)
    (k15 : PySem.W.keepIn K (.ref f15) = true)
    (a16 : PySem.W.nsIn K mainGlobals "wrapped" = some (some (.ref f16)))
    (l16 : K.lookup f16 = some ⟨oc16, od16, .func (PySem.W.fnOf "wrapped" "wrapped" (defArgs s_wrapped) (defBody s_wrapped) (defScope s_wrapped) .none kV16 dc16 pm16 an16 cd16 ct16), sl16⟩)
    (c16 : PySem.W.codeIn K cd16 "wrapped" = true)
    (k16 : PySem.W.keepIn K (.ref f16) = true)
    (a17 : PySem.W.nsIn K mainGlobals "signed" = some (some (.ref f17)))
    (l17 : K.lookup f17 = some ⟨oc17, od17, .func (PySem.W.fnOf "signed" "signed" (defArgs s_signed) (defBody s_signed) (defScope s_signed) .none kV17 dc17 pm17 an17 cd17 ct17), sl17⟩)
    (c17 : PySem.W.codeIn K cd17 "signed" = true)
    (k17 : PySem.W.keepIn K (.ref f17) = true)
    (a18 : PySem.W.nsIn K mainGlobals "carries" = some (some (.ref f18)))
    (l18 : K.lookup f18 = some ⟨oc18, od18, .func (PySem.W.fnOf "carries" "carries" (defArgs s_carries) (defBody s_carries) (defScope s_carries) .none (.ref D18) dc18 pm18 an18 cd18 ct18), sl18⟩)
    (c18 : PySem.W.codeIn K cd18 "carries" = true)
    (k18 : PySem.W.keepIn K (.ref f18) = true)
    (kd18 : PySem.W.nsIn K D18 "first" = some (some (.int 0 tkk18)))
    (a19 : PySem.W.nsIn K mainGlobals "added" = some (some (.ref f19)))
    (l19 : K.lookup f19 = some ⟨oc19, od19, .func (PySem.W.fnOf "added" "added" (defArgs s_added) (defBody s_added) (defScope s_added) .none (.ref D19) dc19 pm19 an19 cd19 ct19), sl19⟩)
    (c19 : PySem.W.codeIn K cd19 "added" = true)
    (k19 : PySem.W.keepIn K (.ref f19) = true)
    (kd19 : PySem.W.nsIn K D19 "first" = some (some (.int 0 tkk19)))
    (a20 : PySem.W.nsIn K mainGlobals "lessened" = some (some (.ref f20)))
    (l20 : K.lookup f20 = some ⟨oc20, od20, .func (PySem.W.fnOf "lessened" "lessened" (defArgs s_lessened) (defBody s_lessened) (defScope s_lessened) .none kV20 dc20 pm20 an20 cd20 ct20), sl20⟩)
    (c20 : PySem.W.codeIn K cd20 "lessened" = true)
    (k20 : PySem.W.keepIn K (.ref f20) = true)
    (a21 : PySem.W.nsIn K mainGlobals "is_below" = some (some (.ref f21)))
    (l21 : K.lookup f21 = some ⟨oc21, od21, .func (PySem.W.fnOf "is_below" "is_below" (defArgs s_is_below) (defBody s_is_below) (defScope s_is_below) .none kV21 dc21 pm21 an21 cd21 ct21), sl21⟩)
    (c21 : PySem.W.codeIn K cd21 "is_below" = true)
    (k21 : PySem.W.keepIn K (.ref f21) = true)
    (a22 : PySem.W.nsIn K mainGlobals "is_under" = some (some (.ref f22)))
    (l22 : K.lookup f22 = some ⟨oc22, od22, .func (PySem.W.fnOf "is_under" "is_under" (defArgs s_is_under) (defBody s_is_under) (defScope s_is_under) .none kV22 dc22 pm22 an22 cd22 ct22), sl22⟩)
    (c22 : PySem.W.codeIn K cd22 "is_under" = true)
    (k22 : PySem.W.keepIn K (.ref f22) = true)
    (a23 : PySem.W.nsIn K mainGlobals "cut" = some (some (.ref f23)))
    (l23 : K.lookup f23 = some ⟨oc23, od23, .func (PySem.W.fnOf "cut" "cut" (defArgs s_cut) (defBody s_cut) (defScope s_cut) .none kV23 dc23 pm23 an23 cd23 ct23), sl23⟩)
    (c23 : PySem.W.codeIn K cd23 "cut" = true)
    (k23 : PySem.W.keepIn K (.ref f23) = true)
    (a24 : PySem.W.nsIn K mainGlobals "_law_dice" = some (some (.ref f24)))
    (l24 : K.lookup f24 = some ⟨oc24, od24, .func (PySem.W.fnOf "_law_dice" "_law_dice" (defArgs s__law_dice) (defBody s__law_dice) (defScope s__law_dice) .none kV24 dc24 pm24 an24 cd24 ct24), sl24⟩)
    (c24 : PySem.W.codeIn K cd24 "_law_dice" = true)
    (k24 : PySem.W.keepIn K (.ref f24) = true)
    (a25 : PySem.W.nsIn K mainGlobals "_law_roll" = some (some (.ref f25)))
    (l25 : K.lookup f25 = some ⟨oc25, od25, .func (PySem.W.fnOf "_law_roll" "_law_roll" (defArgs s__law_roll) (defBody s__law_roll) (defScope s__law_roll) .none kV25 dc25 pm25 an25 cd25 ct25), sl25⟩)
    (c25 : PySem.W.codeIn K cd25 "_law_roll" = true)
    (k25 : PySem.W.keepIn K (.ref f25) = true)
    (a26 : PySem.W.nsIn K mainGlobals "_law_one_of" = some (some (.ref f26)))
    (l26 : K.lookup f26 = some ⟨oc26, od26, .func (PySem.W.fnOf "_law_one_of" "_law_one_of" (defArgs s__law_one_of) (defBody s__law_one_of) (defScope s__law_one_of) .none kV26 dc26 pm26 an26 cd26 ct26), sl26⟩)
    (c26 : PySem.W.codeIn K cd26 "_law_one_of" = true)
    (k26 : PySem.W.keepIn K (.ref f26) = true)
    (a27 : PySem.W.nsIn K mainGlobals "_law_two_to" = some (some (.ref f27)))
    (l27 : K.lookup f27 = some ⟨oc27, od27, .func (PySem.W.fnOf "_law_two_to" "_law_two_to" (defArgs s__law_two_to) (defBody s__law_two_to) (defScope s__law_two_to) .none kV27 dc27 pm27 an27 cd27 ct27), sl27⟩)
    (c27 : PySem.W.codeIn K cd27 "_law_two_to" = true)
    (k27 : PySem.W.keepIn K (.ref f27) = true)
    (a28 : PySem.W.nsIn K mainGlobals "_law_word_drawn" = some (some (.ref f28)))
    (l28 : K.lookup f28 = some ⟨oc28, od28, .func (PySem.W.fnOf "_law_word_drawn" "_law_word_drawn" (defArgs s__law_word_drawn) (defBody s__law_word_drawn) (defScope s__law_word_drawn) .none kV28 dc28 pm28 an28 cd28 ct28), sl28⟩)
    (c28 : PySem.W.codeIn K cd28 "_law_word_drawn" = true)
    (k28 : PySem.W.keepIn K (.ref f28) = true)
    (a29 : PySem.W.nsIn K mainGlobals "_law_bits" = some (some (.ref f29)))
    (l29 : K.lookup f29 = some ⟨oc29, od29, .func (PySem.W.fnOf "_law_bits" "_law_bits" (defArgs s__law_bits) (defBody s__law_bits) (defScope s__law_bits) .none kV29 dc29 pm29 an29 cd29 ct29), sl29⟩)
    (c29 : PySem.W.codeIn K cd29 "_law_bits" = true)
    (k29 : PySem.W.keepIn K (.ref f29) = true)
    (a30 : PySem.W.nsIn K mainGlobals "_law_of_bits" = some (some (.ref f30)))
    (l30 : K.lookup f30 = some ⟨oc30, od30, .func (PySem.W.fnOf "_law_of_bits" "_law_of_bits" (defArgs s__law_of_bits) (defBody s__law_of_bits) (defScope s__law_of_bits) .none kV30 dc30 pm30 an30 cd30 ct30), sl30⟩)
    (c30 : PySem.W.codeIn K cd30 "_law_of_bits" = true)
    (k30 : PySem.W.keepIn K (.ref f30) = true)
    (a31 : PySem.W.nsIn K mainGlobals "_law_rippled" = some (some (.ref f31)))
    (l31 : K.lookup f31 = some ⟨oc31, od31, .func (PySem.W.fnOf "_law_rippled" "_law_rippled" (defArgs s__law_rippled) (defBody s__law_rippled) (defScope s__law_rippled) .none kV31 dc31 pm31 an31 cd31 ct31), sl31⟩)
    (c31 : PySem.W.codeIn K cd31 "_law_rippled" = true)
    (k31 : PySem.W.keepIn K (.ref f31) = true)
    (a32 : PySem.W.nsIn K mainGlobals "_law_width_drawn" = some (some (.ref f32)))
    (l32 : K.lookup f32 = some ⟨oc32, od32, .func (PySem.W.fnOf "_law_width_drawn" "_law_width_drawn" (defArgs s__law_width_drawn) (defBody s__law_width_drawn) (defScope s__law_width_drawn) .none kV32 dc32 pm32 an32 cd32 ct32), sl32⟩)
    (c32 : PySem.W.codeIn K cd32 "_law_width_drawn" = true)
    (k32 : PySem.W.keepIn K (.ref f32) = true)
    (a33 : PySem.W.nsIn K mainGlobals "_law_orders_right" = some (some (.ref f33)))
    (l33 : K.lookup f33 = some ⟨oc33, od33, .func (PySem.W.fnOf "_law_orders_right" "_law_orders_right" (defArgs s__law_orders_right) (defBody s__law_orders_right) (defScope s__law_orders_right) .none kV33 dc33 pm33 an33 cd33 ct33), sl33⟩)
    (c33 : PySem.W.codeIn K cd33 "_law_orders_right" = true)
    (k33 : PySem.W.keepIn K (.ref f33) = true)
    (a34 : PySem.W.nsIn K mainGlobals "_law_right" = some (some (.ref f34)))
    (l34 : K.lookup f34 = some ⟨oc34, od34, .func (PySem.W.fnOf "_law_right" "_law_right" (defArgs s__law_right) (defBody s__law_right) (defScope s__law_right) .none kV34 dc34 pm34 an34 cd34 ct34), sl34⟩)
    (c34 : PySem.W.codeIn K cd34 "_law_right" = true)
    (k34 : PySem.W.keepIn K (.ref f34) = true)
    (a35 : PySem.W.nsIn K mainGlobals "law" = some (some (.ref f35)))
    (l35 : K.lookup f35 = some ⟨oc35, od35, .func (PySem.W.fnOf "law" "law" (defArgs s_law) (defBody s_law) (defScope s_law) .none kV35 dc35 pm35 an35 cd35 ct35), sl35⟩)
    (c35 : PySem.W.codeIn K cd35 "law" = true)
    (k35 : PySem.W.keepIn K (.ref f35) = true)
    (v0 : PySem.W.nsIn K mainGlobals "SIXTY" = some (some (.int (10 ^ 60) tk0)))
    (v1 : PySem.W.nsIn K mainGlobals "MAX_WIDTH" = some (some (.int 32 tk1)))
    (z0 : PySem.W.nsIn K mainGlobals "isinstance" = some none)
    (z1 : PySem.W.nsIn K mainGlobals "int" = some none)
    (z2 : PySem.W.nsIn K mainGlobals "bool" = some none)
    (z3 : PySem.W.nsIn K mainGlobals "tuple" = some none)
    (z4 : PySem.W.nsIn K mainGlobals "range" = some none)
    (z5 : PySem.W.nsIn K mainGlobals "zip" = some none)
    (z6 : PySem.W.nsIn K mainGlobals "len" = some none)
    (z7 : PySem.W.nsIn K mainGlobals "abs" = some none)
    (z8 : PySem.W.nsIn K mainGlobals "list" = some none)
    (z9 : PySem.W.nsIn K mainGlobals "max" = some none)
    (z10 : PySem.W.nsIn K mainGlobals "min" = some none)
    : Txt K mg :=
  ⟨defAt X G a0 l0 c0 k0 (fun _ _ _ _ _ _ us hl => match us, hl with | [_], _ => rfl),
   defAt X G a1 l1 c1 k1 (fun _ _ _ _ _ _ us hl => match us, hl with | [_], _ => rfl),
   defAt X G a2 l2 c2 k2 (fun _ _ _ _ _ _ us hl => match us, hl with | [_, _, _], _ => rfl),
   defAt X G a3 l3 c3 k3 (fun _ _ _ _ _ _ us hl => match us, hl with | [_, _, _], _ => rfl),
   defAt X G a4 l4 c4 k4 (fun _ _ _ _ _ _ us hl => match us, hl with | [_], _ => rfl),
   defAt X G a5 l5 c5 k5 (fun _ _ _ _ _ _ us hl => match us, hl with | [_, _], _ => rfl),
   defAt X G a6 l6 c6 k6 (fun _ _ _ _ _ _ us hl => match us, hl with | [_], _ => rfl),
   defAt X G a7 l7 c7 k7 (fun _ _ _ _ _ _ us hl => match us, hl with | [_, _], _ => rfl),
   defAt X G a8 l8 c8 k8 (fun _ _ _ _ _ _ us hl => match us, hl with | [_, _], _ => rfl),
   defAt X G a9 l9 c9 k9 (fun _ _ _ _ _ _ us hl => match us, hl with | [_, _, _], _ => rfl),
   defAt X G a10 l10 c10 k10 (fun _ _ _ _ _ _ us hl => match us, hl with | [_, _], _ => rfl),
   defAt X G a11 l11 c11 k11 (fun _ _ _ _ _ _ us hl => match us, hl with | [_, _], _ => rfl),
   defAt X G a12 l12 c12 k12 (fun _ _ _ _ _ _ us hl => match us, hl with | [_, _, _, _], _ => rfl),
   defAt X G a13 l13 c13 k13 (fun _ _ _ _ _ _ us hl => match us, hl with | [_, _, _, _], _ => rfl),
   defAt X G a14 l14 c14 k14 (fun _ _ _ _ _ _ us hl => match us, hl with | [_, _, _], _ => rfl),
   defAt X G a15 l15 c15 k15 (fun _ _ _ _ _ _ us hl => match us, hl with | [_, _, _], _ => rfl),
   defAt X G a16 l16 c16 k16 (fun _ _ _ _ _ _ us hl => match us, hl with | [_, _], _ => rfl),
   defAt X G a17 l17 c17 k17 (fun _ _ _ _ _ _ us hl => match us, hl with | [_, _], _ => rfl),
   Classical.choice (defKw X G a18 l18 c18 k18 kd18 rfl (fun _ _ _ _ _ _ us ks l1 l2 => match us, ks, l1, l2 with | [_, _, _], [_], _, _ => ⟨_, _, _, _, _, _, rfl, rfl, rfl⟩) (fun _ _ _ _ _ _ us ks l1 l2 => match us, ks, l1, l2 with | [_, _, _], [_], _, _ => rfl)),
   Classical.choice (defKw X G a19 l19 c19 k19 kd19 rfl (fun _ _ _ _ _ _ us ks l1 l2 => match us, ks, l1, l2 with | [_, _, _], [_], _, _ => ⟨_, _, _, _, _, _, rfl, rfl, rfl⟩) (fun _ _ _ _ _ _ us ks l1 l2 => match us, ks, l1, l2 with | [_, _, _], [_], _, _ => rfl)),
   defAt X G a20 l20 c20 k20 (fun _ _ _ _ _ _ us hl => match us, hl with | [_, _, _], _ => rfl),
   defAt X G a21 l21 c21 k21 (fun _ _ _ _ _ _ us hl => match us, hl with | [_, _, _], _ => rfl),
   defAt X G a22 l22 c22 k22 (fun _ _ _ _ _ _ us hl => match us, hl with | [_, _, _], _ => rfl),
   defAt X G a23 l23 c23 k23 (fun _ _ _ _ _ _ us hl => match us, hl with | [_, _, _, _], _ => rfl),
   defAt X G a24 l24 c24 k24 (fun _ _ _ _ _ _ us hl => match us, hl with | [_, _], _ => rfl),
   defAt X G a25 l25 c25 k25 (fun _ _ _ _ _ _ us hl => match us, hl with | [_, _], _ => rfl),
   defAt X G a26 l26 c26 k26 (fun _ _ _ _ _ _ us hl => match us, hl with | [_, _], _ => rfl),
   defAt X G a27 l27 c27 k27 (fun _ _ _ _ _ _ us hl => match us, hl with | [_], _ => rfl),
   defAt X G a28 l28 c28 k28 (fun _ _ _ _ _ _ us hl => match us, hl with | [_, _], _ => rfl),
   defAt X G a29 l29 c29 k29 (fun _ _ _ _ _ _ us hl => match us, hl with | [_, _], _ => rfl),
   defAt X G a30 l30 c30 k30 (fun _ _ _ _ _ _ us hl => match us, hl with | [_], _ => rfl),
   defAt X G a31 l31 c31 k31 (fun _ _ _ _ _ _ us hl => match us, hl with | [_, _, _, _], _ => rfl),
   defAt X G a32 l32 c32 k32 (fun _ _ _ _ _ _ us hl => match us, hl with | [_], _ => rfl),
   defAt X G a33 l33 c33 k33 (fun _ _ _ _ _ _ us hl => match us, hl with | [_, _, _], _ => rfl),
   defAt X G a34 l34 c34 k34 (fun _ _ _ _ _ _ us hl => match us, hl with | [_], _ => rfl),
   defAt X G a35 l35 c35 k35 (fun _ _ _ _ _ _ us hl => match us, hl with | [_], _ => rfl),
   ⟨_, PySem.W.mg_of X G v0, ⟨_, rfl⟩⟩,
   ⟨_, PySem.W.mg_of X G v1, ⟨_, rfl⟩⟩,
   PySem.W.mg_none_of X G z0,
   PySem.W.mg_none_of X G z1,
   PySem.W.mg_none_of X G z2,
   PySem.W.mg_none_of X G z3,
   PySem.W.mg_none_of X G z4,
   PySem.W.mg_none_of X G z5,
   PySem.W.mg_none_of X G z6,
   PySem.W.mg_none_of X G z7,
   PySem.W.mg_none_of X G z8,
   PySem.W.mg_none_of X G z9,
   PySem.W.mg_none_of X G z10⟩
theorem fin {l : PySem.W.OpenLaw} {w : World} {K : PySem.W.Frag} {h : Heap} {mg : Str → Option Value} {fa : Addr} (X : K.In h) (G : h.Ns mainGlobals mg) (hfa : mg "law" = some (.ref fa))
    {f0 f1 f2 f3 f4 f5 f6 f7 f8 f9 f10 f11 f12 f13 f14 f15 f16 f17 f18 f19 f20 f21 f22 f23 f24 f25 f26 f27 f28 f29 f30 f31 f32 f33 f34 f35 : Addr} {od0 an0 od1 an1 od2 an2 od3 an3 od4 an4 od5 an5 od6 an6 od7 an7 od8 an8 od9 an9 od10 an10 od11 an11 od12 an12 od13 an13 od14 an14 od15 an15 od16 an16 od17 an17 od18 an18 od19 an19 od20 an20 od21 an21 od22 an22 od23 an23 od24 an24 od25 an25 od26 an26 od27 an27 od28 an28 od29 an29 od30 an30 od31 an31 od32 an32 od33 an33 od34 an34 od35 an35 : Option Addr} {sl0 sl1 sl2 sl3 sl4 sl5 sl6 sl7 sl8 sl9 sl10 sl11 sl12 sl13 sl14 sl15 sl16 sl17 sl18 sl19 sl20 sl21 sl22 sl23 sl24 sl25 sl26 sl27 sl28 sl29 sl30 sl31 sl32 sl33 sl34 sl35 : Array (Option Value)} {oc0 dc0 pm0 cd0 ct0 kV0 oc1 dc1 pm1 cd1 ct1 kV1 oc2 dc2 pm2 cd2 ct2 kV2 oc3 dc3 pm3 cd3 ct3 kV3 oc4 dc4 pm4 cd4 ct4 kV4 oc5 dc5 pm5 cd5 ct5 kV5 oc6 dc6 pm6 cd6 ct6 kV6 oc7 dc7 pm7 cd7 ct7 kV7 oc8 dc8 pm8 cd8 ct8 kV8 oc9 dc9 pm9 cd9 ct9 kV9 oc10 dc10 pm10 cd10 ct10 kV10 oc11 dc11 pm11 cd11 ct11 kV11 oc12 dc12 pm12 cd12 ct12 kV12 oc13 dc13 pm13 cd13 ct13 kV13 oc14 dc14 pm14 cd14 ct14 kV14 oc15 dc15 pm15 cd15 ct15 kV15 oc16 dc16 pm16 cd16 ct16 kV16 oc17 dc17 pm17 cd17 ct17 kV17 oc18 dc18 pm18 cd18 ct18 oc19 dc19 pm19 cd19 ct19 oc20 dc20 pm20 cd20 ct20 kV20 oc21 dc21 pm21 cd21 ct21 kV21 oc22 dc22 pm22 cd22 ct22 kV22 oc23 dc23 pm23 cd23 ct23 kV23 oc24 dc24 pm24 cd24 ct24 kV24 oc25 dc25 pm25 cd25 ct25 kV25 oc26 dc26 pm26 cd26 ct26 kV26 oc27 dc27 pm27 cd27 ct27 kV27 oc28 dc28 pm28 cd28 ct28 kV28 oc29 dc29 pm29 cd29 ct29 kV29 oc30 dc30 pm30 cd30 ct30 kV30 oc31 dc31 pm31 cd31 ct31 kV31 oc32 dc32 pm32 cd32 ct32 kV32 oc33 dc33 pm33 cd33 ct33 kV33 oc34 dc34 pm34 cd34 ct34 kV34 oc35 dc35 pm35 cd35 ct35 kV35 : Value} {D18 D19 : Addr} {tkk18 tkk19 : Tok} {tk0 tk1 : Tok}
    (a0 : PySem.W.nsIn K mainGlobals "is_integer" = some (some (.ref f0)))
    (l0 : K.lookup f0 = some ⟨oc0, od0, .func (PySem.W.fnOf "is_integer" "is_integer" (defArgs s_is_integer) (defBody s_is_integer) (defScope s_is_integer) .none kV0 dc0 pm0 an0 cd0 ct0), sl0⟩)
    (c0 : PySem.W.codeIn K cd0 "is_integer" = true)
    (k0 : PySem.W.keepIn K (.ref f0) = true)
    (a1 : PySem.W.nsIn K mainGlobals "is_short" = some (some (.ref f1)))
    (l1 : K.lookup f1 = some ⟨oc1, od1, .func (PySem.W.fnOf "is_short" "is_short" (defArgs s_is_short) (defBody s_is_short) (defScope s_is_short) .none kV1 dc1 pm1 an1 cd1 ct1), sl1⟩)
    (c1 : PySem.W.codeIn K cd1 "is_short" = true)
    (k1 : PySem.W.keepIn K (.ref f1) = true)
    (a2 : PySem.W.nsIn K mainGlobals "is_within" = some (some (.ref f2)))
    (l2 : K.lookup f2 = some ⟨oc2, od2, .func (PySem.W.fnOf "is_within" "is_within" (defArgs s_is_within) (defBody s_is_within) (defScope s_is_within) .none kV2 dc2 pm2 an2 cd2 ct2), sl2⟩)
    (c2 : PySem.W.codeIn K cd2 "is_within" = true)
    (k2 : PySem.W.keepIn K (.ref f2) = true)
    (a3 : PySem.W.nsIn K mainGlobals "require_within" = some (some (.ref f3)))
    (l3 : K.lookup f3 = some ⟨oc3, od3, .func (PySem.W.fnOf "require_within" "require_within" (defArgs s_require_within) (defBody s_require_within) (defScope s_require_within) .none kV3 dc3 pm3 an3 cd3 ct3), sl3⟩)
    (c3 : PySem.W.codeIn K cd3 "require_within" = true)
    (k3 : PySem.W.keepIn K (.ref f3) = true)
    (a4 : PySem.W.nsIn K mainGlobals "require_bit" = some (some (.ref f4)))
    (l4 : K.lookup f4 = some ⟨oc4, od4, .func (PySem.W.fnOf "require_bit" "require_bit" (defArgs s_require_bit) (defBody s_require_bit) (defScope s_require_bit) .none kV4 dc4 pm4 an4 cd4 ct4), sl4⟩)
    (c4 : PySem.W.codeIn K cd4 "require_bit" = true)
    (k4 : PySem.W.keepIn K (.ref f4) = true)
    (a5 : PySem.W.nsIn K mainGlobals "is_word_in" = some (some (.ref f5)))
    (l5 : K.lookup f5 = some ⟨oc5, od5, .func (PySem.W.fnOf "is_word_in" "is_word_in" (defArgs s_is_word_in) (defBody s_is_word_in) (defScope s_is_word_in) .none kV5 dc5 pm5 an5 cd5 ct5), sl5⟩)
    (c5 : PySem.W.codeIn K cd5 "is_word_in" = true)
    (k5 : PySem.W.keepIn K (.ref f5) = true)
    (a6 : PySem.W.nsIn K mainGlobals "require_width" = some (some (.ref f6)))
    (l6 : K.lookup f6 = some ⟨oc6, od6, .func (PySem.W.fnOf "require_width" "require_width" (defArgs s_require_width) (defBody s_require_width) (defScope s_require_width) .none kV6 dc6 pm6 an6 cd6 ct6), sl6⟩)
    (c6 : PySem.W.codeIn K cd6 "require_width" = true)
    (k6 : PySem.W.keepIn K (.ref f6) = true)
    (a7 : PySem.W.nsIn K mainGlobals "require_word" = some (some (.ref f7)))
    (l7 : K.lookup f7 = some ⟨oc7, od7, .func (PySem.W.fnOf "require_word" "require_word" (defArgs s_require_word) (defBody s_require_word) (defScope s_require_word) .none kV7 dc7 pm7 an7 cd7 ct7), sl7⟩)
    (c7 : PySem.W.codeIn K cd7 "require_word" = true)
    (k7 : PySem.W.keepIn K (.ref f7) = true)
    (a8 : PySem.W.nsIn K mainGlobals "require_one_word" = some (some (.ref f8)))
    (l8 : K.lookup f8 = some ⟨oc8, od8, .func (PySem.W.fnOf "require_one_word" "require_one_word" (defArgs s_require_one_word) (defBody s_require_one_word) (defScope s_require_one_word) .none kV8 dc8 pm8 an8 cd8 ct8), sl8⟩)
    (c8 : PySem.W.codeIn K cd8 "require_one_word" = true)
    (k8 : PySem.W.keepIn K (.ref f8) = true)
    (a9 : PySem.W.nsIn K mainGlobals "require_two_words" = some (some (.ref f9)))
    (l9 : K.lookup f9 = some ⟨oc9, od9, .func (PySem.W.fnOf "require_two_words" "require_two_words" (defArgs s_require_two_words) (defBody s_require_two_words) (defScope s_require_two_words) .none kV9 dc9 pm9 an9 cd9 ct9), sl9⟩)
    (c9 : PySem.W.codeIn K cd9 "require_two_words" = true)
    (k9 : PySem.W.keepIn K (.ref f9) = true)
    (a10 : PySem.W.nsIn K mainGlobals "bits_in" = some (some (.ref f10)))
    (l10 : K.lookup f10 = some ⟨oc10, od10, .func (PySem.W.fnOf "bits_in" "bits_in" (defArgs s_bits_in) (defBody s_bits_in) (defScope s_bits_in) .none kV10 dc10 pm10 an10 cd10 ct10), sl10⟩)
    (c10 : PySem.W.codeIn K cd10 "bits_in" = true)
    (k10 : PySem.W.keepIn K (.ref f10) = true)
    (a11 : PySem.W.nsIn K mainGlobals "signed_in" = some (some (.ref f11)))
    (l11 : K.lookup f11 = some ⟨oc11, od11, .func (PySem.W.fnOf "signed_in" "signed_in" (defArgs s_signed_in) (defBody s_signed_in) (defScope s_signed_in) .none kV11 dc11 pm11 an11 cd11 ct11), sl11⟩)
    (c11 : PySem.W.codeIn K cd11 "signed_in" = true)
    (k11 : PySem.W.keepIn K (.ref f11) = true)
    (a12 : PySem.W.nsIn K mainGlobals "carries_in" = some (some (.ref f12)))
    (l12 : K.lookup f12 = some ⟨oc12, od12, .func (PySem.W.fnOf "carries_in" "carries_in" (defArgs s_carries_in) (defBody s_carries_in) (defScope s_carries_in) .none kV12 dc12 pm12 an12 cd12 ct12), sl12⟩)
    (c12 : PySem.W.codeIn K cd12 "carries_in" = true)
    (k12 : PySem.W.keepIn K (.ref f12) = true)
    (a13 : PySem.W.nsIn K mainGlobals "added_in" = some (some (.ref f13)))
    (l13 : K.lookup f13 = some ⟨oc13, od13, .func (PySem.W.fnOf "added_in" "added_in" (defArgs s_added_in) (defBody s_added_in) (defScope s_added_in) .none kV13 dc13 pm13 an13 cd13 ct13), sl13⟩)
    (c13 : PySem.W.codeIn K cd13 "added_in" = true)
    (k13 : PySem.W.keepIn K (.ref f13) = true)
    (a14 : PySem.W.nsIn K mainGlobals "lessened_in" = some (some (.ref f14)))
    (l14 : K.lookup f14 = some ⟨oc14, od14, .func (PySem.W.fnOf "lessened_in" "lessened_in" (defArgs s_lessened_in) (defBody s_lessened_in) (defScope s_lessened_in) .none kV14 dc14 pm14 an14 cd14 ct14), sl14⟩)
    (c14 : PySem.W.codeIn K cd14 "lessened_in" = true)
    (k14 : PySem.W.keepIn K (.ref f14) = true)
    (a15 : PySem.W.nsIn K mainGlobals "cut_in" = some (some (.ref f15)))
    (l15 : K.lookup f15 = some ⟨oc15, od15, .func (PySem.W.fnOf "cut_in" "cut_in" (defArgs s_cut_in) (defBody s_cut_in) (defScope s_cut_in) .none kV15 dc15 pm15 an15 cd15 ct15), sl15⟩)
    (c15 : PySem.W.codeIn K cd15 "cut_in" = true)
    (k15 : PySem.W.keepIn K (.ref f15) = true)
    (a16 : PySem.W.nsIn K mainGlobals "wrapped" = some (some (.ref f16)))
    (l16 : K.lookup f16 = some ⟨oc16, od16, .func (PySem.W.fnOf "wrapped" "wrapped" (defArgs s_wrapped) (defBody s_wrapped) (defScope s_wrapped) .none kV16 dc16 pm16 an16 cd16 ct16), sl16⟩)
    (c16 : PySem.W.codeIn K cd16 "wrapped" = true)
    (k16 : PySem.W.keepIn K (.ref f16) = true)
    (a17 : PySem.W.nsIn K mainGlobals "signed" = some (some (.ref f17)))
    (l17 : K.lookup f17 = some ⟨oc17, od17, .func (PySem.W.fnOf "signed" "signed" (defArgs s_signed) (defBody s_signed) (defScope s_signed) .none kV17 dc17 pm17 an17 cd17 ct17), sl17⟩)
    (c17 : PySem.W.codeIn K cd17 "signed" = true)
    (k17 : PySem.W.keepIn K (.ref f17) = true)
    (a18 : PySem.W.nsIn K mainGlobals "carries" = some (some (.ref f18)))
    (l18 : K.lookup f18 = some ⟨oc18, od18, .func (PySem.W.fnOf "carries" "carries" (defArgs s_carries) (defBody s_carries) (defScope s_carries) .none (.ref D18) dc18 pm18 an18 cd18 ct18), sl18⟩)
    (c18 : PySem.W.codeIn K cd18 "carries" = true)
    (k18 : PySem.W.keepIn K (.ref f18) = true)
    (kd18 : PySem.W.nsIn K D18 "first" = some (some (.int 0 tkk18)))
    (a19 : PySem.W.nsIn K mainGlobals "added" = some (some (.ref f19)))
    (l19 : K.lookup f19 = some ⟨oc19, od19, .func (PySem.W.fnOf "added" "added" (defArgs s_added) (defBody s_added) (defScope s_added) .none (.ref D19) dc19 pm19 an19 cd19 ct19), sl19⟩)
    (c19 : PySem.W.codeIn K cd19 "added" = true)
    (k19 : PySem.W.keepIn K (.ref f19) = true)
    (kd19 : PySem.W.nsIn K D19 "first" = some (some (.int 0 tkk19)))
    (a20 : PySem.W.nsIn K mainGlobals "lessened" = some (some (.ref f20)))
    (l20 : K.lookup f20 = some ⟨oc20, od20, .func (PySem.W.fnOf "lessened" "lessened" (defArgs s_lessened) (defBody s_lessened) (defScope s_lessened) .none kV20 dc20 pm20 an20 cd20 ct20), sl20⟩)
    (c20 : PySem.W.codeIn K cd20 "lessened" = true)
    (k20 : PySem.W.keepIn K (.ref f20) = true)
    (a21 : PySem.W.nsIn K mainGlobals "is_below" = some (some (.ref f21)))
    (l21 : K.lookup f21 = some ⟨oc21, od21, .func (PySem.W.fnOf "is_below" "is_below" (defArgs s_is_below) (defBody s_is_below) (defScope s_is_below) .none kV21 dc21 pm21 an21 cd21 ct21), sl21⟩)
    (c21 : PySem.W.codeIn K cd21 "is_below" = true)
    (k21 : PySem.W.keepIn K (.ref f21) = true)
    (a22 : PySem.W.nsIn K mainGlobals "is_under" = some (some (.ref f22)))
    (l22 : K.lookup f22 = some ⟨oc22, od22, .func (PySem.W.fnOf "is_under" "is_under" (defArgs s_is_under) (defBody s_is_under) (defScope s_is_under) .none kV22 dc22 pm22 an22 cd22 ct22), sl22⟩)
    (c22 : PySem.W.codeIn K cd22 "is_under" = true)
    (k22 : PySem.W.keepIn K (.ref f22) = true)
    (a23 : PySem.W.nsIn K mainGlobals "cut" = some (some (.ref f23)))
    (l23 : K.lookup f23 = some ⟨oc23, od23, .func (PySem.W.fnOf "cut" "cut" (defArgs s_cut) (defBody s_cut) (defScope s_cut) .none kV23 dc23 pm23 an23 cd23 ct23), sl23⟩)
    (c23 : PySem.W.codeIn K cd23 "cut" = true)
    (k23 : PySem.W.keepIn K (.ref f23) = true)
    (a24 : PySem.W.nsIn K mainGlobals "_law_dice" = some (some (.ref f24)))
    (l24 : K.lookup f24 = some ⟨oc24, od24, .func (PySem.W.fnOf "_law_dice" "_law_dice" (defArgs s__law_dice) (defBody s__law_dice) (defScope s__law_dice) .none kV24 dc24 pm24 an24 cd24 ct24), sl24⟩)
    (c24 : PySem.W.codeIn K cd24 "_law_dice" = true)
    (k24 : PySem.W.keepIn K (.ref f24) = true)
    (a25 : PySem.W.nsIn K mainGlobals "_law_roll" = some (some (.ref f25)))
    (l25 : K.lookup f25 = some ⟨oc25, od25, .func (PySem.W.fnOf "_law_roll" "_law_roll" (defArgs s__law_roll) (defBody s__law_roll) (defScope s__law_roll) .none kV25 dc25 pm25 an25 cd25 ct25), sl25⟩)
    (c25 : PySem.W.codeIn K cd25 "_law_roll" = true)
    (k25 : PySem.W.keepIn K (.ref f25) = true)
    (a26 : PySem.W.nsIn K mainGlobals "_law_one_of" = some (some (.ref f26)))
    (l26 : K.lookup f26 = some ⟨oc26, od26, .func (PySem.W.fnOf "_law_one_of" "_law_one_of" (defArgs s__law_one_of) (defBody s__law_one_of) (defScope s__law_one_of) .none kV26 dc26 pm26 an26 cd26 ct26), sl26⟩)
    (c26 : PySem.W.codeIn K cd26 "_law_one_of" = true)
    (k26 : PySem.W.keepIn K (.ref f26) = true)
    (a27 : PySem.W.nsIn K mainGlobals "_law_two_to" = some (some (.ref f27)))
    (l27 : K.lookup f27 = some ⟨oc27, od27, .func (PySem.W.fnOf "_law_two_to" "_law_two_to" (defArgs s__law_two_to) (defBody s__law_two_to) (defScope s__law_two_to) .none kV27 dc27 pm27 an27 cd27 ct27), sl27⟩)
    (c27 : PySem.W.codeIn K cd27 "_law_two_to" = true)
    (k27 : PySem.W.keepIn K (.ref f27) = true)
    (a28 : PySem.W.nsIn K mainGlobals "_law_word_drawn" = some (some (.ref f28)))
    (l28 : K.lookup f28 = some ⟨oc28, od28, .func (PySem.W.fnOf "_law_word_drawn" "_law_word_drawn" (defArgs s__law_word_drawn) (defBody s__law_word_drawn) (defScope s__law_word_drawn) .none kV28 dc28 pm28 an28 cd28 ct28), sl28⟩)
    (c28 : PySem.W.codeIn K cd28 "_law_word_drawn" = true)
    (k28 : PySem.W.keepIn K (.ref f28) = true)
    (a29 : PySem.W.nsIn K mainGlobals "_law_bits" = some (some (.ref f29)))
    (l29 : K.lookup f29 = some ⟨oc29, od29, .func (PySem.W.fnOf "_law_bits" "_law_bits" (defArgs s__law_bits) (defBody s__law_bits) (defScope s__law_bits) .none kV29 dc29 pm29 an29 cd29 ct29), sl29⟩)
    (c29 : PySem.W.codeIn K cd29 "_law_bits" = true)
    (k29 : PySem.W.keepIn K (.ref f29) = true)
    (a30 : PySem.W.nsIn K mainGlobals "_law_of_bits" = some (some (.ref f30)))
    (l30 : K.lookup f30 = some ⟨oc30, od30, .func (PySem.W.fnOf "_law_of_bits" "_law_of_bits" (defArgs s__law_of_bits) (defBody s__law_of_bits) (defScope s__law_of_bits) .none kV30 dc30 pm30 an30 cd30 ct30), sl30⟩)
    (c30 : PySem.W.codeIn K cd30 "_law_of_bits" = true)
    (k30 : PySem.W.keepIn K (.ref f30) = true)
    (a31 : PySem.W.nsIn K mainGlobals "_law_rippled" = some (some (.ref f31)))
    (l31 : K.lookup f31 = some ⟨oc31, od31, .func (PySem.W.fnOf "_law_rippled" "_law_rippled" (defArgs s__law_rippled) (defBody s__law_rippled) (defScope s__law_rippled) .none kV31 dc31 pm31 an31 cd31 ct31), sl31⟩)
    (c31 : PySem.W.codeIn K cd31 "_law_rippled" = true)
    (k31 : PySem.W.keepIn K (.ref f31) = true)
    (a32 : PySem.W.nsIn K mainGlobals "_law_width_drawn" = some (some (.ref f32)))
    (l32 : K.lookup f32 = some ⟨oc32, od32, .func (PySem.W.fnOf "_law_width_drawn" "_law_width_drawn" (defArgs s__law_width_drawn) (defBody s__law_width_drawn) (defScope s__law_width_drawn) .none kV32 dc32 pm32 an32 cd32 ct32), sl32⟩)
    (c32 : PySem.W.codeIn K cd32 "_law_width_drawn" = true)
    (k32 : PySem.W.keepIn K (.ref f32) = true)
    (a33 : PySem.W.nsIn K mainGlobals "_law_orders_right" = some (some (.ref f33)))
    (l33 : K.lookup f33 = some ⟨oc33, od33, .func (PySem.W.fnOf "_law_orders_right" "_law_orders_right" (defArgs s__law_orders_right) (defBody s__law_orders_right) (defScope s__law_orders_right) .none kV33 dc33 pm33 an33 cd33 ct33), sl33⟩)
    (c33 : PySem.W.codeIn K cd33 "_law_orders_right" = true)
    (k33 : PySem.W.keepIn K (.ref f33) = true)
    (a34 : PySem.W.nsIn K mainGlobals "_law_right" = some (some (.ref f34)))
    (l34 : K.lookup f34 = some ⟨oc34, od34, .func (PySem.W.fnOf "_law_right" "_law_right" (defArgs s__law_right) (defBody s__law_right) (defScope s__law_right) .none kV34 dc34 pm34 an34 cd34 ct34), sl34⟩)
    (c34 : PySem.W.codeIn K cd34 "_law_right" = true)
    (k34 : PySem.W.keepIn K (.ref f34) = true)
    (a35 : PySem.W.nsIn K mainGlobals "law" = some (some (.ref f35)))
    (l35 : K.lookup f35 = some ⟨oc35, od35, .func (PySem.W.fnOf "law" "law" (defArgs s_law) (defBody s_law) (defScope s_law) .none kV35 dc35 pm35 an35 cd35 ct35), sl35⟩)
    (c35 : PySem.W.codeIn K cd35 "law" = true)
    (k35 : PySem.W.keepIn K (.ref f35) = true)
    (v0 : PySem.W.nsIn K mainGlobals "SIXTY" = some (some (.int (10 ^ 60) tk0)))
    (v1 : PySem.W.nsIn K mainGlobals "MAX_WIDTH" = some (some (.int 32 tk1)))
    (z0 : PySem.W.nsIn K mainGlobals "isinstance" = some none)
    (z1 : PySem.W.nsIn K mainGlobals "int" = some none)
    (z2 : PySem.W.nsIn K mainGlobals "bool" = some none)
    (z3 : PySem.W.nsIn K mainGlobals "tuple" = some none)
    (z4 : PySem.W.nsIn K mainGlobals "range" = some none)
    (z5 : PySem.W.nsIn K mainGlobals "zip" = some none)
    (z6 : PySem.W.nsIn K mainGlobals "len" = some none)
    (z7 : PySem.W.nsIn K mainGlobals "abs" = some none)
    (z8 : PySem.W.nsIn K mainGlobals "list" = some none)
    (z9 : PySem.W.nsIn K mainGlobals "max" = some none)
    (z10 : PySem.W.nsIn K mainGlobals "min" = some none)
    : ∃ fd : FuncData, (∀ (s : Shared) (v : Value), BindsTo s fd ⟨[v], []⟩ [("_law_script", v)]) ∧ ∀ base : Heap, K.In base → base.Ns mainGlobals mg → FnOk l.prog w K mg base CX0 10 fa fd ["_law_script"] (sp_law K) := by
  have e := hfa.symm.trans (PySem.W.mg_of X G a35)
  cases e
  exact ⟨PySem.W.fnOf "law" "law" (defArgs s_law) (defBody s_law) (defScope s_law) .none kV35 dc35 pm35 an35 cd35 ct35, fun s v => .of_eq rfl, fun base _ _ => ok_law (txt_mk X G a0 l0 c0 k0 a1 l1 c1 k1 a2 l2 c2 k2 a3 l3 c3 k3 a4 l4 c4 k4 a5 l5 c5 k5 a6 l6 c6 k6 a7 l7 c7 k7 a8 l8 c8 k8 a9 l9 c9 k9 a10 l10 c10 k10 a11 l11 c11 k11 a12 l12 c12 k12 a13 l13 c13 k13 a14 l14 c14 k14 a15 l15 c15 k15 a16 l16 c16 k16 a17 l17 c17 k17 a18 l18 c18 k18 kd18 a19 l19 c19 k19 kd19 a20 l20 c20 k20 a21 l21 c21 k21 a22 l22 c22 k22 a23 l23 c23 k23 a24 l24 c24 k24 a25 l25 c25 k25 a26 l26 c26 k26 a27 l27 c27 k27 a28 l28 c28 k28 a29 l29 c29 k29 a30 l30 c30 k30 a31 l31 c31 k31 a32 l32 c32 k32 a33 l33 c33 k33 a34 l34 c34 k34 a35 l35 c35 k35 v0 v1 z0 z1 z2 z3 z4 z5 z6 z7 z8 z9 z10)⟩
end TB
open PySem PySem.W PyProof.Rows
set_option maxRecDepth 100000 in
set_option maxHeartbeats 0 in
theorem PySem.Challenge.cw_truebeat_k01_whole_sums_and_carries_holds : PySem.Challenge.rw_truebeat_k01_whole_sums_and_carries.Holds := by
  w_on; o_law; k_head; (case hw => w_witness2)
  k_fill
  refine L2.walk_of (l := PySem.Challenge.rw_truebeat_k01_whole_sums_and_carries) (n := 63) (k := 10) (x := "_law_script") (CX := fun _ => L2.CX0) (sp := fun w => TB.sp_law _) rfl (by decide) rfl ⟨rfl, by decide, by decide⟩ (fun w h Y => PySem.W.kIn_of Y) ?F (fun _ _ a ns hl _ hS => ⟨a, ns, rfl, hS, hl, fun _ => rfl⟩) (fun _ _ _ _ _ h => h)
  case F =>
    intro w mg fa h KX G hmg
    refine' TB.fin KX G hmg ?a0 ?l0 ?c0 ?k0 ?a1 ?l1 ?c1 ?k1 ?a2 ?l2 ?c2 ?k2 ?a3 ?l3 ?c3 ?k3 ?a4 ?l4 ?c4 ?k4 ?a5 ?l5 ?c5 ?k5 ?a6 ?l6 ?c6 ?k6 ?a7 ?l7 ?c7 ?k7 ?a8 ?l8 ?c8 ?k8 ?a9 ?l9 ?c9 ?k9 ?a10 ?l10 ?c10 ?k10 ?a11 ?l11 ?c11 ?k11 ?a12 ?l12 ?c12 ?k12 ?a13 ?l13 ?c13 ?k13 ?a14 ?l14 ?c14 ?k14 ?a15 ?l15 ?c15 ?k15 ?a16 ?l16 ?c16 ?k16 ?a17 ?l17 ?c17 ?k17 ?a18 ?l18 ?c18 ?k18 ?kd18 ?a19 ?l19 ?c19 ?k19 ?kd19 ?a20 ?l20 ?c20 ?k20 ?a21 ?l21 ?c21 ?k21 ?a22 ?l22 ?c22 ?k22 ?a23 ?l23 ?c23 ?k23 ?a24 ?l24 ?c24 ?k24 ?a25 ?l25 ?c25 ?k25 ?a26 ?l26 ?c26 ?k26 ?a27 ?l27 ?c27 ?k27 ?a28 ?l28 ?c28 ?k28 ?a29 ?l29 ?c29 ?k29 ?a30 ?l30 ?c30 ?k30 ?a31 ?l31 ?c31 ?k31 ?a32 ?l32 ?c32 ?k32 ?a33 ?l33 ?c33 ?k33 ?a34 ?l34 ?c34 ?k34 ?a35 ?l35 ?c35 ?k35 ?v0 ?v1 ?z0 ?z1 ?z2 ?z3 ?z4 ?z5 ?z6 ?z7 ?z8 ?z9 ?z10
    (case a0 => k_is)
    (case l0 => k_is)
    (case c0 => k_is)
    (case k0 => k_is)
    (case a1 => k_is)
    (case l1 => k_is)
    (case c1 => k_is)
    (case k1 => k_is)
    (case a2 => k_is)
    (case l2 => k_is)
    (case c2 => k_is)
    (case k2 => k_is)
    (case a3 => k_is)
    (case l3 => k_is)
    (case c3 => k_is)
    (case k3 => k_is)
    (case a4 => k_is)
    (case l4 => k_is)
    (case c4 => k_is)
    (case k4 => k_is)
    (case a5 => k_is)
    (case l5 => k_is)
    (case c5 => k_is)
    (case k5 => k_is)
    (case a6 => k_is)
    (case l6 => k_is)
    (case c6 => k_is)
    (case k6 => k_is)
    (case a7 => k_is)
    (case l7 => k_is)
    (case c7 => k_is)
    (case k7 => k_is)
    (case a8 => k_is)
    (case l8 => k_is)
    (case c8 => k_is)
    (case k8 => k_is)
    (case a9 => k_is)
    (case l9 => k_is)
    (case c9 => k_is)
    (case k9 => k_is)
    (case a10 => k_is)
    (case l10 => k_is)
    (case c10 => k_is)
    (case k10 => k_is)
    (case a11 => k_is)
    (case l11 => k_is)
    (case c11 => k_is)
    (case k11 => k_is)
    (case a12 => k_is)
    (case l12 => k_is)
    (case c12 => k_is)
    (case k12 => k_is)
    (case a13 => k_is)
    (case l13 => k_is)
    (case c13 => k_is)
    (case k13 => k_is)
    (case a14 => k_is)
    (case l14 => k_is)
    (case c14 => k_is)
    (case k14 => k_is)
    (case a15 => k_is)
    (case l15 => k_is)
    (case c15 => k_is)
    (case k15 => k_is)
    (case a16 => k_is)
    (case l16 => k_is)
    (case c16 => k_is)
    (case k16 => k_is)
    (case a17 => k_is)
    (case l17 => k_is)
    (case c17 => k_is)
    (case k17 => k_is)
    (case a18 => k_is)
    (case l18 => k_is)
    (case c18 => k_is)
    (case k18 => k_is)
    (case kd18 => k_is)
    (case a19 => k_is)
    (case l19 => k_is)
    (case c19 => k_is)
    (case k19 => k_is)
    (case kd19 => k_is)
    (case a20 => k_is)
    (case l20 => k_is)
    (case c20 => k_is)
    (case k20 => k_is)
    (case a21 => k_is)
    (case l21 => k_is)
    (case c21 => k_is)
    (case k21 => k_is)
    (case a22 => k_is)
    (case l22 => k_is)
    (case c22 => k_is)
    (case k22 => k_is)
    (case a23 => k_is)
    (case l23 => k_is)
    (case c23 => k_is)
    (case k23 => k_is)
    (case a24 => k_is)
    (case l24 => k_is)
    (case c24 => k_is)
    (case k24 => k_is)
    (case a25 => k_is)
    (case l25 => k_is)
    (case c25 => k_is)
    (case k25 => k_is)
    (case a26 => k_is)
    (case l26 => k_is)
    (case c26 => k_is)
    (case k26 => k_is)
    (case a27 => k_is)
    (case l27 => k_is)
    (case c27 => k_is)
    (case k27 => k_is)
    (case a28 => k_is)
    (case l28 => k_is)
    (case c28 => k_is)
    (case k28 => k_is)
    (case a29 => k_is)
    (case l29 => k_is)
    (case c29 => k_is)
    (case k29 => k_is)
    (case a30 => k_is)
    (case l30 => k_is)
    (case c30 => k_is)
    (case k30 => k_is)
    (case a31 => k_is)
    (case l31 => k_is)
    (case c31 => k_is)
    (case k31 => k_is)
    (case a32 => k_is)
    (case l32 => k_is)
    (case c32 => k_is)
    (case k32 => k_is)
    (case a33 => k_is)
    (case l33 => k_is)
    (case c33 => k_is)
    (case k33 => k_is)
    (case a34 => k_is)
    (case l34 => k_is)
    (case c34 => k_is)
    (case k34 => k_is)
    (case a35 => k_is)
    (case l35 => k_is)
    (case c35 => k_is)
    (case k35 => k_is)
    (case v0 => k_is)
    (case v1 => k_is)
    (case z0 => k_is)
    (case z1 => k_is)
    (case z2 => k_is)
    (case z3 => k_is)
    (case z4 => k_is)
    (case z5 => k_is)
    (case z6 => k_is)
    (case z7 => k_is)
    (case z8 => k_is)
    (case z9 => k_is)
    (case z10 => k_is)
#print axioms PySem.Challenge.cw_truebeat_k01_whole_sums_and_carries_holds
