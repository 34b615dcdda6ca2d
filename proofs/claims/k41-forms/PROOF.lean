import PyProof.Rows.All
import Wide.All
import OpenK.AllK
import Wide.FinOn
import HandS.ForMost
import HandS.ForExc
import HandS.TupAny
import HandS.TupMul
import HandS.IsInst
import HandS.RevRange
import HandS.RaiseMore
import HandS.Flow
import HandS.Deep
import HandS.Conv
import HandS.Codes
import HandS.ExcInit
import HandS.ExcField
import HandS.TryMany
import HandS.ReplaceDef
import KE.KExcSuper
import KE.KSuper
import HandS.ExcOwn
import HandS.WordsExc
import HandS.ReplaceLit
import HandS.Ends
import PyProof.ReprRoads
import HandS.ReplaceList
import PyProof.P3Eq
import KE.RegKSuper
import PySem.Challenge.RW_turnmaps_k41_forms_there_and_back
set_option Elab.async false
set_option linter.all false
set_option maxRecDepth 100000
/-! J: one rule for each operation, whatever the values are. -/
namespace J
open PySem PySem.Spec PyProof.Rows L2

abbrev Fs := L2.St
section
variable {X : Cx}
theorem ORi {f : Value → Value → Sem Value} {r r' : R2} (h : OpR X f r) (i : ∀ x y H Q, r' x y H Q → r x y H Q) : OpR X f r' := fun pins s σ H x y v u Q I a b q => h pins s σ H x y v u Q I a b (i x y H Q q)
theorem CRi {f : Value} {r r' : List V → Hp → VK → Prop} (h : CallR X f r) (i : ∀ xs H Q, r' xs H Q → r xs H Q) : CallR X f r' := fun pins s σ H xs us Q I a q => h pins s σ H xs us Q I a (i xs H Q q)
theorem IXi {r r' : R2} (h : IxR X r) (i : ∀ x y H Q, r' x y H Q → r x y H Q) : IxR X r' := fun va sl pins s σ H x y v u Q I a b q => h va sl pins s σ H x y v u Q I a b (i x y H Q q)
theorem SLi {r r' : V → Option Int → Option Int → Hp → VK → Prop} (h : SlR X r) (i : ∀ x lo hi H Q, r' x lo hi H Q → r x lo hi H Q) : SlR X r' := fun pins s σ H x v vl vu lo hi sl Q I a b c d q => h pins s σ H x v vl vu lo hi sl Q I a b c d (i x lo hi H Q q)

/-! ### + -/
def rAddU (K : PySem.W.Frag) : R2 := fun x y H Q => match x, y with
  | .int i, .int j => Q (.int (i + j)) H
  | .str a, .str b => a.length + b.length ≤ sizeLine ∧ Q (.str (a ++ b)) H
  | .ref a, .ref b => (∃ xs zs, H a = some (.lst xs) ∧ H b = some (.lst zs) ∧ xs.length + zs.length ≤ sizeLine ∧ ∀ p, H p = none → Q (.ref p) (upd H p (.lst (xs ++ zs)))) ∨ rCatA K (.ref a) (.ref b) H Q
  | _, _ => False
theorem u_add : OpR X (binaryOp .Add) (rAddU X.K) := ORi (op_add.or (op_add_str.or (op_cat.or op_catA))) fun x y H Q q => by
  cases x with
  | int i => cases y with
    | int j => exact .inl ⟨i, j, rfl, rfl, q⟩
    | _ => exact q.elim
  | str a => cases y with
    | str b => exact .inr (.inl ⟨a, b, rfl, rfl, q.1, q.2⟩)
    | _ => exact q.elim
  | ref a => cases y with
    | ref b =>
      rcases q with ⟨xs, zs, h1, h2, h3, h4⟩ | q
      · exact .inr (.inr (.inl ⟨a, b, xs, zs, rfl, rfl, h1, h2, h3, h4⟩))
      · exact .inr (.inr (.inr q))
    | _ => exact q.elim
  | _ => exact q.elim
/-! ### * -/
def rMulS : R2 := fun x y H Q => ∃ z k, x = .str z ∧ y = .int k ∧ MulOk z k ∧ Q (.str (Txt.mul z k)) H
theorem op_mulS : OpR X (binaryOp .Mult) rMulS := by
  intro pins s σ H x y v u Q I rx ry h
  obtain ⟨z, k, rfl, rfl, hk, q⟩ := h
  obtain ⟨t, rfl⟩ := rx
  obtain ⟨t', rfl⟩ := ry
  exact PySem.SB.mul hk fun t2 k2 => ⟨.str _, H, I.tok _, ⟨_, rfl⟩, q⟩
def rMulU : R2 := fun x y H Q => match x, y with
  | .int i, .int j => CMul i j ∧ Q (.int (i * j)) H
  | .str z, .int k => MulOk z k ∧ Q (.str (Txt.mul z k)) H
  | .ref l, .int k => ∃ xs, H l = some (.lst xs) ∧ -(2 ^ 63) ≤ k ∧ k < 2 ^ 63 ∧ xs.length * k.toNat ≤ sizeLine ∧ ∀ p, H p = none → Q (.ref p) (upd H p (.lst (List.replicate k.toNat xs).flatten))
  | _, _ => False
theorem u_mul : OpR X (binaryOp .Mult) rMulU := ORi (op_mul.or (op_mulS.or op_rep)) fun x y H Q q => by
  cases x with
  | int i => cases y with
    | int j => exact .inl ⟨i, j, rfl, rfl, q.1, q.2⟩
    | _ => exact q.elim
  | str a => cases y with
    | int b => exact .inr (.inl ⟨a, b, rfl, rfl, q.1, q.2⟩)
    | _ => exact q.elim
  | ref a => cases y with
    | int b =>
      obtain ⟨xs, h1, h2, h3, h4, h5⟩ := q
      exact .inr (.inr ⟨a, b, xs, rfl, rfl, h1, h2, h3, h4, h5⟩)
    | _ => exact q.elim
  | _ => exact q.elim
/-! ### -, %, //, **, < .. on ints -/
def rI2 (C : Int → Int → Prop) (g : Int → Int → V) : R2 := fun x y H Q => match x, y with
  | .int i, .int j => C i j ∧ Q (g i j) H
  | _, _ => False
def rI1 (g : Int → Int → V) : R2 := fun x y H Q => match x, y with
  | .int i, .int j => Q (g i j) H
  | _, _ => False
theorem toI2 {f : Value → Value → Sem Value} {C : Int → Int → Prop} {g : Int → Int → V} (h : OpR X f (rI C g)) : OpR X f (rI2 C g) := ORi h fun x y H Q q => by
  cases x with
  | int i => cases y with
    | int j => exact ⟨i, j, rfl, rfl, q.1, q.2⟩
    | _ => exact q.elim
  | _ => exact q.elim
theorem toI1 {f : Value → Value → Sem Value} {g : Int → Int → V} (h : OpR X f (rI0 g)) : OpR X f (rI1 g) := ORi h fun x y H Q q => by
  cases x with
  | int i => cases y with
    | int j => exact ⟨i, j, rfl, rfl, q⟩
    | _ => exact q.elim
  | _ => exact q.elim
theorem u_sub : OpR X (binaryOp .Sub) (rI1 fun i j => .int (i - j)) := toI1 op_sub
theorem u_mod : OpR X (binaryOp .Mod) (rI2 (fun _ j => 0 < j) fun i j => .int (i % j)) := toI2 op_mod
theorem u_fdiv : OpR X (binaryOp .FloorDiv) (rI2 CDiv fun i j => .int (i / j)) := toI2 op_fdiv
theorem u_pow : OpR X (binaryOp .Pow) (rI2 CPow fun i j => .int (i ^ j.toNat)) := toI2 op_pow
theorem u_xor : OpR X (binaryOp .BitXor) (rI1 fun i j => .int (Builtin.bitXor i j)) := toI1 op_xor
theorem u_lt : OpR X (compareOp .Lt) (rI1 fun i j => .bl (decide (i < j))) := toI1 op_lt
theorem u_le : OpR X (compareOp .LtE) (rI1 fun i j => .bl (decide (i ≤ j))) := toI1 op_le
theorem u_gt : OpR X (compareOp .Gt) (rI1 fun i j => .bl (decide (j < i))) := toI1 op_gt
theorem u_ge : OpR X (compareOp .GtE) (rI1 fun i j => .bl (decide (j ≤ i))) := toI1 op_ge
def rNegU : V → Hp → VK → Prop := fun x H Q => match x with
  | .int i => Q (.int (-i)) H
  | _ => False
theorem u_neg : UnR X (unaryOp .USub) rNegU := fun pins s σ H x v Q I rx q => by
  cases x with
  | int i => exact un_neg pins s σ H (.int i) v Q I rx ⟨i, rfl, q⟩
  | _ => exact q.elim
/-! ### ==, != -/
def rEqU (K : PySem.W.Frag) : R2 := fun x y H Q => match x, y with
  | .int i, .int j => Q (.bl (decide (i = j))) H
  | .str i, .str j => Q (.bl (decide (i = j))) H
  | .bl i, .bl j => Q (.bl (decide (i = j))) H
  | .int _, .str _ => Q (.bl false) H
  | .str _, .int _ => Q (.bl false) H
  | x, y => rEqD K x y H Q
def rNeU (K : PySem.W.Frag) : R2 := fun x y H Q => match x, y with
  | .int i, .int j => Q (.bl (!decide (i = j))) H
  | .str i, .str j => Q (.bl (!decide (i = j))) H
  | .bl i, .bl j => Q (.bl (!decide (i = j))) H
  | .int _, .str _ => Q (.bl true) H
  | .str _, .int _ => Q (.bl true) H
  | x, y => rNeD K x y H Q
theorem decV {α : Type} [DecidableEq α] (f : α → V) (hf : ∀ a b, f a = f b → a = b) (i j : α) : decide (f i = f j) = decide (i = j) := by
  by_cases h : i = j
  · rw [h, decide_eq_true rfl, decide_eq_true rfl]
  · rw [decide_eq_false h, decide_eq_false fun e => h (hf _ _ e)]
theorem u_eq (hu : X.A.units + 64 < cLine) : OpR X (compareOp .Eq) (rEqU X.K) := ORi (op_eq.or (op_eqD hu)) fun x y H Q q => by
  unfold rEqU at q
  split at q
  · exact .inl ⟨rfl, by rw [decV V.int fun _ _ => V.int.inj]; exact q⟩
  · exact .inl ⟨rfl, by rw [decV V.str fun _ _ => V.str.inj]; exact q⟩
  · exact .inl ⟨rfl, by rw [decV V.bl fun _ _ => V.bl.inj]; exact q⟩
  · exact .inl ⟨rfl, by rw [decide_eq_false (by intro h; cases h)]; exact q⟩
  · exact .inl ⟨rfl, by rw [decide_eq_false (by intro h; cases h)]; exact q⟩
  · exact .inr q
theorem u_ne (hu : X.A.units + 64 < cLine) : OpR X (compareOp .NotEq) (rNeU X.K) := ORi (op_ne.or (op_neD hu)) fun x y H Q q => by
  unfold rNeU at q
  split at q
  · exact .inl ⟨rfl, by rw [decV V.int fun _ _ => V.int.inj]; exact q⟩
  · exact .inl ⟨rfl, by rw [decV V.str fun _ _ => V.str.inj]; exact q⟩
  · exact .inl ⟨rfl, by rw [decV V.bl fun _ _ => V.bl.inj]; exact q⟩
  · exact .inl ⟨rfl, by rw [decide_eq_false (by intro h; cases h)]; exact q⟩
  · exact .inl ⟨rfl, by rw [decide_eq_false (by intro h; cases h)]; exact q⟩
  · exact .inr q
def rIsU : R2 := fun x y H Q => match y with
  | .non => Q (.bl (decide (x = .non))) H
  | _ => False
def rIsntU : R2 := fun x y H Q => match y with
  | .non => Q (.bl (!decide (x = .non))) H
  | _ => False
theorem u_is : OpR X (compareOp .Is) rIsU := ORi op_isN fun x y H Q q => by
  cases y with
  | non => exact ⟨rfl, q⟩
  | _ => exact q.elim
theorem u_isnt : OpR X (compareOp .IsNot) rIsntU := ORi op_notN fun x y H Q q => by
  cases y with
  | non => exact ⟨rfl, q⟩
  | _ => exact q.elim
/-! ### in -/
def rInU (K : PySem.W.Frag) : R2 := fun x y H Q => match x, y with
  | .str c, .str z => ∃ n, c = ⟨#[n]⟩ ∧ Q (.bl (decide (n ∈ z.cps.toList))) H
  | x, .ref p => ∃ xs, (SqL K H p xs ∨ SqT K H p xs) ∧ flatV x = true ∧ xs.all flatV = true ∧ Q (.bl (inV x xs)) H
  | _, _ => False
def rNinU (K : PySem.W.Frag) : R2 := fun x y H Q => match x, y with
  | .str c, .str z => ∃ n, c = ⟨#[n]⟩ ∧ Q (.bl (!decide (n ∈ z.cps.toList))) H
  | x, .ref p => ∃ xs, (SqL K H p xs ∨ SqT K H p xs) ∧ flatV x = true ∧ xs.all flatV = true ∧ Q (.bl (!inV x xs)) H
  | _, _ => False
theorem u_in : OpR X (compareOp .In) (rInU X.K) := ORi (op_in_sign.or op_in_seq) fun x y H Q q => by
  unfold rInU at q
  split at q
  · obtain ⟨n, rfl, q⟩ := q
    exact .inl ⟨n, _, rfl, rfl, q⟩
  · obtain ⟨xs, h1, h2, h3, q⟩ := q
    exact .inr ⟨_, xs, rfl, h1, h2, h3, q⟩
  · exact q.elim
theorem u_notin : OpR X (compareOp .NotIn) (rNinU X.K) := ORi (op_notIn_sign.or op_notIn_seq) fun x y H Q q => by
  unfold rNinU at q
  split at q
  · obtain ⟨n, rfl, q⟩ := q
    exact .inl ⟨n, _, rfl, rfl, q⟩
  · obtain ⟨xs, h1, h2, h3, q⟩ := q
    exact .inr ⟨_, xs, rfl, h1, h2, h3, q⟩
  · exact q.elim
/-! ### items, slices -/
def rIxU (K : PySem.W.Frag) : R2 := fun x y H Q => match x, y with
  | .ref p, .int i => ∃ xs, (SqL K H p xs ∨ SqT K H p xs) ∧ ∃ v, atI xs i = some v ∧ Q v H
  | .str z, .int i => z.length ≤ sizeLine ∧ ∃ c, atI z.cps.toList i = some c ∧ Q (.str ⟨#[c]⟩) H
  | _, _ => False
theorem u_ix : IxR X (rIxU X.K) := IXi ix_seq fun x y H Q q => by
  unfold rIxU at q
  split at q
  · obtain ⟨xs, h | h, v, h2, q⟩ := q
    · exact .inl ⟨_, xs, _, v, rfl, rfl, h, h2, q⟩
    · exact .inr (.inl ⟨_, xs, _, v, rfl, rfl, h, h2, q⟩)
  · obtain ⟨h, c, h2, q⟩ := q
    exact .inr (.inr ⟨_, _, c, rfl, rfl, h, h2, q⟩)
  · exact q.elim
def rSlU (K : PySem.W.Frag) : V → Option Int → Option Int → Hp → VK → Prop := fun x lo hi H Q => match x with
  | .str z => z.length ≤ sizeLine ∧ Q (.str (cutS z lo hi)) H
  | .ref a => (∃ xs, SqL K H a xs ∧ ∀ p, H p = none → Q (.ref p) (upd H p (.lst (cutV xs lo hi)))) ∨
      ∃ xs, SqT K H a xs ∧ (HT.sIx xs.length 0 lo = 0 ∧ HT.sIx xs.length xs.length hi = xs.length → Q (.ref a) H) ∧ (¬ (HT.sIx xs.length 0 lo = 0 ∧ HT.sIx xs.length xs.length hi = xs.length) → ∀ p, H p = none → Q (.ref p) (upd H p (.tup (cutV xs lo hi))))
  | _ => False
theorem u_sl : SlR X (rSlU X.K) := SLi (sl_list.or (sl_str.or sl_tupA)) fun x lo hi H Q q => by
  cases x with
  | str z => exact .inr (.inl ⟨z, rfl, q.1, q.2⟩)
  | ref a =>
    rcases q with ⟨xs, h, q⟩ | ⟨xs, h, q1, q2⟩
    · exact .inl ⟨a, xs, rfl, h, q⟩
    · exact .inr (.inr ⟨a, xs, rfl, h, q1, q2⟩)
  | _ => exact q.elim
/-! ### built-ins -/
def rLenU (K : PySem.W.Frag) : List V → Hp → VK → Prop := fun xs H Q => match xs with
  | [.ref p] => ∃ ys, (SqL K H p ys ∨ SqT K H p ys) ∧ Q (.int ys.length) H
  | [.str z] => z.length ≤ sizeLine ∧ Q (.int z.length) H
  | _ => False
theorem u_len : CallR X (.builtin "len") (rLenU X.K) := CRi (call_len_seq.or call_len_str) fun xs H Q q => by
  unfold rLenU at q
  split at q
  · obtain ⟨ys, h, q⟩ := q
    exact .inl ⟨_, ys, rfl, h, q⟩
  · exact .inr ⟨_, rfl, q.1, q.2⟩
  · exact q.elim
def rTupleU (K : PySem.W.Frag) : List V → Hp → VK → Prop := fun xs H Q => match xs with
  | [.ref p] => ∃ ys, (SqL K H p ys ∧ ∀ l, H l = none → Q (.ref l) (upd H l (.tup ys))) ∨ (SqT K H p ys ∧ Q (.ref p) H)
  | _ => False
theorem u_tuple : CallR X (.type "tuple") (rTupleU X.K) := CRi call_tuple_of fun xs H Q q => by
  unfold rTupleU at q
  split at q
  · obtain ⟨ys, h⟩ := q
    exact ⟨_, ys, rfl, h⟩
  · exact q.elim
def rIntU : List V → Hp → VK → Prop := fun xs H Q => match xs with
  | [.int i] => Q (.int i) H
  | [.bl k] => Q (.int (if k then 1 else 0)) H
  | [.str a] => ∃ n, PySem.intText? a = some n ∧ a.length ≤ 640 ∧ Q (.int n) H
  | _ => False
theorem u_int : CallR X (.type "int") rIntU := CRi (call_int1.or call_int_str) fun xs H Q q => by
  unfold rIntU at q
  split at q
  · exact .inl (.inl ⟨_, rfl, q⟩)
  · exact .inl (.inr ⟨_, rfl, q⟩)
  · obtain ⟨n, h1, h2, q⟩ := q
    exact .inr ⟨_, n, rfl, h1, h2, q⟩
  · exact q.elim
def rStrU : List V → Hp → VK → Prop := fun xs H Q => match xs with
  | [.int i] => i.natAbs.log2 < 1920 ∧ Q (.str (toString i)) H
  | [.str a] => Q (.str a) H
  | _ => False
theorem u_str : CallR X (.type "str") rStrU := CRi (call_str_int.or SkE.call_str_str) fun xs H Q q => by
  unfold rStrU at q
  split at q
  · exact .inl ⟨_, rfl, q.1, q.2⟩
  · exact .inr ⟨_, rfl, q⟩
  · exact q.elim
def rAbsU : List V → Hp → VK → Prop := fun xs H Q => match xs with
  | [.int i] => Q (.int (if i < 0 then -i else i)) H
  | _ => False
theorem u_abs : CallR X (.builtin "abs") rAbsU := CRi call_abs fun xs H Q q => by
  unfold rAbsU at q
  split at q
  · exact ⟨_, rfl, q⟩
  · exact q.elim
def rMaxU : List V → Hp → VK → Prop := fun xs H Q => match xs with
  | [.int i, .int j] => Q (.int (if j > i then j else i)) H
  | _ => False
theorem u_max (hc : X.calm = true := by rfl) : CallR X (.builtin "max") rMaxU := CRi (call_max2 hc) fun xs H Q q => by
  unfold rMaxU at q
  split at q
  · exact ⟨_, _, rfl, q⟩
  · exact q.elim
def rMinU : List V → Hp → VK → Prop := fun xs H Q => match xs with
  | [.int i, .int j] => Q (.int (if j < i then j else i)) H
  | _ => False
theorem u_min (hc : X.calm = true := by rfl) : CallR X (.builtin "min") rMinU := CRi (call_min2 hc) fun xs H Q q => by
  unfold rMinU at q
  split at q
  · exact ⟨_, _, rfl, q⟩
  · exact q.elim
theorem u_all (hc : X.calm = true := by rfl) : CallR X (.builtin "all") (rAll X.K) := cr_all hc
theorem u_isinstance : CallR X (.builtin "isinstance") (rIsi X.K) := call_isi
theorem pi_or {tg l : Expr} {w w' : TI} (h : PI X tg l w) (h' : PI X tg l w') : PI X tg l (fun σ H R => w σ H R ∨ w' σ H R) := ⟨fun pins s σ H R I q => q.elim (h.run pins s σ H R I) (h'.run pins s σ H R I)⟩

/-- a value's truth, as a test -/
def Tr (K : PySem.W.Frag) (x : V) (H : Hp) (B : Bool → Hp → Prop) : Prop := ∃ k, TruV K x H k ∧ B k H
def tTru (K : PySem.W.Frag) (ta : TE) : TT := fun σ H B => ta σ H fun x H' => Tr K x H' B
/-- a def of the text that stands behind the top and keeps a promise -/
def Has (P : Program) (w : World) (K : PySem.W.Frag) (mg : Str → Option Value) (base : Heap) (CX : CXT) (x : Str) (ps : List Str) (k : Nat) (sp : Sp) : Prop :=
  ∃ f fd, FnOk P w K mg base CX k f fd ps sp ∧ mg x = some (.ref f) ∧ PySem.W.keepIn K (.ref f) = true ∧ Binds K fd ps []
theorem pe_has {CX : CXT} {x : Str} {ps : List Str} {k j : Nat} {sp : Sp} {p pos : Pos} {e : Expr} {es : List Expr} {E : XK} {t : TA} (h : Has X.prog X.w X.K X.mg X.base CX x ps k sp) (hr : Room j X.A) (hg : Gl X x) (hx : Passes CX X E) (ha : PA X (e :: es) t) (hk : k ≤ j := by decide)
    (hdb : (x == ("__debug__" : Str)) = false := by decide) (he : starEach (e :: es) X.env = (false, eval e X.env) :: starEach es X.env := by rfl) (hpl : (backTo pos (starEach es X.env)).any (·.1) = false := by rfl) :
    PE X (.Call (.Name x p) (e :: es) [] pos) (tCall sp [] E t) := by
  obtain ⟨f, fd, F, m, kp, b⟩ := h
  exact pe_call F (hr.mono hk) hg m kp b .nil hx ha hdb he hpl
theorem pe_has0 {CX : CXT} {x : Str} {ps : List Str} {k j : Nat} {sp : Sp} {p pos : Pos} {E : XK} (h : Has X.prog X.w X.K X.mg X.base CX x ps k sp) (hr : Room j X.A) (hg : Gl X x) (hx : Passes CX X E) (hk : k ≤ j := by decide)
    (hdb : (x == ("__debug__" : Str)) = false := by decide) : PE X (.Call (.Name x p) [] [] pos) (tCall sp [] E tNil) := by
  obtain ⟨f, fd, F, m, kp, b⟩ := h
  exact pe_call0 F (hr.mono hk) hg m kp b .nil hx hdb
/-- a module's int, a module's text -/
theorem g_int {x : Str} {i : Int} {pos : Pos} (h : ∃ t, X.mg x = some (.int i t)) (hg : Gl X x) (hd : (x == ("__debug__" : Str)) = false := by decide) : PE X (.Name x pos) (tC (.int i)) := by
  obtain ⟨t, h⟩ := h
  exact pe_glob hg h ⟨_, rfl⟩ hd
theorem g_str {x z : Str} {pos : Pos} (h : ∃ t, X.mg x = some (.str z t)) (hg : Gl X x) (hd : (x == ("__debug__" : Str)) = false := by decide) : PE X (.Name x pos) (tC (.str z)) := by
  obtain ⟨t, h⟩ := h
  exact pe_glob hg h ⟨_, rfl⟩ hd
/-! the same, the written part by its name -/
variable {K : PySem.W.Frag}
theorem k_add (hK : X.K = K) : OpR X (binaryOp .Add) (rAddU K) := by subst hK; exact u_add
theorem k_eq (hK : X.K = K) (hu : X.A.units + 64 < cLine) : OpR X (compareOp .Eq) (rEqU K) := by subst hK; exact u_eq hu
theorem k_ne (hK : X.K = K) (hu : X.A.units + 64 < cLine) : OpR X (compareOp .NotEq) (rNeU K) := by subst hK; exact u_ne hu
theorem k_in (hK : X.K = K) : OpR X (compareOp .In) (rInU K) := by subst hK; exact u_in
theorem k_notin (hK : X.K = K) : OpR X (compareOp .NotIn) (rNinU K) := by subst hK; exact u_notin
theorem k_ix (hK : X.K = K) : IxR X (rIxU K) := by subst hK; exact u_ix
theorem k_sl (hK : X.K = K) : SlR X (rSlU K) := by subst hK; exact u_sl
theorem k_len (hK : X.K = K) : CallR X (.builtin "len") (rLenU K) := by subst hK; exact u_len
theorem k_tuple (hK : X.K = K) : CallR X (.type "tuple") (rTupleU K) := by subst hK; exact u_tuple
theorem k_all (hK : X.K = K) (hc : X.calm = true := by rfl) : CallR X (.builtin "all") (rAll K) := by subst hK; exact u_all hc
theorem k_isinstance (hK : X.K = K) : CallR X (.builtin "isinstance") (rIsi K) := by subst hK; exact u_isinstance
theorem k_truth (hK : X.K = K) {a : Expr} {ta : TE} (ha : PE X a ta) (he : ∀ whole, isTrue a X.env whole = (do let v ← whole; standAt a.pos; holding [v] (truthy v)) := by intro _; rfl) :
    PT X a (tTru K ta) := by subst hK; exact pt_truth ha he
theorem k_list (hK : X.K = K) {tg l : Expr} {tl : TE} (hl : PE X l tl) : PI X tg l (iList K tl) := by subst hK; exact pi_list hl
theorem k_tup (hK : X.K = K) {tg l : Expr} {tl : TE} (hl : PE X l tl) : PI X tg l (iTup K tl) := by subst hK; exact pi_tup hl
end

/-! ### steps: what a reading asks, one construct at a time -/
section
variable {K : PySem.W.Frag} {σ : Fs} {H : Hp} {Q : VK} {B : Bool → Hp → Prop} {v x y : V} {i j : Int} {n : Nat} {ta tb tc : TE} {tt uu : TT} {t u : TS} {r r' : R2} {nx bk ct : Fs → Hp → Prop} {rt : VK} {ar : TA} {A : List V → Hp → Prop} {p l : Addr} {xs ys : List V} {G : Fs → Hp → Prop} {g : TG}
theorem s_var (h : σ[n]? = some (some v)) (q : Q v H) : tVar n σ H Q := ⟨v, h, q⟩
theorem s_c (q : Q v H) : tC v σ H Q := q
theorem s_op (q : ta σ H fun x H1 => tb σ H1 fun y H2 => r x y H2 Q) : tOp r ta tb σ H Q := q
theorem s_un {r : V → Hp → VK → Prop} (q : ta σ H fun x H1 => r x H1 Q) : tUn r ta σ H Q := q
theorem s_cb {r : List V → Hp → VK → Prop} (q : ar σ H fun vs H1 => r vs H1 Q) : tCB r ar σ H Q := q
theorem s_call {sp : Sp} {dvs : List V} {E : XK} (q : ar σ H fun vs H1 => sp (vs ++ dvs) H1 Q E) : tCall sp dvs E ar σ H Q := q
theorem s_nil (q : A [] H) : tNil σ H A := q
theorem s_cons (q : ta σ H fun x H1 => ar σ H1 fun xs H2 => A (x :: xs) H2) : tCons ta ar σ H A := q
theorem s_tup (q : ar σ H fun xs H1 => xs.length ≤ sizeLine ∧ ∀ p, H1 p = none → Q (.ref p) (upd H1 p (.tup xs))) : tTup ar σ H Q := q
theorem s_lst (q : ar σ H fun xs H1 => xs.length ≤ sizeLine ∧ ∀ p, H1 p = none → Q (.ref p) (upd H1 p (.lst xs))) : tLst ar σ H Q := q
theorem s_test (q : ta σ H fun x H' => ∃ k, x = .bl k ∧ B k H') : tTest ta σ H B := q
theorem s_chain (q : ta σ H fun x H1 => tb σ H1 fun y H2 => r x y H2 fun z H3 => ∃ k, z = .bl k ∧ (if k = true then tc σ H3 fun w' H4 => r' y w' H4 Q else Q (.bl false) H3)) : tChain r r' ta tb tc σ H Q := q
theorem s_and (q : tt σ H fun c H1 => if c = true then uu σ H1 B else B false H1) : tAnd tt uu σ H B := q
theorem s_or (q : tt σ H fun c H1 => if c = true then B true H1 else uu σ H1 B) : tOr tt uu σ H B := q
theorem s_not (q : tt σ H fun c H1 => B (!c) H1) : tNot tt σ H B := q
theorem s_andV (q : ta σ H fun x H1 => ∃ c, x = .bl c ∧ if c = true then tb σ H1 Q else Q (.bl false) H1) : tAndV ta tb σ H Q := q
theorem s_orV (q : ta σ H fun x H1 => ∃ c, x = .bl c ∧ if c = true then Q (.bl true) H1 else tb σ H1 Q) : tOrV ta tb σ H Q := q
theorem s_ifE (q : tt σ H fun c H1 => if c = true then ta σ H1 Q else tb σ H1 Q) : tIf tt ta tb σ H Q := q
theorem s_sl {r : V → Option Int → Option Int → Hp → VK → Prop} {tl th : TO} (q : ta σ H fun x H1 => tl σ H1 fun l H2 => th σ H2 fun u H3 => r x l u H3 Q) : tSl r ta tl th σ H Q := q
theorem s_nopart {O : Option Int → Hp → Prop} (q : O none H) : tNoPart σ H O := q
theorem s_part {O : Option Int → Hp → Prop} (q : ta σ H fun x H1 => ∃ i, x = .int i ∧ O (some i) H1) : tPart ta σ H O := q
theorem s_next (q : nx σ H) : tNext ⟨nx, rt, bk, ct⟩ σ H := q
theorem s_break (q : bk σ H) : tBreak ⟨nx, rt, bk, ct⟩ σ H := q
theorem s_cont (q : ct σ H) : tCont ⟨nx, rt, bk, ct⟩ σ H := q
theorem s_seq (q : t ⟨u ⟨nx, rt, bk, ct⟩, rt, bk, ct⟩ σ H) : tSeq t u ⟨nx, rt, bk, ct⟩ σ H := q
theorem s_drop (q : ta σ H fun _ H1 => nx σ H1) : tDrop ta ⟨nx, rt, bk, ct⟩ σ H := q
theorem s_ret (q : ta σ H rt) : tRet ta ⟨nx, rt, bk, ct⟩ σ H := q
theorem s_retN (q : rt .non H) : tRetN ⟨nx, rt, bk, ct⟩ σ H := q
theorem s_if (q : tt σ H fun b H1 => if b = true then t ⟨nx, rt, bk, ct⟩ σ H1 else u ⟨nx, rt, bk, ct⟩ σ H1) : tIfS tt t u ⟨nx, rt, bk, ct⟩ σ H := q
theorem s_asg (q : ta σ H fun x H1 => g x σ H1 nx) : tAsg ta g ⟨nx, rt, bk, ct⟩ σ H := q
theorem s_cut (Mid : Fs → Hp → Prop) (h : t ⟨Mid, rt, bk, ct⟩ σ H) (q : ∀ σ' H', Mid σ' H' → u ⟨nx, rt, bk, ct⟩ σ' H') : C8.tCut t u ⟨nx, rt, bk, ct⟩ σ H := ⟨Mid, h, q⟩
theorem s_name (q : G (σ.set n (some v)) H) : gName n v σ H G := q
theorem s_gsub {ti : TE} {ts : TSet} (q : ta σ H fun o H1 => ti σ H1 fun i H2 => ts o i v H2 fun H3 => G σ H3) : gSub ta ti ts v σ H G := q
theorem s_aug {ti : TIp} (h : σ[n]? = some (some x)) (q : ta σ H fun y H1 => ti x y H1 fun z H2 => nx (σ.set n (some z)) H2) : tAug n ta ti ⟨nx, rt, bk, ct⟩ σ H := ⟨x, h, q⟩
theorem s_bm {T : String} {r : V → List V → Hp → VK → Prop} (q : ta σ H fun x H1 => tyV K T x H1 ∧ ar σ H1 fun xs H2 => r x xs H2 Q) : tBM K T r ta ar σ H Q := q
theorem s_bm0 {T : String} {r : V → List V → Hp → VK → Prop} (q : ta σ H fun x H1 => tyV K T x H1 ∧ r x [] H1 Q) : tBM0 K T r ta σ H Q := q
theorem s_m1 {r : V → List V → Hp → VK → Prop} (q : ta σ H fun x H1 => (∃ a, x = .str a) ∧ tb σ H1 fun y H2 => r x [y] H2 Q) : tM1 r ta tb σ H Q := q
theorem s_tru (q : ta σ H fun x H' => Tr K x H' B) : tTru K ta σ H B := q
theorem s_truB {b : Bool} (q : B b H) : Tr K (.bl b) H B := ⟨b, rfl, q⟩
theorem s_truL (h : SqL K H p xs) (q : B (!xs.isEmpty) H) : Tr K (.ref p) H B := ⟨_, .inl ⟨xs, h, rfl⟩, q⟩
theorem s_ex {C : Bool → Prop} {b : Bool} (q : C b) : ∃ k, V.bl b = V.bl k ∧ C k := ⟨b, rfl, q⟩
theorem s_exi {C : Int → Prop} (q : C i) : ∃ k, V.int i = V.int k ∧ C k := ⟨i, rfl, q⟩
theorem s_addI (q : Q (.int (i + j)) H) : rAddU K (.int i) (.int j) H Q := q
theorem s_addS {a b : Str} (h : a.length + b.length ≤ sizeLine) (q : Q (.str (a ++ b)) H) : rAddU K (.str a) (.str b) H Q := ⟨h, q⟩
theorem s_mulI (h : CMul i j) (q : Q (.int (i * j)) H) : rMulU (.int i) (.int j) H Q := ⟨h, q⟩
theorem s_I1 {f : Int → Int → V} (q : Q (f i j) H) : rI1 f (.int i) (.int j) H Q := q
theorem s_I2 {C : Int → Int → Prop} {f : Int → Int → V} (h : C i j) (q : Q (f i j) H) : rI2 C f (.int i) (.int j) H Q := ⟨h, q⟩
theorem s_neg (q : Q (.int (-i)) H) : rNegU (.int i) H Q := q
theorem s_eqI (q : Q (.bl (decide (i = j))) H) : rEqU K (.int i) (.int j) H Q := q
theorem s_eqS {a b : Str} (q : Q (.bl (decide (a = b))) H) : rEqU K (.str a) (.str b) H Q := q
theorem s_eqB {a b : Bool} (q : Q (.bl (decide (a = b))) H) : rEqU K (.bl a) (.bl b) H Q := q
theorem s_neI (q : Q (.bl (!decide (i = j))) H) : rNeU K (.int i) (.int j) H Q := q
theorem s_neS {a b : Str} (q : Q (.bl (!decide (a = b))) H) : rNeU K (.str a) (.str b) H Q := q
theorem s_is (q : Q (.bl (decide (x = .non))) H) : rIsU x .non H Q := q
theorem s_isnt (q : Q (.bl (!decide (x = .non))) H) : rIsntU x .non H Q := q
theorem s_ixL (h : SqL K H p xs) (e : atI xs i = some v) (q : Q v H) : rIxU K (.ref p) (.int i) H Q := ⟨xs, .inl h, v, e, q⟩
theorem s_ixT (h : SqT K H p xs) (e : atI xs i = some v) (q : Q v H) : rIxU K (.ref p) (.int i) H Q := ⟨xs, .inr h, v, e, q⟩
theorem s_ixS {z : Str} {c : Nat} (h : z.length ≤ sizeLine) (e : atI z.cps.toList i = some c) (q : Q (.str ⟨#[c]⟩) H) : rIxU K (.str z) (.int i) H Q := ⟨h, c, e, q⟩
theorem s_slS {z : Str} {lo hi : Option Int} (h : z.length ≤ sizeLine) (q : Q (.str (cutS z lo hi)) H) : rSlU K (.str z) lo hi H Q := ⟨h, q⟩
theorem s_slL {lo hi : Option Int} (h : SqL K H p xs) (q : ∀ d, H d = none → Q (.ref d) (upd H d (.lst (cutV xs lo hi)))) : rSlU K (.ref p) lo hi H Q := .inl ⟨xs, h, q⟩
theorem s_lenL (h : SqL K H p xs) (q : Q (.int xs.length) H) : rLenU K [.ref p] H Q := ⟨xs, .inl h, q⟩
theorem s_lenT (h : SqT K H p xs) (q : Q (.int xs.length) H) : rLenU K [.ref p] H Q := ⟨xs, .inr h, q⟩
theorem s_lenS {z : Str} (h : z.length ≤ sizeLine) (q : Q (.int z.length) H) : rLenU K [.str z] H Q := ⟨h, q⟩
theorem s_tupL (h : SqL K H p xs) (q : ∀ d, H d = none → Q (.ref d) (upd H d (.tup xs))) : rTupleU K [.ref p] H Q := ⟨xs, .inl ⟨h, q⟩⟩
theorem s_intI (q : Q (.int i) H) : rIntU [.int i] H Q := q
theorem s_intB {k : Bool} (q : Q (.int (if k then 1 else 0)) H) : rIntU [.bl k] H Q := q
theorem s_intS {a : Str} (h : PySem.intText? a = some i) (hl : a.length ≤ 640) (q : Q (.int i) H) : rIntU [.str a] H Q := ⟨i, h, hl, q⟩
theorem s_strI (h : i.natAbs.log2 < 1920) (q : Q (.str (toString i)) H) : rStrU [.int i] H Q := ⟨h, q⟩
theorem s_strS {a : Str} (q : Q (.str a) H) : rStrU [.str a] H Q := q
theorem s_abs (q : Q (.int (if i < 0 then -i else i)) H) : rAbsU [.int i] H Q := q
theorem s_max (q : Q (.int (if j > i then j else i)) H) : rMaxU [.int i, .int j] H Q := q
theorem s_min (q : Q (.int (if j < i then j else i)) H) : rMinU [.int i, .int j] H Q := q
theorem s_setL {R : Hp → Prop} {k : Nat} (h : H p = some (.lst xs)) (e : ixN xs.length i = some k) (q : R (upd H p (.lst (xs.set k v)))) : rSetL (.ref p) (.int i) v H R := ⟨p, xs, i, k, rfl, rfl, h, e, q⟩
theorem s_append (h : H p = some (.lst xs)) (hl : xs.length < sizeLine) (q : Q .non (upd H p (.lst (xs ++ [v])))) : rAppend (.ref p) [v] H Q := ⟨p, xs, v, rfl, rfl, h, hl, q⟩
theorem s_pop (h : H p = some (.lst xs)) (e : xs[xs.length - 1]? = some v) (q : Q v (upd H p (.lst xs.dropLast))) : rPop (.ref p) [] H Q := ⟨p, xs, v, rfl, rfl, h, e, q⟩
theorem s_ty {T : Prop} (h : H p = some (.lst xs)) (q : T) : tyV K "list" (.ref p) H ∧ T := ⟨.inl ⟨rfl, _, SqL.of h⟩, q⟩
theorem s_tyS {T : Prop} {a : Str} (q : T) : tyV K "str" (.str a) H ∧ T := ⟨rfl, q⟩
theorem s_exS {T : Prop} {a : Str} (q : T) : (∃ b, V.str a = V.str b) ∧ T := ⟨⟨a, rfl⟩, q⟩
theorem s_iteNT {C D : Prop} (q : D) : if (!true) = true then C else D := q
theorem s_iteNF {C D : Prop} (q : C) : if (!false) = true then C else D := q
/-- a test that splits -/
theorem s_dec {c C D : Prop} [Decidable c] (h1 : c → C) (h2 : ¬ c → D) : if decide c = true then C else D := ite2 (fun h => h1 (of_decide_eq_true h)) (fun h => h2 (of_decide_eq_false (Bool.eq_false_iff.mpr h)))
theorem s_ndec {c C D : Prop} [Decidable c] (h1 : ¬ c → C) (h2 : c → D) : if (!decide c) = true then C else D := by
  by_cases h : c
  · rw [decide_eq_true h]; exact h2 h
  · rw [decide_eq_false h]; exact h1 h
theorem s_bool {b : Bool} {C D : Prop} (h1 : b = true → C) (h2 : b = false → D) : if b = true then C else D := by
  cases b
  · exact h2 rfl
  · exact h1 rfl
theorem s_nbool {b : Bool} {C D : Prop} (h1 : b = false → C) (h2 : b = true → D) : if (!b) = true then C else D := by
  cases b
  · exact h1 rfl
  · exact h2 rfl
end

/-! ### heaps -/
theorem same_new {H : Hp} {p : Addr} {o : HO} (h : H p = none) : Same H (upd H p o) := fun b z e => by
  rw [upd_ne (ne_of_none e h)]
  exact e
theorem same_mut {H H' : Hp} {p : Addr} {o : HO} (e : Same H H') (h : H p = none) : Same H (upd H' p o) := fun b z q => by
  rw [upd_ne (ne_of_none q h)]
  exact e b z q
theorem at_new {H : Hp} {p a : Addr} {o u : HO} (h : H p = none) (e : H a = some u) : upd H p o a = some u := same_new h a u e
theorem at_other {H : Hp} {p a : Addr} {o : HO} {u : HO} (h : a ≠ p) (e : H a = some u) : upd H p o a = some u := by
  rw [upd_ne h]
  exact e
/-- a heap but for the object at p -/
def But (p : Addr) (H H' : Hp) : Prop := ∀ b o, H b = some o → b ≠ p → H' b = some o
theorem But.refl (p : Addr) (H : Hp) : But p H H := fun _ _ e _ => e
theorem But.trans {p : Addr} {H H1 H2 : Hp} (a : But p H H1) (b : But p H1 H2) : But p H H2 := fun c o e n => b c o (a c o e n) n
theorem But.of {p : Addr} {H H' : Hp} (a : Same H H') : But p H H' := fun c o e _ => a c o e
theorem But.put {p : Addr} {H H' : Hp} {o : HO} (a : But p H H') : But p H (upd H' p o) := fun c u e n => by
  rw [upd_ne n]
  exact a c u e n
theorem But.new {p q : Addr} {H H' : Hp} {o : HO} (a : But p H H') (h : H' q = none) : But p H (upd H' q o) := a.trans (But.of (same_new h))
theorem sq_put {K : PySem.W.Frag} {H : Hp} {l p : Addr} {o : HO} {xs : List V} (h : SqL K H l xs) (n : l ≠ p) : SqL K (upd H p o) l xs := by
  rcases h with (h | ⟨u, h⟩) | h
  · exact .inl (.inl (at_other n h))
  · exact .inl (.inr ⟨u, at_other n h⟩)
  · exact .inr h
theorem same_at {H H' : Hp} {a : Addr} {u : HO} (h : Same H H') (e : H a = some u) : H' a = some u := h a u e
theorem sq_new {K : PySem.W.Frag} {H : Hp} {l p : Addr} {o : HO} {xs : List V} (h : SqL K H l xs) (n : H p = none) : SqL K (upd H p o) l xs := (same_new n).seq h
theorem sq_same {K : PySem.W.Frag} {H H' : Hp} {l : Addr} {xs : List V} (h : SqL K H l xs) (e : Same H H') : SqL K H' l xs := e.seq h
theorem at_ints {ns : List Int} {a : Int} (h0 : 0 ≤ a) (h1 : a < ns.length) : ∃ v, atI (ns.map V.int) a = some (V.int v) := by
  have hk : a.toNat < ns.length := by omega
  refine ⟨ns[a.toNat], at_of (j := a.toNat) (v := V.int ns[a.toNat]) (by omega) ?_⟩
  rw [List.getElem?_map, List.getElem?_eq_getElem hk]
  rfl
end J
set_option maxRecDepth 100000
set_option maxHeartbeats 1000000
/-! XS: a def whose first statement is super().__init__(text), of an own class over ValueError. -/
namespace J
open PySem PySem.Spec PyProof.Rows L2

/-- the context of such a def: its class is a free name -/
def cxS (CX : CXT) (P : Program) (w : World) (K : PySem.W.Frag) (mg : Str → Option Value) (base : Heap) (N : List Str) (qual : Str) (scope : Scope) (f cc : Addr) (cd : Value) (A : Around) (outer : List Env) (s : Shared) (H : Hp) (E : XK) : Cx :=
  { prog := P, w := w, K := K, mg := mg, base := base, A := A.deeper (PySem.W.envX qual scope s.heap.objs.size f cd [("__class__", cc)]), N := N, s_0 := s, H_0 := H,
    env := PySem.W.envX qual scope s.heap.objs.size f cd [("__class__", cc)], outer := outer, stack := PySem.W.envX qual scope s.heap.objs.size f cd [("__class__", cc)] :: outer, ex := [], calm := true, fn := fun _ => false, pn := [],
    xe := fun _ _ => False }

/-- such a def's scope: its parameters are locals, the class is free -/
structure SupScope (N P : List Str) (sc : Scope) : Prop where
  kind : sc.kind = .function
  co : sc.isCoroutine = false
  gen : sc.isGenerator = false
  nd : N.Nodup
  pre : N.take P.length = P
  par : ∀ x ∈ P, sc.names.lookup x = some .local
  free : ∀ y, sc.names.lookup y = some .cell ∨ sc.names.lookup y = some .free → y = "__class__"
  nocell : ∀ y ∈ sc.names, y.2 ≠ .cell

/-- what stands behind the top for such a class C, its __init__ at f -/
structure SupC (P : Program) (K : PySem.W.Frag) (mg : Str → Option Value) (C f : Addr) (qual : Str) (params : Arguments) (body : List Stmt) (scope : Scope) (fd : FuncData) : Prop where
  T : OexC K C
  lk : ∃ (oc : Value) (od : Option Addr) (kV doc pm : Value) (an : Option Addr) (cda : Addr) (ct : Value) (osl : Array (Option Value)) (cc : Addr) (oD : Obj) (vs : Array Value) (file : Str) (tf : Tok) (oC : Obj),
    fd = PySem.W.ksFn "__init__" qual params body scope .none kV doc pm an (.ref cda) ct cc ∧ K.lookup f = some ⟨oc, od, .func fd, osl⟩ ∧ PySem.W.codeIn K (.ref cda) qual = true ∧
    K.lookup cda = some oD ∧ oD.data = .fields vs ∧ vs[2]? = some (.str file tf) ∧ ((P.main.file : Str) == file) = true ∧ K.lookup cc = some oC ∧ oC.data = .cell (some (.ref C))
  ho : PySem.W.nsIn K cStatics "thirdparty.any" = some none
  hm : PySem.W.ks_superIn K C C "__init__" = some (some (.builtin "ValueError.__init__"))
  hB : PySem.W.subIn K (.ref C) (.type "ValueError") = some true
  hC : PySem.W.subIn K (.ref C) (.ref C) = some true
  sup : mg "super" = none
  top : (P.main.scope.names.lookup ("super" : Str)).isSome = false
  kp : PySem.W.keepIn K (.ref f) = true


theorem look_one {c : Addr} {x : Str} {cc : Addr} (h : ([("__class__", cc)] : List (Str × Addr)).lookup x = some c) : x = "__class__" ∧ c = cc := by
  by_cases e : x = "__class__"
  · subst e
    refine ⟨rfl, ?_⟩
    have z : some cc = some c := h
    exact (Option.some.inj z).symm
  · have z : (x == ("__class__" : Str)) = false := beq_eq_false_iff_ne.mpr e
    simp [List.lookup, z] at h

theorem inv_sup {CX : CXT} {P : Program} {w : World} {K : PySem.W.Frag} {mg : Str → Option Value} {base : Heap} {N ps : List Str} {qual : Str} {scope : Scope} {f cc C : Addr} {cd : Value} {A : Around} {outer : List Env} {s : Shared} {H : Hp} {E : XK} {us : List Value} {vs : List V} {h1 : Heap} {tk : Nat}
    (S : SupScope N ps scope) (hd : A.handled = none) (e0 : Env0 P w K mg base A outer s H) (hl : vs.length = ps.length) (r : Vals vs us) (hcell : s.heap.IsCell cc (some (.ref C))) (hcn : H cc = none)
    (hns : h1.Ns s.heap.objs.size fun x => (ps.zip us).reverse.lookup x) (hk : ∀ b o, s.heap.get? b = some o → h1.get? b = some o) :
    Inv (cxS CX P w K mg base N qual scope f cc cd A outer s H E) [] (start N vs) H { s with heap := h1, toks := tk } := by
  have hpl : ps.length ≤ N.length := by have := congrArg List.length S.pre; rw [List.length_take] at this; omega
  have noA : ∀ b : Addr, b ∉ (cxS CX P w K mg base N qual scope f cc cd A outer s H E).ex := fun b z => absurd (show b ∈ ([] : List Addr) from z) (by simp)
  refine ⟨⟨e0.mod, S.kind, rfl, rfl, Nat.le_refl _, fun x y c a b => (look_one a).1.trans (look_one b).1.symm, fun x hx => ?_, fun x c a _ => ?_, fun _ => hd, Around.frames_deeper e0.frames, .inr ⟨rfl, rfl⟩, fun b z => absurd z (noA b), e0.bs, e0.bsz, fun b _ _ => noA b, fun b z => absurd z (noA b), e0.funs, e0.frf⟩,
    rfl, e0.bare, Un.kept hk, ⟨_, hns, fun i y v a b c => ?_⟩, fun y c a => ?_, e0.hok.fresh (Nat.le_refl _), fun y c a => ?_, fun p hp => absurd (show p ∈ ([] : List (Addr × Obj)) from hp) (by simp), e0.hok.kept hk, ?_⟩
  · have hx : scope.names.lookup x = some .cell ∨ scope.names.lookup x = some .free := hx
    have e := S.free x hx
    subst e
    exact ⟨cc, rfl⟩
  · exact Bool.noConfusion (show false = true from a)
  · have hi : i < vs.length := by
      unfold L2.start at b
      rcases Nat.lt_or_ge i vs.length with hi | hi
      · exact hi
      · rw [List.getElem?_append_right (by simpa using hi), List.getElem?_replicate] at b
        split at b <;> cases b
    have ha : vs[i]? = some v := by
      unfold L2.start at b
      rw [List.getElem?_append_left (by simpa using hi), List.getElem?_map] at b
      cases e : vs[i]? with
      | none => rw [e] at b; cases b
      | some z => rw [e] at b; cases b; rfl
    obtain ⟨u, hu, rv⟩ := r.get ha
    have hp : ps[i]? = some y := by
      rw [← S.pre, List.getElem?_take_of_lt (by omega)]; exact a
    have ndP : ps.Nodup := by rw [← S.pre]; exact S.nd.sublist (List.take_sublist _ _)
    have lo := S.par y (List.mem_of_getElem? hp)
    refine ⟨u, rv, .inl ⟨lo, ?_⟩⟩
    have kk : ∀ z ∈ ps.zip us, (fun x => scope.names.lookup x) z.1 = some .local := fun ⟨n, x⟩ hz => S.par n (List.of_mem_zip hz).1
    have e1 := bindL_loc (kindOf := fun x => scope.names.lookup x) (ps.zip us) (fun _ => none) kk y
    have e2 := bindL_get (kindOf := fun x => scope.names.lookup x) (m := fun _ => none) ndP hp hu lo
    rw [e1] at e2
    show (ps.zip us).reverse.lookup y = some u
    cases q : (ps.zip us).reverse.lookup y with
    | none => rw [q] at e2; cases e2
    | some z => rw [q] at e2; exact e2
  · obtain ⟨rfl, rfl⟩ := look_one a
    obtain ⟨o, ho, hd'⟩ := hcell
    exact ⟨_, o, hk _ _ ho, hd'⟩
  · obtain ⟨rfl, rfl⟩ := look_one a
    exact hcn
  · unfold L2.start
    show _ = N.length
    rw [List.length_append, List.length_map, List.length_replicate]
    omega

/-- the bound ValueError.__init__ of an exception is called -/
theorem call_mw {prog : Program} {w : World} {A : Around} {E : Value → Shared → Prop} {h : Heap} {g : Array GenState} {d : Drawn} {t : Nat} {os : OsState} {nm q : Str} {C N u x t0 : Addr} {bs bm : List Value} {hdct : Bool} {sn : List Str} {sub : List Value} {ab : Bool} {col : Option Bool} {dd : Option Addr} {k0 k1 k2 k3 k5 : Option Value} {args : List Value} {Q : Value → Shared → Prop}
    (hu : h.get? u = some (PySem.W.kxs_mw "ValueError.__init__" x)) (hC : h.get? C = some (excClassObj nm q C N bs bm hdct sn sub ab col dd k0 k1 k2 k3 k5 "ValueError.__new__"))
    (he : h.get? x = some ({ cls := .ref C, dict := none, data := .fields #[.ref t0, .none, .none, .none, .bool false, .none] } : Obj)) (hz : args.length ≤ sizeLine)
    (hq : ∀ h' t1, (∀ b o, b ≠ x → h.get? b = some o → h'.get? b = some o) → h'.get? x = some ({ cls := .ref C, dict := none, data := .fields #[.ref t1, .none, .none, .none, .bool false, .none] } : Obj) → Q .none ⟨h', g, d, t, os⟩) :
    wpAny (model prog w) A (call (.ref u) args) Q E ⟨h, g, d, t, os⟩ := by
  have FB := F.excBase_ValueError
  refine wpAny_call (codeAny_of_tree (show wpAny _ A.in1 (callAny (.ref u) ⟨args, []⟩) _ _ _ from ?_))
  unfold callAny
  refine wpAny_bind (wpAny_load hu ?_)
  have e1 : (Value.type "method-wrapper" == Value.type "method" || Value.type "method-wrapper" == Value.type "builtin_function_or_method" || Value.type "method-wrapper" == Value.type "method-wrapper") = true := by decide
  simp only [PySem.W.kxs_mw, e1, if_true]
  refine PySem.W.KFB.if_so (by decide) (wpAny_bind (PySem.W.check_bound_init FB.toExcCallFacts hC he rfl (wpAny_bind (wpAny_pure (wpAny_pure ⟨plainId_quiet FB.init.plain _, codeAny_builtin FB.initEntry ?_⟩)))))
  exact PySem.W.exc_init_tree (cls := .ref C) (t0 := t0) (dv := none) (c2 := .none) (c3 := .none) (b4 := .bool false) he hz fun h' a b _ => hq h' _ a b

/-- the text's first statement -/
abbrev supSt (z : Str) (j : Nat) (p0 p1 p2 p3 p4 p5 : Pos) : Stmt := .Expr (.Call (.Attribute (.Call (.Name "super" p0) [] [] p1) "__init__" p2) [.Constant (.str z) j p3] [] p4) p5

/-- such a def by what follows its first statement -/
theorem fn_sup {CX : CXT} {P : Program} {w : World} {K : PySem.W.Frag} {mg : Str → Option Value} {base : Heap} {k : Nat} {f C : Addr} {qual : Str} {params : Arguments} {body rest : List Stmt} {scope : Scope} {fd : FuncData} {N ps : List Str} {sp : Sp} {z : Str} {j : Nat} {p0 p1 p2 p3 p4 p5 : Pos} {ar : Arg} {more : List Str}
    (F : SupC P K mg C f qual params body scope fd) (S : SupScope N ps scope) (hbd : body = supSt z j p0 p1 p2 p3 p4 p5 :: rest) (hps : ps = ("self" : Str) :: more) (har : (params.posonlyargs ++ params.args).head? = some ar) (hself : ar.arg = "self")
    {pl : Sem Bool} (hint : ∀ (L : Addr) (cd : Value) (cc : Addr), interactive (PySem.W.envX qual scope L f cd [("__class__", cc)]) = false)
    (hev : ∀ (L : Addr) (cd : Value) (cc : Addr), eval (.Call (.Attribute (.Call (.Name "super" p0) [] [] p1) "__init__" p2) [.Constant (.str z) j p3] [] p4) (PySem.W.envX qual scope L f cd [("__class__", cc)]) = (do
      let ov ← attributeBase (.Call (.Name "super" p0) [] [] p1) "__init__" (PySem.W.envX qual scope L f cd [("__class__", cc)]) (eval (.Call (.Name "super" p0) [] [] p1) (PySem.W.envX qual scope L f cd [("__class__", cc)]))
      standAt p2.atName
      let (f', first) ← holding [ov] (getMethod ov "__init__" pl)
      callWith p4 f' first (backTo p4 (starEach [.Constant (.str z) j p3] (PySem.W.envX qual scope L f cd [("__class__", cc)]))) []))
    (hsu : scope.names.lookup ("super" : Str) = some NameKind.globalImplicit) (hcl : scope.names.lookup ("__class__" : Str) = some NameKind.free)
    (len : ∀ vs H Q E, sp vs H Q E → vs.length = ps.length)
    (hbody : ∀ (cd : Value) (cc : Addr) (A : Around) (outer : List Env) (s : Shared) (H : Hp) (vs : List V) (Q : VK) (E : XK), Room k (A.deeper (PySem.W.envX qual scope s.heap.objs.size f cd [("__class__", cc)])) → sp vs H Q E →
      ∃ t a, PSs (cxS CX P w K mg base N qual scope f cc cd A outer s H E) rest t ∧ vs[0]? = some (V.ref a) ∧ H a = some (exo a C none) ∧ t { nx := fun _ H' => Q .non H', rt := Q } (start N vs) H) :
    FnOk P w K mg base CX (k + 1) f fd ps sp := by
  refine ⟨len, fun A outer s H args us vs Q E hr e0 hb r hsp => ?_⟩
  subst hbd
  have hl := len _ _ _ _ hsp
  obtain ⟨oc, od, kV, doc, pm, an, cda, ct, osl, cc, oD, vs', file, tf, oC, rfl, lk, hcd, lD, hD, h2, hfile, lC, hC⟩ := F.lk
  have KX : K.In s.heap := e0.mod.kin.keeps fun b o e => (e0.bs b o e).1
  have lim : s.heap.NoLimit := e0.mod.nolimit.keeps fun b o e => (e0.bs b o e).1
  have hkl : ∀ y ∈ ps.zip us, scope.names.lookup y.1 = some .local := fun ⟨n, v⟩ hy => S.par n (List.of_mem_zip hy).1
  refine codeAny_call_function hr.depth (KX _ _ lk) rfl S.co S.gen rfl (PySem.W.codeRec_of KX hcd) (hb _ _ _ _ ?_)
  refine wpAny_newFunctionEnv S.nocell hkl (fun h1 hns hsb => ?_) S.kind
  have keep : ∀ b o, s.heap.get? b = some o → h1.get? b = some o := fun b o e => hsb.extBut b o (Nat.ne_of_lt (Heap.lt_size e)) (Heap.get?_push_of_some _ e)
  refine ⟨lim.keeps keep, ?_⟩
  obtain ⟨t, a, ht, h0, ha, hq⟩ := hbody (.ref cda) cc A outer s H vs Q E (hr.deeper _) hsp
  have hcc : s.heap.IsCell cc (some (.ref C)) := ⟨oC, KX _ _ lC, hC⟩
  have hcn : H cc = none := (e0.bs cc oC (e0.mod.kin _ _ lC)).2
  have I : Inv (cxS CX P w K mg base N qual scope f cc (.ref cda) A outer s H E) [] (start N vs) H { s with heap := h1, toks := s.toks + (ps.zip us).length } := inv_sup S hr.hd e0 hl r hcc hcn hns keep
  generalize hs1 : ({ s with heap := h1, toks := s.toks + (ps.zip us).length } : Shared) = s1 at I
  show codeAny (model P w) A (.func _ (PySem.W.envX qual scope s.heap.objs.size f (.ref cda) [("__class__", cc)])) _ s1
  refine PySem.ks_codeAny_funcAt (PySem.ks_wpAt_execs_cons (PySem.ks_wpAt_Expr_any (PySem.ks_wpAt_MethodCall ?_ (hev _ _ _)) (hint _ _ _) rfl))
  have J := I
  have kin := I.kIn
  obtain ⟨nm, qn, N', bs, bm, sn, sub, ab, col, dd, k0, k1, k2, k3, k5, lkC, hbm⟩ := F.T.cls
  have hclC : PySem.W.clsIn K C = some { name := nm, bases := bs, mro := .ref C :: bm, ns := N', qualname := qn, hasDict := true, slotNames := sn, subclasses := sub, abstract := ab, collection := col, hasDel := false } := by unfold PySem.W.clsIn; rw [lkC]
  refine PySem.ks_wpAt_super_base (f := f) (cc := cda) (of := ⟨oc, od, .func _, osl⟩) (oc := oD) (ar := ar) (vs := vs') (file := file) (tf := tf) hsu hcl (by decide +kernel) rfl (kin _ _ lk) rfl har rfl (kin _ _ lD) hD h2 hfile F.top ?_
  obtain ⟨mb, b1, b2⟩ := I.mod.blt
  obtain ⟨m, mns, mat⟩ := I.loc
  have hN : N[0]? = some ("self" : Str) := by
    have e := S.pre
    rw [hps] at e
    cases N with
    | nil => cases e
    | cons n N =>
      have e' : n :: N.take more.length = ("self" : Str) :: more := e
      rw [(List.cons.inj e').1]
      rfl
  have hlo : scope.names.lookup ("self" : Str) = some .local := S.par _ (by rw [hps]; exact List.mem_cons_self ..)
  have hv0 : (L2.start N vs)[0]? = some (some (V.ref a)) := by
    unfold L2.start
    have hl0 : 0 < vs.length := by rw [hl, hps]; exact Nat.succ_pos _
    rw [List.getElem?_append_left (by simpa using hl0), List.getElem?_map, h0]
    rfl
  obtain ⟨u0, r0, look0⟩ := mat 0 _ _ hN hv0 (.inl hlo)
  have eu0 : u0 = Value.ref a := r0
  subst eu0
  have hself' : m ("self" : Str) = some (.ref a) := by
    rcases look0 with ⟨_, e⟩ | ⟨k', _⟩
    · exact e
    · have z : scope.names.lookup ("self" : Str) = some .cell ∨ scope.names.lookup ("self" : Str) = some .free := k'
      rw [hlo] at z
      rcases z with z | z <;> cases z
  refine PySem.W.ks_loadName_global S.kind hsu (Calls.loadGlobal_builtin (I.mod.glob.keeps I.bk) F.sup (b1.keeps I.bk) ((b2 _ (by decide +kernel)).trans (show bootBuiltins "super" = some (.type "super") by decide +kernel)) ⟨rfl, ?_⟩)
  refine wpAny_loadName_free S.kind hcl rfl ⟨oC, kin _ _ lC, hC⟩ ?_
  rw [hself]
  refine wpAny_loadName_local S.kind hlo mns hself' ?_
  refine PySem.ks_wpAny_isType_cls (kin _ _ lkC) rfl ⟨rfl, ?_⟩
  obtain ⟨t1, hx⟩ := exo_at I.hok ha
  clear hs1
  obtain ⟨hp, g, dr, tk, os⟩ := s1
  refine PySem.ks_wpAny_call_super (kin _ _ lkC) rfl hx rfl (fun c e => nomatch e) (PySem.W.looks_subIn kin F.hC) (fun h' e2 k2 => ?_)
  have I2 := I.kept (t' := tk) k2
  have X2 := I2.kIn
  have hx2 := k2 _ _ hx
  have Ix : PySem.W.InstAt h' a _ C none := ⟨hx2, rfl, rfl, trivial⟩
  have hmm := F.hm
  unfold PySem.W.ks_superIn at hmm
  rw [hclC] at hmm
  have hxC : a ≠ C := PySem.W.ks_ne X2 Ix hclC
  refine PySem.W.kxs_getMethod PySem.W.kxs_ValueError e2 (PySem.W.looks_opaque X2 F.ho) (fun A Q E s k q => wpAny_bind ((PySem.W.looks_clsIn X2 hclC) A _ E s k (wpAny_pure q))) rfl X2 hmm (Ix.type.andThen (PySem.W.looks_subIn X2 F.hB)) hxC (by decide +kernel) ?_
  have hmw : (h'.push (PySem.W.kxs_mw "ValueError.__init__" a)).get? h'.objs.size = some (PySem.W.kxs_mw "ValueError.__init__" a) := Heap.get?_push_at rfl rfl
  have k3 : ∀ b o, h'.get? b = some o → (h'.push (PySem.W.kxs_mw "ValueError.__init__" a)).get? b = some o := fun b o e => Heap.get?_push_of_some _ e
  refine PySem.W.kxs_callWith (i := "ValueError.__init__") (x := a) rfl (Calls.evalArgs_plain (Calls.spliced_cons (Calls.Constant_str (k := j) (pos := p3) (Calls.spliced_nil ⟨hmw, ?_⟩))))
  have I3 := I2.kept (t' := tk + 1 + 1) k3
  refine call_mw hmw (I3.kIn _ _ lkC) (k3 _ _ hx2) (by show 1 ≤ sizeLine; decide) fun h4 t4 k4 hx4 => ?_
  have I4 := I3.write (t' := tk + 1 + 1) (x := a) (e := a) (o := exo a C none) (by rw [ha]; exact True.intro) (.inl rfl) k4 ⟨_, hx4⟩ (exo_ok hx4)
  have eu : upd H a (exo a C none) = H := by
    funext b
    by_cases hb : b = a
    · rw [hb, upd_same, ha]
    · rw [upd_ne hb]
  rw [eu] at I4
  refine PySem.wpAt_of_wpAny (wpAny_mono (ht.run [] _ (L2.start N vs) H _ I4 hq) (fun fl s' hs => ?_) fun e s' hs => hs.elim)
  have fin : ∀ {σ' : Fs} {H' : Hp} {v : V} {u : Value}, Inv (cxS CX P w K mg base N qual scope f cc (.ref cda) A outer s H E) [] σ' H' s' → RelV v u → Q v H' → CE outer P w H s Q u s' :=
    fun {σ' H' v u} J rv q => ⟨v, H', J.os, J.bare, J.base, J.hok, rv, q⟩
  cases fl with
  | ret u => exact hs.elim fun v z => z.elim fun σ' z => z.elim fun H' z => fin z.1 z.2.1 z.2.2
  | next => exact hs.elim fun σ' z => z.elim fun H' z => fin (v := V.non) (u := Value.none) z.1 rfl z.2
  | brk => exact hs.elim fun _ z => z.elim fun _ z => z.2.elim
  | cont => exact hs.elim fun _ z => z.elim fun _ z => z.2.elim
end J
set_option maxRecDepth 100000
set_option maxHeartbeats 400000
/-! J2: loops by their words, isinstance, what stays. -/
namespace J
open PySem PySem.Spec PyProof.Rows L2

/-- J yields ys while P holds -/
structure Yl (J : It) (P : Hp → Prop) (ys : List V) : Prop where
  go : ∀ i H, P H → i < ys.length → J.go i H
  stop : ∀ i H, P H → ys.length ≤ i → J.stop i H
  yld : ∀ i H x H', P H → i < ys.length → J.yld i H x H' → H' = H ∧ ys[i]? = some x
theorem yl_list {K : PySem.W.Frag} {a : Addr} {ys : List V} {P : Hp → Prop} (h : ∀ H, P H → SqL K H a ys) : Yl (Itl K a) P ys where
  go := fun i H p hi => ⟨ys, ys[i], h H p, List.getElem?_eq_getElem hi⟩
  stop := fun i H p hi => ⟨ys, h H p, hi⟩
  yld := fun i H x H' p _ q => ⟨q.1, q.2 ys (h H p)⟩
theorem yl_tup {K : PySem.W.Frag} {a : Addr} {ys : List V} {P : Hp → Prop} (h : ∀ H, P H → SqT K H a ys) : Yl (Itt K a) P ys where
  go := fun i H p hi => ⟨ys, ys[i], h H p, List.getElem?_eq_getElem hi⟩
  stop := fun i H p hi => ⟨ys, h H p, hi⟩
  yld := fun i H x H' p _ q => ⟨q.1, q.2 ys (h H p)⟩
def chV (l : List Nat) : List V := l.map fun c => V.str (SX.S [c])
theorem yl_str {l : List Nat} {P : Hp → Prop} : Yl (Its (SX.S l)) P (chV l) where
  go := fun i H p hi => by
    have : i < l.length := by simpa [chV] using hi
    show i < (SX.S l).cps.size
    simpa using this
  stop := fun i H p hi => by
    have : l.length ≤ i := by simpa [chV] using hi
    show (SX.S l).cps.size ≤ i
    simpa using this
  yld := fun i H x H' p _ q => by
    obtain ⟨e, c, hc, rfl⟩ := q
    refine ⟨e, ?_⟩
    have : l[i]? = some c := by simpa using hc
    unfold chV
    rw [List.getElem?_map, this]
    rfl
def rgU (lo c : Int) (n : Nat) : List V := (List.range n).map fun (i : Nat) => V.int (lo + (i : Int) * c)
theorem rgU_len {lo c : Int} {n : Nat} : (rgU lo c n).length = n := by simp [rgU]
theorem rgU_at {lo c : Int} {n i : Nat} (h : i < n) : (rgU lo c n)[i]? = some (V.int (lo + (i : Int) * c)) := by
  unfold rgU
  rw [List.getElem?_map, List.getElem?_range h]
  rfl
theorem yl_rg {lo : Int} {n : Nat} {P : Hp → Prop} : Yl (Itr lo n) P (rgU lo 1 n) where
  go := fun i H p hi => show i < n by rw [rgU_len] at hi; exact hi
  stop := fun i H p hi => show n ≤ i by rw [rgU_len] at hi; exact hi
  yld := fun i H x H' p hi q => by
    obtain ⟨e, rfl⟩ := q
    rw [rgU_len] at hi
    rw [rgU_at hi, Int.mul_one]
    exact ⟨e, rfl⟩
theorem yl_rgc {lo c : Int} {n : Nat} {P : Hp → Prop} : Yl (Itc lo c n) P (rgU lo c n) where
  go := fun i H p hi => show i < n by rw [rgU_len] at hi; exact hi
  stop := fun i H p hi => show n ≤ i by rw [rgU_len] at hi; exact hi
  yld := fun i H x H' p hi q => by
    obtain ⟨e, rfl⟩ := q
    rw [rgU_len] at hi
    rw [rgU_at hi]
    exact ⟨e, rfl⟩
/-- the block of a comprehension over J, from the heap H -/
def LcG (J : It) (g : TG) (tt : TT) (te : TE) (vs : List Nat) (σ : Fs) (Q : VK) (H : Hp) : Prop := ∀ D, H D = none → ∃ W : Nat → Nat → Hp → Prop, (∃ m, W 0 m (upd H D (.lst []))) ∧ ∀ i m H, W i m H →
  (J.stop i H ∧ Q (.ref D) H) ∨ (J.go i H ∧ ∃ Nx : Hp → Prop, (∀ H', Nx H' → ∃ m', m' < m ∧ W (i + 1) m' H') ∧ ∀ x H', J.yld i H x H' → g x (wipe σ vs) H' fun σ2 H2 => wipe σ2 vs = wipe σ vs ∧ tt σ2 H2 fun b H3 =>
    if b = true then te σ2 H3 fun y H4 => ∃ acc, H4 D = some (.lst acc) ∧ acc.length < sizeLine ∧ Nx (upd H4 D (.lst (acc ++ [y]))) else Nx H3)
/-- a loop over J -/
def ForG (J : It) (g : TG) (tb : TS) (D : Ends) (σ : Fs) (H : Hp) : Prop := ∃ W : Nat → Nat → Fs → Hp → Prop, (∃ m, W 0 m σ H) ∧ ∀ i m σ H, W i m σ H →
  (J.stop i H ∧ D.nx σ H) ∨ (J.go i H ∧ ∃ N : Fs → Hp → Prop, (∀ σ' H', N σ' H' → ∃ m', m' < m ∧ W (i + 1) m' σ' H') ∧ ∀ x H', J.yld i H x H' → g x σ H' fun σ2 H2 => tb { D with nx := N, ct := N, bk := D.nx } σ2 H2)
/-- sep.join(l) -/
def rJoin (K : PySem.W.Frag) : V → List V → Hp → VK → Prop := fun x xs H Q => ∃ a p, ∃ ys : List Str, x = .str a ∧ xs = [.ref p] ∧ (SqL K H p (ys.map V.str) ∨ SqT K H p (ys.map V.str)) ∧ (ys.map (·.length)).sum + ys.length * a.length ≤ 16777216 ∧ Q (.str (Txt.join a ys)) H
theorem k_join {X : Cx} {K : PySem.W.Frag} (hK : X.K = K) {o e : Expr} {to te : TE} {apos pos : Pos} (ho : PE X o to) (he : PE X e te) (hs : starEach [e] X.env = [(false, eval e X.env)] := by rfl) (hbase : attributeBase o "join" X.env (eval o X.env) = eval o X.env := by rfl) (hline : (apos.endLine == pos.line) = true := by rfl) :
    PE X (.Call (.Attribute o "join" apos) [e] [] pos) (tM1 (rJoin K) to te) := by
  subst hK
  exact pe_join ho he hs hbase hline
section
variable {K : PySem.W.Frag} {σ : Fs} {H : Hp} {Q : VK} {J : It} {g : TG} {tt : TT} {te : TE} {vs : List Nat} {ys : List V} {D : Addr} {tb : TS} {nx bk ct : Fs → Hp → Prop} {rt : VK}
theorem s_yes {B : Bool → Hp → Prop} (q : B true H) : tYes σ H B := q
/-- [e for x in ..]: I i acc H when i items are behind -/
theorem lc_go {P : Hp → Prop} (Y : Yl J P ys) (hz : ys.length ≤ sizeLine) (I : Addr → Nat → List V → Hp → Prop) (hI : ∀ D i acc H, I D i acc H → P H ∧ acc.length ≤ i)
    (h0 : ∀ D, H D = none → I D 0 [] (upd H D (.lst [])))
    (hs : ∀ D i acc H' x, H D = none → I D i acc H' → acc.length < sizeLine → i < ys.length → ys[i]? = some x → g x (wipe σ vs) H' fun σ2 H2 => wipe σ2 vs = wipe σ vs ∧ tt σ2 H2 fun b H3 => if b = true then te σ2 H3 fun y H4 => ∃ acc, H4 D = some (.lst acc) ∧ acc.length < sizeLine ∧ ∃ acc', I D (i + 1) acc' (upd H4 D (.lst (acc ++ [y]))) else ∃ acc', I D (i + 1) acc' H3)
    (hq : ∀ D acc H', H D = none → I D ys.length acc H' → Q (.ref D) H') : LcG J g tt te vs σ Q H := by
  intro D hD
  refine ⟨fun i m H => i + m = ys.length ∧ ∃ acc, I D i acc H, ⟨ys.length, Nat.zero_add _, [], h0 D hD⟩, ?_⟩
  rintro i m H ⟨hm, acc, ha⟩
  obtain ⟨p, hl⟩ := hI _ _ _ _ ha
  cases m with
  | zero =>
    have e : i = ys.length := by omega
    subst e
    exact .inl ⟨Y.stop _ _ p (Nat.le_refl _), hq _ _ _ hD ha⟩
  | succ m =>
    refine .inr ⟨Y.go _ _ p (by omega), fun H' => ∃ acc, I D (i + 1) acc H', fun H' h => ⟨m, Nat.lt_succ_self _, by omega, h⟩, fun x H' y => ?_⟩
    obtain ⟨rfl, hx⟩ := Y.yld _ _ _ _ p (by omega) y
    exact hs D i acc _ x hD ha (by omega) (by omega) hx
theorem lc_y {I : Addr → Nat → List V → Hp → Prop} {i : Nat} {acc : List V} {y : V} (h : H D = some (.lst acc)) (hl : acc.length < sizeLine) (q : I D (i + 1) (acc ++ [y]) (upd H D (.lst (acc ++ [y])))) :
    ∃ acc, H D = some (.lst acc) ∧ acc.length < sizeLine ∧ ∃ acc', I D (i + 1) acc' (upd H D (.lst (acc ++ [y]))) := ⟨acc, h, hl, _, q⟩
theorem wipe1 (σ : Fs) (k : Nat) (v : Option V) : wipe ((wipe σ [k]).set k v) [k] = wipe σ [k] := by
  show ((σ.set k none).set k v).set k none = σ.set k none
  rw [List.set_set, List.set_set]
theorem s_lc {wi : TI} (q : wi σ H fun J H1 => LcG J g tt te vs σ Q H1) : tLc wi g tt te vs σ H Q := q
theorem s_forS {wi : TI} {E : Ends} (q : wi σ H fun J H1 => ForG J g tb E σ H1) : tFor wi g tb E σ H := q
/-- [e for x in ..], e a value that the heap does not matter to -/
theorem lc_pure {P : Hp → Prop} {k : Nat} (Y : Yl J P ys) (hz : ys.length ≤ sizeLine) (fn : V → V) (hv : vs = [k]) (hP : ∀ D acc, H D = none → P (upd H D (.lst acc)))
    (hs : ∀ D x acc (A : VK), H D = none → x ∈ ys → A (fn x) (upd H D (.lst acc)) → te ((wipe σ vs).set k (some x)) (upd H D (.lst acc)) A)
    (hq : ∀ D, H D = none → Q (.ref D) (upd H D (.lst (ys.map fn)))) : LcG J (gName k) tYes te vs σ Q H := by
  subst hv
  refine lc_go Y hz (fun D i acc H' => H D = none ∧ acc = (ys.take i).map fn ∧ H' = upd H D (.lst acc)) (fun D i acc H' h => ?_) (fun D hD => ⟨hD, rfl, rfl⟩) (fun D i acc H' x hD h hl hi hx => ?_) (fun D acc H' hD h => ?_)
  · obtain ⟨hD, rfl, rfl⟩ := h
    exact ⟨hP _ _ hD, by rw [List.length_map, List.length_take]; omega⟩
  · obtain ⟨_, rfl, rfl⟩ := h
    refine ⟨wipe1 _ _ _, ?_⟩
    refine s_yes (iteT ?_)
    refine hs D x _ _ hD (List.mem_of_getElem? hx) ⟨_, upd_same, hl, (ys.take i).map fn ++ [fn x], hD, ?_, upd_upd⟩
    rw [List.take_add_one, hx, List.map_append]
    rfl
  · obtain ⟨_, rfl, rfl⟩ := h
    rw [List.take_length]
    exact hq D hD
/-- for x in ..: I i σ H when i items are behind -/
theorem for_go {P : Hp → Prop} {E : Ends} (Y : Yl J P ys) (I : Nat → Fs → Hp → Prop) (hI : ∀ i σ H, I i σ H → P H) (h0 : I 0 σ H)
    (hs : ∀ i σ H x, I i σ H → i < ys.length → ys[i]? = some x → g x σ H fun σ2 H2 => tb ⟨I (i + 1), E.rt, E.nx, I (i + 1)⟩ σ2 H2) (hq : ∀ σ H, I ys.length σ H → E.nx σ H) : ForG J g tb E σ H := by
  refine ⟨fun i m σ H => i + m = ys.length ∧ I i σ H, ⟨ys.length, Nat.zero_add _, h0⟩, ?_⟩
  rintro i m σ H ⟨hm, ha⟩
  have p := hI _ _ _ ha
  cases m with
  | zero =>
    have e : i = ys.length := by omega
    subst e
    exact .inl ⟨Y.stop _ _ p (Nat.le_refl _), hq _ _ ha⟩
  | succ m =>
    refine .inr ⟨Y.go _ _ p (by omega), I (i + 1), fun σ' H' h => ⟨m, Nat.lt_succ_self _, by omega, h⟩, fun x H' y => ?_⟩
    obtain ⟨rfl, hx⟩ := Y.yld _ _ _ _ p (by omega) y
    exact hs i σ _ x ha (by omega) hx
/-- while: I n σ H at each test, n goes down -/
theorem while_go {c : TT} (I : Nat → Fs → Hp → Prop) (h0 : ∃ n, I n σ H)
    (hs : ∀ n σ H, I n σ H → c σ H fun b H1 => if b = true then ∃ N : Fs → Hp → Prop, (∀ σ' H', N σ' H' → ∃ m', m' < n ∧ I m' σ' H') ∧ tb ⟨N, rt, nx, N⟩ σ H1 else nx σ H1) : tWhile c tb ⟨nx, rt, bk, ct⟩ σ H := ⟨I, h0, hs⟩
theorem s_turn {I : Nat → Fs → Hp → Prop} {n : Nat} (q : tb ⟨fun σ' H' => ∃ m, m < n ∧ I m σ' H', rt, nx, fun σ' H' => ∃ m, m < n ∧ I m σ' H'⟩ σ H) : ∃ N : Fs → Hp → Prop, (∀ σ' H', N σ' H' → ∃ m', m' < n ∧ I m' σ' H') ∧ tb ⟨N, rt, nx, N⟩ σ H := ⟨_, fun _ _ z => z, q⟩
/-! ### isinstance -/
variable {A : List V → Hp → Prop}
theorem isi_go {x : V} {a b : String} {r : Bool} (h : TyOf K H x (.type a)) (e : kitB a b = some r) (q : Q (.bl r) H) : rIsi K [x, .ty b] H Q := ⟨x, .ty b, .type a, .type b, r, rfl, .ty _, .base h, kit_ty e, q⟩
theorem isi_ss {a : Str} (q : Q (.bl true) H) : rIsi K [.str a, .ty "str"] H Q := isi_go (.str a) (by decide +kernel) q
theorem isi_is {a : Int} (q : Q (.bl false) H) : rIsi K [.int a, .ty "str"] H Q := isi_go (.int a) (by decide +kernel) q
theorem isi_st {a : Str} (q : Q (.bl false) H) : rIsi K [.str a, .ty "tuple"] H Q := isi_go (.str a) (by decide +kernel) q
theorem isi_it {a : Int} (q : Q (.bl false) H) : rIsi K [.int a, .ty "tuple"] H Q := isi_go (.int a) (by decide +kernel) q
theorem isi_tt {a : Addr} {xs : List V} (h : H a = some (.tup xs)) (q : Q (.bl true) H) : rIsi K [.ref a, .ty "tuple"] H Q := isi_go (.tup h) (by decide +kernel) q
/-! ### iterators, joins -/
variable {tl : TE} {R : It → Hp → Prop} {xs : List V} {a : Addr}
theorem i_str {te : TE} {σ : Fs} (q : te σ H fun v H1 => ∃ x, v = .str x ∧ R (Its x) H1) : iStr te σ H R := q
theorem i_list (q : tl σ H fun x H1 => ∃ a, x = .ref a ∧ (∃ xs, SqL K H1 a xs) ∧ R (Itl K a) H1) : iList K tl σ H R := q
theorem i_tup (q : tl σ H fun x H1 => ∃ a, x = .ref a ∧ (∃ xs, SqT K H1 a xs) ∧ R (Itt K a) H1) : iTup K tl σ H R := q
theorem lc_chars {l : List Nat} {k : Nat} (p : Nat → Bool) (hv : vs = [k]) (hz : l.length ≤ sizeLine) (hs : ∀ D c acc (A : VK), H D = none → A (.bl (p c)) (upd H D (.lst acc)) → te ((wipe σ vs).set k (some (.str (SX.S [c])))) (upd H D (.lst acc)) A)
    (hq : ∀ D, H D = none → Q (.ref D) (upd H D (.lst ((l.map p).map V.bl)))) : LcG (Its (SX.S l)) (gName k) tYes te vs σ Q H := by
  refine lc_pure (P := fun _ => True) (yl_str (l := l)) (by unfold chV; rw [List.length_map]; exact hz) (fun x => match x with
    | .str z => .bl (p (z.cps.toList.headD 0))
    | x => x) hv (fun _ _ _ => trivial) (fun D x acc A hD hx ha => ?_) (fun D hD => ?_)
  · unfold chV at hx
    obtain ⟨c, _, rfl⟩ := List.mem_map.mp hx
    exact hs D c acc A hD ha
  · have e : (chV l).map (fun x => match x with
      | .str z => V.bl (p (z.cps.toList.headD 0))
      | x => x) = (l.map p).map V.bl := by
      unfold chV
      rw [List.map_map, List.map_map]
      rfl
    rw [e]
    exact hq D hD
theorem s_lenX {l : List Nat} (h : l.length ≤ sizeLine) (q : Q (.int l.length) H) : rLenU K [.str (SX.S l)] H Q := ⟨h, q⟩
theorem s_inS {c : Nat} {z : Str} (q : Q (.bl (decide (c ∈ z.cps.toList))) H) : rInU K (.str (SX.S [c])) (.str z) H Q := ⟨c, rfl, q⟩
theorem s_ninS {c : Nat} {z : Str} (q : Q (.bl (!decide (c ∈ z.cps.toList))) H) : rNinU K (.str (SX.S [c])) (.str z) H Q := ⟨c, rfl, q⟩
theorem s_exx {z : Str} {T : Str → Prop} (q : T z) : ∃ x, V.str z = V.str x ∧ T x := ⟨z, rfl, q⟩
theorem s_wy {A B : Prop} {x : Nat} (h : A) (q : B) : A ∧ B := ⟨h, q⟩
theorem cut_gen (l : List Nat) (lo hi : Option Int) : cutS (SX.S l) lo hi = SX.S ((l.drop (HT.sIx l.length 0 lo)).take (HT.sIx l.length l.length hi - HT.sIx l.length 0 lo)) := by
  unfold cutS
  rw [SX.S_len]
theorem cut_take {l : List Nat} {k : Int} (h : 0 ≤ k) : cutS (SX.S l) none (some k) = SX.S (l.take k.toNat) := by
  obtain ⟨m, rfl⟩ := Int.eq_ofNat_of_zero_le h
  rw [cut_gen, HT.sIx_none, HT.sIx_nat, List.drop_zero, Nat.sub_zero, Int.toNat_natCast]
  by_cases hk : m ≤ l.length
  · rw [Nat.min_eq_left hk]
  · rw [Nat.min_eq_right (by omega), List.take_length, List.take_of_length_le (by omega)]
theorem cut_drop {l : List Nat} {k : Int} (h : 0 ≤ k) : cutS (SX.S l) (some k) none = SX.S (l.drop k.toNat) := by
  obtain ⟨m, rfl⟩ := Int.eq_ofNat_of_zero_le h
  rw [cut_gen, HT.sIx_none, HT.sIx_nat, Int.toNat_natCast]
  by_cases hk : m ≤ l.length
  · rw [Nat.min_eq_left hk, List.take_of_length_le (by rw [List.length_drop]; omega)]
  · rw [Nat.min_eq_right (by omega), Nat.sub_self, List.take_zero, List.drop_eq_nil_of_le (by omega)]
theorem cut_mid {l : List Nat} {a b : Int} (h : 0 ≤ a) (h2 : 0 ≤ b) : cutS (SX.S l) (some a) (some b) = SX.S ((l.drop a.toNat).take (b.toNat - a.toNat)) := by
  obtain ⟨m, rfl⟩ := Int.eq_ofNat_of_zero_le h
  obtain ⟨n, rfl⟩ := Int.eq_ofNat_of_zero_le h2
  rw [cut_gen, HT.sIx_nat, HT.sIx_nat, Int.toNat_natCast, Int.toNat_natCast]
  by_cases hk : m ≤ l.length
  · rw [Nat.min_eq_left hk]
    by_cases hb : n ≤ l.length
    · rw [Nat.min_eq_left hb]
    · rw [Nat.min_eq_right (by omega), List.take_of_length_le (by rw [List.length_drop]; omega), List.take_of_length_le (by rw [List.length_drop]; omega)]
  · rw [Nat.min_eq_right (show l.length ≤ m by omega), List.drop_length, List.drop_eq_nil_of_le (show l.length ≤ m by omega), List.take_nil, List.take_nil]
theorem at_ofN {α : Type} {xs : List α} {z : Int} {j : Nat} {v : α} (e : z = (j : Int)) (h : xs[j]? = some v) : atI xs z = some v := by
  rw [e]
  exact atI_nat h
theorem s_slTake {l : List Nat} {k : Int} (hz : l.length ≤ sizeLine) (hk : 0 ≤ k) (q : Q (.str (SX.S (l.take k.toNat))) H) : rSlU K (.str (SX.S l)) none (some k) H Q := ⟨hz, by rw [cut_take hk]; exact q⟩
theorem s_slDrop {l : List Nat} {k : Int} (hz : l.length ≤ sizeLine) (hk : 0 ≤ k) (q : Q (.str (SX.S (l.drop k.toNat))) H) : rSlU K (.str (SX.S l)) (some k) none H Q := ⟨hz, by rw [cut_drop hk]; exact q⟩
theorem s_slMid {l : List Nat} {a b : Int} (hz : l.length ≤ sizeLine) (ha : 0 ≤ a) (hb : 0 ≤ b) (q : Q (.str (SX.S ((l.drop a.toNat).take (b.toNat - a.toNat)))) H) : rSlU K (.str (SX.S l)) (some a) (some b) H Q := ⟨hz, by rw [cut_mid ha hb]; exact q⟩
theorem s_ixX {l : List Nat} {i : Int} {c : Nat} (h : l.length ≤ sizeLine) (e : atI l i = some c) (q : Q (.str (SX.S [c])) H) : rIxU K (.str (SX.S l)) (.int i) H Q := ⟨h, c, e, q⟩
theorem S_eq {a b : List Nat} : (SX.S a = SX.S b) ↔ a = b := ⟨SX.S_inj, fun h => by rw [h]⟩
theorem s_popS {v : V} (h : H a = some (.lst (xs ++ [v]))) (q : Q v (upd H a (.lst xs))) : rPop (.ref a) [] H Q := ⟨a, xs ++ [v], v, rfl, rfl, h, by rw [List.length_append, List.length_singleton, Nat.add_sub_cancel, List.getElem?_append_right (Nat.le_refl _), Nat.sub_self]; rfl, by rw [List.dropLast_concat]; exact q⟩
theorem s_strN {n : Nat} (h : ((n : Nat) : Int).natAbs.log2 < 1920) (q : Q (.str (SX.S (TL.numL n))) H) : rStrU [.int (n : Int)] H Q := ⟨h, by rw [show (toString ((n : Nat) : Int) : Str) = SX.S (TL.numL n) from SX.num_S n]; exact q⟩
theorem s_iRev {tr : Fs → Hp → (Int → Int → Hp → Prop) → Prop} {R : It → Hp → Prop} (q : tr σ H fun a b H1 => -(2 ^ 62) ≤ a ∧ a < 2 ^ 62 ∧ -(2 ^ 62) ≤ b ∧ b < 2 ^ 62 ∧ R (Itc (a + (((b - a).toNat : Nat) : Int) - 1) (-1) (b - a).toNat) H1) : iRevR tr σ H R := q
theorem s_rg1 {R : Int → Int → Hp → Prop} {ta : TE} (q : ta σ H fun x H1 => ∃ n, x = .int n ∧ R 0 n H1) : tRg1 ta σ H R := q
theorem map_S_tl (ls : List (List Nat)) : (ls.map SX.S).map TL.tl = ls := by
  rw [List.map_map]
  exact List.map_id' ls
theorem s_joinL {ls : List (List Nat)} {x : Str} (h : SqL K H a (ls.map fun l => V.str (SX.S l))) (hz : ls.flatten.length + ls.length * x.length ≤ 16777216) (q : Q (.str (SX.S (TL.joinL (TL.tl x) ls))) H) :
    rJoin K (.str x) [.ref a] H Q := by
  refine ⟨x, a, ls.map SX.S, rfl, rfl, .inl ?_, ?_, ?_⟩
  · rw [List.map_map]
    exact h
  · rw [List.map_map, List.length_map]
    have e : (ls.map ((fun x : Str => x.length) ∘ SX.S)).sum = ls.flatten.length := by
      rw [List.length_flatten]
      exact congrArg List.sum (List.map_congr_left fun l _ => SX.S_len l)
    rw [e]
    exact hz
  · rw [TL.join_eq]
    have e : Str.join x (ls.map SX.S) = SX.S (TL.joinL (TL.tl x) ls) := TL.ext_tl (by
      rw [TL.tl_join, map_S_tl])
    rw [e]
    exact q
theorem joinL_nil : ∀ ls : List (List Nat), TL.joinL [] ls = ls.flatten
  | [] => rfl
  | [p] => by simp [TL.joinL]
  | p :: q :: r => by
    show p ++ ([] ++ TL.joinL [] (q :: r)) = _
    rw [joinL_nil (q :: r)]
    rfl
theorem s_addX {x y : Str} (l m : List Nat) (hx : x = SX.S l) (hy : y = SX.S m) (hl : l.length + m.length ≤ sizeLine) (q : Q (.str (SX.S (l ++ m))) H) : rAddU K (.str x) (.str y) H Q := by
  subst hx hy
  exact s_addS (by rw [SX.S_len, SX.S_len]; exact hl) (by rw [SX.S_cat]; exact q)
theorem s_all {bs : List Bool} (h : SqL K H a (bs.map V.bl)) (q : Q (.bl (bs.all id)) H) : rAll K [.ref a] H Q := ⟨a, bs, rfl, h, q⟩
theorem same_put {H H' : Hp} {p : Addr} {o u : HO} (s : Same H H') (n : H p = none) : Same H (upd H' p o) := same_mut s n
end
/-- tuples stay -/
def Tp (H H' : Hp) : Prop := ∀ a xs, H a = some (.tup xs) → H' a = some (.tup xs)
theorem Tp.refl (H : Hp) : Tp H H := fun _ _ e => e
theorem Tp.trans {H H1 H2 : Hp} (a : Tp H H1) (b : Tp H1 H2) : Tp H H2 := fun c o e => b c o (a c o e)
theorem Tp.of {H H' : Hp} (a : Same H H') : Tp H H' := fun c o e => a c _ e
theorem Tp.put {H H' : Hp} {p : Addr} {xs : List V} {o : HO} (a : Tp H H') (e : H' p = some (.lst xs)) : Tp H (upd H' p o) := fun c ys h => by
  have n : c ≠ p := fun z => by
    subst z
    have := a _ _ h
    rw [e] at this
    cases this
  rw [upd_ne n]
  exact a c ys h
theorem Tp.new {H H' : Hp} {p : Addr} {o : HO} (a : Tp H H') (e : H' p = none) : Tp H (upd H' p o) := fun c ys h => same_new e c _ (a c ys h)
theorem Tp.but {H H' : Hp} {p : Addr} {xs : List V} (b : But p H H') (e : H p = some (.lst xs)) : Tp H H' := fun c ys h => b c _ h fun z => by
  subst z
  rw [e] at h
  cases h
end J
set_option maxRecDepth 100000
set_option maxHeartbeats 1000000
/-! J3: several clauses «except X as n», calls that may raise, str.split behind str.replace. -/
namespace J
open PySem PySem.Spec PyProof.Rows L2 CwR
/-- the ends of an except suite: the name's slot is empty behind it -/
def gone (i : Nat) (D : Ends) : Ends := { nx := fun σ H => D.nx (σ.set i none) H, rt := D.rt, bk := fun σ H => D.bk (σ.set i none) H, ct := fun σ H => D.ct (σ.set i none) H }
abbrev AsCl := Value × Nat × (Addr → Value → Option Addr → TS)
/-- what clauses «except c as n» wish of an exception, one after the other -/
def wAsN (K : PySem.W.Frag) (Wo : WX) (D : Ends) : List AsCl → WX
  | [] => Wo
  | (c, i, ts) :: r => fun cls d σ H => ∃ b, PySem.W.exmOne K cls c = some b ∧ (b = true → ∀ a, H a = none → ts a cls d (gone i D) (σ.set i (some (.ref a))) H) ∧ (b = false → wAsN K Wo D r cls d σ H)
inductive HdA (X : Cx) : List ExceptHandler → List AsCl → Prop
  | nil : HdA X [] []
  | cons {x n : Str} {i : Nat} {c : Value} {ts : Addr → Value → Option Addr → TS} {st : Stmt} {more : List Stmt} {p1 p2 : Pos} {hds : List ExceptHandler} {l : List AsCl} (hi : X.N[i]? = some n) (hln : X.env.kindOf n = some .local) (hc : Names X x c)
      (hsu : ∀ (a : Addr) (oe : Obj) (cls : Value) (d : Option Addr) (pn : List (Addr × Obj)), Zc cls d oe → (∃ vs, oe.data = .fields vs) → PSs (X.suite a ((a, oe) :: pn)) (st :: more) (ts a cls d)) (r : HdA X hds l) :
      HdA X (.ExceptHandler (some (.Name x p1)) (some n) (st :: more) p2 :: hds) ((c, i, ts) :: l)
section
variable {X : Cx} {body : List Stmt} {h₀ : ExceptHandler} {hds : List ExceptHandler} {l : List AsCl} {pos : Pos} {tb : WX → TS} {Wo : WX}
theorem ps_try_asN (hs : X.stack = X.env :: X.outer) (hf : X.env.frame = some X.env.locals) (hN : X.N.Nodup) (tk : Takes X Wo)
    (hb : ∀ (W : WX) (pn : List (Addr × Obj)) (xe : Value → Shared → Prop), Takes (X.tr pn xe) W → PassesOwn (model X.prog X.w) X.A X.env xe → PSs (X.tr pn xe) body (tb W))
    (hh : HdA X (h₀ :: hds) l) : PS X (.Try body (h₀ :: hds) [] [] pos) (fun D σ H => tb (wAsN X.K Wo D l) D σ H) := by
  refine ⟨fun pz s σ H D I want => ?_⟩
  have sta := I.ok
  have frm : X.A.frames = some (X.env :: X.outer) := by rw [sta.frames, hs]
  refine wpAny_Try_except (wpAny_mono ((hb (wAsN X.K Wo D l) (X.pn ++ pz) (fun e sa => wpAny (model X.prog X.w) X.A (noteFrame e X.env) (fun _ sb => wpAny (model X.prog X.w) X.A (setFlight e none) (fun _ sc =>
    wpAny (model X.prog X.w) X.A (handleBy e X.env (h₀ :: hds)) (SP X pz D) X.xe sc) X.xe sb) X.xe sa) (fun u st xx => ?_) PassesOwn.looking).run [] s σ H D (I.toTry _) want) (fun f st hsp => ?_) (fun e st he => he))
  · obtain ⟨a, B, sI, pz', σ1, H1, cls, d, rfl, U0, nb, up, sky, na, os, ag, w⟩ := xx
    have U : Inv X pz σ1 H1 sI := U0.ofTry sta
    have sky1 : Sky B (X.env :: X.outer) a (Zc cls d) X.env.locals st.heap := by rw [← hs]; exact sky
    show wpAny (model X.prog X.w) X.A (noteFrame (.ref a) X.env) _ _ _
    refine Sky.land Zc.steady frm hf sky1 fun g3 f3 u3 => ?_
    have U3 : Inv X pz σ1 H1 { st with heap := g3 } := U.landed nb f3.1 (up.trans u3) os ag
    obtain ⟨oa, va, ea, za, da⟩ := f3.there
    have nfr : a ∉ frs (X.env :: X.outer) := fun hm => by
      obtain ⟨_, ob, eb, hnf⟩ := f3.2.2.1.mem hm
      rw [ea] at eb
      cases eb
      exact hnf _ da
    have nL : a ≠ X.env.locals := fun z => nfr (List.mem_filterMap.mpr ⟨X.env, List.mem_cons_self, by rw [hf, z]⟩)
    have nF : a ∉ X.fs := fun hm => by
      obtain ⟨e, he, q⟩ := List.mem_filterMap.mp hm
      exact nfr (List.mem_filterMap.mpr ⟨e, List.mem_cons_of_mem _ he, q⟩)
    have S3 := U3.suite ea da na nL nF
    have go : ∀ {hs2 : List ExceptHandler} {l2 : List AsCl}, HdA X hs2 l2 → wAsN X.K Wo D l2 cls d σ1 H1 → wpAny (model X.prog X.w) X.A (handleBy (.ref a) X.env hs2) (SP X pz D) X.xe { st with heap := g3 } := by
      intro hs2 l2 hk
      induction hk with
      | nil =>
        intro w
        refine wpAny_handleBy_nil ?_
        obtain ⟨_, _, _, oe, vs, T, oT, _, he, _, hd, h1, _⟩ := id f3
        unfold PySem.passOn
        refine wpAny_bind (wpAny_field he hd h1 ?_)
        rw [if_neg (show ¬ ((Value.ref T == Value.none) = true) from by simp)]
        have last : wpAny (model X.prog X.w) X.A (setFlight (.ref a) X.env.frame) (fun _ s4 => wpAny (model X.prog X.w) X.A (throw (.ref a) : Sem Flow) (SP X pz D) X.xe s4) X.xe { st with heap := g3 } := by
          rw [hf]
          refine HandSPX.setFlight_upZ f3 fun g4 q4 u4 => wpAny_throw (tk _ _ ?_)
          exact ⟨a, B, sI, pz, σ1, H1, cls, d, rfl, U, nb, (up.trans u3).trans u4, .inr (.inr (by rw [hs]; exact q4)), na, os, ag, w⟩
        first
          | exact wpAny_bind (wpAny_pure (wpAny_bind last))
          | exact wpAny_bind last
      | @cons x n i c ts b₁ more p1 p2 hds2 l3 hi hln hc hsu r ih =>
        intro w
        obtain ⟨b, hb1, yes, no⟩ := w
        refine wpAny_handleBy_cons (codeAny_handlers_test ?_) (by intro q; cases q)
        have looks : PySem.W.Looks (model X.prog X.w) g3 (typeOf (.ref a)) cls := fun A Q E s k q => wpAny_typeOf_ref (k _ _ ea) (by rw [za.1]; exact q)
        have match1 := PySem.W.exm_one (M := model X.prog X.w) (U3.kIn) looks hb1
        have test : ∀ {Q : Value → Shared → Prop} {E : Value → Shared → Prop}, Q c { st with heap := g3 } → wpAny (model X.prog X.w) (X.A.mark (some (.ref a))) (eval (.Name x p1) X.env) Q E { st with heap := g3 } := fun {Q E} q => by
          obtain ⟨hg, hdbg, hm | ⟨hm, hv, hnn⟩⟩ := hc
          · exact ld_glob (X := X.suite a ((a, oa) :: (X.pn ++ pz))) S3 hg hm q hdbg
          · exact ld_blt (X := X.suite a ((a, oa) :: (X.pn ++ pz))) S3 hg hm hv q hnn hdbg
        refine test (match1.here ?_)
        cases b with
        | true =>
          refine codeAny_handlers_suite_as (HandSPX.lands_againZ f3 fun g4 f4 u4 => ?_)
          have U4 : Inv X pz σ1 H1 { st with heap := g4 } := U.landed nb f4.1 ((up.trans u3).trans u4) os ag
          obtain ⟨oc, vc, ec, zc, dc⟩ := f4.there
          have S4 := U4.suite ec dc na nL nF
          refine store_ok (X := X.suite a ((a, oc) :: (X.pn ++ pz))) (v := .ref a) S4 hN hi (.inl hln) rfl (fun s5 S5 => ?_) (.inr hln)
          refine wpAny_mono ((hsu a oc cls d (X.pn ++ pz) zc ⟨_, dc⟩).run [] s5 _ H1 _ S5 (yes rfl a na)) (fun f s6 hsp => ?_) (fun _ _ z => False.elim z)
          have end_ : ∀ {σ6 : Fs} {H6 : Hp} {Q : Shared → Prop}, Inv (X.suite a ((a, oc) :: (X.pn ++ pz))) [] σ6 H6 s6 → (∀ s7, Inv X pz (σ6.set i none) H6 s7 → Q s7) →
              wpAny (model X.prog X.w) X.A (do bindName X.env n .none; unbindBehindTheSuite X.env n p2) (fun _ s7 => Q s7) X.xe s6 := fun {σ6 H6 Q} S6 hq => gone_ok (S6.unsuite sta) hN hi hln hq
          cases f with
          | next =>
            obtain ⟨_, _, S6, q6⟩ := hsp
            exact end_ S6 fun s7 U7 => ⟨_, _, U7, q6⟩
          | brk =>
            obtain ⟨_, _, S6, q6⟩ := hsp
            exact end_ S6 fun s7 U7 => ⟨_, _, U7, q6⟩
          | cont =>
            obtain ⟨_, _, S6, q6⟩ := hsp
            exact end_ S6 fun s7 U7 => ⟨_, _, U7, q6⟩
          | ret u =>
            obtain ⟨_, _, _, S6, r6, q6⟩ := hsp
            exact end_ S6 fun s7 U7 => ⟨_, _, _, U7, r6, q6⟩
        | false =>
          show wpAny _ X.A (handleBy (.ref a) X.env hds2) _ _ _
          exact ih (no rfl)
    exact go hh w
  · cases f with
    | next =>
      obtain ⟨_, _, U, q⟩ := hsp
      exact wpAny_execs_nil ⟨_, _, U.ofTry sta, q⟩
    | brk =>
      obtain ⟨_, _, U, q⟩ := hsp
      exact ⟨_, _, U.ofTry sta, q⟩
    | cont =>
      obtain ⟨_, _, U, q⟩ := hsp
      exact ⟨_, _, U.ofTry sta, q⟩
    | ret u =>
      obtain ⟨_, _, _, U, r, q⟩ := hsp
      exact ⟨_, _, _, U.ofTry sta, r, q⟩
end
/-! ### str.split where a token is out -/
section
variable {X : Cx} {o e : Expr} {to te : TE} {apos pos : Pos}
theorem pet_split (ho : PET X o to) (he : PE X e te) (hs : starEach [e] X.env = [(false, eval e X.env)] := by rfl) (hbase : attributeBase o "split" X.env (eval o X.env) = eval o X.env := by rfl) (hline : (apos.endLine == pos.line) = true := by rfl) :
    PET X (.Call (.Attribute o "split" apos) [e] [] pos) (tM1 (fun x xs H Q => ∃ a b, x = .str a ∧ xs = [.str b] ∧ (b.length == 0) = false ∧ a.length + 2 ≤ sizeLine ∧ rNewStrs (Txt.split a b) H Q) to te) := by
  intro pz s σ H Q h0 I h
  refine PySem.Call_method1 hbase hs hline (thn (ho pz s σ H _ h0 I h) fun v s1 hh => ?_)
  obtain ⟨x, H1, I1, r1, ⟨a, rfl⟩, q1⟩ := hh
  obtain ⟨t, rfl⟩ := _root_.id r1
  refine ⟨"str", _, F.plainAttrs_str, F.slot_str_split, F.type_str_split, typeIs_str _ _ _, (fun _ z => nomatch z), Calls.callWith_builtin rfl (Calls.evalArgs_plain (Calls.spliced_cons ?_))⟩
  exact thn (he.run pz s1 σ H1 _ I1 q1) fun u s2 ⟨y, H2, I2, r2, q2⟩ => Calls.spliced_nil (mt_split pz s2 σ H2 _ [y] _ [u] Q I2 r1 (.cons r2 .nil) q2)
end
theorem psst_nox {X : Cx} {st : List Stmt} {t : TS} (h : PSsT X.nox st t) : PSsT X st t := fun pz s σ H D h0 I want =>
  wpAny_mono (h pz s σ H D h0 (I.wish _) want) (fun _ _ q => q.unwish) fun _ _ z => z.elim
/-- a def whose body wants a token (it has a parameter, so one is out) -/
theorem okT {P : Program} {w : World} {K : PySem.W.Frag} {mg : Str → Option Value} {base : Heap} {x qual : Str} {st : Stmt} {f : Addr} {fd : FuncData} {N ps : List Str} {k : Nat} {sp : Sp} (F : Fun K x qual st f fd) (S : FnScope N ps (defScope st)) (hnc : ∀ y ∈ (defScope st).names, y.2 ≠ .cell) (hps : 1 ≤ ps.length)
    (len : ∀ vs H Q E, sp vs H Q E → vs.length = ps.length)
    (hbody : ∀ (cdv : Value) (A : Around) (outer : List Env) (s : Shared) (H : Hp) (vs : List V) (Q : VK) (E : XK), Room k (A.deeper (envOfC qual (defScope st) s.heap.objs.size f cdv)) → sp vs H Q E →
      ∃ t, PSsT (cxOf CX0 P w K mg base N qual (defScope st) f cdv A outer s H E).nox (defBody st) t ∧ t { nx := fun _ H' => Q .non H', rt := Q } (start N vs) H) : FnOk P w K mg base CX0 (k + 1) f fd ps sp := by
  obtain ⟨oc, od, kV, doc, pm, an, cdv, ct, osl, rfl, lk, hcd⟩ := F.ex
  refine fn_ofT lk hcd S hnc hps len fun A outer s H vs Q E hr hsp => ?_
  obtain ⟨t, h, q⟩ := hbody cdv A outer s H vs Q E hr hsp
  exact ⟨t, psst_nox h, q⟩
/-- a call of a def that may raise -/
theorem pe_hasX {X : Cx} {W : WX} {x : Str} {ps : List Str} {k j : Nat} {sp : Sp} {p pos : Pos} {e : Expr} {es : List Expr} {t : TA} (h : Has X.prog X.w X.K X.mg X.base (L2.CX X.prog X.w) x ps k sp) (hr : Room j X.A) (hg : Gl X x) (tk : Takes X W) (ha : PA X (e :: es) t) (hk : k ≤ j := by decide)
    (hdb : (x == ("__debug__" : Str)) = false := by decide) (he : starEach (e :: es) X.env = (false, eval e X.env) :: starEach es X.env := by rfl) (hpl : (backTo pos (starEach es X.env)).any (·.1) = false := by rfl) :
    PE X (.Call (.Name x p) (e :: es) [] pos) (tCallS sp (WE W) t) := by
  obtain ⟨f, fd, F, m, kp, b⟩ := h
  exact pe_callS F (hr.mono hk) hg m kp b (fun σ => passAt tk σ) ha hdb he hpl
end J
set_option maxRecDepth 100000
set_option maxHeartbeats 1000000
/-! J4: own exceptions with one field, raised and caught. -/
namespace J
open PySem PySem.Spec PyProof.Rows L2
/-- the promise of such an __init__: the field is set -/
def spIni (C : Addr) (g : Str) : Sp := fun vs H Q _ => ∃ a v, vs = [.ref a, v] ∧ H a = some (exo a C none) ∧ ∀ d, H d = none → d ≠ a → Q .non (upd (upd H d (exd d [(g, v)])) a (exo a C (some d)))
/-- an own exception class with one field -/
structure ExOk (P : Program) (w : World) (K : PySem.W.Frag) (mg : Str → Option Value) (base : Heap) (x : Str) (C : Addr) (g : Str) (k : Nat) : Prop where
  T : OexC K C
  m : mg x = some (.ref C)
  ini : ∃ fI fd ps, PySem.W.findIn K (.ref C) "__init__" = some (some (.ref fI)) ∧ PySem.W.typeIn K (.ref fI) = some (.type "function") ∧ FnOk P w K mg base CX0 k fI fd ps (spIni C g) ∧ Binds K fd ps []
  xf : XfC K C
  no : PySem.W.findIn K (.ref C) g = some none
/-- a reading that may be asked for less -/
def up (te : TE) : TE := fun σ H Q => ∃ A : VK, te σ H A ∧ ∀ v H', A v H' → Q v H'
theorem pe_up {X : Cx} {e : Expr} {te : TE} (h : PE X e te) : PE X e (up te) := ⟨fun pz s σ H Q I q => by
  obtain ⟨A, a, m⟩ := q
  exact thn (h.run pz s σ H A I a) fun v s1 hh => by
    obtain ⟨x, H1, I1, r, z⟩ := hh
    exact ⟨x, H1, I1, r, m _ _ z⟩⟩
def tRz (C : Addr) (g : Str) (W : WX) (te : TE) : TS := fun _ σ H => te σ H fun v H1 => ∀ d, H1 d = none → W (.ref C) (some d) σ (upd H1 d (.xd [(g, v)]))
theorem ps_rz {X : Cx} {W : WX} {x g : Str} {C : Addr} {k j : Nat} {e : Expr} {te : TE} {p pos pos' : Pos} (E : ExOk X.prog X.w X.K X.mg X.base x C g k) (hr : Room j X.A) (hc : X.calm = true) (tk : Takes X W) (hg : Gl X x) (he : PE X e te) (hk : k + 1 ≤ j := by decide)
    (hdb : (x == ("__debug__" : Str)) = false := by decide) (h1 : starEach [e] X.env = (false, eval e X.env) :: starEach [] X.env := by rfl) (h2 : (backTo pos (starEach [] X.env)).any (·.1) = false := by rfl) :
    PS X (.Raise (some (.Call (.Name x p) [e] [] pos)) none pos') (tRz C g W te) := by
  obtain ⟨fI, fd, ps, iC, tI, F1, b⟩ := E.ini
  have r := ps_raise (pos := pos') hc tk (pmk_oex (pos := pos) (p := p) E.T iC tI F1 (hr.mono hk) b .nil pass0 hg E.m (pa_cons (pe_up he) pa_nil h1) hdb h1 h2)
  refine ⟨fun pz s σ H D I want => r.run pz s σ H D I ?_⟩
  refine ⟨_, want, fun v H1 q => ⟨(by show 1 ≤ 1000; decide), fun a ha => ⟨a, v, rfl, upd_same, fun d hd hda => ⟨rfl, d, [(g, v)], upd_same, ?_, ?_, ?_⟩⟩⟩⟩
  · rw [upd_ne hda, upd_same]
  · rw [upd_ne hda] at hd
    exact hd
  · rw [upd_ne hda] at hd
    have e2 : upd (del (upd (upd (upd H1 a (exo a C none)) d (exd d [(g, v)])) a (exo a C (some d))) a) d (.xd [(g, v)]) = upd H1 d (.xd [(g, v)]) := by
      funext c
      by_cases hc : c = d
      · rw [hc, upd_same, upd_same]
      · rw [upd_ne hc, upd_ne hc]
        by_cases hca : c = a
        · rw [hca, del_same, ha]
        · rw [del_ne hca, upd_ne hca, upd_ne hc, upd_ne hca]
    rw [e2]
    exact q d hd
theorem s_rz {C : Addr} {g : Str} {W : WX} {te : TE} {E : Ends} {σ : Fs} {H : Hp} (q : te σ H fun v H1 => ∀ d, H1 d = none → W (.ref C) (some d) σ (upd H1 d (.xd [(g, v)]))) : tRz C g W te E σ H := q
theorem s_callS {sp : Sp} {E : Fs → XK} {ar : TA} {σ : Fs} {H : Hp} {Q : VK} (q : ar σ H fun vs H1 => sp vs H1 Q (E σ)) : tCallS sp E ar σ H Q := q
/-- the __init__ of such a class: super().__init__(text), then the field -/
theorem ok_ini {P : Program} {w : World} {K : PySem.W.Frag} {mg : Str → Option Value} {base : Heap} {f C : Addr} {qual g : Str} {params : Arguments} {body : List Stmt} {scope : Scope} {fd : FuncData} {z : Str} {j : Nat} {p0 p1 p2 p3 p4 p5 q1 q2 q3 q4 : Pos} {ar : Arg} {pl : Sem Bool}
    (Fs : SupC P K mg C f qual params body scope fd) (S : SupScope ["self", g] ["self", g] scope) (hbd : body = supSt z j p0 p1 p2 p3 p4 p5 :: [.Assign [.Attribute (.Name "self" q1) g q2] (.Name g q3) q4]) (har : (params.posonlyargs ++ params.args).head? = some ar) (hself : ar.arg = "self")
    (hint : ∀ (L : Addr) (cd : Value) (cc : Addr), interactive (PySem.W.envX qual scope L f cd [("__class__", cc)]) = false)
    (hev : ∀ (L : Addr) (cd : Value) (cc : Addr), eval (.Call (.Attribute (.Call (.Name "super" p0) [] [] p1) "__init__" p2) [.Constant (.str z) j p3] [] p4) (PySem.W.envX qual scope L f cd [("__class__", cc)]) = (do
      let ov ← attributeBase (.Call (.Name "super" p0) [] [] p1) "__init__" (PySem.W.envX qual scope L f cd [("__class__", cc)]) (eval (.Call (.Name "super" p0) [] [] p1) (PySem.W.envX qual scope L f cd [("__class__", cc)]))
      standAt p2.atName
      let (f', first) ← holding [ov] (getMethod ov "__init__" pl)
      callWith p4 f' first (backTo p4 (starEach [.Constant (.str z) j p3] (PySem.W.envX qual scope L f cd [("__class__", cc)]))) []))
    (hsu : scope.names.lookup ("super" : Str) = some NameKind.globalImplicit) (hcl : scope.names.lookup ("__class__" : Str) = some NameKind.free) (hg1 : scope.names.lookup g = some .local) (hg2 : scope.names.lookup ("self" : Str) = some .local) (no : PySem.W.findIn K (.ref C) g = some none)
    (hd : (g == ("__debug__" : Str)) = false) (hcd : (g == ("__classdict__" : Str)) = false)
    (hsw : ∀ env : Env, swapsWith (.Name g q3) (some (.Attribute (.Name "self" q1) g q2)) q4.line env = pure false) : FnOk P w K mg base CX0 1 f fd ["self", g] (spIni C g) := by
  refine fn_sup Fs S hbd rfl har hself hint hev hsu hcl (fun vs H Q E h => ?_) (fun cd cc A outer s H vs Q E hr h => ?_)
  · obtain ⟨a, v, rfl, _⟩ := h
    rfl
  · obtain ⟨a, v, rfl, ha, q⟩ := h
    refine ⟨_, a, pss_one (ps_ost (pe_var (i := 0) rfl (.inl hg2) (by decide) (by decide)) (pe_var (i := 1) rfl (.inl hg1) hd hcd) (hsw _)), rfl, ha, ?_⟩
    refine ⟨v, rfl, V.ref a, rfl, a, C, rfl, Fs.T, no, .inl ⟨ha, fun dx hdx hne => ?_⟩⟩
    exact q dx hdx hne
theorem s_xf {a : Addr} {cls : Value} {d : Option Addr} {C : Addr} {g : Str} {te : TE} {σ : Fs} {H : Hp} {Q : VK} (q : te σ H fun x H1 => x = .ref a ∧ cls = .ref C ∧ ∃ (dd : Addr) (fs : List (Str × V)) (v : V), d = some dd ∧ H1 dd = some (.xd fs) ∧ fs.lookup g = some v ∧ Q v H1) : tXf a cls d C g te σ H Q := q
end J
set_option maxRecDepth 100000
set_option maxHeartbeats 1000000
/-! J5: promises where no repr is under way around the call (repr of lists and tuples wants it). -/
namespace J
open PySem PySem.Spec PyProof.Rows L2
/-- a def's promise at calls with no repr under way; no exception leaves -/
structure FnG (P : Program) (w : World) (K : PySem.W.Frag) (mg : Str → Option Value) (base : Heap) (k : Nat) (f : Addr) (fd : FuncData) (ps : List Str) (sp : Sp) : Prop where
  len : ∀ vs H Q E, sp vs H Q E → vs.length = ps.length
  run : ∀ (A : Around) (outer : List Env) (s : Shared) (H : Hp) (args : Args) (us : List Value) (vs : List V) (Q : VK), A.guards = some [] → Room k A → Env0 P w K mg base A outer s H → BindsTo s fd args (ps.zip us) → Vals vs us → sp vs H Q E0 →
    codeAny (model P w) A (.call (.ref f) args) (CR CX0 outer P w H s Q E0) s
theorem gOf {P : Program} {w : World} {K : PySem.W.Frag} {mg : Str → Option Value} {base : Heap} {k : Nat} {f : Addr} {fd : FuncData} {ps : List Str} {sp : Sp} (F : FnOk P w K mg base CX0 k f fd ps sp) : FnG P w K mg base k f fd ps sp :=
  ⟨F.len, fun A outer s H args us vs Q _ hr e0 hb r q => F.run A outer s H args us vs Q E0 hr e0 hb r q⟩
/-- how a body's end becomes the call's end -/
theorem endG {P : Program} {w : World} {K : PySem.W.Frag} {mg : Str → Option Value} {base : Heap} {N : List Str} {qual : Str} {scope : Scope} {f : Addr} {cdv : Value} {A : Around} {outer : List Env} {s s' : Shared} {H : Hp} {E : XK} {Q : VK} {fl : Flow}
    (h : SP (cxOf CX0 P w K mg base N qual scope f cdv A outer s H E) [] { nx := fun _ H' => Q .non H', rt := Q } fl s') : ∃ u, (match fl with | .ret u => u | _ => .none) = u ∧ CE outer P w H s Q u s' := by
  cases fl with
  | ret u =>
    obtain ⟨v, _, H', J, rv, q⟩ := h
    exact ⟨u, rfl, v, H', J.os, J.bare, J.base, J.hok, rv, q⟩
  | next =>
    obtain ⟨_, H', J, q⟩ := h
    exact ⟨.none, rfl, .non, H', J.os, J.bare, J.base, J.hok, rfl, q⟩
  | brk => exact (h.elim fun _ z => z.elim fun _ z => z.2).elim
  | cont => exact (h.elim fun _ z => z.elim fun _ z => z.2).elim
section
variable {P : Program} {w : World} {K : PySem.W.Frag} {mg : Str → Option Value} {base : Heap}
theorem okG {x qual : Str} {st : Stmt} {f : Addr} {fd : FuncData} {N ps : List Str} {k : Nat} {sp : Sp} (F : Fun K x qual st f fd) (S : FnScope N ps (defScope st)) (len : ∀ vs H Q E, sp vs H Q E → vs.length = ps.length)
    (body : ∀ (cdv : Value) (A : Around) (outer : List Env) (s : Shared) (H : Hp) (vs : List V) (Q : VK), A.guards = some [] → Room k (A.deeper (envOfC qual (defScope st) s.heap.objs.size f cdv)) → sp vs H Q E0 →
      ∃ t, PSs (cxOf CX0 P w K mg base N qual (defScope st) f cdv A outer s H E0).nox (defBody st) t ∧ t { nx := fun _ H' => Q .non H', rt := Q } (start N vs) H) : FnG P w K mg base (k + 1) f fd ps sp := by
  obtain ⟨oc, od, kV, doc, pm, an, cdv, ct, osl, rfl, lk, hcd⟩ := F.ex
  refine ⟨len, fun A outer s H args us vs Q gd hr e0 hb r hsp => ?_⟩
  have inK : K.In s.heap := e0.mod.kin.keeps fun b o z => (e0.bs b o z).1
  obtain ⟨t, ht, hq⟩ := body cdv A outer s H vs Q gd (hr.deeper _) hsp
  refine codeAny_call_function hr.depth (inK _ _ lk) rfl S.co S.gen rfl (PySem.W.codeRec_of inK hcd) (hb _ _ _ _ (wpAny_newFunctionEnv_cells S.kind (fun y hy => ?_) fun env he s1 x1 => ?_))
  · obtain ⟨n, v⟩ := y
    exact (S.par n (List.of_mem_zip hy).1).imp id fun q => ⟨q, PySem.W.cellsFrom_some _ _ _ (.inl q)⟩
  · subst he
    refine ⟨(e0.mod.nolimit.keeps fun b o z => (e0.bs b o z).1).keeps x1.toInCall.keep, codeAny_func (wpAny_mono (ht.nox.run [] s1 (start N vs) H _ (inv_start S hr.hd e0 (len _ _ _ _ hsp) r x1) hq) (fun fl s' z => ?_) fun e s' z => z)⟩
    obtain ⟨u, e, c⟩ := endG z
    cases fl with
    | ret v => cases e; exact c
    | next => cases e; exact c
    | brk => exact (z.elim fun _ z => z.elim fun _ z => z.2).elim
    | cont => exact (z.elim fun _ z => z.elim fun _ z => z.2).elim
def HasG (P : Program) (w : World) (K : PySem.W.Frag) (mg : Str → Option Value) (base : Heap) (x : Str) (ps : List Str) (k : Nat) (sp : Sp) : Prop :=
  ∃ f fd, FnG P w K mg base k f fd ps sp ∧ mg x = some (.ref f) ∧ PySem.W.keepIn K (.ref f) = true ∧ Binds K fd ps []
end
section
variable {X : Cx} {x : Str} {ps : List Str} {k j : Nat} {sp : Sp} {p pos : Pos} {e : Expr} {es : List Expr} {t : TA}
theorem runG {f : Addr} {fd : FuncData} {pz : List (Addr × Obj)} {σ : Fs} {H : Hp} {s : Shared} {Q : VK} {us : List Value} {vs : List V} (F : FnG X.prog X.w X.K X.mg X.base k f fd ps sp) (gd : X.A.guards = some []) (hr : Room k X.A) (b : Binds X.K fd ps [])
    (I : Inv X pz σ H s) (r : Vals vs us) (h : sp (vs ++ []) H Q E0) : wpAny (model X.prog X.w) X.A (call (.ref f) us) (EP X pz σ Q) X.xe s := by
  rw [List.append_nil] at h
  have n : (us ++ []).length = ps.length := by rw [List.append_nil, ← r.length, F.len _ _ _ _ h]
  have bt := b s us I.kIn n
  rw [List.append_nil] at bt
  refine wpAny_call (codeAny_mono (F.run X.A X.stack s H ⟨us, []⟩ us vs Q gd hr I.env0 bt r h) fun res s' hq => ?_)
  cases res with
  | error _ => exact hq.elim
  | ok fl =>
    cases fl with
    | ret u => exact I.after hq
    | next => exact hq.elim
    | brk => exact hq.elim
    | cont => exact hq.elim
theorem pe_hasG (h : HasG X.prog X.w X.K X.mg X.base x ps k sp) (gd : X.A.guards = some []) (hr : Room j X.A) (hg : Gl X x) (ha : PA X (e :: es) t) (hk : k ≤ j := by decide)
    (hdb : (x == ("__debug__" : Str)) = false := by decide) (he : starEach (e :: es) X.env = (false, eval e X.env) :: starEach es X.env := by rfl) (hpl : (backTo pos (starEach es X.env)).any (·.1) = false := by rfl) :
    PE X (.Call (.Name x p) (e :: es) [] pos) (tCall sp [] E0 t) := by
  obtain ⟨f, fd, F, m, kp, b⟩ := h
  refine ⟨fun pz s σ H Q I q => wpAny_Call_Name_kw (ld_glob I hg m (PySem.W.callWith_K (h₀ := X.base) I.ok.mod.kin kp (thn (ha.run pos pz s σ H _ I q) fun us s1 hh => ?_) he hpl) hdb)⟩
  obtain ⟨vs, H1, I1, r, z⟩ := hh
  exact ⟨I1.kIn, runG F gd (hr.mono hk) b I1 r z⟩
theorem pe_hasG0 (h : HasG X.prog X.w X.K X.mg X.base x ps k sp) (gd : X.A.guards = some []) (hr : Room j X.A) (hg : Gl X x) (hk : k ≤ j := by decide)
    (hdb : (x == ("__debug__" : Str)) = false := by decide) : PE X (.Call (.Name x p) [] [] pos) (tCall sp [] E0 tNil) := by
  obtain ⟨f, fd, F, m, kp, b⟩ := h
  exact ⟨fun pz s σ H Q I q => wpAny_Call_Name_kw (ld_glob I hg m (PySem.W.callWith_K0 I.kIn kp (runG (us := []) F gd (hr.mono hk) b I .nil q)) hdb)⟩
theorem u100 {k : Nat} {A : Around} (r : Room k A) : A.units + 100 < cLine := by
  have := r.un
  omega
/-- repr of a list or tuple of plain data -/
def rRepr (K : PySem.W.Frag) : List V → Hp → VK → Prop := fun xs H Q => ∃ a d, xs = [.ref a] ∧ Dp K H (.ref a) d ∧ d.showable = true ∧ d.hasDict = false ∧ d.depth ≤ 64 ∧ d.shown.length ≤ sizeLine ∧ Q (.str d.shown) H
theorem k_repr {K : PySem.W.Frag} (hK : X.K = K) (gd : X.A.guards = some []) (hu : X.A.units + 100 < cLine) : CallR X (.builtin "repr") (rRepr K) := by
  subst hK
  intro pz s σ H xs us Q I r h
  obtain ⟨a, d, rfl, hd, h1, h2, h3, h4, q⟩ := h
  obtain ⟨u, rfl, ru⟩ := vals1 r
  cases ru
  obtain ⟨as, rd⟩ := Dp.reads I d (.ref a) (.ref a) hd rfl
  refine repr_of_reads' rd h1 (PyData.noDict_hsm h2) gd (by omega) (fun _ _ z => z) (fun h' v tk kk => ?_) h4
  exact ⟨.str d.shown, H, I.kept (t' := tk) kk, ⟨v, rfl⟩, q⟩
end
section
variable {K : PySem.W.Frag} {H : Hp} {Q : VK} {a b : Addr} {d e : PyData}
theorem s_eqD (h1 : Dp K H (.ref a) d) (h2 : Dp K H (.ref b) e) (s1 : SeqAt.shaped d = true) (s2 : SeqAt.shaped e = true) (q : Q (.bl (PyData.eqv d e)) H) : rEqU K (.ref a) (.ref b) H Q := ⟨d, e, h1, h2, s1, s2, q⟩
theorem s_repr (h : Dp K H (.ref a) d) (h1 : d.showable = true) (h2 : d.hasDict = false) (h3 : d.depth ≤ 64) (h4 : d.shown.length ≤ sizeLine) (q : Q (.str d.shown) H) : rRepr K [.ref a] H Q := ⟨a, d, rfl, h, h1, h2, h3, h4, q⟩
end
theorem s_rng1 {ta : TA} {σ : Fs} {H : Hp} {R : It → Hp → Prop} (q : ta σ H fun vs H1 => ∃ j : Int, vs = [.int j] ∧ -(2 ^ 62) ≤ j ∧ j < 2 ^ 62 ∧ R (Itr 0 j.toNat) H1) : iRng1 ta σ H R := q
theorem s_rng2 {ta : TA} {σ : Fs} {H : Hp} {R : It → Hp → Prop} (q : ta σ H fun vs H1 => ∃ i j : Int, vs = [.int i, .int j] ∧ (-(2 ^ 62) ≤ i ∧ i < 2 ^ 62 ∧ -(2 ^ 62) ≤ j ∧ j < 2 ^ 62) ∧ R (Itr i (j - i).toNat) H1) : iRng2 ta σ H R := q
theorem s_addR {K : PySem.W.Frag} {H : Hp} {Q : VK} {a b : Addr} {xs zs : List V} (h1 : H a = some (.lst xs)) (h2 : H b = some (.lst zs)) (hl : xs.length + zs.length ≤ sizeLine) (q : ∀ p, H p = none → Q (.ref p) (upd H p (.lst (xs ++ zs)))) : rAddU K (.ref a) (.ref b) H Q := .inl ⟨xs, zs, h1, h2, hl, q⟩
theorem str_at {z : Str} {d : Nat} (h : d < z.length) : ∃ c, atI z.cps.toList (d : Int) = some c := by
  have h2 : d < z.cps.toList.length := by rw [Array.length_toList]; exact h
  exact ⟨_, at_ofN rfl (List.getElem?_eq_getElem h2)⟩
/-! ### text * int -/
theorem fold_app : ∀ (n : Nat) (l : List Nat) (a : Array Nat), ((List.replicate n l.toArray).foldl (· ++ ·) a).toList = a.toList ++ (List.replicate n l).flatten
  | 0, l, a => by simp
  | n + 1, l, a => by
    rw [List.replicate_succ, List.foldl_cons, fold_app n l, List.replicate_succ, List.flatten_cons]
    simp
theorem mul_S {l : List Nat} {k : Int} : Txt.mul (SX.S l) k = SX.S (List.replicate k.toNat l).flatten := by
  unfold Txt.mul
  by_cases h : k < 1
  · rw [if_pos h, show k.toNat = 0 by omega]
    rfl
  · rw [if_neg h]
    by_cases h1 : k = 1
    · subst h1
      simp
    · by_cases h2 : l = []
      · subst h2
        have e : (k == 1 || (SX.S []).length == 0) = true := by
          have : ((SX.S []).length == 0) = true := rfl
          rw [this, Bool.or_true]
        rw [if_pos e]
        simp
      · have e : (k == 1 || (SX.S l).length == 0) = false := by
          rw [SX.S_len, Bool.or_eq_false_iff]
          exact ⟨beq_eq_false_iff_ne.mpr h1, beq_eq_false_iff_ne.mpr fun z => h2 (List.length_eq_zero_iff.mp z)⟩
        rw [if_neg (by rw [e]; exact Bool.false_ne_true)]
        refine TL.ext_tl ?_
        have := fold_app k.toNat l #[]
        simpa [TL.tl] using this
theorem mul_ok {l : List Nat} {k : Int} (h0 : 0 ≤ k) (h1 : k ≤ 1000000) (h : l.length * k.toNat ≤ 16777216) : MulOk (SX.S l) k := by
  refine ⟨?_, fun hk _ => ?_, fun hk _ => ?_⟩
  · rw [Bool.or_eq_false_iff]
    exact ⟨decide_eq_false (by omega), decide_eq_false (by omega)⟩
  · rw [SX.S_len]
    have e : ((l.length * k.toNat : Nat) : Int) ≤ 16777216 := by omega
    rw [Int.natCast_mul, Int.toNat_of_nonneg h0] at e
    have : (l.length : Int) ≤ (2 ^ 63 - 1) / k := Int.le_ediv_of_mul_le (by omega) (by omega)
    omega
  · rw [SX.S_len]
    unfold Builtin.Str.tooLong
    first | exact decide_eq_false (by rw [sizeLine_eq]; omega) | skip
theorem s_mulX {H : Hp} {Q : VK} {x : Str} (l : List Nat) {k : Int} (hx : x = SX.S l) (h0 : 0 ≤ k) (h1 : k ≤ 1000000) (h : l.length * k.toNat ≤ 16777216) (q : Q (.str (SX.S (List.replicate k.toNat l).flatten)) H) : rMulU (.str x) (.int k) H Q := by
  subst hx
  exact ⟨mul_ok h0 h1 h, by rw [mul_S]; exact q⟩
theorem flat_rep {n c : Nat} : (List.replicate n [c]).flatten = List.replicate n c := by
  induction n with
  | zero => rfl
  | succ n ih => rw [List.replicate_succ, List.flatten_cons, ih]; rfl
/-- for x in (a, b, ..), [a, b, ..]: I σ H stays -/
theorem for_all {K : PySem.W.Frag} {J : It} {g : TG} {tb : TS} {E : Ends} {σ : Fs} {H : Hp} {ys : List V} {P : Hp → Prop} (Y : Yl J P ys) (I : Fs → Hp → Prop) (hI : ∀ σ H, I σ H → P H) (h0 : I σ H)
    (hs : ∀ σ H x, I σ H → x ∈ ys → g x σ H fun σ2 H2 => tb ⟨I, E.rt, E.nx, I⟩ σ2 H2) (hq : ∀ σ H, I σ H → E.nx σ H) : ForG J g tb E σ H :=
  for_go Y (fun _ => I) (fun _ => hI) h0 (fun i σ H x h _ hx => hs σ H x h (List.mem_of_getElem? hx)) hq
/-! ### the law's call -/
section
variable {P : Program} {w : World} {K : PySem.W.Frag} {mg mb : Str → Option Value} {s : Shared} {a : Addr} {vs : List Value} {ns : List Int}
/-- the module as the law finds it, the script apart -/
theorem entryG (inK : K.In s.heap) (hns : s.heap.Ns mainGlobals mg) (hb : s.heap.Ns builtinsNs mb) (blt : ∀ x : Str, x ≠ "__name__" → mb x = bootBuiltins x) (free : s.heap.NoLimit) (hg : s.gens = #[]) {o : Obj} (ho : s.heap.get? a = some o) (nodict : ∀ es ep, o.data ≠ .dict es ep)
    {H : Hp} (okH : HOk P w H s.heap) (one : ∀ b, H b ≠ none → b = a) (out : H a ≠ none → K.lookup a = none) : Env0 P w K mg (hidT s.heap H) callerA [] s H := by
  have keep : ∀ {b : Addr} {u : Obj}, s.heap.get? b = some u → (b = a → H a = none) → (hidT s.heap H).get? b = some u := fun {b u} e n => hidT_get e (Classical.byContradiction fun z => by
    have eb := one b z
    exact z (eb ▸ n eb))
  have nsp : ∀ {b : Addr} {m : Str → Option Value}, s.heap.Ns b m → (hidT s.heap H).Ns b m := fun {b m} z => by
    obtain ⟨u, es, ep, e, d, r⟩ := z
    refine ⟨u, es, ep, keep e fun eb => ?_, d, r⟩
    subst eb
    rw [ho] at e
    cases e
    exact absurd d (nodict es ep)
  have kin : K.In (hidT s.heap H) := fun b u e => keep (inK b u e) fun eb => Classical.byContradiction fun z => by
    rw [eb, out z] at e
    cases e
  obtain ⟨mc, l1, l2⟩ := free
  exact ⟨rfl, ⟨kin, nsp hns, ⟨mb, nsp hb, blt⟩, ⟨mc, nsp l1, l2⟩⟩, fun b u e => of_hidT e, Nat.le_of_eq (hidT_size _ _), trivial, (fun b z => nomatch z), okH, .of_eq hg⟩
/-- what the law's call leaves as it was -/
theorem exitG {H : Hp} (okH : HOk P w H s.heap) (only : Only H) {u : Value} {s' : Shared} (h : CE [] P w H s (fun v _ => v = .bl true) u s') : u = .bool true ∧ OldK s.heap s'.heap ∧ s'.os = s.os ∧ AllBare s'.gens := by
  obtain ⟨v, H', os, bare, un, okH', rv, rfl⟩ := h
  refine ⟨rv, OldK.of_keep fun b o e => ?_, os, bare⟩
  rcases only b with z | ⟨ob, xs, z⟩
  · exact un.keep b o e z (fun m => nomatch m) (fun m => nomatch m)
  · have z' := okH' b _ (un.frzs b ob _ z)
    have y := (okH b _ z).1
    rw [e] at y
    rw [Option.some.inj y]
    exact z'.1
theorem law_callG {k : Nat} {fa : Addr} {fd : FuncData} {x : Str} {sp : Sp} (inK : K.In s.heap) (hns : s.heap.Ns mainGlobals mg) (hb : s.heap.Ns builtinsNs mb) (blt : ∀ x : Str, x ≠ "__name__" → mb x = bootBuiltins x) (free : s.heap.NoLimit) (hg : s.gens = #[])
    (ha : s.heap.get? a = some { cls := .type "list", data := .seq vs.toArray }) (hi : IntsAre vs ns) (hl : ns.length ≤ sizeLine) (hr : Room k callerA)
    (F : ∀ base : Heap, K.In base → base.Ns mainGlobals mg → FnG P w K mg base k fa fd [x] sp) (hbind : ∀ (s : Shared) (u : Value), BindsTo s fd ⟨[u], []⟩ [(x, u)])
    (hsp : ∀ H : Hp, Only H → SqL K H a (ns.map V.int) → sp [.ref a] H (fun v _ => v = .bl true) E0) :
    codeAny (model P w) callerA (.call (.ref fa) ⟨[.ref a], []⟩) (fun r s' => r = .ok (.ret (.bool true)) ∧ OldK s.heap s'.heap ∧ s'.os = s.os ∧ AllBare s'.gens) s := by
  have rv := vals_ints hi
  have run : ∀ H : Hp, Only H → SqL K H a (ns.map V.int) → HOk P w H s.heap → (∀ b, H b ≠ none → b = a) → (H a ≠ none → K.lookup a = none) →
      codeAny (model P w) callerA (.call (.ref fa) ⟨[.ref a], []⟩) (fun r s' => r = .ok (.ret (.bool true)) ∧ OldK s.heap s'.heap ∧ s'.os = s.os ∧ AllBare s'.gens) s := fun H only scr okH one out => by
    have e := entryG inK hns hb blt free hg ha (fun _ _ z => nomatch z) okH one out
    refine codeAny_mono ((F _ e.mod.kin e.mod.glob).run callerA [] s H ⟨[.ref a], []⟩ [.ref a] [.ref a] _ rfl hr e (hbind s (.ref a)) (.cons rfl .nil) (hsp H only scr)) fun r s' z => ?_
    cases r with
    | error _ => exact z.elim
    | ok fl =>
      cases fl with
      | ret u =>
        obtain ⟨eu, rest⟩ := exitG okH only z
        exact ⟨by rw [eu], rest⟩
      | next => exact z.elim
      | brk => exact z.elim
      | cont => exact z.elim
  cases hk : K.lookup a with
  | some o =>
    have e := inK a o hk
    rw [ha] at e
    cases e
    exact run (fun _ => none) (fun _ => .inl rfl) (.inr ⟨_, vs.toArray, _, hk, rfl, rfl, rfl, by rw [List.size_toArray, hi.length]; exact hl, by simpa using rv⟩) (fun _ _ z => nomatch z) (fun _ z => absurd rfl z) fun z => absurd rfl z
  | none =>
    let H : Hp := upd (fun _ => none) a (.frz { cls := .type "list", data := .seq vs.toArray } (.lst (ns.map V.int)))
    have off : ∀ {b : Addr}, b ≠ a → H b = none := fun {b} n => upd_ne n
    refine run H (fun b => ?_) (.inl (.inr ⟨_, upd_same⟩)) (fun b u z => ?_) (fun b z => Classical.byContradiction fun n => z (off n)) fun _ => hk
    · by_cases n : b = a
      · exact .inr ⟨_, _, by rw [n]; exact upd_same⟩
      · exact .inl (off n)
    · by_cases n : b = a
      · subst n
        have z2 : some (HO.frz { cls := .type "list", data := .seq vs.toArray } (.lst (ns.map V.int))) = some u := (upd_same (H := fun _ => none)).symm.trans z
        cases z2
        exact ⟨ha, by rw [List.length_map]; exact hl, vs, _, rv, ha⟩
      · rw [off n] at z
        cases z
end
theorem walkG {l : PySem.W.OpenLaw} {n k : Nat} {q : Program} {loose : List Str} {XP : (Str → Option Value) → Heap → Prop} {YP : World → Heap → Prop} {d : DefRec} {K : Params → PySem.W.Frag} {sp : PySem.W.Frag → Sp} {x : Str} (hn : l.most = some n) (hn2 : n ≤ sizeLine) (hdf : d.params.defaults = []) (hr : Room k callerA)
    (hY : ∀ (w : World) (h : Heap), YP w h → (K w.params).In h)
    (F : ∀ (w : World) (mg : Str → Option Value) (fa : Addr) (h : Heap), (K w.params).In h → h.Ns mainGlobals mg → mg d.name = some (.ref fa) → ∃ fd : FuncData, (∀ (s : Shared) (u : Value), BindsTo s fd ⟨[u], []⟩ [(x, u)]) ∧
      ∀ base : Heap, (K w.params).In base → base.Ns mainGlobals mg → FnG l.prog w (K w.params) mg base k fa fd [x] (sp (K w.params)))
    (hsp : ∀ (K : PySem.W.Frag) (H : Hp) (a : Addr) (ns : List Int), ns.length ≤ n → Only H → SqL K H a (ns.map V.int) → sp K [.ref a] H (fun v _ => v = .bl true) E0) : PySem.W.WalkO q loose XP YP l.row.toRowW d [] (fun f vs => PySem.call f vs) :=
  Att.attach_call hn hdf fun w s₀ s₁ mg mb fa o pm cd doc a vs ns G Y ho hd hcd named obj its few gens => by
    obtain ⟨fd, bind, prom⟩ := F w mg fa _ (hY w _ Y) G.T.g named
    exact law_callG (hY w _ Y) G.T.g G.T.b G.T.builtins G.T.nolimit gens obj its (Nat.le_trans few hn2) hr prom bind fun H o1 o2 => hsp _ H a ns few o1 o2
end J
set_option maxRecDepth 100000
/-! M41: forms and their texts; the program's reader and the law's reader agree. -/
namespace K41
open PySem

inductive F where
  | i (n : Nat)
  | s (l : List Nat)
  | t (fs : List F)
mutual
def tx : F → List Nat
  | .i n => TL.numL n
  | .s l => l
  | .t fs => 40 :: (txs fs ++ [41])
def txs : List F → List Nat
  | [] => []
  | f :: r => tx f ++ txr r
def txr : List F → List Nat
  | [] => []
  | f :: r => 32 :: (tx f ++ txr r)
end
/-! ### atoms -/
def lett (c : Nat) : Bool := decide (97 ≤ c) && decide (c ≤ 122)
def digt (c : Nat) : Bool := decide (48 ≤ c) && decide (c ≤ 57)
def step4 (c : Nat) : Bool := decide (48 ≤ c) && decide (c ≤ 51)
def nd (c : Nat) : Bool := !(c == 40) && !(c == 41) && !(c == 32)
def wordB (l : List Nat) : Bool := decide (1 ≤ l.length) && decide (l.length ≤ 12) && l.all lett
def codeB (l : List Nat) : Bool := match l with
  | [] => false
  | c :: r => c == 39 && decide (r.length ≤ 1000) && r.all step4
def numB (l : List Nat) : Bool := decide (1 ≤ l.length) && decide (l.length ≤ 9) && l.all digt && (decide (l.length ≤ 1) || !(l.head? == some 48))
def atom (l : List Nat) : Option F := if (wordB l || codeB l) = true then some (.s l) else if numB l = true then some (.i (NumText.digitsVal l)) else none
def okA : F → Prop
  | .i n => n < 1000000000
  | .s l => (wordB l || codeB l) = true
  | .t _ => False

theorem val_snoc (l : List Nat) (d : Nat) : NumText.digitsVal (l ++ [d]) = NumText.digitsVal l * 10 + (d - 48) := by
  unfold NumText.digitsVal
  rw [List.foldl_append]
  rfl
theorem snoc_cases (l : List Nat) : l = [] ∨ ∃ a d, l = a ++ [d] := by
  rcases List.eq_nil_or_concat l with h | ⟨a, d, h⟩
  · exact .inl h
  · exact .inr ⟨a, d, by rw [h, List.concat_eq_append]⟩
theorem val_lt : ∀ (n : Nat) (l : List Nat), l.length = n → l.all digt = true → NumText.digitsVal l < 10 ^ n
  | 0, l, h, _ => by
    rw [List.length_eq_zero_iff.mp h]
    decide
  | n + 1, l, h, hd => by
    rcases snoc_cases l with rfl | ⟨a, d, rfl⟩
    · simp at h
    · rw [List.all_append, Bool.and_eq_true] at hd
      have h1 := val_lt n a (by simpa using h) hd.1
      have h2 : digt d = true := by simpa using hd.2
      simp [digt] at h2
      rw [val_snoc]
      rw [Nat.pow_succ]
      omega
theorem val_num : ∀ (n : Nat) (l : List Nat), l.length = n → l ≠ [] → l.all digt = true → (l.length ≤ 1 ∨ l.head? ≠ some 48) → TL.numL (NumText.digitsVal l) = l
  | 0, l, h, hne, _, _ => absurd (List.length_eq_zero_iff.mp h) hne
  | n + 1, l, h, hne, hd, hz => by
    rcases snoc_cases l with rfl | ⟨a, d, rfl⟩
    · exact absurd rfl hne
    · rw [List.all_append, Bool.and_eq_true] at hd
      have h2 : digt d = true := by simpa using hd.2
      simp [digt] at h2
      rw [val_snoc]
      by_cases ha : a = []
      · subst ha
        have e : NumText.digitsVal [] = 0 := rfl
        rw [e, Nat.zero_mul, Nat.zero_add, TL.numL_lt (by omega)]
        have e2 : 48 + (d - 48) = d := by omega
        rw [e2]
        rfl
      · have hz' : a.head? ≠ some 48 := by
          rcases hz with hz | hz
          · simp at hz
            exact absurd hz ha
          · cases a with
            | nil => exact absurd rfl ha
            | cons x r => exact hz
        have ih := val_num n a (by simpa using h) ha hd.1 (.inr hz')
        have h1 : 1 ≤ NumText.digitsVal a := by
          rcases Nat.eq_zero_or_pos (NumText.digitsVal a) with z | z
          · rw [z, TL.numL_lt (by omega)] at ih
            rw [← ih] at hz'
            exact absurd rfl hz'
          · exact z
        rw [TL.numL_step (by omega)]
        have e1 : (NumText.digitsVal a * 10 + (d - 48)) / 10 = NumText.digitsVal a := by omega
        have e2 : 48 + (NumText.digitsVal a * 10 + (d - 48)) % 10 = d := by omega
        rw [e1, e2, ih]
theorem num_head (n : Nat) : (TL.numL n).length ≤ 1 ∨ (TL.numL n).head? ≠ some 48 := by
  induction n using Nat.strongRecOn with
  | _ n ih =>
    by_cases h : n < 10
    · rw [TL.numL_lt h]
      exact .inl (Nat.le_refl _)
    · rw [TL.numL_step (by omega)]
      right
      have hne := TL.numL_ne (n / 10)
      by_cases h2 : n / 10 < 10
      · rw [TL.numL_lt h2]
        intro z
        have z' : 48 + n / 10 = 48 := Option.some.inj z
        omega
      · rcases ih (n / 10) (by omega) with q | q
        · rw [TL.numL_step (by omega)] at q
          have hn2 : (TL.numL (n / 10 / 10)).length ≠ 0 := fun z => TL.numL_ne _ (List.length_eq_zero_iff.mp z)
          rw [List.length_append] at q
          simp at q
          exact absurd (List.length_eq_zero_iff.mpr q) hn2
        · cases hx : TL.numL (n / 10) with
          | nil => exact absurd hx hne
          | cons a r => rw [hx] at q; exact q
theorem num_all (n : Nat) : (TL.numL n).all digt = true := List.all_eq_true.mpr fun c hc => by
  have := TL.numL_digits n c hc
  simp [digt, this.1, this.2]
theorem num_B {n : Nat} (h : n < 1000000000) : numB (TL.numL n) = true := by
  have h1 := TL.numL_len (n := n) (k := 9) (by decide) h
  have h2 : (TL.numL n).length ≠ 0 := fun z => TL.numL_ne _ (List.length_eq_zero_iff.mp z)
  have h3 := num_head n
  unfold numB
  rw [num_all]
  rcases h3 with h3 | h3
  · simp [h1, h3]; omega
  · have z : ((TL.numL n).head? == some 48) = false := beq_eq_false_iff_ne.mpr h3
    rw [z]
    simp [h1]; omega
theorem not_dig_lett {c : Nat} (h : digt c = true) : lett c = false := by
  simp [digt] at h
  simp [lett]
  omega
theorem num_notS {l : List Nat} (h : numB l = true) : (wordB l || codeB l) = false := by
  unfold numB at h
  simp only [Bool.and_eq_true, decide_eq_true_eq] at h
  obtain ⟨⟨⟨h1, h2⟩, h3⟩, _⟩ := h
  cases l with
  | nil => simp at h1
  | cons c r =>
    have hc : digt c = true := by simp at h3; exact h3.1
    have q : lett c = false := not_dig_lett hc
    simp [digt] at hc
    have q2 : ¬ c = 39 := by omega
    simp [wordB, codeB, q, q2]
theorem atom_tx : ∀ {f : F}, okA f → atom (tx f) = some f
  | .i n, h => by
    have h' : n < 1000000000 := h
    have e : tx (.i n) = TL.numL n := by simp only [tx]
    unfold atom
    rw [e, if_neg (by rw [num_notS (num_B h')]; exact Bool.false_ne_true), if_pos (num_B h'), TL.numL_val]
  | .s l, h => by
    have e : tx (.s l) = l := by simp only [tx]
    unfold atom
    rw [e, if_pos (show (wordB l || codeB l) = true from h)]
theorem atom_sound {l : List Nat} {f : F} (h : atom l = some f) : okA f ∧ tx f = l := by
  unfold atom at h
  split at h
  · rename_i h1
    cases h
    exact ⟨h1, by simp only [tx]⟩
  · split at h
    · rename_i h1
      cases h
      unfold numB at h1
      simp only [Bool.and_eq_true, decide_eq_true_eq, Bool.or_eq_true] at h1
      obtain ⟨⟨⟨h1, h2⟩, h3⟩, h4⟩ := h1
      refine ⟨?_, ?_⟩
      · have z := val_lt l.length l rfl h3
        have z2 : 10 ^ l.length ≤ 10 ^ 9 := Nat.pow_le_pow_right (by decide) h2
        show NumText.digitsVal l < 1000000000
        exact Nat.lt_of_lt_of_le z z2
      · simp only [tx]
        refine val_num l.length l rfl (fun z => by subst z; simp at h1) h3 ?_
        rcases h4 with h4 | h4
        · exact .inl h4
        · right
          intro z
          rw [z] at h4
          exact absurd h4 (by decide)
    · cases h
theorem okA_nd : ∀ {f : F}, okA f → (tx f).all nd = true ∧ tx f ≠ []
  | .i n, h => by
    have e : tx (.i n) = TL.numL n := by simp only [tx]
    rw [e]
    refine ⟨List.all_eq_true.mpr fun c hc => ?_, TL.numL_ne n⟩
    have := TL.numL_digits n c hc
    simp [nd]
    omega
  | .s l, h => by
    have e : tx (.s l) = l := by simp only [tx]
    rw [e]
    have h' : (wordB l || codeB l) = true := h
    rcases (Bool.or_eq_true _ _).mp h' with h' | h'
    · unfold wordB at h'
      simp only [Bool.and_eq_true, decide_eq_true_eq] at h'
      refine ⟨List.all_eq_true.mpr fun c hc => ?_, fun z => by subst z; simp at h'⟩
      have q := List.all_eq_true.mp h'.2 c hc
      simp [lett] at q
      simp [nd]
      omega
    · cases l with
      | nil => exact absurd h' (by decide)
      | cons c r =>
        unfold codeB at h'
        simp only [Bool.and_eq_true, decide_eq_true_eq, beq_iff_eq] at h'
        refine ⟨List.all_eq_true.mpr fun d hd => ?_, by simp⟩
        rcases List.mem_cons.mp hd with hd | hd
        · have : d = 39 := by rw [hd]; exact h'.1.1
          subst this
          decide
        · have q := List.all_eq_true.mp h'.2 d hd
          simp [step4] at q
          simp [nd]
          omega
/-! ### what fits: M deep, E entries -/
mutual
def ok (E : Nat) : F → Nat → Prop
  | .i n, _ => n < 1000000000
  | .s l, _ => (wordB l || codeB l) = true
  | .t fs, n => 1 ≤ n ∧ fs.length ≤ E ∧ oks E fs (n - 1)
def oks (E : Nat) : List F → Nat → Prop
  | [], _ => True
  | f :: r, n => ok E f n ∧ oks E r n
end
theorem oks_app {E : Nat} : ∀ {a b : List F} {n : Nat}, oks E (a ++ b) n ↔ oks E a n ∧ oks E b n
  | [], b, n => by simp [oks]
  | f :: a, b, n => by
    simp only [List.cons_append, oks]
    rw [oks_app (a := a)]
    exact ⟨fun h => ⟨⟨h.1, h.2.1⟩, h.2.2⟩, fun h => ⟨h.1.1, h.1.2, h.2⟩⟩
theorem ok_of_A {E : Nat} : ∀ {f : F} {n : Nat}, okA f → ok E f n
  | .i _, _, h => by simp only [ok]; exact h
  | .s _, _, h => by simp only [ok]; exact h
mutual
theorem ok_mono {E E' : Nat} (he : E ≤ E') : ∀ (f : F) (m n : Nat), m ≤ n → ok E f m → ok E' f n
  | .i _, _, _, _, h => by simp only [ok] at h ⊢; exact h
  | .s _, _, _, _, h => by simp only [ok] at h ⊢; exact h
  | .t fs, m, n, hm, h => by
    simp only [ok] at h ⊢
    exact ⟨by omega, by omega, oks_mono he fs _ _ (by omega) h.2.2⟩
theorem oks_mono {E E' : Nat} (he : E ≤ E') : ∀ (fs : List F) (m n : Nat), m ≤ n → oks E fs m → oks E' fs n
  | [], _, _, _, _ => by simp only [oks]
  | f :: r, m, n, hm, h => by
    simp only [oks] at h ⊢
    exact ⟨ok_mono he f m n hm h.1, oks_mono he r m n hm h.2⟩
end
/-! ### the program's reader -/
def push1 (f : F) : List (List F) → List (List F)
  | [] => []
  | top :: r => (top ++ [f]) :: r
def stepP (E : Nat) (st : List (List F)) (w : List Nat) : Option (List (List F)) :=
  if w = [40] then some ([] :: st)
  else if w = [41] then (match st with
    | top :: nxt :: r => if top.length ≤ E then some ((nxt ++ [.t top]) :: r) else none
    | _ => none)
  else if w = [] then some st
  else match atom w with
    | none => none
    | some f => some (push1 f st)
def stepC (M E : Nat) (st : List (List F)) (w : List Nat) : Option (List (List F)) := match stepP E st w with
  | none => none
  | some s => if s.length ≤ M + 1 then some s else none
def runP (M E : Nat) : List (List F) → List (List Nat) → Option (List (List F))
  | st, [] => some st
  | st, w :: ws => match stepC M E st w with
    | none => none
    | some s => runP M E s ws
/-- the words of a text: parentheses stand alone, blanks part -/
def tk : List Nat → List Nat → List (List Nat)
  | acc, [] => [acc]
  | acc, c :: r => if c = 40 then acc :: [40] :: tk [] r else if c = 41 then acc :: [41] :: tk [] r else if c = 32 then acc :: tk [] r else tk (acc ++ [c]) r
def parseP (M E : Nat) (l : List Nat) : Option F := match runP M E [[]] (tk [] l) with
  | some [[f]] => if tx f = l then some f else none
  | _ => none
def SOK (M E : Nat) : List (List F) → Prop
  | [] => True
  | top :: r => oks E top (M - r.length) ∧ SOK M E r
theorem push_ok {M E : Nat} {f : F} (h : okA f) : ∀ {st : List (List F)}, SOK M E st → SOK M E (push1 f st)
  | [], _ => trivial
  | top :: r, q => ⟨oks_app.mpr ⟨q.1, by simp only [oks]; exact ⟨ok_of_A h, trivial⟩⟩, q.2⟩
theorem step_ok {M E : Nat} {st s : List (List F)} {w : List Nat} (hs : SOK M E st) (hl : st.length ≤ M + 1) (h : stepC M E st w = some s) : SOK M E s ∧ s.length ≤ M + 1 := by
  unfold stepC at h
  split at h
  · cases h
  · rename_i s' e
    split at h
    · rename_i hl'
      cases h
      refine ⟨?_, hl'⟩
      unfold stepP at e
      split at e
      · cases e
        exact ⟨by simp only [oks], hs⟩
      · split at e
        · split at e
          · rename_i top nxt r
            split at e
            · rename_i ht
              cases e
              have h1 : oks E top (M - (r.length + 1)) := hs.1
              have h2 : oks E nxt (M - r.length) := hs.2.1
              have hl2 : r.length + 1 + 1 ≤ M + 1 := hl
              refine ⟨oks_app.mpr ⟨h2, ?_⟩, hs.2.2⟩
              simp only [oks, ok]
              refine ⟨⟨by omega, ht, ?_⟩, trivial⟩
              have e : M - r.length - 1 = M - (r.length + 1) := by omega
              rw [e]
              exact h1
            · cases e
          · cases e
        · split at e
          · cases e
            exact hs
          · split at e
            · cases e
            · rename_i f hf
              cases e
              exact push_ok (atom_sound hf).1 hs
    · cases h
theorem run_ok {M E : Nat} : ∀ {ws : List (List Nat)} {st s : List (List F)}, SOK M E st → st.length ≤ M + 1 → runP M E st ws = some s → SOK M E s
  | [], st, s, h, _, e => by
    cases e
    exact h
  | w :: ws, st, s, h, hl, e => by
    unfold runP at e
    split at e
    · cases e
    · rename_i s' e'
      have q := step_ok h hl e'
      exact run_ok q.1 q.2 e
theorem parse_sound {M E : Nat} {l : List Nat} {f : F} (h : parseP M E l = some f) : ok E f M ∧ tx f = l := by
  unfold parseP at h
  split at h
  · rename_i g e
    split at h
    · rename_i ht
      cases h
      have q := run_ok (M := M) (E := E) (st := [[]]) ⟨by simp only [oks], trivial⟩ (by simp) e
      have q1 := q.1
      simp only [oks] at q1
      exact ⟨by simpa using q1.1, ht⟩
    · cases h
  · cases h
def Dl (l : List Nat) : Prop := l = [] ∨ ∃ c r, l = c :: r ∧ (c = 41 ∨ c = 32)
theorem tk_word : ∀ {a : List Nat} {acc l : List Nat}, a.all nd = true → tk acc (a ++ l) = tk (acc ++ a) l
  | [], acc, l, _ => by rw [List.append_nil]; rfl
  | c :: a, acc, l, h => by
    simp only [List.all_cons, Bool.and_eq_true] at h
    have hc := h.1
    simp [nd] at hc
    show (if c = 40 then acc :: [40] :: tk [] (a ++ l) else if c = 41 then acc :: [41] :: tk [] (a ++ l) else if c = 32 then acc :: tk [] (a ++ l) else tk (acc ++ [c]) (a ++ l)) = _
    rw [if_neg hc.1.1, if_neg hc.1.2, if_neg hc.2, tk_word h.2, List.append_assoc]
    rfl
theorem stepC_nil {M E : Nat} {st : List (List F)} (h : st.length ≤ M + 1) : stepC M E st [] = some st := by
  unfold stepC stepP
  simp [h]
theorem run_word {M E : Nat} {st : List (List F)} {a l : List Nat} (hd : Dl l) (ha : a.all nd = true) (hne : a ≠ []) :
    runP M E st (tk [] (a ++ l)) = (match atom a with | none => none | some f => if (push1 f st).length ≤ M + 1 then runP M E (push1 f st) (tk [] l) else none) := by
  rw [tk_word ha, List.nil_append]
  have h40 : ¬ a = [40] := fun z => by subst z; exact absurd ha (by decide)
  have h41 : ¬ a = [41] := fun z => by subst z; exact absurd ha (by decide)
  have hstep : stepC M E st a = (match atom a with | none => none | some f => if (push1 f st).length ≤ M + 1 then some (push1 f st) else none) := by
    unfold stepC stepP
    rw [if_neg h40, if_neg h41, if_neg hne]
    cases atom a <;> rfl
  have key : ∀ rest : List (List Nat), runP M E st (a :: rest) = (match atom a with | none => none | some f => if (push1 f st).length ≤ M + 1 then runP M E (push1 f st) ([] :: rest) else none) := fun rest => by
    show (match stepC M E st a with | none => none | some s => runP M E s rest) = _
    rw [hstep]
    cases atom a with
    | none => rfl
    | some f =>
      by_cases hl : (push1 f st).length ≤ M + 1
      · simp only [if_pos hl]
        show _ = (match stepC M E (push1 f st) [] with | none => none | some s => runP M E s rest)
        rw [stepC_nil hl]
      · simp only [if_neg hl]
  rcases hd with rfl | ⟨c, r, rfl, rfl | rfl⟩
  · exact key []
  · exact key ([41] :: tk [] r)
  · exact key (tk [] r)
theorem run_blank {M E : Nat} {st : List (List F)} {l : List Nat} (h : st.length ≤ M + 1) : runP M E st (tk [] (32 :: l)) = runP M E st (tk [] l) := by
  show (match stepC M E st [] with | none => none | some s => runP M E s (tk [] l)) = _
  rw [stepC_nil h]
theorem run_open {M E : Nat} {st : List (List F)} {l : List Nat} (h : st.length ≤ M + 1) : runP M E st (tk [] (40 :: l)) = if st.length + 1 ≤ M + 1 then runP M E ([] :: st) (tk [] l) else none := by
  show (match stepC M E st [] with | none => none | some s => runP M E s ([40] :: tk [] l)) = _
  rw [stepC_nil h]
  show (match stepC M E st [40] with | none => none | some s => runP M E s (tk [] l)) = _
  have e : stepC M E st [40] = if st.length + 1 ≤ M + 1 then some ([] :: st) else none := by
    unfold stepC stepP
    simp
  rw [e]
  by_cases q : st.length + 1 ≤ M + 1
  · rw [if_pos q, if_pos q]
  · rw [if_neg q, if_neg q]
theorem run_close {M E : Nat} {top nxt : List F} {st : List (List F)} {l : List Nat} (h : (top :: nxt :: st).length ≤ M + 1) :
    runP M E (top :: nxt :: st) (tk [] (41 :: l)) = if top.length ≤ E then runP M E ((nxt ++ [.t top]) :: st) (tk [] l) else none := by
  show (match stepC M E (top :: nxt :: st) [] with | none => none | some s => runP M E s ([41] :: tk [] l)) = _
  rw [stepC_nil h]
  show (match stepC M E (top :: nxt :: st) [41] with | none => none | some s => runP M E s (tk [] l)) = _
  have e : stepC M E (top :: nxt :: st) [41] = if top.length ≤ E then some ((nxt ++ [.t top]) :: st) else none := by
    unfold stepC stepP
    have h3 : st.length + 1 ≤ M + 1 := by
      have : st.length + 1 + 1 ≤ M + 1 := h
      omega
    by_cases q : top.length ≤ E
    · simp [q]
      have : st.length + 1 + 1 ≤ M + 1 := h
      omega
    · simp [q]
  rw [e]
  by_cases q : top.length ≤ E
  · rw [if_pos q, if_pos q]
  · rw [if_neg q, if_neg q]
mutual
theorem run_form {M E : Nat} : ∀ (f : F) (n : Nat) (top : List F) (st : List (List F)) (l : List Nat), ok E f n → st.length + n ≤ M → Dl l →
    runP M E (top :: st) (tk [] (tx f ++ l)) = runP M E ((top ++ [f]) :: st) (tk [] l)
  | .i k, n, top, st, l, h, hl, hd => by
    simp only [ok] at h
    have hA : okA (.i k) := h
    rw [run_word hd (okA_nd hA).1 (okA_nd hA).2, atom_tx hA]
    exact if_pos (show st.length + 1 ≤ M + 1 by omega)
  | .s k, n, top, st, l, h, hl, hd => by
    simp only [ok] at h
    have hA : okA (.s k) := h
    rw [run_word hd (okA_nd hA).1 (okA_nd hA).2, atom_tx hA]
    exact if_pos (show st.length + 1 ≤ M + 1 by omega)
  | .t fs, n, top, st, l, h, hl, hd => by
    simp only [ok] at h
    obtain ⟨h1, h2, h3⟩ := h
    have e : tx (.t fs) ++ l = 40 :: (txs fs ++ (41 :: l)) := by simp only [tx, List.cons_append, List.append_assoc, List.nil_append]
    rw [e, run_open (show st.length + 1 ≤ M + 1 by omega), if_pos (show (top :: st).length + 1 ≤ M + 1 by show st.length + 1 + 1 ≤ M + 1; omega),
      run_forms fs (n - 1) [] (top :: st) (41 :: l) h3 (by show st.length + 1 + (n - 1) ≤ M; omega) (.inr ⟨41, l, rfl, .inl rfl⟩), List.nil_append,
      run_close (show st.length + 1 + 1 ≤ M + 1 by omega), if_pos h2]
theorem run_forms {M E : Nat} : ∀ (fs : List F) (n : Nat) (top : List F) (st : List (List F)) (l : List Nat), oks E fs n → st.length + n ≤ M → Dl l →
    runP M E (top :: st) (tk [] (txs fs ++ l)) = runP M E ((top ++ fs) :: st) (tk [] l)
  | [], n, top, st, l, _, _, _ => by
    rw [List.append_nil]
    simp only [txs, List.nil_append]
  | f :: r, n, top, st, l, h, hl, hd => by
    simp only [oks] at h
    simp only [txs]
    have hd2 : Dl (txr r ++ l) := by
      cases r with
      | nil => simp only [txr, List.nil_append]; exact hd
      | cons g r => simp only [txr, List.cons_append]; exact .inr ⟨32, _, rfl, .inr rfl⟩
    rw [List.append_assoc, run_form f n top st (txr r ++ l) h.1 hl hd2, run_rest r n (top ++ [f]) st l h.2 hl hd, List.append_assoc]
    rfl
theorem run_rest {M E : Nat} : ∀ (fs : List F) (n : Nat) (top : List F) (st : List (List F)) (l : List Nat), oks E fs n → st.length + n ≤ M → Dl l →
    runP M E (top :: st) (tk [] (txr fs ++ l)) = runP M E ((top ++ fs) :: st) (tk [] l)
  | [], n, top, st, l, _, _, _ => by
    rw [List.append_nil]
    simp only [txr, List.nil_append]
  | f :: r, n, top, st, l, h, hl, hd => by
    simp only [oks] at h
    simp only [txr]
    have hd2 : Dl (txr r ++ l) := by
      cases r with
      | nil => simp only [txr, List.nil_append]; exact hd
      | cons g r => simp only [txr, List.cons_append]; exact .inr ⟨32, _, rfl, .inr rfl⟩
    rw [List.cons_append, run_blank (show st.length + 1 ≤ M + 1 by omega), List.append_assoc, run_form f n top st (txr r ++ l) h.1 hl hd2, run_rest r n (top ++ [f]) st l h.2 hl hd, List.append_assoc]
    rfl
end
theorem parse_tx {M E : Nat} {f : F} (h : ok E f M) : parseP M E (tx f) = some f := by
  have e := run_form (M := M) (E := E) f M [] [] [] h (by simp) (.inl rfl)
  rw [List.append_nil, List.nil_append] at e
  unfold parseP
  rw [e]
  have e2 : runP M E [[f]] (tk [] []) = some [[f]] := by
    show (match stepC M E [[f]] [] with | none => none | some s => runP M E s []) = _
    rw [stepC_nil (by simp)]
    rfl
  rw [e2]
  exact if_pos rfl
theorem parse_iff {M E : Nat} {l : List Nat} {f : F} : parseP M E l = some f ↔ ok E f M ∧ tx f = l :=
  ⟨parse_sound, fun h => by rw [← h.2]; exact parse_tx h.1⟩
/-- a form that fits a wider bound only is not read -/
theorem parse_out {M E M' E' : Nat} (hM : M ≤ M') (hE : E ≤ E') {f : F} (h : ok E' f M') (hn : ¬ ok E f M) : parseP M E (tx f) = none := by
  cases e : parseP M E (tx f) with
  | none => rfl
  | some g =>
    obtain ⟨h1, h2⟩ := parse_sound e
    have h3 := parse_tx (ok_mono hE g M M' hM h1)
    rw [h2, parse_tx h] at h3
    cases h3
    exact absurd h1 hn

/-! ### the law's reader: q is 0 at a beginning, 1 behind an open parenthesis, 2 behind an end -/
theorem drop_len (p : Nat → Bool) : ∀ l : List Nat, (l.dropWhile p).length ≤ l.length
  | [] => Nat.le_refl _
  | c :: r => by
    rw [List.dropWhile_cons]
    split
    · exact Nat.le_succ_of_le (drop_len p r)
    · exact Nat.le_refl _
def lrun (st : List (List F)) (q : Nat) : List Nat → Option F
  | [] => if q = 2 then (match st with
    | [f :: _] => some f
    | _ => none) else none
  | c :: r =>
    if c = 40 ∧ q ≠ 2 ∧ st.length ≤ 40 then lrun ([] :: st) 1 r
    else if c = 41 ∧ q ≠ 0 ∧ 1 < st.length then (match st with
      | top :: nxt :: s => if 5000 < top.length then none else lrun ((nxt ++ [.t top]) :: s) 2 r
      | _ => none)
    else if c = 32 ∧ q = 2 ∧ 1 < st.length then lrun st 0 r
    else if nd c = true ∧ q ≠ 2 then (match atom (c :: r.takeWhile nd) with
      | none => none
      | some f => lrun (push1 f st) 2 (r.dropWhile nd))
    else none
termination_by l => l.length
decreasing_by
  all_goals first
    | exact Nat.lt_succ_self _
    | exact Nat.lt_succ_of_le (drop_len nd r)
def flat : List F → List Nat
  | [] => []
  | f :: r => tx f ++ 32 :: flat r
def preB : List (List F) → List Nat
  | [] => []
  | x :: r => preB r ++ (flat x ++ [40])
def preT : List (List F) → Nat → List Nat
  | [], _ => []
  | top :: r, q => preB r ++ (if q = 2 then txs top else flat top)
theorem txr_snoc : ∀ (a : List F) (f : F), txr (a ++ [f]) = txr a ++ 32 :: tx f
  | [], f => by simp [txr]
  | g :: a, f => by simp [txr, txr_snoc a f]
theorem flat_txr : ∀ (a : List F) , 32 :: flat a = txr a ++ [32]
  | [] => by simp [txr, flat]
  | g :: a => by simp [txr, flat, flat_txr a]
theorem txs_snoc : ∀ (a : List F) (f : F), txs (a ++ [f]) = flat a ++ tx f
  | [], f => by simp [txs, txr, flat]
  | g :: a, f => by
    simp only [List.cons_append, txs, txr_snoc, flat, List.append_assoc]
    have e := flat_txr a
    have e2 : 32 :: (flat a ++ tx f) = txr a ++ 32 :: tx f := by
      rw [← List.cons_append, e, List.append_assoc]
      rfl
    rw [e2]
theorem flat_txs : ∀ {a : List F}, a ≠ [] → txs a ++ [32] = flat a
  | [], h => absurd rfl h
  | g :: a, _ => by
    simp only [txs, flat, List.append_assoc]
    rw [flat_txr]
/-- what holds ahead of each turn -/
structure LI (st : List (List F)) (q : Nat) : Prop where
  le : q ≤ 2
  sok : SOK 40 5000 st
  len : 1 ≤ st.length ∧ st.length ≤ 41
  beg : q ≠ 2 → st.length = 1 → st = [[]]
  opn : q = 1 → 2 ≤ st.length ∧ st.head? = some []
  fin : q = 2 → ∃ top r, st = top :: r ∧ top ≠ [] ∧ (r = [] → top.length = 1)
  low : 2 ≤ st.length → st.getLast? = some []
theorem lr_step {st : List (List F)} {q : Nat} {l : List Nat} (I : LI st q) : ∀ {f : F}, lrun st q l = some f → ok 5000 f 40 ∧ tx f = preT st q ++ l := by
  induction h : l.length using Nat.strongRecOn generalizing st q l with
  | _ n ih =>
    intro f hf
    subst h
    cases l with
    | nil =>
      unfold lrun at hf
      split at hf
      · rename_i hq
        obtain ⟨top, r, rfl, hne, h1⟩ := I.fin hq
        cases r with
        | nil =>
          cases top with
          | nil => exact absurd rfl hne
          | cons g r =>
            have hl := h1 rfl
            have hr : r = [] := List.length_eq_zero_iff.mp (by simpa using hl)
            subst hr
            cases hf
            have s := I.sok.1
            simp only [oks] at s
            refine ⟨s.1, ?_⟩
            subst hq
            simp [preT, preB, txs, txr]
        | cons x r => cases top <;> cases hf
      · cases hf
    | cons c r =>
      unfold lrun at hf
      split at hf
      · rename_i hc
        obtain ⟨rfl, hq, hl⟩ := hc
        have J : LI ([] :: st) 1 := {
          le := by decide
          sok := ⟨by simp only [oks], I.sok⟩
          len := by simp; omega
          beg := fun _ z => by
            have h1 := I.len
            have z2 : st.length + 1 = 1 := z
            omega
          opn := fun _ => ⟨by have := I.len; simp; omega, rfl⟩
          fin := fun z => by omega
          low := fun _ => by
            obtain ⟨h1, _⟩ := I.len
            cases st with
            | nil => simp at h1
            | cons a s =>
              rw [List.getLast?_cons_cons]
              cases s with
              | nil => rw [I.beg hq rfl]; rfl
              | cons b s => exact I.low (by simp) }
        obtain ⟨h1, h2⟩ := ih _ (Nat.lt_succ_self _) J rfl hf
        refine ⟨h1, h2.trans ?_⟩
        cases st with
        | nil => simp [preT, preB] at *; have := I.len.1; simp at this
        | cons top s =>
          have e1 : (1 : Nat) ≠ 2 := by decide
          simp [preT, preB, flat, hq, e1]
      · split at hf
        · rename_i hc
          obtain ⟨rfl, hq, hl⟩ := hc
          split at hf
          · rename_i top nxt s _
            split at hf
            · cases hf
            · rename_i ht
              have s1 : oks 5000 top (40 - (s.length + 1)) := I.sok.1
              have s2 : oks 5000 nxt (40 - s.length) := I.sok.2.1
              have hl2 := I.len.2
              simp at hl2
              have J : LI ((nxt ++ [.t top]) :: s) 2 := {
                le := by decide
                sok := ⟨oks_app.mpr ⟨s2, by
                  simp only [oks, ok]
                  refine ⟨⟨by omega, by omega, ?_⟩, trivial⟩
                  have e : 40 - s.length - 1 = 40 - (s.length + 1) := by omega
                  rw [e]
                  exact s1⟩, I.sok.2.2⟩
                len := by simp; omega
                beg := fun z => absurd rfl z
                opn := fun z => by omega
                fin := fun _ => ⟨_, _, rfl, by simp, fun z => by
                  subst z
                  have := I.low (by simp)
                  simp at this
                  subst this
                  rfl⟩
                low := fun z => by
                  have h := I.low (by simp)
                  cases s with
                  | nil => simp at z
                  | cons a s => simpa using h }
              obtain ⟨h1, h2⟩ := ih _ (Nat.lt_succ_self _) J rfl hf
              refine ⟨h1, h2.trans ?_⟩
              have e : preT (top :: nxt :: s) q = preB (nxt :: s) ++ txs top := by
                show preB (nxt :: s) ++ (if q = 2 then txs top else flat top) = _
                by_cases h2 : q = 2
                · rw [if_pos h2]
                · rw [if_neg h2]
                  by_cases h3 : q = 1
                  · have := (I.opn h3).2
                    have : top = [] := Option.some.inj this
                    subst this
                    simp [flat, txs]
                  · have := I.le
                    omega
              rw [e]
              simp [preT, preB, txs_snoc, tx]
          · cases hf
        · split at hf
          · rename_i hc
            obtain ⟨rfl, rfl, hl⟩ := hc
            obtain ⟨top, s, rfl, hne, h1⟩ := I.fin rfl
            have J : LI (top :: s) 0 := {
              le := by decide
              sok := I.sok
              len := I.len
              beg := fun _ z => by omega
              opn := fun z => by omega
              fin := fun z => by omega
              low := I.low }
            obtain ⟨h1, h2⟩ := ih _ (Nat.lt_succ_self _) J rfl hf
            refine ⟨h1, h2.trans ?_⟩
            simp only [preT]
            rw [if_neg (by decide), if_pos (by decide), ← flat_txs hne]
            simp
          · split at hf
            · rename_i hc
              obtain ⟨hc, hq⟩ := hc
              split at hf
              · cases hf
              · rename_i g hg
                obtain ⟨hA, hx⟩ := atom_sound hg
                cases st with
                | nil => have := I.len.1; simp at this
                | cons top s =>
                  have J : LI (push1 g (top :: s)) 2 := {
                    le := by decide
                    sok := push_ok hA I.sok
                    len := I.len
                    beg := fun z => absurd rfl z
                    opn := fun z => by omega
                    fin := fun _ => ⟨_, _, rfl, by simp, fun z => by
                      subst z
                      have := I.beg hq rfl
                      cases this
                      rfl⟩
                    low := fun z => by
                      have h := I.low z
                      cases s with
                      | nil => simp [push1] at z
                      | cons a s => simpa [push1] using h }
                  obtain ⟨h1, h2⟩ := ih _ (Nat.lt_succ_of_le (drop_len nd r)) J rfl hf
                  refine ⟨h1, h2.trans ?_⟩
                  have eT : preT (push1 g (top :: s)) 2 = preB s ++ txs (top ++ [g]) := by
                    show preB s ++ (if 2 = 2 then _ else _) = _
                    rw [if_pos rfl]
                  have eU : preT (top :: s) q = preB s ++ flat top := by
                    show preB s ++ (if q = 2 then _ else _) = _
                    rw [if_neg hq]
                  rw [eT, eU, txs_snoc, hx]
                  simp [List.takeWhile_append_dropWhile]
            · cases hf
theorem take_dl : ∀ {a l : List Nat}, a.all nd = true → Dl l → (a ++ l).takeWhile nd = a ∧ (a ++ l).dropWhile nd = l
  | [], l, _, hd => by
    rcases hd with rfl | ⟨c, r, rfl, rfl | rfl⟩ <;> exact ⟨rfl, rfl⟩
  | c :: a, l, h, hd => by
    simp only [List.all_cons, Bool.and_eq_true] at h
    obtain ⟨h1, h2⟩ := take_dl (a := a) h.2 hd
    rw [List.cons_append, List.takeWhile_cons, List.dropWhile_cons, if_pos h.1, if_pos h.1, h1, h2]
    exact ⟨rfl, rfl⟩
theorem lr_cons (st : List (List F)) (q c : Nat) (r : List Nat) : lrun st q (c :: r) = if c = 40 ∧ q ≠ 2 ∧ st.length ≤ 40 then lrun ([] :: st) 1 r
    else if c = 41 ∧ q ≠ 0 ∧ 1 < st.length then (match st with
      | top :: nxt :: s => if 5000 < top.length then none else lrun ((nxt ++ [.t top]) :: s) 2 r
      | _ => none)
    else if c = 32 ∧ q = 2 ∧ 1 < st.length then lrun st 0 r
    else if nd c = true ∧ q ≠ 2 then (match atom (c :: r.takeWhile nd) with
      | none => none
      | some f => lrun (push1 f st) 2 (r.dropWhile nd))
    else none := by
  conv => lhs; unfold lrun
theorem lr_nil (st : List (List F)) (q : Nat) : lrun st q [] = if q = 2 then (match st with
    | [f :: _] => some f
    | _ => none) else none := by
  conv => lhs; unfold lrun
theorem lr_word {st : List (List F)} {q : Nat} {f : F} {l : List Nat} (hA : okA f) (hd : Dl l) (hq : q ≠ 2) : lrun st q (tx f ++ l) = lrun (push1 f st) 2 l := by
  obtain ⟨h1, h2⟩ := okA_nd hA
  cases e : tx f with
  | nil => exact absurd e h2
  | cons c a =>
    rw [e] at h1
    have hc : nd c = true := by simp only [List.all_cons, Bool.and_eq_true] at h1; exact h1.1
    have ha : a.all nd = true := by simp only [List.all_cons, Bool.and_eq_true] at h1; exact h1.2
    have hc' := hc
    simp [nd] at hc'
    obtain ⟨e1, e2⟩ := take_dl ha hd
    rw [List.cons_append]
    rw [lr_cons, if_neg (fun z => hc'.1.1 z.1), if_neg (fun z => hc'.1.2 z.1), if_neg (fun z => hc'.2 z.1), if_pos ⟨hc, hq⟩, e1, e2, ← e, atom_tx hA]
mutual
theorem lr_form : ∀ (f : F) (n : Nat) (top : List F) (st : List (List F)) (q : Nat) (l : List Nat), ok 5000 f n → st.length + n ≤ 40 → q ≠ 2 → Dl l →
    lrun (top :: st) q (tx f ++ l) = lrun ((top ++ [f]) :: st) 2 l
  | .i k, n, top, st, q, l, h, hl, hq, hd => by
    simp only [ok] at h
    exact lr_word (f := .i k) h hd hq
  | .s k, n, top, st, q, l, h, hl, hq, hd => by
    simp only [ok] at h
    exact lr_word (f := .s k) h hd hq
  | .t fs, n, top, st, q, l, h, hl, hq, hd => by
    simp only [ok] at h
    obtain ⟨h1, h2, h3⟩ := h
    have e : tx (.t fs) ++ l = 40 :: (txs fs ++ (41 :: l)) := by simp only [tx, List.cons_append, List.append_assoc, List.nil_append]
    have e1 : lrun (top :: st) q (40 :: (txs fs ++ (41 :: l))) = lrun ([] :: top :: st) 1 (txs fs ++ (41 :: l)) := by
      rw [lr_cons, if_pos ⟨rfl, hq, show st.length + 1 ≤ 40 by omega⟩]
    have e2 : ∃ q', q' ≠ 0 ∧ lrun ([] :: top :: st) 1 (txs fs ++ (41 :: l)) = lrun (fs :: top :: st) q' (41 :: l) := by
      cases fs with
      | nil => exact ⟨1, by decide, by simp only [txs, List.nil_append]⟩
      | cons g r =>
        refine ⟨2, by decide, ?_⟩
        have hd2 : Dl (txr r ++ (41 :: l)) := by
          cases r with
          | nil => simp only [txr, List.nil_append]; exact .inr ⟨41, l, rfl, .inl rfl⟩
          | cons g r => simp only [txr, List.cons_append]; exact .inr ⟨32, _, rfl, .inr rfl⟩
        simp only [oks] at h3
        simp only [txs]
        rw [List.append_assoc, lr_form g (n - 1) [] (top :: st) 1 (txr r ++ (41 :: l)) h3.1 (by show st.length + 1 + (n - 1) ≤ 40; omega) (by decide) hd2, List.nil_append,
          lr_rest r (n - 1) [g] (top :: st) (41 :: l) h3.2 (by show st.length + 1 + (n - 1) ≤ 40; omega) (by simp) (.inr ⟨41, l, rfl, .inl rfl⟩)]
        rfl
    obtain ⟨q', hq', e2⟩ := e2
    have e3 : lrun (fs :: top :: st) q' (41 :: l) = lrun ((top ++ [.t fs]) :: st) 2 l := by
      rw [lr_cons, if_neg (fun z => absurd z.1 (by decide)), if_pos ⟨rfl, hq', by simp⟩]
      exact if_neg (by omega)
    rw [e, e1, e2, e3]
theorem lr_rest : ∀ (fs : List F) (n : Nat) (top : List F) (st : List (List F)) (l : List Nat), oks 5000 fs n → st.length + n ≤ 40 → 1 ≤ st.length → Dl l →
    lrun (top :: st) 2 (txr fs ++ l) = lrun ((top ++ fs) :: st) 2 l
  | [], n, top, st, l, _, _, _, _ => by
    rw [List.append_nil]
    simp only [txr, List.nil_append]
  | f :: r, n, top, st, l, h, hl, h1, hd => by
    simp only [oks] at h
    simp only [txr]
    have hd2 : Dl (txr r ++ l) := by
      cases r with
      | nil => simp only [txr, List.nil_append]; exact hd
      | cons g r => simp only [txr, List.cons_append]; exact .inr ⟨32, _, rfl, .inr rfl⟩
    have e1 : lrun (top :: st) 2 (32 :: (tx f ++ txr r ++ l)) = lrun (top :: st) 0 (tx f ++ txr r ++ l) := by
      rw [lr_cons, if_neg (fun z => absurd z.1 (by decide)), if_neg (fun z => absurd z.1 (by decide)), if_pos ⟨rfl, rfl, show 1 < st.length + 1 by omega⟩]
    rw [List.cons_append, e1, List.append_assoc, lr_form f n top st 0 (txr r ++ l) h.1 hl (by decide) hd2, lr_rest r n (top ++ [f]) st l h.2 hl h1 hd, List.append_assoc]
    rfl
end
def lread (l : List Nat) : Option F := lrun [[]] 0 l
theorem LI0 : LI [[]] 0 where
  le := by decide
  sok := ⟨by simp only [oks], trivial⟩
  len := by simp
  beg := fun _ _ => rfl
  opn := fun z => by omega
  fin := fun z => by omega
  low := fun z => by simp at z
theorem lread_iff {l : List Nat} {f : F} : lread l = some f ↔ ok 5000 f 40 ∧ tx f = l := by
  constructor
  · intro h
    have q := lr_step LI0 h
    simp [preT, preB, flat] at q
    exact q
  · rintro ⟨h, rfl⟩
    have e := lr_form f 40 [] [] 0 [] h (by simp) (by decide) (.inl rfl)
    rw [List.append_nil, List.nil_append] at e
    unfold lread
    rw [e]
    rw [lr_nil]
    rfl
/-- the two readers agree -/
theorem agree (l : List Nat) : lread l = parseP 40 5000 l := by
  cases h : parseP 40 5000 l with
  | some f => exact lread_iff.mpr (parse_iff.mp h)
  | none =>
    cases h2 : lread l with
    | none => rfl
    | some f =>
      have := parse_iff.mpr (lread_iff.mp h2)
      rw [h] at this
      cases this
end K41
set_option maxRecDepth 100000
/-! N41: forms as data of the model. -/
namespace K41
open PySem
mutual
def toD : F → PyData
  | .i n => .int n
  | .s l => .str (SX.S l)
  | .t fs => .tuple (toDs fs)
def toDs : List F → List PyData
  | [] => []
  | f :: r => toD f :: toDs r
end
theorem small_lett {c : Nat} (h : lett c = true) : c < 128 := by simp [lett] at h; omega
theorem small_step {c : Nat} (h : step4 c = true) : c < 128 := by simp [step4] at h; omega
theorem atom_small {l : List Nat} (h : (wordB l || codeB l) = true) : ∀ c ∈ l, c < 128 := by
  intro c hc
  rcases (Bool.or_eq_true _ _).mp h with h | h
  · simp only [wordB, Bool.and_eq_true] at h
    exact small_lett (List.all_eq_true.mp h.2 c hc)
  · cases l with
    | nil => exact absurd h (by decide)
    | cons d r =>
      simp only [codeB, Bool.and_eq_true, beq_iff_eq] at h
      rcases List.mem_cons.mp hc with hc | hc
      · rw [hc, h.1.1]; decide
      · exact small_step (List.all_eq_true.mp h.2 c hc)
theorem atom_ne {l : List Nat} (h : (wordB l || codeB l) = true) : 1 ≤ l.length := by
  cases l with
  | nil => exact absurd h (by decide)
  | cons d r => simp
mutual
theorem d_lay {E : Nat} : ∀ (f : F) (n : Nat), ok E f n → (toD f).canLay0 = true ∧ (toD f).depth ≤ n ∧ (toD f).showable = true
  | .i k, n, h => by
    simp only [ok] at h
    simp only [toD, PyData.canLay0, PyData.depth, PyData.showable]
    refine ⟨trivial, Nat.zero_le _, decide_eq_true ?_⟩
    rw [Int.natAbs_natCast]
    have : Nat.log2 k ≤ k := Nat.log2_le_self k
    by_cases hk : k = 0
    · subst hk; decide
    · exact Nat.lt_trans ((Nat.log2_lt hk).mpr (show k < 2 ^ 30 by omega)) (by decide)
  | .s l, n, h => by
    simp only [ok] at h
    simp only [toD, PyData.canLay0, PyData.depth, PyData.showable]
    refine ⟨?_, Nat.zero_le _, trivial⟩
    unfold PyData.strOk
    rw [Array.all_eq_true_iff_forall_mem]
    intro c hc
    have := atom_small h c (by simpa using hc)
    exact decide_eq_true (by omega)
  | .t fs, n, h => by
    simp only [ok] at h
    obtain ⟨a, b, c⟩ := ds_lay fs (n - 1) h.2.2
    simp only [toD, PyData.canLay0, PyData.depth, PyData.showable]
    exact ⟨a, by omega, c⟩
theorem ds_lay {E : Nat} : ∀ (fs : List F) (n : Nat), oks E fs n → PyData.canLayAll0 (toDs fs) = true ∧ PyData.depthAll (toDs fs) ≤ n ∧ PyData.showableAll (toDs fs) = true
  | [], n, _ => by simp [toDs, PyData.canLayAll0, PyData.depthAll, PyData.showableAll]
  | f :: r, n, h => by
    simp only [oks] at h
    obtain ⟨a, b, c⟩ := d_lay f n h.1
    obtain ⟨a2, b2, c2⟩ := ds_lay r n h.2
    simp only [toDs, PyData.canLayAll0, PyData.depthAll, PyData.showableAll]
    exact ⟨by rw [a, a2]; rfl, by omega, by rw [c, c2]; rfl⟩
end
theorem shown_app (a b : Str) : (a ++ b).length = a.length + b.length := by
  rw [TL.len_tl, TL.tl_append, List.length_append, ← TL.len_tl, ← TL.len_tl]
theorem piled_cons (t : Str) (r : List Str) : piled (t :: r) = t.length + 2 + piled r := by
  first | rfl | (unfold piled; simp [List.sum_cons]; omega) | (simp [piled]; omega)
theorem tup_len (ts : List Str) : (tupleText ts).length ≤ piled ts + 3 := by
  unfold tupleText
  rw [shown_app, shown_app]
  have e1 : (("(" : String) : Str).length = 1 := rfl
  have e2 : ((if (ts.length == 1) = true then ",)" else ")" : String) : Str).length ≤ 2 := by
    split
    · exact Nat.le_of_eq rfl
    · exact Nat.le_succ_of_le (Nat.le_of_eq rfl)
  by_cases h : ts = []
  · subst h
    have e3 : (Str.join (", " : String) []).length = 0 := rfl
    rw [e1, e3]
    omega
  · have := join_length_add ts h
    rw [e1]
    omega
mutual
theorem d_shown {E : Nat} : ∀ (f : F) (n : Nat), ok E f n → (toD f).shown.length ≤ 12 * (tx f).length
  | .i k, n, h => by
    simp only [ok] at h
    simp only [toD, PyData.shown, tx]
    have e : (Str.ofString (toString ((k : Nat) : Int))).length = (TL.numL k).length := by rw [TL.len_tl, TL.tl_num]
    show (Str.ofString (toString ((k : Nat) : Int))).length ≤ _
    omega
  | .s l, n, h => by
    simp only [ok] at h
    simp only [toD, PyData.shown, tx]
    have h1 := StrLaws.reprText_len (SX.S l) (fun c hc => Nat.lt_trans (atom_small h c (by simpa using hc)) (by decide))
    have h2 := SX.S_len l
    have := atom_ne h
    omega
  | .t fs, n, h => by
    simp only [ok] at h
    have h1 := ds_shown fs (n - 1) h.2.2
    have h2 := tup_len (PyData.shownAll (toDs fs))
    simp only [toD, PyData.shown, tx, List.length_cons, List.length_append, List.length_nil]
    cases fs with
    | nil =>
      simp only [toDs, PyData.shownAll, txs, List.length_nil] at h1 h2 ⊢
      have : piled [] = 0 := rfl
      omega
    | cons f r => 
      have : (txs (f :: r)).length + 1 = (txr (f :: r)).length := by simp [txs, txr]
      omega
theorem ds_shown {E : Nat} : ∀ (fs : List F) (n : Nat), oks E fs n → piled (PyData.shownAll (toDs fs)) ≤ 12 * (txr fs).length
  | [], n, _ => by simp only [toDs, PyData.shownAll, txr]; exact Nat.le_refl _
  | f :: r, n, h => by
    simp only [oks] at h
    have h1 := d_shown f n h.1
    have h2 := ds_shown r n h.2
    simp only [toDs, PyData.shownAll, txr, piled_cons, List.length_cons, List.length_append]
    omega
end
/-- a form in a list of its own, as data: it may be compared and shown -/
theorem one_lay {f : F} (h : ok 5000 f 40) : SeqAt.shaped (.list [toD f]) = true ∧ PyData.showable (.list [toD f]) = true ∧ PyData.hasDict (.list [toD f]) = false := by
  obtain ⟨a, b, c⟩ := d_lay f 40 h
  have e1 : PyData.canLay0 (.list [toD f]) = true := by simp [PyData.canLay0, PyData.canLayAll0, a]
  have e2 : PyData.depth (.list [toD f]) ≤ 64 := by simp [PyData.depth, PyData.depthAll]; omega
  refine ⟨?_, by simp [PyData.showable, PyData.showableAll, c], PyData.hasDict_of_canLay _ e1⟩
  unfold SeqAt.shaped
  rw [e1, decide_eq_true e2]
  rfl
theorem one_eqv {f : F} (h : ok 5000 f 40) : PyData.eqv (.list [toD f]) (.list [toD f]) = true := by
  obtain ⟨a, b, c⟩ := d_lay f 40 h
  exact SeqAt.eqv_refl _ (by simp [PyData.canLay0, PyData.canLayAll0, a])
theorem one_shown {f : F} (h : ok 5000 f 40) : (PyData.shown (.list [toD f])).length ≤ 12 * (tx f).length + 2 := by
  have h1 := d_shown f 40 h
  simp only [PyData.shown, PyData.shownAll]
  unfold listText textFrom textFrom
  rw [shown_app, shown_app, shown_app]
  have e1 : (("[" : String) : Str).length = 1 := rfl
  have e2 : (("]" : String) : Str).length = 1 := rfl
  have e3 : ((if 0 > 0 then ", " else "" : String) : Str).length = 0 := rfl
  omega
end K41
set_option maxRecDepth 100000
set_option maxHeartbeats 400000
/-! Fm41: forms in the heap. -/
namespace K41
open PySem PySem.Spec PyProof.Rows L2 J
mutual
inductive Fm (H : Hp) : V → F → Prop
  | i (n : Nat) : Fm H (.int (n : Int)) (.i n)
  | s (l : List Nat) : Fm H (.str (SX.S l)) (.s l)
  | t {a : Addr} {xs : List V} {fs : List F} : H a = some (.tup xs) → Fms H xs fs → Fm H (.ref a) (.t fs)
inductive Fms (H : Hp) : List V → List F → Prop
  | nil : Fms H [] []
  | cons {v : V} {vs : List V} {f : F} {fs : List F} : Fm H v f → Fms H vs fs → Fms H (v :: vs) (f :: fs)
end
mutual
theorem Fm.kept {H H' : Hp} (t : Tp H H') : ∀ (f : F) (v : V), Fm H v f → Fm H' v f
  | .i n, _, h => by cases h; exact .i n
  | .s l, _, h => by cases h; exact .s l
  | .t fs, _, h => by
    cases h with
    | t e r => exact .t (t _ _ e) (Fms.kept t fs _ r)
theorem Fms.kept {H H' : Hp} (t : Tp H H') : ∀ (fs : List F) (vs : List V), Fms H vs fs → Fms H' vs fs
  | [], _, h => by cases h; exact .nil
  | f :: fs, _, h => by
    cases h with
    | cons a r => exact .cons (Fm.kept t f _ a) (Fms.kept t fs _ r)
end
mutual
theorem Fm.dp {K : PySem.W.Frag} {H : Hp} : ∀ (f : F) (v : V), Fm H v f → Dp K H v (toD f)
  | .i n, _, h => by cases h; simp only [toD]; exact .int _
  | .s l, _, h => by cases h; simp only [toD]; exact .str _
  | .t fs, _, h => by
    cases h with
    | t e r => simp only [toD]; exact .tup (SqT.of e) (Fms.dp fs _ r)
theorem Fms.dp {K : PySem.W.Frag} {H : Hp} : ∀ (fs : List F) (vs : List V), Fms H vs fs → DpAll K H vs (toDs fs)
  | [], _, h => by cases h; simp only [toDs]; exact .nil
  | f :: fs, _, h => by
    cases h with
    | cons a r => simp only [toDs]; exact .cons (Fm.dp f _ a) (Fms.dp fs _ r)
end
theorem Fms.len {H : Hp} : ∀ {vs : List V} {fs : List F}, Fms H vs fs → vs.length = fs.length
  | _, _, .nil => rfl
  | _, _, .cons _ r => by rw [List.length_cons, List.length_cons, Fms.len r]
theorem Fms.app {H : Hp} : ∀ {vs ws : List V} {fs gs : List F}, Fms H vs fs → Fms H ws gs → Fms H (vs ++ ws) (fs ++ gs)
  | _, _, _, _, .nil, b => b
  | _, _, _, _, .cons a r, b => .cons a (Fms.app r b)
theorem Fms.snoc {H : Hp} {vs : List V} {fs : List F} {v : V} {f : F} (a : Fms H vs fs) (b : Fm H v f) : Fms H (vs ++ [v]) (fs ++ [f]) := Fms.app a (.cons b .nil)
theorem Fms.last {H : Hp} : ∀ {fs : List F} {vs : List V} {f : F}, Fms H vs (fs ++ [f]) → ∃ ws v, vs = ws ++ [v] ∧ Fms H ws fs ∧ Fm H v f
  | [], _, f, h => by
    cases h with
    | cons a r =>
      cases r
      exact ⟨[], _, rfl, .nil, a⟩
  | g :: fs, _, f, h => by
    cases h with
    | cons a r =>
      obtain ⟨ws, v, rfl, h1, h2⟩ := Fms.last r
      exact ⟨_ :: ws, v, rfl, .cons a h1, h2⟩
theorem Fms.at {H : Hp} : ∀ {vs : List V} {fs : List F} {k : Nat} {f : F}, Fms H vs fs → fs[k]? = some f → ∃ v, vs[k]? = some v ∧ Fm H v f
  | _, _, _, _, .nil, e => by cases e
  | _, _, 0, _, .cons a r, e => by
    cases e
    exact ⟨_, rfl, a⟩
  | _, _, k + 1, _, .cons a r, e => Fms.at (k := k) r e
theorem Fms.one {H : Hp} {vs : List V} {f : F} (h : Fms H vs [f]) : ∃ v, vs = [v] ∧ Fm H v f := by
  cases h with
  | cons a r => cases r; exact ⟨_, rfl, a⟩
/-! ### weights -/
mutual
def sn : F → Prop
  | .i n => n < 1000000000
  | .s _ => True
  | .t fs => sns fs
def sns : List F → Prop
  | [] => True
  | f :: r => sn f ∧ sns r
end
mutual
theorem sn_ok {E : Nat} : ∀ (f : F) (n : Nat), ok E f n → sn f
  | .i _, _, h => by simp only [ok] at h; simp only [sn]; exact h
  | .s _, _, h => by simp only [sn]
  | .t fs, n, h => by
    simp only [ok] at h
    simp only [sn]
    exact sns_ok fs _ h.2.2
theorem sns_ok {E : Nat} : ∀ (fs : List F) (n : Nat), oks E fs n → sns fs
  | [], _, _ => by simp only [sns]
  | f :: r, n, h => by
    simp only [oks] at h
    simp only [sns]
    exact ⟨sn_ok f n h.1, sns_ok r n h.2⟩
end
theorem sns_app : ∀ {a b : List F}, sns (a ++ b) ↔ sns a ∧ sns b
  | [], b => by simp [sns]
  | f :: a, b => by
    simp only [List.cons_append, sns]
    rw [sns_app (a := a)]
    exact ⟨fun h => ⟨⟨h.1, h.2.1⟩, h.2.2⟩, fun h => ⟨h.1.1, h.1.2, h.2⟩⟩
theorem sns_at : ∀ {fs : List F} {k : Nat} {f : F}, sns fs → fs[k]? = some f → sn f
  | [], _, _, _, e => by cases e
  | g :: fs, 0, f, h, e => by
    cases e
    simp only [sns] at h
    exact h.1
  | g :: fs, k + 1, f, h, e => by
    simp only [sns] at h
    exact sns_at (k := k) h.2 e
mutual
def wt : F → Nat
  | .i _ => 1
  | .s _ => 1
  | .t fs => 2 + wts fs
def wts : List F → Nat
  | [] => 0
  | f :: r => wt f + 1 + wts r
end
theorem wt_pos : ∀ f : F, 1 ≤ wt f
  | .i _ => by simp only [wt]; exact Nat.le_refl _
  | .s _ => by simp only [wt]; exact Nat.le_refl _
  | .t _ => by simp only [wt]; omega
mutual
theorem wt_tx : ∀ f : F, wt f ≤ 2 * (tx f).length + 1
  | .i n => by simp only [wt]; omega
  | .s l => by simp only [wt]; omega
  | .t fs => by
    have h := wts_tx fs
    simp only [wt, tx, List.length_cons, List.length_append, List.length_nil]
    cases fs with
    | nil => simp only [wts]; omega
    | cons f r =>
      have : (txs (f :: r)).length + 1 = (txr (f :: r)).length := by simp [txs, txr]
      omega
theorem wts_tx : ∀ fs : List F, wts fs ≤ 2 * (txr fs).length
  | [] => by simp only [wts]; omega
  | f :: r => by
    have h1 := wt_tx f
    have h2 := wts_tx r
    simp only [wts, txr, List.length_cons, List.length_append]
    omega
end
def wsum (fs : List F) : Nat := (fs.map wt).sum
theorem wsum_snoc (fs : List F) (f : F) : wsum (fs ++ [f]) = wsum fs + wt f := by simp [wsum]
theorem wsum_len : ∀ fs : List F, fs.length ≤ wsum fs
  | [] => Nat.le_refl _
  | f :: r => by
    have h1 := wt_pos f
    have h2 := wsum_len r
    simp only [wsum, List.map_cons, List.sum_cons, List.length_cons] at h2 ⊢
    omega
/-- the text of what waits, the last one first -/
def rtx (ws : List F) : List Nat := (ws.reverse.map tx).flatten
theorem rtx_snoc (ws : List F) (f : F) : rtx (ws ++ [f]) = tx f ++ rtx ws := by simp [rtx]
theorem drop_cons {fs : List F} {k : Nat} {f : F} (e : fs[k]? = some f) : fs.drop k = f :: fs.drop (k + 1) := by
  obtain ⟨h, e⟩ := List.getElem?_eq_some_iff.mp e
  rw [List.drop_eq_getElem_cons h, e]
theorem int_text (n : Nat) : (toString ((n : Nat) : Int) : Str) = SX.S (TL.numL n) := SX.num_S n
abbrev stV (l : List Nat) : V := V.str (SX.S l)
theorem int_log {n : Nat} (h : n < 1000000000) : ((n : Nat) : Int).natAbs.log2 < 1920 := by
  rw [Int.natAbs_natCast]
  by_cases hk : n = 0
  · subst hk; decide
  · exact Nat.lt_trans ((Nat.log2_lt hk).mpr (show n < 2 ^ 30 by omega)) (by decide)
end K41
set_option maxRecDepth 100000
set_option maxHeartbeats 400000
/-! R41: the words of the replaced and split text; the stack in the heap. -/
namespace K41
open PySem PySem.Spec PyProof.Rows L2 J
theorem runP_cons {M E : Nat} {w : List Nat} {ws : List (List Nat)} {st : List (List F)} : runP M E st (w :: ws) = (match stepC M E st w with | none => none | some s => runP M E s ws) := rfl
theorem runP_app {M E : Nat} : ∀ {ws vs : List (List Nat)} {st : List (List F)}, runP M E st (ws ++ vs) = (match runP M E st ws with | none => none | some s => runP M E s vs)
  | [], vs, st => rfl
  | w :: ws, vs, st => by
    rw [List.cons_append, runP_cons, runP_cons]
    cases stepC M E st w with
    | none => rfl
    | some s =>
      show runP M E s (ws ++ vs) = (match runP M E s ws with | none => none | some s => runP M E s vs)
      exact runP_app
theorem runP_one {M E : Nat} {w : List Nat} {st : List (List F)} : runP M E st [w] = stepC M E st w := by
  show (match stepC M E st w with | none => none | some s => some s) = _
  cases stepC M E st w <;> rfl
/-! ### the size of what was read -/
def szS : List (List F) → Nat
  | [] => 0
  | fs :: r => 1 + (txr fs).length + szS r
def szT : List (List Nat) → Nat
  | [] => 0
  | w :: r => w.length + 1 + szT r
theorem txr_app : ∀ (a b : List F), txr (a ++ b) = txr a ++ txr b
  | [], b => rfl
  | f :: a, b => by simp [txr, txr_app a b]
theorem tx_t_len (fs : List F) : (tx (.t fs)).length ≤ 2 + (txr fs).length := by
  simp only [tx, List.length_cons, List.length_append, List.length_nil]
  cases fs with
  | nil => simp [txs, txr]
  | cons f r => simp [txs, txr]; omega
theorem stepC_sz {M E : Nat} {st s : List (List F)} {w : List Nat} (h : stepC M E st w = some s) : szS s ≤ szS st + w.length + 1 := by
  unfold stepC at h
  split at h
  · cases h
  · rename_i s' e
    split at h
    · cases h
      unfold stepP at e
      split at e
      · cases e
        simp only [szS, txr, List.length_nil]
        omega
      · split at e
        · rename_i hw
          split at e
          · rename_i top nxt r
            split at e
            · cases e
              have := tx_t_len top
              subst hw
              simp only [szS, txr_app, txr, List.length_append, List.length_cons, List.length_nil]
              omega
            · cases e
          · cases e
        · split at e
          · cases e
            omega
          · split at e
            · cases e
            · rename_i f hf
              cases e
              obtain ⟨_, hx⟩ := atom_sound hf
              cases st with
              | nil => simp [push1, szS]
              | cons top r =>
                simp only [push1, szS, txr_app, txr, List.length_append, List.length_cons, List.length_nil, hx]
                omega
    · cases h
theorem run_sz {M E : Nat} : ∀ {ws : List (List Nat)} {st s : List (List F)}, runP M E st ws = some s → szS s ≤ szS st + szT ws
  | [], st, s, h => by
    cases h
    exact Nat.le_refl _
  | w :: ws, st, s, h => by
    unfold runP at h
    split at h
    · cases h
    · rename_i s' e
      have h1 := stepC_sz e
      have h2 := run_sz h
      simp only [szT]
      omega
theorem tk_sz : ∀ (l acc : List Nat), szT (tk acc l) ≤ acc.length + 3 * l.length + 1
  | [], acc => by simp [tk, szT]
  | c :: r, acc => by
    have h1 := tk_sz r []
    have h2 := tk_sz r (acc ++ [c])
    unfold tk
    split
    · simp only [szT, List.length_cons, List.length_nil] at *
      omega
    · split
      · simp only [szT, List.length_cons, List.length_nil] at *
        omega
      · split
        · simp only [szT, List.length_cons, List.length_nil] at *
          omega
        · simp only [List.length_cons, List.length_append, List.length_nil] at *
          omega
theorem tk_len : ∀ (l acc : List Nat), (tk acc l).length ≤ 2 * l.length + 1
  | [], acc => by simp [tk]
  | c :: r, acc => by
    have h1 := tk_len r []
    have h2 := tk_len r (acc ++ [c])
    unfold tk
    split
    · simp only [List.length_cons] at *
      omega
    · split
      · simp only [List.length_cons] at *
        omega
      · split
        · simp only [List.length_cons] at *
          omega
        · simp only [List.length_cons] at *
          omega
theorem one_sz {l : List Nat} {f : F} (h : runP 40 5000 [[]] (tk [] l) = some [[f]]) : (tx f).length ≤ 3 * l.length + 2 := by
  have h1 := run_sz h
  have h2 := tk_sz l []
  simp only [szS, txr, List.length_cons, List.length_append, List.length_nil] at *
  omega
/-! ### the words of the replaced text -/
def ex (c : Nat) : List Nat := if c = 40 then [32, 40, 32] else if c = 41 then [32, 41, 32] else [c]
theorem repl1 {c : Nat} {z : List Nat} : ∀ l : List Nat, StrLaws.replL [c] z l = l.flatMap fun d => if d = c then z else [d]
  | [] => StrLaws.replL_nil
  | d :: r => by
    rw [List.flatMap_cons]
    by_cases h : d = c
    · subst h
      rw [StrLaws.replL_hit (by simp) (by simp), if_pos rfl]
      show z ++ StrLaws.replL [d] z r = _
      rw [repl1 r]
    · rw [StrLaws.replL_miss (by simp [h]), if_neg h, repl1 r]
      rfl
theorem repl2 (l : List Nat) : StrLaws.replL [41] [32, 41, 32] (StrLaws.replL [40] [32, 40, 32] l) = l.flatMap ex := by
  rw [repl1, repl1, List.flatMap_assoc]
  congr 1
  funext d
  unfold ex
  by_cases h : d = 40
  · subst h
    rfl
  · rw [if_neg h, if_neg h]
    simp
theorem pre1 {c d : Nat} {r : List Nat} : TL.pre [c] (d :: r) = (d == c) := by
  unfold TL.pre
  show ([d] == [c]) = _
  simp
theorem spl_tk : ∀ (l acc : List Nat), TL.spl [32] 0 acc (l.flatMap ex) = tk acc l
  | [], acc => rfl
  | c :: r, acc => by
    rw [List.flatMap_cons]
    unfold ex tk
    by_cases h : c = 40
    · subst h
      rw [if_pos rfl, if_pos rfl]
      show TL.spl [32] 0 acc (32 :: 40 :: 32 :: r.flatMap ex) = _
      rw [TL.spl_hit (by rw [pre1]; rfl)]
      show acc :: TL.spl [32] 0 [] (40 :: 32 :: r.flatMap ex) = _
      rw [TL.spl_miss (by rw [pre1]; rfl), TL.spl_hit (by rw [pre1]; rfl)]
      show acc :: [40] :: TL.spl [32] 0 [] (r.flatMap ex) = _
      rw [spl_tk r []]
    · rw [if_neg h, if_neg h]
      by_cases h2 : c = 41
      · subst h2
        rw [if_pos rfl, if_pos rfl]
        show TL.spl [32] 0 acc (32 :: 41 :: 32 :: r.flatMap ex) = _
        rw [TL.spl_hit (by rw [pre1]; rfl)]
        show acc :: TL.spl [32] 0 [] (41 :: 32 :: r.flatMap ex) = _
        rw [TL.spl_miss (by rw [pre1]; rfl), TL.spl_hit (by rw [pre1]; rfl)]
        show acc :: [41] :: TL.spl [32] 0 [] (r.flatMap ex) = _
        rw [spl_tk r []]
      · rw [if_neg h2, if_neg h2]
        by_cases h3 : c = 32
        · subst h3
          rw [if_pos rfl]
          show TL.spl [32] 0 acc (32 :: r.flatMap ex) = _
          rw [TL.spl_hit (by rw [pre1]; rfl)]
          show acc :: TL.spl [32] 0 [] (r.flatMap ex) = _
          rw [spl_tk r []]
        · rw [if_neg h3]
          show TL.spl [32] 0 acc (c :: r.flatMap ex) = _
          rw [TL.spl_miss (by rw [pre1]; exact beq_eq_false_iff_ne.mpr h3), spl_tk r (acc ++ [c])]
theorem split_vals (m : List Nat) : (Txt.split (SX.S m) (Str.ofString " ")).map V.str = (TL.spl [32] 0 [] m).map stV := by
  have h := TL.split_spl (SX.S m) (Str.ofString " ") (by decide) (TL.kind_ok (by decide +kernel))
  have e : TL.tl (SX.S m) = m := rfl
  have e2 : TL.tl (Str.ofString " ") = [32] := rfl
  rw [e, e2] at h
  rw [← h, List.map_map]
  refine List.map_congr_left fun x _ => ?_
  show V.str x = V.str (SX.S (TL.tl x))
  rw [show SX.S (TL.tl x) = x from TL.mk_tl x]
/-- the reading of e.replace(y, z) at a value -/
theorem replS {l : List Nat} {y z : Str} (hy : 1 ≤ y.length) : Txt.replace (SX.S l) y z = SX.S (StrLaws.replL y.cps.toList z.cps.toList l) :=
  TL.ext_tl (by
    have := StrLaws.replace_list (x := SX.S l) (y := y) (z := z) hy
    exact this)
theorem s_repl {to : TE} {y z : Str} {σ : Fs} {H : Hp} {Q : VK} (q : to σ H fun v H1 => ∃ x, v = .str x ∧ x.length + (x.length + 1) * z.length ≤ 16777216 ∧ Q (.str (Txt.replace x y z)) H1) : CwR.tReplC to y z σ H Q := q
/-! ### the stack in the heap, the top first -/
inductive Stk (H : Hp) : List Addr → List (List F) → Prop
  | nil : Stk H [] []
  | cons {a : Addr} {as : List Addr} {vs : List V} {fs : List F} {st : List (List F)} : H a = some (.lst vs) → Fms H vs fs → a ∉ as → Stk H as st → Stk H (a :: as) (fs :: st)
theorem Stk.len {H : Hp} : ∀ {as : List Addr} {st : List (List F)}, Stk H as st → as.length = st.length
  | _, _, .nil => rfl
  | _, _, .cons _ _ _ r => by rw [List.length_cons, List.length_cons, Stk.len r]
theorem Stk.kept {H H' : Hp} (t : Tp H H') : ∀ {as : List Addr} {st : List (List F)}, Stk H as st → (∀ a ∈ as, H' a = H a) → Stk H' as st
  | _, _, .nil, _ => .nil
  | _, _, .cons e f n r, h => .cons ((h _ (List.mem_cons_self ..)).trans e) (Fms.kept t _ _ f) n (Stk.kept t r fun a m => h a (List.mem_cons_of_mem _ m))
theorem Stk.push {H : Hp} {a : Addr} {as : List Addr} {vs : List V} {fs : List F} {st : List (List F)} {v : V} {f : F} (s : Stk H (a :: as) (fs :: st)) (e : H a = some (.lst vs)) (h : Fm H v f) : Stk (upd H a (.lst (vs ++ [v]))) (a :: as) ((fs ++ [f]) :: st) := by
  cases s with
  | cons e' g n r =>
    rw [e] at e'
    cases e'
    have t : Tp H (upd H a (.lst (vs ++ [v]))) := (Tp.refl H).put e
    exact .cons upd_same (Fms.snoc (Fms.kept t _ _ g) (Fm.kept t _ _ h)) n (r.kept t fun b hb => upd_ne fun z => n (z ▸ hb))
theorem Stk.at {H : Hp} : ∀ {as : List Addr} {st : List (List F)} {a : Addr}, Stk H as st → a ∈ as → ∃ vs, H a = some (.lst vs)
  | _, _, a, .cons e _ _ r, h => by
    rcases List.mem_cons.mp h with h | h
    · exact ⟨_, by rw [h]; exact e⟩
    · exact Stk.at r h
def rfs (as : List Addr) : List V := as.reverse.map V.ref
theorem rfs_cons (a : Addr) (as : List Addr) : rfs (a :: as) = rfs as ++ [V.ref a] := by simp [rfs]
theorem rfs_len (as : List Addr) : (rfs as).length = as.length := by simp [rfs]
theorem szT_at : ∀ {ws : List (List Nat)} {i : Nat} {w : List Nat}, ws[i]? = some w → w.length ≤ szT ws
  | [], _, _, h => by cases h
  | v :: ws, 0, w, h => by
    cases h
    simp only [szT]
    omega
  | v :: ws, i + 1, w, h => by
    have := szT_at (i := i) h
    simp only [szT]
    omega
theorem take_more {α : Type} {ws : List α} {i : Nat} {w : α} (h : ws[i]? = some w) : ws.take (i + 1) = ws.take i ++ [w] := by
  rw [List.take_add_one, h]
  rfl
theorem run_more {M E : Nat} {ws : List (List Nat)} {i : Nat} {w : List Nat} {st0 st : List (List F)} (h : ws[i]? = some w) (e : runP M E st0 (ws.take i) = some st) : runP M E st0 (ws.take (i + 1)) = stepC M E st w := by
  rw [take_more h, runP_app, e]
  exact runP_one
theorem run_stop {M E : Nat} {ws : List (List Nat)} {i : Nat} {w : List Nat} {st0 st : List (List F)} (h : ws[i]? = some w) (e : runP M E st0 (ws.take i) = some st) (hn : stepC M E st w = none) : runP M E st0 ws = none := by
  have e2 := run_more h e
  rw [hn] at e2
  rw [← List.take_append_drop (i + 1) ws, runP_app, e2]
theorem parse_stop {l : List Nat} {i : Nat} {w : List Nat} {st : List (List F)} (h : (tk [] l)[i]? = some w) (e : runP 40 5000 [[]] ((tk [] l).take i) = some st) (hn : stepC 40 5000 st w = none) : parseP 40 5000 l = none := by
  unfold parseP
  rw [run_stop h e hn]
theorem step_open {st : List (List F)} : stepC 40 5000 st [40] = if st.length + 1 ≤ 41 then some ([] :: st) else none := by
  unfold stepC stepP
  simp
theorem step_close1 {st : List (List F)} (h : st.length ≤ 1) : stepC 40 5000 st [41] = none := by
  unfold stepC stepP
  match st, h with
  | [], _ => simp
  | [a], _ => simp
theorem step_close {top nxt : List F} {st : List (List F)} (h : st.length + 2 ≤ 41) : stepC 40 5000 (top :: nxt :: st) [41] = if top.length ≤ 5000 then some ((nxt ++ [.t top]) :: st) else none := by
  unfold stepC stepP
  by_cases q : top.length ≤ 5000
  · simp [q]
    omega
  · simp [q]
theorem step_atom {st : List (List F)} {w : List Nat} (h1 : w ≠ [40]) (h2 : w ≠ [41]) (h3 : w ≠ []) (h : st.length ≤ 41) : stepC 40 5000 st w = (match atom w with | none => none | some f => some (push1 f st)) := by
  unfold stepC stepP
  rw [if_neg h1, if_neg h2, if_neg h3]
  cases atom w with
  | none => rfl
  | some f =>
    have e : (push1 f st).length = st.length := by cases st <;> rfl
    show (if (push1 f st).length ≤ 40 + 1 then some (push1 f st) else none) = _
    rw [if_pos (by omega)]
theorem szT_take : ∀ (ws : List (List Nat)) (i : Nat), szT (ws.take i) ≤ szT ws
  | [], i => by rw [List.take_nil]; exact Nat.le_refl _
  | w :: ws, 0 => Nat.zero_le _
  | w :: ws, i + 1 => by
    have := szT_take ws i
    simp only [List.take_succ_cons, szT]
    omega
theorem txr_ge : ∀ fs : List F, fs.length ≤ (txr fs).length
  | [] => Nat.le_refl _
  | f :: r => by
    have := txr_ge r
    simp only [txr, List.length_cons, List.length_append]
    omega
theorem parse_not {l : List Nat} {st : List (List F)} (e : runP 40 5000 [[]] (tk [] l) = some st) (h : ∀ f, st ≠ [[f]]) : parseP 40 5000 l = none := by
  unfold parseP
  rw [e]
  split
  · rename_i f e2
    exact absurd (Option.some.inj e2) (h f)
  · rfl
end K41
set_option maxRecDepth 100000
set_option maxHeartbeats 400000
/-! L41: the law's reader, step by step. -/
namespace K41
open PySem PySem.Spec PyProof.Rows L2 J
/-- the law's atoms are the program's -/
theorem atom_code {r : List Nat} : atom (39 :: r) = if (decide (r.length ≤ 1000) && r.all step4) = true then some (.s (39 :: r)) else none := by
  have h1 : wordB (39 :: r) = false := by
    unfold wordB
    simp [lett]
  have h2 : codeB (39 :: r) = (decide (r.length ≤ 1000) && r.all step4) := by
    unfold codeB
    simp
  have h3 : numB (39 :: r) = false := by
    unfold numB
    simp [digt]
  unfold atom
  rw [h1, h2, h3, Bool.false_or]
  rfl
theorem atom_digits {c : Nat} {r : List Nat} (h : (c :: r).all digt = true) : atom (c :: r) = if (c :: r).length = 1 ∨ ((c :: r).length ≤ 9 ∧ c ≠ 48) then some (.i (NumText.digitsVal (c :: r))) else none := by
  have hc : digt c = true := by simp only [List.all_cons, Bool.and_eq_true] at h; exact h.1
  have h1 : wordB (c :: r) = false := by
    have := not_dig_lett hc
    unfold wordB
    simp [this]
  have hc39 : (c == 39) = false := by
    simp [digt] at hc
    exact beq_eq_false_iff_ne.mpr (by omega)
  have h2 : codeB (c :: r) = false := by
    simp only [codeB, hc39, Bool.false_and]
  unfold atom
  rw [h1, h2]
  show (if numB (c :: r) = true then _ else _) = _
  have h3 : numB (c :: r) = true ↔ ((c :: r).length = 1 ∨ ((c :: r).length ≤ 9 ∧ c ≠ 48)) := by
    have e1 : numB (c :: r) = (decide (1 ≤ (c :: r).length) && decide ((c :: r).length ≤ 9) && (c :: r).all digt && (decide ((c :: r).length ≤ 1) || !((c :: r).head? == some 48))) := rfl
    have e2 : ((c :: r).head? == some 48) = decide (c = 48) := by
      by_cases q : c = 48
      · subst q; rfl
      · rw [decide_eq_false q]; exact beq_eq_false_iff_ne.mpr fun z => q (Option.some.inj z)
    rw [e1, h, e2]
    by_cases hc48 : c = 48
    · rw [decide_eq_true hc48]
      simp only [Bool.and_true, Bool.not_true, Bool.or_false, Bool.and_eq_true, decide_eq_true_eq, List.length_cons]
      omega
    · rw [decide_eq_false hc48]
      simp only [Bool.and_true, Bool.not_false, Bool.or_true, Bool.and_eq_true, decide_eq_true_eq, List.length_cons]
      omega
  by_cases q : (c :: r).length = 1 ∨ ((c :: r).length ≤ 9 ∧ c ≠ 48)
  · rw [if_pos q, if_pos (h3.mpr q)]
  · rw [if_neg q, if_neg (fun z => q (h3.mp z))]
theorem atom_word {c : Nat} {r : List Nat} (h39 : c ≠ 39) (h : (c :: r).all digt = false) : atom (c :: r) = if (decide ((c :: r).length ≤ 12) && (c :: r).all lett) = true then some (.s (c :: r)) else none := by
  have hc39 : (c == 39) = false := beq_eq_false_iff_ne.mpr h39
  have h2 : codeB (c :: r) = false := by
    simp only [codeB, hc39, Bool.false_and]
  have h1 : wordB (c :: r) = (decide ((c :: r).length ≤ 12) && (c :: r).all lett) := by
    unfold wordB
    simp
  have h3 : numB (c :: r) = false := by
    unfold numB
    rw [h]
    simp
  unfold atom
  rw [h1, h2, h3, Bool.or_false]
  rfl
/-! ### the states -/
def qS : Nat → Str
  | 0 => Str.ofString "begin"
  | 1 => Str.ofString "open"
  | _ => Str.ofString "end"
theorem q_end {q : Nat} : (qS q = Str.ofString "end") ↔ (q ≠ 0 ∧ q ≠ 1) := by
  match q with
  | 0 => exact ⟨fun z => absurd z (by decide), fun z => absurd rfl z.1⟩
  | 1 => exact ⟨fun z => absurd z (by decide), fun z => absurd rfl z.2⟩
  | q + 2 => exact ⟨fun _ => ⟨by omega, by omega⟩, fun _ => rfl⟩
theorem q_begin {q : Nat} : (qS q = Str.ofString "begin") ↔ q = 0 := by
  match q with
  | 0 => exact ⟨fun _ => rfl, fun _ => rfl⟩
  | 1 => exact ⟨fun z => absurd z (by decide), fun z => absurd z (by decide)⟩
  | q + 2 => exact ⟨fun z => absurd (show Str.ofString "end" = Str.ofString "begin" from z) (by decide), fun z => by omega⟩
/-- what stands at the bottom -/
def BI (st : List (List F)) (q : Nat) : Prop := q ≤ 2 ∧ ((st = [[]] ∧ q ≠ 2) ∨ (∃ f, st = [[f]] ∧ q = 2) ∨ ∃ top mid, st = top :: (mid ++ [[]]))
theorem BI.ne {st : List (List F)} {q : Nat} (h : BI st q) : 1 ≤ st.length := by
  rcases h with ⟨_, ⟨h, _⟩ | ⟨f, h, _⟩ | ⟨t, m, h⟩⟩ <;> rw [h] <;> simp
theorem BI.opn {st : List (List F)} {q : Nat} (h : BI st q) (hq : q ≠ 2) : BI ([] :: st) 1 := by
  rcases h with ⟨_, ⟨h, _⟩ | ⟨f, h, e⟩ | ⟨t, m, h⟩⟩
  · exact ⟨by decide, .inr (.inr ⟨[], [], by rw [h]; rfl⟩)⟩
  · exact absurd e hq
  · exact ⟨by decide, .inr (.inr ⟨[], t :: m, by rw [h]; rfl⟩)⟩
theorem BI.cls {top nxt : List F} {st : List (List F)} {q : Nat} (h : BI (top :: nxt :: st) q) : BI ((nxt ++ [.t top]) :: st) 2 := by
  rcases h with ⟨_, ⟨h, _⟩ | ⟨f, h, e⟩ | ⟨t, m, h⟩⟩
  · cases h
  · cases h
  · cases m with
    | nil =>
      cases h
      exact ⟨by decide, .inr (.inl ⟨_, rfl, rfl⟩)⟩
    | cons x m =>
      cases h
      exact ⟨by decide, .inr (.inr ⟨_, m, rfl⟩)⟩
theorem BI.blk {st : List (List F)} {q : Nat} (h : BI st q) (hl : 1 < st.length) : BI st 0 := by
  rcases h with ⟨_, ⟨h, _⟩ | ⟨f, h, e⟩ | ⟨t, m, h⟩⟩
  · rw [h] at hl; exact absurd hl (by decide)
  · rw [h] at hl; simp at hl
  · exact ⟨by decide, .inr (.inr ⟨t, m, h⟩)⟩
theorem BI.wrd {st : List (List F)} {q : Nat} {f : F} (h : BI st q) (hq : q ≠ 2) : BI (push1 f st) 2 := by
  rcases h with ⟨_, ⟨h, _⟩ | ⟨g, h, e⟩ | ⟨t, m, h⟩⟩
  · rw [h]
    exact ⟨by decide, .inr (.inl ⟨f, rfl, rfl⟩)⟩
  · exact absurd e hq
  · rw [h]
    exact ⟨by decide, .inr (.inr ⟨_, m, rfl⟩)⟩
theorem BI.fin {st : List (List F)} {q : Nat} (h : BI st q) (hq : q = 2) (hl : st.length = 1) : ∃ f, st = [[f]] := by
  rcases h with ⟨_, ⟨h, e⟩ | ⟨g, h, e⟩ | ⟨t, m, h⟩⟩
  · exact absurd hq e
  · exact ⟨g, h⟩
  · rw [h] at hl
    simp at hl
theorem sz_open {st : List (List F)} : szS ([] :: st) = 1 + szS st := by simp [szS, txr]
theorem sz_close {top nxt : List F} {st : List (List F)} : szS ((nxt ++ [.t top]) :: st) ≤ szS (top :: nxt :: st) + 2 := by
  have := tx_t_len top
  simp only [szS, txr_app, txr, List.length_append, List.length_cons, List.length_nil]
  omega
theorem sz_push {f : F} {st : List (List F)} : szS (push1 f st) ≤ szS st + (tx f).length + 1 := by
  cases st with
  | nil => simp [push1, szS]
  | cons top r =>
    simp only [push1, szS, txr_app, txr, List.length_append, List.length_cons, List.length_nil]
    omega
/-- the place behind a word -/
theorem tw_at : ∀ {r : List Nat} {m : Nat}, m < (r.takeWhile nd).length → ∃ d, r[m]? = some d ∧ nd d = true
  | [], m, h => by simp at h
  | c :: r, m, h => by
    rw [List.takeWhile_cons] at h
    split at h
    · rename_i hc
      cases m with
      | zero => exact ⟨c, rfl, hc⟩
      | succ m => exact tw_at (r := r) (by simpa using h)
    · simp at h
theorem tw_end : ∀ (r : List Nat), r.length = (r.takeWhile nd).length ∨ ∃ d, r[(r.takeWhile nd).length]? = some d ∧ nd d = false
  | [] => .inl rfl
  | c :: r => by
    rw [List.takeWhile_cons]
    split
    · rcases tw_end r with h | ⟨d, h, e⟩
      · exact .inl (by simpa using h)
      · exact .inr ⟨d, by simpa using h, e⟩
    · rename_i hc
      exact .inr ⟨c, rfl, by simpa using hc⟩
theorem tw_take : ∀ (r : List Nat), r.take (r.takeWhile nd).length = r.takeWhile nd
  | [] => rfl
  | c :: r => by
    rw [List.takeWhile_cons]
    split
    · simp [tw_take r]
    · rfl
theorem tw_drop : ∀ (r : List Nat), r.drop (r.takeWhile nd).length = r.dropWhile nd
  | [] => rfl
  | c :: r => by
    rw [List.takeWhile_cons, List.dropWhile_cons]
    split
    · simp [tw_drop r]
    · rfl
theorem tw_len (r : List Nat) : (r.takeWhile nd).length ≤ r.length := (List.takeWhile_sublist nd).length_le
theorem in_nd (n : Nat) : (!decide (n ∈ ("() " : Str).cps.toList)) = nd n := by
  show (!decide (n ∈ [40, 41, 32])) = _
  unfold nd
  rw [Bool.eq_iff_iff]
  simp [and_assoc]
end K41
set_option maxRecDepth 100000
set_option maxHeartbeats 400000
namespace K41
open PySem PySem.Spec PyProof.Rows L2 J
def topS (i : Nat) : Stmt := PySem.Challenge.pw_turnmaps_k41_forms_there_and_back.main.body.getD i (.Pass ⟨0, 0, 0, 0⟩)
structure Bn (mg : Str → Option Value) : Prop where
  len : mg "len" = none
  abs : mg "abs" = none
  max : mg "max" = none
  int : mg "int" = none
  str : mg "str" = none
  tuple : mg "tuple" = none
  all : mg "all" = none
  isinstance : mg "isinstance" = none
  range : mg "range" = none
  reversed : mg "reversed" = none
  repr : mg "repr" = none
structure Cn (mg : Str → Option Value) : Prop where
  DIGITS : ∃ t, mg "DIGITS" = some (.str "0123456789" t)
  LETTERS : ∃ t, mg "LETTERS" = some (.str "abcdefghijklmnopqrstuvwxyz" t)
  STEPS : ∃ t, mg "STEPS" = some (.str "0123" t)
  MOST_DIGITS : ∃ t, mg "MOST_DIGITS" = some (.int 9 t)
  MOST_LETTERS : ∃ t, mg "MOST_LETTERS" = some (.int 12 t)
  MOST_STEPS : ∃ t, mg "MOST_STEPS" = some (.int 1000 t)
  MOST_ENTRIES : ∃ t, mg "MOST_ENTRIES" = some (.int 5000 t)
  MOST_NESTED : ∃ t, mg "MOST_NESTED" = some (.int 40 t)
  MOST_TEXT : ∃ t, mg "MOST_TEXT" = some (.int 100000 t)
theorem in_lett (n : Nat) : decide (n ∈ ("abcdefghijklmnopqrstuvwxyz" : Str).cps.toList) = lett n := by
  show decide (n ∈ [97, 98, 99, 100, 101, 102, 103, 104, 105, 106, 107, 108, 109, 110, 111, 112, 113, 114, 115, 116, 117, 118, 119, 120, 121, 122]) = _
  unfold lett
  rw [Bool.eq_iff_iff]
  simp
  omega
theorem in_digt (n : Nat) : decide (n ∈ ("0123456789" : Str).cps.toList) = digt n := by
  show decide (n ∈ [48, 49, 50, 51, 52, 53, 54, 55, 56, 57]) = _
  unfold digt
  rw [Bool.eq_iff_iff]
  simp
  omega
theorem in_step (n : Nat) : decide (n ∈ ("0123" : Str).cps.toList) = step4 n := by
  show decide (n ∈ [48, 49, 50, 51]) = _
  unfold step4
  rw [Bool.eq_iff_iff]
  simp
  omega
local macro_rules | `(tactic| walk_at "ne") => `(tactic| first
  | with_reducible assumption
  | (apply Ne.symm; with_reducible assumption))
local macro_rules | `(tactic| walk_at "look") => `(tactic| first
  | with_reducible assumption
  | with_reducible exact upd_same
  | ((with_reducible refine' at_new ?ha ?hb); (case ha => with_reducible assumption); (case hb => walk_at "look"))
  | ((with_reducible refine' at_other ?ha ?hb); (case ha => walk_at "ne"); (case hb => walk_at "look"))
  | ((with_reducible refine' same_at ?ha ?hb); (case ha => with_reducible assumption); (case hb => walk_at "look")))
local macro_rules | `(tactic| walk_at "sq") => `(tactic| first
  | with_reducible assumption
  | ((with_reducible refine' SqL.of ?ha); (case ha => walk_at "look"))
  | ((with_reducible refine' sq_put ?ha ?hb); (case hb => walk_at "ne"); (case ha => walk_at "sq"))
  | ((with_reducible refine' sq_new ?ha ?hb); (case hb => with_reducible assumption); (case ha => walk_at "sq"))
  | ((with_reducible refine' sq_same ?ha ?hb); (case hb => with_reducible assumption); (case ha => walk_at "sq")))
local macro_rules | `(tactic| walk_at "qt") => `(tactic| first
  | with_reducible assumption
  | ((with_reducible refine' SqT.of ?ha); (case ha => walk_at "look")))
local macro_rules | `(tactic| walk_at "atI") => `(tactic| first
  | with_reducible assumption
  | exact rfl)
local macro_rules | `(tactic| walk_at "go") => `(tactic| repeat (first
  | ((with_reducible refine' s_var ?hv ?_); (case hv => exact rfl))
  | with_reducible refine s_c ?_
  | with_reducible refine s_op ?_
  | with_reducible refine s_test ?_
  | with_reducible refine s_ex ?_
  | with_reducible refine s_seq ?_
  | with_reducible refine s_asg ?_
  | with_reducible refine s_name ?_
  | with_reducible refine s_if ?_
  | with_reducible refine s_next ?_
  | with_reducible refine s_cb ?_
  | with_reducible refine s_call ?_
  | with_reducible refine s_cons ?_
  | with_reducible refine s_nil ?_
  | with_reducible refine s_and ?_
  | with_reducible refine s_or ?_
  | with_reducible refine s_not ?_
  | with_reducible refine s_chain ?_
  | with_reducible refine s_andV ?_
  | with_reducible refine s_orV ?_
  | with_reducible refine s_un ?_
  | with_reducible refine s_drop ?_
  | with_reducible refine s_ret ?_
  | with_reducible refine s_retN ?_
  | with_reducible refine s_gsub ?_
  | with_reducible refine s_tup ?_
  | with_reducible refine s_lst ?_
  | with_reducible refine s_bm ?_
  | with_reducible refine s_bm0 ?_
  | with_reducible refine s_sl ?_
  | with_reducible refine s_nopart ?_
  | with_reducible refine s_part ?_
  | with_reducible refine s_exi ?_
  | with_reducible refine s_cont ?_
  | with_reducible refine s_break ?_
  | with_reducible refine s_ifE ?_
  | with_reducible refine s_m1 ?_
  | with_reducible refine iteT ?_
  | with_reducible refine iteF ?_
  | with_reducible refine s_iteNT ?_
  | with_reducible refine s_iteNF ?_
  | with_reducible refine s_addI ?_
  | with_reducible refine s_I1 ?_
  | with_reducible refine s_eqI ?_
  | with_reducible refine s_eqS ?_
  | with_reducible refine s_eqB ?_
  | with_reducible refine s_neI ?_
  | with_reducible refine s_neS ?_
  | with_reducible refine s_neg ?_
  | with_reducible refine s_is ?_
  | with_reducible refine s_isnt ?_
  | with_reducible refine s_intI ?_
  | with_reducible refine s_intB ?_
  | with_reducible refine s_strS ?_
  | with_reducible refine s_tyS ?_
  | with_reducible refine s_exS ?_
  | ((with_reducible refine' s_ty ?hs ?_); (case hs => walk_at "look"))
  | with_reducible refine s_abs ?_
  | ((with_reducible refine' s_append ?hs ?hl ?_); (case hs => walk_at "look"); (case hl => first | assumption | omega | (simp only [List.length_append, List.length_cons, List.length_nil, List.length_map]; omega)))
  | ((with_reducible refine' s_popS ?hs ?_); (case hs => walk_at "look"))
  | ((with_reducible refine' s_strN ?hs ?_); (case hs => assumption))
  | with_reducible refine s_iRev ?_
  | with_reducible refine s_xf ?_
  | with_reducible refine s_rz ?_
  | with_reducible refine s_callS ?_
  | with_reducible refine s_repl ?_
  | with_reducible refine s_rg1 ?_
  | with_reducible refine isi_ss ?_
  | with_reducible refine s_tru ?_
  | with_reducible refine s_truB ?_
  | ((with_reducible refine' s_truL ?hs ?_); (case hs => walk_at "sq"))
  | with_reducible refine isi_is ?_
  | with_reducible refine isi_st ?_
  | with_reducible refine isi_it ?_
  | ((with_reducible refine' isi_tt ?hs ?_); (case hs => walk_at "look"))
  | with_reducible refine s_lc ?_
  | with_reducible refine s_forS ?_
  | with_reducible refine i_str ?_
  | with_reducible refine i_list ?_
  | with_reducible refine i_tup ?_
  | with_reducible refine s_exx ?_
  | with_reducible refine s_inS ?_
  | with_reducible refine s_ninS ?_
  | ((with_reducible refine' s_slTake ?hs ?hk ?_); (case hs => first | assumption | omega); (case hk => first | decide | omega))
  | ((with_reducible refine' s_slDrop ?hs ?hk ?_); (case hs => first | assumption | omega); (case hk => first | decide | omega))
  | ((with_reducible refine' s_slMid ?hs ?hk ?hk2 ?_); (case hs => first | assumption | omega); (case hk => first | decide | omega); (case hk2 => first | decide | omega))
  | ((with_reducible refine' s_ixX ?hs ?he ?_); (case hs => first | assumption | omega); (case he => walk_at "atI"))
  | ((with_reducible refine' s_lenX ?hs ?_); (case hs => first | assumption | omega))
  | ((with_reducible refine' s_all ?hs ?_); (case hs => walk_at "sq"))
  | with_reducible refine s_max ?_
  | with_reducible refine s_min ?_
  | ((with_reducible refine' s_ixL ?hs ?he ?_); (case hs => walk_at "sq"); (case he => walk_at "atI"))
  | ((with_reducible refine' s_ixT ?hs ?he ?_); (case hs => walk_at "qt"); (case he => walk_at "atI"))
  | ((with_reducible refine' s_lenL ?hs ?_); (case hs => walk_at "sq"))
  | ((with_reducible refine' s_lenT ?hs ?_); (case hs => walk_at "qt"))
  | ((with_reducible refine' s_setL ?hs ?he ?_); (case hs => walk_at "look"); (case he => walk_at "atI"))
  | ((with_reducible refine' s_mulI ?hs ?_); (case hs => first | exact .inr ⟨by decide, by decide⟩ | exact .inl ⟨by decide, by decide⟩ | assumption | exact .inl ⟨by omega, by omega⟩ | exact .inr ⟨by omega, by omega⟩))
  | ((with_reducible refine' s_I2 ?hs ?_); (case hs => first | assumption | exact (by decide) | exact ⟨by decide, by decide⟩ | exact ⟨by decide, by decide, by decide⟩))))

def spB (p : List Nat → Bool) : Sp := fun vs H Q _ => ∃ l, vs = [.str (SX.S l)] ∧ l.length ≤ sizeLine ∧ ∀ H', Same H H' → Q (.bl (p l)) H'
section
variable {P : Program} {w : World} {K : PySem.W.Frag} {mg : Str → Option Value} {base : Heap}
abbrev s_is_word : Stmt := topS 15
abbrev N_is_word : List Str := ["form", "char"]
theorem sc_is_word : FnScope N_is_word ["form"] (defScope s_is_word) := ⟨rfl, rfl, rfl, by decide +kernel, rfl, by decide +kernel, by decide +kernel⟩
theorem ok_is_word {f : Addr} {fd : FuncData} (F : Fun K "is_word" "is_word" s_is_word f fd) (B : Bn mg) (C : Cn mg) : FnOk P w K mg base CX0 1 f fd ["form"] (spB wordB) := by
  refine F.ok sc_is_word (fun vs H Q E h => ?_) (fun cdv A outer s H vs Q E hr h => ?_)
  · obtain ⟨l, rfl, _⟩ := h
    rfl
  · obtain ⟨l, rfl, hl, q⟩ := h
    refine ⟨_, (pss_one (ps_ret (pe_and (pe_callB (k_isinstance (K := K) rfl) (by rfl) B.isinstance (by decide +kernel) (pa_cons (pv 0) (pa_cons (pe_bltn (v := .ty "str") (by rfl) B.str (by decide +kernel) rfl) pa_nil))) (pe_and (pe_chain u_le u_le pe_int (pe_callB (k_len (K := K) rfl) (by rfl) B.len (by decide +kernel) (pa_cons (pv 0) pa_nil)) (g_int C.MOST_LETTERS (by rfl))) (pe_one (pe_callB (k_all (K := K) rfl) (by rfl) B.all (by decide +kernel) (pa_cons (pe_lc (own := [("char", 1)]) (by rfl) sc_is_word.nd (pi_str (pv 0)) (blkOk_by (N := N_is_word) (sc := defScope s_is_word) (by decide +kernel)) (fun _ _ _ _ _ => (pg_name (i := 1) sc_is_word.nd rfl (.inl rfl))) (fun _ _ _ _ _ => pts_nil) (fun _ _ _ _ _ => (pe_cmpR (k_in (K := K) rfl) (pv 1) (g_str C.LETTERS (by rfl)) rfl))) pa_nil))))))), ?_⟩
    walk_at "go"
    have e : wordB l = (decide (1 ≤ l.length) && decide (l.length ≤ 12) && ((l.map lett).all id)) := by
      unfold wordB
      rw [List.all_map]
      rfl
    refine s_dec (fun h1 => ?_) (fun h1 => ?_)
    · walk_at "go"
      refine s_dec (fun h2 => ?_) (fun h2 => ?_)
      · walk_at "go"
        refine lc_chars lett rfl hl (fun D c acc A hD ha => ?_) (fun D hD => ?_)
        · walk_at "go"
          rw [in_lett]
          exact ha
        · walk_at "go"
          have e2 := q _ (same_new hD (o := .lst ((l.map lett).map V.bl)))
          rw [e, decide_eq_true (by omega), decide_eq_true (by omega)] at e2
          exact e2
      · walk_at "go"
        have e2 := q _ (Same.refl H)
        rw [e, decide_eq_false (p := l.length ≤ 12) (by omega), Bool.and_false, Bool.false_and] at e2
        exact e2
    · walk_at "go"
      have e2 := q _ (Same.refl H)
      rw [e, decide_eq_false (by omega), Bool.false_and, Bool.false_and] at e2
      exact e2
abbrev s_is_code : Stmt := topS 16
abbrev N_is_code : List Str := ["form", "char"]
theorem sc_is_code : FnScope N_is_code ["form"] (defScope s_is_code) := ⟨rfl, rfl, rfl, by decide +kernel, rfl, by decide +kernel, by decide +kernel⟩
theorem ok_is_code {f : Addr} {fd : FuncData} (F : Fun K "is_code" "is_code" s_is_code f fd) (B : Bn mg) (C : Cn mg) : FnOk P w K mg base CX0 1 f fd ["form"] (spB codeB) := by
  refine F.ok sc_is_code (fun vs H Q E h => ?_) (fun cdv A outer s H vs Q E hr h => ?_)
  · obtain ⟨l, rfl, _⟩ := h
    rfl
  · obtain ⟨l, rfl, hl, q⟩ := h
    refine ⟨_, (pss_cons (ps_if (pw_or (pt_not (k_truth (K := K) rfl (pe_callB (k_isinstance (K := K) rfl) (by rfl) B.isinstance (by decide +kernel) (pa_cons (pv 0) (pa_cons (pe_bltn (v := .ty "str") (by rfl) B.str (by decide +kernel) rfl) pa_nil))))) (pw_or (pt_cmpR (k_ne (K := K) rfl hr.units) (pe_slice (k_sl (K := K) rfl) (pv 0) po_none (po_some pe_int)) pe_str (nomark _)) (pw_or1 (pt_cmpR u_gt (pe_callB (k_len (K := K) rfl) (by rfl) B.len (by decide +kernel) (pa_cons (pv 0) pa_nil)) (pe_op (k_add (K := K) rfl) (g_int C.MOST_STEPS (by rfl)) pe_int) (nomark _))))).pt
  (pss_one (ps_ret pe_bl))
  pss_nil)
  (pss_one (ps_ret (pe_callB (k_all (K := K) rfl) (by rfl) B.all (by decide +kernel) (pa_cons (pe_lc (own := [("char", 1)]) (by rfl) sc_is_code.nd (pi_str (pe_slice (k_sl (K := K) rfl) (pv 0) (po_some pe_int) po_none)) (blkOk_by (N := N_is_code) (sc := defScope s_is_code) (by decide +kernel)) (fun _ _ _ _ _ => (pg_name (i := 1) sc_is_code.nd rfl (.inl rfl))) (fun _ _ _ _ _ => pts_nil) (fun _ _ _ _ _ => (pe_cmpR (k_in (K := K) rfl) (pv 1) (g_str C.STEPS (by rfl)) rfl))) pa_nil))))), ?_⟩
    have ap : ∀ a : Nat, (Str.ofString "'" : Str) = SX.S [39] := fun _ => rfl
    walk_at "go"
    refine s_ndec (fun h1 => ?_) (fun h1 => ?_)
    · walk_at "go"
      have e2 := q _ (Same.refl H)
      cases l with
      | nil => exact e2
      | cons c r =>
        have hc : (c == 39) = false := beq_eq_false_iff_ne.mpr fun z => h1 (by rw [z]; rfl)
        simp only [codeB, hc, Bool.false_and] at e2
        exact e2
    · have hc : l.take 1 = [39] := SX.S_inj h1
      cases l with
      | nil => cases hc
      | cons c r =>
        have h39 : c = 39 := by cases hc; rfl
        subst h39
        have hr2 : r.length ≤ sizeLine := Nat.le_trans (Nat.le_succ _) hl
        walk_at "go"
        refine s_dec (fun h2 => ?_) (fun h2 => ?_)
        · walk_at "go"
          have e2 := q _ (Same.refl H)
          have hh : decide (r.length ≤ 1000) = false := decide_eq_false (by rw [List.length_cons] at h2; omega)
          simp only [codeB, hh, Bool.and_false, Bool.false_and] at e2
          exact e2
        · walk_at "go"
          refine lc_chars (l := r) step4 rfl hr2 (fun D c acc A hD ha => ?_) (fun D hD => ?_)
          · walk_at "go"
            rw [in_step]
            exact ha
          · walk_at "go"
            have e2 := q _ (same_new hD (o := .lst ((r.map step4).map V.bl)))
            have hh : decide (r.length ≤ 1000) = true := decide_eq_true (by rw [List.length_cons] at h2; omega)
            simp only [codeB, hh, BEq.rfl, Bool.true_and, Bool.and_self] at e2
            rw [List.all_map]
            exact e2
def numV (l : List Nat) : V := if numB l = true then .int (NumText.digitsVal l : Nat) else .non
def spNum : Sp := fun vs H Q _ => ∃ l, vs = [.str (SX.S l)] ∧ l.length ≤ sizeLine ∧ ∀ H', Same H H' → Q (numV l) H'
abbrev s_read_number : Stmt := topS 17
abbrev N_read_number : List Str := ["text", "char"]
theorem sc_read_number : FnScope N_read_number ["text"] (defScope s_read_number) := ⟨rfl, rfl, rfl, by decide +kernel, rfl, by decide +kernel, by decide +kernel⟩
theorem ok_read_number {f : Addr} {fd : FuncData} (F : Fun K "read_number" "read_number" s_read_number f fd) (B : Bn mg) (C : Cn mg) : FnOk P w K mg base CX0 1 f fd ["text"] spNum := by
  refine F.ok sc_read_number (fun vs H Q E h => ?_) (fun cdv A outer s H vs Q E hr h => ?_)
  · obtain ⟨l, rfl, _⟩ := h
    rfl
  · obtain ⟨l, rfl, hl, q⟩ := h
    refine ⟨_, (pss_cons (ps_if (pw_or (pt_not (pt_chain u_le u_le pe_int (pe_callB (k_len (K := K) rfl) (by rfl) B.len (by decide +kernel) (pa_cons (pv 0) pa_nil)) (g_int C.MOST_DIGITS (by rfl)))) (pw_or1 (pt_not (k_truth (K := K) rfl (pe_callB (k_all (K := K) rfl) (by rfl) B.all (by decide +kernel) (pa_cons (pe_lc (own := [("char", 1)]) (by rfl) sc_read_number.nd (pi_str (pv 0)) (blkOk_by (N := N_read_number) (sc := defScope s_read_number) (by decide +kernel)) (fun _ _ _ _ _ => (pg_name (i := 1) sc_read_number.nd rfl (.inl rfl))) (fun _ _ _ _ _ => pts_nil) (fun _ _ _ _ _ => (pe_cmpR (k_in (K := K) rfl) (pv 1) (g_str C.DIGITS (by rfl)) rfl))) pa_nil)))))).pt
  (pss_one (ps_ret pe_non))
  pss_nil)
  (pss_cons (ps_if (pw_and (pt_cmpR (k_eq (K := K) rfl hr.units) (pe_ix (k_ix (K := K) rfl) (pv 0) pe_int (fun _ _ => rfl)) pe_str (nomark _)) (pw_and1 (pt_cmpR u_gt (pe_callB (k_len (K := K) rfl) (by rfl) B.len (by decide +kernel) (pa_cons (pv 0) pa_nil)) pe_int (nomark _)))).pt
  (pss_one (ps_ret pe_non))
  pss_nil)
  (pss_one (ps_ret (pe_callTy u_int (by rfl) B.int (by decide +kernel) (pa_cons (pv 0) pa_nil)))))), ?_⟩
    have no : ∀ H', Same H H' → numB l = false → Q .non H' := fun H' s h => by
      have e := q H' s
      unfold numV at e
      rw [h] at e
      exact e
    walk_at "go"
    have e : numB l = (decide (1 ≤ l.length) && decide (l.length ≤ 9) && l.all digt && (decide (l.length ≤ 1) || !(l.head? == some 48))) := rfl
    refine s_dec (fun h1 => ?_) (fun h1 => ?_)
    · walk_at "go"
      refine s_ndec (fun h2 => ?_) (fun h2 => ?_)
      · walk_at "go"
        exact no _ (Same.refl H) (by rw [e, decide_eq_false (p := l.length ≤ 9) (by omega), Bool.and_false, Bool.false_and, Bool.false_and])
      · walk_at "go"
        refine lc_chars digt rfl hl (fun D c acc A hD ha => ?_) (fun D hD => ?_)
        · walk_at "go"
          rw [in_digt]
          exact ha
        · walk_at "go"
          have sm := same_new hD (o := .lst ((l.map digt).map V.bl))
          refine s_nbool (fun h3 => ?_) (fun h3 => ?_)
          · walk_at "go"
            exact no _ sm (by rw [List.all_map] at h3; rw [e, show l.all digt = false from h3, Bool.and_false, Bool.false_and])
          · walk_at "go"
            have h3' : l.all digt = true := by rw [List.all_map] at h3; exact h3
            cases l with
            | nil => exact absurd h1 (by decide)
            | cons c r =>
              have hv : atI (c :: r) 0 = some c := at_ofN (j := 0) rfl rfl
              walk_at "go"
              have e0 : (SX.S [c] = (Str.ofString "0" : Str)) ↔ c = 48 := by
                show (SX.S [c] = SX.S [48]) ↔ _
                rw [S_eq]
                exact ⟨fun z => by cases z; rfl, fun z => by rw [z]⟩
              have fin : (c = 48 → ¬ (1 < (c :: r).length)) → Q (.int (NumText.digitsVal (c :: r) : Nat)) (upd H D (.lst (((c :: r).map digt).map V.bl))) := fun hz => by
                have e2 := q _ sm
                have e3 : numB (c :: r) = true := by
                  rw [e, h3', decide_eq_true (by omega), decide_eq_true (by omega)]
                  by_cases hc : c = 48
                  · have := hz hc
                    rw [decide_eq_true (by omega)]
                    rfl
                  · have : ((c :: r).head? == some 48) = false := beq_eq_false_iff_ne.mpr fun z => hc (Option.some.inj z)
                    rw [this]
                    simp
                unfold numV at e2
                rw [e3] at e2
                exact e2
              have hint : PySem.intText? (SX.S (c :: r)) = some ((NumText.digitsVal (c :: r) : Nat) : Int) := SX.int_S h3' (by simp) (by omega)
              have h640 : (SX.S (c :: r)).length ≤ 640 := by rw [SX.S_len]; omega
              refine s_dec (fun h4 => ?_) (fun h4 => ?_)
              · walk_at "go"
                refine s_dec (fun h5 => ?_) (fun h5 => ?_)
                · walk_at "go"
                  refine no _ sm ?_
                  have hc := e0.mp h4
                  subst hc
                  rw [e, decide_eq_false (p := (48 :: r).length ≤ 1) (by omega)]
                  simp
                · walk_at "go"
                  exact s_intS hint h640 (fin fun _ => by omega)
              · walk_at "go"
                exact s_intS hint h640 (fin fun z => absurd (e0.mpr z) h4)
    · walk_at "go"
      exact no _ (Same.refl H) (by rw [e, decide_eq_false (p := 1 ≤ l.length) (by omega), Bool.false_and, Bool.false_and, Bool.false_and])
def atV : Option F → V
  | some (.i n) => .int (n : Nat)
  | some (.s l) => .str (SX.S l)
  | _ => .non
def spAtom : Sp := fun vs H Q _ => ∃ l, vs = [.str (SX.S l)] ∧ l.length ≤ sizeLine ∧ ∀ H', Same H H' → Q (atV (atom l)) H'
structure O1 (P : Program) (w : World) (K : PySem.W.Frag) (mg : Str → Option Value) (base : Heap) : Prop where
  is_word : Has P w K mg base CX0 "is_word" ["form"] 1 (spB wordB)
  is_code : Has P w K mg base CX0 "is_code" ["form"] 1 (spB codeB)
  read_number : Has P w K mg base CX0 "read_number" ["text"] 1 spNum
abbrev s_read_atom : Stmt := topS 18
abbrev N_read_atom : List Str := ["text"]
theorem sc_read_atom : FnScope N_read_atom ["text"] (defScope s_read_atom) := ⟨rfl, rfl, rfl, by decide +kernel, rfl, by decide +kernel, by decide +kernel⟩
theorem ok_read_atom {f : Addr} {fd : FuncData} (F : Fun K "read_atom" "read_atom" s_read_atom f fd) (O : O1 P w K mg base) : FnOk P w K mg base CX0 2 f fd ["text"] spAtom := by
  refine F.ok sc_read_atom (fun vs H Q E h => ?_) (fun cdv A outer s H vs Q E hr h => ?_)
  · obtain ⟨l, rfl, _⟩ := h
    rfl
  · obtain ⟨l, rfl, hl, q⟩ := h
    refine ⟨_, (pss_cons (ps_if (pw_or (k_truth (K := K) rfl (pe_has O.is_word hr (by rfl) pass0 (pa_cons (pv 0) pa_nil))) (pw_or1 (k_truth (K := K) rfl (pe_has O.is_code hr (by rfl) pass0 (pa_cons (pv 0) pa_nil))))).pt
  (pss_one (ps_ret (pv 0)))
  pss_nil)
  (pss_one (ps_ret (pe_has O.read_number hr (by rfl) pass0 (pa_cons (pv 0) pa_nil))))), ?_⟩
    walk_at "go"
    refine ⟨l, rfl, hl, fun H1 s1 => ?_⟩
    walk_at "go"
    have str : ∀ H', Same H H' → (wordB l || codeB l) = true → Q (.str (SX.S l)) H' := fun H' s h => by
      have e2 := q H' s
      unfold atom at e2
      rw [if_pos h] at e2
      exact e2
    refine s_bool (fun h1 => ?_) (fun h1 => ?_)
    · walk_at "go"
      exact str _ s1 (by rw [h1]; rfl)
    · walk_at "go"
      refine ⟨l, rfl, hl, fun H2 s2 => ?_⟩
      walk_at "go"
      have s12 := s1.trans s2
      refine s_bool (fun h2 => ?_) (fun h2 => ?_)
      · walk_at "go"
        exact str _ s12 (by rw [h2, Bool.or_true])
      · walk_at "go"
        refine ⟨l, rfl, hl, fun H3 s3 => ?_⟩
        have e2 := q _ (s12.trans s3)
        unfold atom at e2
        rw [h1, h2] at e2
        unfold numV
        cases hn : numB l with
        | true =>
          rw [hn] at e2
          exact e2
        | false =>
          rw [hn] at e2
          exact e2
end
end K41
set_option maxRecDepth 100000
set_option maxHeartbeats 400000
namespace K41
open PySem PySem.Spec PyProof.Rows L2 J
local macro_rules | `(tactic| walk_at "ne") => `(tactic| first
  | with_reducible assumption
  | (apply Ne.symm; with_reducible assumption))
local macro_rules | `(tactic| walk_at "look") => `(tactic| first
  | with_reducible assumption
  | with_reducible exact upd_same
  | ((with_reducible refine' at_new ?ha ?hb); (case ha => with_reducible assumption); (case hb => walk_at "look"))
  | ((with_reducible refine' at_other ?ha ?hb); (case ha => walk_at "ne"); (case hb => walk_at "look"))
  | ((with_reducible refine' same_at ?ha ?hb); (case ha => with_reducible assumption); (case hb => walk_at "look")))
local macro_rules | `(tactic| walk_at "sq") => `(tactic| first
  | with_reducible assumption
  | ((with_reducible refine' SqL.of ?ha); (case ha => walk_at "look"))
  | ((with_reducible refine' sq_put ?ha ?hb); (case hb => walk_at "ne"); (case ha => walk_at "sq"))
  | ((with_reducible refine' sq_new ?ha ?hb); (case hb => with_reducible assumption); (case ha => walk_at "sq"))
  | ((with_reducible refine' sq_same ?ha ?hb); (case hb => with_reducible assumption); (case ha => walk_at "sq")))
local macro_rules | `(tactic| walk_at "qt") => `(tactic| first
  | with_reducible assumption
  | ((with_reducible refine' SqT.of ?ha); (case ha => walk_at "look")))
local macro_rules | `(tactic| walk_at "atI") => `(tactic| first
  | with_reducible assumption
  | exact rfl)
local macro_rules | `(tactic| walk_at "go") => `(tactic| repeat (first
  | ((with_reducible refine' s_var ?hv ?_); (case hv => exact rfl))
  | with_reducible refine s_c ?_
  | with_reducible refine s_op ?_
  | with_reducible refine s_test ?_
  | with_reducible refine s_ex ?_
  | with_reducible refine s_seq ?_
  | with_reducible refine s_asg ?_
  | with_reducible refine s_name ?_
  | with_reducible refine s_if ?_
  | with_reducible refine s_next ?_
  | with_reducible refine s_cb ?_
  | with_reducible refine s_call ?_
  | with_reducible refine s_cons ?_
  | with_reducible refine s_nil ?_
  | with_reducible refine s_and ?_
  | with_reducible refine s_or ?_
  | with_reducible refine s_not ?_
  | with_reducible refine s_chain ?_
  | with_reducible refine s_andV ?_
  | with_reducible refine s_orV ?_
  | with_reducible refine s_un ?_
  | with_reducible refine s_drop ?_
  | with_reducible refine s_ret ?_
  | with_reducible refine s_retN ?_
  | with_reducible refine s_gsub ?_
  | with_reducible refine s_tup ?_
  | with_reducible refine s_lst ?_
  | with_reducible refine s_bm ?_
  | with_reducible refine s_bm0 ?_
  | with_reducible refine s_sl ?_
  | with_reducible refine s_nopart ?_
  | with_reducible refine s_part ?_
  | with_reducible refine s_exi ?_
  | with_reducible refine s_cont ?_
  | with_reducible refine s_break ?_
  | with_reducible refine s_ifE ?_
  | with_reducible refine s_m1 ?_
  | with_reducible refine iteT ?_
  | with_reducible refine iteF ?_
  | with_reducible refine s_iteNT ?_
  | with_reducible refine s_iteNF ?_
  | with_reducible refine s_addI ?_
  | with_reducible refine s_I1 ?_
  | with_reducible refine s_eqI ?_
  | with_reducible refine s_eqS ?_
  | with_reducible refine s_eqB ?_
  | with_reducible refine s_neI ?_
  | with_reducible refine s_neS ?_
  | with_reducible refine s_neg ?_
  | with_reducible refine s_is ?_
  | with_reducible refine s_isnt ?_
  | with_reducible refine s_intI ?_
  | with_reducible refine s_intB ?_
  | with_reducible refine s_strS ?_
  | with_reducible refine s_tyS ?_
  | with_reducible refine s_exS ?_
  | ((with_reducible refine' s_ty ?hs ?_); (case hs => walk_at "look"))
  | with_reducible refine s_abs ?_
  | ((with_reducible refine' s_append ?hs ?hl ?_); (case hs => walk_at "look"); (case hl => first | assumption | omega | (simp only [List.length_append, List.length_cons, List.length_nil, List.length_map]; omega)))
  | ((with_reducible refine' s_popS ?hs ?_); (case hs => walk_at "look"))
  | ((with_reducible refine' s_strN ?hs ?_); (case hs => assumption))
  | with_reducible refine s_iRev ?_
  | with_reducible refine s_xf ?_
  | with_reducible refine s_rz ?_
  | with_reducible refine s_callS ?_
  | with_reducible refine s_repl ?_
  | with_reducible refine s_rg1 ?_
  | with_reducible refine isi_ss ?_
  | with_reducible refine s_tru ?_
  | with_reducible refine s_truB ?_
  | ((with_reducible refine' s_truL ?hs ?_); (case hs => walk_at "sq"))
  | with_reducible refine isi_is ?_
  | with_reducible refine isi_st ?_
  | with_reducible refine isi_it ?_
  | ((with_reducible refine' isi_tt ?hs ?_); (case hs => walk_at "look"))
  | with_reducible refine s_lc ?_
  | with_reducible refine s_forS ?_
  | with_reducible refine i_str ?_
  | with_reducible refine i_list ?_
  | with_reducible refine i_tup ?_
  | with_reducible refine s_exx ?_
  | with_reducible refine s_inS ?_
  | with_reducible refine s_ninS ?_
  | ((with_reducible refine' s_slTake ?hs ?hk ?_); (case hs => first | assumption | omega); (case hk => first | decide | omega))
  | ((with_reducible refine' s_slDrop ?hs ?hk ?_); (case hs => first | assumption | omega); (case hk => first | decide | omega))
  | ((with_reducible refine' s_slMid ?hs ?hk ?hk2 ?_); (case hs => first | assumption | omega); (case hk => first | decide | omega); (case hk2 => first | decide | omega))
  | ((with_reducible refine' s_ixX ?hs ?he ?_); (case hs => first | assumption | omega); (case he => walk_at "atI"))
  | ((with_reducible refine' s_lenX ?hs ?_); (case hs => first | assumption | omega))
  | ((with_reducible refine' s_all ?hs ?_); (case hs => walk_at "sq"))
  | with_reducible refine s_max ?_
  | with_reducible refine s_min ?_
  | ((with_reducible refine' s_ixL ?hs ?he ?_); (case hs => walk_at "sq"); (case he => walk_at "atI"))
  | ((with_reducible refine' s_ixT ?hs ?he ?_); (case hs => walk_at "qt"); (case he => walk_at "atI"))
  | ((with_reducible refine' s_lenL ?hs ?_); (case hs => walk_at "sq"))
  | ((with_reducible refine' s_lenT ?hs ?_); (case hs => walk_at "qt"))
  | ((with_reducible refine' s_setL ?hs ?he ?_); (case hs => walk_at "look"); (case he => walk_at "atI"))
  | ((with_reducible refine' s_mulI ?hs ?_); (case hs => first | exact .inr ⟨by decide, by decide⟩ | exact .inl ⟨by decide, by decide⟩ | assumption | exact .inl ⟨by omega, by omega⟩ | exact .inr ⟨by omega, by omega⟩))
  | ((with_reducible refine' s_I2 ?hs ?_); (case hs => first | assumption | exact (by decide) | exact ⟨by decide, by decide⟩ | exact ⟨by decide, by decide, by decide⟩))))

theorem wts_len : ∀ fs : List F, fs.length ≤ wts fs
  | [] => Nat.zero_le _
  | f :: r => by
    have h1 := wt_pos f
    have h2 := wts_len r
    simp only [wts, List.length_cons]
    omega
theorem wts_drop : ∀ (fs : List F) (k : Nat), wts (fs.drop k) ≤ wts fs
  | [], _ => by rw [List.drop_nil]; exact Nat.le_refl _
  | f :: r, 0 => Nat.le_refl _
  | f :: r, k + 1 => by
    have h := wts_drop r k
    rw [List.drop_succ_cons]
    simp only [wts]
    omega
/-- ahead of a turn of form_text: pieces at a, what waits at b -/
def FT (H : Hp) (f : F) (v : V) (a b : Addr) (n : Nat) (σ : Fs) (H' : Hp) : Prop := ∃ (y3 y4 : Option V) (ps : List (List Nat)) (ws : List F) (vs : List V), σ = [some v, some (.ref a), some (.ref b), y3, y4] ∧
  H' a = some (.lst (ps.map stV)) ∧ H' b = some (.lst vs) ∧ Fms H' vs ws ∧ sns ws ∧ ps.flatten ++ rtx ws = tx f ∧ ps.length + wsum ws ≤ wt f ∧ n = wsum ws ∧ Same H H'
/-- within the inner loop, i turns done: the tuple's parts from its i-th last on wait -/
def FI (H : Hp) (f : F) (v : V) (a b : Addr) (ps : List (List Nat)) (ws : List F) (fs : List F) (part : Addr) (i : Nat) (σ : Fs) (H' : Hp) : Prop := ∃ (y4 : Option V) (us : List F) (vs xs : List V), σ = [some v, some (.ref a), some (.ref b), some (.ref part), y4] ∧
  H' a = some (.lst (ps.map stV)) ∧ H' b = some (.lst vs) ∧ H' part = some (.tup xs) ∧ Fms H' xs fs ∧ Fms H' vs (ws ++ us) ∧ sns us ∧ i ≤ fs.length ∧
  rtx us = (if i = fs.length then txs fs else txr (fs.drop (fs.length - i))) ++ [41] ∧ wsum us ≤ 1 + wts (fs.drop (fs.length - i)) ∧ Same H H'
def spFT : Sp := fun vs H Q _ => ∃ v f, vs = [v] ∧ Fm H v f ∧ sn f ∧ (tx f).length ≤ 2000000 ∧ ∀ H', Same H H' → Q (.str (SX.S (tx f))) H'
theorem snoc_cases' (l : List F) : l = [] ∨ ∃ a d, l = a ++ [d] := by
  rcases List.eq_nil_or_concat l with h | ⟨a, d, h⟩
  · exact .inl h
  · exact .inr ⟨a, d, by rw [h, List.concat_eq_append]⟩
section
variable {P : Program} {w : World} {K : PySem.W.Frag} {mg : Str → Option Value} {base : Heap}
abbrev s_form_text : Stmt := topS 19
abbrev N_form_text : List Str := ["form", "pieces", "waiting", "part", "at"]
theorem sc_form_text : FnScope N_form_text ["form"] (defScope s_form_text) := ⟨rfl, rfl, rfl, by decide +kernel, rfl, by decide +kernel, by decide +kernel⟩
theorem ok_form_text {f : Addr} {fd : FuncData} (F : Fun K "form_text" "form_text" s_form_text f fd) (B : Bn mg) : FnOk P w K mg base CX0 1 f fd ["form"] spFT := by
  refine F.ok sc_form_text (fun vs H Q E h => ?_) (fun cdv A outer s H vs Q E hr h => ?_)
  · obtain ⟨v, f, rfl, _⟩ := h
    rfl
  · obtain ⟨v, f, rfl, hf, hsn, hz, q⟩ := h
    have sz : sizeLine = 16777216 := sizeLine_eq
    refine ⟨_, (pss_cons (ps_set (i := 1) sc_form_text.nd rfl (.inl rfl) (pe_lst pa_nil))
  (pss_cons (ps_set (i := 2) sc_form_text.nd rfl (.inl rfl) (pe_lst (pa_cons (pv 0) pa_nil)))
  (pss_cons (ps_while PassesOwn.never (k_truth (K := K) rfl (pv 2))
  (pss_cons (ps_set (i := 3) sc_form_text.nd rfl (.inl rfl) (pe_bm0 PySem.F.plainAttrs_list PySem.F.slot_list_pop PySem.F.type_list_pop mt_pop (pv 2)))
  (pss_one (ps_if (k_truth (K := K) rfl (pe_callB (k_isinstance (K := K) rfl) (by rfl) B.isinstance (by decide +kernel) (pa_cons (pv 3) (pa_cons (pe_bltn (v := .ty "tuple") (by rfl) B.tuple (by decide +kernel) rfl) pa_nil))))
  (pss_cons (ps_expr (pe_bm PySem.F.plainAttrs_list PySem.F.slot_list_append PySem.F.type_list_append mt_append (pv 1) (pa_cons pe_str pa_nil)))
  (pss_cons (ps_expr (pe_bm PySem.F.plainAttrs_list PySem.F.slot_list_append PySem.F.type_list_append mt_append (pv 2) (pa_cons pe_str pa_nil)))
  (pss_one (ps_for PassesOwn.never rfl (pi_revR (by rfl) B.reversed (prg_1 (by rfl) B.range (pe_callB (k_len (K := K) rfl) (by rfl) B.len (by decide +kernel) (pa_cons (pv 3) pa_nil)))) (pg_name (i := 4) sc_form_text.nd rfl (.inl rfl))
  (pss_cons (ps_expr (pe_bm PySem.F.plainAttrs_list PySem.F.slot_list_append PySem.F.type_list_append mt_append (pv 2) (pa_cons (pe_ix (k_ix (K := K) rfl) (pv 3) (pv 4) (fun _ _ => rfl)) pa_nil)))
  (pss_one (ps_if (pt_cmpR u_gt (pv 4) pe_int (nomark _))
  (pss_one (ps_expr (pe_bm PySem.F.plainAttrs_list PySem.F.slot_list_append PySem.F.type_list_append mt_append (pv 2) (pa_cons pe_str pa_nil))))
  pss_nil)))))))
  (pss_one (ps_expr (pe_bm PySem.F.plainAttrs_list PySem.F.slot_list_append PySem.F.type_list_append mt_append (pv 1) (pa_cons (pe_callTy u_str (by rfl) B.str (by decide +kernel) (pa_cons (pv 3) pa_nil)) pa_nil))))))))
  (pss_one (ps_ret (k_join (K := K) rfl pe_str (pv 1))))))), ?_⟩
    walk_at "go"
    refine ⟨Nat.zero_le _, fun a ha => ?_⟩
    walk_at "go"
    refine ⟨(by show 1 ≤ sizeLine; omega), fun b hb => ?_⟩
    have hab : b ≠ a := fun z => by subst z; rw [upd_same] at hb; cases hb
    have hb0 : H b = none := by rw [upd_ne hab] at hb; exact hb
    walk_at "go"
    have wf := wt_tx f
    refine while_go (FT H f v a b) ⟨wt f, none, none, [], [f], [v], rfl, at_other (Ne.symm hab) upd_same, upd_same, ?_, ?_, ?_, ?_, ?_, ?_⟩ (fun n σ H1 h => ?_)
    · exact .cons (Fm.kept (((Tp.refl H).new ha).new hb) f v hf) .nil
    · exact ⟨hsn, trivial⟩
    · show [] ++ rtx ([] ++ [f]) = _
      rw [rtx_snoc]
      simp [rtx]
    · show 0 + wsum ([] ++ [f]) ≤ _
      rw [wsum_snoc]
      simp [wsum]
    · show _ = wsum ([] ++ [f])
      rw [wsum_snoc]
      simp [wsum]
    · exact same_mut (same_new ha) hb0
    · obtain ⟨y3, y4, ps, ws, vs, rfl, h1, h2, h3, h4, h5, h6, h7, h8⟩ := h
      rcases snoc_cases' ws with rfl | ⟨ws, g, rfl⟩
      · cases h3
        walk_at "go"
        rw [show (!([] : List V).isEmpty) = false from rfl]
        walk_at "go"
        refine s_joinL (ls := ps) (SqL.of h1) ?_ ?_
        · rw [show ps.flatten = tx f by rw [← h5]; simp [rtx]]
          show _ + ps.length * 0 ≤ _
          omega
        · have e : TL.tl (Str.ofString "") = [] := rfl
          rw [e, joinL_nil, show ps.flatten = tx f by rw [← h5]; simp [rtx]]
          exact q _ h8
      · obtain ⟨vs, u, rfl, h31, h32⟩ := Fms.last h3
        obtain ⟨h41, h42⟩ := sns_app.mp h4
        have h42' : sn g := by simp only [sns] at h42; exact h42.1
        have hw := wt_pos g
        rw [wsum_snoc] at h6 h7
        rw [rtx_snoc] at h5
        have hlen := h31.len
        have hwl := wsum_len ws
        have he : (!(vs ++ [u]).isEmpty) = true := by cases vs <;> rfl
        walk_at "go"
        rw [he]
        refine iteT (s_turn ?_)
        walk_at "go"
        have leaf : ∀ (l : List Nat) (y3 : Option V), tx g = l → ∃ m, m < n ∧ FT H f v a b m [some v, some (V.ref a), some (V.ref b), y3, y4] (upd (upd H1 b (HO.lst vs)) a (HO.lst (ps.map stV ++ [stV l]))) := fun l y3 e => by
          refine ⟨wsum ws, by omega, y3, y4, ps ++ [l], ws, vs, rfl, ?_, ?_, ?_, h41, ?_, ?_, rfl, ?_⟩
          · rw [upd_same, List.map_append]
            rfl
          · exact at_other hab upd_same
          · exact Fms.kept (((Tp.refl H1).put h2).put (at_other (Ne.symm hab) h1)) ws vs h31
          · rw [← h5, ← e]
            simp
          · rw [List.length_append, List.length_singleton]
            omega
          · exact same_mut (same_mut h8 hb0) ha
        cases g with
        | i k =>
          cases h32
          have hlog := int_log h42'
          walk_at "go"
          exact leaf _ _ (by simp only [tx])
        | s l =>
          cases h32
          walk_at "go"
          exact leaf _ _ (by simp only [tx])
        | t fs =>
          cases h32 with
          | t hp hx =>
            rename_i part xs
            have hpb : part ≠ b := ne_of hp h2 (by intro z; cases z)
            have hpa : part ≠ a := ne_of hp h1 (by intro z; cases z)
            have hxl := hx.len
            have hfl : fs.length ≤ wts fs := wts_len fs
            have hwe : wt (.t fs) = 2 + wts fs := by simp only [wt]
            have hn : (((xs.length : Nat) : Int) - 0).toNat = fs.length := by omega
            have tp0 : Tp H1 (upd (upd (upd H1 b (HO.lst vs)) a (HO.lst (List.map stV ps ++ [V.str (Str.ofString "(")]))) b (HO.lst (vs ++ [V.str (Str.ofString ")")]))) :=
              (((Tp.refl H1).put h2).put (at_other (Ne.symm hab) h1)).put (xs := vs) (at_other hab upd_same)
            walk_at "go"
            refine ⟨by decide, by decide, by omega, by omega, ?_⟩
            rw [hn]
            refine for_go (E := ⟨_, _, _, _⟩) (P := fun _ => True) yl_rgc (FI H f v a b (ps ++ [[40]]) ws fs part) (fun _ _ _ _ => trivial) ?_ (fun i σ H2 x hi hil hx2 => ?_) (fun σ H2 hi => ?_)
            · refine ⟨y4, [.s [41]], _, xs, rfl, ?_, upd_same, ?_, ?_, ?_, ?_, Nat.zero_le _, ?_, ?_, ?_⟩
              · rw [upd_ne (Ne.symm hab), upd_same, List.map_append]
                rfl
              · exact at_other hpb (at_other hpa (at_other hpb hp))
              · exact Fms.kept tp0 fs xs hx
              · exact Fms.snoc (Fms.kept tp0 ws vs h31) (.s [41])
              · exact ⟨trivial, trivial⟩
              · rw [Nat.sub_zero, List.drop_length]
                by_cases hf0 : 0 = fs.length
                · rw [if_pos hf0, List.length_eq_zero_iff.mp hf0.symm]
                  simp [rtx, tx, txs]
                · rw [if_neg hf0]
                  simp [rtx, tx, txr]
              · simp [wsum, wt]
              · exact same_mut (same_mut (same_mut h8 hb0) ha) hb0
            · obtain ⟨y4, us, vs2, xs2, rfl, g1, g2, g3, g4, g5, g6, g7, g8, g9, g10⟩ := hi
              rw [rgU_len] at hil
              have hx3 : x = V.int ((0 : Int) + ((fs.length : Nat) : Int) - 1 + ((i : Nat) : Int) * (-1)) := by
                rw [rgU_at hil] at hx2
                exact (Option.some.inj hx2).symm
              have hx4 : x = V.int (((fs.length - 1 - i : Nat)) : Int) := by
                rw [hx3]
                congr 1
                omega
              subst hx4
              have hk : fs[fs.length - 1 - i]? = some fs[fs.length - 1 - i] := List.getElem?_eq_getElem (by omega)
              generalize fs[fs.length - 1 - i] = e at hk
              obtain ⟨u, hu, hue⟩ := Fms.at g4 hk
              have hat : atI xs2 (((fs.length - 1 - i : Nat)) : Int) = some u := at_ofN rfl hu
              have hl2 := g5.len
              rw [List.length_append] at hl2
              have hus := wsum_len us
              have hwd : wts (fs.drop (fs.length - i)) ≤ wts fs := wts_drop fs _
              have hdr : fs.drop (fs.length - (i + 1)) = e :: fs.drop (fs.length - i) := by
                have z := drop_cons hk
                rw [show fs.length - (i + 1) = fs.length - 1 - i by omega, z, show fs.length - 1 - i + 1 = fs.length - i by omega]
              have hwd2 : wts (fs.drop (fs.length - (i + 1))) = wt e + 1 + wts (fs.drop (fs.length - i)) := by
                rw [hdr]
                simp only [wts]
              have hse : sn e := sns_at (by simp only [sn] at h42'; exact h42') hk
              have hrt : rtx us = txr (fs.drop (fs.length - i)) ++ [41] := by rw [g8, if_neg (by omega)]
              walk_at "go"
              have tp1 : Tp H2 (upd H2 b (.lst (vs2 ++ [u]))) := (Tp.refl H2).put g2
              refine s_dec (fun hp0 => ?_) (fun hp0 => ?_)
              · walk_at "go"
                have tp2 := tp1.put (o := .lst (vs2 ++ [u] ++ [V.str (SX.S [32])])) upd_same
                refine ⟨_, us ++ [e] ++ [.s [32]], _, xs2, rfl, at_other (Ne.symm hab) (at_other (Ne.symm hab) g1), upd_same, at_other hpb (at_other hpb g3), Fms.kept tp2 fs xs2 g4, ?_, ?_, by omega, ?_, ?_, same_mut (same_mut g10 hb0) hb0⟩
                · rw [← List.append_assoc, ← List.append_assoc]
                  exact Fms.snoc (Fms.snoc (Fms.kept tp2 _ _ g5) (Fm.kept tp2 _ _ hue)) (.s [32])
                · exact sns_app.mpr ⟨sns_app.mpr ⟨g6, ⟨hse, trivial⟩⟩, ⟨trivial, trivial⟩⟩
                · rw [if_neg (by omega), rtx_snoc, rtx_snoc, hrt, hdr]
                  simp [tx, txr]
                · rw [wsum_snoc, wsum_snoc, hwd2]
                  simp only [wt]
                  omega
              · walk_at "go"
                refine ⟨_, us ++ [e], _, xs2, rfl, at_other (Ne.symm hab) g1, upd_same, at_other hpb g3, Fms.kept tp1 fs xs2 g4, ?_, ?_, by omega, ?_, ?_, same_mut g10 hb0⟩
                · rw [← List.append_assoc]
                  exact Fms.snoc (Fms.kept tp1 _ _ g5) (Fm.kept tp1 _ _ hue)
                · exact sns_app.mpr ⟨g6, ⟨hse, trivial⟩⟩
                · have hi1 : i + 1 = fs.length := by omega
                  have hfs : fs = e :: fs.drop (fs.length - i) := by
                    rw [← hdr, hi1, Nat.sub_self, List.drop_zero]
                  rw [if_pos hi1, rtx_snoc, hrt]
                  have ht : txs fs = tx e ++ txr (fs.drop (fs.length - i)) := by
                    conv => lhs; rw [hfs]
                    simp only [txs]
                  rw [ht, List.append_assoc]
                · rw [wsum_snoc, hwd2]
                  omega
            · obtain ⟨y4, us, vs2, xs2, rfl, g1, g2, g3, g4, g5, g6, g7, g8, g9, g10⟩ := hi
              rw [rgU_len] at g8 g9
              rw [if_pos rfl] at g8
              rw [Nat.sub_self, List.drop_zero] at g9
              refine ⟨wsum (ws ++ us), ?_, some (.ref part), y4, ps ++ [[40]], ws ++ us, vs2, rfl, g1, g2, g5, sns_app.mpr ⟨h41, g6⟩, ?_, ?_, rfl, g10⟩
              · simp only [wsum, List.map_append, List.sum_append] at *
                omega
              · rw [← h5]
                have e1 : rtx (ws ++ us) = rtx us ++ rtx ws := by simp [rtx]
                rw [e1, g8]
                simp [tx]
              · simp only [wsum, List.map_append, List.sum_append, List.length_append, List.length_singleton] at *
                omega
end
end K41
set_option maxRecDepth 100000
set_option maxHeartbeats 400000
namespace K41
open PySem PySem.Spec PyProof.Rows L2 J
local macro_rules | `(tactic| walk_at "ne") => `(tactic| first
  | with_reducible assumption
  | (apply Ne.symm; with_reducible assumption))
local macro_rules | `(tactic| walk_at "look") => `(tactic| first
  | with_reducible assumption
  | with_reducible exact upd_same
  | ((with_reducible refine' at_new ?ha ?hb); (case ha => with_reducible assumption); (case hb => walk_at "look"))
  | ((with_reducible refine' at_other ?ha ?hb); (case ha => walk_at "ne"); (case hb => walk_at "look"))
  | ((with_reducible refine' same_at ?ha ?hb); (case ha => with_reducible assumption); (case hb => walk_at "look")))
local macro_rules | `(tactic| walk_at "sq") => `(tactic| first
  | with_reducible assumption
  | ((with_reducible refine' SqL.of ?ha); (case ha => walk_at "look"))
  | ((with_reducible refine' sq_put ?ha ?hb); (case hb => walk_at "ne"); (case ha => walk_at "sq"))
  | ((with_reducible refine' sq_new ?ha ?hb); (case hb => with_reducible assumption); (case ha => walk_at "sq"))
  | ((with_reducible refine' sq_same ?ha ?hb); (case hb => with_reducible assumption); (case ha => walk_at "sq")))
local macro_rules | `(tactic| walk_at "qt") => `(tactic| first
  | with_reducible assumption
  | ((with_reducible refine' SqT.of ?ha); (case ha => walk_at "look")))
local macro_rules | `(tactic| walk_at "atI") => `(tactic| first
  | with_reducible assumption
  | exact rfl)
local macro_rules | `(tactic| walk_at "go") => `(tactic| repeat (first
  | ((with_reducible refine' s_var ?hv ?_); (case hv => exact rfl))
  | with_reducible refine s_c ?_
  | with_reducible refine s_op ?_
  | with_reducible refine s_test ?_
  | with_reducible refine s_ex ?_
  | with_reducible refine s_seq ?_
  | with_reducible refine s_asg ?_
  | with_reducible refine s_name ?_
  | with_reducible refine s_if ?_
  | with_reducible refine s_next ?_
  | with_reducible refine s_cb ?_
  | with_reducible refine s_call ?_
  | with_reducible refine s_cons ?_
  | with_reducible refine s_nil ?_
  | with_reducible refine s_and ?_
  | with_reducible refine s_or ?_
  | with_reducible refine s_not ?_
  | with_reducible refine s_chain ?_
  | with_reducible refine s_andV ?_
  | with_reducible refine s_orV ?_
  | with_reducible refine s_un ?_
  | with_reducible refine s_drop ?_
  | with_reducible refine s_ret ?_
  | with_reducible refine s_retN ?_
  | with_reducible refine s_gsub ?_
  | with_reducible refine s_tup ?_
  | with_reducible refine s_lst ?_
  | with_reducible refine s_bm ?_
  | with_reducible refine s_bm0 ?_
  | with_reducible refine s_sl ?_
  | with_reducible refine s_nopart ?_
  | with_reducible refine s_part ?_
  | with_reducible refine s_exi ?_
  | with_reducible refine s_cont ?_
  | with_reducible refine s_break ?_
  | with_reducible refine s_ifE ?_
  | with_reducible refine s_m1 ?_
  | with_reducible refine iteT ?_
  | with_reducible refine iteF ?_
  | with_reducible refine s_iteNT ?_
  | with_reducible refine s_iteNF ?_
  | with_reducible refine s_addI ?_
  | with_reducible refine s_I1 ?_
  | with_reducible refine s_eqI ?_
  | with_reducible refine s_eqS ?_
  | with_reducible refine s_eqB ?_
  | with_reducible refine s_neI ?_
  | with_reducible refine s_neS ?_
  | with_reducible refine s_neg ?_
  | with_reducible refine s_is ?_
  | with_reducible refine s_isnt ?_
  | with_reducible refine s_intI ?_
  | with_reducible refine s_intB ?_
  | with_reducible refine s_strS ?_
  | with_reducible refine s_tyS ?_
  | with_reducible refine s_exS ?_
  | ((with_reducible refine' s_ty ?hs ?_); (case hs => walk_at "look"))
  | with_reducible refine s_abs ?_
  | ((with_reducible refine' s_append ?hs ?hl ?_); (case hs => walk_at "look"); (case hl => first | assumption | omega | (simp only [List.length_append, List.length_cons, List.length_nil, List.length_map]; omega)))
  | ((with_reducible refine' s_popS ?hs ?_); (case hs => walk_at "look"))
  | ((with_reducible refine' s_strN ?hs ?_); (case hs => assumption))
  | with_reducible refine s_iRev ?_
  | with_reducible refine s_xf ?_
  | with_reducible refine s_rz ?_
  | with_reducible refine s_callS ?_
  | with_reducible refine s_repl ?_
  | with_reducible refine s_rg1 ?_
  | with_reducible refine isi_ss ?_
  | with_reducible refine s_tru ?_
  | with_reducible refine s_truB ?_
  | ((with_reducible refine' s_truL ?hs ?_); (case hs => walk_at "sq"))
  | with_reducible refine isi_is ?_
  | with_reducible refine isi_st ?_
  | with_reducible refine isi_it ?_
  | ((with_reducible refine' isi_tt ?hs ?_); (case hs => walk_at "look"))
  | with_reducible refine s_lc ?_
  | with_reducible refine s_forS ?_
  | with_reducible refine i_str ?_
  | with_reducible refine i_list ?_
  | with_reducible refine i_tup ?_
  | with_reducible refine s_exx ?_
  | with_reducible refine s_inS ?_
  | with_reducible refine s_ninS ?_
  | ((with_reducible refine' s_slTake ?hs ?hk ?_); (case hs => first | assumption | omega); (case hk => first | decide | omega))
  | ((with_reducible refine' s_slDrop ?hs ?hk ?_); (case hs => first | assumption | omega); (case hk => first | decide | omega))
  | ((with_reducible refine' s_slMid ?hs ?hk ?hk2 ?_); (case hs => first | assumption | omega); (case hk => first | decide | omega); (case hk2 => first | decide | omega))
  | ((with_reducible refine' s_ixX ?hs ?he ?_); (case hs => first | assumption | omega); (case he => walk_at "atI"))
  | ((with_reducible refine' s_lenX ?hs ?_); (case hs => first | assumption | omega))
  | ((with_reducible refine' s_all ?hs ?_); (case hs => walk_at "sq"))
  | with_reducible refine s_max ?_
  | with_reducible refine s_min ?_
  | ((with_reducible refine' s_ixL ?hs ?he ?_); (case hs => walk_at "sq"); (case he => walk_at "atI"))
  | ((with_reducible refine' s_ixT ?hs ?he ?_); (case hs => walk_at "qt"); (case he => walk_at "atI"))
  | ((with_reducible refine' s_lenL ?hs ?_); (case hs => walk_at "sq"))
  | ((with_reducible refine' s_lenT ?hs ?_); (case hs => walk_at "qt"))
  | ((with_reducible refine' s_setL ?hs ?he ?_); (case hs => walk_at "look"); (case he => walk_at "atI"))
  | ((with_reducible refine' s_mulI ?hs ?_); (case hs => first | exact .inr ⟨by decide, by decide⟩ | exact .inl ⟨by decide, by decide⟩ | assumption | exact .inl ⟨by omega, by omega⟩ | exact .inr ⟨by omega, by omega⟩))
  | ((with_reducible refine' s_I2 ?hs ?_); (case hs => first | assumption | exact (by decide) | exact ⟨by decide, by decide⟩ | exact ⟨by decide, by decide, by decide⟩))))

/-- what the reader hands back -/
def PV (H : Hp) (r : Option F) (v : V) : Prop := match r with
  | none => v = .non
  | some f => Fm H v f
def spParsed : Sp := fun vs H Q _ => ∃ l, vs = [.str (SX.S l)] ∧ l.length ≤ 100000 ∧ ∀ v H', Same H H' → PV H' (parseP 40 5000 l) v → Q v H'
structure O2 (P : Program) (w : World) (K : PySem.W.Frag) (mg : Str → Option Value) (base : Heap) : Prop where
  read_atom : Has P w K mg base CX0 "read_atom" ["text"] 2 spAtom
  form_text : Has P w K mg base CX0 "form_text" ["form"] 1 spFT
section
variable {P : Program} {w : World} {K : PySem.W.Frag} {mg : Str → Option Value} {base : Heap}
abbrev s_parsed : Stmt := topS 20
abbrev N_parsed : List Str := ["text", "unclosed", "piece", "entries", "atom", "form"]
theorem sc_parsed : FnScope N_parsed ["text"] (defScope s_parsed) := ⟨rfl, rfl, rfl, by decide +kernel, rfl, by decide +kernel, by decide +kernel⟩
theorem ok_parsed {f : Addr} {fd : FuncData} (Fn : Fun K "parsed" "parsed" s_parsed f fd) (B : Bn mg) (C : Cn mg) (O : O2 P w K mg base) : FnOk P w K mg base CX0 3 f fd ["text"] spParsed := by
  refine okT Fn sc_parsed (by decide +kernel) (by decide) (fun vs H Q E h => ?_) (fun cdv A outer s H vs Q E hr h => ?_)
  · obtain ⟨l, rfl, _⟩ := h
    rfl
  · obtain ⟨l, rfl, hl, q⟩ := h
    have sz : sizeLine = 16777216 := sizeLine_eq
    refine ⟨_, (psst_cons (PST.of (ps_set (i := 1) sc_parsed.nd rfl (.inl rfl) (pe_lst (pa_cons (pe_lst pa_nil) pa_nil))))
  (psst_cons (pst_for PassesOwn.never rfl (L2.pit_list (pet_split (CwR.pet_replT (CwR.pet_replT (CwR.PET.of (pv 0)))) pe_str)) (pg_name (i := 2) sc_parsed.nd rfl (.inl rfl))
  (pss_cons (ps_if (pt_cmpR (k_eq (K := K) rfl hr.units) (pv 2) pe_str (nomark _))
  (pss_one (ps_expr (pe_bm PySem.F.plainAttrs_list PySem.F.slot_list_append PySem.F.type_list_append mt_append (pv 1) (pa_cons (pe_lst pa_nil) pa_nil))))
  (pss_one (ps_if (pt_cmpR (k_eq (K := K) rfl hr.units) (pv 2) pe_str (nomark _))
  (pss_cons (ps_if (pw_or (pt_cmpR (k_eq (K := K) rfl hr.units) (pe_callB (k_len (K := K) rfl) (by rfl) B.len (by decide +kernel) (pa_cons (pv 1) pa_nil)) pe_int (nomark _)) (pw_or1 (pt_cmpR u_gt (pe_callB (k_len (K := K) rfl) (by rfl) B.len (by decide +kernel) (pa_cons (pe_ix (k_ix (K := K) rfl) (pv 1) (pe_un u_neg pe_int) (fun _ _ => rfl)) pa_nil)) (g_int C.MOST_ENTRIES (by rfl)) (nomark _)))).pt
  (pss_one (ps_ret pe_non))
  pss_nil)
  (pss_cons (ps_set (i := 3) sc_parsed.nd rfl (.inl rfl) (pe_bm0 PySem.F.plainAttrs_list PySem.F.slot_list_pop PySem.F.type_list_pop mt_pop (pv 1)))
  (pss_one (ps_expr (pe_bm PySem.F.plainAttrs_list PySem.F.slot_list_append PySem.F.type_list_append mt_append (pe_ix (k_ix (K := K) rfl) (pv 1) (pe_un u_neg pe_int) (fun _ _ => rfl)) (pa_cons (pe_callTy (k_tuple (K := K) rfl) (by rfl) B.tuple (by decide +kernel) (pa_cons (pv 3) pa_nil)) pa_nil))))))
  (pss_one (ps_if (pt_cmpR (k_ne (K := K) rfl hr.units) (pv 2) pe_str (nomark _))
  (pss_cons (ps_set (i := 4) sc_parsed.nd rfl (.inl rfl) (pe_has O.read_atom hr (by rfl) pass0 (pa_cons (pv 2) pa_nil)))
  (pss_cons (ps_if (pt_cmpR u_is (pv 4) pe_non (nomark _))
  (pss_one (ps_ret pe_non))
  pss_nil)
  (pss_one (ps_expr (pe_bm PySem.F.plainAttrs_list PySem.F.slot_list_append PySem.F.type_list_append mt_append (pe_ix (k_ix (K := K) rfl) (pv 1) (pe_un u_neg pe_int) (fun _ _ => rfl)) (pa_cons (pv 4) pa_nil))))))
  pss_nil)))))
  (pss_one (ps_if (pt_cmpR u_gt (pe_callB (k_len (K := K) rfl) (by rfl) B.len (by decide +kernel) (pa_cons (pv 1) pa_nil)) (pe_op (k_add (K := K) rfl) (g_int C.MOST_NESTED (by rfl)) pe_int) (nomark _))
  (pss_one (ps_ret pe_non))
  pss_nil))))
  (PSsT.of (pss_cons (ps_if (pw_or (pt_cmpR u_gt (pe_callB (k_len (K := K) rfl) (by rfl) B.len (by decide +kernel) (pa_cons (pv 1) pa_nil)) pe_int (nomark _)) (pw_or1 (pt_cmpR (k_ne (K := K) rfl hr.units) (pe_callB (k_len (K := K) rfl) (by rfl) B.len (by decide +kernel) (pa_cons (pe_ix (k_ix (K := K) rfl) (pv 1) pe_int (fun _ _ => rfl)) pa_nil)) pe_int (nomark _)))).pt
  (pss_one (ps_ret pe_non))
  pss_nil)
  (pss_cons (ps_set (i := 5) sc_parsed.nd rfl (.inl rfl) (pe_ix (k_ix (K := K) rfl) (pe_ix (k_ix (K := K) rfl) (pv 1) pe_int (fun _ _ => rfl)) pe_int (fun _ _ => rfl)))
  (pss_cons (ps_if (pt_cmpR (k_ne (K := K) rfl hr.units) (pe_has O.form_text hr (by rfl) pass0 (pa_cons (pv 5) pa_nil)) (pv 0) (nomark _))
  (pss_one (ps_ret pe_non))
  pss_nil)
  (pss_one (ps_ret (pv 5))))))))), ?_⟩
    walk_at "go"
    refine ⟨Nat.zero_le _, fun a0 ha0 => ?_⟩
    walk_at "go"
    refine ⟨by show 1 ≤ sizeLine; omega, fun u hu => ?_⟩
    have hua : u ≠ a0 := fun z => by subst z; rw [upd_same] at hu; cases hu
    have hu0 : H u = none := by rw [upd_ne hua] at hu; exact hu
    walk_at "go"
    have z1 : (Str.ofString " ( ").length = 3 := rfl
    have z2 : (Str.ofString " ) ").length = 3 := rfl
    have z3 : (SX.S l).length = l.length := SX.S_len l
    have r1 : Txt.replace (SX.S l) (Str.ofString "(") (Str.ofString " ( ") = SX.S (StrLaws.replL [40] [32, 40, 32] l) := replS (by decide)
    have r2 : Txt.replace (SX.S (StrLaws.replL [40] [32, 40, 32] l)) (Str.ofString ")") (Str.ofString " ) ") = SX.S (l.flatMap ex) := by
      rw [replS (by decide), ← repl2]
      rfl
    have n1 := TK.replace_len (SX.S l) (Str.ofString "(") (Str.ofString " ( ")
    have n2 := TK.replace_len (SX.S (StrLaws.replL [40] [32, 40, 32] l)) (Str.ofString ")") (Str.ofString " ) ")
    rw [r1, z1, z3] at n1
    rw [r2, z2] at n2
    refine ⟨by rw [z1, z3]; omega, _, rfl, ?_⟩
    rw [r1]
    refine ⟨by rw [z2]; omega, ⟨_, rfl⟩, ?_⟩
    walk_at "go"
    rw [r2]
    refine ⟨_, _, rfl, rfl, rfl, by omega, fun p hp => ?_⟩
    rw [split_vals, spl_tk]
    have hpu : p ≠ u := fun z => by subst z; rw [upd_same] at hp; cases hp
    rw [upd_ne hpu] at hp
    have hpa : p ≠ a0 := fun z => by subst z; rw [upd_same] at hp; cases hp
    have hp0 : H p = none := by rw [upd_ne hpa] at hp; exact hp
    refine ⟨p, rfl, ⟨_, SqL.of upd_same⟩, ?_⟩
    have none_ : ∀ H', Same H H' → parseP 40 5000 l = none → Q .non H' := fun H' s h => q _ _ s (by rw [h]; rfl)
    refine for_go (P := fun H' => H' p = some (.lst ((tk [] l).map stV))) (yl_list fun H' h => SqL.of h)
      (fun i σ H' => ∃ (y2 y3 y4 : Option V) (as : List Addr) (st : List (List F)), σ = [some (.str (SX.S l)), some (.ref u), y2, y3, y4, none] ∧ H' u = some (.lst (rfs as)) ∧ Stk H' as st ∧ u ∉ as ∧ (∀ a ∈ as, H a = none) ∧ Same H H' ∧
        runP 40 5000 [[]] ((tk [] l).take i) = some st ∧ 1 ≤ st.length ∧ st.length ≤ 41 ∧ H' p = some (.lst ((tk [] l).map stV)) ∧ p ∉ as)
      (fun i σ H' h => ?_) ?_ (fun i σ H1 x hi hil hx => ?_) (fun σ H1 hi => ?_)
    · obtain ⟨_, _, _, _, _, _, _, _, _, _, _, _, _, _, h, _⟩ := h
      exact h
    · refine ⟨none, none, none, [a0], [[]], rfl, at_other (Ne.symm hpu) upd_same, .cons (at_other (Ne.symm hpa) (at_other (Ne.symm hua) upd_same)) .nil (by simp) .nil, ?_, ?_, ?_, rfl, by simp, by simp, upd_same, ?_⟩
      · simpa using hua
      · intro a ha
        rw [List.mem_singleton.mp ha]
        exact ha0
      · exact same_mut (same_mut (same_new ha0) hu0) hp0
      · simpa using hpa
    · obtain ⟨y2, y3, y4, as, st, rfl, g1, g2, g3, g4, g5, g6, g7, g8, g9, g10⟩ := hi
      rw [List.length_map] at hil
      obtain ⟨w, hw⟩ : ∃ w, (tk [] l)[i]? = some w := ⟨_, List.getElem?_eq_getElem hil⟩
      have hxw : x = stV w := by
        rw [List.getElem?_map, hw] at hx
        exact (Option.some.inj hx).symm
      subst hxw
      have hal := g2.len
      have hwl : w.length ≤ sizeLine := by
        have a1 := szT_at hw
        have a2 := tk_sz l []
        simp only [List.length_nil] at a2
        omega
      have hrl : (rfs as).length = as.length := rfs_len as
      have e40 : (SX.S w = Str.ofString "(") ↔ w = [40] := S_eq (a := w) (b := [40])
      have e41 : (SX.S w = Str.ofString ")") ↔ w = [41] := S_eq (a := w) (b := [41])
      have e0 : (SX.S w = Str.ofString "") ↔ w = [] := S_eq (a := w) (b := [])
      walk_at "go"
      refine s_dec (fun h1 => ?_) (fun h1 => ?_)
      · have hw1 := e40.mp h1
        subst hw1
        walk_at "go"
        refine ⟨Nat.zero_le _, fun d hd => ?_⟩
        have hdu : d ≠ u := fun z => by subst z; rw [g1] at hd; cases hd
        have hdp : d ≠ p := fun z => by subst z; rw [g9] at hd; cases hd
        have hda : d ∉ as := fun z => by
          obtain ⟨vs, e⟩ := g2.at z
          rw [e] at hd
          cases hd
        have hd0 : H d = none := g5.free hd
        walk_at "go"
        refine s_dec (fun h2 => ?_) (fun h2 => ?_)
        · walk_at "go"
          refine none_ _ (same_mut (same_mut g5 hd0) hu0) (parse_stop hw g6 ?_)
          rw [step_open, if_neg]
          simp only [List.length_append, List.length_cons, List.length_nil] at h2
          omega
        · walk_at "go"
          have hst : st.length + 1 ≤ 41 := by
            simp only [List.length_append, List.length_cons, List.length_nil] at h2
            omega
          have t1 : Tp H1 (upd (upd H1 d (HO.lst [])) u (HO.lst (rfs as ++ [V.ref d]))) := ((Tp.refl H1).new hd).put (at_other (Ne.symm hdu) g1)
          refine ⟨_, _, _, d :: as, [] :: st, rfl, ?_, .cons (at_other hdu upd_same) .nil hda (g2.kept t1 fun a ha => ?_), ?_, ?_, same_mut (same_mut g5 hd0) hu0, ?_, ?_, ?_, ?_, ?_⟩
          · rw [upd_same, rfs_cons]
          · have n1 : a ≠ u := fun z => g3 (z ▸ ha)
            have n2 : a ≠ d := fun z => hda (z ▸ ha)
            rw [upd_ne n1, upd_ne n2]
          · simp only [List.mem_cons, not_or]
            exact ⟨Ne.symm hdu, g3⟩
          · intro a ha
            rcases List.mem_cons.mp ha with ha | ha
            · rw [ha]
              exact hd0
            · exact g4 a ha
          · rw [run_more hw g6, step_open, if_pos hst]
          · simp
          · simpa using hst
          · exact at_other hpu (at_other (Ne.symm hdp) g9)
          · simp only [List.mem_cons, not_or]
            exact ⟨Ne.symm hdp, g10⟩
      · walk_at "go"
        refine s_dec (fun h2 => ?_) (fun h2 => ?_)
        · have hw1 := e41.mp h2
          subst hw1
          walk_at "go"
          refine s_dec (fun h3 => ?_) (fun h3 => ?_)
          · walk_at "go"
            exact none_ _ g5 (parse_stop hw g6 (step_close1 (by omega)))
          · cases g2 with
            | nil => exact absurd g7 (by decide)
            | cons ea fa na g2 =>
              rename_i a as vs top st
              have hau : a ≠ u := fun z => g3 (by rw [z]; exact List.mem_cons_self ..)
              have hvl := fa.len
              cases g2 with
              | nil => exact absurd rfl h3
              | cons eb fb nb g2 =>
                rename_i b as vb nxt st
                rw [rfs_cons] at g1
                have hat := atI_last (rfs (b :: as)) (V.ref a)
                have hbu : b ≠ u := fun z => g3 (by rw [z]; simp)
                have hba : b ≠ a := fun z => na (by rw [z]; simp)
                have hbl := fb.len
                walk_at "go"
                refine s_dec (fun h4 => ?_) (fun h4 => ?_)
                · walk_at "go"
                  refine none_ _ g5 (parse_stop hw g6 ?_)
                  rw [step_close (by simpa using g8), if_neg (by omega)]
                · walk_at "go"
                  rw [rfs_cons]
                  have hat2 := atI_last (rfs as) (V.ref b)
                  walk_at "go"
                  refine s_tupL (SqL.of (at_other hau ea)) (fun d hd => ?_)
                  have hdu : d ≠ u := fun z => by subst z; rw [upd_same] at hd; cases hd
                  have hd1 : H1 d = none := by rw [upd_ne hdu] at hd; exact hd
                  have hdb : d ≠ b := fun z => by subst z; rw [eb] at hd1; cases hd1
                  have hdp : d ≠ p := fun z => by subst z; rw [g9] at hd1; cases hd1
                  have hd0 : H d = none := g5.free hd1
                  have hst : st.length + 2 ≤ 41 := g8
                  have hbp : b ≠ p := fun z => g10 (by rw [← z]; simp)
                  have hb0 : H b = none := g4 b (by simp)
                  have fb' := fb.len
                  have h50 : top.length ≤ 5000 := by omega
                  have vbl : vb.length ≤ 2 * 300100 := by
                    have := run_sz g6
                    have t1 := tk_sz l []
                    have t2 := szT_take (tk [] l) i
                    have t3 := txr_ge nxt
                    simp only [szS, txr, List.length_nil] at this t1
                    omega
                  walk_at "go"
                  refine s_dec (fun h5 => ?_) (fun h5 => ?_)
                  · simp only [List.length_append, rfs_len, List.length_cons, List.length_nil] at h5 hal
                    omega
                  · walk_at "go"
                    have s1 := same_mut (same_mut (same_mut g5 hu0 (o := .lst (rfs as ++ [V.ref b]))) hd0 (o := .tup vs)) hb0 (o := .lst (vb ++ [V.ref d]))
                    have t1 : Tp H1 (upd (upd H1 u (HO.lst (rfs as ++ [V.ref b]))) d (HO.tup vs)) := ((Tp.refl H1).put g1).new hd
                    have k2 : Stk (upd (upd H1 u (HO.lst (rfs as ++ [V.ref b]))) d (HO.tup vs)) (b :: as) (nxt :: st) := (Stk.cons eb fb nb g2).kept t1 fun c hc => by
                      have n1 : c ≠ u := fun z => g3 (by rw [← z]; exact List.mem_cons_of_mem _ hc)
                      obtain ⟨_, ec⟩ := (Stk.cons eb fb nb g2).at hc
                      have n2 : c ≠ d := fun z => by subst z; rw [ec] at hd1; cases hd1
                      rw [upd_ne n2, upd_ne n1]
                    refine ⟨_, _, _, b :: as, (nxt ++ [.t top]) :: st, rfl, ?_, k2.push (at_other (Ne.symm hdb) (at_other hbu eb)) (.t upd_same (Fms.kept t1 _ _ fa)), ?_, ?_, s1, ?_, ?_, ?_, ?_, ?_⟩
                    · rw [rfs_cons]
                      exact at_other (Ne.symm hbu) (at_other (Ne.symm hdu) upd_same)
                    · exact fun z => g3 (List.mem_cons_of_mem _ z)
                    · exact fun c hc => g4 c (List.mem_cons_of_mem _ hc)
                    · rw [run_more hw g6, step_close hst, if_pos h50]
                    · simp
                    · show st.length + 1 ≤ 41
                      omega
                    · exact at_other (Ne.symm hbp) (at_other (Ne.symm hdp) (at_other hpu g9))
                    · exact fun z => g10 (List.mem_cons_of_mem _ z)
        · have n40 : w ≠ [40] := fun z => h1 (e40.mpr z)
          have n41 : w ≠ [41] := fun z => h2 (e41.mpr z)
          walk_at "go"
          refine s_ndec (fun h3 => ?_) (fun h3 => ?_)
          · have n0 : w ≠ [] := fun z => h3 (e0.mpr z)
            walk_at "go"
            refine ⟨w, rfl, hwl, fun H2 s2 => ?_⟩
            have t2 := Tp.of s2
            have stp := step_atom n40 n41 n0 g8
            cases hat : atom w with
            | none =>
              rw [hat] at stp
              walk_at "go"
              refine s_dec (fun h4 => ?_) (fun h4 => absurd rfl h4)
              walk_at "go"
              exact none_ _ (g5.trans s2) (parse_stop hw g6 stp)
            | some f =>
              rw [hat] at stp
              obtain ⟨hA, hfx⟩ := atom_sound hat
              obtain ⟨v, hv, hvf⟩ : ∃ v, atV (some f) = v ∧ (v ≠ .non ∧ ∀ H', Fm H' v f) := by
                cases f with
                | i n => exact ⟨_, rfl, (by intro z; cases z), fun _ => .i n⟩
                | s l => exact ⟨_, rfl, (by intro z; cases z), fun _ => .s l⟩
                | t _ => exact hA.elim
              rw [hv]
              walk_at "go"
              refine s_dec (fun h4 => absurd h4 hvf.1) (fun h4 => ?_)
              cases g2 with
              | nil => exact absurd g7 (by decide)
              | cons ea fa na g2 =>
                rename_i a as vs top st
                rw [rfs_cons] at g1
                have hat2 := atI_last (rfs as) (V.ref a)
                have hau : a ≠ u := fun z => g3 (by rw [z]; exact List.mem_cons_self ..)
                have hap : p ≠ a := fun z => g10 (by rw [z]; exact List.mem_cons_self ..)
                have ha0' : H a = none := g4 a (List.mem_cons_self ..)
                have ea2 := s2 _ _ ea
                have gu2 := s2 _ _ g1
                have gp2 := s2 _ _ g9
                have fl := fa.len
                have vbl : vs.length ≤ 2 * 300100 := by
                  have := run_sz g6
                  have t1 := tk_sz l []
                  have t2 := szT_take (tk [] l) i
                  have t3 := txr_ge top
                  simp only [szS, txr, List.length_nil] at this t1
                  omega
                walk_at "go"
                refine s_dec (fun h5 => ?_) (fun h5 => ?_)
                · simp only [List.length_append, rfs_len, List.length_cons, List.length_nil] at h5 g8 hal
                  omega
                · walk_at "go"
                  have k2 : Stk H2 (a :: as) (top :: st) := (Stk.cons ea fa na g2).kept t2 fun c hc => by
                    obtain ⟨_, ec⟩ := (Stk.cons ea fa na g2).at hc
                    rw [ec]
                    exact s2 _ _ ec
                  refine ⟨_, _, _, a :: as, (top ++ [f]) :: st, rfl, ?_, k2.push ea2 (hvf.2 H2), g3, g4, same_mut (g5.trans s2) ha0', ?_, ?_, ?_, ?_, g10⟩
                  · rw [rfs_cons]
                    exact at_other (Ne.symm hau) gu2
                  · rw [run_more hw g6, stp]
                    rfl
                  · simp
                  · exact g8
                  · exact at_other hap gp2
          · have n0 : w = [] := e0.mp h3
            subst n0
            walk_at "go"
            refine s_dec (fun h5 => ?_) (fun h5 => ?_)
            · omega
            · walk_at "go"
              exact ⟨_, _, _, as, st, rfl, g1, g2, g3, g4, g5, by rw [run_more hw g6, stepC_nil g8], g7, g8, g9, g10⟩
    · obtain ⟨y2, y3, y4, as, st, rfl, g1, g2, g3, g4, g5, g6, g7, g8, g9, g10⟩ := hi
      rw [List.length_map, List.take_length] at g6
      have hal := g2.len
      have hrl : (rfs as).length = as.length := rfs_len as
      walk_at "go"
      refine s_dec (fun h1 => ?_) (fun h1 => ?_)
      · walk_at "go"
        refine none_ _ g5 (parse_not g6 fun f z => ?_)
        rw [z] at hal
        simp only [List.length_cons, List.length_nil] at hal
        omega
      · cases g2 with
        | nil => exact absurd g7 (by decide)
        | cons ea fa na g2 =>
          rename_i a as vs top st
          cases g2 with
          | cons eb fb nb g2 =>
            simp only [List.length_cons] at hrl h1
            omega
          | nil =>
            have fl := fa.len
            have g1' : H1 u = some (.lst [V.ref a]) := g1
            have hat : atI [V.ref a] 0 = some (V.ref a) := at_ofN (j := 0) rfl rfl
            walk_at "go"
            refine s_ndec (fun h2 => ?_) (fun h2 => ?_)
            · walk_at "go"
              refine none_ _ g5 (parse_not g6 fun f z => h2 ?_)
              cases z
              rw [fl]
              rfl
            · match top, fl, fa, g6 with
              | [], fl, _, _ => rw [fl] at h2; exact absurd h2 (by decide)
              | g :: g' :: r, fl, _, _ => rw [fl] at h2; simp only [List.length_cons] at h2; omega
              | [f], fl, fa, g6 =>
                obtain ⟨v, rfl, hv⟩ := fa.one
                have hat2 : atI [v] 0 = some v := at_ofN (j := 0) rfl rfl
                have sok := (run_ok (M := 40) (E := 5000) (st := [[]]) ⟨by simp only [oks], trivial⟩ (by simp) g6).1
                simp only [oks] at sok
                have hok : ok 5000 f 40 := sok.1
                have hsz := one_sz g6
                walk_at "go"
                refine ⟨v, f, rfl, hv, sn_ok f 40 hok, by omega, fun H2 s2 => ?_⟩
                walk_at "go"
                refine s_ndec (fun h3 => ?_) (fun h3 => ?_)
                · walk_at "go"
                  refine none_ _ (g5.trans s2) ?_
                  unfold parseP
                  rw [g6]
                  exact if_neg fun z => h3 (by rw [z])
                · walk_at "go"
                  refine q _ _ (g5.trans s2) ?_
                  have e : parseP 40 5000 l = some f := parse_iff.mpr ⟨hok, SX.S_inj h3⟩
                  rw [e]
                  exact Fm.kept (Tp.of s2) f v hv
end
end K41
set_option maxRecDepth 100000
set_option maxHeartbeats 400000
namespace K41
open PySem PySem.Spec PyProof.Rows L2 J
local macro_rules | `(tactic| walk_at "ne") => `(tactic| first
  | with_reducible assumption
  | (apply Ne.symm; with_reducible assumption))
local macro_rules | `(tactic| walk_at "look") => `(tactic| first
  | with_reducible assumption
  | with_reducible exact upd_same
  | ((with_reducible refine' at_new ?ha ?hb); (case ha => with_reducible assumption); (case hb => walk_at "look"))
  | ((with_reducible refine' at_other ?ha ?hb); (case ha => walk_at "ne"); (case hb => walk_at "look"))
  | ((with_reducible refine' same_at ?ha ?hb); (case ha => with_reducible assumption); (case hb => walk_at "look")))
local macro_rules | `(tactic| walk_at "sq") => `(tactic| first
  | with_reducible assumption
  | ((with_reducible refine' SqL.of ?ha); (case ha => walk_at "look"))
  | ((with_reducible refine' sq_put ?ha ?hb); (case hb => walk_at "ne"); (case ha => walk_at "sq"))
  | ((with_reducible refine' sq_new ?ha ?hb); (case hb => with_reducible assumption); (case ha => walk_at "sq"))
  | ((with_reducible refine' sq_same ?ha ?hb); (case hb => with_reducible assumption); (case ha => walk_at "sq")))
local macro_rules | `(tactic| walk_at "qt") => `(tactic| first
  | with_reducible assumption
  | ((with_reducible refine' SqT.of ?ha); (case ha => walk_at "look")))
local macro_rules | `(tactic| walk_at "atI") => `(tactic| first
  | with_reducible assumption
  | exact rfl)
local macro_rules | `(tactic| walk_at "go") => `(tactic| repeat (first
  | ((with_reducible refine' s_var ?hv ?_); (case hv => exact rfl))
  | with_reducible refine s_c ?_
  | with_reducible refine s_op ?_
  | with_reducible refine s_test ?_
  | with_reducible refine s_ex ?_
  | with_reducible refine s_seq ?_
  | with_reducible refine s_asg ?_
  | with_reducible refine s_name ?_
  | with_reducible refine s_if ?_
  | with_reducible refine s_next ?_
  | with_reducible refine s_cb ?_
  | with_reducible refine s_call ?_
  | with_reducible refine s_cons ?_
  | with_reducible refine s_nil ?_
  | with_reducible refine s_and ?_
  | with_reducible refine s_or ?_
  | with_reducible refine s_not ?_
  | with_reducible refine s_chain ?_
  | with_reducible refine s_andV ?_
  | with_reducible refine s_orV ?_
  | with_reducible refine s_un ?_
  | with_reducible refine s_drop ?_
  | with_reducible refine s_ret ?_
  | with_reducible refine s_retN ?_
  | with_reducible refine s_gsub ?_
  | with_reducible refine s_tup ?_
  | with_reducible refine s_lst ?_
  | with_reducible refine s_bm ?_
  | with_reducible refine s_bm0 ?_
  | with_reducible refine s_sl ?_
  | with_reducible refine s_nopart ?_
  | with_reducible refine s_part ?_
  | with_reducible refine s_exi ?_
  | with_reducible refine s_cont ?_
  | with_reducible refine s_break ?_
  | with_reducible refine s_ifE ?_
  | with_reducible refine s_m1 ?_
  | with_reducible refine iteT ?_
  | with_reducible refine iteF ?_
  | with_reducible refine s_iteNT ?_
  | with_reducible refine s_iteNF ?_
  | with_reducible refine s_addI ?_
  | with_reducible refine s_I1 ?_
  | with_reducible refine s_eqI ?_
  | with_reducible refine s_eqS ?_
  | with_reducible refine s_eqB ?_
  | with_reducible refine s_neI ?_
  | with_reducible refine s_neS ?_
  | with_reducible refine s_neg ?_
  | with_reducible refine s_is ?_
  | with_reducible refine s_isnt ?_
  | with_reducible refine s_intI ?_
  | with_reducible refine s_intB ?_
  | with_reducible refine s_strS ?_
  | with_reducible refine s_tyS ?_
  | with_reducible refine s_exS ?_
  | ((with_reducible refine' s_ty ?hs ?_); (case hs => walk_at "look"))
  | with_reducible refine s_abs ?_
  | ((with_reducible refine' s_append ?hs ?hl ?_); (case hs => walk_at "look"); (case hl => first | assumption | omega | (simp only [List.length_append, List.length_cons, List.length_nil, List.length_map]; omega)))
  | ((with_reducible refine' s_popS ?hs ?_); (case hs => walk_at "look"))
  | ((with_reducible refine' s_strN ?hs ?_); (case hs => assumption))
  | with_reducible refine s_iRev ?_
  | with_reducible refine s_xf ?_
  | with_reducible refine s_rz ?_
  | with_reducible refine s_callS ?_
  | with_reducible refine s_repl ?_
  | with_reducible refine s_rg1 ?_
  | with_reducible refine isi_ss ?_
  | with_reducible refine s_tru ?_
  | with_reducible refine s_truB ?_
  | ((with_reducible refine' s_truL ?hs ?_); (case hs => walk_at "sq"))
  | with_reducible refine isi_is ?_
  | with_reducible refine isi_st ?_
  | with_reducible refine isi_it ?_
  | ((with_reducible refine' isi_tt ?hs ?_); (case hs => walk_at "look"))
  | with_reducible refine s_lc ?_
  | with_reducible refine s_forS ?_
  | with_reducible refine i_str ?_
  | with_reducible refine i_list ?_
  | with_reducible refine i_tup ?_
  | with_reducible refine s_exx ?_
  | with_reducible refine s_inS ?_
  | with_reducible refine s_ninS ?_
  | ((with_reducible refine' s_slTake ?hs ?hk ?_); (case hs => first | assumption | omega); (case hk => first | decide | omega))
  | ((with_reducible refine' s_slDrop ?hs ?hk ?_); (case hs => first | assumption | omega); (case hk => first | decide | omega))
  | ((with_reducible refine' s_slMid ?hs ?hk ?hk2 ?_); (case hs => first | assumption | omega); (case hk => first | decide | omega); (case hk2 => first | decide | omega))
  | ((with_reducible refine' s_ixX ?hs ?he ?_); (case hs => first | assumption | omega); (case he => walk_at "atI"))
  | ((with_reducible refine' s_lenX ?hs ?_); (case hs => first | assumption | omega))
  | ((with_reducible refine' s_all ?hs ?_); (case hs => walk_at "sq"))
  | with_reducible refine s_max ?_
  | with_reducible refine s_min ?_
  | ((with_reducible refine' s_ixL ?hs ?he ?_); (case hs => walk_at "sq"); (case he => walk_at "atI"))
  | ((with_reducible refine' s_ixT ?hs ?he ?_); (case hs => walk_at "qt"); (case he => walk_at "atI"))
  | ((with_reducible refine' s_lenL ?hs ?_); (case hs => walk_at "sq"))
  | ((with_reducible refine' s_lenT ?hs ?_); (case hs => walk_at "qt"))
  | ((with_reducible refine' s_setL ?hs ?he ?_); (case hs => walk_at "look"); (case he => walk_at "atI"))
  | ((with_reducible refine' s_mulI ?hs ?_); (case hs => first | exact .inr ⟨by decide, by decide⟩ | exact .inl ⟨by decide, by decide⟩ | assumption | exact .inl ⟨by omega, by omega⟩ | exact .inr ⟨by omega, by omega⟩))
  | ((with_reducible refine' s_I2 ?hs ?_); (case hs => first | assumption | exact (by decide) | exact ⟨by decide, by decide⟩ | exact ⟨by decide, by decide, by decide⟩))))

structure Xs (P : Program) (w : World) (K : PySem.W.Frag) (mg : Str → Option Value) (base : Heap) (CS CT : Addr) : Prop where
  SizeError : ExOk P w K mg base "SizeError" CS "count" 1
  TextError : ExOk P w K mg base "TextError" CT "line" 1
  tt : PySem.W.exmOne K (.ref CT) (.ref CT) = some true
  st : PySem.W.exmOne K (.ref CS) (.ref CT) = some false
  ss : PySem.W.exmOne K (.ref CS) (.ref CS) = some true
def spLC (CS : Addr) : Sp := fun vs H Q E => ∃ c a b : Int, vs = [.int c, .int a, .int b] ∧ (a ≤ c ∧ c ≤ b → Q .non H) ∧ (¬ (a ≤ c ∧ c ≤ b) → ∀ d, H d = none → E (.ref CS) (some d) (upd H d (.xd [("count", .int c)])))
/-- read_form: a form, or one of the two errors -/
def spRF (CS CT : Addr) : Sp := fun vs H Q E => ∃ l, vs = [.str (SX.S l)] ∧ l.length ≤ 1000000 ∧ (100000 < l.length → ∀ d H', Same H H' → H' d = some (.xd [("count", .int l.length)]) → E (.ref CS) (some d) H') ∧
  (l.length ≤ 100000 → parseP 40 5000 l = none → ∀ d H', Same H H' → H' d = some (.xd [("line", .int 1)]) → E (.ref CT) (some d) H') ∧
  (∀ f v H', l.length ≤ 100000 → parseP 40 5000 l = some f → Same H H' → Fm H' v f → Q v H')
structure O3 (P : Program) (w : World) (K : PySem.W.Frag) (mg : Str → Option Value) (base : Heap) (CS : Addr) : Prop where
  looked_count : Has P w K mg base (L2.CX P w) "looked_count" ["count", "low", "high"] 3 (spLC CS)
  parsed : Has P w K mg base CX0 "parsed" ["text"] 3 spParsed
/-- told: [the form], ('text', 1) or ('size', count) -/
def TV (H : Hp) (l : List Nat) (v : V) : Prop := ∃ a, v = .ref a ∧ (if 100000 < l.length then H a = some (.tup [.str "size", .int l.length]) else match parseP 40 5000 l with
  | none => H a = some (.tup [.str "text", .int 1])
  | some f => ∃ u, H a = some (.lst [u]) ∧ Fm H u f)
def spTold : Sp := fun vs H Q _ => ∃ l, vs = [.str (SX.S l)] ∧ l.length ≤ 1000000 ∧ ∀ v H', Same H H' → TV H' l v → Q v H'
section
variable {P : Program} {w : World} {K : PySem.W.Frag} {mg : Str → Option Value} {base : Heap} {CS CT : Addr}
abbrev s_looked_count : Stmt := topS 4
abbrev N_looked_count : List Str := ["count", "low", "high"]
theorem sc_looked_count : FnScope N_looked_count ["count", "low", "high"] (defScope s_looked_count) := ⟨rfl, rfl, rfl, by decide +kernel, rfl, by decide +kernel, by decide +kernel⟩
theorem ok_looked_count {f : Addr} {fd : FuncData} (Fn : Fun K "looked_count" "looked_count" s_looked_count f fd) (XC : Xs P w K mg base CS CT) : FnOk P w K mg base (L2.CX P w) 3 f fd ["count", "low", "high"] (spLC CS) := by
  refine Fn.okX sc_looked_count (fun vs H Q E h => ?_) (fun cdv A outer s H vs Q E hr h => ?_)
  · obtain ⟨c, a, b, rfl, _⟩ := h
    rfl
  · obtain ⟨c, a, b, rfl, q, x⟩ := h
    have tk := takes_of (X := cxOf (L2.CX P w) P w K mg base N_looked_count "looked_count" (defScope s_looked_count) f cdv A outer s H E) rfl rfl rfl rfl
    refine ⟨_, (pss_one (ps_if (pt_not (pt_chain u_le u_le (pv 1) (pv 0) (pv 2)))
  (pss_one (ps_rz XC.SizeError hr rfl tk (by rfl) (pv 0)))
  pss_nil)), ?_⟩
    walk_at "go"
    refine s_dec (fun h1 => ?_) (fun h1 => ?_)
    · walk_at "go"
      refine s_ndec (fun h2 => ?_) (fun h2 => ?_)
      · walk_at "go"
        intro d hd
        exact x (fun z => h2 z.2) d hd
      · walk_at "go"
        exact q ⟨h1, h2⟩
    · walk_at "go"
      intro d hd
      exact x (fun z => h1 z.1) d hd
abbrev s_read_form : Stmt := topS 21
abbrev N_read_form : List Str := ["text", "form"]
theorem sc_read_form : FnScope N_read_form ["text"] (defScope s_read_form) := ⟨rfl, rfl, rfl, by decide +kernel, rfl, by decide +kernel, by decide +kernel⟩
theorem ok_read_form {f : Addr} {fd : FuncData} (Fn : Fun K "read_form" "read_form" s_read_form f fd) (XC : Xs P w K mg base CS CT) (B : Bn mg) (C : Cn mg) (O : O3 P w K mg base CS) : FnOk P w K mg base (L2.CX P w) 4 f fd ["text"] (spRF CS CT) := by
  refine Fn.okX sc_read_form (fun vs H Q E h => ?_) (fun cdv A outer s H vs Q E hr h => ?_)
  · obtain ⟨l, rfl, _⟩ := h
    rfl
  · obtain ⟨l, rfl, hl, x1, x2, q⟩ := h
    have sz : sizeLine = 16777216 := sizeLine_eq
    have tk := takes_of (X := cxOf (L2.CX P w) P w K mg base N_read_form "read_form" (defScope s_read_form) f cdv A outer s H E) rfl rfl rfl rfl
    refine ⟨_, (pss_cons (ps_expr (pe_hasX O.looked_count hr (by rfl) tk (pa_cons (pe_callB (k_len (K := K) rfl) (by rfl) B.len (by decide +kernel) (pa_cons (pv 0) pa_nil)) (pa_cons pe_int (pa_cons (g_int C.MOST_TEXT (by rfl)) pa_nil)))))
  (pss_cons (ps_set (i := 1) sc_read_form.nd rfl (.inl rfl) (pe_has O.parsed hr (by rfl) pass0 (pa_cons (pv 0) pa_nil)))
  (pss_cons (ps_if (pt_cmpR u_is (pv 1) pe_non (nomark _))
  (pss_one (ps_rz XC.TextError hr rfl tk (by rfl) pe_int))
  pss_nil)
  (pss_one (ps_ret (pv 1)))))), ?_⟩
    walk_at "go"
    refine ⟨_, _, _, rfl, fun h1 => ?_, fun h1 d hd => x1 (by omega) d _ (same_new hd) upd_same⟩
    have hl2 : l.length ≤ 100000 := by omega
    walk_at "go"
    refine ⟨l, rfl, hl2, fun v H1 s1 hv => ?_⟩
    walk_at "go"
    cases hp : parseP 40 5000 l with
    | none =>
      rw [hp] at hv
      have hv' : v = .non := hv
      subst hv'
      refine s_dec (fun h4 => ?_) (fun h4 => absurd rfl h4)
      walk_at "go"
      exact fun d hd => x2 hl2 hp d _ (same_mut s1 (s1.free hd)) upd_same
    | some f =>
      rw [hp] at hv
      have hv' : Fm H1 v f := hv
      refine s_dec (fun h4 => ?_) (fun h4 => ?_)
      · subst h4
        cases hv'
      · walk_at "go"
        exact q f v H1 hl2 hp s1 hv'
end
end K41
set_option maxRecDepth 100000
set_option maxHeartbeats 400000
namespace K41
open PySem PySem.Spec PyProof.Rows L2 J
local macro_rules | `(tactic| walk_at "ne") => `(tactic| first
  | with_reducible assumption
  | (apply Ne.symm; with_reducible assumption))
local macro_rules | `(tactic| walk_at "look") => `(tactic| first
  | with_reducible assumption
  | with_reducible exact upd_same
  | ((with_reducible refine' at_new ?ha ?hb); (case ha => with_reducible assumption); (case hb => walk_at "look"))
  | ((with_reducible refine' at_other ?ha ?hb); (case ha => walk_at "ne"); (case hb => walk_at "look"))
  | ((with_reducible refine' same_at ?ha ?hb); (case ha => with_reducible assumption); (case hb => walk_at "look")))
local macro_rules | `(tactic| walk_at "sq") => `(tactic| first
  | with_reducible assumption
  | ((with_reducible refine' SqL.of ?ha); (case ha => walk_at "look"))
  | ((with_reducible refine' sq_put ?ha ?hb); (case hb => walk_at "ne"); (case ha => walk_at "sq"))
  | ((with_reducible refine' sq_new ?ha ?hb); (case hb => with_reducible assumption); (case ha => walk_at "sq"))
  | ((with_reducible refine' sq_same ?ha ?hb); (case hb => with_reducible assumption); (case ha => walk_at "sq")))
local macro_rules | `(tactic| walk_at "qt") => `(tactic| first
  | with_reducible assumption
  | ((with_reducible refine' SqT.of ?ha); (case ha => walk_at "look")))
local macro_rules | `(tactic| walk_at "atI") => `(tactic| first
  | with_reducible assumption
  | exact rfl)
local macro_rules | `(tactic| walk_at "go") => `(tactic| repeat (first
  | ((with_reducible refine' s_var ?hv ?_); (case hv => exact rfl))
  | with_reducible refine s_c ?_
  | with_reducible refine s_op ?_
  | with_reducible refine s_test ?_
  | with_reducible refine s_ex ?_
  | with_reducible refine s_seq ?_
  | with_reducible refine s_asg ?_
  | with_reducible refine s_name ?_
  | with_reducible refine s_if ?_
  | with_reducible refine s_next ?_
  | with_reducible refine s_cb ?_
  | with_reducible refine s_call ?_
  | with_reducible refine s_cons ?_
  | with_reducible refine s_nil ?_
  | with_reducible refine s_and ?_
  | with_reducible refine s_or ?_
  | with_reducible refine s_not ?_
  | with_reducible refine s_chain ?_
  | with_reducible refine s_andV ?_
  | with_reducible refine s_orV ?_
  | with_reducible refine s_un ?_
  | with_reducible refine s_drop ?_
  | with_reducible refine s_ret ?_
  | with_reducible refine s_retN ?_
  | with_reducible refine s_gsub ?_
  | with_reducible refine s_tup ?_
  | with_reducible refine s_lst ?_
  | with_reducible refine s_bm ?_
  | with_reducible refine s_bm0 ?_
  | with_reducible refine s_sl ?_
  | with_reducible refine s_nopart ?_
  | with_reducible refine s_part ?_
  | with_reducible refine s_exi ?_
  | with_reducible refine s_cont ?_
  | with_reducible refine s_break ?_
  | with_reducible refine s_ifE ?_
  | with_reducible refine s_m1 ?_
  | with_reducible refine iteT ?_
  | with_reducible refine iteF ?_
  | with_reducible refine s_iteNT ?_
  | with_reducible refine s_iteNF ?_
  | with_reducible refine s_addI ?_
  | with_reducible refine s_I1 ?_
  | with_reducible refine s_eqI ?_
  | with_reducible refine s_eqS ?_
  | with_reducible refine s_eqB ?_
  | with_reducible refine s_neI ?_
  | with_reducible refine s_neS ?_
  | with_reducible refine s_neg ?_
  | with_reducible refine s_is ?_
  | with_reducible refine s_isnt ?_
  | with_reducible refine s_intI ?_
  | with_reducible refine s_intB ?_
  | with_reducible refine s_strS ?_
  | with_reducible refine s_tyS ?_
  | with_reducible refine s_exS ?_
  | ((with_reducible refine' s_ty ?hs ?_); (case hs => walk_at "look"))
  | with_reducible refine s_abs ?_
  | ((with_reducible refine' s_append ?hs ?hl ?_); (case hs => walk_at "look"); (case hl => first | assumption | omega | (simp only [List.length_append, List.length_cons, List.length_nil, List.length_map]; omega)))
  | ((with_reducible refine' s_popS ?hs ?_); (case hs => walk_at "look"))
  | ((with_reducible refine' s_strN ?hs ?_); (case hs => assumption))
  | with_reducible refine s_iRev ?_
  | with_reducible refine s_xf ?_
  | with_reducible refine s_rz ?_
  | with_reducible refine s_callS ?_
  | with_reducible refine s_repl ?_
  | with_reducible refine s_rg1 ?_
  | with_reducible refine isi_ss ?_
  | with_reducible refine s_tru ?_
  | with_reducible refine s_truB ?_
  | ((with_reducible refine' s_truL ?hs ?_); (case hs => walk_at "sq"))
  | with_reducible refine isi_is ?_
  | with_reducible refine isi_st ?_
  | with_reducible refine isi_it ?_
  | ((with_reducible refine' isi_tt ?hs ?_); (case hs => walk_at "look"))
  | with_reducible refine s_lc ?_
  | with_reducible refine s_forS ?_
  | with_reducible refine i_str ?_
  | with_reducible refine i_list ?_
  | with_reducible refine i_tup ?_
  | with_reducible refine s_exx ?_
  | with_reducible refine s_inS ?_
  | with_reducible refine s_ninS ?_
  | ((with_reducible refine' s_slTake ?hs ?hk ?_); (case hs => first | assumption | omega); (case hk => first | decide | omega))
  | ((with_reducible refine' s_slDrop ?hs ?hk ?_); (case hs => first | assumption | omega); (case hk => first | decide | omega))
  | ((with_reducible refine' s_slMid ?hs ?hk ?hk2 ?_); (case hs => first | assumption | omega); (case hk => first | decide | omega); (case hk2 => first | decide | omega))
  | ((with_reducible refine' s_ixX ?hs ?he ?_); (case hs => first | assumption | omega); (case he => walk_at "atI"))
  | ((with_reducible refine' s_lenX ?hs ?_); (case hs => first | assumption | omega))
  | ((with_reducible refine' s_all ?hs ?_); (case hs => walk_at "sq"))
  | with_reducible refine s_max ?_
  | with_reducible refine s_min ?_
  | ((with_reducible refine' s_ixL ?hs ?he ?_); (case hs => walk_at "sq"); (case he => walk_at "atI"))
  | ((with_reducible refine' s_ixT ?hs ?he ?_); (case hs => walk_at "qt"); (case he => walk_at "atI"))
  | ((with_reducible refine' s_lenL ?hs ?_); (case hs => walk_at "sq"))
  | ((with_reducible refine' s_lenT ?hs ?_); (case hs => walk_at "qt"))
  | ((with_reducible refine' s_setL ?hs ?he ?_); (case hs => walk_at "look"); (case he => walk_at "atI"))
  | ((with_reducible refine' s_mulI ?hs ?_); (case hs => first | exact .inr ⟨by decide, by decide⟩ | exact .inl ⟨by decide, by decide⟩ | assumption | exact .inl ⟨by omega, by omega⟩ | exact .inr ⟨by omega, by omega⟩))
  | ((with_reducible refine' s_I2 ?hs ?_); (case hs => first | assumption | exact (by decide) | exact ⟨by decide, by decide⟩ | exact ⟨by decide, by decide, by decide⟩))))

structure O4 (P : Program) (w : World) (K : PySem.W.Frag) (mg : Str → Option Value) (base : Heap) (CS CT : Addr) : Prop where
  read_form : Has P w K mg base (L2.CX P w) "read_form" ["text"] 4 (spRF CS CT)
section
variable {P : Program} {w : World} {K : PySem.W.Frag} {mg : Str → Option Value} {base : Heap} {CS CT : Addr}
abbrev s_law_told : Stmt := topS 30
abbrev N_law_told : List Str := ["text", "e"]
theorem sc_law_told : FnScope N_law_told ["text"] (defScope s_law_told) := ⟨rfl, rfl, rfl, by decide +kernel, rfl, by decide +kernel, by decide +kernel⟩
theorem ok_told {f : Addr} {fd : FuncData} (Fn : Fun K "_law_told" "_law_told" s_law_told f fd) (XC : Xs P w K mg base CS CT) (O : O4 P w K mg base CS CT) : FnOk P w K mg base CX0 5 f fd ["text"] spTold := by
  refine Fn.ok sc_law_told (fun vs H Q E h => ?_) (fun cdv A outer s H vs Q E hr h => ?_)
  · obtain ⟨l, rfl, _⟩ := h
    rfl
  · obtain ⟨l, rfl, hl, q⟩ := h
    have sz : sizeLine = 16777216 := sizeLine_eq
    refine ⟨_, (pss_one (ps_try_asN rfl rfl sc_law_told.nd takes0
  (fun W pn xe tk pso => (pss_one (ps_ret (pe_lst (pa_cons (pe_hasX O.read_form hr (by rfl) tk (pa_cons (pv 0) pa_nil)) pa_nil)))))
  (HdA.cons (i := 1) rfl rfl ⟨by rfl, by decide, .inl XC.TextError.m⟩ (fun a oe cls d pn hz hf => (pss_one (ps_ret (pe_tup (pa_cons pe_str (pa_cons (pe_xf XC.TextError.xf XC.TextError.no hz hf (pv 1)) pa_nil)))))) (HdA.cons (i := 1) rfl rfl ⟨by rfl, by decide, .inl XC.SizeError.m⟩ (fun a oe cls d pn hz hf => (pss_one (ps_ret (pe_tup (pa_cons pe_str (pa_cons (pe_xf XC.SizeError.xf XC.SizeError.no hz hf (pv 1)) pa_nil)))))) HdA.nil)))), ?_⟩
    walk_at "go"
    refine ⟨l, rfl, hl, fun h1 d H1 s1 hd => ?_, fun h1 hp d H1 s1 hd => ?_, fun f v H1 h1 hp s1 hv => ?_⟩
    · refine ⟨false, XC.st, (fun z => nomatch z), fun _ => ⟨true, XC.ss, fun _ a ha => ?_, fun z => nomatch z⟩⟩
      walk_at "go"
      refine ⟨rfl, rfl, d, _, _, rfl, hd, rfl, ?_⟩
      walk_at "go"
      refine ⟨by show 2 ≤ sizeLine; omega, fun p hp => ?_⟩
      exact q _ _ (same_mut s1 (s1.free hp)) ⟨p, rfl, by rw [if_pos h1]; exact upd_same⟩
    · refine ⟨true, XC.tt, fun _ a ha => ?_, fun z => nomatch z⟩
      walk_at "go"
      refine ⟨rfl, rfl, d, _, _, rfl, hd, rfl, ?_⟩
      walk_at "go"
      refine ⟨by show 2 ≤ sizeLine; omega, fun p hp' => ?_⟩
      exact q _ _ (same_mut s1 (s1.free hp')) ⟨p, rfl, by rw [if_neg (by omega), hp]; exact upd_same⟩
    · walk_at "go"
      refine ⟨by show 1 ≤ sizeLine; omega, fun p hp' => ?_⟩
      refine q _ _ (same_mut s1 (s1.free hp')) ⟨p, rfl, ?_⟩
      rw [if_neg (by omega), hp]
      exact ⟨v, upd_same, Fm.kept ((Tp.refl H1).new hp') f v hv⟩
/-! ### the law's text -/
mutual
def dep : F → Nat
  | .i _ => 0
  | .s _ => 0
  | .t fs => deps fs + 1
def deps : List F → Nat
  | [] => 0
  | f :: r => max (dep f) (deps r)
end
theorem deps_at : ∀ {fs : List F} {k : Nat} {f : F}, fs[k]? = some f → dep f ≤ deps fs
  | [], _, _, e => by cases e
  | g :: fs, 0, f, e => by
    cases e
    simp only [deps]
    omega
  | g :: fs, k + 1, f, e => by
    have := deps_at (k := k) e
    simp only [deps]
    omega
def spText (n : Nat) : Sp := fun vs H Q _ => ∃ v f, vs = [v] ∧ Fm H v f ∧ sn f ∧ dep f < n ∧ (tx f).length ≤ 2000000 ∧ ∀ H', Same H H' → Q (.str (SX.S (tx f))) H'
theorem joinL_txs : ∀ fs : List F, TL.joinL [32] (fs.map tx) = txs fs
  | [] => by simp [TL.joinL, txs]
  | [f] => by simp [TL.joinL, txs, txr]
  | f :: g :: r => by
    have h := joinL_txs (g :: r)
    show tx f ++ ([32] ++ TL.joinL [32] ((g :: r).map tx)) = _
    rw [h]
    simp [txs, txr]
theorem flat_len : ∀ fs : List F, (fs.map tx).flatten.length + fs.length = (txr fs).length
  | [] => rfl
  | f :: r => by
    have h := flat_len r
    simp only [List.map_cons, List.flatten_cons, List.length_append, List.length_cons, txr]
    omega
theorem tx_part : ∀ {fs : List F} {k : Nat} {f : F}, fs[k]? = some f → (tx f).length ≤ (txr fs).length
  | [], _, _, e => by cases e
  | g :: fs, 0, f, e => by
    cases e
    simp only [txr, List.length_cons, List.length_append]
    omega
  | g :: fs, k + 1, f, e => by
    have := tx_part (k := k) e
    simp only [txr, List.length_cons, List.length_append]
    omega
abbrev s_law_text : Stmt := topS 27
abbrev N_law_text : List Str := ["form", "part"]
theorem sc_law_text : FnScope N_law_text ["form"] (defScope s_law_text) := ⟨rfl, rfl, rfl, by decide +kernel, rfl, by decide +kernel, by decide +kernel⟩
structure O5 (P : Program) (w : World) (K : PySem.W.Frag) (mg : Str → Option Value) (base : Heap) (n : Nat) : Prop where
  law_text : Has P w K mg base CX0 "_law_text" ["form"] n (spText n)
theorem ok_text {f : Addr} {fd : FuncData} (Fn : Fun K "_law_text" "_law_text" s_law_text f fd) (B : Bn mg) (m : mg "_law_text" = some (.ref f)) (kp : PySem.W.keepIn K (.ref f) = true) (bi : Binds K fd ["form"] []) : ∀ n, FnOk P w K mg base CX0 n f fd ["form"] (spText n) := by
  intro n
  induction n with
  | zero =>
    refine ⟨fun vs H Q E h => ?_, fun A outer s H args us vs Q E hr e0 hb r h => ?_⟩
    · obtain ⟨v, f, rfl, _⟩ := h
      rfl
    · obtain ⟨v, f, rfl, _, _, hd, _⟩ := h
      exact absurd hd (Nat.not_lt_zero _)
  | succ n ih =>
    have O : O5 P w K mg base n := ⟨f, fd, ih, m, kp, bi⟩
    refine Fn.ok sc_law_text (fun vs H Q E h => ?_) (fun cdv A outer s H vs Q E hr h => ?_)
    · obtain ⟨v, f, rfl, _⟩ := h
      rfl
    · obtain ⟨v, f, rfl, hf, hsn, hd, hz, q⟩ := h
      have sz : sizeLine = 16777216 := sizeLine_eq
      have hk : n ≤ n := Nat.le_refl n
      refine ⟨_, (pss_cons (ps_if (k_truth (K := K) rfl (pe_callB (k_isinstance (K := K) rfl) (by rfl) B.isinstance (by decide +kernel) (pa_cons (pv 0) (pa_cons (pe_bltn (v := .ty "tuple") (by rfl) B.tuple (by decide +kernel) rfl) pa_nil))))
  (pss_one (ps_ret (pe_op (k_add (K := K) rfl) (pe_op (k_add (K := K) rfl) pe_str (k_join (K := K) rfl pe_str (pe_lc (own := [("part", 1)]) (by rfl) sc_law_text.nd (k_tup (K := K) rfl (pv 0)) (blkOk_by (N := N_law_text) (sc := defScope s_law_text) (by decide +kernel)) (fun _ _ _ _ _ => (pg_name (i := 1) sc_law_text.nd rfl (.inl rfl))) (fun _ _ _ _ _ => pts_nil) (fun _ _ _ _ _ => (pe_has O.law_text hr (by rfl) pass0 (pa_cons (pv 1) pa_nil) (hk := Nat.le_refl _)))))) pe_str)))
  pss_nil)
  (pss_one (ps_ret (pe_callTy u_str (by rfl) B.str (by decide +kernel) (pa_cons (pv 0) pa_nil))))), ?_⟩
      walk_at "go"
      cases f with
      | i k =>
        cases hf
        have hlog := int_log (by simp only [sn] at hsn; exact hsn)
        walk_at "go"
        have e := q _ (Same.refl H)
        simp only [tx] at e
        exact e
      | s l =>
        cases hf
        walk_at "go"
        have e := q _ (Same.refl H)
        simp only [tx] at e
        exact e
      | t fs =>
        cases hf with
        | t ha hx =>
          rename_i a xs
          have hxl := hx.len
          have hwl := wts_len fs
          have hfz : (tx (.t fs)).length = 2 + (txs fs).length := by
            simp only [tx, List.length_cons, List.length_append, List.length_nil]
            omega
          have hrz : (txr fs).length ≤ (txs fs).length + 1 := by
            cases fs with
            | nil => simp [txr]
            | cons f r => simp [txr, txs]
          have hfl := txr_ge fs
          walk_at "go"
          refine ⟨a, rfl, ⟨xs, SqT.of ha⟩, ?_⟩
          refine lc_go (P := fun H' => H' a = some (.tup xs)) (yl_tup fun H' h => SqT.of h) (by omega)
            (fun D i acc H' => acc = (fs.take i).map (fun g => stV (tx g)) ∧ H' D = some (.lst acc) ∧ Same H H') (fun D i acc H' h => ?_) (fun D hD => ⟨rfl, upd_same, same_new hD⟩) (fun D i acc H' x hD h hl hi hx2 => ?_) (fun D acc H' hD h => ?_)
          · obtain ⟨rfl, _, s1⟩ := h
            exact ⟨s1 _ _ ha, by rw [List.length_map, List.length_take]; omega⟩
          · obtain ⟨rfl, h1, s1⟩ := h
            obtain ⟨g, hg⟩ : ∃ g, fs[i]? = some g := ⟨_, List.getElem?_eq_getElem (by omega)⟩
            obtain ⟨v, hv, hvg⟩ := Fms.at hx hg
            have e : v = x := by rw [hx2] at hv; exact (Option.some.inj hv).symm
            subst e
            have hp := tx_part hg
            have hdp := deps_at hg
            simp only [dep] at hd
            refine ⟨wipe1 _ _ _, ?_⟩
            refine s_yes (iteT ?_)
            walk_at "go"
            refine ⟨v, g, rfl, Fm.kept (Tp.of s1) g v hvg, sns_at (by simp only [sn] at hsn; exact hsn) hg, by omega, by omega, fun H2 s2 => ?_⟩
            refine lc_y (I := fun D i acc H' => acc = (fs.take i).map (fun g => stV (tx g)) ∧ H' D = some (.lst acc) ∧ Same H H') (s2 _ _ h1) hl ⟨?_, upd_same, same_mut (s1.trans s2) hD⟩
            rw [take_more hg, List.map_append]
            rfl
          · obtain ⟨rfl, h1, s1⟩ := h
            rw [hxl, List.take_length] at h1
            have h2 : H' D = some (.lst ((fs.map tx).map fun l => V.str (SX.S l))) := by
              rw [h1, List.map_map]
              rfl
            have hff := flat_len fs
            refine s_joinL (SqL.of h2) ?_ ?_
            · show _ + _ * 1 ≤ _
              rw [List.length_map]
              omega
            · have e : TL.tl (Str.ofString " ") = [32] := rfl
              rw [e, joinL_txs]
              refine s_addX [40] (txs fs) rfl rfl (by show 1 + _ ≤ _; omega) ?_
              walk_at "go"
              refine s_addX ([40] ++ txs fs) [41] rfl rfl (by rw [List.length_append]; show 1 + _ + 1 ≤ _; omega) ?_
              have e2 := q _ s1
              simp only [tx] at e2
              exact e2
end
end K41
set_option maxRecDepth 100000
set_option maxHeartbeats 400000
namespace K41
open PySem PySem.Spec PyProof.Rows L2 J
local macro_rules | `(tactic| walk_at "ne") => `(tactic| first
  | with_reducible assumption
  | (apply Ne.symm; with_reducible assumption))
local macro_rules | `(tactic| walk_at "look") => `(tactic| first
  | with_reducible assumption
  | with_reducible exact upd_same
  | ((with_reducible refine' at_new ?ha ?hb); (case ha => with_reducible assumption); (case hb => walk_at "look"))
  | ((with_reducible refine' at_other ?ha ?hb); (case ha => walk_at "ne"); (case hb => walk_at "look"))
  | ((with_reducible refine' same_at ?ha ?hb); (case ha => with_reducible assumption); (case hb => walk_at "look")))
local macro_rules | `(tactic| walk_at "sq") => `(tactic| first
  | with_reducible assumption
  | ((with_reducible refine' SqL.of ?ha); (case ha => walk_at "look"))
  | ((with_reducible refine' sq_put ?ha ?hb); (case hb => walk_at "ne"); (case ha => walk_at "sq"))
  | ((with_reducible refine' sq_new ?ha ?hb); (case hb => with_reducible assumption); (case ha => walk_at "sq"))
  | ((with_reducible refine' sq_same ?ha ?hb); (case hb => with_reducible assumption); (case ha => walk_at "sq")))
local macro_rules | `(tactic| walk_at "qt") => `(tactic| first
  | with_reducible assumption
  | ((with_reducible refine' SqT.of ?ha); (case ha => walk_at "look")))
local macro_rules | `(tactic| walk_at "atI") => `(tactic| first
  | with_reducible assumption
  | exact rfl)
local macro_rules | `(tactic| walk_at "go") => `(tactic| repeat (first
  | ((with_reducible refine' s_var ?hv ?_); (case hv => exact rfl))
  | with_reducible refine s_c ?_
  | with_reducible refine s_op ?_
  | with_reducible refine s_test ?_
  | with_reducible refine s_ex ?_
  | with_reducible refine s_seq ?_
  | with_reducible refine s_asg ?_
  | with_reducible refine s_name ?_
  | with_reducible refine s_if ?_
  | with_reducible refine s_next ?_
  | with_reducible refine s_cb ?_
  | with_reducible refine s_call ?_
  | with_reducible refine s_cons ?_
  | with_reducible refine s_nil ?_
  | with_reducible refine s_and ?_
  | with_reducible refine s_or ?_
  | with_reducible refine s_not ?_
  | with_reducible refine s_chain ?_
  | with_reducible refine s_andV ?_
  | with_reducible refine s_orV ?_
  | with_reducible refine s_un ?_
  | with_reducible refine s_drop ?_
  | with_reducible refine s_ret ?_
  | with_reducible refine s_retN ?_
  | with_reducible refine s_gsub ?_
  | with_reducible refine s_tup ?_
  | with_reducible refine s_lst ?_
  | with_reducible refine s_bm ?_
  | with_reducible refine s_bm0 ?_
  | with_reducible refine s_sl ?_
  | with_reducible refine s_nopart ?_
  | with_reducible refine s_part ?_
  | with_reducible refine s_exi ?_
  | with_reducible refine s_cont ?_
  | with_reducible refine s_break ?_
  | with_reducible refine s_ifE ?_
  | with_reducible refine s_m1 ?_
  | with_reducible refine iteT ?_
  | with_reducible refine iteF ?_
  | with_reducible refine s_iteNT ?_
  | with_reducible refine s_iteNF ?_
  | with_reducible refine s_addI ?_
  | with_reducible refine s_I1 ?_
  | with_reducible refine s_eqI ?_
  | with_reducible refine s_eqS ?_
  | with_reducible refine s_eqB ?_
  | with_reducible refine s_neI ?_
  | with_reducible refine s_neS ?_
  | with_reducible refine s_neg ?_
  | with_reducible refine s_is ?_
  | with_reducible refine s_isnt ?_
  | with_reducible refine s_intI ?_
  | with_reducible refine s_intB ?_
  | with_reducible refine s_strS ?_
  | with_reducible refine s_tyS ?_
  | with_reducible refine s_exS ?_
  | ((with_reducible refine' s_ty ?hs ?_); (case hs => walk_at "look"))
  | with_reducible refine s_abs ?_
  | ((with_reducible refine' s_append ?hs ?hl ?_); (case hs => walk_at "look"); (case hl => first | assumption | omega | (simp only [List.length_append, List.length_cons, List.length_nil, List.length_map]; omega)))
  | ((with_reducible refine' s_popS ?hs ?_); (case hs => walk_at "look"))
  | ((with_reducible refine' s_strN ?hs ?_); (case hs => assumption))
  | with_reducible refine s_iRev ?_
  | with_reducible refine s_xf ?_
  | with_reducible refine s_rz ?_
  | with_reducible refine s_callS ?_
  | with_reducible refine s_repl ?_
  | with_reducible refine s_rg1 ?_
  | with_reducible refine isi_ss ?_
  | with_reducible refine s_tru ?_
  | with_reducible refine s_truB ?_
  | ((with_reducible refine' s_truL ?hs ?_); (case hs => walk_at "sq"))
  | with_reducible refine isi_is ?_
  | with_reducible refine isi_st ?_
  | with_reducible refine isi_it ?_
  | ((with_reducible refine' isi_tt ?hs ?_); (case hs => walk_at "look"))
  | with_reducible refine s_lc ?_
  | with_reducible refine s_forS ?_
  | with_reducible refine i_str ?_
  | with_reducible refine i_list ?_
  | with_reducible refine i_tup ?_
  | with_reducible refine s_exx ?_
  | with_reducible refine s_inS ?_
  | with_reducible refine s_ninS ?_
  | ((with_reducible refine' s_slTake ?hs ?hk ?_); (case hs => first | assumption | omega); (case hk => first | decide | omega))
  | ((with_reducible refine' s_slDrop ?hs ?hk ?_); (case hs => first | assumption | omega); (case hk => first | decide | omega))
  | ((with_reducible refine' s_slMid ?hs ?hk ?hk2 ?_); (case hs => first | assumption | omega); (case hk => first | decide | omega); (case hk2 => first | decide | omega))
  | ((with_reducible refine' s_ixX ?hs ?he ?_); (case hs => first | assumption | omega); (case he => walk_at "atI"))
  | ((with_reducible refine' s_lenX ?hs ?_); (case hs => first | assumption | omega))
  | ((with_reducible refine' s_all ?hs ?_); (case hs => walk_at "sq"))
  | with_reducible refine s_max ?_
  | with_reducible refine s_min ?_
  | ((with_reducible refine' s_ixL ?hs ?he ?_); (case hs => walk_at "sq"); (case he => walk_at "atI"))
  | ((with_reducible refine' s_ixT ?hs ?he ?_); (case hs => walk_at "qt"); (case he => walk_at "atI"))
  | ((with_reducible refine' s_lenL ?hs ?_); (case hs => walk_at "sq"))
  | ((with_reducible refine' s_lenT ?hs ?_); (case hs => walk_at "qt"))
  | ((with_reducible refine' s_setL ?hs ?he ?_); (case hs => walk_at "look"); (case he => walk_at "atI"))
  | ((with_reducible refine' s_mulI ?hs ?_); (case hs => first | exact .inr ⟨by decide, by decide⟩ | exact .inl ⟨by decide, by decide⟩ | assumption | exact .inl ⟨by omega, by omega⟩ | exact .inr ⟨by omega, by omega⟩))
  | ((with_reducible refine' s_I2 ?hs ?_); (case hs => first | assumption | exact (by decide) | exact ⟨by decide, by decide⟩ | exact ⟨by decide, by decide, by decide⟩))))

/-- what the law's readers hand back: a list with the form, or none -/
def LV (H : Hp) (r : Option F) (v : V) : Prop := ∃ a, v = .ref a ∧ match r with
  | none => H a = some (.lst [])
  | some f => ∃ u, H a = some (.lst [u]) ∧ Fm H u f
def spLA : Sp := fun vs H Q _ => ∃ l, vs = [.str (SX.S l)] ∧ l ≠ [] ∧ l.length ≤ sizeLine ∧ ∀ v H', Same H H' → LV H' (atom l) v → Q v H'
section
variable {P : Program} {w : World} {K : PySem.W.Frag} {mg : Str → Option Value} {base : Heap}
abbrev s_law_read_atom : Stmt := topS 28
abbrev N_law_read_atom : List Str := ["word", "sign"]
theorem sc_law_read_atom : FnScope N_law_read_atom ["word"] (defScope s_law_read_atom) := ⟨rfl, rfl, rfl, by decide +kernel, rfl, by decide +kernel, by decide +kernel⟩
theorem ok_law_read_atom {f : Addr} {fd : FuncData} (Fn : Fun K "_law_read_atom" "_law_read_atom" s_law_read_atom f fd) (B : Bn mg) : FnOk P w K mg base CX0 1 f fd ["word"] spLA := by
  refine Fn.ok sc_law_read_atom (fun vs H Q E h => ?_) (fun cdv A outer s H vs Q E hr h => ?_)
  · obtain ⟨l, rfl, _⟩ := h
    rfl
  · obtain ⟨l, rfl, hne, hl, q⟩ := h
    have sz : sizeLine = 16777216 := sizeLine_eq
    cases l with
    | nil => exact absurd rfl hne
    | cons c r =>
      have hr2 : r.length ≤ sizeLine := Nat.le_trans (Nat.le_succ _) hl
      have none_ : ∀ {H' d}, Same H H' → H' d = none → atom (c :: r) = none → Q (.ref d) (upd H' d (.lst [])) := fun {H' d} s hd h => q _ _ (same_mut s (s.free hd)) ⟨d, rfl, by rw [h]; exact upd_same⟩
      have str_ : ∀ {H' d}, Same H H' → H' d = none → atom (c :: r) = some (.s (c :: r)) → Q (.ref d) (upd H' d (.lst [.str (SX.S (c :: r))])) := fun {H' d} s hd h => q _ _ (same_mut s (s.free hd)) ⟨d, rfl, by rw [h]; exact ⟨_, upd_same, .s _⟩⟩
      have e39 : (SX.S [c] = Str.ofString "'") ↔ c = 39 := by
        show (SX.S [c] = SX.S [39]) ↔ _
        rw [S_eq]
        exact ⟨fun z => by cases z; rfl, fun z => by rw [z]⟩
      refine ⟨_, (pss_cons (ps_if (pt_cmpR (k_eq (K := K) rfl hr.units) (pe_slice (k_sl (K := K) rfl) (pv 0) po_none (po_some pe_int)) pe_str (nomark _))
  (pss_cons (ps_if (pw_and (pt_cmpR u_le (pe_callB (k_len (K := K) rfl) (by rfl) B.len (by decide +kernel) (pa_cons (pv 0) pa_nil)) pe_int (nomark _)) (pw_and1 (k_truth (K := K) rfl (pe_callB (k_all (K := K) rfl) (by rfl) B.all (by decide +kernel) (pa_cons (pe_lc (own := [("sign", 1)]) (by rfl) sc_law_read_atom.nd (pi_str (pe_slice (k_sl (K := K) rfl) (pv 0) (po_some pe_int) po_none)) (blkOk_by (N := N_law_read_atom) (sc := defScope s_law_read_atom) (by decide +kernel)) (fun _ _ _ _ _ => (pg_name (i := 1) sc_law_read_atom.nd rfl (.inl rfl))) (fun _ _ _ _ _ => pts_nil) (fun _ _ _ _ _ => (pe_cmpR (k_in (K := K) rfl) (pv 1) pe_str rfl))) pa_nil))))).pt
  (pss_one (ps_ret (pe_lst (pa_cons (pv 0) pa_nil))))
  pss_nil)
  (pss_one (ps_ret (pe_lst pa_nil))))
  pss_nil)
  (pss_cons (ps_if (k_truth (K := K) rfl (pe_callB (k_all (K := K) rfl) (by rfl) B.all (by decide +kernel) (pa_cons (pe_lc (own := [("sign", 1)]) (by rfl) sc_law_read_atom.nd (pi_str (pv 0)) (blkOk_by (N := N_law_read_atom) (sc := defScope s_law_read_atom) (by decide +kernel)) (fun _ _ _ _ _ => (pg_name (i := 1) sc_law_read_atom.nd rfl (.inl rfl))) (fun _ _ _ _ _ => pts_nil) (fun _ _ _ _ _ => (pe_cmpR (k_in (K := K) rfl) (pv 1) pe_str rfl))) pa_nil)))
  (pss_cons (ps_if (pw_or (pt_cmpR (k_eq (K := K) rfl hr.units) (pe_callB (k_len (K := K) rfl) (by rfl) B.len (by decide +kernel) (pa_cons (pv 0) pa_nil)) pe_int (nomark _)) (pw_or1 (pw_and (pt_cmpR u_le (pe_callB (k_len (K := K) rfl) (by rfl) B.len (by decide +kernel) (pa_cons (pv 0) pa_nil)) pe_int (nomark _)) (pw_and1 (pt_cmpR (k_ne (K := K) rfl hr.units) (pe_ix (k_ix (K := K) rfl) (pv 0) pe_int (fun _ _ => rfl)) pe_str (nomark _)))).pt)).pt
  (pss_one (ps_ret (pe_lst (pa_cons (pe_callTy u_int (by rfl) B.int (by decide +kernel) (pa_cons (pv 0) pa_nil)) pa_nil))))
  pss_nil)
  (pss_one (ps_ret (pe_lst pa_nil))))
  pss_nil)
  (pss_cons (ps_if (pw_and (pt_cmpR u_le (pe_callB (k_len (K := K) rfl) (by rfl) B.len (by decide +kernel) (pa_cons (pv 0) pa_nil)) pe_int (nomark _)) (pw_and1 (k_truth (K := K) rfl (pe_callB (k_all (K := K) rfl) (by rfl) B.all (by decide +kernel) (pa_cons (pe_lc (own := [("sign", 1)]) (by rfl) sc_law_read_atom.nd (pi_str (pv 0)) (blkOk_by (N := N_law_read_atom) (sc := defScope s_law_read_atom) (by decide +kernel)) (fun _ _ _ _ _ => (pg_name (i := 1) sc_law_read_atom.nd rfl (.inl rfl))) (fun _ _ _ _ _ => pts_nil) (fun _ _ _ _ _ => (pe_cmpR (k_in (K := K) rfl) (pv 1) pe_str rfl))) pa_nil))))).pt
  (pss_one (ps_ret (pe_lst (pa_cons (pv 0) pa_nil))))
  pss_nil)
  (pss_one (ps_ret (pe_lst pa_nil)))))), ?_⟩
      walk_at "go"
      refine s_dec (fun h1 => ?_) (fun h1 => ?_)
      · have hc : c = 39 := e39.mp h1
        subst hc
        have ha := atom_code (r := r)
        walk_at "go"
        refine s_dec (fun h2 => ?_) (fun h2 => ?_)
        · walk_at "go"
          refine lc_chars (l := r) step4 rfl hr2 (fun D d acc A hD ha => ?_) (fun D hD => ?_)
          · walk_at "go"
            rw [in_step]
            exact ha
          · have s1 := same_new hD (o := .lst ((r.map step4).map V.bl))
            rw [decide_eq_true (by rw [List.length_cons] at h2; omega), Bool.true_and] at ha
            walk_at "go"
            rw [List.all_map]
            refine s_bool (fun h3 => ?_) (fun h3 => ?_)
            · walk_at "go"
              refine ⟨by show 1 ≤ sizeLine; omega, fun d hd => ?_⟩
              exact str_ s1 hd (by rw [ha]; exact if_pos h3)
            · walk_at "go"
              refine ⟨Nat.zero_le _, fun d hd => ?_⟩
              exact none_ s1 hd (by rw [ha]; exact if_neg (by intro z; exact absurd (h3.symm.trans z) (by decide)))
        · walk_at "go"
          refine ⟨Nat.zero_le _, fun d hd => ?_⟩
          rw [decide_eq_false (by rw [List.length_cons] at h2; omega), Bool.false_and] at ha
          exact none_ (Same.refl H) hd (by rw [ha]; rfl)
      · have hc : c ≠ 39 := fun z => h1 (e39.mpr z)
        walk_at "go"
        refine lc_chars (l := c :: r) digt rfl hl (fun D d acc A hD ha => ?_) (fun D hD => ?_)
        · walk_at "go"
          rw [in_digt]
          exact ha
        · have s1 := same_new hD (o := .lst (((c :: r).map digt).map V.bl))
          walk_at "go"
          rw [List.all_map]
          refine s_bool (fun h2 => ?_) (fun h2 => ?_)
          · have hall : (c :: r).all digt = true := h2
            have ha := atom_digits hall
            have hv : atI (c :: r) 0 = some c := at_ofN (j := 0) rfl rfl
            have e48 : (SX.S [c] = Str.ofString "0") ↔ c = 48 := by
              show (SX.S [c] = SX.S [48]) ↔ _
              rw [S_eq]
              exact ⟨fun z => by cases z; rfl, fun z => by rw [z]⟩
            have int_ : ∀ {H'}, Same H H' → ((c :: r).length = 1 ∨ ((c :: r).length ≤ 9 ∧ c ≠ 48)) → rIntU [V.str (SX.S (c :: r))] H' fun v H1 => tNil [some (V.str (SX.S (c :: r))), none] H1 fun xs H2 => (v :: xs).length ≤ sizeLine ∧ ∀ p, H2 p = none → Q (.ref p) (upd H2 p (.lst (v :: xs))) := fun {H'} s hq => by
              refine s_intS (SX.int_S hall (by simp) (by omega)) (by rw [SX.S_len]; omega) ?_
              refine s_nil ⟨by show 1 ≤ sizeLine; omega, fun d hd => ?_⟩
              refine q _ _ (same_mut s (s.free hd)) ⟨d, rfl, ?_⟩
              rw [ha, if_pos hq]
              exact ⟨_, upd_same, .i _⟩
            walk_at "go"
            refine s_dec (fun h3 => ?_) (fun h3 => ?_)
            · walk_at "go"
              exact int_ s1 (.inl (by omega))
            · walk_at "go"
              refine s_dec (fun h4 => ?_) (fun h4 => ?_)
              · walk_at "go"
                refine s_ndec (fun h5 => ?_) (fun h5 => ?_)
                · walk_at "go"
                  exact int_ s1 (.inr ⟨by omega, fun z => h5 (e48.mpr z)⟩)
                · walk_at "go"
                  refine ⟨Nat.zero_le _, fun d hd => ?_⟩
                  have h48 := e48.mp h5
                  exact none_ s1 hd (by rw [ha]; exact if_neg fun z => by omega)
              · walk_at "go"
                refine ⟨Nat.zero_le _, fun d hd => ?_⟩
                exact none_ s1 hd (by rw [ha]; exact if_neg fun z => by omega)
          · have ha := atom_word hc h2
            walk_at "go"
            refine s_dec (fun h3 => ?_) (fun h3 => ?_)
            · rw [decide_eq_true (by omega), Bool.true_and] at ha
              walk_at "go"
              refine lc_chars (l := c :: r) lett rfl hl (fun D2 d acc A hD ha => ?_) (fun D2 hD2 => ?_)
              · walk_at "go"
                rw [in_lett]
                exact ha
              · have s2 := same_mut s1 (s1.free hD2) (o := .lst (((c :: r).map lett).map V.bl))
                walk_at "go"
                rw [List.all_map]
                refine s_bool (fun h4 => ?_) (fun h4 => ?_)
                · walk_at "go"
                  refine ⟨by show 1 ≤ sizeLine; omega, fun d hd => ?_⟩
                  exact str_ s2 hd (by rw [ha]; exact if_pos h4)
                · walk_at "go"
                  refine ⟨Nat.zero_le _, fun d hd => ?_⟩
                  exact none_ s2 hd (by rw [ha]; exact if_neg (by intro z; exact absurd (h4.symm.trans z) (by decide)))
            · walk_at "go"
              refine ⟨Nat.zero_le _, fun d hd => ?_⟩
              rw [decide_eq_false (by omega), Bool.false_and] at ha
              exact none_ s1 hd (by rw [ha]; rfl)
end
end K41
set_option maxRecDepth 100000
set_option maxHeartbeats 1000000
namespace K41
open PySem PySem.Spec PyProof.Rows L2 J
local macro_rules | `(tactic| walk_at "ne") => `(tactic| first
  | with_reducible assumption
  | (apply Ne.symm; with_reducible assumption))
local macro_rules | `(tactic| walk_at "look") => `(tactic| first
  | with_reducible assumption
  | with_reducible exact upd_same
  | ((with_reducible refine' at_new ?ha ?hb); (case ha => with_reducible assumption); (case hb => walk_at "look"))
  | ((with_reducible refine' at_other ?ha ?hb); (case ha => walk_at "ne"); (case hb => walk_at "look"))
  | ((with_reducible refine' same_at ?ha ?hb); (case ha => with_reducible assumption); (case hb => walk_at "look")))
local macro_rules | `(tactic| walk_at "sq") => `(tactic| first
  | with_reducible assumption
  | ((with_reducible refine' SqL.of ?ha); (case ha => walk_at "look"))
  | ((with_reducible refine' sq_put ?ha ?hb); (case hb => walk_at "ne"); (case ha => walk_at "sq"))
  | ((with_reducible refine' sq_new ?ha ?hb); (case hb => with_reducible assumption); (case ha => walk_at "sq"))
  | ((with_reducible refine' sq_same ?ha ?hb); (case hb => with_reducible assumption); (case ha => walk_at "sq")))
local macro_rules | `(tactic| walk_at "qt") => `(tactic| first
  | with_reducible assumption
  | ((with_reducible refine' SqT.of ?ha); (case ha => walk_at "look")))
local macro_rules | `(tactic| walk_at "atI") => `(tactic| first
  | with_reducible assumption
  | exact rfl)
local macro_rules | `(tactic| walk_at "go") => `(tactic| repeat (first
  | ((with_reducible refine' s_var ?hv ?_); (case hv => exact rfl))
  | with_reducible refine s_c ?_
  | with_reducible refine s_op ?_
  | with_reducible refine s_test ?_
  | with_reducible refine s_ex ?_
  | with_reducible refine s_seq ?_
  | with_reducible refine s_asg ?_
  | with_reducible refine s_name ?_
  | with_reducible refine s_if ?_
  | with_reducible refine s_next ?_
  | with_reducible refine s_cb ?_
  | with_reducible refine s_call ?_
  | with_reducible refine s_cons ?_
  | with_reducible refine s_nil ?_
  | with_reducible refine s_and ?_
  | with_reducible refine s_or ?_
  | with_reducible refine s_not ?_
  | with_reducible refine s_chain ?_
  | with_reducible refine s_andV ?_
  | with_reducible refine s_orV ?_
  | with_reducible refine s_un ?_
  | with_reducible refine s_drop ?_
  | with_reducible refine s_ret ?_
  | with_reducible refine s_retN ?_
  | with_reducible refine s_gsub ?_
  | with_reducible refine s_tup ?_
  | with_reducible refine s_lst ?_
  | with_reducible refine s_bm ?_
  | with_reducible refine s_bm0 ?_
  | with_reducible refine s_sl ?_
  | with_reducible refine s_nopart ?_
  | with_reducible refine s_part ?_
  | with_reducible refine s_exi ?_
  | with_reducible refine s_cont ?_
  | with_reducible refine s_break ?_
  | with_reducible refine s_ifE ?_
  | with_reducible refine s_m1 ?_
  | with_reducible refine iteT ?_
  | with_reducible refine iteF ?_
  | with_reducible refine s_iteNT ?_
  | with_reducible refine s_iteNF ?_
  | with_reducible refine s_addI ?_
  | with_reducible refine s_I1 ?_
  | with_reducible refine s_eqI ?_
  | with_reducible refine s_eqS ?_
  | with_reducible refine s_eqB ?_
  | with_reducible refine s_neI ?_
  | with_reducible refine s_neS ?_
  | with_reducible refine s_neg ?_
  | with_reducible refine s_is ?_
  | with_reducible refine s_isnt ?_
  | with_reducible refine s_intI ?_
  | with_reducible refine s_intB ?_
  | with_reducible refine s_strS ?_
  | with_reducible refine s_tyS ?_
  | with_reducible refine s_exS ?_
  | ((with_reducible refine' s_ty ?hs ?_); (case hs => walk_at "look"))
  | with_reducible refine s_abs ?_
  | ((with_reducible refine' s_append ?hs ?hl ?_); (case hs => walk_at "look"); (case hl => first | assumption | omega | (simp only [List.length_append, List.length_cons, List.length_nil, List.length_map]; omega)))
  | ((with_reducible refine' s_popS ?hs ?_); (case hs => walk_at "look"))
  | ((with_reducible refine' s_strN ?hs ?_); (case hs => assumption))
  | with_reducible refine s_iRev ?_
  | with_reducible refine s_xf ?_
  | with_reducible refine s_rz ?_
  | with_reducible refine s_callS ?_
  | with_reducible refine s_repl ?_
  | with_reducible refine s_rg1 ?_
  | with_reducible refine isi_ss ?_
  | with_reducible refine s_tru ?_
  | with_reducible refine s_truB ?_
  | ((with_reducible refine' s_truL ?hs ?_); (case hs => walk_at "sq"))
  | with_reducible refine isi_is ?_
  | with_reducible refine isi_st ?_
  | with_reducible refine isi_it ?_
  | ((with_reducible refine' isi_tt ?hs ?_); (case hs => walk_at "look"))
  | with_reducible refine s_lc ?_
  | with_reducible refine s_forS ?_
  | with_reducible refine i_str ?_
  | with_reducible refine i_list ?_
  | with_reducible refine i_tup ?_
  | with_reducible refine s_exx ?_
  | with_reducible refine s_inS ?_
  | with_reducible refine s_ninS ?_
  | ((with_reducible refine' s_slTake ?hs ?hk ?_); (case hs => first | assumption | omega); (case hk => first | decide | omega))
  | ((with_reducible refine' s_slDrop ?hs ?hk ?_); (case hs => first | assumption | omega); (case hk => first | decide | omega))
  | ((with_reducible refine' s_slMid ?hs ?hk ?hk2 ?_); (case hs => first | assumption | omega); (case hk => first | decide | omega); (case hk2 => first | decide | omega))
  | ((with_reducible refine' s_ixX ?hs ?he ?_); (case hs => first | assumption | omega); (case he => walk_at "atI"))
  | ((with_reducible refine' s_lenX ?hs ?_); (case hs => first | assumption | omega))
  | ((with_reducible refine' s_all ?hs ?_); (case hs => walk_at "sq"))
  | with_reducible refine s_max ?_
  | with_reducible refine s_min ?_
  | ((with_reducible refine' s_ixL ?hs ?he ?_); (case hs => walk_at "sq"); (case he => walk_at "atI"))
  | ((with_reducible refine' s_ixT ?hs ?he ?_); (case hs => walk_at "qt"); (case he => walk_at "atI"))
  | ((with_reducible refine' s_lenL ?hs ?_); (case hs => walk_at "sq"))
  | ((with_reducible refine' s_lenT ?hs ?_); (case hs => walk_at "qt"))
  | ((with_reducible refine' s_setL ?hs ?he ?_); (case hs => walk_at "look"); (case he => walk_at "atI"))
  | ((with_reducible refine' s_mulI ?hs ?_); (case hs => first | exact .inr ⟨by decide, by decide⟩ | exact .inl ⟨by decide, by decide⟩ | assumption | exact .inl ⟨by omega, by omega⟩ | exact .inr ⟨by omega, by omega⟩))
  | ((with_reducible refine' s_I2 ?hs ?_); (case hs => first | assumption | exact (by decide) | exact ⟨by decide, by decide⟩ | exact ⟨by decide, by decide, by decide⟩))))

def spLR : Sp := fun vs H Q _ => ∃ l, vs = [.str (SX.S l)] ∧ l.length ≤ 1000000 ∧ ∀ v H', Same H H' → LV H' (lread l) v → Q v H'
structure O6 (P : Program) (w : World) (K : PySem.W.Frag) (mg : Str → Option Value) (base : Heap) : Prop where
  law_read_atom : Has P w K mg base CX0 "_law_read_atom" ["word"] 1 spLA
/-- ahead of a turn -/
def RI (H : Hp) (l : List Nat) (u : Addr) (n : Nat) (σ : Fs) (H' : Hp) : Prop := ∃ (y4 y5 y6 : Option V) (q k : Nat) (as : List Addr) (st : List (List F)), σ = [some (.str (SX.S l)), some (.ref u), some (.str (qS q)), some (.int (k : Int)), y4, y5, y6] ∧
  k ≤ l.length ∧ n = l.length - k ∧ H' u = some (.lst (rfs as)) ∧ Stk H' as st ∧ u ∉ as ∧ (∀ a ∈ as, H a = none) ∧ Same H H' ∧ lread l = lrun st q (l.drop k) ∧ BI st q ∧ szS st ≤ 2 * k + 1
section
variable {P : Program} {w : World} {K : PySem.W.Frag} {mg : Str → Option Value} {base : Heap}
abbrev s_law_read : Stmt := topS 29
abbrev N_law_read : List Str := ["text", "stack", "state", "at", "stop", "entries", "atom"]
theorem sc_law_read : FnScope N_law_read ["text"] (defScope s_law_read) := ⟨rfl, rfl, rfl, by decide +kernel, rfl, by decide +kernel, by decide +kernel⟩
theorem ok_law_read {f : Addr} {fd : FuncData} (Fn : Fun K "_law_read" "_law_read" s_law_read f fd) (B : Bn mg) (O : O6 P w K mg base) : FnOk P w K mg base CX0 2 f fd ["text"] spLR := by
  refine Fn.ok sc_law_read (fun vs H Q E h => ?_) (fun cdv A outer s H vs Q E hr h => ?_)
  · obtain ⟨l, rfl, _⟩ := h
    rfl
  · obtain ⟨l, rfl, hl, q⟩ := h
    have sz : sizeLine = 16777216 := sizeLine_eq
    have hll : l.length ≤ sizeLine := by omega
    refine ⟨_, (pss_cons (ps_set (i := 1) sc_law_read.nd rfl (.inl rfl) (pe_lst (pa_cons (pe_lst pa_nil) pa_nil)))
  (pss_cons (ps_set (i := 2) sc_law_read.nd rfl (.inl rfl) pe_str)
  (pss_cons (ps_set (i := 3) sc_law_read.nd rfl (.inl rfl) pe_int)
  (pss_cons (ps_while PassesOwn.never (pt_cmpR u_lt (pv 3) (pe_callB (k_len (K := K) rfl) (by rfl) B.len (by decide +kernel) (pa_cons (pv 0) pa_nil)) (nomark _))
  (pss_cons (ps_set (i := 4) sc_law_read.nd rfl (.inl rfl) (pe_op (k_add (K := K) rfl) (pv 3) pe_int))
  (pss_cons (ps_if (pw_and (pt_cmpR (k_eq (K := K) rfl hr.units) (pe_ix (k_ix (K := K) rfl) (pv 0) (pv 3) (fun _ _ => rfl)) pe_str (nomark _)) (pw_and (pt_cmpR (k_ne (K := K) rfl hr.units) (pv 2) pe_str (nomark _)) (pw_and1 (pt_cmpR u_le (pe_callB (k_len (K := K) rfl) (by rfl) B.len (by decide +kernel) (pa_cons (pv 1) pa_nil)) pe_int (nomark _))))).pt
  (pss_cons (ps_expr (pe_bm PySem.F.plainAttrs_list PySem.F.slot_list_append PySem.F.type_list_append mt_append (pv 1) (pa_cons (pe_lst pa_nil) pa_nil)))
  (pss_one (ps_set (i := 2) sc_law_read.nd rfl (.inl rfl) pe_str)))
  (pss_one (ps_if (pw_and (pt_cmpR (k_eq (K := K) rfl hr.units) (pe_ix (k_ix (K := K) rfl) (pv 0) (pv 3) (fun _ _ => rfl)) pe_str (nomark _)) (pw_and (pt_cmpR (k_ne (K := K) rfl hr.units) (pv 2) pe_str (nomark _)) (pw_and1 (pt_cmpR u_gt (pe_callB (k_len (K := K) rfl) (by rfl) B.len (by decide +kernel) (pa_cons (pv 1) pa_nil)) pe_int (nomark _))))).pt
  (pss_cons (ps_set (i := 5) sc_law_read.nd rfl (.inl rfl) (pe_bm0 PySem.F.plainAttrs_list PySem.F.slot_list_pop PySem.F.type_list_pop mt_pop (pv 1)))
  (pss_cons (ps_if (pt_cmpR u_gt (pe_callB (k_len (K := K) rfl) (by rfl) B.len (by decide +kernel) (pa_cons (pv 5) pa_nil)) pe_int (nomark _))
  (pss_one (ps_ret (pe_lst pa_nil)))
  pss_nil)
  (pss_cons (ps_expr (pe_bm PySem.F.plainAttrs_list PySem.F.slot_list_append PySem.F.type_list_append mt_append (pe_ix (k_ix (K := K) rfl) (pv 1) (pe_un u_neg pe_int) (fun _ _ => rfl)) (pa_cons (pe_callTy (k_tuple (K := K) rfl) (by rfl) B.tuple (by decide +kernel) (pa_cons (pv 5) pa_nil)) pa_nil)))
  (pss_one (ps_set (i := 2) sc_law_read.nd rfl (.inl rfl) pe_str)))))
  (pss_one (ps_if (pw_and (pt_cmpR (k_eq (K := K) rfl hr.units) (pe_ix (k_ix (K := K) rfl) (pv 0) (pv 3) (fun _ _ => rfl)) pe_str (nomark _)) (pw_and (pt_cmpR (k_eq (K := K) rfl hr.units) (pv 2) pe_str (nomark _)) (pw_and1 (pt_cmpR u_gt (pe_callB (k_len (K := K) rfl) (by rfl) B.len (by decide +kernel) (pa_cons (pv 1) pa_nil)) pe_int (nomark _))))).pt
  (pss_one (ps_set (i := 2) sc_law_read.nd rfl (.inl rfl) pe_str))
  (pss_one (ps_if (pw_and (pt_cmpR (k_notin (K := K) rfl) (pe_ix (k_ix (K := K) rfl) (pv 0) (pv 3) (fun _ _ => rfl)) pe_str rfl) (pw_and1 (pt_cmpR (k_ne (K := K) rfl hr.units) (pv 2) pe_str (nomark _)))).pt
  (C8.pss_cut (ps_while PassesOwn.never (pw_and (pt_cmpR u_lt (pv 4) (pe_callB (k_len (K := K) rfl) (by rfl) B.len (by decide +kernel) (pa_cons (pv 0) pa_nil)) (nomark _)) (pw_and1 (pt_cmpR (k_notin (K := K) rfl) (pe_ix (k_ix (K := K) rfl) (pv 0) (pv 4) (fun _ _ => rfl)) pe_str rfl))).pt
  (pss_one (ps_set (i := 4) sc_law_read.nd rfl (.inl rfl) (pe_op (k_add (K := K) rfl) (pv 4) pe_int))))
  (pss_cons (ps_set (i := 6) sc_law_read.nd rfl (.inl rfl) (pe_has O.law_read_atom hr (by rfl) pass0 (pa_cons (pe_slice (k_sl (K := K) rfl) (pv 0) (po_some (pv 3)) (po_some (pv 4))) pa_nil)))
  (pss_cons (ps_if (pt_not (k_truth (K := K) rfl (pv 6)))
  (pss_one (ps_ret (pe_lst pa_nil)))
  pss_nil)
  (pss_cons (ps_expr (pe_bm PySem.F.plainAttrs_list PySem.F.slot_list_append PySem.F.type_list_append mt_append (pe_ix (k_ix (K := K) rfl) (pv 1) (pe_un u_neg pe_int) (fun _ _ => rfl)) (pa_cons (pe_ix (k_ix (K := K) rfl) (pv 6) pe_int (fun _ _ => rfl)) pa_nil)))
  (pss_one (ps_set (i := 2) sc_law_read.nd rfl (.inl rfl) pe_str))))))
  (pss_one (ps_ret (pe_lst pa_nil))))))))))
  (pss_one (ps_set (i := 3) sc_law_read.nd rfl (.inl rfl) (pv 4))))))
  (pss_cons (ps_if (pw_and (pt_cmpR (k_eq (K := K) rfl hr.units) (pv 2) pe_str (nomark _)) (pw_and1 (pt_cmpR (k_eq (K := K) rfl hr.units) (pe_callB (k_len (K := K) rfl) (by rfl) B.len (by decide +kernel) (pa_cons (pv 1) pa_nil)) pe_int (nomark _)))).pt
  (pss_one (ps_ret (pe_ix (k_ix (K := K) rfl) (pv 1) pe_int (fun _ _ => rfl))))
  pss_nil)
  (pss_one (ps_ret (pe_lst pa_nil)))))))), ?_⟩
    walk_at "go"
    refine ⟨Nat.zero_le _, fun a0 ha0 => ?_⟩
    walk_at "go"
    refine ⟨by show 1 ≤ sizeLine; omega, fun u hu => ?_⟩
    have hua : u ≠ a0 := fun z => by subst z; rw [upd_same] at hu; cases hu
    have hu0 : H u = none := by rw [upd_ne hua] at hu; exact hu
    walk_at "go"
    have none_ : ∀ {H' d}, Same H H' → H' d = none → lread l = none → Q (.ref d) (upd H' d (.lst [])) := fun {H' d} s hd h => q _ _ (same_mut s (s.free hd)) ⟨d, rfl, by rw [h]; exact upd_same⟩
    refine while_go (RI H l u) ⟨l.length, none, none, none, 0, 0, [a0], [[]], rfl, Nat.zero_le _, rfl, upd_same, .cons (at_other (Ne.symm hua) upd_same) .nil (by simp) .nil, ?_, ?_, same_mut (same_new ha0) hu0, rfl, ⟨by decide, .inl ⟨rfl, by decide⟩⟩, by simp [szS, txr]⟩ (fun n σ H1 h => ?_)
    · simpa using hua
    · intro a ha
      rw [List.mem_singleton.mp ha]
      exact ha0
    · obtain ⟨y4, y5, y6, qn, k, as, st, rfl, g1, g2, g3, g4, g5, g6, g7, g8, g9, g10⟩ := h
      have hal := g4.len
      have hrl : (rfs as).length = as.length := rfs_len as
      have hst1 := g9.ne
      walk_at "go"
      refine s_dec (fun h1 => ?_) (fun h1 => ?_)
      · have hk : k < l.length := by omega
        refine s_turn ?_
        obtain ⟨c, hc⟩ : ∃ c, l[k]? = some c := ⟨_, List.getElem?_eq_getElem hk⟩
        have hv : atI l (k : Int) = some c := at_ofN rfl hc
        obtain ⟨r, hr⟩ : ∃ r, l.drop k = c :: r := by
          obtain ⟨h2, e⟩ := List.getElem?_eq_some_iff.mp hc
          exact ⟨_, by rw [List.drop_eq_getElem_cons h2, e]⟩
        have hr1 : l.drop (k + 1) = r := by rw [← List.drop_drop, hr]; rfl
        have hrl2 : r.length = l.length - (k + 1) := by rw [← hr1, List.length_drop]
        rw [hr, lr_cons] at g8
        have e40 : (SX.S [c] = Str.ofString "(") ↔ c = 40 := ⟨fun z => by have := SX.S_inj (a := [c]) (b := [40]) z; cases this; rfl, fun z => by subst z; rfl⟩
        have e41 : (SX.S [c] = Str.ofString ")") ↔ c = 41 := ⟨fun z => by have := SX.S_inj (a := [c]) (b := [41]) z; cases this; rfl, fun z => by subst z; rfl⟩
        have e32 : (SX.S [c] = Str.ofString " ") ↔ c = 32 := ⟨fun z => by have := SX.S_inj (a := [c]) (b := [32]) z; cases this; rfl, fun z => by subst z; rfl⟩
        have qe : (qS qn = Str.ofString "end") ↔ qn = 2 := by rw [q_end]; have := g9.1; omega
        have qb : (qS qn = Str.ofString "begin") ↔ qn = 0 := q_begin
        have rl : (rfs as).length = st.length := by omega
        walk_at "go"
        by_cases c40 : c = 40
        · subst c40
          have t40 := e40.mpr rfl
          by_cases hq : qn ≠ 2 ∧ st.length ≤ 40
          · refine s_dec (fun hx_ => ?_) (fun z => absurd t40 z)
            walk_at "go"
            refine s_ndec (fun hx_ => ?_) (fun z => absurd (qe.mp z) hq.1)
            walk_at "go"
            refine s_dec (fun hx_ => ?_) (fun z => by omega)
            walk_at "go"
            refine ⟨Nat.zero_le _, fun d hd => ?_⟩
            have hdu : d ≠ u := fun z => by subst z; rw [g3] at hd; cases hd
            have hda : d ∉ as := fun z => by
              obtain ⟨vs, e⟩ := g4.at z
              rw [e] at hd
              cases hd
            have hd0 : H d = none := g7.free hd
            walk_at "go"
            have t1 : Tp H1 (upd (upd H1 d (HO.lst [])) u (HO.lst (rfs as ++ [V.ref d]))) := ((Tp.refl H1).new hd).put (at_other (Ne.symm hdu) g3)
            refine ⟨l.length - (k + 1), by omega, _, _, _, 1, k + 1, d :: as, [] :: st, rfl, by omega, rfl, ?_, .cons (at_other hdu upd_same) .nil hda (g4.kept t1 fun a ha => ?_), ?_, ?_, same_mut (same_mut g7 hd0) hu0, ?_, g9.opn hq.1, ?_⟩
            · rw [upd_same, rfs_cons]
            · have n1 : a ≠ u := fun z => g5 (z ▸ ha)
              have n2 : a ≠ d := fun z => hda (z ▸ ha)
              rw [upd_ne n1, upd_ne n2]
            · simp only [List.mem_cons, not_or]
              exact ⟨Ne.symm hdu, g5⟩
            · intro a ha
              rcases List.mem_cons.mp ha with ha | ha
              · rw [ha]
                exact hd0
              · exact g6 a ha
            · rw [g8, if_pos ⟨rfl, hq⟩, hr1]
            · rw [sz_open]
              omega
          · refine s_dec (fun hx_ => ?_) (fun z => absurd t40 z)
            walk_at "go"
            refine s_ndec (fun h2 => ?_) (fun hx_ => ?_)
            · walk_at "go"
              refine s_dec (fun h3 => absurd ⟨fun z => h2 (qe.mpr z), by omega⟩ hq) (fun hx_ => ?_)
              walk_at "go"
              refine s_dec (fun z => absurd (e41.mp z) (by decide)) (fun hx_ => ?_)
              walk_at "go"
              refine s_dec (fun z => absurd (e32.mp z) (by decide)) (fun hx_ => ?_)
              walk_at "go"
              rw [in_nd, show nd 40 = false from rfl]
              walk_at "go"
              refine ⟨Nat.zero_le _, fun d hd => none_ g7 hd ?_⟩
              rw [g8, if_neg (fun z => hq z.2), if_neg (fun z => absurd z.1 (by decide)), if_neg (fun z => absurd z.1 (by decide)), if_neg (fun z => absurd z.1 (by decide))]
            · walk_at "go"
              refine s_dec (fun z => absurd (e41.mp z) (by decide)) (fun hx_ => ?_)
              walk_at "go"
              refine s_dec (fun z => absurd (e32.mp z) (by decide)) (fun hx_ => ?_)
              walk_at "go"
              rw [in_nd, show nd 40 = false from rfl]
              walk_at "go"
              refine ⟨Nat.zero_le _, fun d hd => none_ g7 hd ?_⟩
              rw [g8, if_neg (fun z => hq z.2), if_neg (fun z => absurd z.1 (by decide)), if_neg (fun z => absurd z.1 (by decide)), if_neg (fun z => absurd z.1 (by decide))]
        · refine s_dec (fun z => absurd (e40.mp z) c40) (fun hx_ => ?_)
          rw [if_neg (fun z => c40 z.1)] at g8
          walk_at "go"
          by_cases c41 : c = 41
          · subst c41
            have t41 := e41.mpr rfl
            by_cases hq : qn ≠ 0 ∧ 1 < st.length
            · refine s_dec (fun hx_ => ?_) (fun z => absurd t41 z)
              walk_at "go"
              refine s_ndec (fun hx_ => ?_) (fun z => absurd (qb.mp z) hq.1)
              walk_at "go"
              refine s_dec (fun hx_ => ?_) (fun z => by omega)
              rw [if_pos ⟨rfl, hq⟩] at g8
              cases g4 with
              | nil => exact absurd hst1 (by decide)
              | cons ea fa na g4 =>
                rename_i a as vs top st
                cases g4 with
                | nil => exact absurd hq.2 (by simp)
                | cons eb fb nb g4 =>
                  rename_i b as vb nxt st
                  rw [rfs_cons] at g3
                  have hau : a ≠ u := fun z => g5 (by rw [z]; exact List.mem_cons_self ..)
                  have hbu : b ≠ u := fun z => g5 (by rw [z]; simp)
                  have hba : b ≠ a := fun z => na (by rw [z]; simp)
                  have hvl := fa.len
                  have hbl := fb.len
                  have g8' : lread l = if 5000 < top.length then none else lrun ((nxt ++ [.t top]) :: st) 2 r := g8
                  walk_at "go"
                  refine s_dec (fun h4 => ?_) (fun h4 => ?_)
                  · walk_at "go"
                    refine ⟨Nat.zero_le _, fun d hd => none_ (same_mut g7 hu0) hd ?_⟩
                    rw [g8', if_pos (by omega)]
                  · walk_at "go"
                    rw [rfs_cons]
                    have hat2 := atI_last (rfs as) (V.ref b)
                    walk_at "go"
                    refine s_tupL (SqL.of (at_other hau ea)) (fun d hd => ?_)
                    have hdu : d ≠ u := fun z => by subst z; rw [upd_same] at hd; cases hd
                    have hd1 : H1 d = none := by rw [upd_ne hdu] at hd; exact hd
                    have hdb : d ≠ b := fun z => by subst z; rw [eb] at hd1; cases hd1
                    have hd0 : H d = none := g7.free hd1
                    have hb0 : H b = none := g6 b (by simp)
                    have vbl : vb.length < sizeLine := by
                      have t3 := txr_ge nxt
                      simp only [szS] at g10
                      omega
                    walk_at "go"
                    have t1 : Tp H1 (upd (upd H1 u (HO.lst (rfs as ++ [V.ref b]))) d (HO.tup vs)) := ((Tp.refl H1).put g3).new hd
                    have k2 : Stk (upd (upd H1 u (HO.lst (rfs as ++ [V.ref b]))) d (HO.tup vs)) (b :: as) (nxt :: st) := (Stk.cons eb fb nb g4).kept t1 fun c hc => by
                      have n1 : c ≠ u := fun z => g5 (by rw [← z]; exact List.mem_cons_of_mem _ hc)
                      obtain ⟨_, ec⟩ := (Stk.cons eb fb nb g4).at hc
                      have n2 : c ≠ d := fun z => by subst z; rw [ec] at hd1; cases hd1
                      rw [upd_ne n2, upd_ne n1]
                    refine ⟨l.length - (k + 1), by omega, _, _, _, 2, k + 1, b :: as, (nxt ++ [.t top]) :: st, rfl, by omega, rfl, ?_, k2.push (at_other (Ne.symm hdb) (at_other hbu eb)) (.t upd_same (Fms.kept t1 _ _ fa)), ?_, ?_, same_mut (same_mut (same_mut g7 hu0) hd0) hb0, ?_, g9.cls, ?_⟩
                    · rw [rfs_cons]
                      exact at_other (Ne.symm hbu) (at_other (Ne.symm hdu) upd_same)
                    · exact fun z => g5 (List.mem_cons_of_mem _ z)
                    · exact fun c hc => g6 c (List.mem_cons_of_mem _ hc)
                    · rw [g8', if_neg (by omega), hr1]
                    · have := sz_close (top := top) (nxt := nxt) (st := st)
                      omega
            · refine s_dec (fun hx_ => ?_) (fun z => absurd t41 z)
              walk_at "go"
              refine s_ndec (fun h2 => ?_) (fun hx_ => ?_)
              · walk_at "go"
                refine s_dec (fun h3 => absurd ⟨fun z => h2 (qb.mpr z), by omega⟩ hq) (fun hx_ => ?_)
                walk_at "go"
                refine s_dec (fun z => absurd (e32.mp z) (by decide)) (fun hx_ => ?_)
                walk_at "go"
                rw [in_nd, show nd 41 = false from rfl]
                walk_at "go"
                refine ⟨Nat.zero_le _, fun d hd => none_ g7 hd ?_⟩
                rw [g8, if_neg (fun z => hq z.2), if_neg (fun z => absurd z.1 (by decide)), if_neg (fun z => absurd z.1 (by decide))]
              · walk_at "go"
                refine s_dec (fun z => absurd (e32.mp z) (by decide)) (fun hx_ => ?_)
                walk_at "go"
                rw [in_nd, show nd 41 = false from rfl]
                walk_at "go"
                refine ⟨Nat.zero_le _, fun d hd => none_ g7 hd ?_⟩
                rw [g8, if_neg (fun z => hq z.2), if_neg (fun z => absurd z.1 (by decide)), if_neg (fun z => absurd z.1 (by decide))]
          · refine s_dec (fun z => absurd (e41.mp z) c41) (fun hx_ => ?_)
            rw [if_neg (fun z => c41 z.1)] at g8
            walk_at "go"
            by_cases c32 : c = 32
            · subst c32
              have t32 := e32.mpr rfl
              by_cases hq : qn = 2 ∧ 1 < st.length
              · refine s_dec (fun hx_ => ?_) (fun z => absurd t32 z)
                walk_at "go"
                refine s_dec (fun hx_ => ?_) (fun z => absurd (qe.mpr hq.1) z)
                walk_at "go"
                refine s_dec (fun hx_ => ?_) (fun z => by omega)
                walk_at "go"
                exact ⟨l.length - (k + 1), by omega, _, _, _, 0, k + 1, as, st, rfl, by omega, rfl, g3, g4, g5, g6, g7, by rw [g8, if_pos ⟨rfl, hq⟩, hr1], g9.blk hq.2, by omega⟩
              · refine s_dec (fun hx_ => ?_) (fun z => absurd t32 z)
                walk_at "go"
                refine s_dec (fun h2 => ?_) (fun hx_ => ?_)
                · walk_at "go"
                  refine s_dec (fun h3 => absurd ⟨qe.mp h2, by omega⟩ hq) (fun hx_ => ?_)
                  walk_at "go"
                  rw [in_nd, show nd 32 = false from rfl]
                  walk_at "go"
                  refine ⟨Nat.zero_le _, fun d hd => none_ g7 hd ?_⟩
                  rw [g8, if_neg (fun z => hq z.2), if_neg (fun z => absurd z.1 (by decide))]
                · walk_at "go"
                  rw [in_nd, show nd 32 = false from rfl]
                  walk_at "go"
                  refine ⟨Nat.zero_le _, fun d hd => none_ g7 hd ?_⟩
                  rw [g8, if_neg (fun z => hq z.2), if_neg (fun z => absurd z.1 (by decide))]
            · refine s_dec (fun z => absurd (e32.mp z) c32) (fun hx_ => ?_)
              rw [if_neg (fun z => c32 z.1)] at g8
              have hnd : nd c = true := by simp [nd, c40, c41, c32]
              walk_at "go"
              rw [in_nd, hnd]
              walk_at "go"
              by_cases hq : qn ≠ 2
              · refine s_ndec (fun hx_ => ?_) (fun z => absurd (qe.mp z) hq)
                rw [if_pos ⟨hnd, hq⟩] at g8
                walk_at "go"
                generalize htw : (r.takeWhile nd).length = tw at *
                have htwl : tw ≤ r.length := htw ▸ tw_len r
                have lat : ∀ m, l[k + 1 + m]? = r[m]? := fun m => by rw [← hr1, List.getElem?_drop]
                refine s_cut (fun σ H2 => ∃ z : Int, σ = [some (.str (SX.S l)), some (.ref u), some (.str (qS qn)), some (.int (k : Int)), some (.int z), y5, y6] ∧ z = (k : Int) + 1 + (tw : Int) ∧ H2 = H1) ?_ (fun σ H2 hI => ?_)
                · refine while_go (fun n2 σ H2 => ∃ (z : Int) (m : Nat), σ = [some (.str (SX.S l)), some (.ref u), some (.str (qS qn)), some (.int (k : Int)), some (.int z), y5, y6] ∧ z = (k : Int) + 1 + (m : Int) ∧ H2 = H1 ∧ m ≤ tw ∧ n2 = tw - m) ⟨tw, _, 0, rfl, by omega, rfl, by omega, by omega⟩ (fun n2 σ H2 hI => ?_)
                  obtain ⟨z, m, rfl, hz, rfl, hm, hn2⟩ := hI
                  walk_at "go"
                  refine s_dec (fun h5 => ?_) (fun h5 => ?_)
                  · obtain ⟨d, hd⟩ : ∃ d, l[k + 1 + m]? = some d := ⟨_, List.getElem?_eq_getElem (by omega)⟩
                    have hv2 : atI l z = some d := at_ofN (j := k + 1 + m) (by omega) hd
                    rw [lat] at hd
                    walk_at "go"
                    rw [in_nd]
                    refine s_bool (fun h6 => ?_) (fun h6 => ?_)
                    · have hm2 : m < tw := by
                        rcases Nat.lt_or_ge m tw with q | q
                        · exact q
                        · have e : m = tw := by omega
                          rcases tw_end r with h | ⟨d2, h, e2⟩
                          · have := (List.getElem?_eq_some_iff.mp hd).1
                            omega
                          · rw [htw, ← e, hd] at h
                            cases h
                            rw [h6] at e2
                            cases e2
                      refine s_turn ?_
                      walk_at "go"
                      exact ⟨tw - (m + 1), by omega, _, m + 1, rfl, by omega, rfl, by omega, rfl⟩
                    · refine ⟨z, rfl, ?_, rfl⟩
                      rcases Nat.lt_or_ge m tw with q | q
                      · obtain ⟨d2, h, e2⟩ := tw_at (r := r) (m := m) (by omega)
                        rw [hd] at h
                        cases h
                        rw [h6] at e2
                        cases e2
                      · omega
                  · walk_at "go"
                    exact ⟨z, rfl, by omega, rfl⟩
                · obtain ⟨z, rfl, hz, rfl⟩ := hI
                  have hw : (l.drop ((k : Int)).toNat).take (z.toNat - ((k : Int)).toNat) = c :: r.takeWhile nd := by
                    rw [Int.toNat_natCast, hr, show z.toNat - k = tw + 1 by omega, List.take_succ_cons, ← htw, tw_take]
                  have hwl : (c :: r.takeWhile nd).length = tw + 1 := by rw [List.length_cons, htw]
                  have hdr : l.drop (k + 1 + tw) = r.dropWhile nd := by
                    rw [← List.drop_drop, hr1, ← htw, tw_drop]
                  walk_at "go"
                  rw [hw]
                  refine ⟨_, rfl, by simp, by omega, fun v H3 s3 hv3 => ?_⟩
                  obtain ⟨d, rfl, hv3⟩ := hv3
                  have t3 := Tp.of s3
                  cases hat : atom (c :: r.takeWhile nd) with
                  | none =>
                    rw [hat] at hv3 g8
                    have hv4 : H3 d = some (.lst []) := hv3
                    walk_at "go"
                    rw [show (!([] : List V).isEmpty) = false from rfl]
                    walk_at "go"
                    exact ⟨Nat.zero_le _, fun e he => none_ (g7.trans s3) he g8⟩
                  | some f =>
                    rw [hat] at hv3 g8
                    obtain ⟨x, hv4, hxf⟩ := hv3
                    have g8' : lread l = lrun (push1 f st) 2 (r.dropWhile nd) := g8
                    have hfx : tx f = c :: r.takeWhile nd := (atom_sound hat).2
                    have hsp := sz_push (f := f) (st := st)
                    rw [hfx, hwl] at hsp
                    have hB := g9.wrd (f := f) hq
                    have hat0 : atI [x] 0 = some x := at_ofN (j := 0) rfl rfl
                    cases g4 with
                    | nil => exact absurd hst1 (by decide)
                    | cons ea fa na g4 =>
                      rename_i a as vs top st
                      rw [rfs_cons] at g3
                      have hat2 := atI_last (rfs as) (V.ref a)
                      have hau : a ≠ u := fun z => g5 (by rw [z]; exact List.mem_cons_self ..)
                      have ha0' : H a = none := g6 a (List.mem_cons_self ..)
                      have ea2 := s3 _ _ ea
                      have gu2 := s3 _ _ g3
                      have fl := fa.len
                      have vbl : vs.length < sizeLine := by
                        have t3 := txr_ge top
                        simp only [szS] at g10
                        omega
                      walk_at "go"
                      rw [show (!([x] : List V).isEmpty) = true from rfl]
                      walk_at "go"
                      have k2 : Stk H3 (a :: as) (top :: st) := (Stk.cons ea fa na g4).kept t3 fun e he => by
                        obtain ⟨_, ec⟩ := (Stk.cons ea fa na g4).at he
                        rw [ec]
                        exact s3 _ _ ec
                      refine ⟨l.length - (k + 1 + tw), by omega, some (.int z), y5, some (.ref d), 2, k + 1 + tw, a :: as, (top ++ [f]) :: st, ?_, by omega, rfl, ?_, k2.push ea2 hxf, g5, g6, same_mut (g7.trans s3) ha0', ?_, hB, ?_⟩
                      · rw [show ((k + 1 + tw : Nat) : Int) = z by omega]
                        rfl
                      · rw [rfs_cons]
                        exact at_other (Ne.symm hau) gu2
                      · rw [g8', hdr]
                        rfl
                      · show szS (push1 f (top :: st)) ≤ _
                        omega
              · refine s_ndec (fun z => absurd (qe.mpr (Decidable.not_not.mp hq)) z) (fun hx_ => ?_)
                walk_at "go"
                refine ⟨Nat.zero_le _, fun d hd => none_ g7 hd ?_⟩
                rw [g8, if_neg (fun z => hq z.2)]
      · walk_at "go"
        have hk : k = l.length := by omega
        subst hk
        rw [List.drop_length, lr_nil] at g8
        have qe : (qS qn = Str.ofString "end") ↔ qn = 2 := by rw [q_end]; have := g9.1; omega
        have rl : (rfs as).length = st.length := by omega
        refine s_dec (fun h2 => ?_) (fun h2 => ?_)
        · walk_at "go"
          rw [if_pos (qe.mp h2)] at g8
          refine s_dec (fun h3 => ?_) (fun h3 => ?_)
          · obtain ⟨f, rfl⟩ := g9.fin (qe.mp h2) (by omega)
            cases g4 with
            | cons ea fa na g4 =>
              rename_i a as vs
              cases g4 with
              | nil =>
                obtain ⟨v, rfl, hv⟩ := fa.one
                have hat : atI (rfs [a]) 0 = some (V.ref a) := at_ofN (j := 0) rfl rfl
                walk_at "go"
                exact q _ _ g7 ⟨a, rfl, by rw [g8]; exact ⟨v, ea, hv⟩⟩
          · walk_at "go"
            refine ⟨Nat.zero_le _, fun d hd => none_ g7 hd ?_⟩
            rw [g8]
            match st, hst1, rl with
            | [a], _, rl => exact absurd (by rw [rl]; rfl) h3
            | [] :: _ :: _, _, _ => rfl
            | (_ :: _) :: _ :: _, _, _ => rfl
        · walk_at "go"
          refine ⟨Nat.zero_le _, fun d hd => none_ g7 hd ?_⟩
          rw [g8, if_neg (fun z => h2 (qe.mpr z))]
end
end K41
set_option maxRecDepth 100000
set_option maxHeartbeats 400000
namespace K41
open PySem PySem.Spec PyProof.Rows L2 J
local macro_rules | `(tactic| walk_at "ne") => `(tactic| first
  | with_reducible assumption
  | (apply Ne.symm; with_reducible assumption))
local macro_rules | `(tactic| walk_at "look") => `(tactic| first
  | with_reducible assumption
  | with_reducible exact upd_same
  | ((with_reducible refine' at_new ?ha ?hb); (case ha => with_reducible assumption); (case hb => walk_at "look"))
  | ((with_reducible refine' at_other ?ha ?hb); (case ha => walk_at "ne"); (case hb => walk_at "look"))
  | ((with_reducible refine' same_at ?ha ?hb); (case ha => with_reducible assumption); (case hb => walk_at "look")))
local macro_rules | `(tactic| walk_at "sq") => `(tactic| first
  | with_reducible assumption
  | ((with_reducible refine' SqL.of ?ha); (case ha => walk_at "look"))
  | ((with_reducible refine' sq_put ?ha ?hb); (case hb => walk_at "ne"); (case ha => walk_at "sq"))
  | ((with_reducible refine' sq_new ?ha ?hb); (case hb => with_reducible assumption); (case ha => walk_at "sq"))
  | ((with_reducible refine' sq_same ?ha ?hb); (case hb => with_reducible assumption); (case ha => walk_at "sq")))
local macro_rules | `(tactic| walk_at "qt") => `(tactic| first
  | with_reducible assumption
  | ((with_reducible refine' SqT.of ?ha); (case ha => walk_at "look")))
local macro_rules | `(tactic| walk_at "atI") => `(tactic| first
  | with_reducible assumption
  | exact rfl)
local macro_rules | `(tactic| walk_at "go") => `(tactic| repeat (first
  | ((with_reducible refine' s_var ?hv ?_); (case hv => exact rfl))
  | with_reducible refine s_c ?_
  | with_reducible refine s_op ?_
  | with_reducible refine s_test ?_
  | with_reducible refine s_ex ?_
  | with_reducible refine s_seq ?_
  | with_reducible refine s_asg ?_
  | with_reducible refine s_name ?_
  | with_reducible refine s_if ?_
  | with_reducible refine s_next ?_
  | with_reducible refine s_cb ?_
  | with_reducible refine s_call ?_
  | with_reducible refine s_cons ?_
  | with_reducible refine s_nil ?_
  | with_reducible refine s_and ?_
  | with_reducible refine s_or ?_
  | with_reducible refine s_not ?_
  | with_reducible refine s_chain ?_
  | with_reducible refine s_andV ?_
  | with_reducible refine s_orV ?_
  | with_reducible refine s_un ?_
  | with_reducible refine s_drop ?_
  | with_reducible refine s_ret ?_
  | with_reducible refine s_retN ?_
  | with_reducible refine s_gsub ?_
  | with_reducible refine s_tup ?_
  | with_reducible refine s_lst ?_
  | with_reducible refine s_bm ?_
  | with_reducible refine s_bm0 ?_
  | with_reducible refine s_sl ?_
  | with_reducible refine s_nopart ?_
  | with_reducible refine s_part ?_
  | with_reducible refine s_exi ?_
  | with_reducible refine s_cont ?_
  | with_reducible refine s_break ?_
  | with_reducible refine s_ifE ?_
  | with_reducible refine s_m1 ?_
  | with_reducible refine iteT ?_
  | with_reducible refine iteF ?_
  | with_reducible refine s_iteNT ?_
  | with_reducible refine s_iteNF ?_
  | with_reducible refine s_addI ?_
  | with_reducible refine s_I1 ?_
  | with_reducible refine s_eqI ?_
  | with_reducible refine s_eqS ?_
  | with_reducible refine s_eqB ?_
  | with_reducible refine s_neI ?_
  | with_reducible refine s_neS ?_
  | with_reducible refine s_neg ?_
  | with_reducible refine s_is ?_
  | with_reducible refine s_isnt ?_
  | with_reducible refine s_intI ?_
  | with_reducible refine s_intB ?_
  | with_reducible refine s_strS ?_
  | with_reducible refine s_tyS ?_
  | with_reducible refine s_exS ?_
  | ((with_reducible refine' s_ty ?hs ?_); (case hs => walk_at "look"))
  | with_reducible refine s_abs ?_
  | ((with_reducible refine' s_append ?hs ?hl ?_); (case hs => walk_at "look"); (case hl => first | assumption | omega | (simp only [List.length_append, List.length_cons, List.length_nil, List.length_map]; omega)))
  | ((with_reducible refine' s_popS ?hs ?_); (case hs => walk_at "look"))
  | ((with_reducible refine' s_strN ?hs ?_); (case hs => assumption))
  | with_reducible refine s_iRev ?_
  | with_reducible refine s_rng1 ?_
  | with_reducible refine s_rng2 ?_
  | with_reducible refine s_xf ?_
  | with_reducible refine s_rz ?_
  | with_reducible refine s_callS ?_
  | with_reducible refine s_repl ?_
  | with_reducible refine s_rg1 ?_
  | with_reducible refine isi_ss ?_
  | with_reducible refine s_tru ?_
  | with_reducible refine s_truB ?_
  | ((with_reducible refine' s_truL ?hs ?_); (case hs => walk_at "sq"))
  | with_reducible refine isi_is ?_
  | with_reducible refine isi_st ?_
  | with_reducible refine isi_it ?_
  | ((with_reducible refine' isi_tt ?hs ?_); (case hs => walk_at "look"))
  | with_reducible refine s_lc ?_
  | with_reducible refine s_forS ?_
  | with_reducible refine i_str ?_
  | with_reducible refine i_list ?_
  | with_reducible refine i_tup ?_
  | with_reducible refine s_exx ?_
  | with_reducible refine s_inS ?_
  | with_reducible refine s_ninS ?_
  | ((with_reducible refine' s_slTake ?hs ?hk ?_); (case hs => first | assumption | omega); (case hk => first | decide | omega))
  | ((with_reducible refine' s_slDrop ?hs ?hk ?_); (case hs => first | assumption | omega); (case hk => first | decide | omega))
  | ((with_reducible refine' s_slMid ?hs ?hk ?hk2 ?_); (case hs => first | assumption | omega); (case hk => first | decide | omega); (case hk2 => first | decide | omega))
  | ((with_reducible refine' s_ixX ?hs ?he ?_); (case hs => first | assumption | omega); (case he => walk_at "atI"))
  | ((with_reducible refine' s_lenX ?hs ?_); (case hs => first | assumption | omega))
  | ((with_reducible refine' s_all ?hs ?_); (case hs => walk_at "sq"))
  | with_reducible refine s_max ?_
  | with_reducible refine s_min ?_
  | ((with_reducible refine' s_ixL ?hs ?he ?_); (case hs => walk_at "sq"); (case he => walk_at "atI"))
  | ((with_reducible refine' s_ixT ?hs ?he ?_); (case hs => walk_at "qt"); (case he => walk_at "atI"))
  | ((with_reducible refine' s_lenL ?hs ?_); (case hs => walk_at "sq"))
  | ((with_reducible refine' s_lenT ?hs ?_); (case hs => walk_at "qt"))
  | ((with_reducible refine' s_setL ?hs ?he ?_); (case hs => walk_at "look"); (case he => walk_at "atI"))
  | ((with_reducible refine' s_mulI ?hs ?_); (case hs => first | exact .inr ⟨by decide, by decide⟩ | exact .inl ⟨by decide, by decide⟩ | assumption | exact .inl ⟨by omega, by omega⟩ | exact .inr ⟨by omega, by omega⟩))
  | ((with_reducible refine' s_I2 ?hs ?_); (case hs => first | assumption | exact (by decide) | exact ⟨by decide, by decide⟩ | exact ⟨by decide, by decide, by decide⟩))))

/-- the list due for the text l stands at v -/
def spRR : Sp := fun vs H Q _ => ∃ l v, vs = [.str (SX.S l), v] ∧ l.length ≤ 100000 ∧ LV H (parseP 40 5000 l) v ∧ ∀ H', Same H H' → Q (.bl true) H'
structure O7 (P : Program) (w : World) (K : PySem.W.Frag) (mg : Str → Option Value) (base : Heap) : Prop where
  law_told : Has P w K mg base CX0 "_law_told" ["text"] 5 spTold
def txtD : PyData := .tuple [.str (Str.ofString "text"), .int 1]
theorem txt_shaped : SeqAt.shaped txtD = true := by decide +kernel
theorem txt_eqv : PyData.eqv txtD txtD = true := by decide +kernel
theorem txt_dp {K : PySem.W.Frag} {H : Hp} {a : Addr} (h : H a = some (.tup [.str "text", .int 1])) : Dp K H (.ref a) txtD := .tup (SqT.of h) (.cons (.str _) (.cons (.int _) .nil))
theorem one_dp {K : PySem.W.Frag} {H : Hp} {a : Addr} {u : V} {f : F} (h : H a = some (.lst [u])) (hf : Fm H u f) : Dp K H (.ref a) (.list [toD f]) := .lst (SqL.of h) (.cons (Fm.dp f u hf) .nil)
section
variable {P : Program} {w : World} {K : PySem.W.Frag} {mg : Str → Option Value} {base : Heap}
abbrev s_law_read_right : Stmt := topS 31
abbrev N_law_read_right : List Str := ["text", "due", "told"]
theorem sc_law_read_right : FnScope N_law_read_right ["text", "due"] (defScope s_law_read_right) := ⟨rfl, rfl, rfl, by decide +kernel, rfl, by decide +kernel, by decide +kernel⟩
theorem ok_read_right {f : Addr} {fd : FuncData} (Fn : Fun K "_law_read_right" "_law_read_right" s_law_read_right f fd) (B : Bn mg) (O : O7 P w K mg base) : FnG P w K mg base 6 f fd ["text", "due"] spRR := by
  refine okG Fn sc_law_read_right (fun vs H Q E h => ?_) (fun cdv A outer s H vs Q gd hr h => ?_)
  · obtain ⟨l, v, rfl, _⟩ := h
    rfl
  · obtain ⟨l, v, rfl, hl, hv, q⟩ := h
    have sz : sizeLine = 16777216 := sizeLine_eq
    refine ⟨_, (pss_cons (ps_set (i := 2) sc_law_read_right.nd rfl (.inl rfl) (pe_has O.law_told hr (by rfl) pass0 (pa_cons (pv 0) pa_nil)))
  (pss_cons (ps_if (pt_not (k_truth (K := K) rfl (pv 1)))
  (pss_one (ps_ret (pe_cmpR (k_eq (K := K) rfl hr.units) (pv 2) (pe_tup (pa_cons pe_str (pa_cons pe_int pa_nil))) (nomark _))))
  pss_nil)
  (pss_one (ps_ret (pe_and (pe_cmpR (k_eq (K := K) rfl hr.units) (pv 2) (pv 1) (nomark _)) (pe_one (pe_cmpR (k_eq (K := K) rfl hr.units) (pe_callB (k_repr (K := K) rfl gd (u100 hr)) (by rfl) B.repr (by decide +kernel) (pa_cons (pv 2) pa_nil)) (pe_callB (k_repr (K := K) rfl gd (u100 hr)) (by rfl) B.repr (by decide +kernel) (pa_cons (pv 1) pa_nil)) (nomark _)))))))), ?_⟩
    walk_at "go"
    refine ⟨l, rfl, by omega, fun v1 H1 s1 hv1 => ?_⟩
    obtain ⟨b, rfl, hd⟩ := hv
    obtain ⟨a, rfl, ht⟩ := hv1
    rw [if_neg (by omega)] at ht
    cases hp : parseP 40 5000 l with
    | none =>
      rw [hp] at ht hd
      have ht' : H1 a = some (.tup [.str "text", .int 1]) := ht
      have hd' : H1 b = some (.lst []) := s1 _ _ hd
      walk_at "go"
      rw [show (!([] : List V).isEmpty) = false from rfl]
      walk_at "go"
      refine ⟨by show 2 ≤ sizeLine; omega, fun p hp' => ?_⟩
      refine s_eqD (d := txtD) (e := txtD) (txt_dp (at_new hp' ht')) (txt_dp upd_same) txt_shaped txt_shaped ?_
      rw [txt_eqv]
      exact q _ (same_mut s1 (s1.free hp'))
    | some f =>
      rw [hp] at ht hd
      obtain ⟨u, ht', hu⟩ := ht
      obtain ⟨u2, hd', hu2⟩ := hd
      have hd2 : H1 b = some (.lst [u2]) := s1 _ _ hd'
      have hu3 : Fm H1 u2 f := Fm.kept (Tp.of s1) f u2 hu2
      obtain ⟨hok, hx⟩ := parse_sound hp
      obtain ⟨o1, o2, o3⟩ := one_lay hok
      have o4 := one_shown hok
      rw [hx] at o4
      have o5 : PyData.depth (.list [toD f]) ≤ 64 := SeqAt.depth_of_shaped o1
      walk_at "go"
      rw [show (!([u2] : List V).isEmpty) = true from rfl]
      walk_at "go"
      refine s_eqD (one_dp ht' hu) (one_dp hd2 hu3) o1 o1 ?_
      rw [one_eqv hok]
      walk_at "go"
      refine s_repr (one_dp ht' hu) o2 o3 o5 (by omega) ?_
      walk_at "go"
      refine s_repr (one_dp hd2 hu3) o2 o3 o5 (by omega) ?_
      walk_at "go"
      rw [decide_eq_true rfl]
      exact q _ s1
end
end K41
set_option maxRecDepth 100000
set_option maxHeartbeats 400000
namespace K41
open PySem PySem.Spec PyProof.Rows L2 J
local macro_rules | `(tactic| walk_at "ne") => `(tactic| first
  | with_reducible assumption
  | (apply Ne.symm; with_reducible assumption))
local macro_rules | `(tactic| walk_at "look") => `(tactic| first
  | with_reducible assumption
  | with_reducible exact upd_same
  | ((with_reducible refine' at_new ?ha ?hb); (case ha => with_reducible assumption); (case hb => walk_at "look"))
  | ((with_reducible refine' at_other ?ha ?hb); (case ha => walk_at "ne"); (case hb => walk_at "look"))
  | ((with_reducible refine' same_at ?ha ?hb); (case ha => with_reducible assumption); (case hb => walk_at "look")))
local macro_rules | `(tactic| walk_at "sq") => `(tactic| first
  | with_reducible assumption
  | ((with_reducible refine' SqL.of ?ha); (case ha => walk_at "look"))
  | ((with_reducible refine' sq_put ?ha ?hb); (case hb => walk_at "ne"); (case ha => walk_at "sq"))
  | ((with_reducible refine' sq_new ?ha ?hb); (case hb => with_reducible assumption); (case ha => walk_at "sq"))
  | ((with_reducible refine' sq_same ?ha ?hb); (case hb => with_reducible assumption); (case ha => walk_at "sq")))
local macro_rules | `(tactic| walk_at "qt") => `(tactic| first
  | with_reducible assumption
  | ((with_reducible refine' SqT.of ?ha); (case ha => walk_at "look")))
local macro_rules | `(tactic| walk_at "atI") => `(tactic| first
  | with_reducible assumption
  | exact rfl)
local macro_rules | `(tactic| walk_at "go") => `(tactic| repeat (first
  | ((with_reducible refine' s_var ?hv ?_); (case hv => exact rfl))
  | with_reducible refine s_c ?_
  | with_reducible refine s_op ?_
  | with_reducible refine s_test ?_
  | with_reducible refine s_ex ?_
  | with_reducible refine s_seq ?_
  | with_reducible refine s_asg ?_
  | with_reducible refine s_name ?_
  | with_reducible refine s_if ?_
  | with_reducible refine s_next ?_
  | with_reducible refine s_cb ?_
  | with_reducible refine s_call ?_
  | with_reducible refine s_cons ?_
  | with_reducible refine s_nil ?_
  | with_reducible refine s_and ?_
  | with_reducible refine s_or ?_
  | with_reducible refine s_not ?_
  | with_reducible refine s_chain ?_
  | with_reducible refine s_andV ?_
  | with_reducible refine s_orV ?_
  | with_reducible refine s_un ?_
  | with_reducible refine s_drop ?_
  | with_reducible refine s_ret ?_
  | with_reducible refine s_retN ?_
  | with_reducible refine s_gsub ?_
  | with_reducible refine s_tup ?_
  | with_reducible refine s_lst ?_
  | with_reducible refine s_bm ?_
  | with_reducible refine s_bm0 ?_
  | with_reducible refine s_sl ?_
  | with_reducible refine s_nopart ?_
  | with_reducible refine s_part ?_
  | with_reducible refine s_exi ?_
  | with_reducible refine s_cont ?_
  | with_reducible refine s_break ?_
  | with_reducible refine s_ifE ?_
  | with_reducible refine s_m1 ?_
  | with_reducible refine iteT ?_
  | with_reducible refine iteF ?_
  | with_reducible refine s_iteNT ?_
  | with_reducible refine s_iteNF ?_
  | with_reducible refine s_addI ?_
  | with_reducible refine s_I1 ?_
  | with_reducible refine s_eqI ?_
  | with_reducible refine s_eqS ?_
  | with_reducible refine s_eqB ?_
  | with_reducible refine s_neI ?_
  | with_reducible refine s_neS ?_
  | with_reducible refine s_neg ?_
  | with_reducible refine s_is ?_
  | with_reducible refine s_isnt ?_
  | with_reducible refine s_intI ?_
  | with_reducible refine s_intB ?_
  | with_reducible refine s_strS ?_
  | with_reducible refine s_tyS ?_
  | with_reducible refine s_exS ?_
  | ((with_reducible refine' s_ty ?hs ?_); (case hs => walk_at "look"))
  | with_reducible refine s_abs ?_
  | ((with_reducible refine' s_append ?hs ?hl ?_); (case hs => walk_at "look"); (case hl => first | assumption | omega | (simp only [List.length_append, List.length_cons, List.length_nil, List.length_map]; omega)))
  | ((with_reducible refine' s_popS ?hs ?_); (case hs => walk_at "look"))
  | ((with_reducible refine' s_strN ?hs ?_); (case hs => assumption))
  | with_reducible refine s_iRev ?_
  | with_reducible refine s_rng1 ?_
  | with_reducible refine s_rng2 ?_
  | with_reducible refine s_xf ?_
  | with_reducible refine s_rz ?_
  | with_reducible refine s_callS ?_
  | with_reducible refine s_repl ?_
  | with_reducible refine s_rg1 ?_
  | with_reducible refine isi_ss ?_
  | with_reducible refine s_tru ?_
  | with_reducible refine s_truB ?_
  | ((with_reducible refine' s_truL ?hs ?_); (case hs => walk_at "sq"))
  | with_reducible refine isi_is ?_
  | with_reducible refine isi_st ?_
  | with_reducible refine isi_it ?_
  | ((with_reducible refine' isi_tt ?hs ?_); (case hs => walk_at "look"))
  | with_reducible refine s_lc ?_
  | with_reducible refine s_forS ?_
  | with_reducible refine i_str ?_
  | with_reducible refine i_list ?_
  | with_reducible refine i_tup ?_
  | with_reducible refine s_exx ?_
  | with_reducible refine s_inS ?_
  | with_reducible refine s_ninS ?_
  | ((with_reducible refine' s_slTake ?hs ?hk ?_); (case hs => first | assumption | omega); (case hk => first | decide | omega))
  | ((with_reducible refine' s_slDrop ?hs ?hk ?_); (case hs => first | assumption | omega); (case hk => first | decide | omega))
  | ((with_reducible refine' s_slMid ?hs ?hk ?hk2 ?_); (case hs => first | assumption | omega); (case hk => first | decide | omega); (case hk2 => first | decide | omega))
  | ((with_reducible refine' s_ixX ?hs ?he ?_); (case hs => first | assumption | omega); (case he => walk_at "atI"))
  | ((with_reducible refine' s_lenX ?hs ?_); (case hs => first | assumption | omega))
  | ((with_reducible refine' s_all ?hs ?_); (case hs => walk_at "sq"))
  | with_reducible refine s_max ?_
  | with_reducible refine s_min ?_
  | ((with_reducible refine' s_ixL ?hs ?he ?_); (case hs => walk_at "sq"); (case he => walk_at "atI"))
  | ((with_reducible refine' s_ixT ?hs ?he ?_); (case hs => walk_at "qt"); (case he => walk_at "atI"))
  | ((with_reducible refine' s_lenL ?hs ?_); (case hs => walk_at "sq"))
  | ((with_reducible refine' s_lenT ?hs ?_); (case hs => walk_at "qt"))
  | ((with_reducible refine' s_setL ?hs ?he ?_); (case hs => walk_at "look"); (case he => walk_at "atI"))
  | ((with_reducible refine' s_mulI ?hs ?_); (case hs => first | exact .inr ⟨by decide, by decide⟩ | exact .inl ⟨by decide, by decide⟩ | assumption | exact .inl ⟨by omega, by omega⟩ | exact .inr ⟨by omega, by omega⟩))
  | ((with_reducible refine' s_I2 ?hs ?_); (case hs => first | assumption | exact (by decide) | exact ⟨by decide, by decide⟩ | exact ⟨by decide, by decide, by decide⟩))))

/-- the pool: the script's ints at l, five counters -/
def Pl (K : PySem.W.Frag) (p l : Addr) (ns : List Int) (H : Hp) : Prop :=
  ∃ (a b c e f : Int), 0 ≤ a ∧ H p = some (.lst [.ref l, .int a, .int b, .int c, .int e, .int f]) ∧ SqL K H l (ns.map V.int) ∧ l ≠ p
theorem sq_add {K : PySem.W.Frag} {H H' : Hp} {l D : Addr} {xs : List V} {o : HO} (h : SqL K H l xs) (h' : SqL K H' l xs) (n : H D = none) : SqL K (upd H' D o) l xs := by
  rcases h with (h | ⟨u, h⟩) | h
  · exact sq_put h' (ne_of_none h n)
  · exact sq_put h' (ne_of_none h n)
  · exact .inr h
theorem Pl.add {K : PySem.W.Frag} {p l : Addr} {ns : List Int} {H H' : Hp} {D : Addr} {o : HO} (h : Pl K p l ns H) (h' : Pl K p l ns H') (n : H D = none) : Pl K p l ns (upd H' D o) := by
  obtain ⟨a, b, c, e, f, h1, h2, h3, h4⟩ := h
  obtain ⟨a', b', c', e', f', h1', h2', h3', h4'⟩ := h'
  exact ⟨a', b', c', e', f', h1', at_other (ne_of_none h2 n) h2', sq_add h3 h3' n, h4⟩
theorem Pl.new {K : PySem.W.Frag} {p l : Addr} {ns : List Int} {H : Hp} {D : Addr} {o : HO} (h : Pl K p l ns H) (n : H D = none) : Pl K p l ns (upd H D o) := h.add h n
theorem Pl.same {K : PySem.W.Frag} {p l : Addr} {ns : List Int} {H H' : Hp} (h : Pl K p l ns H) (s : Same H H') : Pl K p l ns H' := by
  obtain ⟨a, b, c, e, f, h1, h2, h3, h4⟩ := h
  exact ⟨a, b, c, e, f, h1, s _ _ h2, s.seq h3, h4⟩
theorem Pl.at {K : PySem.W.Frag} {p l : Addr} {ns : List Int} {H : Hp} (h : Pl K p l ns H) : ∃ xs, H p = some (.lst xs) := by
  obtain ⟨a, b, c, e, f, h1, h2, h3, h4⟩ := h
  exact ⟨_, h2⟩
theorem but_add {p D : Addr} {H H' : Hp} {o : HO} (b : But p H H') (n : H D = none) : But p H (upd H' D o) := fun c u e ne => by
  rw [upd_ne (ne_of_none e n)]
  exact b c u e ne
theorem but_add' {p D : Addr} {H H' : Hp} {o : HO} (b : But p H H') (n : H' D = none) : But p H (upd H' D o) := b.new n
theorem Pl.tp {K : PySem.W.Frag} {p l : Addr} {ns : List Int} {H H' : Hp} (h : Pl K p l ns H) (b : But p H H') : Tp H H' := by
  obtain ⟨xs, e⟩ := h.at
  exact Tp.but b e
def spDraw (K : PySem.W.Frag) : Sp := fun vs H Q _ => ∃ (p l : Addr) (ns : List Int) (m : Int), vs = [.ref p, .int m] ∧ Pl K p l ns H ∧ 0 < m ∧ m < 1073741824 ∧ ∀ (d : Nat) H', Pl K p l ns H' → But p H H' → (d : Int) < m → Q (.int (d : Int)) H'
def spStart (K : PySem.W.Frag) : Sp := fun vs H Q _ => ∃ (a : Addr) (ns : List Int), vs = [.ref a] ∧ ns.length ≤ 63 ∧ SqL K H a (ns.map V.int) ∧ ∀ p l H', Same H H' → Pl K p l ns H' → Q (.ref p) H'
section
variable {P : Program} {w : World} {K : PySem.W.Frag} {mg : Str → Option Value} {base : Heap}
abbrev s_law_start : Stmt := topS 23
abbrev N_law_start : List Str := ["script", "cell"]
theorem sc_law_start : FnScope N_law_start ["script"] (defScope s_law_start) := ⟨rfl, rfl, rfl, by decide +kernel, rfl, by decide +kernel, by decide +kernel⟩
theorem ok_start {f : Addr} {fd : FuncData} (F : Fun K "_law_start" "_law_start" s_law_start f fd) (B : Bn mg) : FnOk P w K mg base CX0 1 f fd ["script"] (spStart K) := by
  refine F.ok sc_law_start (fun vs H Q E h => ?_) (fun cdv A outer s H vs Q E hr h => ?_)
  · obtain ⟨a, ns, rfl, _⟩ := h
    rfl
  · obtain ⟨a, ns, rfl, hn, ha, q⟩ := h
    have sz : sizeLine = 16777216 := sizeLine_eq
    refine ⟨_, (pss_one (ps_ret (pe_lst (pa_cons (pe_lc (own := [("cell", 1)]) (by rfl) sc_law_start.nd (k_list (K := K) rfl (pe_slice (k_sl (K := K) rfl) (pv 0) po_none (po_some pe_int))) (blkOk_by (N := N_law_start) (sc := defScope s_law_start) (by decide +kernel)) (fun _ _ _ _ _ => (pg_name (i := 1) sc_law_start.nd rfl (.inl rfl))) (fun _ _ _ _ _ => pts_nil) (fun _ _ _ _ _ => (pe_callTy u_int (by rfl) B.int (by decide +kernel) (pa_cons (pv 1) pa_nil)))) (pa_cons pe_int (pa_cons pe_int (pa_cons pe_int (pa_cons pe_int (pa_cons pe_int pa_nil))))))))), ?_⟩
    walk_at "go"
    refine s_slL ha (fun d hd => ?_)
    have hcut : cutV (ns.map V.int) none (some 63) = ns.map V.int := by
      unfold cutV
      rw [HT.sIx_none, show (63 : Int) = ((63 : Nat) : Int) from rfl, HT.sIx_nat, List.length_map, List.drop_zero, Nat.sub_zero, Nat.min_eq_right hn, List.take_of_length_le (by rw [List.length_map]; omega)]
    rw [hcut]
    refine ⟨d, rfl, ⟨_, SqL.of upd_same⟩, ?_⟩
    refine lc_pure (P := fun H' => H' d = some (.lst (ns.map V.int))) (yl_list fun H' h => SqL.of h) (by rw [List.length_map]; omega) (fun x => x) rfl (fun D acc hD => ?_) (fun D x acc A hD hx ha => ?_) (fun D hD => ?_)
    · have n : D ≠ d := fun z => by subst z; rw [upd_same] at hD; cases hD
      exact at_other (Ne.symm n) upd_same
    · obtain ⟨i, _, rfl⟩ := List.mem_map.mp hx
      walk_at "go"
      exact ha
    · walk_at "go"
      refine ⟨by show 6 ≤ sizeLine; omega, fun p hp => ?_⟩
      rw [List.map_id'] at hp ⊢
      have n : D ≠ d := fun z => by subst z; rw [upd_same] at hD; cases hD
      have hD0 : H D = none := by rw [upd_ne n] at hD; exact hD
      have n2 : p ≠ D := fun z => by subst z; rw [upd_same] at hp; cases hp
      have hp0 : H p = none := by
        rw [upd_ne n2] at hp
        have n3 : p ≠ d := fun z => by subst z; rw [upd_same] at hp; cases hp
        rw [upd_ne n3] at hp
        exact hp
      exact q p D _ (same_mut (same_mut (same_new hd) hD0) hp0) ⟨0, 0, 0, 20011, 0, by decide, upd_same, SqL.of (at_other (Ne.symm n2) upd_same), Ne.symm n2⟩
abbrev s_law_draw : Stmt := topS 24
abbrev N_law_draw : List Str := ["pool", "many", "cell", "digit", "mixed"]
theorem sc_law_draw : FnScope N_law_draw ["pool", "many"] (defScope s_law_draw) := ⟨rfl, rfl, rfl, by decide +kernel, rfl, by decide +kernel, by decide +kernel⟩
theorem ok_draw {f : Addr} {fd : FuncData} (F : Fun K "_law_draw" "_law_draw" s_law_draw f fd) (B : Bn mg) : FnOk P w K mg base CX0 1 f fd ["pool", "many"] (spDraw K) := by
  refine F.ok sc_law_draw (fun vs H Q E h => ?_) (fun cdv A outer s H vs Q E hr h => ?_)
  · obtain ⟨p, l, ns, m, rfl, _⟩ := h
    rfl
  · obtain ⟨p, l, ns, m, rfl, ⟨a, b, c, e, f, ha, hp, hl, hlp⟩, m0, m1, q0⟩ := h
    have q : ∀ (d : Int) H', Pl K p l ns H' → But p H H' → 0 ≤ d → d < m → Q (.int d) H' := fun d H' h1 h2 h3 h4 => by
      have z := q0 d.toNat H' h1 h2 (by omega)
      rw [show ((d.toNat : Nat) : Int) = d by omega] at z
      exact z
    refine ⟨_, (pss_cons (ps_asg (pe_op (k_add (K := K) rfl) (pe_ix (k_ix (K := K) rfl) (pv 0) pe_int (fun _ _ => rfl)) pe_int) (pg_sub (pv 0) pe_int set_list))
  (C8.pss_cut (ps_if (pw_and (pt_cmpR (k_eq (K := K) rfl hr.units) (pe_ix (k_ix (K := K) rfl) (pv 0) pe_int (fun _ _ => rfl)) pe_int (nomark _)) (pw_and (pt_cmpR (k_eq (K := K) rfl hr.units) (pe_ix (k_ix (K := K) rfl) (pv 0) pe_int (fun _ _ => rfl)) pe_int (nomark _)) (pw_and1 (pt_cmpR u_lt (pe_ix (k_ix (K := K) rfl) (pv 0) pe_int (fun _ _ => rfl)) (pe_callB (k_len (K := K) rfl) (by rfl) B.len (by decide +kernel) (pa_cons (pe_ix (k_ix (K := K) rfl) (pv 0) pe_int (fun _ _ => rfl)) pa_nil)) (nomark _))))).pt
  (pss_cons (ps_set (i := 2) sc_law_draw.nd rfl (.inl rfl) (pe_ix (k_ix (K := K) rfl) (pe_ix (k_ix (K := K) rfl) (pv 0) pe_int (fun _ _ => rfl)) (pe_ix (k_ix (K := K) rfl) (pv 0) pe_int (fun _ _ => rfl)) (fun _ _ => rfl)))
  (pss_cons (ps_asg (pe_op (k_add (K := K) rfl) (pe_ix (k_ix (K := K) rfl) (pv 0) pe_int (fun _ _ => rfl)) pe_int) (pg_sub (pv 0) pe_int set_list))
  (pss_one (ps_if (pt_cmpR u_lt (pe_callB u_abs (by rfl) B.abs (by decide +kernel) (pa_cons (pv 2) pa_nil)) (pe_op u_pow pe_int pe_int) (nomark _))
  (pss_cons (ps_asg pe_int (pg_sub (pv 0) pe_int set_list))
  (pss_one (ps_asg (pe_op u_mod (pe_callTy u_int (by rfl) B.int (by decide +kernel) (pa_cons (pe_op (k_add (K := K) rfl) (pe_op u_mul (pe_ix (k_ix (K := K) rfl) (pv 0) pe_int (fun _ _ => rfl)) pe_int) (pv 2)) pa_nil)) pe_int) (pg_sub (pv 0) pe_int set_list))))
  (pss_one (ps_asg (pe_callB u_abs (by rfl) B.abs (by decide +kernel) (pa_cons (pv 2) pa_nil)) (pg_sub (pv 0) pe_int set_list)))))))
  pss_nil)
  (pss_cons (ps_if (pt_cmpR u_gt (pe_ix (k_ix (K := K) rfl) (pv 0) pe_int (fun _ _ => rfl)) pe_int (nomark _))
  (pss_cons (ps_set (i := 3) sc_law_draw.nd rfl (.inl rfl) (pe_op u_mod (pe_callTy u_int (by rfl) B.int (by decide +kernel) (pa_cons (pe_ix (k_ix (K := K) rfl) (pv 0) pe_int (fun _ _ => rfl)) pa_nil)) (pv 1)))
  (pss_cons (ps_asg (pe_op u_fdiv (pe_ix (k_ix (K := K) rfl) (pv 0) pe_int (fun _ _ => rfl)) (pv 1)) (pg_sub (pv 0) pe_int set_list))
  (pss_one (ps_ret (pv 3)))))
  pss_nil)
  (pss_cons (ps_asg (pe_callB u_max (by rfl) B.max (by decide +kernel) (pa_cons pe_int (pa_cons (pe_op u_sub (pe_ix (k_ix (K := K) rfl) (pv 0) pe_int (fun _ _ => rfl)) pe_int) pa_nil))) (pg_sub (pv 0) pe_int set_list))
  (pss_cons (ps_set (i := 4) sc_law_draw.nd rfl (.inl rfl) (pe_op u_mod (pe_callTy u_int (by rfl) B.int (by decide +kernel) (pa_cons (pe_op (k_add (K := K) rfl) (pe_op u_mul (pe_ix (k_ix (K := K) rfl) (pv 0) pe_int (fun _ _ => rfl)) pe_int) (pe_op u_mul (pe_ix (k_ix (K := K) rfl) (pv 0) pe_int (fun _ _ => rfl)) pe_int)) pa_nil)) pe_int))
  (pss_cons (ps_set (i := 4) sc_law_draw.nd rfl (.inl rfl) (pe_op u_mod (pe_callTy u_int (by rfl) B.int (by decide +kernel) (pa_cons (pe_op (k_add (K := K) rfl) (pe_op u_mul (pv 4) (pv 4)) (pe_ix (k_ix (K := K) rfl) (pv 0) pe_int (fun _ _ => rfl))) pa_nil)) pe_int))
  (pss_cons (ps_set (i := 4) sc_law_draw.nd rfl (.inl rfl) (pe_op u_mod (pe_callTy u_int (by rfl) B.int (by decide +kernel) (pa_cons (pe_op (k_add (K := K) rfl) (pe_op u_mul (pv 4) (pv 4)) (pe_ix (k_ix (K := K) rfl) (pv 0) pe_int (fun _ _ => rfl))) pa_nil)) pe_int))
  (pss_one (ps_ret (pe_op u_mod (pe_op u_fdiv (pv 4) pe_int) (pv 1))))))))))), ?_⟩
    walk_at "go"
    have fin : ∀ (H1 : Hp) (a1 b1 c1 e1 f1 : Int), 0 ≤ a1 → H1 = upd H p (.lst [.ref l, .int a1, .int b1, .int c1, .int e1, .int f1]) → Pl K p l ns H1 ∧ But p H H1 := fun H1 a1 b1 c1 e1 f1 h e => by
      subst e
      exact ⟨⟨a1, b1, c1, e1, f1, h, upd_same, sq_put hl hlp, hlp⟩, (But.refl p H).put⟩
    let Mid : Fs → Hp → Prop := fun σ H1 => (∃ y, σ = [some (V.ref p), some (V.int m), y, none, none]) ∧ ∃ a1 b1 c1 e1 f1 : Int, 0 ≤ a1 ∧ H1 = upd H p (HO.lst [V.ref l, V.int a1, V.int b1, V.int c1, V.int e1, V.int f1])
    have md : ∀ (y : Option V) (H1 : Hp) (a1 b1 c1 e1 f1 : Int), 0 ≤ a1 → H1 = upd H p (HO.lst [V.ref l, V.int a1, V.int b1, V.int c1, V.int e1, V.int f1]) → Mid [some (V.ref p), some (V.int m), y, none, none] H1 := fun y H1 a1 b1 c1 e1 f1 h e => ⟨⟨y, rfl⟩, a1, b1, c1, e1, f1, h, e⟩
    refine s_cut Mid ?_ (fun σ H1 hm => ?_)
    · walk_at "go"
      refine s_dec (fun h1 => ?_) (fun h1 => ?_)
      · walk_at "go"
        refine s_dec (fun h2 => ?_) (fun h2 => ?_)
        · walk_at "go"
          refine s_dec (fun h3 => ?_) (fun h3 => ?_)
          · rw [List.length_map] at h3
            obtain ⟨v, hv⟩ := at_ints ha h3
            walk_at "go"
            refine s_dec (fun h4 => ?_) (fun h4 => ?_)
            · walk_at "go"
              exact md _ _ (a + 1) _ _ _ _ (by omega) (by simp only [upd_upd]; exact rfl)
            · walk_at "go"
              exact md _ _ (a + 1) _ _ _ _ (by omega) (by simp only [upd_upd]; exact rfl)
          · walk_at "go"
            exact md _ _ _ _ _ _ _ ha rfl
        · walk_at "go"
          exact md _ _ _ _ _ _ _ ha rfl
      · walk_at "go"
        exact md _ _ _ _ _ _ _ ha rfl
    · obtain ⟨⟨y, rfl⟩, a1, b1, c1, e1, f1, ha1, rfl⟩ := hm
      walk_at "go"
      refine s_dec (fun h1 => ?_) (fun h1 => ?_)
      · have hd : CDiv c1 m := ⟨m0, m1⟩
        walk_at "go"
        have x := fun H1 => fin H1 a1 b1 (c1 / m) e1 f1 ha1
        exact q _ _ (x _ (by simp only [upd_upd]; exact rfl)).1 (x _ (by simp only [upd_upd]; exact rfl)).2 (Int.emod_nonneg _ (by omega)) (Int.emod_lt_of_pos _ m0)
      · walk_at "go"
        have x := fun H1 b2 => fin H1 a1 b2 c1 e1 f1 ha1
        exact q _ _ (x _ _ (by simp only [upd_upd]; exact rfl)).1 (x _ _ (by simp only [upd_upd]; exact rfl)).2 (Int.emod_nonneg _ (by omega)) (Int.emod_lt_of_pos _ m0)
end
end K41
set_option maxRecDepth 100000
set_option maxHeartbeats 400000
namespace K41
open PySem PySem.Spec PyProof.Rows L2 J
local macro_rules | `(tactic| walk_at "ne") => `(tactic| first
  | with_reducible assumption
  | (apply Ne.symm; with_reducible assumption))
local macro_rules | `(tactic| walk_at "look") => `(tactic| first
  | with_reducible assumption
  | with_reducible exact upd_same
  | ((with_reducible refine' at_new ?ha ?hb); (case ha => with_reducible assumption); (case hb => walk_at "look"))
  | ((with_reducible refine' at_other ?ha ?hb); (case ha => walk_at "ne"); (case hb => walk_at "look"))
  | ((with_reducible refine' same_at ?ha ?hb); (case ha => with_reducible assumption); (case hb => walk_at "look")))
local macro_rules | `(tactic| walk_at "sq") => `(tactic| first
  | with_reducible assumption
  | ((with_reducible refine' SqL.of ?ha); (case ha => walk_at "look"))
  | ((with_reducible refine' sq_put ?ha ?hb); (case hb => walk_at "ne"); (case ha => walk_at "sq"))
  | ((with_reducible refine' sq_new ?ha ?hb); (case hb => with_reducible assumption); (case ha => walk_at "sq"))
  | ((with_reducible refine' sq_same ?ha ?hb); (case hb => with_reducible assumption); (case ha => walk_at "sq")))
local macro_rules | `(tactic| walk_at "qt") => `(tactic| first
  | with_reducible assumption
  | ((with_reducible refine' SqT.of ?ha); (case ha => walk_at "look")))
local macro_rules | `(tactic| walk_at "atI") => `(tactic| first
  | with_reducible assumption
  | exact rfl)
local macro_rules | `(tactic| walk_at "go") => `(tactic| repeat (first
  | ((with_reducible refine' s_var ?hv ?_); (case hv => exact rfl))
  | with_reducible refine s_c ?_
  | with_reducible refine s_op ?_
  | with_reducible refine s_test ?_
  | with_reducible refine s_ex ?_
  | with_reducible refine s_seq ?_
  | with_reducible refine s_asg ?_
  | with_reducible refine s_name ?_
  | with_reducible refine s_if ?_
  | with_reducible refine s_next ?_
  | with_reducible refine s_cb ?_
  | with_reducible refine s_call ?_
  | with_reducible refine s_cons ?_
  | with_reducible refine s_nil ?_
  | with_reducible refine s_and ?_
  | with_reducible refine s_or ?_
  | with_reducible refine s_not ?_
  | with_reducible refine s_chain ?_
  | with_reducible refine s_andV ?_
  | with_reducible refine s_orV ?_
  | with_reducible refine s_un ?_
  | with_reducible refine s_drop ?_
  | with_reducible refine s_ret ?_
  | with_reducible refine s_retN ?_
  | with_reducible refine s_gsub ?_
  | with_reducible refine s_tup ?_
  | with_reducible refine s_lst ?_
  | with_reducible refine s_bm ?_
  | with_reducible refine s_bm0 ?_
  | with_reducible refine s_sl ?_
  | with_reducible refine s_nopart ?_
  | with_reducible refine s_part ?_
  | with_reducible refine s_exi ?_
  | with_reducible refine s_cont ?_
  | with_reducible refine s_break ?_
  | with_reducible refine s_ifE ?_
  | with_reducible refine s_m1 ?_
  | with_reducible refine iteT ?_
  | with_reducible refine iteF ?_
  | with_reducible refine s_iteNT ?_
  | with_reducible refine s_iteNF ?_
  | with_reducible refine s_addI ?_
  | with_reducible refine s_I1 ?_
  | with_reducible refine s_eqI ?_
  | with_reducible refine s_eqS ?_
  | with_reducible refine s_eqB ?_
  | with_reducible refine s_neI ?_
  | with_reducible refine s_neS ?_
  | with_reducible refine s_neg ?_
  | with_reducible refine s_is ?_
  | with_reducible refine s_isnt ?_
  | with_reducible refine s_intI ?_
  | with_reducible refine s_intB ?_
  | with_reducible refine s_strS ?_
  | with_reducible refine s_tyS ?_
  | with_reducible refine s_exS ?_
  | ((with_reducible refine' s_ty ?hs ?_); (case hs => walk_at "look"))
  | with_reducible refine s_abs ?_
  | ((with_reducible refine' s_append ?hs ?hl ?_); (case hs => walk_at "look"); (case hl => first | assumption | omega | (simp only [List.length_append, List.length_cons, List.length_nil, List.length_map]; omega)))
  | ((with_reducible refine' s_popS ?hs ?_); (case hs => walk_at "look"))
  | ((with_reducible refine' s_strN ?hs ?_); (case hs => assumption))
  | with_reducible refine s_iRev ?_
  | with_reducible refine s_rng1 ?_
  | with_reducible refine s_rng2 ?_
  | with_reducible refine s_xf ?_
  | with_reducible refine s_rz ?_
  | with_reducible refine s_callS ?_
  | with_reducible refine s_repl ?_
  | with_reducible refine s_rg1 ?_
  | with_reducible refine isi_ss ?_
  | with_reducible refine s_tru ?_
  | with_reducible refine s_truB ?_
  | ((with_reducible refine' s_truL ?hs ?_); (case hs => walk_at "sq"))
  | with_reducible refine isi_is ?_
  | with_reducible refine isi_st ?_
  | with_reducible refine isi_it ?_
  | ((with_reducible refine' isi_tt ?hs ?_); (case hs => walk_at "look"))
  | with_reducible refine s_lc ?_
  | with_reducible refine s_forS ?_
  | with_reducible refine i_str ?_
  | with_reducible refine i_list ?_
  | with_reducible refine i_tup ?_
  | with_reducible refine s_exx ?_
  | with_reducible refine s_inS ?_
  | with_reducible refine s_ninS ?_
  | ((with_reducible refine' s_slTake ?hs ?hk ?_); (case hs => first | assumption | omega); (case hk => first | decide | omega))
  | ((with_reducible refine' s_slDrop ?hs ?hk ?_); (case hs => first | assumption | omega); (case hk => first | decide | omega))
  | ((with_reducible refine' s_slMid ?hs ?hk ?hk2 ?_); (case hs => first | assumption | omega); (case hk => first | decide | omega); (case hk2 => first | decide | omega))
  | ((with_reducible refine' s_ixX ?hs ?he ?_); (case hs => first | assumption | omega); (case he => walk_at "atI"))
  | ((with_reducible refine' s_lenX ?hs ?_); (case hs => first | assumption | omega))
  | ((with_reducible refine' s_all ?hs ?_); (case hs => walk_at "sq"))
  | with_reducible refine s_max ?_
  | with_reducible refine s_min ?_
  | ((with_reducible refine' s_ixL ?hs ?he ?_); (case hs => walk_at "sq"); (case he => walk_at "atI"))
  | ((with_reducible refine' s_ixT ?hs ?he ?_); (case hs => walk_at "qt"); (case he => walk_at "atI"))
  | ((with_reducible refine' s_lenL ?hs ?_); (case hs => walk_at "sq"))
  | ((with_reducible refine' s_lenT ?hs ?_); (case hs => walk_at "qt"))
  | ((with_reducible refine' s_setL ?hs ?he ?_); (case hs => walk_at "look"); (case he => walk_at "atI"))
  | ((with_reducible refine' s_mulI ?hs ?_); (case hs => first | exact .inr ⟨by decide, by decide⟩ | exact .inl ⟨by decide, by decide⟩ | assumption | exact .inl ⟨by omega, by omega⟩ | exact .inr ⟨by omega, by omega⟩))
  | ((with_reducible refine' s_I2 ?hs ?_); (case hs => first | assumption | exact (by decide) | exact ⟨by decide, by decide⟩ | exact ⟨by decide, by decide, by decide⟩))))

mutual
theorem dep_ok {E : Nat} : ∀ (f : F) (n : Nat), ok E f n → dep f ≤ n
  | .i _, n, _ => by simp only [dep]; omega
  | .s _, n, _ => by simp only [dep]; omega
  | .t fs, n, h => by
    simp only [ok] at h
    have := deps_ok fs (n - 1) h.2.2
    simp only [dep]
    omega
theorem deps_ok {E : Nat} : ∀ (fs : List F) (n : Nat), oks E fs n → deps fs ≤ n
  | [], n, _ => by simp only [deps]; omega
  | f :: r, n, h => by
    simp only [oks] at h
    have h1 := dep_ok f n h.1
    have h2 := deps_ok r n h.2
    simp only [deps]
    omega
end
def spBR : Sp := fun vs H Q _ => ∃ v f, vs = [v] ∧ Fm H v f ∧ ok 5000 f 40 ∧ (tx f).length ≤ 100000 ∧ ∀ H', Same H H' → Q (.bl true) H'
structure O8 (P : Program) (w : World) (K : PySem.W.Frag) (mg : Str → Option Value) (base : Heap) : Prop where
  law_text : Has P w K mg base CX0 "_law_text" ["form"] 50 (spText 50)
  form_text : Has P w K mg base CX0 "form_text" ["form"] 1 spFT
  law_read_right : HasG P w K mg base "_law_read_right" ["text", "due"] 6 spRR
  law_draw : Has P w K mg base CX0 "_law_draw" ["pool", "many"] 1 (spDraw K)
section
variable {P : Program} {w : World} {K : PySem.W.Frag} {mg : Str → Option Value} {base : Heap}
abbrev s_law_both_right : Stmt := topS 32
abbrev N_law_both_right : List Str := ["form", "text"]
theorem sc_law_both_right : FnScope N_law_both_right ["form"] (defScope s_law_both_right) := ⟨rfl, rfl, rfl, by decide +kernel, rfl, by decide +kernel, by decide +kernel⟩
theorem ok_both_right {f : Addr} {fd : FuncData} (Fn : Fun K "_law_both_right" "_law_both_right" s_law_both_right f fd) (B : Bn mg) (O : O8 P w K mg base) : FnG P w K mg base 51 f fd ["form"] spBR := by
  refine okG Fn sc_law_both_right (fun vs H Q E h => ?_) (fun cdv A outer s H vs Q gd hr h => ?_)
  · obtain ⟨v, f, rfl, _⟩ := h
    rfl
  · obtain ⟨v, f, rfl, hf, hok, hz, q⟩ := h
    have sz : sizeLine = 16777216 := sizeLine_eq
    have hsn := sn_ok f 40 hok
    have hdp := dep_ok f 40 hok
    refine ⟨_, (pss_cons (ps_set (i := 1) sc_law_both_right.nd rfl (.inl rfl) (pe_has O.law_text hr (by rfl) pass0 (pa_cons (pv 0) pa_nil)))
  (pss_one (ps_ret (pe_and (pe_cmpR (k_eq (K := K) rfl hr.units) (pe_has O.form_text hr (by rfl) pass0 (pa_cons (pv 0) pa_nil)) (pv 1) (nomark _)) (pe_one (pe_hasG O.law_read_right gd hr (by rfl) (pa_cons (pv 1) (pa_cons (pe_lst (pa_cons (pv 0) pa_nil)) pa_nil)))))))), ?_⟩
    walk_at "go"
    refine ⟨v, f, rfl, hf, hsn, by omega, by omega, fun H1 s1 => ?_⟩
    walk_at "go"
    refine ⟨v, f, rfl, Fm.kept (Tp.of s1) f v hf, hsn, by omega, fun H2 s2 => ?_⟩
    walk_at "go"
    rw [decide_eq_true rfl]
    walk_at "go"
    refine ⟨by show 1 ≤ sizeLine; omega, fun d hd => ?_⟩
    have s12 := s1.trans s2
    walk_at "go"
    refine ⟨tx f, .ref d, rfl, hz, ⟨d, rfl, ?_⟩, fun H3 s3 => ?_⟩
    · rw [parse_tx hok]
      exact ⟨v, upd_same, Fm.kept ((Tp.of s12).new hd) f v hf⟩
    · exact q _ ((same_mut s12 (s12.free hd)).trans s3)
/-! ### drawn forms -/
def spLAt (K : PySem.W.Frag) : Sp := fun vs H Q _ => ∃ (p l : Addr) (ns : List Int), vs = [.ref p] ∧ Pl K p l ns H ∧ ∀ v f H', Pl K p l ns H' → But p H H' → (∀ H2, Fm H2 v f) → okA f → (tx f).length ≤ 12 → Q v H'
theorem lc_signs {K : PySem.W.Frag} {σ : Fs} {H : Hp} {Q : VK} {p l : Addr} {ns : List Int} {m : Int} {z : List Nat} {tz : TE} {k n : Nat} {lo : Int} {vs : List Nat} (hv : vs = [k]) (hz : (z.length : Int) = m) (m0 : 0 < m) (m1 : m < 1073741824) (hn : n ≤ sizeLine) (zl : z.length ≤ sizeLine)
    (ht : ∀ x H A, A (.str (SX.S z)) H → tz ((wipe σ [k]).set k x) H A) (h0 : ∀ x, ((wipe σ [k]).set k x)[0]? = some (some (.ref p))) (hP : Pl K p l ns H)
    (hq : ∀ D (ls : List Nat) H', H' D = some (.lst ((ls.map fun c => [c]).map fun l => V.str (SX.S l))) → ls.length = n → (∀ c ∈ ls, c ∈ z) → Pl K p l ns H' → But p H H' → Q (.ref D) H') :
    LcG (Itr lo n) (gName k) tYes (tOp (rIxU K) tz (tCall (spDraw K) [] E0 (tCons (tVar 0) (tCons (tC (V.int m)) tNil)))) vs σ Q H := by
  subst hv
  refine lc_go (P := fun _ => True) yl_rg (by rw [rgU_len]; exact hn) (fun D i acc H' => ∃ ls : List Nat, acc = (ls.map fun c => [c]).map (fun l => V.str (SX.S l)) ∧ ls.length = i ∧ (∀ c ∈ ls, c ∈ z) ∧ H' D = some (.lst acc) ∧ Pl K p l ns H' ∧ But p H H')
    (fun D i acc H' h => ?_) (fun D hD => ⟨[], rfl, rfl, fun c hc => (by cases hc), upd_same, hP.new hD, but_add (But.refl p H) hD⟩) (fun D i acc H' x hD h hl hi hx => ?_) (fun D acc H' hD h => ?_)
  · obtain ⟨ls, rfl, rfl, _⟩ := h
    exact ⟨trivial, by simp⟩
  · obtain ⟨ls, rfl, rfl, h2, h3, h4, h5⟩ := h
    refine ⟨wipe1 _ _ _, s_yes (iteT (s_op (ht _ _ _ (s_call (s_cons (s_var (h0 _) (s_cons (s_c (s_nil ?_)))))))))⟩
    refine ⟨p, l, ns, m, rfl, h4, m0, m1, fun d H2 p2 b2 hd => ?_⟩
    obtain ⟨c, hc⟩ : ∃ c, z[d]? = some c := ⟨_, List.getElem?_eq_getElem (by omega)⟩
    refine s_ixX zl (at_ofN rfl hc) ?_
    have hDp : D ≠ p := fun e => by
      obtain ⟨xs, e2⟩ := hP.at
      rw [← e, hD] at e2
      cases e2
    refine lc_y (I := fun D i acc H' => ∃ ls : List Nat, acc = (ls.map fun c => [c]).map (fun l => V.str (SX.S l)) ∧ ls.length = i ∧ (∀ c ∈ ls, c ∈ z) ∧ H' D = some (.lst acc) ∧ Pl K p l ns H' ∧ But p H H') (b2 _ _ h3 hDp) hl ⟨ls ++ [c], by simp, by simp, fun e he => ?_, upd_same, hP.add p2 hD, but_add (h5.trans b2) hD⟩
    rcases List.mem_append.mp he with he | he
    · exact h2 e he
    · rw [List.mem_singleton.mp he]
      exact List.mem_of_getElem? hc
  · obtain ⟨ls, rfl, h1, h2, h3, h4, h5⟩ := h
    rw [rgU_len] at h1
    exact hq D ls H' h3 h1 h2 h4 h5
theorem flat1 : ∀ ls : List Nat, (ls.map fun c => [c]).flatten = ls
  | [] => rfl
  | c :: r => by simp [flat1 r]
abbrev s_law_atom : Stmt := topS 25
abbrev N_law_atom : List Str := ["pool", "kind", "high", "low", "letters", "step"]
theorem sc_law_atom : FnScope N_law_atom ["pool"] (defScope s_law_atom) := ⟨rfl, rfl, rfl, by decide +kernel, rfl, by decide +kernel, by decide +kernel⟩
theorem ok_atom {f : Addr} {fd : FuncData} (Fn : Fun K "_law_atom" "_law_atom" s_law_atom f fd) (B : Bn mg) (O : O8 P w K mg base) : FnOk P w K mg base CX0 2 f fd ["pool"] (spLAt K) := by
  refine Fn.ok sc_law_atom (fun vs H Q E h => ?_) (fun cdv A outer s H vs Q E hr h => ?_)
  · obtain ⟨p, l, ns, rfl, _⟩ := h
    rfl
  · obtain ⟨p, l, ns, rfl, hP, q⟩ := h
    have sz : sizeLine = 16777216 := sizeLine_eq
    refine ⟨_, (pss_cons (ps_set (i := 1) sc_law_atom.nd rfl (.inl rfl) (pe_has O.law_draw hr (by rfl) pass0 (pa_cons (pv 0) (pa_cons pe_int pa_nil))))
  (pss_cons (ps_if (pt_cmpR (k_eq (K := K) rfl hr.units) (pv 1) pe_int (nomark _))
  (pss_one (ps_ret (pe_has O.law_draw hr (by rfl) pass0 (pa_cons (pv 0) (pa_cons pe_int pa_nil)))))
  pss_nil)
  (pss_cons (ps_if (pt_cmpR (k_eq (K := K) rfl hr.units) (pv 1) pe_int (nomark _))
  (pss_cons (ps_set (i := 2) sc_law_atom.nd rfl (.inl rfl) (pe_has O.law_draw hr (by rfl) pass0 (pa_cons (pv 0) (pa_cons pe_int pa_nil))))
  (pss_cons (ps_set (i := 3) sc_law_atom.nd rfl (.inl rfl) (pe_has O.law_draw hr (by rfl) pass0 (pa_cons (pv 0) (pa_cons pe_int pa_nil))))
  (pss_one (ps_ret (pe_ix (k_ix (K := K) rfl) (pe_lst (pa_cons (pv 2) (pa_cons (pe_op (k_add (K := K) rfl) (pe_op u_mul pe_int (pv 2)) (pv 3)) (pa_cons (pe_op u_sub pe_int (pv 2)) pa_nil)))) (pe_has O.law_draw hr (by rfl) pass0 (pa_cons (pv 0) (pa_cons pe_int pa_nil))) (fun _ _ => rfl))))))
  pss_nil)
  (pss_cons (ps_if (pt_cmpR (k_eq (K := K) rfl hr.units) (pv 1) pe_int (nomark _))
  (pss_one (ps_ret (pe_op (k_add (K := K) rfl) pe_str (k_join (K := K) rfl pe_str (pe_lc (own := [("step", 5)]) (by rfl) sc_law_atom.nd (pi_range1 rfl B.range (pa_cons (pe_has O.law_draw hr (by rfl) pass0 (pa_cons (pv 0) (pa_cons pe_int pa_nil))) pa_nil)) (blkOk_by (N := N_law_atom) (sc := defScope s_law_atom) (by decide +kernel)) (fun _ _ _ _ _ => (pg_name (i := 5) sc_law_atom.nd rfl (.inl rfl))) (fun _ _ _ _ _ => pts_nil) (fun _ _ _ _ _ => (pe_ix (k_ix (K := K) rfl) pe_str (pe_has O.law_draw hr (by rfl) pass0 (pa_cons (pv 0) (pa_cons pe_int pa_nil))) (fun _ _ => rfl))))))))
  pss_nil)
  (pss_cons (ps_set (i := 4) sc_law_atom.nd rfl (.inr rfl) pe_str)
  (pss_one (ps_ret (k_join (K := K) rfl pe_str (pe_lc (own := [("step", 5)]) (by rfl) sc_law_atom.nd (pi_range1 rfl B.range (pa_cons (pe_op (k_add (K := K) rfl) pe_int (pe_has O.law_draw hr (by rfl) pass0 (pa_cons (pv 0) (pa_cons pe_int pa_nil)))) pa_nil)) (blkOk_by (N := N_law_atom) (sc := defScope s_law_atom) (by decide +kernel)) (fun _ _ _ _ _ => (pg_name (i := 5) sc_law_atom.nd rfl (.inl rfl))) (fun _ _ _ _ _ => pts_nil) (fun _ _ _ _ _ => (pe_ix (k_ix (K := K) rfl) (pv 4) (pe_has O.law_draw hr (by rfl) pass0 (pa_cons (pv 0) (pa_cons pe_int pa_nil))) (fun _ _ => rfl)))))))))))), ?_⟩
    have num : ∀ (n : Nat) H', Pl K p l ns H' → But p H H' → n < 1000000000 → Q (.int (n : Int)) H' := fun n H' h1 h2 h3 => q _ (.i n) H' h1 h2 (fun _ => .i n) h3 (by
      have := TL.numL_len (n := n) (k := 9) (by decide) h3
      simp only [tx]
      omega)
    walk_at "go"
    refine ⟨p, l, ns, _, rfl, hP, by decide, by decide, fun d0 H1 p1 b1 hd0 => ?_⟩
    walk_at "go"
    refine s_dec (fun h1 => ?_) (fun h1 => ?_)
    · walk_at "go"
      refine ⟨p, l, ns, _, rfl, p1, by decide, by decide, fun d1 H2 p2 b2 hd1 => ?_⟩
      exact num d1 H2 p2 (b1.trans b2) (by omega)
    · walk_at "go"
      refine s_dec (fun h2 => ?_) (fun h2 => ?_)
      · walk_at "go"
        refine ⟨p, l, ns, _, rfl, p1, by decide, by decide, fun d1 H2 p2 b2 hd1 => ?_⟩
        walk_at "go"
        refine ⟨p, l, ns, _, rfl, p2, by decide, by decide, fun d2 H3 p3 b3 hd2 => ?_⟩
        walk_at "go"
        refine ⟨by show 3 ≤ sizeLine; omega, fun D hD => ?_⟩
        have hDp : D ≠ p := fun e => by
          obtain ⟨xs, e2⟩ := p3.at
          rw [← e, hD] at e2
          cases e2
        walk_at "go"
        refine ⟨p, l, ns, _, rfl, p3.new hD, by decide, by decide, fun d3 H4 p4 b4 hd3 => ?_⟩
        have b3' : But p H (upd H3 D (HO.lst [V.int d1, V.int (1000000 * d1 + d2), V.int (999999999 - d1)])) := ((b1.trans b2).trans b3).trans (but_add (But.refl p H3) hD)
        have e4 : H4 D = some (.lst [V.int d1, V.int (1000000 * d1 + d2), V.int (999999999 - d1)]) := b4 _ _ upd_same hDp
        have bb := b3'.trans b4
        match d3, hd3 with
        | 0, _ =>
          refine s_ixL (SqL.of e4) (at_ofN (j := 0) rfl rfl) ?_
          exact num d1 H4 p4 bb (by omega)
        | 1, _ =>
          refine s_ixL (SqL.of e4) (at_ofN (j := 1) rfl rfl) ?_
          have z := num (1000000 * d1 + d2) H4 p4 bb (by omega)
          rw [show ((1000000 * d1 + d2 : Nat) : Int) = 1000000 * (d1 : Int) + (d2 : Int) by omega] at z
          exact z
        | 2, _ =>
          refine s_ixL (SqL.of e4) (at_ofN (j := 2) rfl rfl) ?_
          have z := num (999999999 - d1) H4 p4 bb (by omega)
          rw [show ((999999999 - d1 : Nat) : Int) = 999999999 - (d1 : Int) by omega] at z
          exact z
        | d + 3, h => exact absurd h (by omega)
      · walk_at "go"
        refine s_dec (fun h3 => ?_) (fun h3 => ?_)
        · walk_at "go"
          refine ⟨p, l, ns, _, rfl, p1, by decide, by decide, fun d1 H2 p2 b2 hd1 => ?_⟩
          walk_at "go"
          refine ⟨_, rfl, by omega, by omega, ?_⟩
          rw [Int.toNat_natCast]
          refine lc_signs (m := 4) (z := [48, 49, 50, 51]) rfl rfl (by decide) (by decide) (by omega) (by show 4 ≤ sizeLine; omega) (fun x H A q => q) (fun x => rfl) p2 (fun D ls H3 e3 hl hm p3 b3 => ?_)
          refine s_joinL (SqL.of e3) ?_ ?_
          · rw [flat1, List.length_map]
            show _ + ls.length * 0 ≤ _
            omega
          · rw [show TL.tl (Str.ofString "") = [] from rfl, joinL_nil, flat1]
            refine s_addX [39] ls rfl rfl (by show 1 + _ ≤ _; omega) ?_
            refine q _ (.s (39 :: ls)) H3 p3 ((b1.trans b2).trans b3) (fun _ => .s _) ?_ (by simp only [tx, List.length_cons]; omega)
            have hs : ls.all step4 = true := List.all_eq_true.mpr fun c hc => by
              have := hm c hc
              simp at this
              simp [step4]
              omega
            show (wordB (39 :: ls) || codeB (39 :: ls)) = true
            have : codeB (39 :: ls) = true := by
              simp only [codeB, hs]
              simp
              omega
            rw [this, Bool.or_true]
        · walk_at "go"
          refine ⟨p, l, ns, _, rfl, p1, by decide, by decide, fun d1 H2 p2 b2 hd1 => ?_⟩
          walk_at "go"
          refine ⟨_, rfl, by omega, by omega, ?_⟩
          rw [show (1 + (d1 : Int)).toNat = 1 + d1 by omega]
          refine lc_signs (m := 26) (z := [97, 98, 99, 100, 101, 102, 103, 104, 105, 106, 107, 108, 109, 110, 111, 112, 113, 114, 115, 116, 117, 118, 119, 120, 121, 122]) rfl rfl (by decide) (by decide) (by omega) (by show 26 ≤ sizeLine; omega) (fun x H A q => ⟨_, rfl, q⟩) (fun x => rfl) p2 (fun D ls H3 e3 hl hm p3 b3 => ?_)
          refine s_joinL (SqL.of e3) ?_ ?_
          · rw [flat1, List.length_map]
            show _ + ls.length * 0 ≤ _
            omega
          · rw [show TL.tl (Str.ofString "") = [] from rfl, joinL_nil, flat1]
            refine q _ (.s ls) H3 p3 ((b1.trans b2).trans b3) (fun _ => .s _) ?_ (by simp only [tx]; omega)
            have hs : ls.all lett = true := List.all_eq_true.mpr fun c hc => by
              have := hm c hc
              simp at this
              simp [lett]
              omega
            show (wordB ls || codeB ls) = true
            have : wordB ls = true := by
              unfold wordB
              rw [hs]
              simp
              omega
            rw [this, Bool.true_or]
end
end K41
set_option maxRecDepth 100000
set_option maxHeartbeats 400000
namespace K41
open PySem PySem.Spec PyProof.Rows L2 J
local macro_rules | `(tactic| walk_at "ne") => `(tactic| first
  | with_reducible assumption
  | (apply Ne.symm; with_reducible assumption))
local macro_rules | `(tactic| walk_at "look") => `(tactic| first
  | with_reducible assumption
  | with_reducible exact upd_same
  | ((with_reducible refine' at_new ?ha ?hb); (case ha => with_reducible assumption); (case hb => walk_at "look"))
  | ((with_reducible refine' at_other ?ha ?hb); (case ha => walk_at "ne"); (case hb => walk_at "look"))
  | ((with_reducible refine' same_at ?ha ?hb); (case ha => with_reducible assumption); (case hb => walk_at "look")))
local macro_rules | `(tactic| walk_at "sq") => `(tactic| first
  | with_reducible assumption
  | ((with_reducible refine' SqL.of ?ha); (case ha => walk_at "look"))
  | ((with_reducible refine' sq_put ?ha ?hb); (case hb => walk_at "ne"); (case ha => walk_at "sq"))
  | ((with_reducible refine' sq_new ?ha ?hb); (case hb => with_reducible assumption); (case ha => walk_at "sq"))
  | ((with_reducible refine' sq_same ?ha ?hb); (case hb => with_reducible assumption); (case ha => walk_at "sq")))
local macro_rules | `(tactic| walk_at "qt") => `(tactic| first
  | with_reducible assumption
  | ((with_reducible refine' SqT.of ?ha); (case ha => walk_at "look")))
local macro_rules | `(tactic| walk_at "atI") => `(tactic| first
  | with_reducible assumption
  | exact rfl)
local macro_rules | `(tactic| walk_at "go") => `(tactic| repeat (first
  | ((with_reducible refine' s_var ?hv ?_); (case hv => exact rfl))
  | with_reducible refine s_c ?_
  | with_reducible refine s_op ?_
  | with_reducible refine s_test ?_
  | with_reducible refine s_ex ?_
  | with_reducible refine s_seq ?_
  | with_reducible refine s_asg ?_
  | with_reducible refine s_name ?_
  | with_reducible refine s_if ?_
  | with_reducible refine s_next ?_
  | with_reducible refine s_cb ?_
  | with_reducible refine s_call ?_
  | with_reducible refine s_cons ?_
  | with_reducible refine s_nil ?_
  | with_reducible refine s_and ?_
  | with_reducible refine s_or ?_
  | with_reducible refine s_not ?_
  | with_reducible refine s_chain ?_
  | with_reducible refine s_andV ?_
  | with_reducible refine s_orV ?_
  | with_reducible refine s_un ?_
  | with_reducible refine s_drop ?_
  | with_reducible refine s_ret ?_
  | with_reducible refine s_retN ?_
  | with_reducible refine s_gsub ?_
  | with_reducible refine s_tup ?_
  | with_reducible refine s_lst ?_
  | with_reducible refine s_bm ?_
  | with_reducible refine s_bm0 ?_
  | with_reducible refine s_sl ?_
  | with_reducible refine s_nopart ?_
  | with_reducible refine s_part ?_
  | with_reducible refine s_exi ?_
  | with_reducible refine s_cont ?_
  | with_reducible refine s_break ?_
  | with_reducible refine s_ifE ?_
  | with_reducible refine s_m1 ?_
  | with_reducible refine iteT ?_
  | with_reducible refine iteF ?_
  | with_reducible refine s_iteNT ?_
  | with_reducible refine s_iteNF ?_
  | with_reducible refine s_addI ?_
  | with_reducible refine s_I1 ?_
  | with_reducible refine s_eqI ?_
  | with_reducible refine s_eqS ?_
  | with_reducible refine s_eqB ?_
  | with_reducible refine s_neI ?_
  | with_reducible refine s_neS ?_
  | with_reducible refine s_neg ?_
  | with_reducible refine s_is ?_
  | with_reducible refine s_isnt ?_
  | with_reducible refine s_intI ?_
  | with_reducible refine s_intB ?_
  | with_reducible refine s_strS ?_
  | with_reducible refine s_tyS ?_
  | with_reducible refine s_exS ?_
  | ((with_reducible refine' s_ty ?hs ?_); (case hs => walk_at "look"))
  | with_reducible refine s_abs ?_
  | ((with_reducible refine' s_append ?hs ?hl ?_); (case hs => walk_at "look"); (case hl => first | assumption | omega | (simp only [List.length_append, List.length_cons, List.length_nil, List.length_map]; omega)))
  | ((with_reducible refine' s_popS ?hs ?_); (case hs => walk_at "look"))
  | ((with_reducible refine' s_strN ?hs ?_); (case hs => assumption))
  | with_reducible refine s_iRev ?_
  | with_reducible refine s_rng1 ?_
  | with_reducible refine s_rng2 ?_
  | with_reducible refine s_xf ?_
  | with_reducible refine s_rz ?_
  | with_reducible refine s_callS ?_
  | with_reducible refine s_repl ?_
  | with_reducible refine s_rg1 ?_
  | with_reducible refine isi_ss ?_
  | with_reducible refine s_tru ?_
  | with_reducible refine s_truB ?_
  | ((with_reducible refine' s_truL ?hs ?_); (case hs => walk_at "sq"))
  | with_reducible refine isi_is ?_
  | with_reducible refine isi_st ?_
  | with_reducible refine isi_it ?_
  | ((with_reducible refine' isi_tt ?hs ?_); (case hs => walk_at "look"))
  | with_reducible refine s_lc ?_
  | with_reducible refine s_forS ?_
  | with_reducible refine i_str ?_
  | with_reducible refine i_list ?_
  | with_reducible refine i_tup ?_
  | with_reducible refine s_exx ?_
  | with_reducible refine s_inS ?_
  | with_reducible refine s_ninS ?_
  | ((with_reducible refine' s_slTake ?hs ?hk ?_); (case hs => first | assumption | omega); (case hk => first | decide | omega))
  | ((with_reducible refine' s_slDrop ?hs ?hk ?_); (case hs => first | assumption | omega); (case hk => first | decide | omega))
  | ((with_reducible refine' s_slMid ?hs ?hk ?hk2 ?_); (case hs => first | assumption | omega); (case hk => first | decide | omega); (case hk2 => first | decide | omega))
  | ((with_reducible refine' s_ixX ?hs ?he ?_); (case hs => first | assumption | omega); (case he => walk_at "atI"))
  | ((with_reducible refine' s_lenX ?hs ?_); (case hs => first | assumption | omega))
  | ((with_reducible refine' s_all ?hs ?_); (case hs => walk_at "sq"))
  | with_reducible refine s_max ?_
  | with_reducible refine s_min ?_
  | ((with_reducible refine' s_ixL ?hs ?he ?_); (case hs => walk_at "sq"); (case he => walk_at "atI"))
  | ((with_reducible refine' s_ixT ?hs ?he ?_); (case hs => walk_at "qt"); (case he => walk_at "atI"))
  | ((with_reducible refine' s_lenL ?hs ?_); (case hs => walk_at "sq"))
  | ((with_reducible refine' s_lenT ?hs ?_); (case hs => walk_at "qt"))
  | ((with_reducible refine' s_setL ?hs ?he ?_); (case hs => walk_at "look"); (case he => walk_at "atI"))
  | ((with_reducible refine' s_mulI ?hs ?_); (case hs => first | exact .inr ⟨by decide, by decide⟩ | exact .inl ⟨by decide, by decide⟩ | assumption | exact .inl ⟨by omega, by omega⟩ | exact .inr ⟨by omega, by omega⟩))
  | ((with_reducible refine' s_I2 ?hs ?_); (case hs => first | assumption | exact (by decide) | exact ⟨by decide, by decide⟩ | exact ⟨by decide, by decide, by decide⟩))))

def LB : Nat → Nat
  | 0 => 12
  | n + 1 => 3 * LB n + 5
theorem LB_ge : ∀ n, 12 ≤ LB n
  | 0 => Nat.le_refl _
  | n + 1 => by
    have := LB_ge n
    simp only [LB]
    omega
def spForm (K : PySem.W.Frag) (n : Nat) : Sp := fun vs H Q _ => ∃ (p l : Addr) (ns : List Int) (d : Nat), vs = [.ref p, .int (d : Int)] ∧ d < n ∧ n ≤ 40 ∧ Pl K p l ns H ∧ ∀ v f H', Pl K p l ns H' → But p H H' → Fm H' v f → ok 5000 f d → (tx f).length ≤ LB d → Q v H'
structure O9 (P : Program) (w : World) (K : PySem.W.Frag) (mg : Str → Option Value) (base : Heap) (n : Nat) : Prop where
  law_draw : Has P w K mg base CX0 "_law_draw" ["pool", "many"] 1 (spDraw K)
  law_atom : Has P w K mg base CX0 "_law_atom" ["pool"] 2 (spLAt K)
  law_form : Has P w K mg base CX0 "_law_form" ["pool", "deep"] (n + 2) (spForm K n)
section
variable {P : Program} {w : World} {K : PySem.W.Frag} {mg : Str → Option Value} {base : Heap}
abbrev s_law_form : Stmt := topS 26
abbrev N_law_form : List Str := ["pool", "deep", "step"]
theorem sc_law_form : FnScope N_law_form ["pool", "deep"] (defScope s_law_form) := ⟨rfl, rfl, rfl, by decide +kernel, rfl, by decide +kernel, by decide +kernel⟩
theorem ok_form {f : Addr} {fd : FuncData} (Fn : Fun K "_law_form" "_law_form" s_law_form f fd) (B : Bn mg) (h1 : Has P w K mg base CX0 "_law_draw" ["pool", "many"] 1 (spDraw K)) (h2 : Has P w K mg base CX0 "_law_atom" ["pool"] 2 (spLAt K)) (m : mg "_law_form" = some (.ref f)) (kp : PySem.W.keepIn K (.ref f) = true) (bi : Binds K fd ["pool", "deep"] []) :
    ∀ n, FnOk P w K mg base CX0 (n + 2) f fd ["pool", "deep"] (spForm K n) := by
  intro n
  induction n with
  | zero =>
    refine ⟨fun vs H Q E h => ?_, fun A outer s H args us vs Q E hr e0 hb r h => ?_⟩
    · obtain ⟨p, l, ns, d, rfl, _⟩ := h
      rfl
    · obtain ⟨p, l, ns, d, rfl, hd, _⟩ := h
      exact absurd hd (Nat.not_lt_zero _)
  | succ n ih =>
    have O : O9 P w K mg base n := ⟨h1, h2, f, fd, ih, m, kp, bi⟩
    refine Fn.ok sc_law_form (fun vs H Q E h => ?_) (fun cdv A outer s H vs Q E hr h => ?_)
    · obtain ⟨p, l, ns, d, rfl, _⟩ := h
      rfl
    · obtain ⟨p, l, ns, d, rfl, hd, hn, hP, q⟩ := h
      have sz : sizeLine = 16777216 := sizeLine_eq
      have hk : n + 2 = n + 2 := rfl
      refine ⟨_, (pss_cons (ps_if (pw_or (pt_cmpR (k_eq (K := K) rfl hr.units) (pv 1) pe_int (nomark _)) (pw_or1 (pt_cmpR (k_eq (K := K) rfl hr.units) (pe_has O.law_draw hr (by rfl) pass0 (pa_cons (pv 0) (pa_cons pe_int pa_nil)) (hk := by omega)) pe_int (nomark _)))).pt
  (pss_one (ps_ret (pe_has O.law_atom hr (by rfl) pass0 (pa_cons (pv 0) pa_nil) (hk := by omega))))
  pss_nil)
  (pss_one (ps_ret (pe_callTy (k_tuple (K := K) rfl) (by rfl) B.tuple (by decide +kernel) (pa_cons (pe_lc (own := [("step", 2)]) (by rfl) sc_law_form.nd (pi_range1 rfl B.range (pa_cons (pe_has O.law_draw hr (by rfl) pass0 (pa_cons (pv 0) (pa_cons pe_int pa_nil)) (hk := by omega)) pa_nil)) (blkOk_by (N := N_law_form) (sc := defScope s_law_form) (by decide +kernel)) (fun _ _ _ _ _ => (pg_name (i := 2) sc_law_form.nd rfl (.inl rfl))) (fun _ _ _ _ _ => pts_nil) (fun _ _ _ _ _ => (pe_has O.law_form hr (by rfl) pass0 (pa_cons (pv 0) (pa_cons (pe_op u_sub (pv 1) pe_int) pa_nil)) (hk := by omega)))) pa_nil))))), ?_⟩
      have atom_ : ∀ H1, Pl K p l ns H1 → But p H H1 → spLAt K [.ref p] H1 Q E0 := fun H1 p1 b1 => ⟨p, l, ns, rfl, p1, fun v f H2 p2 b2 hv hA hz => q v f H2 p2 (b1.trans b2) (hv H2) (ok_of_A hA) (Nat.le_trans hz (LB_ge d))⟩
      walk_at "go"
      refine s_dec (fun h3 => ?_) (fun h3 => ?_)
      · walk_at "go"
        exact atom_ H hP (But.refl p H)
      · walk_at "go"
        refine ⟨p, l, ns, _, rfl, hP, by decide, by decide, fun d0 H1 p1 b1 hd0 => ?_⟩
        walk_at "go"
        refine s_dec (fun h4 => ?_) (fun h4 => ?_)
        · walk_at "go"
          exact atom_ H1 p1 b1
        · walk_at "go"
          refine ⟨p, l, ns, _, rfl, p1, by decide, by decide, fun d1 H2 p2 b2 hd1 => ?_⟩
          walk_at "go"
          refine ⟨_, rfl, by omega, by omega, ?_⟩
          rw [Int.toNat_natCast]
          have hd2 : ∃ e, d = e + 1 := ⟨d - 1, by omega⟩
          obtain ⟨e, rfl⟩ := hd2
          have hLB : LB (e + 1) = 3 * LB e + 5 := rfl
          have b12 := b1.trans b2
          refine lc_go (P := fun _ => True) yl_rg (by rw [rgU_len]; omega) (fun D i acc H' => ∃ fs : List F, Fms H' acc fs ∧ acc.length = i ∧ oks 5000 fs e ∧ (txr fs).length ≤ i * (LB e + 1) ∧ H' D = some (.lst acc) ∧ Pl K p l ns H' ∧ But p H2 H')
            (fun D i acc H' h => ?_) (fun D hD => ⟨[], .nil, rfl, (by simp only [oks]), (by simp [txr]), upd_same, p2.new hD, but_add (But.refl p H2) hD⟩) (fun D i acc H' x hD h hl hi hx => ?_) (fun D acc H' hD h => ?_)
          · obtain ⟨fs, g1, g2, _⟩ := h
            exact ⟨trivial, by omega⟩
          · obtain ⟨fs, g1, g2, g3, g4, g5, g6, g7⟩ := h
            refine ⟨wipe1 _ _ _, s_yes (iteT ?_)⟩
            walk_at "go"
            refine ⟨p, l, ns, e, by rw [show ((e + 1 : Nat) : Int) - 1 = (e : Int) by omega]; rfl, by omega, by omega, g6, fun v f H3 p3 b3 hv hok hz => ?_⟩
            have hDp : D ≠ p := fun z => by
              obtain ⟨xs, e2⟩ := p2.at
              rw [← z, hD] at e2
              cases e2
            have e3 := b3 _ _ g5 hDp
            have t3 := g6.tp b3
            have t4 : Tp H3 (upd H3 D (.lst (acc ++ [v]))) := (Tp.refl H3).put e3
            refine lc_y (I := fun D i acc H' => ∃ fs : List F, Fms H' acc fs ∧ acc.length = i ∧ oks 5000 fs e ∧ (txr fs).length ≤ i * (LB e + 1) ∧ H' D = some (.lst acc) ∧ Pl K p l ns H' ∧ But p H2 H') e3 hl ⟨fs ++ [f], Fms.snoc (Fms.kept (t3.trans t4) _ _ g1) (Fm.kept t4 _ _ hv), by simp [g2], oks_app.mpr ⟨g3, by simp only [oks]; exact ⟨hok, trivial⟩⟩, ?_, upd_same, p2.add p3 hD, but_add (g7.trans b3) hD⟩
            rw [txr_app, List.length_append]
            simp only [txr, List.length_cons, List.length_append, List.length_nil]
            rw [Nat.add_mul]
            omega
          · obtain ⟨fs, g1, g2, g3, g4, g5, g6, g7⟩ := h
            rw [rgU_len] at g2 g4
            walk_at "go"
            refine s_tupL (SqL.of g5) (fun t ht => ?_)
            have hfl := g1.len
            have t1 : Tp H' (upd H' t (.tup acc)) := (Tp.refl H').new ht
            refine q _ (.t fs) _ (g6.new ht) (but_add' (b12.trans g7) ht) (.t upd_same (Fms.kept t1 _ _ g1)) (by simp only [ok]; exact ⟨by omega, by omega, g3⟩) ?_
            have hh := tx_t_len fs
            have : d1 * (LB e + 1) ≤ 3 * (LB e + 1) := Nat.mul_le_mul_right _ (by omega)
            omega
end
end K41
set_option maxRecDepth 100000
set_option maxHeartbeats 400000
namespace K41
open PySem PySem.Spec PyProof.Rows L2 J
local macro_rules | `(tactic| walk_at "ne") => `(tactic| first
  | with_reducible assumption
  | (apply Ne.symm; with_reducible assumption))
local macro_rules | `(tactic| walk_at "look") => `(tactic| first
  | with_reducible assumption
  | with_reducible exact upd_same
  | ((with_reducible refine' at_new ?ha ?hb); (case ha => with_reducible assumption); (case hb => walk_at "look"))
  | ((with_reducible refine' at_other ?ha ?hb); (case ha => walk_at "ne"); (case hb => walk_at "look"))
  | ((with_reducible refine' same_at ?ha ?hb); (case ha => with_reducible assumption); (case hb => walk_at "look")))
local macro_rules | `(tactic| walk_at "sq") => `(tactic| first
  | with_reducible assumption
  | ((with_reducible refine' SqL.of ?ha); (case ha => walk_at "look"))
  | ((with_reducible refine' sq_put ?ha ?hb); (case hb => walk_at "ne"); (case ha => walk_at "sq"))
  | ((with_reducible refine' sq_new ?ha ?hb); (case hb => with_reducible assumption); (case ha => walk_at "sq"))
  | ((with_reducible refine' sq_same ?ha ?hb); (case hb => with_reducible assumption); (case ha => walk_at "sq")))
local macro_rules | `(tactic| walk_at "qt") => `(tactic| first
  | with_reducible assumption
  | ((with_reducible refine' SqT.of ?ha); (case ha => walk_at "look")))
local macro_rules | `(tactic| walk_at "atI") => `(tactic| first
  | with_reducible assumption
  | exact rfl)
local macro_rules | `(tactic| walk_at "go") => `(tactic| repeat (first
  | ((with_reducible refine' s_var ?hv ?_); (case hv => exact rfl))
  | with_reducible refine s_c ?_
  | with_reducible refine s_op ?_
  | with_reducible refine s_test ?_
  | with_reducible refine s_ex ?_
  | with_reducible refine s_seq ?_
  | with_reducible refine s_asg ?_
  | with_reducible refine s_name ?_
  | with_reducible refine s_if ?_
  | with_reducible refine s_next ?_
  | with_reducible refine s_cb ?_
  | with_reducible refine s_call ?_
  | with_reducible refine s_cons ?_
  | with_reducible refine s_nil ?_
  | with_reducible refine s_and ?_
  | with_reducible refine s_or ?_
  | with_reducible refine s_not ?_
  | with_reducible refine s_chain ?_
  | with_reducible refine s_andV ?_
  | with_reducible refine s_orV ?_
  | with_reducible refine s_un ?_
  | with_reducible refine s_drop ?_
  | with_reducible refine s_ret ?_
  | with_reducible refine s_retN ?_
  | with_reducible refine s_gsub ?_
  | with_reducible refine s_tup ?_
  | with_reducible refine s_lst ?_
  | with_reducible refine s_bm ?_
  | with_reducible refine s_bm0 ?_
  | with_reducible refine s_sl ?_
  | with_reducible refine s_nopart ?_
  | with_reducible refine s_part ?_
  | with_reducible refine s_exi ?_
  | with_reducible refine s_cont ?_
  | with_reducible refine s_break ?_
  | with_reducible refine s_ifE ?_
  | with_reducible refine s_m1 ?_
  | with_reducible refine iteT ?_
  | with_reducible refine iteF ?_
  | with_reducible refine s_iteNT ?_
  | with_reducible refine s_iteNF ?_
  | with_reducible refine s_addI ?_
  | with_reducible refine s_I1 ?_
  | with_reducible refine s_eqI ?_
  | with_reducible refine s_eqS ?_
  | with_reducible refine s_eqB ?_
  | with_reducible refine s_neI ?_
  | with_reducible refine s_neS ?_
  | with_reducible refine s_neg ?_
  | with_reducible refine s_is ?_
  | with_reducible refine s_isnt ?_
  | with_reducible refine s_intI ?_
  | with_reducible refine s_intB ?_
  | with_reducible refine s_strS ?_
  | with_reducible refine s_tyS ?_
  | with_reducible refine s_exS ?_
  | ((with_reducible refine' s_ty ?hs ?_); (case hs => walk_at "look"))
  | with_reducible refine s_abs ?_
  | ((with_reducible refine' s_append ?hs ?hl ?_); (case hs => walk_at "look"); (case hl => first | assumption | omega | (simp only [List.length_append, List.length_cons, List.length_nil, List.length_map]; omega)))
  | ((with_reducible refine' s_popS ?hs ?_); (case hs => walk_at "look"))
  | ((with_reducible refine' s_strN ?hs ?_); (case hs => assumption))
  | with_reducible refine s_iRev ?_
  | with_reducible refine s_rng1 ?_
  | with_reducible refine s_rng2 ?_
  | with_reducible refine s_xf ?_
  | with_reducible refine s_rz ?_
  | with_reducible refine s_callS ?_
  | with_reducible refine s_repl ?_
  | with_reducible refine s_rg1 ?_
  | with_reducible refine isi_ss ?_
  | with_reducible refine s_tru ?_
  | with_reducible refine s_truB ?_
  | ((with_reducible refine' s_truL ?hs ?_); (case hs => walk_at "sq"))
  | with_reducible refine isi_is ?_
  | with_reducible refine isi_st ?_
  | with_reducible refine isi_it ?_
  | ((with_reducible refine' isi_tt ?hs ?_); (case hs => walk_at "look"))
  | with_reducible refine s_lc ?_
  | with_reducible refine s_forS ?_
  | with_reducible refine i_str ?_
  | with_reducible refine i_list ?_
  | with_reducible refine i_tup ?_
  | with_reducible refine s_exx ?_
  | with_reducible refine s_inS ?_
  | with_reducible refine s_ninS ?_
  | ((with_reducible refine' s_slTake ?hs ?hk ?_); (case hs => first | assumption | omega); (case hk => first | decide | omega))
  | ((with_reducible refine' s_slDrop ?hs ?hk ?_); (case hs => first | assumption | omega); (case hk => first | decide | omega))
  | ((with_reducible refine' s_slMid ?hs ?hk ?hk2 ?_); (case hs => first | assumption | omega); (case hk => first | decide | omega); (case hk2 => first | decide | omega))
  | ((with_reducible refine' s_ixX ?hs ?he ?_); (case hs => first | assumption | omega); (case he => walk_at "atI"))
  | ((with_reducible refine' s_lenX ?hs ?_); (case hs => first | assumption | omega))
  | ((with_reducible refine' s_all ?hs ?_); (case hs => walk_at "sq"))
  | with_reducible refine s_max ?_
  | with_reducible refine s_min ?_
  | ((with_reducible refine' s_ixL ?hs ?he ?_); (case hs => walk_at "sq"); (case he => walk_at "atI"))
  | ((with_reducible refine' s_ixT ?hs ?he ?_); (case hs => walk_at "qt"); (case he => walk_at "atI"))
  | ((with_reducible refine' s_lenL ?hs ?_); (case hs => walk_at "sq"))
  | ((with_reducible refine' s_lenT ?hs ?_); (case hs => walk_at "qt"))
  | ((with_reducible refine' s_setL ?hs ?he ?_); (case hs => walk_at "look"); (case he => walk_at "atI"))
  | ((with_reducible refine' s_mulI ?hs ?_); (case hs => first | exact .inr ⟨by decide, by decide⟩ | exact .inl ⟨by decide, by decide⟩ | assumption | exact .inl ⟨by omega, by omega⟩ | exact .inr ⟨by omega, by omega⟩))
  | ((with_reducible refine' s_I2 ?hs ?_); (case hs => first | assumption | exact (by decide) | exact ⟨by decide, by decide⟩ | exact ⟨by decide, by decide, by decide⟩))))

def spBent (K : PySem.W.Frag) : Sp := fun vs H Q _ => ∃ (p l : Addr) (ns : List Int) (t : List Nat), vs = [.ref p, .str (SX.S t)] ∧ t ≠ [] ∧ t.length ≤ 90000 ∧ Pl K p l ns H ∧ ∀ u H', Pl K p l ns H' → But p H H' → u.length ≤ t.length + 1 → Q (.str (SX.S u)) H'
structure O10 (P : Program) (w : World) (K : PySem.W.Frag) (mg : Str → Option Value) (base : Heap) : Prop where
  law_draw : Has P w K mg base CX0 "_law_draw" ["pool", "many"] 1 (spDraw K)
  law_atom : Has P w K mg base CX0 "_law_atom" ["pool"] 2 (spLAt K)
  law_text : Has P w K mg base CX0 "_law_text" ["form"] 50 (spText 50)
  law_told : Has P w K mg base CX0 "_law_told" ["text"] 5 spTold
  law_read : Has P w K mg base CX0 "_law_read" ["text"] 2 spLR
  law_read_right : HasG P w K mg base "_law_read_right" ["text", "due"] 6 spRR
  law_both_right : HasG P w K mg base "_law_both_right" ["form"] 51 spBR
section
variable {P : Program} {w : World} {K : PySem.W.Frag} {mg : Str → Option Value} {base : Heap}
abbrev s_law_bent : Stmt := topS 33
abbrev N_law_bent : List Str := ["pool", "text", "signs", "sign", "at", "way"]
theorem sc_law_bent : FnScope N_law_bent ["pool", "text"] (defScope s_law_bent) := ⟨rfl, rfl, rfl, by decide +kernel, rfl, by decide +kernel, by decide +kernel⟩
theorem ok_bent {f : Addr} {fd : FuncData} (Fn : Fun K "_law_bent" "_law_bent" s_law_bent f fd) (B : Bn mg) (O : O10 P w K mg base) : FnOk P w K mg base CX0 2 f fd ["pool", "text"] (spBent K) := by
  refine Fn.ok sc_law_bent (fun vs H Q E h => ?_) (fun cdv A outer s H vs Q E hr h => ?_)
  · obtain ⟨p, l, ns, t, rfl, _⟩ := h
    rfl
  · obtain ⟨p, l, ns, t, rfl, hne, ht, hP, q⟩ := h
    have sz : sizeLine = 16777216 := sizeLine_eq
    have hts : t.length ≤ sizeLine := by omega
    have ht1 : t.length ≠ 0 := fun z => hne (List.length_eq_zero_iff.mp z)
    refine ⟨_, (pss_cons (ps_set (i := 2) sc_law_bent.nd rfl (.inl rfl) pe_str)
  (pss_cons (ps_set (i := 3) sc_law_bent.nd rfl (.inl rfl) (pe_ix (k_ix (K := K) rfl) (pv 2) (pe_has O.law_draw hr (by rfl) pass0 (pa_cons (pv 0) (pa_cons (pe_callB (k_len (K := K) rfl) (by rfl) B.len (by decide +kernel) (pa_cons (pv 2) pa_nil)) pa_nil))) (fun _ _ => rfl)))
  (C8.pss_cut (ps_if (pt_cmpR (k_eq (K := K) rfl hr.units) (pe_has O.law_draw hr (by rfl) pass0 (pa_cons (pv 0) (pa_cons pe_int pa_nil))) pe_int (nomark _))
  (pss_one (ps_set (i := 3) sc_law_bent.nd rfl (.inl rfl) (pe_ix (k_ix (K := K) rfl) pe_str (pe_has O.law_draw hr (by rfl) pass0 (pa_cons (pv 0) (pa_cons pe_int pa_nil))) (fun _ _ => rfl))))
  pss_nil)
  (pss_cons (ps_set (i := 4) sc_law_bent.nd rfl (.inl rfl) (pe_has O.law_draw hr (by rfl) pass0 (pa_cons (pv 0) (pa_cons (pe_callB (k_len (K := K) rfl) (by rfl) B.len (by decide +kernel) (pa_cons (pv 1) pa_nil)) pa_nil))))
  (pss_cons (ps_set (i := 5) sc_law_bent.nd rfl (.inl rfl) (pe_has O.law_draw hr (by rfl) pass0 (pa_cons (pv 0) (pa_cons pe_int pa_nil))))
  (pss_cons (ps_if (pt_cmpR (k_eq (K := K) rfl hr.units) (pv 5) pe_int (nomark _))
  (pss_one (ps_ret (pe_op (k_add (K := K) rfl) (pe_slice (k_sl (K := K) rfl) (pv 1) po_none (po_some (pv 4))) (pe_slice (k_sl (K := K) rfl) (pv 1) (po_some (pe_op (k_add (K := K) rfl) (pv 4) pe_int)) po_none))))
  pss_nil)
  (pss_cons (ps_if (pt_cmpR (k_eq (K := K) rfl hr.units) (pv 5) pe_int (nomark _))
  (pss_one (ps_ret (pe_op (k_add (K := K) rfl) (pe_op (k_add (K := K) rfl) (pe_slice (k_sl (K := K) rfl) (pv 1) po_none (po_some (pv 4))) (pv 3)) (pe_slice (k_sl (K := K) rfl) (pv 1) (po_some (pv 4)) po_none))))
  pss_nil)
  (pss_one (ps_ret (pe_op (k_add (K := K) rfl) (pe_op (k_add (K := K) rfl) (pe_slice (k_sl (K := K) rfl) (pv 1) po_none (po_some (pv 4))) (pv 3)) (pe_slice (k_sl (K := K) rfl) (pv 1) (po_some (pe_op (k_add (K := K) rfl) (pv 4) pe_int)) po_none))))))))))), ?_⟩
    walk_at "go"
    refine s_lenS (by decide +kernel) ?_
    walk_at "go"
    refine ⟨p, l, ns, _, rfl, hP, by decide +kernel, by decide +kernel, fun d0 H1 p1 b1 hd0 => ?_⟩
    obtain ⟨c0, hc0⟩ := str_at (Int.ofNat_lt.mp hd0)
    refine s_ixS (by decide +kernel) hc0 ?_
    walk_at "go"
    refine s_cut (fun σ H2 => ∃ c : Nat, σ = [some (.ref p), some (.str (SX.S t)), some (.str (Str.ofString " !\"#$&'()*+,-./0123456789:;<=>?@ABCDEFGHIJKLMNOPQRSTUVWXYZ[\\]^_`abcdefghijklmnopqrstuvwxyz{|}~")), some (.str (SX.S [c])), none, none] ∧ Pl K p l ns H2 ∧ But p H H2) ?_ (fun σ H2 hm => ?_)
    · walk_at "go"
      refine ⟨p, l, ns, _, rfl, p1, by decide, by decide, fun d1 H2 p2 b2 hd1 => ?_⟩
      walk_at "go"
      refine s_dec (fun h1 => ?_) (fun h1 => ?_)
      · walk_at "go"
        refine ⟨p, l, ns, _, rfl, p2, by decide, by decide, fun d2 H3 p3 b3 hd2 => ?_⟩
        obtain ⟨c1, hc1⟩ := str_at (z := Str.ofString "()' 0123a") (d := d2) (by show d2 < 9; omega)
        refine s_ixS (by decide +kernel) hc1 ?_
        walk_at "go"
        exact ⟨c1, rfl, p3, (b1.trans b2).trans b3⟩
      · walk_at "go"
        exact ⟨c0, rfl, p2, b1.trans b2⟩
    · obtain ⟨c, rfl, p2, b2⟩ := hm
      walk_at "go"
      refine ⟨p, l, ns, _, rfl, p2, by omega, by omega, fun d H3 p3 b3 hd => ?_⟩
      walk_at "go"
      refine ⟨p, l, ns, _, rfl, p3, by decide, by decide, fun d4 H4 p4 b4 hd4 => ?_⟩
      have b24 := (b2.trans b3).trans b4
      have hd' : d < t.length := by omega
      walk_at "go"
      refine s_dec (fun h1 => ?_) (fun h1 => ?_)
      · walk_at "go"
        refine s_addX _ _ rfl rfl (by rw [List.length_take, List.length_drop]; omega) ?_
        exact q _ H4 p4 b24 (by rw [List.length_append, List.length_take, List.length_drop]; omega)
      · walk_at "go"
        refine s_dec (fun h2 => ?_) (fun h2 => ?_)
        · walk_at "go"
          refine s_addX _ [c] rfl rfl (by rw [List.length_take, List.length_singleton]; omega) ?_
          walk_at "go"
          refine s_addX _ _ rfl rfl (by rw [List.length_append, List.length_take, List.length_drop, List.length_singleton]; omega) ?_
          exact q _ H4 p4 b24 (by rw [List.length_append, List.length_append, List.length_take, List.length_drop, List.length_singleton]; omega)
        · walk_at "go"
          refine s_addX _ [c] rfl rfl (by rw [List.length_take, List.length_singleton]; omega) ?_
          walk_at "go"
          refine s_addX _ _ rfl rfl (by rw [List.length_append, List.length_take, List.length_drop, List.length_singleton]; omega) ?_
          exact q _ H4 p4 b24 (by rw [List.length_append, List.length_append, List.length_take, List.length_drop, List.length_singleton]; omega)
def chk : V → Bool
  | .str z => decide (z.length ≤ 100)
  | _ => false
theorem chk_of {x : V} (h : chk x = true) : ∃ l : List Nat, x = .str (SX.S l) ∧ l.length ≤ 100 := by
  cases x with
  | str z =>
    have h2 : z.length ≤ 100 := of_decide_eq_true h
    exact ⟨TL.tl z, by rw [show SX.S (TL.tl z) = z from TL.mk_tl z], by rw [← TL.len_tl]; exact h2⟩
  | _ => cases h
theorem LV.kept {H H' : Hp} {r : Option F} {v : V} (h : LV H r v) (s : Same H H') : LV H' r v := by
  obtain ⟨a, rfl, h⟩ := h
  refine ⟨a, rfl, ?_⟩
  cases r with
  | none => exact s _ _ h
  | some f =>
    obtain ⟨u, h1, h2⟩ := h
    exact ⟨u, s _ _ h1, Fm.kept (Tp.of s) f u h2⟩
theorem lc_rr {K : PySem.W.Frag} {σ : Fs} {H : Hp} {Q : VK} {e : Addr} {ys : List V} {k : Nat} {vs : List Nat} (hv : vs = [k]) (he : H e = some (.lst ys)) (hc : ys.all chk = true) (hz : ys.length ≤ sizeLine) (h0 : ∀ x, ((wipe σ [k]).set k (some x))[k]? = some (some x))
    (hq : ∀ D H2, Same H H2 → H2 D = some (.lst ((List.replicate ys.length true).map V.bl)) → Q (.ref D) H2) :
    LcG (Itl K e) (gName k) tYes (tCall spRR [] E0 (tCons (tVar k) (tCons (tCall spLR [] E0 (tCons (tVar k) tNil)) tNil))) vs σ Q H := by
  subst hv
  refine lc_go (P := fun H' => H' e = some (.lst ys)) (yl_list fun H' h => SqL.of h) hz (fun D i acc H' => acc = (List.replicate i true).map V.bl ∧ H' D = some (.lst acc) ∧ Same H H') (fun D i acc H' h => ?_) (fun D hD => ⟨rfl, upd_same, same_new hD⟩) (fun D i acc H' x hD h hl hi hx => ?_) (fun D acc H' hD h => ?_)
  · obtain ⟨rfl, h1, s1⟩ := h
    exact ⟨s1 _ _ he, by simp⟩
  · obtain ⟨rfl, h1, s1⟩ := h
    obtain ⟨l, rfl, hl2⟩ := chk_of (List.all_eq_true.mp hc x (List.mem_of_getElem? hx))
    refine ⟨wipe1 _ _ _, s_yes (iteT (s_call (s_cons (s_var (h0 _) (s_cons (s_call (s_cons (s_var (h0 _) (s_nil ?_)))))))))⟩
    refine ⟨l, rfl, by omega, fun v H2 s2 hv => s_nil ⟨l, v, rfl, by omega, by rw [← agree]; exact hv, fun H3 s3 => ?_⟩⟩
    refine lc_y (I := fun D i acc H' => acc = (List.replicate i true).map V.bl ∧ H' D = some (.lst acc) ∧ Same H H') (s3 _ _ (s2 _ _ h1)) hl ⟨?_, upd_same, same_mut ((s1.trans s2).trans s3) hD⟩
    rw [List.replicate_succ', List.map_append]
    rfl
  · obtain ⟨rfl, h1, s1⟩ := h
    exact hq D H' s1 h1
abbrev s_law_odd_right : Stmt := topS 36
abbrev N_law_odd_right : List Str := ["odd", "text"]
theorem sc_law_odd_right : FnScope N_law_odd_right [] (defScope s_law_odd_right) := ⟨rfl, rfl, rfl, by decide +kernel, rfl, by decide +kernel, by decide +kernel⟩
theorem ok_odd_right {f : Addr} {fd : FuncData} (Fn : Fun K "_law_odd_right" "_law_odd_right" s_law_odd_right f fd) (B : Bn mg) (O : O10 P w K mg base) : FnG P w K mg base 7 f fd [] (fun vs H Q _ => vs = [] ∧ ∀ H', Same H H' → Q (.bl true) H') := by
  refine okG Fn sc_law_odd_right (fun vs H Q E h => ?_) (fun cdv A outer s H vs Q gd hr h => ?_)
  · obtain ⟨rfl, _⟩ := h
    rfl
  · obtain ⟨rfl, q⟩ := h
    have sz : sizeLine = 16777216 := sizeLine_eq
    refine ⟨_, (pss_cons (ps_set (i := 0) sc_law_odd_right.nd rfl (.inl rfl) (pe_lst (pa_cons pe_str (pa_cons pe_str (pa_cons pe_str (pa_cons pe_str (pa_cons pe_str (pa_cons pe_str (pa_cons pe_str (pa_cons pe_str (pa_cons pe_str (pa_cons pe_str (pa_cons pe_str (pa_cons pe_str pa_nil))))))))))))))
  (pss_cons (ps_set (i := 0) sc_law_odd_right.nd rfl (.inl rfl) (pe_op (k_add (K := K) rfl) (pv 0) (pe_lst (pa_cons pe_str (pa_cons pe_str (pa_cons pe_str (pa_cons pe_str (pa_cons pe_str (pa_cons pe_str (pa_cons pe_str (pa_cons pe_str (pa_cons pe_str pa_nil))))))))))))
  (pss_cons (ps_set (i := 0) sc_law_odd_right.nd rfl (.inl rfl) (pe_op (k_add (K := K) rfl) (pv 0) (pe_lst (pa_cons pe_str (pa_cons pe_str (pa_cons pe_str (pa_cons pe_str (pa_cons pe_str (pa_cons pe_str (pa_cons pe_str (pa_cons pe_str (pa_cons pe_str (pa_cons pe_str (pa_cons pe_str (pa_cons pe_str pa_nil)))))))))))))))
  (pss_one (ps_ret (pe_callB (k_all (K := K) rfl) (by rfl) B.all (by decide +kernel) (pa_cons (pe_lc (own := [("text", 1)]) (by rfl) sc_law_odd_right.nd (k_list (K := K) rfl (pv 0)) (blkOk_by (N := N_law_odd_right) (sc := defScope s_law_odd_right) (by decide +kernel)) (fun _ _ _ _ _ => (pg_name (i := 1) sc_law_odd_right.nd rfl (.inl rfl))) (fun _ _ _ _ _ => pts_nil) (fun _ _ _ _ _ => (pe_hasG O.law_read_right gd hr (by rfl) (pa_cons (pv 1) (pa_cons (pe_has O.law_read hr (by rfl) pass0 (pa_cons (pv 1) pa_nil)) pa_nil))))) pa_nil))))))), ?_⟩
    walk_at "go"
    refine ⟨by show 12 ≤ sizeLine; omega, fun a ha => ?_⟩
    walk_at "go"
    refine ⟨by show 9 ≤ sizeLine; omega, fun b hb => ?_⟩
    refine s_addR (at_new hb upd_same) upd_same (by show 12 + 9 ≤ sizeLine; omega) (fun c hc => ?_)
    walk_at "go"
    refine ⟨by show 12 ≤ sizeLine; omega, fun d hd => ?_⟩
    refine s_addR (at_new hd upd_same) upd_same (by show 21 + 12 ≤ sizeLine; omega) (fun e he => ?_)
    walk_at "go"
    refine ⟨e, rfl, ⟨_, SqL.of upd_same⟩, ?_⟩
    refine lc_rr rfl upd_same (by decide +kernel) (by show 33 ≤ sizeLine; omega) (fun x => rfl) (fun D H2 s2 hD2 => ?_)
    walk_at "go"
    have e1 : ∀ n, (List.replicate n true).all id = true := fun n => by simp
    rw [e1]
    exact q _ (((((same_new ha).trans (same_new hb)).trans (same_new hc)).trans ((same_new hd).trans (same_new he))).trans s2)
end
end K41
set_option maxRecDepth 100000
set_option maxHeartbeats 400000
namespace K41
open PySem PySem.Spec PyProof.Rows L2 J
local macro_rules | `(tactic| walk_at "ne") => `(tactic| first
  | with_reducible assumption
  | (apply Ne.symm; with_reducible assumption))
local macro_rules | `(tactic| walk_at "look") => `(tactic| first
  | with_reducible assumption
  | with_reducible exact upd_same
  | ((with_reducible refine' at_new ?ha ?hb); (case ha => with_reducible assumption); (case hb => walk_at "look"))
  | ((with_reducible refine' at_other ?ha ?hb); (case ha => walk_at "ne"); (case hb => walk_at "look"))
  | ((with_reducible refine' same_at ?ha ?hb); (case ha => with_reducible assumption); (case hb => walk_at "look")))
local macro_rules | `(tactic| walk_at "sq") => `(tactic| first
  | with_reducible assumption
  | ((with_reducible refine' SqL.of ?ha); (case ha => walk_at "look"))
  | ((with_reducible refine' sq_put ?ha ?hb); (case hb => walk_at "ne"); (case ha => walk_at "sq"))
  | ((with_reducible refine' sq_new ?ha ?hb); (case hb => with_reducible assumption); (case ha => walk_at "sq"))
  | ((with_reducible refine' sq_same ?ha ?hb); (case hb => with_reducible assumption); (case ha => walk_at "sq")))
local macro_rules | `(tactic| walk_at "qt") => `(tactic| first
  | with_reducible assumption
  | ((with_reducible refine' SqT.of ?ha); (case ha => walk_at "look")))
local macro_rules | `(tactic| walk_at "atI") => `(tactic| first
  | with_reducible assumption
  | exact rfl)
local macro_rules | `(tactic| walk_at "go") => `(tactic| repeat (first
  | ((with_reducible refine' s_var ?hv ?_); (case hv => exact rfl))
  | with_reducible refine s_c ?_
  | with_reducible refine s_op ?_
  | with_reducible refine s_test ?_
  | with_reducible refine s_ex ?_
  | with_reducible refine s_seq ?_
  | with_reducible refine s_asg ?_
  | with_reducible refine s_name ?_
  | with_reducible refine s_if ?_
  | with_reducible refine s_next ?_
  | with_reducible refine s_cb ?_
  | with_reducible refine s_call ?_
  | with_reducible refine s_cons ?_
  | with_reducible refine s_nil ?_
  | with_reducible refine s_and ?_
  | with_reducible refine s_or ?_
  | with_reducible refine s_not ?_
  | with_reducible refine s_chain ?_
  | with_reducible refine s_andV ?_
  | with_reducible refine s_orV ?_
  | with_reducible refine s_un ?_
  | with_reducible refine s_drop ?_
  | with_reducible refine s_ret ?_
  | with_reducible refine s_retN ?_
  | with_reducible refine s_gsub ?_
  | with_reducible refine s_tup ?_
  | with_reducible refine s_lst ?_
  | with_reducible refine s_bm ?_
  | with_reducible refine s_bm0 ?_
  | with_reducible refine s_sl ?_
  | with_reducible refine s_nopart ?_
  | with_reducible refine s_part ?_
  | with_reducible refine s_exi ?_
  | with_reducible refine s_cont ?_
  | with_reducible refine s_break ?_
  | with_reducible refine s_ifE ?_
  | with_reducible refine s_m1 ?_
  | with_reducible refine iteT ?_
  | with_reducible refine iteF ?_
  | with_reducible refine s_iteNT ?_
  | with_reducible refine s_iteNF ?_
  | with_reducible refine s_addI ?_
  | with_reducible refine s_I1 ?_
  | with_reducible refine s_eqI ?_
  | with_reducible refine s_eqS ?_
  | with_reducible refine s_eqB ?_
  | with_reducible refine s_neI ?_
  | with_reducible refine s_neS ?_
  | with_reducible refine s_neg ?_
  | with_reducible refine s_is ?_
  | with_reducible refine s_isnt ?_
  | with_reducible refine s_intI ?_
  | with_reducible refine s_intB ?_
  | with_reducible refine s_strS ?_
  | with_reducible refine s_tyS ?_
  | with_reducible refine s_exS ?_
  | ((with_reducible refine' s_ty ?hs ?_); (case hs => walk_at "look"))
  | with_reducible refine s_abs ?_
  | ((with_reducible refine' s_append ?hs ?hl ?_); (case hs => walk_at "look"); (case hl => first | assumption | omega | (simp only [List.length_append, List.length_cons, List.length_nil, List.length_map]; omega)))
  | ((with_reducible refine' s_popS ?hs ?_); (case hs => walk_at "look"))
  | ((with_reducible refine' s_strN ?hs ?_); (case hs => assumption))
  | with_reducible refine s_iRev ?_
  | with_reducible refine s_rng1 ?_
  | with_reducible refine s_rng2 ?_
  | with_reducible refine s_xf ?_
  | with_reducible refine s_rz ?_
  | with_reducible refine s_callS ?_
  | with_reducible refine s_repl ?_
  | with_reducible refine s_rg1 ?_
  | with_reducible refine isi_ss ?_
  | with_reducible refine s_tru ?_
  | with_reducible refine s_truB ?_
  | ((with_reducible refine' s_truL ?hs ?_); (case hs => walk_at "sq"))
  | with_reducible refine isi_is ?_
  | with_reducible refine isi_st ?_
  | with_reducible refine isi_it ?_
  | ((with_reducible refine' isi_tt ?hs ?_); (case hs => walk_at "look"))
  | with_reducible refine s_lc ?_
  | with_reducible refine s_forS ?_
  | with_reducible refine i_str ?_
  | with_reducible refine i_list ?_
  | with_reducible refine i_tup ?_
  | with_reducible refine s_exx ?_
  | with_reducible refine s_inS ?_
  | with_reducible refine s_ninS ?_
  | ((with_reducible refine' s_slTake ?hs ?hk ?_); (case hs => first | assumption | omega); (case hk => first | decide | omega))
  | ((with_reducible refine' s_slDrop ?hs ?hk ?_); (case hs => first | assumption | omega); (case hk => first | decide | omega))
  | ((with_reducible refine' s_slMid ?hs ?hk ?hk2 ?_); (case hs => first | assumption | omega); (case hk => first | decide | omega); (case hk2 => first | decide | omega))
  | ((with_reducible refine' s_ixX ?hs ?he ?_); (case hs => first | assumption | omega); (case he => walk_at "atI"))
  | ((with_reducible refine' s_lenX ?hs ?_); (case hs => first | assumption | omega))
  | ((with_reducible refine' s_all ?hs ?_); (case hs => walk_at "sq"))
  | with_reducible refine s_max ?_
  | with_reducible refine s_min ?_
  | ((with_reducible refine' s_ixL ?hs ?he ?_); (case hs => walk_at "sq"); (case he => walk_at "atI"))
  | ((with_reducible refine' s_ixT ?hs ?he ?_); (case hs => walk_at "qt"); (case he => walk_at "atI"))
  | ((with_reducible refine' s_lenL ?hs ?_); (case hs => walk_at "sq"))
  | ((with_reducible refine' s_lenT ?hs ?_); (case hs => walk_at "qt"))
  | ((with_reducible refine' s_setL ?hs ?he ?_); (case hs => walk_at "look"); (case he => walk_at "atI"))
  | ((with_reducible refine' s_mulI ?hs ?_); (case hs => first | exact .inr ⟨by decide, by decide⟩ | exact .inl ⟨by decide, by decide⟩ | assumption | exact .inl ⟨by omega, by omega⟩ | exact .inr ⟨by omega, by omega⟩))
  | ((with_reducible refine' s_I2 ?hs ?_); (case hs => first | assumption | exact (by decide) | exact ⟨by decide, by decide⟩ | exact ⟨by decide, by decide, by decide⟩))))

/-- texts that no form has -/
theorem word_none {a : List Nat} (h : a.all nd = true) (hne : a ≠ []) (hn : atom a = none) : parseP 40 5000 a = none := by
  have e := run_word (M := 40) (E := 5000) (st := [[]]) (a := a) (l := []) (.inl rfl) h hne
  rw [List.append_nil, hn] at e
  unfold parseP
  rw [e]
theorem in_none {a : List Nat} (h : a.all nd = true) (hne : a ≠ []) (hn : atom a = none) : parseP 40 5000 ([40, 97, 32] ++ a ++ [41]) = none := by
  have e0 : [40, 97, 32] ++ a ++ [41] = 40 :: ([97] ++ (32 :: (a ++ [41]))) := by simp
  have e1 := run_word (M := 40) (E := 5000) (st := [[], []]) (a := [97]) (l := 32 :: (a ++ [41])) (.inr ⟨32, _, rfl, .inr rfl⟩) (by decide) (by decide)
  have ea : atom [97] = some (.s [97]) := by rfl
  rw [ea] at e1
  have e2 : runP 40 5000 [[]] (tk [] ([40, 97, 32] ++ a ++ [41])) = none := by
    rw [e0, run_open (by decide), if_pos (by decide), e1]
    show (if ([[F.s [97]], []] : List (List F)).length ≤ 40 + 1 then runP 40 5000 [[F.s [97]], []] (tk [] (32 :: (a ++ [41]))) else none) = none
    rw [if_pos (by decide), run_blank (by decide), run_word (.inr ⟨41, [], rfl, .inl rfl⟩) h hne, hn]
  unfold parseP
  rw [e2]
theorem rep_all {p : Nat → Bool} {c : Nat} (h : p c = true) : ∀ n, (List.replicate n c).all p = true := fun n => List.all_eq_true.mpr fun d hd => by rw [(List.mem_replicate.mp hd).2]; exact h
theorem Fms.mem {H : Hp} : ∀ {vs : List V} {fs : List F} {x : V}, Fms H vs fs → x ∈ vs → ∃ f, f ∈ fs ∧ Fm H x f
  | _, _, x, .nil, h => by cases h
  | _, _, x, .cons a r, h => by
    rcases List.mem_cons.mp h with h | h
    · exact ⟨_, List.mem_cons_self .., by rw [h]; exact a⟩
    · obtain ⟨f, h1, h2⟩ := Fms.mem r h
      exact ⟨f, List.mem_cons_of_mem _ h1, h2⟩
abbrev alph : List Nat := [97, 98, 99, 100, 101, 102, 103, 104, 105, 106, 107, 108, 109, 110, 111, 112, 113, 114, 115, 116, 117, 118, 119, 120, 121, 122]
theorem alph_lett {c : Nat} (h : c ∈ alph) : lett c = true := by
  simp [alph] at h
  simp [lett]
  omega
theorem step_of {c : Nat} (h : c ∈ [48, 49, 50, 51]) : step4 c = true := by
  simp at h
  simp [step4]
  omega
/-- the six forms at the bounds -/
def bf (c d : Nat) : List F := [.s (List.replicate 12 c), .s (39 :: List.replicate 1000 d), .i 999999999, .t [], .s [39], .i 0]
theorem bf_ok {c d : Nat} (hc : lett c = true) (hd : step4 d = true) : ∀ f ∈ bf c d, ok 5000 f 40 ∧ (tx f).length ≤ 100000 := by
  intro f hf
  simp only [bf, List.mem_cons, List.not_mem_nil, or_false] at hf
  rcases hf with rfl | rfl | rfl | rfl | rfl | rfl
  · refine ⟨?_, by simp only [tx, List.length_replicate]; omega⟩
    simp only [ok, wordB, List.length_replicate, rep_all hc]
    rfl
  · refine ⟨?_, by simp only [tx, List.length_cons, List.length_replicate]; omega⟩
    simp only [ok, codeB, List.length_replicate, rep_all hd]
    simp
  · refine ⟨by simp only [ok]; omega, ?_⟩
    have := TL.numL_len (n := 999999999) (k := 9) (by decide) (by decide)
    simp only [tx]
    omega
  · exact ⟨by simp [ok, oks], by simp [tx, txs]⟩
  · exact ⟨by simp only [ok]; decide, by simp [tx]⟩
  · refine ⟨by simp only [ok]; omega, ?_⟩
    have := TL.numL_len (n := 0) (k := 1) (by decide) (by decide)
    simp only [tx]
    omega
/-- the five texts beyond -/
def bt (c d : Nat) : List (List Nat) := [List.replicate 13 c, 39 :: List.replicate 1001 d, [49, 48, 48, 48, 48, 48, 48, 48, 48, 48], [48, d], [39, c]]
theorem nd_lett {c : Nat} (h : lett c = true) : nd c = true := by
  simp [lett] at h
  simp [nd]
  omega
theorem nd_step {c : Nat} (h : step4 c = true) : nd c = true := by
  simp [step4] at h
  simp [nd]
  omega
theorem bt_ok {c d : Nat} (hc : lett c = true) (hd : step4 d = true) : ∀ a ∈ bt c d, a.all nd = true ∧ a ≠ [] ∧ atom a = none ∧ a.length ≤ 1002 := by
  intro a ha
  simp only [bt, List.mem_cons, List.not_mem_nil, or_false] at ha
  rcases ha with rfl | rfl | rfl | rfl | rfl
  · refine ⟨rep_all (nd_lett hc) 13, by simp [List.replicate], ?_, by rw [List.length_replicate]; omega⟩
    have h39 : c ≠ 39 := fun z => by subst z; exact absurd hc (by decide)
    have hnd : digt c = false := by
      simp [lett] at hc
      simp [digt]
      omega
    have e : List.replicate 13 c = c :: List.replicate 12 c := rfl
    rw [e, atom_word h39 (by simp [hnd])]
    rfl
  · refine ⟨?_, by simp, ?_, by simp⟩
    · simp only [List.all_cons, rep_all (nd_step hd)]
      rfl
    · rw [atom_code, List.length_replicate]
      rfl
  · exact ⟨by decide, by decide, by rfl, by decide⟩
  · refine ⟨by simp only [List.all_cons, nd_step hd]; rfl, by simp, ?_, by simp⟩
    have hdd : digt d = true := by
      simp [step4] at hd
      simp [digt]
      omega
    rw [atom_digits (by simp only [List.all_cons, hdd]; rfl)]
    simp
  · refine ⟨by simp only [List.all_cons, nd_lett hc]; rfl, by simp, ?_, by simp⟩
    have hs : step4 c = false := by
      simp [lett] at hc
      simp [step4]
      omega
    rw [atom_code]
    simp [hs]
def spB2 (K : PySem.W.Frag) : Sp := fun vs H Q _ => ∃ (p l : Addr) (ns : List Int), vs = [.ref p] ∧ Pl K p l ns H ∧ ∀ H', Pl K p l ns H' → But p H H' → Q (.bl true) H'
section
variable {P : Program} {w : World} {K : PySem.W.Frag} {mg : Str → Option Value} {base : Heap}
abbrev s_law_bounds_right : Stmt := topS 34
abbrev N_law_bounds_right : List Str := ["pool", "form", "step", "wraps", "letter", "digit", "beyond", "text"]
theorem sc_law_bounds_right : FnScope N_law_bounds_right ["pool"] (defScope s_law_bounds_right) := ⟨rfl, rfl, rfl, by decide +kernel, rfl, by decide +kernel, by decide +kernel⟩
theorem ok_bounds_right {f : Addr} {fd : FuncData} (Fn : Fun K "_law_bounds_right" "_law_bounds_right" s_law_bounds_right f fd) (B : Bn mg) (O : O10 P w K mg base) : FnG P w K mg base 52 f fd ["pool"] (spB2 K) := by
  refine okG Fn sc_law_bounds_right (fun vs H Q E h => ?_) (fun cdv A outer s H vs Q gd hr h => ?_)
  · obtain ⟨p, l, ns, rfl, _⟩ := h
    rfl
  · obtain ⟨p, l, ns, rfl, hP, q⟩ := h
    have sz : sizeLine = 16777216 := sizeLine_eq
    refine ⟨_, (pss_cons (ps_set (i := 1) sc_law_bounds_right.nd rfl (.inl rfl) (pe_has O.law_atom hr (by rfl) pass0 (pa_cons (pv 0) pa_nil)))
  (C8.pss_cut (ps_for PassesOwn.never rfl (pi_range1 rfl B.range (pa_cons pe_int pa_nil)) (pg_name (i := 2) sc_law_bounds_right.nd rfl (.inl rfl))
  (pss_cons (ps_set (i := 3) sc_law_bounds_right.nd rfl (.inl rfl) (pe_lst (pa_cons (pe_tup (pa_cons (pv 1) pa_nil)) (pa_cons (pe_tup (pa_cons (pv 2) (pa_cons (pv 1) pa_nil))) (pa_cons (pe_tup (pa_cons (pv 1) (pa_cons pe_str pa_nil))) pa_nil)))))
  (pss_one (ps_set (i := 1) sc_law_bounds_right.nd rfl (.inl rfl) (pe_ix (k_ix (K := K) rfl) (pv 3) (pe_has O.law_draw hr (by rfl) pass0 (pa_cons (pv 0) (pa_cons pe_int pa_nil))) (fun _ _ => rfl))))))
  (pss_cons (ps_if (pt_not (k_truth (K := K) rfl (pe_hasG O.law_both_right gd hr (by rfl) (pa_cons (pv 1) pa_nil))))
  (pss_one (ps_ret pe_bl))
  pss_nil)
  (pss_cons (ps_if (pt_not (k_truth (K := K) rfl (pe_hasG O.law_read_right gd hr (by rfl) (pa_cons (pe_op (k_add (K := K) rfl) (pe_op (k_add (K := K) rfl) pe_str (pe_has O.law_text hr (by rfl) pass0 (pa_cons (pv 1) pa_nil))) pe_str) (pa_cons (pe_lst pa_nil) pa_nil)))))
  (pss_one (ps_ret pe_bl))
  pss_nil)
  (pss_cons (ps_set (i := 4) sc_law_bounds_right.nd rfl (.inl rfl) (pe_ix (k_ix (K := K) rfl) pe_str (pe_has O.law_draw hr (by rfl) pass0 (pa_cons (pv 0) (pa_cons pe_int pa_nil))) (fun _ _ => rfl)))
  (pss_cons (ps_set (i := 5) sc_law_bounds_right.nd rfl (.inl rfl) (pe_ix (k_ix (K := K) rfl) pe_str (pe_has O.law_draw hr (by rfl) pass0 (pa_cons (pv 0) (pa_cons pe_int pa_nil))) (fun _ _ => rfl)))
  (pss_cons (ps_for PassesOwn.never rfl (k_tup (K := K) rfl (pe_tup (pa_cons (pe_op u_mul (pv 4) pe_int) (pa_cons (pe_op (k_add (K := K) rfl) pe_str (pe_op u_mul (pv 5) pe_int)) (pa_cons pe_int (pa_cons (pe_tup pa_nil) (pa_cons pe_str (pa_cons pe_int pa_nil)))))))) (pg_name (i := 1) sc_law_bounds_right.nd rfl (.inl rfl))
  (pss_one (ps_if (pt_not (k_truth (K := K) rfl (pe_hasG O.law_both_right gd hr (by rfl) (pa_cons (pv 1) pa_nil))))
  (pss_one (ps_ret pe_bl))
  pss_nil)))
  (pss_cons (ps_set (i := 6) sc_law_bounds_right.nd rfl (.inl rfl) (pe_lst (pa_cons (pe_op u_mul (pv 4) pe_int) (pa_cons (pe_op (k_add (K := K) rfl) pe_str (pe_op u_mul (pv 5) pe_int)) (pa_cons pe_str (pa_cons (pe_op (k_add (K := K) rfl) pe_str (pv 5)) (pa_cons (pe_op (k_add (K := K) rfl) pe_str (pv 4)) pa_nil)))))))
  (pss_cons (ps_for PassesOwn.never rfl (k_list (K := K) rfl (pv 6)) (pg_name (i := 7) sc_law_bounds_right.nd rfl (.inl rfl))
  (pss_one (ps_if (pw_or (pt_not (k_truth (K := K) rfl (pe_hasG O.law_read_right gd hr (by rfl) (pa_cons (pv 7) (pa_cons (pe_lst pa_nil) pa_nil))))) (pw_or1 (pt_not (k_truth (K := K) rfl (pe_hasG O.law_read_right gd hr (by rfl) (pa_cons (pe_op (k_add (K := K) rfl) (pe_op (k_add (K := K) rfl) pe_str (pv 7)) pe_str) (pa_cons (pe_lst pa_nil) pa_nil))))))).pt
  (pss_one (ps_ret pe_bl))
  pss_nil)))
  (pss_one (ps_ret pe_bl))))))))))), ?_⟩
    walk_at "go"
    refine ⟨p, l, ns, rfl, hP, fun v0 f0 H1 p1 b1 hv0 hA0 hz0 => ?_⟩
    walk_at "go"
    refine s_cut (fun σ H' => ∃ (v : V) (f : F) (y2 y3 : Option V), σ = [some (.ref p), some v, y2, y3, none, none, none, none] ∧ Fm H' v f ∧ ok 5000 f 40 ∧ dep f = 40 ∧ (tx f).length ≤ 212 ∧ Pl K p l ns H' ∧ But p H H') ?_ (fun σ H2 hm => ?_)
    · walk_at "go"
      refine ⟨_, rfl, by decide, by decide, ?_⟩
      refine for_go (P := fun _ => True) yl_rg (fun i σ H' => ∃ (v : V) (f : F) (y2 y3 : Option V), σ = [some (.ref p), some v, y2, y3, none, none, none, none] ∧ Fm H' v f ∧ ok 5000 f i ∧ dep f = i ∧ (tx f).length ≤ 12 + 5 * i ∧ Pl K p l ns H' ∧ But p H H')
        (fun _ _ _ _ => trivial) ⟨v0, f0, none, none, rfl, hv0 H1, ok_of_A hA0, ?_, hz0, p1, b1⟩ (fun i σ H2 x hi hil hx => ?_) (fun σ H2 hi => ?_)
      · cases f0 with
        | i n => simp only [dep]
        | s l => simp only [dep]
        | t fs => exact hA0.elim
      · obtain ⟨v, f, y2, y3, rfl, g1, g2, g3, g4, g5, g6⟩ := hi
        rw [rgU_len] at hil
        have hil' : i < 40 := hil
        have hx2 : x = .int ((i : Nat) : Int) := by
          rw [rgU_at hil] at hx
          rw [← Option.some.inj hx]
          congr 1
          omega
        subst hx2
        walk_at "go"
        refine ⟨by show 1 ≤ sizeLine; omega, fun a1 h1 => ?_⟩
        walk_at "go"
        refine ⟨by show 2 ≤ sizeLine; omega, fun a2 h2 => ?_⟩
        walk_at "go"
        refine ⟨by show 2 ≤ sizeLine; omega, fun a3 h3 => ?_⟩
        walk_at "go"
        refine ⟨by show 3 ≤ sizeLine; omega, fun a4 h4 => ?_⟩
        walk_at "go"
        have pA := (((g5.new h1 (o := .tup [v])).new h2 (o := .tup [.int (i : Int), v])).new h3 (o := .tup [v, .str (Str.ofString "x")])).new h4 (o := .lst [.ref a1, .ref a2, .ref a3])
        refine ⟨p, l, ns, _, rfl, pA, by decide, by decide, fun d H3 p3 b3 hd => ?_⟩
        have tpA : Tp H2 (upd (upd (upd (upd H2 a1 (.tup [v])) a2 (.tup [.int (i : Int), v])) a3 (.tup [v, .str (Str.ofString "x")])) a4 (.lst [.ref a1, .ref a2, .ref a3])) := ((((Tp.refl H2).new h1).new h2).new h3).new h4
        have tp3 := tpA.trans (pA.tp b3)
        have n4 : a4 ≠ p := fun z => by
          obtain ⟨xs, e⟩ := (((g5.new h1 (o := .tup [v])).new h2 (o := .tup [.int (i : Int), v])).new h3 (o := .tup [v, .str (Str.ofString "x")])).at
          rw [← z, h4] at e
          cases e
        have e4 : H3 a4 = some (.lst [.ref a1, .ref a2, .ref a3]) := b3 _ _ upd_same n4
        have t1 : H3 a1 = some (.tup [v]) := (pA.tp b3) _ _ (at_new h4 (at_new h3 (at_new h2 upd_same)))
        have t2 : H3 a2 = some (.tup [.int (i : Int), v]) := (pA.tp b3) _ _ (at_new h4 (at_new h3 upd_same))
        have t3 : H3 a3 = some (.tup [v, .str (Str.ofString "x")]) := (pA.tp b3) _ _ (at_new h4 upd_same)
        have gv := Fm.kept tp3 f v g1
        have bb : But p H H3 := g6.trans (((((But.refl p H2).new h1).new h2).new h3).new h4 |>.trans b3)
        have g2' := ok_mono (Nat.le_refl 5000) f i (i + 1 - 1) (by omega) g2
        match d, hd with
        | 0, _ =>
          refine s_ixL (SqL.of e4) (at_ofN (j := 0) rfl rfl) ?_
          walk_at "go"
          refine ⟨_, .t [f], _, _, rfl, .t t1 (.cons gv .nil), ?_, ?_, ?_, p3, bb⟩
          · simp only [ok, oks]
            exact ⟨by omega, by simp, g2', trivial⟩
          · simp only [dep, deps]
            omega
          · simp only [tx, txs, txr, List.length_cons, List.length_append, List.length_nil]
            omega
        | 1, _ =>
          refine s_ixL (SqL.of e4) (at_ofN (j := 1) rfl rfl) ?_
          walk_at "go"
          have hn := TL.numL_len (n := i) (k := 2) (by decide) (by omega)
          refine ⟨_, .t [.i i, f], _, _, rfl, .t t2 (.cons (.i i) (.cons gv .nil)), ?_, ?_, ?_, p3, bb⟩
          · simp only [ok, oks]
            exact ⟨by omega, by simp, by omega, g2', trivial⟩
          · simp only [dep, deps]
            omega
          · simp only [tx, txs, txr, List.length_cons, List.length_append, List.length_nil]
            omega
        | 2, _ =>
          refine s_ixL (SqL.of e4) (at_ofN (j := 2) rfl rfl) ?_
          walk_at "go"
          refine ⟨_, .t [f, .s [120]], _, _, rfl, .t t3 (.cons gv (.cons (.s [120]) .nil)), ?_, ?_, ?_, p3, bb⟩
          · simp only [ok, oks]
            exact ⟨by omega, by simp, g2', by decide, trivial⟩
          · simp only [dep, deps]
            omega
          · simp only [tx, txs, txr, List.length_cons, List.length_append, List.length_nil]
            omega
        | d + 3, h => exact absurd h (by omega)
      · obtain ⟨v, f, y2, y3, rfl, g1, g2, g3, g4, g5, g6⟩ := hi
        rw [rgU_len] at g2 g3 g4
        exact ⟨v, f, y2, y3, rfl, g1, g2, g3, g4, g5, g6⟩
    · obtain ⟨v, f, y2, y3, rfl, g1, g2, g3, g4, g5, g6⟩ := hm
      walk_at "go"
      refine ⟨v, f, rfl, g1, g2, by omega, fun H3 s3 => ?_⟩
      walk_at "go"
      have v3 := Fm.kept (Tp.of s3) f v g1
      refine ⟨v, f, rfl, v3, sn_ok f 40 g2, by omega, by omega, fun H4 s4 => ?_⟩
      refine s_addX [40] (tx f) rfl rfl (by show 1 + _ ≤ _; omega) ?_
      walk_at "go"
      refine s_addX ([40] ++ tx f) [41] rfl rfl (by rw [List.length_append]; show 1 + _ + 1 ≤ _; omega) ?_
      walk_at "go"
      refine ⟨Nat.zero_le _, fun d1 hd1 => ?_⟩
      walk_at "go"
      have pn : parseP 40 5000 ([40] ++ tx f ++ [41]) = none := by
        have e : [40] ++ tx f ++ [41] = tx (.t [f]) := by simp [tx, txs, txr]
        rw [e]
        refine parse_out (M' := 41) (E' := 5000) (by decide) (Nat.le_refl _) ?_ fun z => ?_
        · simp only [ok, oks]
          exact ⟨by omega, by simp, ok_mono (Nat.le_refl _) f 40 _ (by omega) g2, trivial⟩
        · have := dep_ok _ _ z
          simp only [dep, deps] at this
          omega
      refine ⟨_, .ref d1, rfl, by simp; omega, ⟨d1, rfl, by rw [pn]; exact upd_same⟩, fun H5 s5 => ?_⟩
      walk_at "go"
      have p5 := ((g5.same (s3.trans s4)).new hd1).same s5
      have b5 : But p H H5 := (g6.trans (But.of ((s3.trans s4).trans ((same_new hd1).trans s5))))
      refine ⟨p, l, ns, _, rfl, p5, by decide, by decide, fun e1 H6 p6 b6 he1 => ?_⟩
      obtain ⟨c, hc⟩ : ∃ c, alph[e1]? = some c := ⟨_, List.getElem?_eq_getElem (by show e1 < 26; omega)⟩
      have hcl := alph_lett (List.mem_of_getElem? hc)
      refine s_ixX (l := alph) (by show 26 ≤ sizeLine; omega) (at_ofN rfl hc) ?_
      walk_at "go"
      refine ⟨p, l, ns, _, rfl, p6, by decide, by decide, fun e2 H7 p7 b7 he2 => ?_⟩
      obtain ⟨d, hd⟩ : ∃ d, [48, 49, 50, 51][e2]? = some d := ⟨_, List.getElem?_eq_getElem (by show e2 < 4; omega)⟩
      have hds := step_of (List.mem_of_getElem? hd)
      refine s_ixX (l := [48, 49, 50, 51]) (by show 4 ≤ sizeLine; omega) (at_ofN rfl hd) ?_
      walk_at "go"
      refine s_mulX [c] rfl (by decide) (by decide) (by show 1 * 12 ≤ _; omega) ?_
      rw [flat_rep]
      walk_at "go"
      refine s_mulX [d] rfl (by decide) (by decide) (by show 1 * 1000 ≤ _; omega) ?_
      rw [flat_rep]
      refine s_addX [39] (List.replicate 1000 d) rfl rfl (by rw [List.length_replicate]; show 1 + 1000 ≤ _; omega) ?_
      walk_at "go"
      refine ⟨Nat.zero_le _, fun t0 ht0 => ?_⟩
      walk_at "go"
      refine ⟨by show 6 ≤ sizeLine; omega, fun T hT => ?_⟩
      refine ⟨T, rfl, ⟨_, SqT.of upd_same⟩, ?_⟩
      have b7' : But p H H7 := (b5.trans b6).trans b7
      have fms : Fms (upd (upd H7 t0 (.tup [])) T (.tup [.str (SX.S (List.replicate 12 c)), .str (SX.S ([39] ++ List.replicate 1000 d)), .int 999999999, .ref t0, .str (Str.ofString "'"), .int 0])) [.str (SX.S (List.replicate 12 c)), .str (SX.S ([39] ++ List.replicate 1000 d)), .int 999999999, .ref t0, .str (Str.ofString "'"), .int 0] (bf c d) :=
        .cons (.s _) (.cons (.s _) (.cons (.i 999999999) (.cons (.t (at_new hT upd_same) .nil) (.cons (.s [39]) (.cons (.i 0) .nil)))))
      refine for_all (K := K) (P := fun H' => H' T = some (.tup [.str (SX.S (List.replicate 12 c)), .str (SX.S ([39] ++ List.replicate 1000 d)), .int 999999999, .ref t0, .str (Str.ofString "'"), .int 0])) (yl_tup fun H' h => SqT.of h)
        (fun σ H' => ∃ yf, σ = [some (.ref p), yf, y2, y3, some (.str (SX.S [c])), some (.str (SX.S [d])), none, none] ∧ Pl K p l ns H' ∧ But p H H' ∧ H' T = some (.tup [.str (SX.S (List.replicate 12 c)), .str (SX.S ([39] ++ List.replicate 1000 d)), .int 999999999, .ref t0, .str (Str.ofString "'"), .int 0]) ∧
          Fms H' [.str (SX.S (List.replicate 12 c)), .str (SX.S ([39] ++ List.replicate 1000 d)), .int 999999999, .ref t0, .str (Str.ofString "'"), .int 0] (bf c d)) (fun σ H' h => ?_) ⟨_, rfl, (p7.new ht0).new hT, (b7'.new ht0).new hT, upd_same, fms⟩ (fun σ H8 x h hx => ?_) (fun σ H8 h => ?_)
      · obtain ⟨_, _, _, _, h, _⟩ := h
        exact h
      · obtain ⟨yf, rfl, k1, k2, k3, k4⟩ := h
        obtain ⟨f2, hf2, hfx⟩ := k4.mem hx
        obtain ⟨o1, o2⟩ := bf_ok hcl hds f2 hf2
        walk_at "go"
        refine ⟨x, f2, rfl, hfx, o1, o2, fun H9 s9 => ?_⟩
        walk_at "go"
        exact ⟨_, rfl, k1.same s9, k2.trans (But.of s9), s9 _ _ k3, Fms.kept (Tp.of s9) _ _ k4⟩
      · obtain ⟨yf, rfl, k1, k2, k3, k4⟩ := h
        walk_at "go"
        refine s_mulX [c] rfl (by decide) (by decide) (by show 1 * 13 ≤ _; omega) ?_
        rw [flat_rep]
        walk_at "go"
        refine s_mulX [d] rfl (by decide) (by decide) (by show 1 * 1001 ≤ _; omega) ?_
        rw [flat_rep]
        refine s_addX [39] (List.replicate 1001 d) rfl rfl (by rw [List.length_replicate]; show 1 + 1001 ≤ _; omega) ?_
        walk_at "go"
        refine s_addX [48] [d] rfl rfl (by show 1 + 1 ≤ _; omega) ?_
        walk_at "go"
        refine s_addX [39] [c] rfl rfl (by show 1 + 1 ≤ _; omega) ?_
        walk_at "go"
        refine ⟨by show 5 ≤ sizeLine; omega, fun L hL => ?_⟩
        walk_at "go"
        refine ⟨L, rfl, ⟨_, SqL.of upd_same⟩, ?_⟩
        refine for_all (K := K) (P := fun H' => H' L = some (.lst ((bt c d).map stV))) (yl_list fun H' h => SqL.of h)
          (fun σ H' => ∃ y7, σ = [some (.ref p), yf, y2, y3, some (.str (SX.S [c])), some (.str (SX.S [d])), some (.ref L), y7] ∧ Pl K p l ns H' ∧ But p H H' ∧ H' L = some (.lst ((bt c d).map stV))) (fun σ H' h => ?_) ⟨none, rfl, k1.new hL, k2.new hL, upd_same⟩ (fun σ H9 x h hx => ?_) (fun σ H9 h => ?_)
        · obtain ⟨_, _, _, _, h⟩ := h
          exact h
        · obtain ⟨y7, rfl, m1, m2, m3⟩ := h
          obtain ⟨a, ha, rfl⟩ := List.mem_map.mp hx
          obtain ⟨o1, o2, o3, o4⟩ := bt_ok hcl hds a ha
          walk_at "go"
          refine ⟨Nat.zero_le _, fun n1 hn1 => ?_⟩
          walk_at "go"
          refine ⟨a, .ref n1, rfl, by omega, ⟨n1, rfl, by rw [word_none o1 o2 o3]; exact upd_same⟩, fun H10 s10 => ?_⟩
          walk_at "go"
          refine s_addX [40, 97, 32] a rfl rfl (by show 3 + _ ≤ _; omega) ?_
          walk_at "go"
          refine s_addX ([40, 97, 32] ++ a) [41] rfl rfl (by rw [List.length_append]; show 3 + _ + 1 ≤ _; omega) ?_
          walk_at "go"
          refine ⟨Nat.zero_le _, fun n2 hn2 => ?_⟩
          walk_at "go"
          refine ⟨_, .ref n2, rfl, by simp; omega, ⟨n2, rfl, by rw [in_none o1 o2 o3]; exact upd_same⟩, fun H11 s11 => ?_⟩
          walk_at "go"
          have sA : Same H9 H11 := (same_new hn1).trans (s10.trans ((same_new hn2).trans s11))
          exact ⟨_, rfl, m1.same sA, m2.trans (But.of sA), sA _ _ m3⟩
        · obtain ⟨y7, rfl, m1, m2, m3⟩ := h
          walk_at "go"
          exact q _ m1 m2
end
end K41
set_option maxRecDepth 100000
set_option maxHeartbeats 400000
namespace K41
open PySem PySem.Spec PyProof.Rows L2 J
local macro_rules | `(tactic| walk_at "ne") => `(tactic| first
  | with_reducible assumption
  | (apply Ne.symm; with_reducible assumption))
local macro_rules | `(tactic| walk_at "look") => `(tactic| first
  | with_reducible assumption
  | with_reducible exact upd_same
  | ((with_reducible refine' at_new ?ha ?hb); (case ha => with_reducible assumption); (case hb => walk_at "look"))
  | ((with_reducible refine' at_other ?ha ?hb); (case ha => walk_at "ne"); (case hb => walk_at "look"))
  | ((with_reducible refine' same_at ?ha ?hb); (case ha => with_reducible assumption); (case hb => walk_at "look")))
local macro_rules | `(tactic| walk_at "sq") => `(tactic| first
  | with_reducible assumption
  | ((with_reducible refine' SqL.of ?ha); (case ha => walk_at "look"))
  | ((with_reducible refine' sq_put ?ha ?hb); (case hb => walk_at "ne"); (case ha => walk_at "sq"))
  | ((with_reducible refine' sq_new ?ha ?hb); (case hb => with_reducible assumption); (case ha => walk_at "sq"))
  | ((with_reducible refine' sq_same ?ha ?hb); (case hb => with_reducible assumption); (case ha => walk_at "sq")))
local macro_rules | `(tactic| walk_at "qt") => `(tactic| first
  | with_reducible assumption
  | ((with_reducible refine' SqT.of ?ha); (case ha => walk_at "look")))
local macro_rules | `(tactic| walk_at "atI") => `(tactic| first
  | with_reducible assumption
  | exact rfl)
local macro_rules | `(tactic| walk_at "go") => `(tactic| repeat (first
  | ((with_reducible refine' s_var ?hv ?_); (case hv => exact rfl))
  | with_reducible refine s_c ?_
  | with_reducible refine s_op ?_
  | with_reducible refine s_test ?_
  | with_reducible refine s_ex ?_
  | with_reducible refine s_seq ?_
  | with_reducible refine s_asg ?_
  | with_reducible refine s_name ?_
  | with_reducible refine s_if ?_
  | with_reducible refine s_next ?_
  | with_reducible refine s_cb ?_
  | with_reducible refine s_call ?_
  | with_reducible refine s_cons ?_
  | with_reducible refine s_nil ?_
  | with_reducible refine s_and ?_
  | with_reducible refine s_or ?_
  | with_reducible refine s_not ?_
  | with_reducible refine s_chain ?_
  | with_reducible refine s_andV ?_
  | with_reducible refine s_orV ?_
  | with_reducible refine s_un ?_
  | with_reducible refine s_drop ?_
  | with_reducible refine s_ret ?_
  | with_reducible refine s_retN ?_
  | with_reducible refine s_gsub ?_
  | with_reducible refine s_tup ?_
  | with_reducible refine s_lst ?_
  | with_reducible refine s_bm ?_
  | with_reducible refine s_bm0 ?_
  | with_reducible refine s_sl ?_
  | with_reducible refine s_nopart ?_
  | with_reducible refine s_part ?_
  | with_reducible refine s_exi ?_
  | with_reducible refine s_cont ?_
  | with_reducible refine s_break ?_
  | with_reducible refine s_ifE ?_
  | with_reducible refine s_m1 ?_
  | with_reducible refine iteT ?_
  | with_reducible refine iteF ?_
  | with_reducible refine s_iteNT ?_
  | with_reducible refine s_iteNF ?_
  | with_reducible refine s_addI ?_
  | with_reducible refine s_I1 ?_
  | with_reducible refine s_eqI ?_
  | with_reducible refine s_eqS ?_
  | with_reducible refine s_eqB ?_
  | with_reducible refine s_neI ?_
  | with_reducible refine s_neS ?_
  | with_reducible refine s_neg ?_
  | with_reducible refine s_is ?_
  | with_reducible refine s_isnt ?_
  | with_reducible refine s_intI ?_
  | with_reducible refine s_intB ?_
  | with_reducible refine s_strS ?_
  | with_reducible refine s_tyS ?_
  | with_reducible refine s_exS ?_
  | ((with_reducible refine' s_ty ?hs ?_); (case hs => walk_at "look"))
  | with_reducible refine s_abs ?_
  | ((with_reducible refine' s_append ?hs ?hl ?_); (case hs => walk_at "look"); (case hl => first | assumption | omega | (simp only [List.length_append, List.length_cons, List.length_nil, List.length_map]; omega)))
  | ((with_reducible refine' s_popS ?hs ?_); (case hs => walk_at "look"))
  | ((with_reducible refine' s_strN ?hs ?_); (case hs => assumption))
  | with_reducible refine s_iRev ?_
  | with_reducible refine s_rng1 ?_
  | with_reducible refine s_rng2 ?_
  | with_reducible refine s_xf ?_
  | with_reducible refine s_rz ?_
  | with_reducible refine s_callS ?_
  | with_reducible refine s_repl ?_
  | with_reducible refine s_rg1 ?_
  | with_reducible refine isi_ss ?_
  | with_reducible refine s_tru ?_
  | with_reducible refine s_truB ?_
  | ((with_reducible refine' s_truL ?hs ?_); (case hs => walk_at "sq"))
  | with_reducible refine isi_is ?_
  | with_reducible refine isi_st ?_
  | with_reducible refine isi_it ?_
  | ((with_reducible refine' isi_tt ?hs ?_); (case hs => walk_at "look"))
  | with_reducible refine s_lc ?_
  | with_reducible refine s_forS ?_
  | with_reducible refine i_str ?_
  | with_reducible refine i_list ?_
  | with_reducible refine i_tup ?_
  | with_reducible refine s_exx ?_
  | with_reducible refine s_inS ?_
  | with_reducible refine s_ninS ?_
  | ((with_reducible refine' s_slTake ?hs ?hk ?_); (case hs => first | assumption | omega); (case hk => first | decide | omega))
  | ((with_reducible refine' s_slDrop ?hs ?hk ?_); (case hs => first | assumption | omega); (case hk => first | decide | omega))
  | ((with_reducible refine' s_slMid ?hs ?hk ?hk2 ?_); (case hs => first | assumption | omega); (case hk => first | decide | omega); (case hk2 => first | decide | omega))
  | ((with_reducible refine' s_ixX ?hs ?he ?_); (case hs => first | assumption | omega); (case he => walk_at "atI"))
  | ((with_reducible refine' s_lenX ?hs ?_); (case hs => first | assumption | omega))
  | ((with_reducible refine' s_all ?hs ?_); (case hs => walk_at "sq"))
  | with_reducible refine s_max ?_
  | with_reducible refine s_min ?_
  | ((with_reducible refine' s_ixL ?hs ?he ?_); (case hs => walk_at "sq"); (case he => walk_at "atI"))
  | ((with_reducible refine' s_ixT ?hs ?he ?_); (case hs => walk_at "qt"); (case he => walk_at "atI"))
  | ((with_reducible refine' s_lenL ?hs ?_); (case hs => walk_at "sq"))
  | ((with_reducible refine' s_lenT ?hs ?_); (case hs => walk_at "qt"))
  | ((with_reducible refine' s_setL ?hs ?he ?_); (case hs => walk_at "look"); (case he => walk_at "atI"))
  | ((with_reducible refine' s_mulI ?hs ?_); (case hs => first | exact .inr ⟨by decide, by decide⟩ | exact .inl ⟨by decide, by decide⟩ | assumption | exact .inl ⟨by omega, by omega⟩ | exact .inr ⟨by omega, by omega⟩))
  | ((with_reducible refine' s_I2 ?hs ?_); (case hs => first | assumption | exact (by decide) | exact ⟨by decide, by decide⟩ | exact ⟨by decide, by decide, by decide⟩))))

theorem flat_repV {α : Type} {v : α} : ∀ n, (List.replicate n [v]).flatten = List.replicate n v
  | 0 => rfl
  | n + 1 => by rw [List.replicate_succ, List.flatten_cons, flat_repV n]; rfl
theorem s_repL {H : Hp} {Q : VK} {a : Addr} {v : V} {n : Nat} {k : Int} (hk : k = (n : Int)) (h : H a = some (.lst [v])) (hn : n ≤ 1000000) (q : ∀ p, H p = none → Q (.ref p) (upd H p (.lst (List.replicate n v)))) : rMulU (.ref a) (.int k) H Q := by
  subst hk
  refine ⟨[v], h, by omega, by omega, by rw [Int.toNat_natCast, sizeLine_eq]; show 1 * n ≤ _; omega, fun p hp => ?_⟩
  rw [Int.toNat_natCast, flat_repV]
  exact q p hp
theorem Fms.rep {H : Hp} {v : V} {f : F} (h : Fm H v f) : ∀ n, Fms H (List.replicate n v) (List.replicate n f)
  | 0 => .nil
  | n + 1 => .cons h (Fms.rep h n)
theorem oks_rep {E : Nat} {f : F} {m : Nat} (h : ok E f m) : ∀ n, oks E (List.replicate n f) m
  | 0 => by simp only [List.replicate, oks]
  | n + 1 => by
    simp only [List.replicate, oks]
    exact ⟨h, oks_rep h n⟩
theorem txr_rep (f : F) : ∀ n, (txr (List.replicate n f)).length = n * (1 + (tx f).length)
  | 0 => by simp [txr]
  | n + 1 => by
    have := txr_rep f n
    simp only [List.replicate, txr, List.length_cons, List.length_append]
    rw [this, Nat.succ_mul]
    omega
theorem tx_t_eq {fs : List F} (h : fs ≠ []) : (tx (.t fs)).length = 1 + (txr fs).length := by
  cases fs with
  | nil => exact absurd rfl h
  | cons f r =>
    simp only [tx, txs, txr, List.length_cons, List.length_append, List.length_nil]
    omega
abbrev cR : List Nat := (List.replicate 249 [48, 49, 50, 51]).flatten
def code1 : List Nat := [39] ++ cR ++ [48, 49, 50]
theorem cR_len : cR.length = 996 := by simp [cR]
theorem code1_len : code1.length = 1000 := by simp [code1]
theorem cR_step : cR.all step4 = true := by
  rw [List.all_eq_true]
  intro c hc
  obtain ⟨l, h1, h2⟩ := List.mem_flatten.mp hc
  rw [(List.mem_replicate.mp h1).2] at h2
  exact step_of h2
theorem code1_ok : ok 5000 (.s code1) 39 := by
  simp only [ok]
  have e : codeB code1 = true := by
    show ((39 == 39) && decide ((cR ++ [48, 49, 50]).length ≤ 1000) && (cR ++ [48, 49, 50]).all step4) = true
    rw [List.all_append, cR_step, List.length_append, cR_len]
    rfl
  rw [e, Bool.or_true]
def last1 (t : List Nat) : List Nat := [39] ++ List.replicate 898 51 ++ t
theorem last1_ok {t : List Nat} (h : t.all step4 = true) (hl : t.length ≤ 1) : ok 5000 (.s (last1 t)) 39 := by
  simp only [ok]
  have e : codeB (last1 t) = true := by
    show ((39 == 39) && decide ((List.replicate 898 51 ++ t).length ≤ 1000) && (List.replicate 898 51 ++ t).all step4) = true
    rw [List.all_append, rep_all (p := step4) (c := 51) rfl, h, List.length_append, List.length_replicate, decide_eq_true (by omega)]
    rfl
  rw [e, Bool.or_true]
def big (t : List Nat) : F := .t (List.replicate 99 (.s code1) ++ [.s (last1 t)])
theorem big_ok {t : List Nat} (h : t.all step4 = true) (hl : t.length ≤ 1) : ok 5000 (big t) 40 := by
  unfold big
  simp only [ok]
  refine ⟨by decide, by simp, oks_app.mpr ⟨oks_rep code1_ok 99, ?_⟩⟩
  simp only [oks]
  exact ⟨last1_ok h hl, trivial⟩
theorem big_len (t : List Nat) : (tx (big t)).length = 100000 + t.length := by
  unfold big
  rw [tx_t_eq (by simp), txr_app, List.length_append, txr_rep]
  simp only [tx, txr, List.length_cons, List.length_append, List.length_nil, code1_len, last1, List.length_replicate]
  omega
def sizD : PyData := .tuple [.str (Str.ofString "size"), .int 100001]
theorem siz_shaped : SeqAt.shaped sizD = true := by decide +kernel
theorem siz_eqv : PyData.eqv sizD sizD = true := by decide +kernel
theorem siz_dp {K : PySem.W.Frag} {H : Hp} {a : Addr} (h : H a = some (.tup [.str "size", .int 100001])) : Dp K H (.ref a) sizD := .tup (SqT.of h) (.cons (.str _) (.cons (.int _) .nil))
section
variable {P : Program} {w : World} {K : PySem.W.Frag} {mg : Str → Option Value} {base : Heap}
abbrev s_law_large_right : Stmt := topS 35
abbrev N_law_large_right : List Str := ["pool", "entry", "form", "codes", "last"]
theorem sc_law_large_right : FnScope N_law_large_right ["pool"] (defScope s_law_large_right) := ⟨rfl, rfl, rfl, by decide +kernel, rfl, by decide +kernel, by decide +kernel⟩
theorem ok_large_right {f : Addr} {fd : FuncData} (Fn : Fun K "_law_large_right" "_law_large_right" s_law_large_right f fd) (B : Bn mg) (O : O10 P w K mg base) : FnG P w K mg base 52 f fd ["pool"] (spB2 K) := by
  refine okG Fn sc_law_large_right (fun vs H Q E h => ?_) (fun cdv A outer s H vs Q gd hr h => ?_)
  · obtain ⟨p, l, ns, rfl, _⟩ := h
    rfl
  · obtain ⟨p, l, ns, rfl, hP, q⟩ := h
    have sz : sizeLine = 16777216 := sizeLine_eq
    refine ⟨_, (pss_cons (ps_set (i := 1) sc_law_large_right.nd rfl (.inl rfl) (pe_has O.law_atom hr (by rfl) pass0 (pa_cons (pv 0) pa_nil)))
  (pss_cons (ps_if (pt_cmpR (k_eq (K := K) rfl hr.units) (pe_has O.law_draw hr (by rfl) pass0 (pa_cons (pv 0) (pa_cons pe_int pa_nil))) pe_int (nomark _))
  (pss_cons (ps_set (i := 2) sc_law_large_right.nd rfl (.inl rfl) (pe_callTy (k_tuple (K := K) rfl) (by rfl) B.tuple (by decide +kernel) (pa_cons (pe_op (k_add (K := K) rfl) (pe_op u_mul (pe_lst (pa_cons pe_int pa_nil)) pe_int) (pe_lst (pa_cons (pv 1) pa_nil))) pa_nil)))
  (pss_one (ps_ret (pe_and (pe_hasG O.law_both_right gd hr (by rfl) (pa_cons (pv 2) pa_nil)) (pe_one (pe_hasG O.law_read_right gd hr (by rfl) (pa_cons (pe_has O.law_text hr (by rfl) pass0 (pa_cons (pe_op (k_add (K := K) rfl) (pv 2) (pe_tup (pa_cons pe_int pa_nil))) pa_nil)) (pa_cons (pe_lst pa_nil) pa_nil))))))))
  pss_nil)
  (pss_cons (ps_set (i := 3) sc_law_large_right.nd rfl (.inl rfl) (pe_op u_mul (pe_lst (pa_cons (pe_op (k_add (K := K) rfl) (pe_op (k_add (K := K) rfl) pe_str (pe_op u_mul pe_str pe_int)) pe_str) pa_nil)) pe_int))
  (pss_cons (ps_set (i := 4) sc_law_large_right.nd rfl (.inl rfl) (pe_op (k_add (K := K) rfl) pe_str (pe_op u_mul pe_str pe_int)))
  (pss_cons (ps_if (pt_not (k_truth (K := K) rfl (pe_hasG O.law_both_right gd hr (by rfl) (pa_cons (pe_callTy (k_tuple (K := K) rfl) (by rfl) B.tuple (by decide +kernel) (pa_cons (pe_op (k_add (K := K) rfl) (pv 3) (pe_lst (pa_cons (pv 4) pa_nil))) pa_nil)) pa_nil))))
  (pss_one (ps_ret pe_bl))
  pss_nil)
  (pss_one (ps_ret (pe_cmpR (k_eq (K := K) rfl hr.units) (pe_has O.law_told hr (by rfl) pass0 (pa_cons (pe_has O.law_text hr (by rfl) pass0 (pa_cons (pe_callTy (k_tuple (K := K) rfl) (by rfl) B.tuple (by decide +kernel) (pa_cons (pe_op (k_add (K := K) rfl) (pv 3) (pe_lst (pa_cons (pe_op (k_add (K := K) rfl) (pv 4) pe_str) pa_nil))) pa_nil)) pa_nil)) pa_nil)) (pe_tup (pa_cons pe_str (pa_cons pe_int pa_nil))) (nomark _))))))))), ?_⟩
    walk_at "go"
    refine ⟨p, l, ns, rfl, hP, fun v0 f0 H1 p1 b1 hv0 hA0 hz0 => ?_⟩
    walk_at "go"
    refine ⟨p, l, ns, _, rfl, p1, by decide, by decide, fun d1 H2 p2 b2 hd1 => ?_⟩
    walk_at "go"
    refine s_dec (fun h1 => ?_) (fun h1 => ?_)
    · walk_at "go"
      refine ⟨by show 1 ≤ sizeLine; omega, fun a1 ha1 => ?_⟩
      refine s_c (s_repL (n := 4999) rfl upd_same (by decide) (fun a2 ha2 => ?_))
      walk_at "go"
      refine ⟨by show 1 ≤ sizeLine; omega, fun a3 ha3 => ?_⟩
      refine s_addR (at_new ha3 upd_same) upd_same (by rw [List.length_replicate]; show 4999 + 1 ≤ _; omega) (fun a4 ha4 => ?_)
      refine s_nil (s_tupL (SqL.of upd_same) (fun a5 ha5 => ?_))
      walk_at "go"
      have sA := ((((same_new ha1 (o := .lst [.int 0])).trans (same_new ha2 (o := .lst (List.replicate 4999 (.int 0))))).trans (same_new ha3 (o := .lst [v0]))).trans (same_new ha4 (o := .lst (List.replicate 4999 (.int 0) ++ [v0])))).trans (same_new ha5 (o := .tup (List.replicate 4999 (.int 0) ++ [v0])))
      generalize hH3 : upd _ a5 (HO.tup (List.replicate 4999 (V.int 0) ++ [v0])) = H3 at sA ⊢
      have e5 : H3 a5 = some (.tup (List.replicate 4999 (.int 0) ++ [v0])) := by rw [← hH3]; exact upd_same
      clear hH3
      have fx : ∀ H', Fms H' (List.replicate 4999 (.int 0) ++ [v0]) (List.replicate 4999 (.i 0) ++ [f0]) := fun H' => (Fms.rep (.i 0) 4999).snoc (hv0 H')
      have ok0 : ∀ n, oks 5000 (List.replicate 4999 (.i 0) ++ [f0]) n := fun n => oks_app.mpr ⟨oks_rep (by simp only [ok]; omega) _, by simp only [oks]; exact ⟨ok_of_A hA0, trivial⟩⟩
      have ok1 : ∀ n, oks 5001 (List.replicate 4999 (.i 0) ++ [f0]) n := fun n => oks_app.mpr ⟨oks_rep (by simp only [ok]; omega) _, by simp only [oks]; exact ⟨ok_of_A hA0, trivial⟩⟩
      have l0 : (tx (.i 0)).length = 1 := by simp [tx, TL.numL_lt]
      have lr : (txr (List.replicate 4999 (.i 0) ++ [f0])).length ≤ 10011 := by
        rw [txr_app, List.length_append, txr_rep, l0]
        simp only [txr, List.length_cons, List.length_append, List.length_nil]
        omega
      refine ⟨_, .t (List.replicate 4999 (.i 0) ++ [f0]), rfl, .t e5 (fx _), ?_, ?_, fun H4 s4 => ?_⟩
      · simp only [ok]
        exact ⟨by decide, by simp, ok0 _⟩
      · have := tx_t_len (List.replicate 4999 (.i 0) ++ [f0])
        omega
      walk_at "go"
      refine ⟨by show 1 ≤ sizeLine; omega, fun a6 ha6 => ?_⟩
      have e5' := s4 _ _ e5
      refine .inr ⟨a5, a6, _, _, rfl, rfl, SqT.of (at_new ha6 e5'), SqT.of upd_same, ?_, fun z => absurd z (by simp), fun _ z => absurd z (by simp), fun _ _ a7 ha7 => ?_⟩
      · rw [List.length_append, List.length_replicate]
        show 4999 + 1 + 1 ≤ _
        omega
      have f2 : (List.replicate 4999 (F.i 0) ++ [f0] ++ [F.i 0]).length = 5001 := by simp
      have fm7 : Fm (upd (upd H4 a6 (.tup [.int 0])) a7 (.tup (List.replicate 4999 (.int 0) ++ [v0] ++ [.int 0]))) (.ref a7) (.t (List.replicate 4999 (F.i 0) ++ [f0] ++ [F.i 0])) := .t upd_same ((fx _).snoc (.i 0))
      have l2 : (tx (.t (List.replicate 4999 (F.i 0) ++ [f0] ++ [F.i 0]))).length ≤ 10020 := by
        have := tx_t_len (List.replicate 4999 (F.i 0) ++ [f0] ++ [F.i 0])
        rw [txr_app (List.replicate 4999 (F.i 0) ++ [f0]), List.length_append] at this
        simp only [txr, List.length_cons, List.length_append, List.length_nil, l0] at this
        omega
      have okw : ok 5001 (.t (List.replicate 4999 (F.i 0) ++ [f0] ++ [F.i 0])) 40 := by
        simp only [ok]
        exact ⟨by decide, by rw [f2]; omega, oks_app.mpr ⟨ok1 _, by simp only [oks, ok]; exact ⟨by omega, trivial⟩⟩⟩
      have pn : parseP 40 5000 (tx (.t (List.replicate 4999 (F.i 0) ++ [f0] ++ [F.i 0]))) = none := parse_out (M' := 40) (E' := 5001) (Nat.le_refl _) (by decide) okw fun z => by
        simp only [ok] at z
        have := z.2.1
        rw [f2] at this
        omega
      walk_at "go"
      refine ⟨_, _, rfl, fm7, sn_ok _ _ okw, ?_, by omega, fun H5 s5 => ?_⟩
      · have := dep_ok _ _ okw
        omega
      walk_at "go"
      refine ⟨Nat.zero_le _, fun a8 ha8 => ?_⟩
      walk_at "go"
      refine ⟨_, .ref a8, rfl, by omega, ⟨a8, rfl, by rw [pn]; exact upd_same⟩, fun H6 s6 => ?_⟩
      have sB := (sA.trans s4).trans (((same_new ha6).trans (same_new ha7)).trans (s5.trans ((same_new ha8).trans s6)))
      exact q _ (p2.same sB) ((b1.trans b2).trans (But.of sB))
    · walk_at "go"
      refine s_mulX [48, 49, 50, 51] rfl (by decide) (by decide) (by show 4 * 249 ≤ _; omega) ?_
      refine s_addX [39] cR rfl rfl (by rw [cR_len]; show 1 + 996 ≤ _; omega) ?_
      walk_at "go"
      refine s_addX ([39] ++ cR) [48, 49, 50] rfl rfl (by rw [List.length_append, cR_len]; show 1 + 996 + 3 ≤ _; omega) ?_
      walk_at "go"
      refine ⟨by show 1 ≤ sizeLine; omega, fun a1 ha1 => ?_⟩
      refine s_c (s_repL (n := 99) rfl upd_same (by decide) (fun a2 ha2 => ?_))
      walk_at "go"
      refine s_mulX [51] rfl (by decide) (by decide) (by show 1 * 898 ≤ _; omega) ?_
      rw [flat_rep]
      refine s_addX [39] (List.replicate 898 51) rfl rfl (by rw [List.length_replicate]; show 1 + 898 ≤ _; omega) ?_
      walk_at "go"
      refine ⟨by show 1 ≤ sizeLine; omega, fun a3 ha3 => ?_⟩
      refine s_addR (at_new ha3 upd_same) upd_same (by rw [List.length_replicate]; show 99 + 1 ≤ _; omega) (fun a4 ha4 => ?_)
      refine s_nil (s_tupL (SqL.of upd_same) (fun a5 ha5 => ?_))
      walk_at "go"
      have el : last1 [] = [39] ++ List.replicate 898 51 := by simp [last1]
      have sA := ((((same_new ha1 (o := .lst [stV code1])).trans (same_new ha2 (o := .lst (List.replicate 99 (stV code1))))).trans (same_new ha3 (o := .lst [V.str (SX.S ([39] ++ List.replicate 898 51))]))).trans (same_new ha4 (o := .lst (List.replicate 99 (stV code1) ++ [V.str (SX.S ([39] ++ List.replicate 898 51))])))).trans (same_new ha5 (o := .tup (List.replicate 99 (stV code1) ++ [V.str (SX.S ([39] ++ List.replicate 898 51))])))
      have e2 : upd (upd (upd (upd (upd H2 a1 (HO.lst [V.str (SX.S ([39] ++ cR ++ [48, 49, 50]))])) a2 (HO.lst (List.replicate 99 (V.str (SX.S ([39] ++ cR ++ [48, 49, 50])))))) a3 (HO.lst [V.str (SX.S ([39] ++ List.replicate 898 51))])) a4 (HO.lst (List.replicate 99 (V.str (SX.S ([39] ++ cR ++ [48, 49, 50]))) ++ [V.str (SX.S ([39] ++ List.replicate 898 51))]))) a5 (HO.tup (List.replicate 99 (V.str (SX.S ([39] ++ cR ++ [48, 49, 50]))) ++ [V.str (SX.S ([39] ++ List.replicate 898 51))])) a2 = some (.lst (List.replicate 99 (stV code1))) := at_new ha5 (at_new ha4 (at_new ha3 upd_same))
      have e5 : upd (upd (upd (upd (upd H2 a1 (HO.lst [V.str (SX.S ([39] ++ cR ++ [48, 49, 50]))])) a2 (HO.lst (List.replicate 99 (V.str (SX.S ([39] ++ cR ++ [48, 49, 50])))))) a3 (HO.lst [V.str (SX.S ([39] ++ List.replicate 898 51))])) a4 (HO.lst (List.replicate 99 (V.str (SX.S ([39] ++ cR ++ [48, 49, 50]))) ++ [V.str (SX.S ([39] ++ List.replicate 898 51))]))) a5 (HO.tup (List.replicate 99 (V.str (SX.S ([39] ++ cR ++ [48, 49, 50]))) ++ [V.str (SX.S ([39] ++ List.replicate 898 51))])) a5 = some (.tup (List.replicate 99 (stV code1) ++ [stV ([39] ++ List.replicate 898 51)])) := upd_same
      have sA' : Same H2 (upd (upd (upd (upd (upd H2 a1 (HO.lst [V.str (SX.S ([39] ++ cR ++ [48, 49, 50]))])) a2 (HO.lst (List.replicate 99 (V.str (SX.S ([39] ++ cR ++ [48, 49, 50])))))) a3 (HO.lst [V.str (SX.S ([39] ++ List.replicate 898 51))])) a4 (HO.lst (List.replicate 99 (V.str (SX.S ([39] ++ cR ++ [48, 49, 50]))) ++ [V.str (SX.S ([39] ++ List.replicate 898 51))]))) a5 (HO.tup (List.replicate 99 (V.str (SX.S ([39] ++ cR ++ [48, 49, 50]))) ++ [V.str (SX.S ([39] ++ List.replicate 898 51))]))) := sA
      generalize upd (upd (upd (upd (upd H2 a1 (HO.lst [V.str (SX.S ([39] ++ cR ++ [48, 49, 50]))])) a2 (HO.lst (List.replicate 99 (V.str (SX.S ([39] ++ cR ++ [48, 49, 50])))))) a3 (HO.lst [V.str (SX.S ([39] ++ List.replicate 898 51))])) a4 (HO.lst (List.replicate 99 (V.str (SX.S ([39] ++ cR ++ [48, 49, 50]))) ++ [V.str (SX.S ([39] ++ List.replicate 898 51))]))) a5 (HO.tup (List.replicate 99 (V.str (SX.S ([39] ++ cR ++ [48, 49, 50]))) ++ [V.str (SX.S ([39] ++ List.replicate 898 51))])) = H3 at e2 e5 sA' ⊢
      have fx : ∀ (H' : Hp) t, Fms H' (List.replicate 99 (stV code1) ++ [stV (last1 t)]) (List.replicate 99 (.s code1) ++ [.s (last1 t)]) := fun H' t => (Fms.rep (.s code1) 99).snoc (.s _)
      have ok0 := big_ok (t := []) rfl (by decide)
      have len0 := big_len []
      have ok2 := big_ok (t := [50]) rfl (by decide)
      have len2 := big_len [50]
      rw [← el] at e5
      refine ⟨_, big [], rfl, .t e5 (fx _ []), ok0, by rw [len0]; decide, fun H4 s4 => ?_⟩
      walk_at "go"
      refine s_addX ([39] ++ List.replicate 898 51) [50] rfl rfl (by rw [List.length_append, List.length_replicate]; show 1 + 898 + 1 ≤ _; omega) ?_
      walk_at "go"
      refine ⟨by show 1 ≤ sizeLine; omega, fun b1' hb1 => ?_⟩
      refine s_addR (at_new hb1 (s4 _ _ e2)) upd_same (by rw [List.length_replicate]; show 99 + 1 ≤ _; omega) (fun b2' hb2 => ?_)
      refine s_nil (s_tupL (SqL.of upd_same) (fun b3' hb3 => ?_))
      walk_at "go"
      refine ⟨_, big [50], rfl, .t upd_same (fx _ [50]), sn_ok _ _ ok2, ?_, by rw [len2]; decide, fun H5 s5 => ?_⟩
      · have := dep_ok _ _ ok2
        omega
      walk_at "go"
      refine ⟨_, rfl, by rw [len2]; decide, fun v H6 s6 hv => ?_⟩
      obtain ⟨a, rfl, ht⟩ := hv
      rw [if_pos (by rw [len2]; decide), len2] at ht
      walk_at "go"
      refine ⟨by show 2 ≤ sizeLine; omega, fun z hz => ?_⟩
      refine s_eqD (d := sizD) (e := sizD) (siz_dp (at_new hz ht)) (siz_dp upd_same) siz_shaped siz_shaped ?_
      rw [siz_eqv]
      have sB := (sA'.trans s4).trans (((same_new hb1).trans ((same_new hb2).trans (same_new hb3))).trans (s5.trans (s6.trans (same_new hz (o := .tup [.str (Str.ofString "size"), .int 100001])))))
      exact q _ (p2.same sB) ((b1.trans b2).trans (But.of sB))
end
end K41
set_option maxRecDepth 100000
set_option maxHeartbeats 400000
namespace K41
open PySem PySem.Spec PyProof.Rows L2 J
local macro_rules | `(tactic| walk_at "ne") => `(tactic| first
  | with_reducible assumption
  | (apply Ne.symm; with_reducible assumption))
local macro_rules | `(tactic| walk_at "look") => `(tactic| first
  | with_reducible assumption
  | with_reducible exact upd_same
  | ((with_reducible refine' at_new ?ha ?hb); (case ha => with_reducible assumption); (case hb => walk_at "look"))
  | ((with_reducible refine' at_other ?ha ?hb); (case ha => walk_at "ne"); (case hb => walk_at "look"))
  | ((with_reducible refine' same_at ?ha ?hb); (case ha => with_reducible assumption); (case hb => walk_at "look")))
local macro_rules | `(tactic| walk_at "sq") => `(tactic| first
  | with_reducible assumption
  | ((with_reducible refine' SqL.of ?ha); (case ha => walk_at "look"))
  | ((with_reducible refine' sq_put ?ha ?hb); (case hb => walk_at "ne"); (case ha => walk_at "sq"))
  | ((with_reducible refine' sq_new ?ha ?hb); (case hb => with_reducible assumption); (case ha => walk_at "sq"))
  | ((with_reducible refine' sq_same ?ha ?hb); (case hb => with_reducible assumption); (case ha => walk_at "sq")))
local macro_rules | `(tactic| walk_at "qt") => `(tactic| first
  | with_reducible assumption
  | ((with_reducible refine' SqT.of ?ha); (case ha => walk_at "look")))
local macro_rules | `(tactic| walk_at "atI") => `(tactic| first
  | with_reducible assumption
  | exact rfl)
local macro_rules | `(tactic| walk_at "go") => `(tactic| repeat (first
  | ((with_reducible refine' s_var ?hv ?_); (case hv => exact rfl))
  | with_reducible refine s_c ?_
  | with_reducible refine s_op ?_
  | with_reducible refine s_test ?_
  | with_reducible refine s_ex ?_
  | with_reducible refine s_seq ?_
  | with_reducible refine s_asg ?_
  | with_reducible refine s_name ?_
  | with_reducible refine s_if ?_
  | with_reducible refine s_next ?_
  | with_reducible refine s_cb ?_
  | with_reducible refine s_call ?_
  | with_reducible refine s_cons ?_
  | with_reducible refine s_nil ?_
  | with_reducible refine s_and ?_
  | with_reducible refine s_or ?_
  | with_reducible refine s_not ?_
  | with_reducible refine s_chain ?_
  | with_reducible refine s_andV ?_
  | with_reducible refine s_orV ?_
  | with_reducible refine s_un ?_
  | with_reducible refine s_drop ?_
  | with_reducible refine s_ret ?_
  | with_reducible refine s_retN ?_
  | with_reducible refine s_gsub ?_
  | with_reducible refine s_tup ?_
  | with_reducible refine s_lst ?_
  | with_reducible refine s_bm ?_
  | with_reducible refine s_bm0 ?_
  | with_reducible refine s_sl ?_
  | with_reducible refine s_nopart ?_
  | with_reducible refine s_part ?_
  | with_reducible refine s_exi ?_
  | with_reducible refine s_cont ?_
  | with_reducible refine s_break ?_
  | with_reducible refine s_ifE ?_
  | with_reducible refine s_m1 ?_
  | with_reducible refine iteT ?_
  | with_reducible refine iteF ?_
  | with_reducible refine s_iteNT ?_
  | with_reducible refine s_iteNF ?_
  | with_reducible refine s_addI ?_
  | with_reducible refine s_I1 ?_
  | with_reducible refine s_eqI ?_
  | with_reducible refine s_eqS ?_
  | with_reducible refine s_eqB ?_
  | with_reducible refine s_neI ?_
  | with_reducible refine s_neS ?_
  | with_reducible refine s_neg ?_
  | with_reducible refine s_is ?_
  | with_reducible refine s_isnt ?_
  | with_reducible refine s_intI ?_
  | with_reducible refine s_intB ?_
  | with_reducible refine s_strS ?_
  | with_reducible refine s_tyS ?_
  | with_reducible refine s_exS ?_
  | ((with_reducible refine' s_ty ?hs ?_); (case hs => walk_at "look"))
  | with_reducible refine s_abs ?_
  | ((with_reducible refine' s_append ?hs ?hl ?_); (case hs => walk_at "look"); (case hl => first | assumption | omega | (simp only [List.length_append, List.length_cons, List.length_nil, List.length_map]; omega)))
  | ((with_reducible refine' s_popS ?hs ?_); (case hs => walk_at "look"))
  | ((with_reducible refine' s_strN ?hs ?_); (case hs => assumption))
  | with_reducible refine s_iRev ?_
  | with_reducible refine s_rng1 ?_
  | with_reducible refine s_rng2 ?_
  | with_reducible refine s_xf ?_
  | with_reducible refine s_rz ?_
  | with_reducible refine s_callS ?_
  | with_reducible refine s_repl ?_
  | with_reducible refine s_rg1 ?_
  | with_reducible refine isi_ss ?_
  | with_reducible refine s_tru ?_
  | with_reducible refine s_truB ?_
  | ((with_reducible refine' s_truL ?hs ?_); (case hs => walk_at "sq"))
  | with_reducible refine isi_is ?_
  | with_reducible refine isi_st ?_
  | with_reducible refine isi_it ?_
  | ((with_reducible refine' isi_tt ?hs ?_); (case hs => walk_at "look"))
  | with_reducible refine s_lc ?_
  | with_reducible refine s_forS ?_
  | with_reducible refine i_str ?_
  | with_reducible refine i_list ?_
  | with_reducible refine i_tup ?_
  | with_reducible refine s_exx ?_
  | with_reducible refine s_inS ?_
  | with_reducible refine s_ninS ?_
  | ((with_reducible refine' s_slTake ?hs ?hk ?_); (case hs => first | assumption | omega); (case hk => first | decide | omega))
  | ((with_reducible refine' s_slDrop ?hs ?hk ?_); (case hs => first | assumption | omega); (case hk => first | decide | omega))
  | ((with_reducible refine' s_slMid ?hs ?hk ?hk2 ?_); (case hs => first | assumption | omega); (case hk => first | decide | omega); (case hk2 => first | decide | omega))
  | ((with_reducible refine' s_ixX ?hs ?he ?_); (case hs => first | assumption | omega); (case he => walk_at "atI"))
  | ((with_reducible refine' s_lenX ?hs ?_); (case hs => first | assumption | omega))
  | ((with_reducible refine' s_all ?hs ?_); (case hs => walk_at "sq"))
  | with_reducible refine s_max ?_
  | with_reducible refine s_min ?_
  | ((with_reducible refine' s_ixL ?hs ?he ?_); (case hs => walk_at "sq"); (case he => walk_at "atI"))
  | ((with_reducible refine' s_ixT ?hs ?he ?_); (case hs => walk_at "qt"); (case he => walk_at "atI"))
  | ((with_reducible refine' s_lenL ?hs ?_); (case hs => walk_at "sq"))
  | ((with_reducible refine' s_lenT ?hs ?_); (case hs => walk_at "qt"))
  | ((with_reducible refine' s_setL ?hs ?he ?_); (case hs => walk_at "look"); (case he => walk_at "atI"))
  | ((with_reducible refine' s_mulI ?hs ?_); (case hs => first | exact .inr ⟨by decide, by decide⟩ | exact .inl ⟨by decide, by decide⟩ | assumption | exact .inl ⟨by omega, by omega⟩ | exact .inr ⟨by omega, by omega⟩))
  | ((with_reducible refine' s_I2 ?hs ?_); (case hs => first | assumption | exact (by decide) | exact ⟨by decide, by decide⟩ | exact ⟨by decide, by decide, by decide⟩))))

structure O11 (P : Program) (w : World) (K : PySem.W.Frag) (mg : Str → Option Value) (base : Heap) : Prop where
  law_start : Has P w K mg base CX0 "_law_start" ["script"] 1 (spStart K)
  law_draw : Has P w K mg base CX0 "_law_draw" ["pool", "many"] 1 (spDraw K)
  law_atom : Has P w K mg base CX0 "_law_atom" ["pool"] 2 (spLAt K)
  law_form : Has P w K mg base CX0 "_law_form" ["pool", "deep"] 9 (spForm K 7)
  law_text : Has P w K mg base CX0 "_law_text" ["form"] 50 (spText 50)
  law_bent : Has P w K mg base CX0 "_law_bent" ["pool", "text"] 2 (spBent K)
  law_read : Has P w K mg base CX0 "_law_read" ["text"] 2 spLR
  law_read_right : HasG P w K mg base "_law_read_right" ["text", "due"] 6 spRR
  law_both_right : HasG P w K mg base "_law_both_right" ["form"] 51 spBR
  law_bounds_right : HasG P w K mg base "_law_bounds_right" ["pool"] 52 (spB2 K)
  law_large_right : HasG P w K mg base "_law_large_right" ["pool"] 52 (spB2 K)
  law_odd_right : HasG P w K mg base "_law_odd_right" [] 7 (fun vs H Q _ => vs = [] ∧ ∀ H', Same H H' → Q (.bl true) H')
def spLaw (K : PySem.W.Frag) : Sp := fun vs H Q _ => ∃ (a : Addr) (ns : List Int), vs = [.ref a] ∧ ns.length ≤ 63 ∧ SqL K H a (ns.map V.int) ∧ ∀ H', Q (.bl true) H'
section
variable {P : Program} {w : World} {K : PySem.W.Frag} {mg : Str → Option Value} {base : Heap}
abbrev s_law : Stmt := topS 37
abbrev N_law : List Str := ["script", "pool", "form", "text", "step", "bent"]
theorem sc_law : FnScope N_law ["script"] (defScope s_law) := ⟨rfl, rfl, rfl, by decide +kernel, rfl, by decide +kernel, by decide +kernel⟩
theorem ok_law {f : Addr} {fd : FuncData} (Fn : Fun K "law" "law" s_law f fd) (B : Bn mg) (O : O11 P w K mg base) : FnG P w K mg base 53 f fd ["script"] (spLaw K) := by
  refine okG Fn sc_law (fun vs H Q E h => ?_) (fun cdv A outer s H vs Q gd hr h => ?_)
  · obtain ⟨a, ns, rfl, _⟩ := h
    rfl
  · obtain ⟨a, ns, rfl, hn, ha, q⟩ := h
    have sz : sizeLine = 16777216 := sizeLine_eq
    refine ⟨_, (pss_cons (ps_set (i := 1) sc_law.nd rfl (.inl rfl) (pe_has O.law_start hr (by rfl) pass0 (pa_cons (pv 0) pa_nil)))
  (pss_cons (ps_set (i := 2) sc_law.nd rfl (.inl rfl) (pe_has O.law_form hr (by rfl) pass0 (pa_cons (pv 1) (pa_cons pe_int pa_nil))))
  (pss_cons (ps_if (pt_not (k_truth (K := K) rfl (pe_hasG O.law_both_right gd hr (by rfl) (pa_cons (pv 2) pa_nil))))
  (pss_one (ps_ret pe_bl))
  pss_nil)
  (pss_cons (ps_if (pt_not (k_truth (K := K) rfl (pe_hasG O.law_both_right gd hr (by rfl) (pa_cons (pe_tup (pa_cons (pv 2) (pa_cons (pe_has O.law_atom hr (by rfl) pass0 (pa_cons (pv 1) pa_nil)) (pa_cons (pe_tup (pa_cons (pv 2) pa_nil)) pa_nil)))) pa_nil))))
  (pss_one (ps_ret pe_bl))
  pss_nil)
  (pss_cons (ps_set (i := 3) sc_law.nd rfl (.inl rfl) (pe_has O.law_text hr (by rfl) pass0 (pa_cons (pe_tup (pa_cons (pv 2) (pa_cons (pe_has O.law_atom hr (by rfl) pass0 (pa_cons (pv 1) pa_nil)) (pa_cons (pe_has O.law_form hr (by rfl) pass0 (pa_cons (pv 1) (pa_cons pe_int pa_nil))) pa_nil)))) pa_nil)))
  (pss_cons (ps_for PassesOwn.never rfl (pi_range1 rfl B.range (pa_cons pe_int pa_nil)) (pg_name (i := 4) sc_law.nd rfl (.inl rfl))
  (pss_cons (ps_set (i := 5) sc_law.nd rfl (.inl rfl) (pe_has O.law_bent hr (by rfl) pass0 (pa_cons (pv 1) (pa_cons (pv 3) pa_nil))))
  (pss_one (ps_if (pt_not (k_truth (K := K) rfl (pe_hasG O.law_read_right gd hr (by rfl) (pa_cons (pv 5) (pa_cons (pe_has O.law_read hr (by rfl) pass0 (pa_cons (pv 5) pa_nil)) pa_nil)))))
  (pss_one (ps_ret pe_bl))
  pss_nil))))
  (pss_cons (ps_if (pw_or (pt_not (k_truth (K := K) rfl (pe_hasG O.law_bounds_right gd hr (by rfl) (pa_cons (pv 1) pa_nil)))) (pw_or1 (pt_not (k_truth (K := K) rfl (pe_hasG0 O.law_odd_right gd hr (by rfl)))))).pt
  (pss_one (ps_ret pe_bl))
  pss_nil)
  (pss_cons (ps_if (pt_cmpR (k_eq (K := K) rfl hr.units) (pe_has O.law_draw hr (by rfl) pass0 (pa_cons (pv 1) (pa_cons pe_int pa_nil))) pe_int (nomark _))
  (pss_one (ps_ret (pe_hasG O.law_large_right gd hr (by rfl) (pa_cons (pv 1) pa_nil))))
  pss_nil)
  (pss_one (ps_ret pe_bl)))))))))), ?_⟩
    walk_at "go"
    refine ⟨a, ns, rfl, hn, ha, fun p l H1 s1 p1 => ?_⟩
    walk_at "go"
    refine ⟨p, l, ns, 6, rfl, by decide, by decide, p1, fun v f H2 p2 b2 hv hok hz => ?_⟩
    have hLB : LB 6 ≤ 12000 := by decide
    have hok40 := ok_mono (Nat.le_refl 5000) f 6 40 (by decide) hok
    walk_at "go"
    refine ⟨v, f, rfl, hv, hok40, by omega, fun H3 s3 => ?_⟩
    have p3 := p2.same s3
    have v3 := Fm.kept (Tp.of s3) f v hv
    walk_at "go"
    refine ⟨p, l, ns, rfl, p3, fun v4 f4 H4 p4 b4 hv4 hA4 hz4 => ?_⟩
    have t4 := p3.tp b4
    walk_at "go"
    refine ⟨by show 1 ≤ sizeLine; omega, fun t1 ht1 => ?_⟩
    walk_at "go"
    refine ⟨by show 3 ≤ sizeLine; omega, fun t2 ht2 => ?_⟩
    have t5 : Tp H4 (upd (upd H4 t1 (.tup [v])) t2 (.tup [v, v4, .ref t1])) := ((Tp.refl H4).new ht1).new ht2
    have v5 := Fm.kept (t4.trans t5) f v v3
    have okb : ok 5000 (.t [f, f4, .t [f]]) 40 := by
      have o1 := ok_mono (Nat.le_refl 5000) f 6 39 (by decide) hok
      have o2 := ok_mono (Nat.le_refl 5000) f 6 38 (by decide) hok
      simp only [ok, oks]
      exact ⟨by decide, by simp, o1, ok_of_A hA4, ⟨by decide, by simp, o2, trivial⟩, trivial⟩
    walk_at "go"
    refine ⟨_, .t [f, f4, .t [f]], rfl, .t upd_same (.cons v5 (.cons (hv4 _) (.cons (.t (at_new ht2 upd_same) (.cons v5 .nil)) .nil))), okb, ?_, fun H5 s5 => ?_⟩
    · simp only [tx, txs, txr, List.length_cons, List.length_append, List.length_nil]
      omega
    have s45 : Same H4 H5 := ((same_new ht1).trans (same_new ht2)).trans s5
    have p5 := p4.same s45
    have v6 := Fm.kept (t4.trans (Tp.of s45)) f v v3
    walk_at "go"
    refine ⟨p, l, ns, rfl, p5, fun v7 f7 H6 p6 b6 hv7 hA7 hz7 => ?_⟩
    have t6 := p5.tp b6
    walk_at "go"
    refine ⟨p, l, ns, 2, rfl, by decide, by decide, p6, fun v8 f8 H7 p7 b7 hv8 hok8 hz8 => ?_⟩
    have t7 := p6.tp b7
    have hLB2 : LB 2 ≤ 1000 := by decide
    walk_at "go"
    refine ⟨by show 3 ≤ sizeLine; omega, fun t3 ht3 => ?_⟩
    have okc : ok 5000 (.t [f, f7, f8]) 40 := by
      have o1 := ok_mono (Nat.le_refl 5000) f 6 39 (by decide) hok
      have o2 := ok_mono (Nat.le_refl 5000) f8 2 39 (by decide) hok8
      simp only [ok, oks]
      exact ⟨by decide, by simp, o1, ok_of_A hA7, o2, trivial⟩
    have hlen : (tx (.t [f, f7, f8])).length ≤ 20000 := by
      simp only [tx, txs, txr, List.length_cons, List.length_append, List.length_nil]
      omega
    have hne : tx (.t [f, f7, f8]) ≠ [] := by simp [tx]
    have t8 : Tp H7 (upd H7 t3 (.tup [v, v7, v8])) := (Tp.refl H7).new ht3
    walk_at "go"
    refine ⟨_, .t [f, f7, f8], rfl, .t upd_same (.cons (Fm.kept ((t6.trans t7).trans t8) f v v6) (.cons (hv7 _) (.cons (Fm.kept t8 f8 v8 hv8) .nil))), sn_ok _ _ okc, ?_, by omega, fun H8 s8 => ?_⟩
    · have := dep_ok _ _ okc
      omega
    have p8 := (p7.new ht3 (o := .tup [v, v7, v8])).same s8
    generalize tx (.t [f, f7, f8]) = tt at *
    walk_at "go"
    refine ⟨_, rfl, by decide, by decide, ?_⟩
    refine for_all (K := K) (P := fun _ => True) yl_rg (fun σ H' => ∃ y4 y5, σ = [some (.ref a), some (.ref p), some v, some (.str (SX.S tt)), y4, y5] ∧ Pl K p l ns H') (fun _ _ _ => trivial) ⟨none, none, rfl, p8⟩ (fun σ H9 x h hx => ?_) (fun σ H9 h => ?_)
    · obtain ⟨y4, y5, rfl, p9⟩ := h
      walk_at "go"
      refine ⟨p, l, ns, tt, rfl, hne, by omega, p9, fun u H10 p10 b10 hu => ?_⟩
      walk_at "go"
      refine ⟨u, rfl, by omega, fun vv H11 s11 hvv => ?_⟩
      walk_at "go"
      refine ⟨u, vv, rfl, by omega, by rw [← agree]; exact hvv, fun H12 s12 => ?_⟩
      walk_at "go"
      exact ⟨_, _, rfl, p10.same (s11.trans s12)⟩
    · obtain ⟨y4, y5, rfl, p9⟩ := h
      walk_at "go"
      refine ⟨p, l, ns, rfl, p9, fun H10 p10 b10 => ?_⟩
      walk_at "go"
      refine ⟨rfl, fun H11 s11 => ?_⟩
      walk_at "go"
      refine ⟨p, l, ns, _, rfl, p10.same s11, by decide, by decide, fun d H12 p12 b12 hd => ?_⟩
      walk_at "go"
      refine s_dec (fun h1 => ?_) (fun h1 => ?_)
      · walk_at "go"
        exact ⟨p, l, ns, rfl, p12, fun H13 _ _ => q H13⟩
      · walk_at "go"
        exact q H12
end
end K41
set_option maxRecDepth 100000
set_option maxHeartbeats 1000000
namespace K41
open PySem PySem.Spec PyProof.Rows L2 J
/-- a def of the text as the top leaves it -/
structure DefIn (K : PySem.W.Frag) (x : Str) (st : Stmt) : Prop where
  ex : ∃ (f : Addr) (fd : FuncData), PySem.W.nsIn K mainGlobals x = some (some (.ref f)) ∧ Fun K x x st f fd
theorem def_in {K : PySem.W.Frag} {x : Str} {st : Stmt} {f : Addr} {oc kV dc pm cd ct : Value} {od an : Option Addr} {sl : Array (Option Value)} (a : PySem.W.nsIn K mainGlobals x = some (some (.ref f)))
    (l : K.lookup f = some ⟨oc, od, .func (PySem.W.fnOf x x (defArgs st) (defBody st) (defScope st) .none kV dc pm an cd ct), sl⟩) (c : PySem.W.codeIn K cd x = true) (k : PySem.W.keepIn K (.ref f) = true) : DefIn K x st := ⟨f, _, a, fun_mk l c k⟩
theorem c_str {K : PySem.W.Frag} {n z : Str} {t : Tok} (e : PySem.W.nsIn K mainGlobals n = some (some (.str z t))) : ∃ t, PySem.W.nsIn K mainGlobals n = some (some (.str z t)) := ⟨t, e⟩
theorem c_int {K : PySem.W.Frag} {n : Str} {z : Int} {t : Tok} (e : PySem.W.nsIn K mainGlobals n = some (some (.int z t))) : ∃ t, PySem.W.nsIn K mainGlobals n = some (some (.int z t)) := ⟨t, e⟩
/-- what the names that the defs read are bound to -/
structure Top (K : PySem.W.Frag) : Prop where
  z_len : PySem.W.nsIn K mainGlobals "len" = some none
  z_abs : PySem.W.nsIn K mainGlobals "abs" = some none
  z_max : PySem.W.nsIn K mainGlobals "max" = some none
  z_int : PySem.W.nsIn K mainGlobals "int" = some none
  z_str : PySem.W.nsIn K mainGlobals "str" = some none
  z_tuple : PySem.W.nsIn K mainGlobals "tuple" = some none
  z_all : PySem.W.nsIn K mainGlobals "all" = some none
  z_isinstance : PySem.W.nsIn K mainGlobals "isinstance" = some none
  z_range : PySem.W.nsIn K mainGlobals "range" = some none
  z_reversed : PySem.W.nsIn K mainGlobals "reversed" = some none
  z_repr : PySem.W.nsIn K mainGlobals "repr" = some none
  z_super : PySem.W.nsIn K mainGlobals "super" = some none
  c_DIGITS : ∃ t, PySem.W.nsIn K mainGlobals "DIGITS" = some (some (.str "0123456789" t))
  c_LETTERS : ∃ t, PySem.W.nsIn K mainGlobals "LETTERS" = some (some (.str "abcdefghijklmnopqrstuvwxyz" t))
  c_STEPS : ∃ t, PySem.W.nsIn K mainGlobals "STEPS" = some (some (.str "0123" t))
  c_MOST_DIGITS : ∃ t, PySem.W.nsIn K mainGlobals "MOST_DIGITS" = some (some (.int 9 t))
  c_MOST_LETTERS : ∃ t, PySem.W.nsIn K mainGlobals "MOST_LETTERS" = some (some (.int 12 t))
  c_MOST_STEPS : ∃ t, PySem.W.nsIn K mainGlobals "MOST_STEPS" = some (some (.int 1000 t))
  c_MOST_ENTRIES : ∃ t, PySem.W.nsIn K mainGlobals "MOST_ENTRIES" = some (some (.int 5000 t))
  c_MOST_NESTED : ∃ t, PySem.W.nsIn K mainGlobals "MOST_NESTED" = some (some (.int 40 t))
  c_MOST_TEXT : ∃ t, PySem.W.nsIn K mainGlobals "MOST_TEXT" = some (some (.int 100000 t))
  d_looked_count : DefIn K "looked_count" s_looked_count
  d_is_word : DefIn K "is_word" s_is_word
  d_is_code : DefIn K "is_code" s_is_code
  d_read_number : DefIn K "read_number" s_read_number
  d_read_atom : DefIn K "read_atom" s_read_atom
  d_form_text : DefIn K "form_text" s_form_text
  d_parsed : DefIn K "parsed" s_parsed
  d_read_form : DefIn K "read_form" s_read_form
  d_law_start : DefIn K "_law_start" s_law_start
  d_law_draw : DefIn K "_law_draw" s_law_draw
  d_law_atom : DefIn K "_law_atom" s_law_atom
  d_law_form : DefIn K "_law_form" s_law_form
  d_law_text : DefIn K "_law_text" s_law_text
  d_law_read_atom : DefIn K "_law_read_atom" s_law_read_atom
  d_law_read : DefIn K "_law_read" s_law_read
  d_law_told : DefIn K "_law_told" s_law_told
  d_law_read_right : DefIn K "_law_read_right" s_law_read_right
  d_law_both_right : DefIn K "_law_both_right" s_law_both_right
  d_law_bent : DefIn K "_law_bent" s_law_bent
  d_law_bounds_right : DefIn K "_law_bounds_right" s_law_bounds_right
  d_law_large_right : DefIn K "_law_large_right" s_law_large_right
  d_law_odd_right : DefIn K "_law_odd_right" s_law_odd_right
  d_law : DefIn K "law" s_law
theorem exm_two {K : PySem.W.Frag} {c : Addr} {cls : Value} {b : Bool} (h1 : PySem.W.subIn K (.ref c) (.type "BaseException") = some true) (h2 : PySem.W.isClsIn K c = true) (h3 : PySem.W.typeIn K (.ref c) = some (.type "type")) (h4 : PySem.W.subIn K cls (.ref c) = some b) : PySem.W.exmOne K cls (.ref c) = some b := by
  have h2' : (PySem.W.clsIn K c).isSome = true := h2
  unfold PySem.W.exmOne
  simp only [h1, BEq.rfl, if_true]
  unfold PySem.W.kitCls
  first | (simp [h2', h3, h4]; done) | (show (if ((PySem.W.clsIn K c).isSome && PySem.W.typeIn K (.ref c) == some (.type "type")) = true then PySem.W.subIn K cls (.ref c) else none) = some b; simp [h2', h3, h4])
theorem free_of' {sc : Scope} (h : ∀ p ∈ sc.names, (p.2 = .cell ∨ p.2 = .free) → p.1 = "__class__") : ∀ y, sc.names.lookup y = some .cell ∨ sc.names.lookup y = some .free → y = "__class__" := fun y q => by
  rcases q with q | q
  · exact h (y, _) (PySem.mem_of_lookup q) (.inl rfl)
  · exact h (y, _) (PySem.mem_of_lookup q) (.inr rfl)
abbrev sIniS : Stmt := inClass (topS 2) 0
abbrev sIniT : Stmt := inClass (topS 3) 0
theorem scIniS : SupScope ["self", "count"] ["self", "count"] (defScope sIniS) := ⟨rfl, rfl, rfl, by decide +kernel, rfl, by decide +kernel, free_of' (by decide +kernel), by decide +kernel⟩
theorem scIniT : SupScope ["self", "line"] ["self", "line"] (defScope sIniT) := ⟨rfl, rfl, rfl, by decide +kernel, rfl, by decide +kernel, free_of' (by decide +kernel), by decide +kernel⟩
/-- an own exception class as the top leaves it -/
structure ClsX (P : Program) (K : PySem.W.Frag) (x qual g : Str) (st : Stmt) (C : Addr) : Prop where
  a : PySem.W.nsIn K mainGlobals x = some (some (.ref C))
  T : OexC K C
  xf : XfC K C
  no : PySem.W.findIn K (.ref C) g = some none
  ini : ∃ (f cda cc : Addr) (kV doc pm oc ct : Value) (an od : Option Addr) (osl : Array (Option Value)) (oD oC : Obj) (vs : Array Value) (file : Str) (tf : Tok), PySem.W.findIn K (.ref C) "__init__" = some (some (.ref f)) ∧ PySem.W.typeIn K (.ref f) = some (.type "function") ∧
    K.lookup f = some ⟨oc, od, .func (PySem.W.ksFn "__init__" qual (defArgs st) (defBody st) (defScope st) .none kV doc pm an (.ref cda) ct cc), osl⟩ ∧ PySem.W.codeIn K (.ref cda) qual = true ∧ K.lookup cda = some oD ∧ oD.data = .fields vs ∧ vs[2]? = some (.str file tf) ∧
    ((P.main.file : Str) == file) = true ∧ K.lookup cc = some oC ∧ oC.data = .cell (some (.ref C)) ∧ PySem.W.keepIn K (.ref f) = true
  ho : PySem.W.nsIn K cStatics "thirdparty.any" = some none
  hm : PySem.W.ks_superIn K C C "__init__" = some (some (.builtin "ValueError.__init__"))
  hB : PySem.W.subIn K (.ref C) (.type "ValueError") = some true
  hC : PySem.W.subIn K (.ref C) (.ref C) = some true
  isC : PySem.W.isClsIn K C = true
theorem cls_x {P : Program} {K : PySem.W.Frag} {x qual g : Str} {st : Stmt} {C f cda cc : Addr} {nm q : Str} {N : Addr} {bs bm : List Value} {sn : List Str} {sub : List Value} {ab : Bool} {col : Option Bool} {dd : Option Addr} {m0 m1 m2 m3 m5 : Option Value}
    {kV doc pm oc ct : Value} {an od : Option Addr} {osl : Array (Option Value)} {oD oC : Obj} {vs : Array Value} {file : Str} {tf : Tok}
    (a : PySem.W.nsIn K mainGlobals x = some (some (.ref C)))
    (l : K.lookup C = some (excClassObj nm q C N bs bm true sn sub ab col dd m0 m1 m2 m3 m5 "ValueError.__new__")) (rv : PySem.HandSPX.refsVE bm = true)
    (sa : PySem.W.findIn K (.ref C) "__setattr__" = some (some (.builtin "object.__setattr__"))) (ga : PySem.W.findIn K (.ref C) "__getattribute__" = some (some (.builtin "BaseException.__getattribute__"))) (gg : PySem.W.findIn K (.ref C) "__getattr__" = some none) (no : PySem.W.findIn K (.ref C) g = some none)
    (eC : PySem.W.subIn K (.ref C) (.type "BaseException") = some true) (tC : PySem.W.typeIn K (.ref C) = some (.type "type")) (kC : PySem.W.keepIn K (.ref C) = true) (dC : PySem.W.hasDictIn K C = true)
    (i1 : PySem.W.findIn K (.ref C) "__init__" = some (some (.ref f))) (i2 : PySem.W.typeIn K (.ref f) = some (.type "function")) (i3 : K.lookup f = some ⟨oc, od, .func (PySem.W.ksFn "__init__" qual (defArgs st) (defBody st) (defScope st) .none kV doc pm an (.ref cda) ct cc), osl⟩)
    (i4 : PySem.W.codeIn K (.ref cda) qual = true) (i5 : K.lookup cda = some oD) (i6 : oD.data = .fields vs) (i7 : vs[2]? = some (.str file tf)) (i8 : ((P.main.file : Str) == file) = true) (i9 : K.lookup cc = some oC) (i10 : oC.data = .cell (some (.ref C))) (i11 : PySem.W.keepIn K (.ref f) = true)
    (ho : PySem.W.nsIn K cStatics "thirdparty.any" = some none) (hm : PySem.W.ks_superIn K C C "__init__" = some (some (.builtin "ValueError.__init__"))) (hB : PySem.W.subIn K (.ref C) (.type "ValueError") = some true) (hC : PySem.W.subIn K (.ref C) (.ref C) = some true) (isC : PySem.W.isClsIn K C = true) : ClsX P K x qual g st C :=
  ⟨a, ⟨⟨nm, q, N, bs, bm, sn, sub, ab, col, dd, m0, m1, m2, m3, m5, l, rv⟩, sa, eC, tC, kC⟩, ⟨ga, gg, eC, dC⟩, no, ⟨f, cda, cc, kV, doc, pm, oc, ct, an, od, osl, oD, oC, vs, file, tf, i1, i2, i3, i4, i5, i6, i7, i8, i9, i10, i11⟩, ho, hm, hB, hC, isC⟩
section
variable {P : Program} {w : World} {K : PySem.W.Frag} {mg : Str → Option Value} {base : Heap}
theorem ex_SizeError {C : Addr} (top : (P.main.scope.names.lookup ("super" : Str)).isSome = false) (sup : mg "super" = none) (m : mg "SizeError" = some (.ref C)) (X : ClsX P K "SizeError" "SizeError.__init__" "count" sIniS C) : ExOk P w K mg base "SizeError" C "count" 1 := by
  obtain ⟨f, cda, cc, kV, doc, pm, oc, ct, an, od, osl, oD, oC, vs, file, tf, i1, i2, i3, i4, i5, i6, i7, i8, i9, i10, i11⟩ := X.ini
  refine ⟨X.T, m, ⟨f, _, ["self", "count"], i1, i2, ok_ini (qual := "SizeError.__init__") (params := defArgs sIniS) (body := defBody sIniS) (scope := defScope sIniS) ⟨X.T, ⟨oc, od, kV, doc, pm, an, cda, ct, osl, cc, oD, vs, file, tf, oC, rfl, i3, i4, i5, i6, i7, i8, i9, i10⟩, X.ho, X.hm, X.hB, X.hC, sup, top, i11⟩ scIniS rfl rfl rfl (fun _ _ _ => rfl) (fun _ _ _ => rfl) rfl rfl rfl rfl X.no (by decide) (by decide) (fun _ => rfl), ?_⟩, X.xf, X.no⟩
  exact .all fun us hl => match us, hl with
    | [_, _], _ => rfl
theorem ex_TextError {C : Addr} (top : (P.main.scope.names.lookup ("super" : Str)).isSome = false) (sup : mg "super" = none) (m : mg "TextError" = some (.ref C)) (X : ClsX P K "TextError" "TextError.__init__" "line" sIniT C) : ExOk P w K mg base "TextError" C "line" 1 := by
  obtain ⟨f, cda, cc, kV, doc, pm, oc, ct, an, od, osl, oD, oC, vs, file, tf, i1, i2, i3, i4, i5, i6, i7, i8, i9, i10, i11⟩ := X.ini
  refine ⟨X.T, m, ⟨f, _, ["self", "line"], i1, i2, ok_ini (qual := "TextError.__init__") (params := defArgs sIniT) (body := defBody sIniT) (scope := defScope sIniT) ⟨X.T, ⟨oc, od, kV, doc, pm, an, cda, ct, osl, cc, oD, vs, file, tf, oC, rfl, i3, i4, i5, i6, i7, i8, i9, i10⟩, X.ho, X.hm, X.hB, X.hC, sup, top, i11⟩ scIniT rfl rfl rfl (fun _ _ _ => rfl) (fun _ _ _ => rfl) rfl rfl rfl rfl X.no (by decide) (by decide) (fun _ => rfl), ?_⟩, X.xf, X.no⟩
  exact .all fun us hl => match us, hl with
    | [_, _], _ => rfl
theorem all_mk {h : Heap} {fa CS CT : Addr} (X : K.In h) (G : h.Ns mainGlobals mg) (hfa : mg "law" = some (.ref fa)) (top : (P.main.scope.names.lookup ("super" : Str)).isSome = false) (T : Top K) (S1 : ClsX P K "SizeError" "SizeError.__init__" "count" sIniS CS) (S2 : ClsX P K "TextError" "TextError.__init__" "line" sIniT CT) (s12 : PySem.W.subIn K (.ref CS) (.ref CT) = some false) :
    ∃ fd : FuncData, (∀ (s : Shared) (v : Value), BindsTo s fd ⟨[v], []⟩ [("script", v)]) ∧ ∀ base : Heap, K.In base → base.Ns mainGlobals mg → FnG P w K mg base 53 fa fd ["script"] (spLaw K) := by
  obtain ⟨f_looked_count, fd_looked_count, a_looked_count, F_looked_count⟩ := T.d_looked_count.ex
  obtain ⟨f_is_word, fd_is_word, a_is_word, F_is_word⟩ := T.d_is_word.ex
  obtain ⟨f_is_code, fd_is_code, a_is_code, F_is_code⟩ := T.d_is_code.ex
  obtain ⟨f_read_number, fd_read_number, a_read_number, F_read_number⟩ := T.d_read_number.ex
  obtain ⟨f_read_atom, fd_read_atom, a_read_atom, F_read_atom⟩ := T.d_read_atom.ex
  obtain ⟨f_form_text, fd_form_text, a_form_text, F_form_text⟩ := T.d_form_text.ex
  obtain ⟨f_parsed, fd_parsed, a_parsed, F_parsed⟩ := T.d_parsed.ex
  obtain ⟨f_read_form, fd_read_form, a_read_form, F_read_form⟩ := T.d_read_form.ex
  obtain ⟨f_law_start, fd_law_start, a_law_start, F_law_start⟩ := T.d_law_start.ex
  obtain ⟨f_law_draw, fd_law_draw, a_law_draw, F_law_draw⟩ := T.d_law_draw.ex
  obtain ⟨f_law_atom, fd_law_atom, a_law_atom, F_law_atom⟩ := T.d_law_atom.ex
  obtain ⟨f_law_form, fd_law_form, a_law_form, F_law_form⟩ := T.d_law_form.ex
  obtain ⟨f_law_text, fd_law_text, a_law_text, F_law_text⟩ := T.d_law_text.ex
  obtain ⟨f_law_read_atom, fd_law_read_atom, a_law_read_atom, F_law_read_atom⟩ := T.d_law_read_atom.ex
  obtain ⟨f_law_read, fd_law_read, a_law_read, F_law_read⟩ := T.d_law_read.ex
  obtain ⟨f_law_told, fd_law_told, a_law_told, F_law_told⟩ := T.d_law_told.ex
  obtain ⟨f_law_read_right, fd_law_read_right, a_law_read_right, F_law_read_right⟩ := T.d_law_read_right.ex
  obtain ⟨f_law_both_right, fd_law_both_right, a_law_both_right, F_law_both_right⟩ := T.d_law_both_right.ex
  obtain ⟨f_law_bent, fd_law_bent, a_law_bent, F_law_bent⟩ := T.d_law_bent.ex
  obtain ⟨f_law_bounds_right, fd_law_bounds_right, a_law_bounds_right, F_law_bounds_right⟩ := T.d_law_bounds_right.ex
  obtain ⟨f_law_large_right, fd_law_large_right, a_law_large_right, F_law_large_right⟩ := T.d_law_large_right.ex
  obtain ⟨f_law_odd_right, fd_law_odd_right, a_law_odd_right, F_law_odd_right⟩ := T.d_law_odd_right.ex
  obtain ⟨f_law, fd_law, a_law, F_law⟩ := T.d_law.ex
  have e := hfa.symm.trans (PySem.W.mg_of X G a_law)
  cases e
  have nn := fun {x : Str} (z : PySem.W.nsIn K mainGlobals x = some none) => PySem.W.mg_none_of X G z
  have cc := fun {x : Str} {v : Value} (z : PySem.W.nsIn K mainGlobals x = some (some v)) => PySem.W.mg_of X G z
  have B : Bn mg := ⟨nn T.z_len, nn T.z_abs, nn T.z_max, nn T.z_int, nn T.z_str, nn T.z_tuple, nn T.z_all, nn T.z_isinstance, nn T.z_range, nn T.z_reversed, nn T.z_repr⟩
  have C : Cn mg := ⟨T.c_DIGITS.imp fun _ => cc, T.c_LETTERS.imp fun _ => cc, T.c_STEPS.imp fun _ => cc, T.c_MOST_DIGITS.imp fun _ => cc, T.c_MOST_LETTERS.imp fun _ => cc, T.c_MOST_STEPS.imp fun _ => cc, T.c_MOST_ENTRIES.imp fun _ => cc, T.c_MOST_NESTED.imp fun _ => cc, T.c_MOST_TEXT.imp fun _ => cc⟩
  have b_looked_count := F_looked_count.binds (ps := ["count", "low", "high"]) fun _ _ _ _ _ _ us hl => match us, hl with | [_, _, _], _ => rfl
  have b_is_word := F_is_word.binds (ps := ["form"]) fun _ _ _ _ _ _ us hl => match us, hl with | [_], _ => rfl
  have b_is_code := F_is_code.binds (ps := ["form"]) fun _ _ _ _ _ _ us hl => match us, hl with | [_], _ => rfl
  have b_read_number := F_read_number.binds (ps := ["text"]) fun _ _ _ _ _ _ us hl => match us, hl with | [_], _ => rfl
  have b_read_atom := F_read_atom.binds (ps := ["text"]) fun _ _ _ _ _ _ us hl => match us, hl with | [_], _ => rfl
  have b_form_text := F_form_text.binds (ps := ["form"]) fun _ _ _ _ _ _ us hl => match us, hl with | [_], _ => rfl
  have b_parsed := F_parsed.binds (ps := ["text"]) fun _ _ _ _ _ _ us hl => match us, hl with | [_], _ => rfl
  have b_read_form := F_read_form.binds (ps := ["text"]) fun _ _ _ _ _ _ us hl => match us, hl with | [_], _ => rfl
  have b_law_start := F_law_start.binds (ps := ["script"]) fun _ _ _ _ _ _ us hl => match us, hl with | [_], _ => rfl
  have b_law_draw := F_law_draw.binds (ps := ["pool", "many"]) fun _ _ _ _ _ _ us hl => match us, hl with | [_, _], _ => rfl
  have b_law_atom := F_law_atom.binds (ps := ["pool"]) fun _ _ _ _ _ _ us hl => match us, hl with | [_], _ => rfl
  have b_law_form := F_law_form.binds (ps := ["pool", "deep"]) fun _ _ _ _ _ _ us hl => match us, hl with | [_, _], _ => rfl
  have b_law_text := F_law_text.binds (ps := ["form"]) fun _ _ _ _ _ _ us hl => match us, hl with | [_], _ => rfl
  have b_law_read_atom := F_law_read_atom.binds (ps := ["word"]) fun _ _ _ _ _ _ us hl => match us, hl with | [_], _ => rfl
  have b_law_read := F_law_read.binds (ps := ["text"]) fun _ _ _ _ _ _ us hl => match us, hl with | [_], _ => rfl
  have b_law_told := F_law_told.binds (ps := ["text"]) fun _ _ _ _ _ _ us hl => match us, hl with | [_], _ => rfl
  have b_law_read_right := F_law_read_right.binds (ps := ["text", "due"]) fun _ _ _ _ _ _ us hl => match us, hl with | [_, _], _ => rfl
  have b_law_both_right := F_law_both_right.binds (ps := ["form"]) fun _ _ _ _ _ _ us hl => match us, hl with | [_], _ => rfl
  have b_law_bent := F_law_bent.binds (ps := ["pool", "text"]) fun _ _ _ _ _ _ us hl => match us, hl with | [_, _], _ => rfl
  have b_law_bounds_right := F_law_bounds_right.binds (ps := ["pool"]) fun _ _ _ _ _ _ us hl => match us, hl with | [_], _ => rfl
  have b_law_large_right := F_law_large_right.binds (ps := ["pool"]) fun _ _ _ _ _ _ us hl => match us, hl with | [_], _ => rfl
  have b_law_odd_right := F_law_odd_right.binds (ps := []) fun _ _ _ _ _ _ us hl => match us, hl with | [], _ => rfl
  have b_law := F_law.binds (ps := ["script"]) fun _ _ _ _ _ _ us hl => match us, hl with | [_], _ => rfl
  refine ⟨fd_law, fun s v => ?_, fun base _ _ => ?_⟩
  · have z := F_law.ex
    obtain ⟨_, _, _, _, _, _, _, _, _, rfl, _, _⟩ := z
    exact .of_eq rfl
  · have XC : Xs P w K mg base CS CT := ⟨ex_SizeError top (nn T.z_super) (cc S1.a) S1, ex_TextError top (nn T.z_super) (cc S2.a) S2, exm_two S2.T.exC S2.isC S2.T.tyC S2.hC, exm_two S2.T.exC S2.isC S2.T.tyC s12, exm_two S1.T.exC S1.isC S1.T.tyC S1.hC⟩
    have has := fun {CX : CXT} {x : Str} {f : Addr} {fd : FuncData} {st : Stmt} {ps : List Str} {k : Nat} {sp : Sp} (a : PySem.W.nsIn K mainGlobals x = some (some (.ref f))) (F : Fun K x x st f fd) (b : L2.Binds K fd ps []) (O : FnOk P w K mg base CX k f fd ps sp) => (show Has P w K mg base CX x ps k sp from ⟨f, fd, O, cc a, F.kp, b⟩)
    have hasG := fun {x : Str} {f : Addr} {fd : FuncData} {st : Stmt} {ps : List Str} {k : Nat} {sp : Sp} (a : PySem.W.nsIn K mainGlobals x = some (some (.ref f))) (F : Fun K x x st f fd) (b : L2.Binds K fd ps []) (O : FnG P w K mg base k f fd ps sp) => (show HasG P w K mg base x ps k sp from ⟨f, fd, O, cc a, F.kp, b⟩)
    have H_looked_count := has a_looked_count F_looked_count b_looked_count (ok_looked_count F_looked_count XC)
    have H_is_word := has a_is_word F_is_word b_is_word (ok_is_word F_is_word B C)
    have H_is_code := has a_is_code F_is_code b_is_code (ok_is_code F_is_code B C)
    have H_read_number := has a_read_number F_read_number b_read_number (ok_read_number F_read_number B C)
    have H_read_atom := has a_read_atom F_read_atom b_read_atom (ok_read_atom F_read_atom ⟨H_is_word, H_is_code, H_read_number⟩)
    have H_form_text := has a_form_text F_form_text b_form_text (ok_form_text F_form_text B)
    have H_parsed := has a_parsed F_parsed b_parsed (ok_parsed F_parsed B C ⟨H_read_atom, H_form_text⟩)
    have H_read_form := has a_read_form F_read_form b_read_form (ok_read_form F_read_form XC B C ⟨H_looked_count, H_parsed⟩)
    have H_law_told := has a_law_told F_law_told b_law_told (ok_told F_law_told XC ⟨H_read_form⟩)
    have H_law_text := has a_law_text F_law_text b_law_text (ok_text F_law_text B (cc a_law_text) F_law_text.kp b_law_text 50)
    have H_law_read_atom := has a_law_read_atom F_law_read_atom b_law_read_atom (ok_law_read_atom F_law_read_atom B)
    have H_law_read := has a_law_read F_law_read b_law_read (ok_law_read F_law_read B ⟨H_law_read_atom⟩)
    have H_law_read_right := hasG a_law_read_right F_law_read_right b_law_read_right (ok_read_right F_law_read_right B ⟨H_law_told⟩)
    have H_law_start := has a_law_start F_law_start b_law_start (ok_start F_law_start B)
    have H_law_draw := has a_law_draw F_law_draw b_law_draw (ok_draw F_law_draw B)
    have H_law_both_right := hasG a_law_both_right F_law_both_right b_law_both_right (ok_both_right F_law_both_right B ⟨H_law_text, H_form_text, H_law_read_right, H_law_draw⟩)
    have H_law_atom := has a_law_atom F_law_atom b_law_atom (ok_atom F_law_atom B ⟨H_law_text, H_form_text, H_law_read_right, H_law_draw⟩)
    have H_law_form := has a_law_form F_law_form b_law_form (ok_form F_law_form B H_law_draw H_law_atom (cc a_law_form) F_law_form.kp b_law_form 7)
    have O : O10 P w K mg base := ⟨H_law_draw, H_law_atom, H_law_text, H_law_told, H_law_read, H_law_read_right, H_law_both_right⟩
    have H_law_bent := has a_law_bent F_law_bent b_law_bent (ok_bent F_law_bent B O)
    have H_law_odd_right := hasG a_law_odd_right F_law_odd_right b_law_odd_right (ok_odd_right F_law_odd_right B O)
    have H_law_bounds_right := hasG a_law_bounds_right F_law_bounds_right b_law_bounds_right (ok_bounds_right F_law_bounds_right B O)
    have H_law_large_right := hasG a_law_large_right F_law_large_right b_law_large_right (ok_large_right F_law_large_right B O)
    exact ok_law F_law B ⟨H_law_start, H_law_draw, H_law_atom, H_law_form, H_law_text, H_law_bent, H_law_read, H_law_read_right, H_law_both_right, H_law_bounds_right, H_law_large_right, H_law_odd_right⟩
end
end K41
open PySem PySem.W PyProof.Rows
set_option maxRecDepth 100000 in
set_option maxHeartbeats 0 in
theorem PySem.Challenge.cw_turnmaps_k41_forms_there_and_back_holds : PySem.Challenge.rw_turnmaps_k41_forms_there_and_back.Holds := by
  w_on; o_law; k_head; (case hw => w_witness2)
  k_fill
  refine J.walkG (l := PySem.Challenge.rw_turnmaps_k41_forms_there_and_back) (n := 63) (k := 53) (x := "script") (sp := K41.spLaw) rfl (by decide) rfl ⟨rfl, by decide, by decide⟩ (fun w h Y => PySem.W.kIn_of Y) ?F (fun K H a ns hl _ hS => ⟨a, ns, rfl, hl, hS, fun _ => rfl⟩)
  case F =>
    intro w mg fa h KX G hmg
    refine' K41.all_mk KX G hmg ?top ?T ?S1 ?S2 ?s12
    case T =>
      refine' K41.Top.mk ?z_len ?z_abs ?z_max ?z_int ?z_str ?z_tuple ?z_all ?z_isinstance ?z_range ?z_reversed ?z_repr ?z_super ?c_DIGITS ?c_LETTERS ?c_STEPS ?c_MOST_DIGITS ?c_MOST_LETTERS ?c_MOST_STEPS ?c_MOST_ENTRIES ?c_MOST_NESTED ?c_MOST_TEXT ?d_looked_count ?d_is_word ?d_is_code ?d_read_number ?d_read_atom ?d_form_text ?d_parsed ?d_read_form ?d_law_start ?d_law_draw ?d_law_atom ?d_law_form ?d_law_text ?d_law_read_atom ?d_law_read ?d_law_told ?d_law_read_right ?d_law_both_right ?d_law_bent ?d_law_bounds_right ?d_law_large_right ?d_law_odd_right ?d_law
      (case z_len => k_is)
      (case z_abs => k_is)
      (case z_max => k_is)
      (case z_int => k_is)
      (case z_str => k_is)
      (case z_tuple => k_is)
      (case z_all => k_is)
      (case z_isinstance => k_is)
      (case z_range => k_is)
      (case z_reversed => k_is)
      (case z_repr => k_is)
      (case z_super => k_is)
      (case c_DIGITS => refine' K41.c_str ?e; (case e => k_is))
      (case c_LETTERS => refine' K41.c_str ?e; (case e => k_is))
      (case c_STEPS => refine' K41.c_str ?e; (case e => k_is))
      (case c_MOST_DIGITS => refine' K41.c_int ?e; (case e => k_is))
      (case c_MOST_LETTERS => refine' K41.c_int ?e; (case e => k_is))
      (case c_MOST_STEPS => refine' K41.c_int ?e; (case e => k_is))
      (case c_MOST_ENTRIES => refine' K41.c_int ?e; (case e => k_is))
      (case c_MOST_NESTED => refine' K41.c_int ?e; (case e => k_is))
      (case c_MOST_TEXT => refine' K41.c_int ?e; (case e => k_is))
      (case d_looked_count => refine' K41.def_in ?a ?l ?c ?k; (case a => k_is); (case l => k_is); (case c => k_is); (case k => k_is))
      (case d_is_word => refine' K41.def_in ?a ?l ?c ?k; (case a => k_is); (case l => k_is); (case c => k_is); (case k => k_is))
      (case d_is_code => refine' K41.def_in ?a ?l ?c ?k; (case a => k_is); (case l => k_is); (case c => k_is); (case k => k_is))
      (case d_read_number => refine' K41.def_in ?a ?l ?c ?k; (case a => k_is); (case l => k_is); (case c => k_is); (case k => k_is))
      (case d_read_atom => refine' K41.def_in ?a ?l ?c ?k; (case a => k_is); (case l => k_is); (case c => k_is); (case k => k_is))
      (case d_form_text => refine' K41.def_in ?a ?l ?c ?k; (case a => k_is); (case l => k_is); (case c => k_is); (case k => k_is))
      (case d_parsed => refine' K41.def_in ?a ?l ?c ?k; (case a => k_is); (case l => k_is); (case c => k_is); (case k => k_is))
      (case d_read_form => refine' K41.def_in ?a ?l ?c ?k; (case a => k_is); (case l => k_is); (case c => k_is); (case k => k_is))
      (case d_law_start => refine' K41.def_in ?a ?l ?c ?k; (case a => k_is); (case l => k_is); (case c => k_is); (case k => k_is))
      (case d_law_draw => refine' K41.def_in ?a ?l ?c ?k; (case a => k_is); (case l => k_is); (case c => k_is); (case k => k_is))
      (case d_law_atom => refine' K41.def_in ?a ?l ?c ?k; (case a => k_is); (case l => k_is); (case c => k_is); (case k => k_is))
      (case d_law_form => refine' K41.def_in ?a ?l ?c ?k; (case a => k_is); (case l => k_is); (case c => k_is); (case k => k_is))
      (case d_law_text => refine' K41.def_in ?a ?l ?c ?k; (case a => k_is); (case l => k_is); (case c => k_is); (case k => k_is))
      (case d_law_read_atom => refine' K41.def_in ?a ?l ?c ?k; (case a => k_is); (case l => k_is); (case c => k_is); (case k => k_is))
      (case d_law_read => refine' K41.def_in ?a ?l ?c ?k; (case a => k_is); (case l => k_is); (case c => k_is); (case k => k_is))
      (case d_law_told => refine' K41.def_in ?a ?l ?c ?k; (case a => k_is); (case l => k_is); (case c => k_is); (case k => k_is))
      (case d_law_read_right => refine' K41.def_in ?a ?l ?c ?k; (case a => k_is); (case l => k_is); (case c => k_is); (case k => k_is))
      (case d_law_both_right => refine' K41.def_in ?a ?l ?c ?k; (case a => k_is); (case l => k_is); (case c => k_is); (case k => k_is))
      (case d_law_bent => refine' K41.def_in ?a ?l ?c ?k; (case a => k_is); (case l => k_is); (case c => k_is); (case k => k_is))
      (case d_law_bounds_right => refine' K41.def_in ?a ?l ?c ?k; (case a => k_is); (case l => k_is); (case c => k_is); (case k => k_is))
      (case d_law_large_right => refine' K41.def_in ?a ?l ?c ?k; (case a => k_is); (case l => k_is); (case c => k_is); (case k => k_is))
      (case d_law_odd_right => refine' K41.def_in ?a ?l ?c ?k; (case a => k_is); (case l => k_is); (case c => k_is); (case k => k_is))
      (case d_law => refine' K41.def_in ?a ?l ?c ?k; (case a => k_is); (case l => k_is); (case c => k_is); (case k => k_is))
    case S1 =>
      refine' K41.cls_x ?a ?l ?rv ?sa ?ga ?gg ?no ?eC ?tC ?kC ?dC ?i1 ?i2 ?i3 ?i4 ?i5 ?i6 ?i7 ?i8 ?i9 ?i10 ?i11 ?ho ?hm ?hB ?hC ?isC
      (case a => k_is)
      (case l => k_is)
      (case rv => decide +kernel)
      (case sa => k_is)
      (case ga => k_is)
      (case gg => k_is)
      (case no => k_is)
      (case eC => k_is)
      (case tC => k_is)
      (case kC => k_is)
      (case dC => k_is)
      (case i1 => k_is)
      (case i2 => k_is)
      (case i3 => k_is)
      (case i4 => k_is)
      (case i5 => k_is)
      (case i6 => rfl)
      (case i7 => rfl)
      (case i8 => rfl)
      (case i9 => k_is)
      (case i10 => rfl)
      (case i11 => k_is)
      (case ho => k_is)
      (case hm => first | ks_is | rfl)
      (case hB => k_is)
      (case hC => first | rfl | k_is)
      (case isC => k_is)
    case S2 =>
      refine' K41.cls_x ?a ?l ?rv ?sa ?ga ?gg ?no ?eC ?tC ?kC ?dC ?i1 ?i2 ?i3 ?i4 ?i5 ?i6 ?i7 ?i8 ?i9 ?i10 ?i11 ?ho ?hm ?hB ?hC ?isC
      (case a => k_is)
      (case l => k_is)
      (case rv => decide +kernel)
      (case sa => k_is)
      (case ga => k_is)
      (case gg => k_is)
      (case no => k_is)
      (case eC => k_is)
      (case tC => k_is)
      (case kC => k_is)
      (case dC => k_is)
      (case i1 => k_is)
      (case i2 => k_is)
      (case i3 => k_is)
      (case i4 => k_is)
      (case i5 => k_is)
      (case i6 => rfl)
      (case i7 => rfl)
      (case i8 => rfl)
      (case i9 => k_is)
      (case i10 => rfl)
      (case i11 => k_is)
      (case ho => k_is)
      (case hm => first | ks_is | rfl)
      (case hB => k_is)
      (case hC => first | rfl | k_is)
      (case isC => k_is)
    case s12 => k_is
    case top => rfl
