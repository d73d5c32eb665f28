import PyProof.Rows.All
import Wide.All
import OpenK.AllK
import Wide.FinOn
import HandS.Base
import HandS.Call
import HandS.List
import HandS.Comp
import HandS.Ends
import HandS.Dict
import HandS.Iter
import HandS.Text
import HandS.Words
import HandS.Exc
import HandS.TryOnly
import HandS.ExcOwn
import HandS.Wide
import KE.KStateDown
import KE.KFromBytes
import KE.KExcSuper
import KE.KIsAll
import KE.KTryMore
import HandS.ExcInit
import HandS.ExcField
import HandS.ExcIs
import HandS.Defaults
import HandS.Head0
import HandS.Head1
import HandS.Head2
import HandS.HeadEnd
import HandS.HeadHook1
import HandS.HeadHook2
import HandS.ExcSuper
import HandS.TryMany
import HandS.HotCalls
import HandS.IsInst
import KE.GoesMore
import KE.GoesEnum
import PyProof.EnumMake
import HandS.StrMore
import HandS.SetKeys
import HandS.Walk
import KE.IntTextLaws
import KE.KCallOwn
import HandS.WordsExc
import HandS.WordsDict
import HandS.More
import PyProof.StrBlock2
import PyProof.P3Eq
import PySem.Challenge.RW_fromyesalone_k87_turner_fits_or_clash
set_option Elab.async false
set_option linter.all false
set_option maxRecDepth 100000
set_option maxHeartbeats 0
/-! Our own layer over HandS: rules that serve a construct whatever its operands are, step lemmas, heaps. -/
namespace Y
open PySem PySem.Spec PyProof.Rows L2

/-! ### either of two rules -/
section
variable {X : Cx}
theorem OpR.or {f : Value → Value → Sem Value} {r1 r2 : R2} (h1 : OpR X f r1) (h2 : OpR X f r2) : OpR X f (fun x y H Q => r1 x y H Q ∨ r2 x y H Q) :=
  fun pins s σ H x y v u Q I rx ry h => h.elim (h1 pins s σ H x y v u Q I rx ry) (h2 pins s σ H x y v u Q I rx ry)
theorem CallR.or {f : Value} {r1 r2 : List V → Hp → VK → Prop} (h1 : CallR X f r1) (h2 : CallR X f r2) : CallR X f (fun xs H Q => r1 xs H Q ∨ r2 xs H Q) :=
  fun pins s σ H xs us Q I r h => h.elim (h1 pins s σ H xs us Q I r) (h2 pins s σ H xs us Q I r)
theorem SlR.or {r1 r2 : V → Option Int → Option Int → Hp → VK → Prop} (h1 : SlR X r1) (h2 : SlR X r2) : SlR X (fun x lo hi H Q => r1 x lo hi H Q ∨ r2 x lo hi H Q) :=
  fun pins s σ H x v vl vu lo hi sl Q I rx hs pl pu h => h.elim (h1 pins s σ H x v vl vu lo hi sl Q I rx hs pl pu) (h2 pins s σ H x v vl vu lo hi sl Q I rx hs pl pu)
theorem PE.or {e : Expr} {t u : TE} (h1 : PE X e t) (h2 : PE X e u) : PE X e (fun σ H Q => t σ H Q ∨ u σ H Q) :=
  ⟨fun pins s σ H Q I h => h.elim (h1.run pins s σ H Q I) (h2.run pins s σ H Q I)⟩
theorem PT.or {e : Expr} {t u : TT} (h1 : PT X e t) (h2 : PT X e u) : PT X e (fun σ H Q => t σ H Q ∨ u σ H Q) :=
  ⟨fun pins s σ H Q I h => h.elim (h1.run pins s σ H Q I) (h2.run pins s σ H Q I)⟩
theorem PI.or {tg e : Expr} {t u : TI} (h1 : PI X tg e t) (h2 : PI X tg e u) : PI X tg e (fun σ H R => t σ H R ∨ u σ H R) :=
  ⟨fun pins s σ H R I h => h.elim (h1.run pins s σ H R I) (h2.run pins s σ H R I)⟩
end

/-! ### operators by values -/
def rPlus (K : PySem.W.Frag) : R2 := fun x y H Q => (rI0 fun i j => .int (i + j)) x y H Q ∨ (∃ i j, x = .str i ∧ y = .str j ∧ i.length + j.length ≤ sizeLine ∧ Q (.str (i ++ j)) H) ∨ rCat x y H Q
def rMinus : R2 := rI0 fun i j => .int (i - j)
def rTimes : R2 := rI CMul fun i j => .int (i * j)
def rMod : R2 := rI (fun _ j => 0 < j) fun i j => .int (i % j)
def rDiv : R2 := rI CDivW fun i j => .int (i / j)
def rPow : R2 := rI CPow fun i j => .int (i ^ j.toNat)
def rEqs (K : PySem.W.Frag) : R2 := fun x y H Q => rEq x y H Q ∨ rEqD K x y H Q
def rNes (K : PySem.W.Frag) : R2 := fun x y H Q => rNe x y H Q ∨ rNeD K x y H Q
def rLts : R2 := fun x y H Q => (rI0 fun i j => .bl (decide (i < j))) x y H Q ∨ ∃ i j, x = .str i ∧ y = .str j ∧ Q (.bl (decide (i.cps.toList < j.cps.toList))) H
def rLes : R2 := fun x y H Q => (rI0 fun i j => .bl (decide (i ≤ j))) x y H Q ∨ ∃ i j, x = .str i ∧ y = .str j ∧ Q (.bl (!decide (j.cps.toList < i.cps.toList))) H
def rGts : R2 := fun x y H Q => (rI0 fun i j => .bl (decide (j < i))) x y H Q ∨ ∃ i j, x = .str i ∧ y = .str j ∧ Q (.bl (decide (j.cps.toList < i.cps.toList))) H
def rGes : R2 := fun x y H Q => (rI0 fun i j => .bl (decide (j ≤ i))) x y H Q ∨ ∃ i j, x = .str i ∧ y = .str j ∧ Q (.bl (!decide (i.cps.toList < j.cps.toList))) H
def rIns (K : PySem.W.Frag) : R2 := fun x y H Q => (∃ (c : Nat) (z : Str), x = .str ⟨#[c]⟩ ∧ y = .str z ∧ Q (.bl (decide (c ∈ z.cps.toList))) H) ∨ rIn K false x y H Q
def rNis (K : PySem.W.Frag) : R2 := fun x y H Q => (∃ (c : Nat) (z : Str), x = .str ⟨#[c]⟩ ∧ y = .str z ∧ Q (.bl (!decide (c ∈ z.cps.toList))) H) ∨ rIn K true x y H Q
def rIsN : R2 := fun x y H Q => y = .non ∧ Q (.bl (decide (x = .non))) H
def rNoN : R2 := fun x y H Q => y = .non ∧ Q (.bl (!decide (x = .non))) H
def rNeg : V → Hp → VK → Prop := rU fun i => .int (-i)
section
variable {X : Cx}
theorem o_add : OpR X (binaryOp .Add) (rPlus X.K) := OpR.or op_add (OpR.or op_add_str op_cat)
theorem o_sub : OpR X (binaryOp .Sub) rMinus := op_sub
theorem o_mul : OpR X (binaryOp .Mult) rTimes := op_mul
theorem o_mod : OpR X (binaryOp .Mod) rMod := op_mod
theorem o_fdiv : OpR X (binaryOp .FloorDiv) rDiv := op_fdivW
theorem o_pow : OpR X (binaryOp .Pow) rPow := op_pow
theorem o_neg : UnR X (unaryOp .USub) rNeg := un_neg
theorem c_eq (hu : X.A.units + 64 < cLine) : OpR X (compareOp .Eq) (rEqs X.K) := OpR.or op_eq (op_eqD hu)
theorem c_ne (hu : X.A.units + 64 < cLine) : OpR X (compareOp .NotEq) (rNes X.K) := OpR.or op_ne (op_neD hu)
theorem c_lt : OpR X (compareOp .Lt) rLts := OpR.or op_lt op_lt_str
theorem c_le : OpR X (compareOp .LtE) rLes := OpR.or op_le op_le_str
theorem c_gt : OpR X (compareOp .Gt) rGts := OpR.or op_gt op_gt_str
theorem c_ge : OpR X (compareOp .GtE) rGes := OpR.or op_ge op_ge_str
theorem c_in : OpR X (compareOp .In) (rIns X.K) := OpR.or op_in_sign op_in_seq
theorem c_ni : OpR X (compareOp .NotIn) (rNis X.K) := OpR.or op_notIn_sign op_notIn_seq
theorem c_is : OpR X (compareOp .Is) rIsN := op_isN
theorem c_ns : OpR X (compareOp .IsNot) rNoN := op_notN
end
end Y

namespace Y
open PySem PySem.Spec PyProof.Rows L2
/-! ### steps of a reading -/
section
variable {K : PySem.W.Frag} {σ : L2.St} {H : Hp} {Q : VK} {i : Nat} {v x y : V} {ta tb tc te tr : TE} {t u : TT} {a b : Addr} {D : Ends} {n m : Int} {s z : Str}
theorem s_var (h : σ[i]? = some (some v)) (k : Q v H) : tVar i σ H Q := ⟨v, h, k⟩
theorem s_c (k : Q v H) : tC v σ H Q := k
theorem s_op {r : R2} (k : ta σ H fun x H1 => tb σ H1 fun y H2 => r x y H2 Q) : tOp r ta tb σ H Q := k
theorem s_un {r : V → Hp → VK → Prop} (k : ta σ H fun x H1 => r x H1 Q) : tUn r ta σ H Q := k
theorem s_nil {Q : List V → Hp → Prop} (k : Q [] H) : tNil σ H Q := k
theorem s_cons {tr : TA} {Q : List V → Hp → Prop} (k : ta σ H fun x H1 => tr σ H1 fun xs H2 => Q (x :: xs) H2) : tCons ta tr σ H Q := k
theorem s_tup {t : TA} (k : t σ H fun xs H1 => xs.length ≤ sizeLine ∧ ∀ p, H1 p = none → Q (.ref p) (upd H1 p (.tup xs))) : tTup t σ H Q := k
theorem s_lst {t : TA} (k : t σ H fun xs H1 => xs.length ≤ sizeLine ∧ ∀ p, H1 p = none → Q (.ref p) (upd H1 p (.lst xs))) : tLst t σ H Q := k
theorem s_CB {r : List V → Hp → VK → Prop} {t : TA} (k : t σ H fun vs H1 => r vs H1 Q) : tCB r t σ H Q := k
theorem s_BM {T : String} {r : V → List V → Hp → VK → Prop} {t : TA} (k : ta σ H fun x H1 => tyV K T x H1 ∧ t σ H1 fun xs H2 => r x xs H2 Q) : tBM K T r ta t σ H Q := k
theorem s_BM0 {T : String} {r : V → List V → Hp → VK → Prop} (k : ta σ H fun x H1 => tyV K T x H1 ∧ r x [] H1 Q) : tBM0 K T r ta σ H Q := k
theorem s_M0 {r : V → List V → Hp → VK → Prop} (k : ta σ H fun x H1 => (∃ a, x = .str a) ∧ r x [] H1 Q) : tM0 r ta σ H Q := k
theorem s_M1 {r : V → List V → Hp → VK → Prop} (k : ta σ H fun x H1 => (∃ a, x = .str a) ∧ tb σ H1 fun y H2 => r x [y] H2 Q) : tM1 r ta tb σ H Q := k
theorem s_sl {r : V → Option Int → Option Int → Hp → VK → Prop} {tl th : TO} (k : ta σ H fun x H1 => tl σ H1 fun l H2 => th σ H2 fun u H3 => r x l u H3 Q) : tSl r ta tl th σ H Q := k
theorem s_noP {Q : Option Int → Hp → Prop} (k : Q none H) : tNoPart σ H Q := k
theorem s_test {Q : Bool → Hp → Prop} (k : ta σ H fun x H' => ∃ k, x = .bl k ∧ Q k H') : tTest ta σ H Q := k
theorem s_B {Q : Bool → Hp → Prop} (k : ta σ H fun x H' => ∃ k, x = .bl k ∧ Q k H') : tB ta σ H Q := k
theorem s_bl {Q : Bool → Hp → Prop} {c : Bool} (k : Q c H) : ∃ k, V.bl c = .bl k ∧ Q k H := ⟨c, rfl, k⟩
theorem s_and {Q : Bool → Hp → Prop} (k : t σ H fun c H1 => if c = true then u σ H1 Q else Q false H1) : tAnd t u σ H Q := k
theorem s_or {Q : Bool → Hp → Prop} (k : t σ H fun c H1 => if c = true then Q true H1 else u σ H1 Q) : tOr t u σ H Q := k
theorem s_not {Q : Bool → Hp → Prop} (k : t σ H fun c H1 => Q (!c) H1) : tNot t σ H Q := k
theorem s_andV (k : ta σ H fun x H1 => ∃ c, x = .bl c ∧ if c = true then tb σ H1 Q else Q (.bl false) H1) : tAndV ta tb σ H Q := k
theorem s_orV (k : ta σ H fun x H1 => ∃ c, x = .bl c ∧ if c = true then Q (.bl true) H1 else tb σ H1 Q) : tOrV ta tb σ H Q := k
theorem s_notV (k : ta σ H fun x H1 => ∃ c, x = .bl c ∧ Q (.bl (!c)) H1) : tNotV ta σ H Q := k
theorem s_ifE (k : t σ H fun c H1 => if c = true then ta σ H1 Q else tb σ H1 Q) : tIf t ta tb σ H Q := k
theorem s_seq {t u : TS} (k : t { D with nx := u D } σ H) : tSeq t u D σ H := k
theorem s_asg {g : TG} (k : te σ H fun x H1 => g x σ H1 D.nx) : tAsg te g D σ H := k
theorem s_gname {Q : L2.St → Hp → Prop} (k : Q (σ.set i (some v)) H) : gName i v σ H Q := k
theorem s_drop (k : te σ H fun _ H1 => D.nx σ H1) : tDrop te D σ H := k
theorem s_ret (k : te σ H D.rt) : tRet te D σ H := k
theorem s_retN (k : D.rt .non H) : tRetN D σ H := k
theorem s_next (k : D.nx σ H) : tNext D σ H := k
theorem s_ifS {tu tw : TS} (k : t σ H fun b H1 => if b = true then tu D σ H1 else tw D σ H1) : tIfS t tu tw D σ H := k
theorem s_yes {Q : Bool → Hp → Prop} (k : Q true H) : tYes σ H Q := k
theorem s_call {sp : Sp} {dvs : List V} {E : XK} {t : TA} (k : t σ H fun vs H1 => sp (vs ++ dvs) H1 Q E) : tCall sp dvs E t σ H Q := k
theorem s_callS {sp : Sp} {E : L2.St → XK} {t : TA} (k : t σ H fun vs H1 => sp vs H1 Q (E σ)) : tCallS sp E t σ H Q := k
theorem s_asgS {to ti : TE} {r : TSet} (k : te σ H fun x H1 => to σ H1 fun o H2 => ti σ H2 fun i H3 => r o i x H3 fun H4 => D.nx σ H4) : tAsg te (gSub to ti r) D σ H := k
/-! operators -/
theorem s_add_i (k : Q (.int (n + m)) H) : rPlus K (.int n) (.int m) H Q := Or.inl ⟨n, m, rfl, rfl, k⟩
theorem s_add_s (h : s.length + z.length ≤ sizeLine) (k : Q (.str (s ++ z)) H) : rPlus K (.str s) (.str z) H Q := Or.inr (Or.inl ⟨s, z, rfl, rfl, h, k⟩)
theorem s_add_l {xs ys : List V} (ha : H a = some (.lst xs)) (hb : H b = some (.lst ys)) (hl : xs.length + ys.length ≤ sizeLine) (k : ∀ p, H p = none → Q (.ref p) (upd H p (.lst (xs ++ ys)))) : rPlus K (.ref a) (.ref b) H Q :=
  Or.inr (Or.inr ⟨a, b, xs, ys, rfl, rfl, ha, hb, hl, k⟩)
theorem s_sub (k : Q (.int (n - m)) H) : rMinus (.int n) (.int m) H Q := ⟨n, m, rfl, rfl, k⟩
theorem s_mul (h : CMul n m) (k : Q (.int (n * m)) H) : rTimes (.int n) (.int m) H Q := ⟨n, m, rfl, rfl, h, k⟩
theorem s_mod (h : 0 < m) (k : Q (.int (n % m)) H) : rMod (.int n) (.int m) H Q := ⟨n, m, rfl, rfl, h, k⟩
theorem s_div (h : CDivW n m) (k : Q (.int (n / m)) H) : rDiv (.int n) (.int m) H Q := ⟨n, m, rfl, rfl, h, k⟩
theorem s_pow (h : CPow n m) (k : Q (.int (n ^ m.toNat)) H) : rPow (.int n) (.int m) H Q := ⟨n, m, rfl, rfl, h, k⟩
theorem s_neg (k : Q (.int (-n)) H) : rNeg (.int n) H Q := ⟨n, rfl, k⟩
theorem s_eq_i (k : Q (.bl (decide (n = m))) H) : rEqs K (.int n) (.int m) H Q := Or.inl ⟨rfl, by rw [dec_int]; rw [show (n == m) = decide (n = m) from by rw [Bool.eq_iff_iff]; simp]; exact k⟩
theorem s_eq_s (k : Q (.bl (decide (s = z))) H) : rEqs K (.str s) (.str z) H Q := Or.inl ⟨rfl, by rw [dec_str]; rw [show (s == z) = decide (s = z) from by rw [Bool.eq_iff_iff]; simp]; exact k⟩
theorem s_eq_x (h : scal x y = true) (k : Q (.bl (decide (x = y))) H) : rEqs K x y H Q := Or.inl ⟨h, k⟩
theorem s_eq_d {d e : PyData} (hd : Dp K H x d) (he : Dp K H y e) (sd : SeqAt.shaped d = true) (se : SeqAt.shaped e = true) (k : Q (.bl (PyData.eqv d e)) H) : rEqs K x y H Q := Or.inr ⟨d, e, hd, he, sd, se, k⟩
theorem s_ne_i (k : Q (.bl (!decide (n = m))) H) : rNes K (.int n) (.int m) H Q := Or.inl ⟨rfl, by rw [dec_int]; rw [show (n == m) = decide (n = m) from by rw [Bool.eq_iff_iff]; simp]; exact k⟩
theorem s_ne_s (k : Q (.bl (!decide (s = z))) H) : rNes K (.str s) (.str z) H Q := Or.inl ⟨rfl, by rw [dec_str]; rw [show (s == z) = decide (s = z) from by rw [Bool.eq_iff_iff]; simp]; exact k⟩
theorem s_ne_x (h : scal x y = true) (k : Q (.bl (!decide (x = y))) H) : rNes K x y H Q := Or.inl ⟨h, k⟩
theorem s_ne_d {d e : PyData} (hd : Dp K H x d) (he : Dp K H y e) (sd : SeqAt.shaped d = true) (se : SeqAt.shaped e = true) (k : Q (.bl (!PyData.eqv d e)) H) : rNes K x y H Q := Or.inr ⟨d, e, hd, he, sd, se, k⟩
theorem s_lt_i (k : Q (.bl (decide (n < m))) H) : rLts (.int n) (.int m) H Q := Or.inl ⟨n, m, rfl, rfl, k⟩
theorem s_le_i (k : Q (.bl (decide (n ≤ m))) H) : rLes (.int n) (.int m) H Q := Or.inl ⟨n, m, rfl, rfl, k⟩
theorem s_gt_i (k : Q (.bl (decide (m < n))) H) : rGts (.int n) (.int m) H Q := Or.inl ⟨n, m, rfl, rfl, k⟩
theorem s_ge_i (k : Q (.bl (decide (m ≤ n))) H) : rGes (.int n) (.int m) H Q := Or.inl ⟨n, m, rfl, rfl, k⟩
theorem s_lt_s (k : Q (.bl (decide (s.cps.toList < z.cps.toList))) H) : rLts (.str s) (.str z) H Q := Or.inr ⟨s, z, rfl, rfl, k⟩
theorem s_le_s (k : Q (.bl (!decide (z.cps.toList < s.cps.toList))) H) : rLes (.str s) (.str z) H Q := Or.inr ⟨s, z, rfl, rfl, k⟩
theorem s_gt_s (k : Q (.bl (decide (z.cps.toList < s.cps.toList))) H) : rGts (.str s) (.str z) H Q := Or.inr ⟨s, z, rfl, rfl, k⟩
theorem s_ge_s (k : Q (.bl (!decide (s.cps.toList < z.cps.toList))) H) : rGes (.str s) (.str z) H Q := Or.inr ⟨s, z, rfl, rfl, k⟩
theorem s_in_c {c : Nat} (k : Q (.bl (decide (c ∈ z.cps.toList))) H) : rIns K (.str ⟨#[c]⟩) (.str z) H Q := Or.inl ⟨c, z, rfl, rfl, k⟩
theorem s_ni_c {c : Nat} (k : Q (.bl (!decide (c ∈ z.cps.toList))) H) : rNis K (.str ⟨#[c]⟩) (.str z) H Q := Or.inl ⟨c, z, rfl, rfl, k⟩
theorem s_in_l {xs : List V} (h : SqL K H a xs) (hx : flatV x = true) (hs : xs.all flatV = true) (k : Q (.bl (inV x xs)) H) : rIns K x (.ref a) H Q := Or.inr ⟨a, xs, rfl, Or.inl h, hx, hs, k⟩
theorem s_in_t {xs : List V} (h : SqT K H a xs) (hx : flatV x = true) (hs : xs.all flatV = true) (k : Q (.bl (inV x xs)) H) : rIns K x (.ref a) H Q := Or.inr ⟨a, xs, rfl, Or.inr h, hx, hs, k⟩
theorem s_ni_l {xs : List V} (h : SqL K H a xs) (hx : flatV x = true) (hs : xs.all flatV = true) (k : Q (.bl (!inV x xs)) H) : rNis K x (.ref a) H Q := Or.inr ⟨a, xs, rfl, Or.inl h, hx, hs, k⟩
theorem s_ni_t {xs : List V} (h : SqT K H a xs) (hx : flatV x = true) (hs : xs.all flatV = true) (k : Q (.bl (!inV x xs)) H) : rNis K x (.ref a) H Q := Or.inr ⟨a, xs, rfl, Or.inr h, hx, hs, k⟩
theorem s_isN (k : Q (.bl (decide (x = .non))) H) : rIsN x .non H Q := ⟨rfl, k⟩
theorem s_noN (k : Q (.bl (!decide (x = .non))) H) : rNoN x .non H Q := ⟨rfl, k⟩
/-! subscripts -/
theorem s_ix_l {xs : List V} {j : Int} (h : SqL K H a xs) (hv : atI xs j = some v) (k : Q v H) : rIx K (.ref a) (.int j) H Q := Or.inl ⟨a, xs, j, v, rfl, rfl, h, hv, k⟩
theorem s_ix_t {xs : List V} {j : Int} (h : SqT K H a xs) (hv : atI xs j = some v) (k : Q v H) : rIx K (.ref a) (.int j) H Q := Or.inr (Or.inl ⟨a, xs, j, v, rfl, rfl, h, hv, k⟩)
theorem s_ix_s {j : Int} {c : Nat} (h : s.length ≤ sizeLine) (hv : atI s.cps.toList j = some c) (k : Q (.str ⟨#[c]⟩) H) : rIx K (.str s) (.int j) H Q := Or.inr (Or.inr ⟨s, j, c, rfl, rfl, h, hv, k⟩)
/-! calls of built-ins -/
def rLens (K : PySem.W.Frag) : List V → Hp → VK → Prop := fun xs H Q => ∃ x n, xs = [x] ∧ LenV K x H n ∧ Q (.int n) H
theorem s_len_s (h : s.length ≤ sizeLine) (k : Q (.int s.length) H) : rLens K [.str s] H Q := ⟨.str s, s.length, rfl, ⟨h, rfl⟩, k⟩
theorem s_len_l {xs : List V} (h : SqL K H a xs) (k : Q (.int xs.length) H) : rLens K [.ref a] H Q := ⟨.ref a, xs.length, rfl, Or.inl ⟨xs, h, rfl⟩, k⟩
theorem s_len_t {xs : List V} (h : SqT K H a xs) (k : Q (.int xs.length) H) : rLens K [.ref a] H Q := ⟨.ref a, xs.length, rfl, Or.inr ⟨xs, h, rfl⟩, k⟩
def rAbs : List V → Hp → VK → Prop := fun xs H Q => ∃ i, xs = [.int i] ∧ Q (.int (if i < 0 then -i else i)) H
theorem s_abs (k : Q (.int (if n < 0 then -n else n)) H) : rAbs [.int n] H Q := ⟨n, rfl, k⟩
def rMax2 : List V → Hp → VK → Prop := fun xs H Q => ∃ i j, xs = [.int i, .int j] ∧ Q (.int (if j > i then j else i)) H
theorem s_max2 (k : Q (.int (if m > n then m else n)) H) : rMax2 [.int n, .int m] H Q := ⟨n, m, rfl, k⟩
def rMin2 : List V → Hp → VK → Prop := fun xs H Q => ∃ i j, xs = [.int i, .int j] ∧ Q (.int (if j < i then j else i)) H
theorem s_min2 (k : Q (.int (if m < n then m else n)) H) : rMin2 [.int n, .int m] H Q := ⟨n, m, rfl, k⟩
def rInt1 : List V → Hp → VK → Prop := fun xs H Q => ((∃ i, xs = [.int i] ∧ Q (.int i) H) ∨ ∃ k, xs = [.bl k] ∧ Q (.int (if k then 1 else 0)) H) ∨ ∃ a n, xs = [.str a] ∧ PySem.intText? a = some n ∧ a.length ≤ 640 ∧ Q (.int n) H
theorem s_int_i (k : Q (.int n) H) : rInt1 [.int n] H Q := Or.inl (Or.inl ⟨n, rfl, k⟩)
theorem s_int_s (h : PySem.intText? s = some n) (hl : s.length ≤ 640) (k : Q (.int n) H) : rInt1 [.str s] H Q := Or.inr ⟨s, n, rfl, h, hl, k⟩
def rStr1 : List V → Hp → VK → Prop := fun xs H Q => ∃ i : Int, xs = [.int i] ∧ i.natAbs.log2 < 1920 ∧ Q (.str (toString i)) H
theorem s_str_i (h : n.natAbs.log2 < 1920) (k : Q (.str (toString n)) H) : rStr1 [.int n] H Q := ⟨n, rfl, h, k⟩
def rLst1 (K : PySem.W.Frag) : List V → Hp → VK → Prop := fun xs H Q => ∃ p ys, xs = [.ref p] ∧ (SqL K H p ys ∨ SqT K H p ys) ∧ ∀ l, H l = none → Q (.ref l) (upd H l (.lst ys))
theorem s_lst_l {xs : List V} (h : SqL K H a xs) (k : ∀ l, H l = none → Q (.ref l) (upd H l (.lst xs))) : rLst1 K [.ref a] H Q := ⟨a, xs, rfl, Or.inl h, k⟩
theorem s_lst_t {xs : List V} (h : SqT K H a xs) (k : ∀ l, H l = none → Q (.ref l) (upd H l (.lst xs))) : rLst1 K [.ref a] H Q := ⟨a, xs, rfl, Or.inr h, k⟩
def rTup1 (K : PySem.W.Frag) : List V → Hp → VK → Prop := fun xs H Q => ∃ p ys, xs = [.ref p] ∧ ((SqL K H p ys ∧ ∀ l, H l = none → Q (.ref l) (upd H l (.tup ys))) ∨ (SqT K H p ys ∧ Q (.ref p) H))
theorem s_tup_l {xs : List V} (h : SqL K H a xs) (k : ∀ l, H l = none → Q (.ref l) (upd H l (.tup xs))) : rTup1 K [.ref a] H Q := ⟨a, xs, rfl, Or.inl ⟨h, k⟩⟩
theorem s_tup_t {xs : List V} (h : SqT K H a xs) (k : Q (.ref a) H) : rTup1 K [.ref a] H Q := ⟨a, xs, rfl, Or.inr ⟨h, k⟩⟩
theorem s_any {bs : List Bool} (h : SqL K H a (bs.map V.bl)) (k : Q (.bl (bs.any id)) H) : rAny K [.ref a] H Q := ⟨a, bs, rfl, h, k⟩
theorem s_all {bs : List Bool} (h : SqL K H a (bs.map V.bl)) (k : Q (.bl (bs.all id)) H) : rAll K [.ref a] H Q := ⟨a, bs, rfl, h, k⟩
/-! methods -/
theorem s_append {xs : List V} (h : H a = some (.lst xs)) (hz : xs.length < sizeLine) (k : Q .non (upd H a (.lst (xs ++ [y])))) : rAppend (.ref a) [y] H Q := ⟨a, xs, y, rfl, rfl, h, hz, k⟩
theorem s_pop {xs : List V} (h : H a = some (.lst xs)) (hv : xs[xs.length - 1]? = some v) (k : Q v (upd H a (.lst xs.dropLast))) : rPop (.ref a) [] H Q := ⟨a, xs, v, rfl, rfl, h, hv, k⟩
theorem ty_l {xs : List V} (h : H a = some (.lst xs)) : tyV K "list" (.ref a) H := Or.inl ⟨rfl, xs, SqL.of h⟩
theorem ty_s : tyV K "str" (.str s) H := rfl
def rSplit : V → List V → Hp → VK → Prop := fun x xs H Q => ∃ a b, x = .str a ∧ xs = [.str b] ∧ (b.length == 0) = false ∧ a.length + 2 ≤ sizeLine ∧ rNewStrs (Txt.split a b) H Q
theorem s_split (hz : (z.length == 0) = false) (hl : s.length + 2 ≤ sizeLine) (k : ∀ p, H p = none → Q (.ref p) (upd H p (.lst ((Txt.split s z).map V.str)))) : rSplit (.str s) [.str z] H Q := ⟨s, z, rfl, rfl, hz, hl, k⟩
def rSlAny (K : PySem.W.Frag) : V → Option Int → Option Int → Hp → VK → Prop := fun x lo hi H Q => rSlL K x lo hi H Q ∨ rSlS x lo hi H Q
theorem s_sl_l {xs : List V} {lo hi : Option Int} (h : SqL K H a xs) (k : ∀ p, H p = none → Q (.ref p) (upd H p (.lst (cutV xs lo hi)))) : rSlAny K (.ref a) lo hi H Q := Or.inl ⟨a, xs, rfl, h, k⟩
theorem s_sl_s {lo hi : Option Int} (h : s.length ≤ sizeLine) (k : Q (.str (cutS s lo hi)) H) : rSlAny K (.str s) lo hi H Q := Or.inr ⟨s, rfl, h, k⟩
theorem s_setL {xs : List V} {j : Int} {l : Nat} {Q : Hp → Prop} (h : H a = some (.lst xs)) (hj : ixN xs.length j = some l) (k : Q (upd H a (.lst (xs.set l v)))) : rSetL (.ref a) (.int j) v H Q := ⟨a, xs, j, l, rfl, rfl, h, hj, k⟩
end
section
variable {X : Cx}
theorem b_len : CallR X (.builtin "len") (rLens X.K) := call_len
theorem b_abs : CallR X (.builtin "abs") rAbs := call_abs
theorem b_max (hc : X.calm = true) : CallR X (.builtin "max") rMax2 := call_max2 hc
theorem b_min (hc : X.calm = true) : CallR X (.builtin "min") rMin2 := call_min2 hc
theorem b_int : CallR X (.type "int") rInt1 := CallR.or call_int1 call_int_str
theorem b_str : CallR X (.type "str") rStr1 := call_str_int
theorem b_list : CallR X (.type "list") (rLst1 X.K) := call_list_of
theorem b_tuple : CallR X (.type "tuple") (rTup1 X.K) := call_tuple_of
theorem m_split : MtR X "str.split" rSplit := mt_split
theorem sl_any : SlR X (rSlAny X.K) := SlR.or sl_list sl_str
end
end Y

/-! The head: what the top has written, told by a Hook. -/
namespace Y
open PySem PySem.Spec L2 He
/-! ### own exception classes over ValueError -/
def cqB (K : PySem.W.Frag) (C : Addr) : Bool := match K.lookup C with
  | some ⟨.type t, dd, .cls cd, sl⟩ => (match cd.mro, sl.toList with
    | .ref C' :: bm, [k0, k1, k2, k3, some (.builtin n), k5] => t == "type" && C' == C && n == "ValueError.__new__" && !cd.hasDel && cd.hasDict && PySem.HandSPX.refsVE bm
    | _, _ => false)
  | _ => false
theorem cqB_ok {K : PySem.W.Frag} {C : Addr} (h : cqB K C = true) : ∃ nm q N bs bm sn sub ab col dd k0 k1 k2 k3 k5, K.lookup C = some (excClassObj nm q C N bs bm true sn sub ab col dd k0 k1 k2 k3 k5 "ValueError.__new__") ∧ PySem.HandSPX.refsVE bm = true := by
  unfold cqB at h
  split at h
  · rename_i t dd cd sl ho
    split at h
    · rename_i C' bm k0 k1 k2 k3 n k5 hm hs
      simp only [Bool.and_eq_true, beq_iff_eq, Bool.not_eq_true'] at h
      obtain ⟨⟨⟨⟨⟨rfl, rfl⟩, rfl⟩, hdel⟩, hd⟩, hr⟩ := h
      obtain ⟨nm, bs, mro, ns, qn, hd', sn, sub, ab, col, del⟩ := cd
      dsimp only at hm hdel hd
      subst hm hdel hd
      have hsl : sl = #[k0, k1, k2, k3, some (.builtin "ValueError.__new__"), k5] := by
        obtain ⟨l⟩ := sl
        simp only at hs
        rw [hs]
      subst hsl
      exact ⟨nm, qn, ns, bs, bm, sn, sub, ab, col, dd, k0, k1, k2, k3, k5, ho, hr⟩
    · cases h
  · cases h
/-- what is told of an own exception class -/
structure ExK (K : PySem.W.Frag) (C : Addr) : Prop where
  o : OexC K C
  x : XfC K C
  e : ExcC K C
def exB (K : PySem.W.Frag) (C : Addr) : Bool :=
  cqB K C && (decide (PySem.W.findIn K (.ref C) "__setattr__" = some (some (.builtin "object.__setattr__"))) && (decide (PySem.W.typeIn K (.ref C) = some (.type "type")) && (PySem.W.keepIn K (.ref C) && (xfB K C &&
    (decide (PySem.W.findIn K (.ref C) "__class__" = some (some (.builtin "object.__class__"))) && (decide (PySem.W.specialIn K (.builtin "object.__class__") "__get__" = some (some (.builtin "getset_descriptor.__get__"))) &&
      (decide (PySem.W.takesIn K (.builtin "object.__class__") = some true) && decide (PySem.W.mroIn K C (.type "object") = some true))))))))
theorem exB_ok {K : PySem.W.Frag} {C : Addr} (h : exB K C = true) : ExK K C := by
  obtain ⟨h1, h⟩ := ba h
  obtain ⟨h2, h⟩ := ba h
  obtain ⟨h3, h⟩ := ba h
  obtain ⟨h4, h⟩ := ba h
  obtain ⟨h5, h⟩ := ba h
  obtain ⟨h6, h⟩ := ba h
  obtain ⟨h7, h⟩ := ba h
  obtain ⟨h8, h9⟩ := ba h
  have x := xfB_ok h5
  exact ⟨⟨cqB_ok h1, of_decide_eq_true h2, x.exC, of_decide_eq_true h3, h4⟩, x, ⟨x.ga, x.gg, x.exC, x.hdC, of_decide_eq_true h6, of_decide_eq_true h7, of_decide_eq_true h8, of_decide_eq_true h9⟩⟩
/-- what isinstance asks of an own class -/
structure OwnK (K : PySem.W.Frag) (C : Addr) : Prop where
  ha : PySem.W.findIn K (.ref C) "__class__" = some (some (.builtin "object.__class__"))
  hn : PySem.W.specialIn K (.builtin "object.__class__") "__get__" = some (some (.builtin "getset_descriptor.__get__"))
  ht : PySem.W.takesIn K (.builtin "object.__class__") = some true
  hm : PySem.W.mroIn K C (.type "object") = some true
def ownB (K : PySem.W.Frag) (C : Addr) : Bool := decide (PySem.W.findIn K (.ref C) "__class__" = some (some (.builtin "object.__class__"))) && (decide (PySem.W.specialIn K (.builtin "object.__class__") "__get__" = some (some (.builtin "getset_descriptor.__get__"))) &&
  (decide (PySem.W.takesIn K (.builtin "object.__class__") = some true) && decide (PySem.W.mroIn K C (.type "object") = some true)))
theorem ownB_ok {K : PySem.W.Frag} {C : Addr} (h : ownB K C = true) : OwnK K C := by
  obtain ⟨h1, h⟩ := ba h
  obtain ⟨h2, h⟩ := ba h
  obtain ⟨h3, h4⟩ := ba h
  exact ⟨of_decide_eq_true h1, of_decide_eq_true h2, of_decide_eq_true h3, of_decide_eq_true h4⟩
/-! ### more facts -/
inductive Fb where
  /-- an own class whose instances isinstance is asked of -/
  | own (x : Str)
  /-- an own exception class -/
  | exq (x : Str)
  /-- isinstance of an instance of the first by the second; except: does the second catch the first -/
  | kit (x y : Str) (b : Bool)
  | exm (x y : Str) (b : Bool)
  /-- the class x has no attribute f -/
  | noat (x f : Str)
def Fb.ok (K : PySem.W.Frag) : Fb → Bool
  | .exq x => exB K (ga K x)
  | .own x => ownB K (ga K x)
  | .kit x y b => decide (PySem.W.kitOne K (.ref (ga K x)) (.ref (ga K y)) = some b)
  | .exm x y b => decide (PySem.W.exmOne K (.ref (ga K x)) (.ref (ga K y)) = some b)
  | .noat x f => decide (PySem.W.findIn K (.ref (ga K x)) f = some none)
/-! ### an __init__ that says super() -/
structure DefI where
  cls : Str
  name : Str
  qual : Str
  params : Arguments
  body : List Stmt
  scope : Scope
abbrev FnI : Type := Option (Str × Str × Arguments × FuncBody × Scope × Addr × List Str × Addr)
def fnI (K : PySem.W.Frag) (p : Str × Option Str) : FnI := match K.lookup (fAd K p) with
  | some ⟨_, _, .func fd, _⟩ => some (fd.name, fd.qualname, fd.params, fd.body, fd.scope, fd.globals, fd.closure.map (·.1), fd.builtins)
  | _ => none
def DefI.at_ (d : DefI) : Str × Option Str := (d.cls, some d.name)
def DefI.val (d : DefI) : FnI := some (d.name, d.qual, d.params, .stmts d.body, d.scope, mainGlobals, ["__class__"], builtinsNs)
/-- the cell of __class__ holds the class at C; the code object tells its file -/
def iniB (K : PySem.W.Frag) (C : Addr) (fd : FuncData) (q file : Str) : Bool := PySem.W.codeIn K fd.code q && (match fd.closure with
  | [(_, cc)] => (match K.lookup cc with
    | some ⟨_, _, .cell (some (.ref D)), _⟩ => decide (D = C)
    | _ => false)
  | _ => false) && (match fd.code with
  | .ref c => (match K.lookup c with
    | some ⟨_, _, .fields vs, _⟩ => (match vs.toList with
      | _ :: _ :: .str f _ :: _ => decide (f = file)
      | _ => false)
    | _ => false)
  | _ => false) && (match fd.defaults with
  | .none => true
  | _ => false)
def DefI.ok (K : PySem.W.Frag) (file : Str) (d : DefI) : Bool := PySem.W.keepIn K (.ref (fAd K d.at_)) && (decide (PySem.W.typeIn K (.ref (fAd K d.at_)) = some (.type "function")) &&
  (decide (PySem.W.findIn K (.ref (ga K d.cls)) "__init__" = some (some (.ref (fAd K d.at_)))) && (decide (PySem.W.ks_superIn K (ga K d.cls) (ga K d.cls) "__init__" = some (some (.builtin "ValueError.__init__"))) &&
    (decide (PySem.W.subIn K (.ref (ga K d.cls)) (.type "ValueError") = some true) && (decide (PySem.W.mroIn K (ga K d.cls) (.ref (ga K d.cls)) = some true) && (decide (PySem.W.nsIn K cStatics "thirdparty.any" = some none) &&
  (match K.lookup (fAd K d.at_) with
  | some ⟨_, _, .func fd, _⟩ => iniB K (ga K d.cls) fd d.qual file
  | _ => false)))))))
/-! ### the Hook -/
abbrev AlI : Type := AlD × Bool × List FnI
def obsI (fa : List Fa) (fn : List DefD) (fb : List Fb) (fi : List DefI) (file : Str) (K : PySem.W.Frag) : AlI := (obsD fa fn K, (fb.all fun f => f.ok K) && fi.all fun d => d.ok K file, fi.map fun d => fnI K d.at_)
def valI (fn : List DefD) (fi : List DefI) : AlI := (valD fn, true, fi.map DefI.val)
def SaysI (fa : List Fa) (fn : List DefD) (fb : List Fb) (fi : List DefI) (file : Str) (K : PySem.W.Frag) : Prop := obsI fa fn fb fi file K = valI fn fi
/-- the objects that the module's names reach in n steps, and some more -/
def asI (g : Addr → Option Obj) (n : Nat) : List Addr := asD g n ++ [cStatics]
def obsIG (n : Nat) (fa : List Fa) (fn : List DefD) (fb : List Fb) (fi : List DefI) (file : Str) (g : Addr → Option Obj) : AlI := obsI fa fn fb fi file (frG g (asI g n))
def hookI (n : Nat) (fa : List Fa) (fn : List DefD) (fb : List Fb) (fi : List DefI) (file : Str) : PySem.W.Hook where
  α := AlI
  obs := fun s => obsIG n fa fn fb fi file s.heap.get?
  val := fun _ => valI fn fi
  says := fun _ h => ∃ K : PySem.W.Frag, K.In h ∧ SaysI fa fn fb fi file K
  of := fun _ _ e => ⟨_, frG_in, e⟩
  keeps := fun _ _ _ ⟨K, hK, c⟩ k => ⟨K, PySem.W.Frag.In.keeps hK k, c⟩
theorem obsIG_eq {n : Nat} {fa : List Fa} {fn : List DefD} {fb : List Fb} {fi : List DefI} {file : Str} {g : Addr → Option Obj} {s : Shared} (h : ∀ a, g a = s.heap.get? a) : obsIG n fa fn fb fi file g = (hookI n fa fn fb fi file).obs s := by
  have e : g = s.heap.get? := funext h
  rw [e] <;> rfl
section
variable {fa : List Fa} {fn : List DefD} {fb : List Fb} {fi : List DefI} {file : Str} {K : PySem.W.Frag}
theorem SaysI.d (c : SaysI fa fn fb fi file K) : SaysD fa fn K := congrArg (fun z : AlI => z.1) c
theorem SaysI.fb_ (c : SaysI fa fn fb fi file K) {f : Fb} (h : f ∈ fb) : f.ok K = true := by
  have e : ((fb.all fun f => f.ok K) && fi.all fun d => d.ok K file) = true := congrArg (fun z : AlI => z.2.1) c
  exact List.all_eq_true.mp (ba e).1 f h
theorem SaysI.fi_ (c : SaysI fa fn fb fi file K) (i : Nat) {d : DefI} (h : fi[i]? = some d) : d.ok K file = true ∧ fnI K d.at_ = d.val := by
  have e : ((fb.all fun f => f.ok K) && fi.all fun d => d.ok K file) = true := congrArg (fun z : AlI => z.2.1) c
  have e2 : fi.map (fun d => fnI K d.at_) = fi.map DefI.val := congrArg (fun z : AlI => z.2.2) c
  have e3 : (fi.map fun d => fnI K d.at_)[i]? = (fi.map DefI.val)[i]? := by rw [e2]
  rw [List.getElem?_map, List.getElem?_map, h] at e3
  exact ⟨List.all_eq_true.mp (ba e).2 d (List.mem_of_getElem? h), Option.some.inj e3⟩
end
end Y

/-! An own exception class whose __init__ begins with super().__init__('..'). -/
namespace Y
open PySem PySem.Spec L2
section
open PySem.W PySem.Calls
variable {prog : Program} {w : World} {A : Around} {E : Value → Shared → Prop} {h : Heap} {g : Array GenState} {d : Drawn} {t : Nat} {os : OsState}
variable {nm q : Str} {C N : Addr} {bs bm : List Value} {hdct : Bool} {sn : List Str} {sub : List Value} {ab : Bool} {col : Option Bool} {dd : Option Addr} {k0 k1 k2 k3 k5 : Option Value}
/-- the bound ValueError.__init__ called: the args are laid anew -/
theorem call_mw {u e t0 : Addr} {rest : List Value} {Q : Value → Shared → Prop}
    (hC : h.get? C = some (excClassObj nm q C N bs bm hdct sn sub ab col dd k0 k1 k2 k3 k5 "ValueError.__new__")) (he : h.get? e = some (HandSPX.excO C t0)) (hu : h.get? u = some (kxs_mw "ValueError.__init__" e)) (hrest : rest.length ≤ sizeLine)
    (hq : ∀ h' t1, (∀ b o, b ≠ e → h.get? b = some o → h'.get? b = some o) → h'.get? e = some (HandSPX.excO C t1) → Q .none ⟨h', g, d, t, os⟩) :
    wpAny (model prog w) A (call (.ref u) rest) Q E ⟨h, g, d, t, os⟩ := by
  refine wpAny_call (codeAny_of_tree ?_)
  show wpAny _ A.in1 (callAny (.ref u) ⟨rest, []⟩) _ _ _
  simp only [callAny]
  refine wpAny_bind (wpAny_load hu ?_)
  simp only [kxs_mw, show (Value.type "method-wrapper" == Value.type "method" || Value.type "method-wrapper" == Value.type "builtin_function_or_method" || Value.type "method-wrapper" == Value.type "method-wrapper") = true by decide, if_true]
  refine W.KFB.if_so (by decide) ?_
  refine wpAny_bind (ESX.check_bound F.excBase_ValueError hC he rfl ?_)
  refine wpAny_bind (wpAny_pure (wpAny_pure ?_))
  refine ⟨Code.quiet_builtin _ (by decide +kernel), codeAny_builtin F.excBase_ValueError.initEntry ?_⟩
  rw [Around.under_plainId F.excBase_ValueError.init.plain _]
  wp_walk
  refine hq _ h.objs.size (fun b o hb ho => ?_) ?_
  · rw [Heap.get?_update_other _ _ (Ne.symm hb)]
    exact Heap.get?_push_of_some _ ho
  · rw [Heap.get?_update_self _ (Heap.get?_push_of_some _ he) rfl]
    rfl
end
/-- the context of such an __init__ -/
def cxI (CX : CXT) (P : Program) (w : World) (K : PySem.W.Frag) (mg : Str → Option Value) (base : Heap) (N : List Str) (fd : FuncData) (f : Addr) (A : Around) (outer : List Env) (s : Shared) (H : Hp) (E : XK) : Cx where
  prog := P
  w := w
  K := K
  mg := mg
  base := base
  A := A.deeper (callEnv fd s.heap.objs.size f)
  N := N
  s_0 := s
  H_0 := H
  env := callEnv fd s.heap.objs.size f
  outer := outer
  stack := callEnv fd s.heap.objs.size f :: outer
  ex := []
  calm := true
  fn := fun _ => false
  pn := []
  xe := fun e s' => wpAny (model P w) (A.deeper (callEnv fd s.heap.objs.size f)) (leaving (callEnv fd s.heap.objs.size f) e) (fun _ s'' => CX outer H s E e s'') (fun e' s'' => CX outer H s E e' s'') s'
/-- what is asked of the scope of such an __init__ -/
structure IniScope (N ps : List Str) (sc : Scope) : Prop where
  kind : sc.kind = .function
  co : sc.isCoroutine = false
  gen : sc.isGenerator = false
  nd : N.Nodup
  pre : N.take ps.length = ps
  par : ∀ x ∈ ps, sc.names.lookup x = some .local
  nocell : ∀ y ∈ sc.names, y.2 ≠ .cell
  frees : ∀ y ∈ sc.names, y.2 = NameKind.free → y.1 = "__class__"
  sup : sc.names.lookup ("super" : Str) = some NameKind.globalImplicit
  cl : sc.names.lookup ("__class__" : Str) = some NameKind.free
abbrev iniFd (name qual : Str) (params : Arguments) (body : List Stmt) (scope : Scope) (dV kV doc pm : Value) (an : Option Addr) (cdv ct : Value) (cc : Addr) : FuncData := PySem.W.fnX name qual params body scope [(("__class__" : Str), cc)] dV kV doc pm an cdv ct
theorem look_nd {β : Type} {x : Str} {v : β} : ∀ {l : List (Str × β)}, (l.map (·.1)).Nodup → (x, v) ∈ l → l.lookup x = some v
  | [], _, h => absurd h (by simp)
  | (y, u) :: r, nd, h => by
    rw [List.map_cons, List.nodup_cons] at nd
    rcases List.mem_cons.mp h with e | h
    · cases e
      simp [List.lookup]
    · have ne : x ≠ y := fun e => nd.1 (by rw [← e]; exact List.mem_map_of_mem (f := (·.1)) h)
      have hb : (x == y) = false := by simpa using ne
      simp only [List.lookup, hb]
      exact look_nd nd.2 h
theorem mem_look {sc : Scope} {x : Str} {k : NameKind} (h : sc.names.lookup x = some k) : (x, k) ∈ sc.names := PySem.mem_of_lookup h
theorem ini_start {CX : CXT} {P : Program} {w : World} {K : PySem.W.Frag} {mg : Str → Option Value} {base : Heap} {N ps : List Str} {fd : FuncData} {f cc : Addr} {A : Around} {outer : List Env} {s : Shared} {h1 : Heap} {H : Hp} {E : XK} {us : List Value} {vs : List V} {ocell : Obj} {D : Addr} {tk : Nat}
    (S : IniScope N ps fd.scope) (hcl : fd.closure = [(("__class__" : Str), cc)]) (hgl : fd.globals = mainGlobals) (hbt : fd.builtins = builtinsNs) (hcc : K.lookup cc = some ocell) (hcd : ocell.data = .cell (some (.ref D)))
    (hd : A.handled = none) (e0 : Env0 P w K mg base A outer s H) (hl : vs.length = ps.length) (r : Vals vs us)
    (hns : h1.Ns s.heap.objs.size (fun x => (ps.zip us).reverse.lookup x)) (hk : ∀ b o, s.heap.get? b = some o → h1.get? b = some o) :
    Inv (cxI CX P w K mg base N fd f A outer s H E) [] (start N vs) H { s with heap := h1, toks := tk } := by
  have hpl : ps.length ≤ N.length := by have := congrArg List.length S.pre; rw [List.length_take] at this; omega
  have ecells : (callEnv fd s.heap.objs.size f).cells = [(("__class__" : Str), cc)] := by
    show fd.closure = _
    exact hcl
  have one : ∀ {x c}, (callEnv fd s.heap.objs.size f).cells.lookup x = some c → x = "__class__" ∧ c = cc := fun {x c} e => by
    rw [ecells] at e
    by_cases hx : x = "__class__"
    · subst hx
      simp at e
      exact ⟨rfl, e.symm⟩
    · have hb : (x == ("__class__" : Str)) = false := by simpa using hx
      simp [List.lookup, hb] at e
  have ccb : base.get? cc = some ocell := e0.mod.kin _ _ hcc
  have ccs : s.heap.get? cc = some ocell ∧ H cc = none := e0.bs _ _ ccb
  have isc : ∀ {hp : Heap}, hp.get? cc = some ocell → hp.IsCell cc (some (.ref D)) := fun {hp} e => ⟨ocell, e, hcd⟩
  have ksc : (callEnv fd s.heap.objs.size f).scope = fd.scope := rfl
  have ndP : ps.Nodup := by rw [← S.pre]; exact S.nd.sublist (List.take_sublist _ _)
  refine ⟨⟨e0.mod, S.kind, hgl, hbt, Nat.le_refl _, fun y z c a b => ?_, fun y hy => ?_, fun y c hf _ => ?_, fun _ => hd, Around.frames_deeper e0.frames, .inr ⟨rfl, rfl⟩, fun b z => ?_, e0.bs, e0.bsz, fun b _ _ z => ?_, fun b z => ?_, e0.funs, e0.frf⟩,
    rfl, e0.bare, Un.kept hk, ⟨_, hns, fun i y v a b c => ?_⟩, fun y c e => ?_, e0.hok.fresh (Nat.le_refl _), fun y c e => ?_, fun p hp => absurd (show p ∈ ([] : List (Addr × Obj)) from hp) (by simp), e0.hok.kept hk, ?_⟩
  · rw [(one a).1, (one b).1]
  · have hy : fd.scope.names.lookup y = some .cell ∨ fd.scope.names.lookup y = some .free := hy
    rcases hy with hy | hy
    · exact absurd rfl (S.nocell _ (mem_look hy))
    · have e := S.frees _ (mem_look hy) rfl
      have e' : y = "__class__" := e
      subst e'
      refine ⟨cc, ?_⟩
      show (callEnv fd s.heap.objs.size f).cells.lookup ("__class__" : Str) = some cc
      rw [ecells]
      rfl
  · exact absurd (show false = true from hf) Bool.false_ne_true
  · exact absurd (show b ∈ ([] : List Addr) from z) (by simp)
  · exact absurd (show b ∈ ([] : List Addr) from z) (by simp)
  · exact absurd (show b ∈ ([] : List Addr) from z) (by simp)
  · have hi : i < vs.length := by
      unfold L2.start at b
      by_cases hi : i < vs.length
      · exact hi
      · rw [List.getElem?_append_right (by simpa using hi)] at b
        rw [List.getElem?_replicate] at b
        split at b <;> cases b
    have ha : vs[i]? = some v := by
      unfold L2.start at b
      rw [List.getElem?_append_left (by simpa using hi), List.getElem?_map] at b
      cases e : vs[i]? with
      | none => rw [e] at b; cases b
      | some a => rw [e] at b; cases b; rfl
    obtain ⟨u, hu, rv⟩ := r.get ha
    have hp : ps[i]? = some y := by
      rw [← S.pre, List.getElem?_take_of_lt (by omega)]; exact a
    refine ⟨u, rv, .inl ⟨S.par y (List.mem_of_getElem? hp), ?_⟩⟩
    have hz : (ps.zip us)[i]? = some (y, u) := by
      rw [List.getElem?_zip_eq_some]
      exact ⟨hp, hu⟩
    have nd2 : ((ps.zip us).map (·.1)).Nodup := by
      rw [List.map_fst_zip (by rw [← r.length, hl]; exact Nat.le_refl _)]
      exact ndP
    show (ps.zip us).reverse.lookup y = some u
    rw [lookup_reverse_of_nodup _ nd2]
    exact look_nd nd2 (List.mem_of_getElem? hz)
  · rw [(one e).2]
    exact ⟨_, isc (hk _ _ ccs.1)⟩
  · rw [(one e).2]
    exact ccs.2
  · unfold L2.start
    show _ = N.length
    rw [List.length_append, List.length_map, List.length_replicate]
    omega
/-- super().__init__('m') as the first row, the exception standing at a -/
theorem ini_super {P : Program} {X : Cx} {a C D f cc cda : Addr} {σ : L2.St} {H : Hp} {s : Shared} {fd : FuncData} {ar : Arg} {vs : Array Value} {tf : Tok} {file : Str} {of oco : Obj} {rest : List Stmt} {m : Str} {j : Nat} {p0 p1 ap cp p2 sp : Pos} {body : List Stmt} {Q : Flow → Shared → Prop}
    (T : OexC X.K C) (I : Inv X [] σ H s) (e : H a = some (exo a C none)) (hD : D = C) (hprog : X.prog = P)
    (hks : X.env.kindOf "super" = some .globalImplicit) (hkc : X.env.kindOf "__class__" = some .free) (hcells : X.env.cells = [(("__class__" : Str), cc)]) (hfu : X.env.func = some f) (hf : X.K.lookup f = some of) (hfd : of.data = .func fd)
    (hp : (fd.params.posonlyargs ++ fd.params.args).head? = some ar) (hco : X.env.code = .ref cda) (hcc : X.K.lookup cda = some oco) (hoc : oco.data = .fields vs) (hvs : vs[2]? = some (.str file tf)) (hfile : (P.main.file == file) = true) (htop : (P.main.scope.names.lookup ("super" : Str)).isSome = false)
    (hcell : ∃ ol, X.K.lookup cc = some ol ∧ ol.data = .cell (some (.ref D))) (hsi : X.mg "super" = none)
    (hN : X.N[0]? = some ar.arg) (hσ : σ[0]? = some (some (.ref a))) (hloc : X.env.kindOf ar.arg = some .local) (hth : PySem.W.nsIn X.K cStatics "thirdparty.any" = some none)
    (hin : PySem.W.ks_superIn X.K C C "__init__" = some (some (.builtin "ValueError.__init__"))) (hsub : PySem.W.subIn X.K (.ref C) (.type "ValueError") = some true) (hmro : PySem.W.mroIn X.K C (.ref C) = some true) (hA : X.A.handled = none)
    (hst : swapsWith (.Call (.Attribute (.Call (.Name "super" p0) [] [] p1) "__init__" ap) [.Constant (.str m) j p2] [] cp) none sp.line X.env = pure false)
    (hev : ∃ pl : Sem Bool, eval (.Call (.Attribute (.Call (.Name "super" p0) [] [] p1) "__init__" ap) [.Constant (.str m) j p2] [] cp) X.env = (do
        let ov ← attributeBase (.Call (.Name "super" p0) [] [] p1) "__init__" X.env (eval (.Call (.Name "super" p0) [] [] p1) X.env)
        standAt ap.atName
        let (f, first) ← holding [ov] (getMethod ov "__init__" pl)
        callWith cp f first (backTo cp (starEach [.Constant (.str m) j p2] X.env)) []))
    (h : ∀ s', Inv X [] σ H s' → wpAny (model P X.w) X.A (execs rest X.env) Q X.xe s') :
    wpAt (model P X.w) X.A (.func body X.env) (execs (.Expr (.Call (.Attribute (.Call (.Name "super" p0) [] [] p1) "__init__" ap) [.Constant (.str m) j p2] [] cp) sp :: rest) X.env) Q X.xe s := by
  subst hD
  subst hprog
  obtain ⟨nm, q', N', bs, bm, sn, sub, ab, col, dd, k0, k1, k2, k3, k5, hC, hbm⟩ := id T.cls
  obtain ⟨t1, ho⟩ := exo_at I.hok e
  have hcl : PySem.W.clsIn X.K D = some { name := nm, bases := bs, mro := .ref D :: bm, ns := N', qualname := q', hasDict := true, slotNames := sn, subclasses := sub, abstract := ab, collection := col, hasDel := false } := by unfold PySem.W.clsIn; rw [hC] <;> rfl
  obtain ⟨ocl, hcl1, hcl2⟩ := hcell
  obtain ⟨pl, hev⟩ := hev
  have LI : PySem.W.InstAt s.heap a { cls := .ref D, data := .fields #[.ref t1, .none, .none, .none, .bool false, .none] } D none := ⟨ho, rfl, rfl, trivial⟩
  refine ks_wpAt_execs_cons ?_
  refine ks_wpAt_Expr_any ?_ I.quiet hst
  refine ks_wpAt_MethodCall (pl := pl) ?_ hev
  refine ks_wpAt_super_base (env := X.env) hks hkc (by decide) hfu (I.kIn _ _ hf) hfd hp hco (I.kIn _ _ hcc) hoc hvs hfile htop ?_
  obtain ⟨mb, hb1, hb2⟩ := I.mod.blt
  refine PySem.W.ks_loadName_global I.ok.kind hks (Calls.loadGlobal_builtin (by rw [I.ok.glob]; exact I.mod.glob.keeps I.bk) hsi (by rw [I.ok.blt]; exact hb1.keeps I.bk) ((hb2 "super" (by decide)).trans (by decide +kernel : bootBuiltins "super" = some (.type "super"))) ⟨rfl, ?_⟩)
  have hcc' : X.env.cells.lookup ("__class__" : Str) = some cc := by rw [hcells]; rfl
  refine wpAny_loadName_free I.ok.kind hkc hcc' ⟨_, I.kIn _ _ hcl1, hcl2⟩ ?_
  obtain ⟨mm, hn, hlk⟩ := id I.loc
  obtain ⟨u, ru, hl⟩ := hlk 0 ar.arg (.ref a) hN hσ (.inl hloc)
  obtain rfl : u = Value.ref a := ru
  have hv : mm ar.arg = some (.ref a) := by
    rcases hl with ⟨_, h⟩ | ⟨h, _⟩
    · exact h
    · rw [hloc] at h
      rcases h with h | h <;> cases h
  refine wpAny_loadName_local I.ok.kind hloc hn hv ?_
  have hCs := I.kIn _ _ hC
  refine ks_wpAny_isType_cls hCs rfl ⟨rfl, ?_⟩
  obtain ⟨hp0, g, d, t, os⟩ := s
  refine ks_wpAny_call_super hCs rfl ho rfl (fun c z => nomatch z) (PySem.W.looks_mroIn I.kIn hmro) fun h' hso k => ?_
  have I2 : Inv X [] σ H ⟨h', g, d, t, os⟩ := I.kept (t' := t) k
  have LM : PySem.W.Looks (model X.prog X.w) h' (mroOf (.ref D)) (.ref D :: bm) := fun A Q E s kk z => wpAny_bind ((PySem.W.looks_clsIn I2.kIn hcl) A _ E s kk (wpAny_pure z))
  have hin' : PySem.W.alongIn X.K "__init__" (((.ref D :: bm).dropWhile (· != .ref D)).drop 1) = some (some (.builtin "ValueError.__init__")) := by
    have z := hin
    unfold PySem.W.ks_superIn at z
    rw [hcl] at z
    exact z
  have LI2 : PySem.W.InstAt h' a { cls := .ref D, data := .fields #[.ref t1, .none, .none, .none, .bool false, .none] } D none := ⟨k _ _ ho, rfl, rfl, trivial⟩
  have hI2 : PySem.W.Looks (model X.prog X.w) h' (isInstance (.ref a) (.type "ValueError")) true := LI2.type.andThen (PySem.W.looks_subIn I2.kIn hsub)
  refine PySem.W.kxs_getMethod PySem.W.kxs_ValueError hso (PySem.W.looks_opaque I2.kIn hth) LM rfl I2.kIn hin' hI2 (PySem.W.ks_ne I2.kIn LI2 hcl) (by decide) ?_
  have I3 : Inv X [] σ H ⟨h'.push (PySem.W.kxs_mw "ValueError.__init__" a), g, d, t + 1, os⟩ := I2.kept (t' := t + 1) fun b o z => Heap.get?_push_of_some _ z
  have hu3 : (h'.push (PySem.W.kxs_mw "ValueError.__init__" a)).get? h'.objs.size = some (PySem.W.kxs_mw "ValueError.__init__" a) := Heap.get?_push_size _ rfl
  show wpAny _ _ (callWith cp (Value.ref h'.objs.size) [] (backTo cp (starEach [.Constant (.str m) j p2] X.env)) []) _ _ _
  have he : starEach [.Constant (.str m) j p2] X.env = (false, eval (.Constant (.str m) j p2) X.env) :: starEach [] X.env := by rfl
  have ha : PA X [.Constant (.str m) j p2] (tCons (tC (.str m)) tNil) := pa_cons pe_str pa_nil
  have I3p := I3.pinned (fp := [h'.objs.size]) (fun b hb => by
      have eb : b = h'.objs.size := by simpa using hb
      rw [eb]
      have z := I2.fpOk (b := h'.objs.size) (H' := H) (Nat.le_refl _) (I2.hok.fresh (Nat.le_refl _))
      exact z) (fun b hb => by
      have eb : b = h'.objs.size := by simpa using hb
      rw [eb]
      exact ⟨_, hu3, fun v z => nomatch z⟩)
  have hsp := ha.run cp _ _ σ H (fun vs H1 => vs = [V.str m] ∧ H = H1) I3p ⟨rfl, rfl⟩
  rw [he] at hsp ⊢
  refine PySem.W.kxs_callWith (i := "ValueError.__init__") (x := a) (by rfl) (Calls.evalArgs_plain ?_)
  refine thn hsp fun us s4 hh => ?_
  obtain ⟨vs4, H4, I4, r4, ev, eH⟩ := hh
  subst ev
  rw [← eH] at I4
  have hu4 : s4.heap.get? h'.objs.size = some (PySem.W.kxs_mw "ValueError.__init__" a) :=
    (I4.pin (h'.objs.size, PySem.W.kxs_mw "ValueError.__init__" a) (List.mem_append_right _ (List.mem_append_right _ (mem_pinsAt (fp := [h'.objs.size]) (by simp) hu3)))).1
  refine ⟨hu4, ?_⟩
  obtain ⟨t4, ho4⟩ := exo_at I4.hok e
  have I5 : Inv X [] σ H s4 := I4.pins_of fun p hp => by
    have hp' : p ∈ X.pn := by simpa using hp
    exact I4.pin p (List.mem_append_left _ hp')
  obtain ⟨hp4, g4, d4, tk4, os4⟩ := s4
  have hlen : us.length ≤ sizeLine := by
    rw [← Paired.length r4, sizeLine_eq]
    show 1 ≤ 16777216
    decide
  refine call_mw (I5.kIn _ _ hC) ho4 hu4 hlen fun h5 t5 k5 hx5 => ?_
  have J := I5.write (t' := tk4) (x := a) (e := a) (o := exo a D none) (by rw [e]; exact True.intro) (.inl rfl) k5 ⟨_, hx5⟩ (exo_ok hx5)
  have eu : upd H a (exo a D none) = H := by
    funext b
    by_cases hb : b = a
    · rw [hb, upd_same, e]
    · rw [upd_ne hb]
  rw [eu] at J
  exact wpAt_of_wpAny (h _ J)
/-- what the written part says of such an __init__ at f: C its class -/
structure IniF (P : Program) (K : PySem.W.Frag) (mg : Str → Option Value) (C f : Addr) (name qual : Str) (params : Arguments) (body : List Stmt) (scope : Scope) (fd : FuncData) : Prop where
  ex : ∃ (oc : Value) (od : Option Addr) (kV doc pm : Value) (an : Option Addr) (cda : Addr) (ct : Value) (osl : Array (Option Value)) (cc : Addr) (ocl oco : Obj) (vs : Array Value) (tf : Tok),
    fd = iniFd name qual params body scope .none kV doc pm an (.ref cda) ct cc ∧ K.lookup f = some ⟨oc, od, .func fd, osl⟩ ∧ PySem.W.codeIn K (.ref cda) qual = true ∧
      K.lookup cc = some ocl ∧ ocl.data = .cell (some (.ref C)) ∧ K.lookup cda = some oco ∧ oco.data = .fields vs ∧ vs[2]? = some (.str P.main.file tf)
  sup : mg "super" = none
  th : PySem.W.nsIn K cStatics "thirdparty.any" = some none
  inn : PySem.W.ks_superIn K C C "__init__" = some (some (.builtin "ValueError.__init__"))
  sub : PySem.W.subIn K (.ref C) (.type "ValueError") = some true
  mro : PySem.W.mroIn K C (.ref C) = some true
  init : PySem.W.findIn K (.ref C) "__init__" = some (some (.ref f))
  typ : PySem.W.typeIn K (.ref f) = some (.type "function")
  top : (P.main.scope.names.lookup ("super" : Str)).isSome = false
/-- a class's own __init__, its first row super().__init__('m') -/
theorem fn_ini {CX : CXT} {P : Program} {w : World} {K : PySem.W.Frag} {mg : Str → Option Value} {base : Heap} {k : Nat} {C f : Addr} {name qual : Str} {params : Arguments} {scope : Scope} {fd : FuncData} {N ps : List Str} {sp : Sp} {ar : Arg} {rest : List Stmt} {m : Str} {j : Nat} {p0 p1 ap cp p2 rp : Pos} {x : Str}
    (F : IniF P K mg C f name qual params (.Expr (.Call (.Attribute (.Call (.Name "super" p0) [] [] p1) "__init__" ap) [.Constant (.str m) j p2] [] cp) rp :: rest) scope fd) (T : OexC K C) (S : IniScope N ps scope)
    (hp : (params.posonlyargs ++ params.args).head? = some ar) (hN : N[0]? = some ar.arg) (hps : ar.arg ∈ ps)
    (hev : ∀ env : Env, ∃ pl : Sem Bool, eval (.Call (.Attribute (.Call (.Name "super" p0) [] [] p1) "__init__" ap) [.Constant (.str m) j p2] [] cp) env = (do
        let ov ← attributeBase (.Call (.Name "super" p0) [] [] p1) "__init__" env (eval (.Call (.Name "super" p0) [] [] p1) env)
        standAt ap.atName
        let (f, first) ← holding [ov] (getMethod ov "__init__" pl)
        callWith cp f first (backTo cp (starEach [.Constant (.str m) j p2] env)) []))
    (len : ∀ vs H Q E, sp vs H Q E → vs.length = ps.length) (hsp : ∀ vs H Q E, sp vs H Q E → ∃ a ws, vs = .ref a :: ws ∧ H a = some (exo a C none))
    (hbody : ∀ (A : Around) (outer : List Env) (s : Shared) (H : Hp) (vs : List V) (Q : VK) (E : XK), Room k (A.deeper (callEnv fd s.heap.objs.size f)) → sp vs H Q E →
      ∃ t, PSs (cxI CX P w K mg base N fd f A outer s H E) rest t ∧ t { nx := fun _ H' => Q .non H', rt := Q } (start N vs) H) :
    FnOk P w K mg base CX (k + 1) f fd ps sp := by
  obtain ⟨oc, od, kV, doc, pm, an, cda, ct, osl, cc, ocl, oco, vsc, tf, hfd, lk, hcd, hcl, hcld, hco, hcod, hvs⟩ := F.ex
  refine ⟨len, fun A outer s H args us vs Q E hr e0 hb r hq0 => ?_⟩
  have hl := len _ _ _ _ hq0
  obtain ⟨a, ws, ev, he⟩ := hsp _ _ _ _ hq0
  have KX : K.In s.heap := e0.mod.kin.keeps fun b o e => (e0.bs b o e).1
  have lim : s.heap.NoLimit := e0.mod.nolimit.keeps fun b o e => (e0.bs b o e).1
  subst hfd
  refine ks_codeAny_call_defAt hr.depth (KX _ _ lk) rfl lim (PySem.W.codeRec_of KX hcd) rfl hb S.nocell (fun y hy => S.par _ (List.of_mem_zip (show (y.1, y.2) ∈ ps.zip us from hy)).1) (fun h0 hns hk => ?_) S.co S.gen S.kind
  have I : Inv (cxI CX P w K mg base N (iniFd name qual params (.Expr (.Call (.Attribute (.Call (.Name "super" p0) [] [] p1) "__init__" ap) [.Constant (.str m) j p2] [] cp) rp :: rest) scope .none kV doc pm an (.ref cda) ct cc) f A outer s H E) [] (start N vs) H { s with heap := h0, toks := s.toks + (ps.zip us).length } :=
    ini_start S rfl rfl rfl hcl hcld hr.hd e0 hl r hns hk
  obtain ⟨t, ht, hq⟩ := hbody A outer s H vs Q E (hr.deeper _) hq0
  have h00 : (start N vs)[0]? = some (some (.ref a)) := by
    rw [ev]
    rfl
  refine wpAt_mono (ini_super (P := P) (X := cxI CX P w K mg base N (iniFd name qual params (.Expr (.Call (.Attribute (.Call (.Name "super" p0) [] [] p1) "__init__" ap) [.Constant (.str m) j p2] [] cp) rp :: rest) scope .none kV doc pm an (.ref cda) ct cc) f A outer s H E) T I he rfl rfl S.sup S.cl rfl rfl lk rfl hp rfl hco hcod hvs (by simp) F.top ⟨ocl, hcl, hcld⟩ F.sup hN h00 (S.par _ hps) F.th F.inn F.sub F.mro hr.hd rfl (hev _) fun s' J => ht.run [] s' (start N vs) H _ J hq) (fun fl s' hs => ?_) fun e s' hs => hs
  cases fl with
  | ret u =>
    obtain ⟨v, σ', H', J, rv, q⟩ := hs
    exact ⟨v, H', J.os, J.bare, J.base, J.hok, rv, q⟩
  | next =>
    obtain ⟨σ', H', J, q⟩ := hs
    exact ⟨V.non, H', J.os, J.bare, J.base, J.hok, rfl, q⟩
  | brk =>
    obtain ⟨_, _, _, q⟩ := hs
    exact False.elim q
  | cont =>
    obtain ⟨_, _, _, q⟩ := hs
    exact False.elim q
end Y

namespace Y
open PySem PySem.Spec L2 He
/-! ### an __init__ of the head's -/
theorem iniF_of {P : Program} {K : PySem.W.Frag} {h : Heap} {mg : Str → Option Value} {d : DefI} {file : Str} (hm : P.main.file = file) (ht : (P.main.scope.names.lookup ("super" : Str)).isSome = false) (hs : mg "super" = none) (c : d.ok K file = true) (e : fnI K d.at_ = d.val) :
    ∃ fd, IniF P K mg (ga K d.cls) (fAd K d.at_) d.name d.qual d.params d.body d.scope fd := by
  unfold DefI.ok at c
  obtain ⟨c1, c⟩ := ba c
  obtain ⟨c2, c⟩ := ba c
  obtain ⟨c3, c⟩ := ba c
  obtain ⟨c4, c⟩ := ba c
  obtain ⟨c5, c⟩ := ba c
  obtain ⟨c6, c⟩ := ba c
  obtain ⟨c7, c⟩ := ba c
  unfold fnI at e
  cases q : K.lookup (fAd K d.at_) with
  | none =>
    rw [q] at c
    cases c
  | some o =>
    obtain ⟨oc, od, dt, osl⟩ := o
    rw [q] at c e
    cases dt with
    | func fd =>
      obtain ⟨n1, n2, n3, n4, n5, n6, n7, n8, n9, n10, n11, n12, n13, n14, n15⟩ := fd
      have e2 : (some (n1, n2, n3, n4, n5, n6, n7.map (·.1), n15) : FnI) = (some (d.name, d.qual, d.params, FuncBody.stmts d.body, d.scope, mainGlobals, ["__class__"], builtinsNs) : FnI) := e
      simp only [Option.some.injEq, Prod.mk.injEq] at e2
      obtain ⟨h1, h2, h3, h4, h5, h6, h7, h8⟩ := e2
      subst h1 h2 h3 h4 h5 h6 h8
      have c8 : iniB K (ga K d.cls) _ d.qual file = true := c
      unfold iniB at c8
      obtain ⟨c13, c14⟩ := ba c8
      obtain ⟨c11, c10⟩ := ba c13
      obtain ⟨c12, c9⟩ := ba c11
      clear c8 c11 c13
      dsimp only at c12 c9 c10 c14
      cases n8 with
      | none => ?_
      | _ => cases c14
      cases n7 with
      | nil => cases c9
      | cons p r =>
        cases r with
        | cons p2 r2 => cases c9
        | nil =>
          obtain ⟨pn, cc⟩ := p
          have epn : pn = "__class__" := by
            have z : [pn] = [("__class__" : Str)] := h7
            exact List.head_eq_of_cons_eq z
          subst epn
          dsimp only at c9
          cases ql : K.lookup cc with
          | none =>
            rw [ql] at c9
            cases c9
          | some ol =>
            obtain ⟨lc, ld, ldt, lsl⟩ := ol
            rw [ql] at c9
            cases ldt with
            | cell v =>
              cases v with
              | none => cases c9
              | some v =>
                cases v with
                | ref D =>
                  have eD : D = ga K d.cls := of_decide_eq_true c9
                  subst eD
                  cases n13 with
                  | ref cda =>
                    dsimp only at c10
                    cases qc : K.lookup cda with
                    | none =>
                      rw [qc] at c10
                      cases c10
                    | some oo =>
                      obtain ⟨occ, ocd, ocdt, ocsl⟩ := oo
                      rw [qc] at c10
                      cases ocdt with
                      | fields vs =>
                        dsimp only at c10
                        obtain ⟨l⟩ := vs
                        match l, c10 with
                        | _ :: _ :: .str f tf :: rest, c10 =>
                          have ef : f = file := of_decide_eq_true c10
                          subst ef
                          refine ⟨_, ⟨oc, od, n9, n10, n11, n12, cda, n14, osl, cc, _, _, _, tf, rfl, q, c12, ql, rfl, qc, rfl, ?_⟩, hs, of_decide_eq_true c7, of_decide_eq_true c4, of_decide_eq_true c5, of_decide_eq_true c6, of_decide_eq_true c3, of_decide_eq_true c2, ht⟩
                          rw [hm]
                          rfl
                      | _ => cases c10
                  | _ => cases c10
                | _ => cases c9
            | _ => cases c9
    | _ => cases c
/-! ### raising an own exception with fields -/
/-- __init__ stores the arguments under the names fs, in order -/
def spIni (C : Addr) (fs : List Str) : Sp := fun vs H Q _ => ∃ (a : Addr) (ws : List V), vs = .ref a :: ws ∧ ws.length = fs.length ∧ H a = some (exo a C none) ∧
  ∀ dx, H dx = none → dx ≠ a → Q .non (upd (upd H dx (exd dx (fs.zip ws).reverse)) a (exo a C (some dx)))
/-- an own exception class, named x, ready to be raised -/
structure Rz (P : Program) (w : World) (K : PySem.W.Frag) (mg : Str → Option Value) (base : Heap) (x : Str) (C : Addr) (fs : List Str) : Prop where
  g : mg x = some (.ref C)
  o : OexC K C
  ex : ∃ (fI : Addr) (fd : FuncData) (ps : List Str), FnOk P w K mg base CX0 1 fI fd ps (spIni C fs) ∧ Binds K fd ps [] ∧ PySem.W.findIn K (.ref C) "__init__" = some (some (.ref fI)) ∧ PySem.W.typeIn K (.ref fI) = some (.type "function")
def tRz (C : Addr) (fs : List Str) (ta : TA) : L2.St → Hp → XK → Prop := fun σ H Q => ta σ H fun vs H1 => vs.length = fs.length ∧ vs.length ≤ 1000 ∧ ∀ d, H1 d = none → Q (.ref C) (some d) (upd H1 d (.xd (fs.zip vs).reverse))
def tMon (t : TA) : TA := fun σ H Q => ∃ Q0 : List V → Hp → Prop, t σ H Q0 ∧ ∀ vs H1, Q0 vs H1 → Q vs H1
theorem pa_mon {X : Cx} {es : List Expr} {t : TA} (h : PA X es t) : PA X es (tMon t) := by
  refine ⟨fun pos pins s σ H Q I q => ?_⟩
  obtain ⟨Q0, h0, k⟩ := q
  refine thn (h.run pos pins s σ H Q0 I h0) fun us s1 z => ?_
  obtain ⟨vs, H1, I1, r, q⟩ := z
  exact ⟨vs, H1, I1, r, k _ _ q⟩
theorem pmk_rz {X : Cx} {x : Str} {C : Addr} {fs : List Str} {e : Expr} {es : List Expr} {ta : TA} {p pos : Pos} (R : Rz X.prog X.w X.K X.mg X.base x C fs) (hr : Room 2 X.A) (hg : Gl X x) (ha : PA X (e :: es) ta)
    (hdb : (x == ("__debug__" : Str)) = false := by decide) (he : starEach (e :: es) X.env = (false, eval e X.env) :: starEach es X.env := by rfl) (hpl : (backTo pos (starEach es X.env)).any (·.1) = false := by rfl) :
    PMk X (.Call (.Name x p) (e :: es) [] pos) (tRz C fs ta) := by
  obtain ⟨fI, fd, ps, F1, hb, iC, tI⟩ := R.ex
  have key := pmk_oex (X := X) (p := p) (pos := pos) (dvs := []) (ds := []) R.o iC tI F1 hr hb .nil pass0 hg R.g (pa_mon ha) hdb he hpl
  intro pins s σ H Q I h
  refine key pins s σ H Q I ?_
  have h' : ta σ H fun vs H1 => vs.length = fs.length ∧ vs.length ≤ 1000 ∧ ∀ d, H1 d = none → Q (.ref C) (some d) (upd H1 d (.xd (fs.zip vs).reverse)) := h
  refine ⟨_, h', fun vs H1 z => ?_⟩
  obtain ⟨z1, z2, z3⟩ := z
  refine ⟨z2, fun a na => ?_⟩
  rw [List.append_nil]
  refine ⟨a, vs, rfl, z1, upd_same, fun dx nd ne => ⟨rfl, dx, (fs.zip vs).reverse, upd_same, ?_, ?_, ?_⟩⟩
  · rw [upd_ne ne, upd_same]
  · rw [upd_ne ne] at nd
    exact nd
  · have nd1 : H1 dx = none := by
      rw [upd_ne ne] at nd
      exact nd
    have q := z3 dx nd1
    have e : upd (del (upd (upd (upd H1 a (exo a C none)) dx (exd dx (fs.zip vs).reverse)) a (exo a C (some dx))) a) dx (.xd (fs.zip vs).reverse) = upd H1 dx (.xd (fs.zip vs).reverse) := by
      funext b
      by_cases h1 : b = dx
      · rw [h1, upd_same, upd_same]
      · rw [upd_ne h1, upd_ne h1]
        by_cases h2 : b = a
        · rw [h2, del_same, na]
        · rw [del_ne h2, upd_ne h2, upd_ne h1, upd_ne h2]
    rw [e]
    exact q
end Y

namespace Y
open PySem PySem.Spec L2 He
/-! ### isinstance of a caught error that may have fields -/
section
open PySem.W PySem.Calls
variable {prog : Program} {w : World} {A : Around} {E : Value → Shared → Prop} {s : Shared} {K : Frag} {x D : Addr} {ox : Obj} {od : Option Obj}
theorem find_dataD {C : Addr} {name : Str} {a g : Value} (hc : (clsIn K C).isSome = true) (ha : findIn K (.ref C) name = some (some a)) (hg : specialIn K a "__get__" = some (some g)) (ht : takesIn K a = some true) : findObj K C od name = some (.bind g a) := by
  obtain ⟨cd, hc⟩ := Option.isSome_iff_exists.mp hc
  unfold findObj
  rw [hc, Option.bind_some, ha, Option.bind_some]
  simp [hg, ht]
theorem kin_classD {Q : Option Value → Shared → Prop} (F : L2.ExcC K D) (X : K.In s.heap) (I : InstAt s.heap x ox D od) (h : Q (some (.ref D)) { s with toks := s.toks + 1 }) : wpAny (model prog w) A (getAttr? (.ref x) "__class__") Q E s := by
  obtain ⟨hga, hgt, hsub, hdct, ha, hn, htk, hm⟩ := F
  have hf : findObj K D od "__class__" = some (.bind (.builtin "getset_descriptor.__get__") (.builtin "object.__class__")) := find_dataD (by obtain ⟨cd, hc, _⟩ := any_some hdct; rw [hc]; rfl) ha hn htk
  obtain ⟨hp, g, d, t, os⟩ := s
  have W0 := I.type (M := model prog w)
  have W1 := looks_findIn (M := model prog w) X hga
  have W2 := looks_findIn (M := model prog w) X hgt
  have W3 := looks_find (M := model prog w) X I hf
  have sub : Looks (model prog w) hp (isInstance (.ref x) (.type "BaseException")) true := W0.andThen (looks_subIn X hsub)
  have hx0 : (false && onTheHeap (Value.builtin "BaseException.__getattribute__")) = false := rfl
  have hx2 : (Value.builtin "BaseException.__getattribute__" == Value.builtin "object.__getattribute__") = false := by decide +kernel
  have hx1 : (onTheHeap (Value.ref D) && Value.builtin "BaseException.__getattribute__" == Value.builtin "object.__getattribute__") = false := by rw [hx2]; rfl
  unfold getAttr? getAttrBy? getAttrBy
  refine wpAny_bind (wpAny_mkText (wpAny_bind (wpAny_attempt (wpAny_holding (wpAny_bind (W0.at (wpAny_bind (W1.at ?_))))))))
  show wpAny _ _ (if (onTheHeap (Value.ref D) && Value.builtin "BaseException.__getattribute__" == Value.builtin "object.__getattribute__") = true then _ else _) _ _ _
  rw [hx1, if_neg Bool.false_ne_true]
  unfold getAttrByItsOwn hookBefore
  refine wpAny_bind ?_
  rw [if_pos (show onTheHeap (Value.ref D) = true from rfl)]
  refine W2.at ?_
  refine wpAny_bind (wpAny_attempt (wpAny_holding ?_))
  unfold callGetattribute
  rw [hx0, if_neg Bool.false_ne_true]
  unfold boundAndCalled
  rw [PySem.F.excAttr_ValueError.ga.bind (.ref x)]
  refine wpAny_bind (wpAny_pure ?_)
  show wpAny _ _ (call (.builtin "BaseException.__getattribute__") [.ref x, .str "__class__" t]) _ _ _
  refine wpAny_call (codeAny_call_builtin PySem.F.excAttr_ValueError.ga.plain PySem.F.entry_bexc_ga ?_)
  refine @check_slot (model prog w) _ _ ⟨hp, g, d, t + 1, os⟩ "BaseException.__getattribute__" "BaseException" "__getattribute__" (.ref x) [.str "__class__" t] [] _ (by decide +kernel) (by decide +kernel) sub (PySem.F.args_bexc_ga (.ref x) (.str "__class__" t)) ?_
  unfold Builtin.«object.__getattribute__»
  refine wpAny_bind (wpAny_of_eq (a := ((Value.ref x : Value), [Value.str "__class__" t])) (by first | rfl | (simp only [slotArgs]; rfl)) ?_)
  refine wpAny_bind (wpAny_pure (wpAny_bind (W0.at (wpAny_bind (W3.at ?_)))))
  show wpAny _ _ (holding [Value.builtin "object.__class__"] (call (.builtin "getset_descriptor.__get__") [.builtin "object.__class__", .ref x, .ref D]) >>= ret) _ _ _
  refine wpAny_bind (wpAny_holding (wpAny_call (class_get (s := ⟨hp, g, d, t + 1, os⟩) (ox := ox) (od := od) X I hm ?_)))
  refine wpAny_pure ?_
  show wpAny _ _ (handedOut (.ref D)) _ _ _
  rw [handedOut_of (v := .ref D) rfl]
  first
    | exact wpAny_pure (wpAny_pure h)
    | exact wpAny_pure h
    | exact wpAny_pure (wpAny_bind (wpAny_pure (wpAny_pure h)))
theorem kitx_excD (F : L2.ExcC K D) : KitX K (.ref x) (.ref D) (fun h => ∃ od, InstAt h x ox D od) where
  ty := fun _ _ _ I => by
    obtain ⟨od, I⟩ := I
    exact I.type
  it := fun _ _ X _ => by
    obtain ⟨cdD, hcD, _⟩ := any_some F.hd
    unfold clsIn at hcD
    split at hcD
    · rename_i c' d' cd' sl' ho
      intro A' Q' E' s' k q
      unfold isType loadHead
      exact wpAny_bind (wpAny_loadPart (k _ _ (X _ _ ho)) (wpAny_pure q))
    · cases hcD
  ne := fun h tp dd its n sl X htp => by
    obtain ⟨cdD, hcD, _⟩ := any_some F.hd
    refine Bool.eq_false_iff.mpr fun q => ?_
    have e : D = tp := Value.ref.inj (beq_iff_eq.mp q)
    subst e
    unfold clsIn at hcD
    split at hcD
    · rename_i c' d' cd' sl' ho
      have z := (X _ _ ho).symm.trans htp
      cases z
    · cases hcD
  ca := fun X I k => by
    obtain ⟨od, I⟩ := I
    exact kin_classD F X I k
end
/-- the dict that a caught error has, if any, stands -/
def DOk (H : Hp) (d : Option Addr) : Prop := match d with
  | none => True
  | some dd => ∃ fs, H dd = some (.xd fs)
/-- isinstance(e, c): e the exception that the suite holds, of the class cls -/
def rIsX (K : PySem.W.Frag) (a : Addr) (cls : Value) (d : Option Addr) : List V → Hp → VK → Prop := fun xs H Q => ∃ (D : Addr) (c : V) (cv : Value) (b : Bool), cls = .ref D ∧ ExcC K D ∧ xs = [.ref a, c] ∧ ClsV c cv ∧ PySem.W.kitOne K (.ref D) cv = some b ∧ DOk H d ∧ Q (.bl b) H
theorem inst_of {X : Cx} {a D : Addr} {oe : Obj} {d : Option Addr} {pn pins : List (Addr × Obj)} {σ : L2.St} {H : Hp} {s : Shared} (I : Inv (X.suite a ((a, oe) :: pn)) pins σ H s) (hz : Zc (.ref D) d oe) (hf : ∃ vs, oe.data = .fields vs) (hd : DOk H d) : ∃ od, PySem.W.InstAt s.heap a oe D od := by
  obtain ⟨hget, _⟩ := I.pin (a, oe) (List.mem_append.mpr (.inl List.mem_cons_self))
  obtain ⟨vs, hv⟩ := hf
  obtain ⟨oc, odd, oda, osl⟩ := oe
  obtain ⟨h1, h2⟩ := hz
  dsimp only at h1 h2 hv
  subst h1 h2 hv
  cases odd with
  | none => exact ⟨none, hget, rfl, rfl, trivial⟩
  | some dd =>
    obtain ⟨fs, hfs⟩ := hd
    obtain ⟨mA, ⟨o, es, ep, ho, _⟩, _⟩ := (show ObjOk X.prog X.w H s.heap dd (.xd fs) from I.hok dd _ hfs)
    exact ⟨some o, hget, rfl, rfl, ho⟩
theorem call_isX {X : Cx} {a : Addr} {oe : Obj} {cls : Value} {d : Option Addr} {pn : List (Addr × Obj)} (hz : Zc cls d oe) (hf : ∃ vs, oe.data = .fields vs) : CallR (X.suite a ((a, oe) :: pn)) (.builtin "isinstance") (rIsX X.K a cls d) := by
  intro pins s σ H xs us Q I r h
  obtain ⟨D, c, cv, b, ec, C, rfl, hcv, e, hd, q⟩ := h
  subst ec
  obtain ⟨u1, u2, rfl, r1, r2⟩ := vals2 r
  have e2 := hcv.eq r2
  subst e2
  cases (show u1 = Value.ref a from r1)
  exact PySem.W.kia_one (kitx_excD (ox := oe) C) I.kIn (inst_of I hz hf hd) e (fun z => nomatch z) fun tk => ⟨.bl b, H, I.kept (t' := tk) fun _ _ z => z, rfl, q⟩
/-- isinstance(e, (c1, c2, ..)) -/
def rIsXT (K : PySem.W.Frag) (a : Addr) (cls : Value) (d : Option Addr) : List V → Hp → VK → Prop := fun xs H Q => ∃ (D tp : Addr) (cs : List V) (us : List Value) (b : Bool), cls = .ref D ∧ ExcC K D ∧ xs = [.ref a, .ref tp] ∧ H tp = some (.tup cs) ∧ Paired ClsV cs us ∧ PySem.W.kitAny K (.ref D) us = some b ∧ DOk H d ∧ Q (.bl b) H
theorem call_isXT {X : Cx} {a : Addr} {oe : Obj} {cls : Value} {d : Option Addr} {pn : List (Addr × Obj)} (hz : Zc cls d oe) (hf : ∃ vs, oe.data = .fields vs) : CallR (X.suite a ((a, oe) :: pn)) (.builtin "isinstance") (rIsXT X.K a cls d) := by
  intro pins s σ H xs us Q I r h
  obtain ⟨D, tp, cs, ws, b, ec, C, rfl, hT, k, e, hd, q⟩ := h
  subst ec
  obtain ⟨u1, u2, rfl, r1, r2⟩ := vals2 r
  cases (show u1 = Value.ref a from r1)
  cases (show u2 = Value.ref tp from r2)
  obtain ⟨_, its, rv, o, h1, h2, n, h3⟩ := (show ObjOk X.prog X.w H s.heap tp (.tup cs) from I.hok tp _ hT)
  have e3 := ClsV.all k rv
  subst e3
  obtain ⟨oc, od, dt, sl⟩ := o
  simp only at h2 h3
  subst h2 h3
  exact PySem.W.kia_tup (kitx_excD (ox := oe) C) I.kIn (inst_of I hz hf hd) h1 e (fun z => nomatch z) fun tk => ⟨.bl b, H, I.kept (t' := tk) fun _ _ z => z, rfl, q⟩
end Y

namespace Y
open PySem PySem.Spec L2 He
/-! ### enumerate of a tuple, of a text -/
/-- the pairs (number, item), each in a new tuple: item i of what is walked is told by It0 i H x; n items -/
theorem turn_enumD {P : Program} {w : World} {K : PySem.W.Frag} {elts : List Expr} {kk : Nat} {tpos : Pos} (e it : Addr) (J : It) (Si : Nat → Heap → Prop)
    (Sobj : ∀ i h, Si i h → ∃ o, h.get? it = some o ∧ ∀ v, o.data ≠ .cell v) (Skeep : ∀ i h h', Si i h → (∀ o, h.get? it = some o → h'.get? it = some o) → Si i h')
    (Dr : ∀ (X : Cx), X.prog = P → X.w = w → X.K = K → X.calm = true → ∀ (i : Nat) (pins : List (Addr × Obj)) (s : Shared) (σ : L2.St) (H : Hp), Inv X pins σ H s → Si i s.heap → (J.go i H ∨ J.stop i H) →
      ∃ (fp : List Addr) (n : Nat) (Pv : Nat → Value → Prop) (S2 : Nat → Heap → Prop), Draws P w X.A.in1 it fp n Pv S2 ∧ S2 i s.heap ∧ (∀ j h, S2 j h → Si j h) ∧ (s.heap.get? e = some { cls := .type "enumerate", data := .fields #[.none, .bool false, .ref it, rawInt 0, .none, .none] } → True) ∧
        (∀ b ∈ fp, b = it ∨ ∃ o, s.heap.get? b = some o ∧ o.cls = .type "tuple") ∧ (J.stop i H → i = n) ∧ (J.go i H → i < n ∧ ∀ u, Pv i u → ∃ x, RelV x u ∧ ∀ T, H T = none → J.yld i H (.ref T) (upd H T (.tup [.int (i : Nat), x])))) :
    Turn P w K (.Tuple elts kk tpos) J [e, it] e (fun i h => (∃ old, IsEnum h e it ((i : Nat) : Int) old) ∧ Si i h ∧ e ≠ it) where
  mem := by simp
  obj := fun i h st b hb => by
    obtain ⟨⟨old, he⟩, hs, _⟩ := st
    have e' : b = e ∨ b = it := by simpa using hb
    rcases e' with z | z
    · rw [z]; exact ⟨_, he, fun v q => nomatch q⟩
    · rw [z]; exact Sobj i h hs
  keep := fun i h h' st k => by
    obtain ⟨⟨old, he⟩, hs, hne⟩ := st
    exact ⟨⟨old, k e (by simp) _ he⟩, Skeep i h h' hs fun o q => k it (by simp) o q, hne⟩
  item := by
    intro X hP hw hK hc i pins s σ H E I hf st hg
    obtain ⟨⟨old, he⟩, hs, hne⟩ := st
    obtain ⟨fp, n, Pv, S2, D, s2, up, _, hfp, _, hgo⟩ := Dr X hP hw hK hc i pins s σ H I hs (.inl hg)
    subst hP hw hK
    obtain ⟨hlt, hv⟩ := hgo hg
    have hel : e < s.heap.objs.size := Heap.lt_size he
    obtain ⟨oit, hoit, _⟩ := Sobj i _ hs
    have hil : it < s.heap.objs.size := Heap.lt_size hoit
    have hef : e ∉ fp := fun hm => by
      rcases hfp e hm with z | ⟨o, ho, hc⟩
      · exact hne z
      · have z := ho.symm.trans he
        injection z with z
        rw [z] at hc
        exact absurd (show Value.type "enumerate" = Value.type "tuple" from hc) (by decide)
    refine wpAny_pyNext_enum_itemD D he s2 hlt hne hef fun u h' tk hP ho hit' hT hsz hk => ?_
    obtain ⟨x, ru, hy⟩ := hv u hP
    refine ⟨_, rfl, wpAny_letOwnedTupleGo_enum (s := { s with heap := h', toks := tk + 1 }) ho fun h'' he' sb => ?_⟩
    have hT2 : h''.get? s.heap.objs.size = some { cls := .type "tuple", data := .seq #[.int i tk, u] } := (sb.2 _ (Nat.ne_of_gt hel)).trans hT
    have new : ObjOk X.prog X.w (upd H s.heap.objs.size (.tup [.int (i : Nat), x])) h'' s.heap.objs.size (.tup [.int (i : Nat), x]) :=
      ⟨by show 2 ≤ sizeLine; decide, [.int i tk, u], .cons ⟨_, rfl⟩ (.cons ru .nil), ⟨_, hT2, rfl, _, rfl⟩⟩
    have I1 : Inv X pins σ (upd H s.heap.objs.size (.tup [.int (i : Nat), x])) { s with heap := h'', toks := tk + 1 } :=
      I.turnedNew (ch := [e, it]) (fun b ob hb q => (sb.2 b (fun z => hb (by simp [z]))).trans (hk b ob (fun z => hb (by simp [z])) (fun z => hb (by simp [z])) q)) hf (Nat.le_refl _) new
    refine ⟨.ref s.heap.objs.size, _, I1, rfl, hy _ (I.hok.fresh (Nat.le_refl _)), ⟨⟨u, ?_⟩, Skeep _ _ _ (up _ _ hit') fun o q => (sb.2 it (Ne.symm hne)).trans q, hne⟩, fun b hb => ?_⟩
    · have e1 : ((i + 1 : Nat) : Int) = (i : Int) + 1 := by omega
      rw [e1]; exact he'
    · have hb' : b < s.heap.objs.size := by
        have e' : b = e ∨ b = it := by simpa using hb
        rcases e' with z | z
        · rw [z]; exact hel
        · rw [z]; exact hil
      rw [upd_ne (Nat.ne_of_lt hb')]
      exact (hf b hb).1
  done := by
    intro X hP hw hK hc i pins s σ H E I hf st hg
    obtain ⟨⟨old, he⟩, hs, hne⟩ := st
    obtain ⟨fp, n, Pv, S2, D, s2, up, _, hfp, hstop, _⟩ := Dr X hP hw hK hc i pins s σ H I hs (.inr hg)
    subst hP hw hK
    have en := hstop hg
    subst en
    obtain ⟨f0, f1, f2, f3, f4, f5⟩ := hf it (by simp)
    exact wpAny_pyNext_enum_endD D he s2 fun h' eb => ⟨rfl, I.turned (t' := s.toks) (fun b o hb q => eb b o hb q) f0 f1 f3 f4 f5⟩
  self := fun A i s Q E st h => let ⟨⟨_, he⟩, _⟩ := st; wpAny_pyIter_enum he h
/-- the tuple at a, its items in new pairs -/
def Ity (K : PySem.W.Frag) (a : Addr) : It :=
  ⟨fun i H => ∃ (xs : List V) (x : V), SqT K H a xs ∧ xs[i]? = some x, fun i H v H' => ∃ T x, v = .ref T ∧ H T = none ∧ H' = upd H T (.tup [.int (i : Nat), x]) ∧ ∀ xs, SqT K H a xs → xs[i]? = some x, fun i H => ∃ xs : List V, SqT K H a xs ∧ xs.length = i⟩
theorem turn_enumT {P : Program} {w : World} {K : PySem.W.Frag} {elts : List Expr} {kk : Nat} {tpos : Pos} (a e it : Addr) :
    Turn P w K (.Tuple elts kk tpos) (Ity K a) [e, it] e (fun i h => (∃ old, IsEnum h e it ((i : Nat) : Int) old) ∧ h.IsTupleIter it a i ∧ e ≠ it) := by
  refine turn_enumD e it (Ity K a) (fun i h => h.IsTupleIter it a i) (fun i h st => ?_) (fun i h h' st k => st.at k) (fun X hP hw hK hc i pins s σ H I st hg => ?_)
  · obtain ⟨o, e, c, d⟩ := st
    exact ⟨o, e, fun v z => by rw [d] at z; cases z⟩
  · subst hP hw hK
    obtain ⟨xs, hq⟩ : ∃ xs, SqT X.K H a xs := by
      rcases hg with ⟨xs, _, hq, _⟩ | ⟨xs, hq, _⟩ <;> exact ⟨xs, hq⟩
    obtain ⟨its, rv, p, hz⟩ := I.tuple hq
    have pt : s.heap.IsTuple a its.toArray := p
    have hne : a ≠ it := fun z => by
      obtain ⟨o, e1, c1, _⟩ := pt
      obtain ⟨o2, e2, c2, _⟩ := st
      rw [z] at e1
      have ee := e1.symm.trans e2
      injection ee with ee
      rw [ee, c2] at c1
      exact absurd c1 (by decide)
    have hl := rv.length
    refine ⟨[it, a], its.toArray.size, _, _, Draws.tuple (A := X.A.in1) (show X.A.in1.handled = none from I.ok.hd hc) it a hne its.toArray, ⟨st, pt⟩, fun j h z => z.1, fun _ => trivial, fun b hb => ?_, ?_, ?_⟩
    · have e' : b = it ∨ b = a := by simpa using hb
      rcases e' with z | z
      · exact .inl z
      · obtain ⟨o, e1, c1, _⟩ := pt
        exact .inr ⟨o, by rw [z]; exact e1, c1⟩
    · rintro ⟨ys, hy, e1⟩
      rw [← e1, I.tuple_inj hy hq, hl]
      simp
    · rintro ⟨ys, x, hy, hx⟩
      rw [I.tuple_inj hy hq] at hx
      obtain ⟨u, hu, ru⟩ := rv.get hx
      refine ⟨by
        have := (List.getElem?_eq_some_iff.mp hu).1
        simpa using this, fun u' hu' => ⟨x, ?_, fun T hT => ⟨T, x, rfl, hT, rfl, fun zs hzs => by rw [I.tuple_inj hzs hq]; exact hx⟩⟩⟩
      have e1 : its[i]? = some u' := by simpa using hu'
      rw [hu] at e1
      cases e1
      exact ru
def iEnumT (K : PySem.W.Frag) (ta : TA) : TI := fun σ H R => ta σ H fun vs H1 => ∃ a xs, vs = [.ref a] ∧ SqT K H1 a xs ∧ R (Ity K a) H1
/-- the signs of the text x in new pairs -/
def Itx (x : Str) : It :=
  ⟨fun i _ => i < x.cps.size, fun i H v H' => ∃ T c, v = .ref T ∧ H T = none ∧ H' = upd H T (.tup [.int (i : Nat), .str ⟨#[c]⟩]) ∧ x.cps[i]? = some c, fun i _ => i = x.cps.size⟩
theorem turn_enumS {P : Program} {w : World} {K : PySem.W.Frag} {elts : List Expr} {kk : Nat} {tpos : Pos} (x : Str) (t : Tok) (e it : Addr) :
    Turn P w K (.Tuple elts kk tpos) (Itx x) [e, it] e (fun i h => (∃ old, IsEnum h e it ((i : Nat) : Int) old) ∧ h.IsStrIter it (strIterType x) x t i ∧ e ≠ it) := by
  refine turn_enumD e it (Itx x) (fun i h => h.IsStrIter it (strIterType x) x t i) (fun i h st => ?_) (fun i h h' st k => ?_) (fun X hP hw hK hc i pins s σ H I st hg => ?_)
  · obtain ⟨o, e, c, d⟩ := st
    exact ⟨o, e, fun v z => by rw [d] at z; cases z⟩
  · obtain ⟨o, ho, r⟩ := st
    exact ⟨o, k o ho, r⟩
  · subst hP hw hK
    refine ⟨[it], x.cps.size, _, _, Draws.text (A := X.A.in1) (show X.A.in1.handled = none from I.ok.hd hc) it x t, st, fun j h z => z, fun _ => trivial, fun b hb => .inl (by simpa using hb), fun h => h, fun h => ⟨h, fun u hu => ?_⟩⟩
    obtain ⟨c, u', hc', rfl⟩ := hu
    exact ⟨.str ⟨#[c]⟩, ⟨u', rfl⟩, fun T hT => ⟨T, c, rfl, hT, rfl, hc'⟩⟩
def iEnumS (ta : TA) : TI := fun σ H R => ta σ H fun vs H1 => ∃ x, vs = [.str x] ∧ R (Itx x) H1
section
variable {prog : Program} {w : World} {A : Around} {E : Value → Shared → Prop} {s : Shared}
theorem meets_enumT (l : Addr) (items : Array Value) : Meets (Builtin.«enumerate.__new__» ⟨[.type "enumerate", .ref l], []⟩) (fun _ R s => s.heap.IsTuple l items ∧
      R (.ok (.ret (.ref (s.heap.push { cls := .type "tuple_iterator", data := .fields #[.ref l, .int 0 0] }).objs.size)))
        { s with heap := (s.heap.push { cls := .type "tuple_iterator", data := .fields #[.ref l, .int 0 0] }).push { cls := .type "enumerate", data := .fields #[.none, .bool false, .ref s.heap.objs.size, rawInt 0, .none, .none] } }) :=
  .of_wp fun prog w A R s h => by
    obtain ⟨hp, g, d, tk, os⟩ := s
    obtain ⟨hl, h⟩ := h
    have hsub := sub_enumerate
    wp_walk using wpAny_pyIter_tuple hl
    refine wpAny_stack_any fun st => wpAny_pure ?_
    split
    · rename_i c _ _ _ _ _
      cases (c == Value.type "enumerate")
      · wp_walk using wpAny_pyIter_tuple hl
        exact ⟨_, rfl, h⟩
      · wp_walk using wpAny_pyIter_tuple hl
        exact ⟨_, rfl, h⟩
    · wp_walk using wpAny_pyIter_tuple hl
      exact ⟨_, rfl, h⟩
end
section
variable {prog : Program} {w : World} {A : Around} {E : Value → Shared → Prop} {s : Shared}
theorem call_enumT {l : Addr} {items : Array Value} {Q : Value → Shared → Prop} (hL : s.heap.IsTuple l items)
    (h : ∀ h', IsEnum h' (s.heap.objs.size + 1) s.heap.objs.size 0 .none → h'.IsTupleIter s.heap.objs.size l 0 →
      (∀ b o, s.heap.get? b = some o → h'.get? b = some o) → Q (.ref (s.heap.objs.size + 1)) { s with heap := h' }) :
    wpAny (model prog w) A (call (.type "enumerate") [.ref l]) Q E s := by
  refine callType_new F.called_enumerate (by decide) (F.typeCall_enumerate_1 _) (F.newCall_enumerate_1 _) (fun obj => F.args_object_init_2 obj _) F.entry_enumerate_new (meets_enumT l items) ⟨hL, ?_⟩
  have hz : (s.heap.push { cls := .type "tuple_iterator", data := .fields #[.ref l, .int 0 0] }).objs.size = s.heap.objs.size + 1 := Heap.size_push ..
  show _ ∧ _
  rw [hz]
  have he : IsEnum ((s.heap.push { cls := .type "tuple_iterator", data := .fields #[.ref l, .int 0 0] }).push
      { cls := .type "enumerate", data := .fields #[.none, .bool false, .ref s.heap.objs.size, rawInt 0, .none, .none] }) (s.heap.objs.size + 1) s.heap.objs.size 0 .none := by
    have := Heap.get?_push_size (s.heap.push { cls := .type "tuple_iterator", data := .fields #[.ref l, .int 0 0] })
      (o := { cls := .type "enumerate", data := .fields #[.none, .bool false, .ref s.heap.objs.size, rawInt 0, .none, .none] }) rfl
    rw [hz] at this; exact this
  exact ⟨⟨_, he, rfl⟩, h _ he ⟨_, Heap.get?_push_of_some _ (Heap.get?_push_size _ rfl), rfl, rfl⟩ fun b o x => Heap.get?_push_of_some _ (Heap.get?_push_of_some _ x)⟩
end
theorem pi_enumT {X : Cx} {e : Expr} {ta : TA} {p pos tpos : Pos} {elts : List Expr} {kk : Nat} (hg : Gl X "enumerate") (hm : X.mg "enumerate" = none) (ha : PA X [e] ta) (hs : starEach [e] X.env = [(false, eval e X.env)] := by rfl) :
    PI X (.Tuple elts kk tpos) (.Call (.Name "enumerate" p) [e] [] pos) (iEnumT X.K ta) := by
  refine ⟨fun pins s σ H R I h => ?_⟩
  refine PyProof.Rows.Call_ (ld_blt I hg hm PyProof.Rows.boot_enumerate (PyProof.Rows.callWith_type1 (thn (ha.run pos pins s σ H _ I h) fun us s1 hh => ?_) hs rfl))
  obtain ⟨vs, H1, I1, r1, a, xs, ex, hq, q⟩ := hh
  subst ex
  cases r1 with
  | cons r rr =>
    cases rr
    cases r
    obtain ⟨its, rv, p', hz⟩ := I1.tuple hq
    refine call_enumT (show s1.heap.IsTuple a its.toArray from p') fun h' he hit hk => wpAny_pyIter_enum he ?_
    have I2 : Inv X pins σ H1 { s1 with heap := h' } := I1.kept (t' := s1.toks) hk
    refine ⟨s1.heap.objs.size + 1, [s1.heap.objs.size + 1, s1.heap.objs.size], _, _, H1, rfl, I2, turn_enumT a (s1.heap.objs.size + 1) s1.heap.objs.size, ⟨⟨.none, he⟩, hit, Nat.succ_ne_self _⟩, fun b hb => ?_, q⟩
    have e' : b = s1.heap.objs.size + 1 ∨ b = s1.heap.objs.size := by simpa using hb
    have hle : s1.heap.objs.size ≤ b := by
      rcases e' with z | z
      · rw [z]; exact Nat.le_add_right _ _
      · rw [z]; exact Nat.le_refl _
    exact I1.fpOk hle (I1.hok.fresh hle)
theorem pi_enumS {X : Cx} {e : Expr} {ta : TA} {p pos tpos : Pos} {elts : List Expr} {kk : Nat} (hg : Gl X "enumerate") (hm : X.mg "enumerate" = none) (ha : PA X [e] ta) (hs : starEach [e] X.env = [(false, eval e X.env)] := by rfl) :
    PI X (.Tuple elts kk tpos) (.Call (.Name "enumerate" p) [e] [] pos) (iEnumS ta) := by
  refine ⟨fun pins s σ H R I h => ?_⟩
  refine PyProof.Rows.Call_ (ld_blt I hg hm PyProof.Rows.boot_enumerate (PyProof.Rows.callWith_type1 (thn (ha.run pos pins s σ H _ I h) fun us s1 hh => ?_) hs rfl))
  obtain ⟨vs, H1, I1, r1, x, ex, q⟩ := hh
  subst ex
  cases r1 with
  | cons r rr =>
    cases rr
    obtain ⟨t, rfl⟩ := r
    refine call_enumerate_str fun h' he hit hsz hk => wpAny_pyIter_enum he ?_
    have I2 : Inv X pins σ H1 { s1 with heap := h' } := I1.kept (t' := s1.toks) hk
    refine ⟨s1.heap.objs.size + 1, [s1.heap.objs.size + 1, s1.heap.objs.size], _, _, H1, rfl, I2, turn_enumS x t (s1.heap.objs.size + 1) s1.heap.objs.size, ⟨⟨.none, he⟩, hit, Nat.succ_ne_self _⟩, fun b hb => ?_, q⟩
    have e' : b = s1.heap.objs.size + 1 ∨ b = s1.heap.objs.size := by simpa using hb
    have hle : s1.heap.objs.size ≤ b := by
      rcases e' with z | z
      · rw [z]; exact Nat.le_add_right _ _
      · rw [z]; exact Nat.le_refl _
    exact I1.fpOk hle (I1.hok.fresh hle)
end Y

namespace Y
open PySem PySem.Spec L2 He
/-! ### calls of defs, of classes -/
section
variable {X : Cx} {x : Str} {v : V} {pos : Pos}
theorem pe_gI {i : Int} (hg : Gl X x) (hm : ∃ t, X.mg x = some (.int i t)) (hd : (x == ("__debug__" : Str)) = false := by decide) : PE X (.Name x pos) (tC (.int i)) := by
  obtain ⟨t, h⟩ := hm
  exact pe_glob hg h ⟨t, rfl⟩ hd
theorem pe_gS {z : Str} (hg : Gl X x) (hm : ∃ t, X.mg x = some (.str z t)) (hd : (x == ("__debug__" : Str)) = false := by decide) : PE X (.Name x pos) (tC (.str z)) := by
  obtain ⟨t, h⟩ := hm
  exact pe_glob hg h ⟨t, rfl⟩ hd
end
/-- the def named x keeps the promise sp, at level k -/
def Has (P : Program) (w : World) (K : PySem.W.Frag) (mg : Str → Option Value) (base : Heap) (k : Nat) (x : Str) (sp : Sp) : Prop :=
  ∃ (f : Addr) (fd : FuncData) (ps : List Str), mg x = some (.ref f) ∧ PySem.W.keepIn K (.ref f) = true ∧ Binds K fd ps [] ∧ FnOk P w K mg base (L2.CX P w) k f fd ps sp
theorem pe_has {X : Cx} {W : WX} {k : Nat} {x : Str} {sp : Sp} {e : Expr} {es : List Expr} {t : TA} {p pos : Pos} (G : Has X.prog X.w X.K X.mg X.base k x sp) (hr : Room k X.A) (tk : Takes X W) (hg : Gl X x) (ha : PA X (e :: es) t)
    (hdb : (x == ("__debug__" : Str)) = false := by decide) (he : starEach (e :: es) X.env = (false, eval e X.env) :: starEach es X.env := by rfl) (hpl : (backTo pos (starEach es X.env)).any (·.1) = false := by rfl) :
    PE X (.Call (.Name x p) (e :: es) [] pos) (tCallS sp (WE W) t) := by
  obtain ⟨f, fd, ps, h1, h2, h3, h4⟩ := G
  exact pe_callS h4 hr hg h1 h2 h3 (fun σ => passAt tk σ) ha hdb he hpl
/-- no exception leaves a call -/
theorem passA {X : Cx} : Passes (L2.CX X.prog X.w) X E0 := fun pins σ H s e s' I c => by
  obtain ⟨_, _, _, _, _, _, _, _, _, _, _, _, z⟩ := c
  exact z.elim
/-- the class named x, at C, is made by an __init__ that keeps sp (nothing is let out) -/
def HasC (P : Program) (w : World) (K : PySem.W.Frag) (mg : Str → Option Value) (base : Heap) (k : Nat) (x : Str) (C : Addr) (sp : Sp) : Prop :=
  ∃ (f : Addr) (fd : FuncData) (ps : List Str), mg x = some (.ref C) ∧ Mk K C f ∧ Binds K fd ps [] ∧ FnOk P w K mg base (L2.CX P w) k f fd ps sp
theorem pe_mk' {X : Cx} {k : Nat} {x : Str} {C : Addr} {sp : Sp} {e : Expr} {es : List Expr} {t : TA} {p pos : Pos} (G : HasC X.prog X.w X.K X.mg X.base k x C sp) (hr : Room (k + 1) X.A) (hg : Gl X x) (ha : PA X (e :: es) t)
    (hdb : (x == ("__debug__" : Str)) = false := by decide) (he : starEach (e :: es) X.env = (false, eval e X.env) :: starEach es X.env := by rfl) (hpl : (backTo pos (starEach es X.env)).any (·.1) = false := by rfl) :
    PE X (.Call (.Name x p) (e :: es) [] pos) (tMake C sp [] E0 t) := by
  obtain ⟨f, fd, ps, h1, h2, h3, h4⟩ := G
  exact pe_make h2 h4 hr hg h1 h3 .nil passA ha hdb he hpl
/-- e.f in an except suite, e the caught error -/
def tXfE (K : PySem.W.Frag) (a : Addr) (cls : Value) (d : Option Addr) (f : Str) (te : TE) : TE := fun σ H Q => te σ H fun x H1 => ∃ C : Addr, cls = .ref C ∧ XfC K C ∧ PySem.W.findIn K (.ref C) f = some none ∧ x = .ref a ∧ ∃ (dd : Addr) (fs : List (Str × V)) (v : V), d = some dd ∧ H1 dd = some (.xd fs) ∧ fs.lookup f = some v ∧ Q v H1
theorem pe_xfE {X : Cx} {a : Addr} {oe : Obj} {cls : Value} {d : Option Addr} {pn : List (Addr × Obj)} {e : Expr} {te : TE} {pos : Pos} {n : Str} (hz : Zc cls d oe) (hf : ∃ vs, oe.data = .fields vs) (he : PE (X.suite a ((a, oe) :: pn)) e te) (hb : attributeBase e n X.env (eval e X.env) = eval e X.env := by rfl) :
    PE (X.suite a ((a, oe) :: pn)) (.Attribute e n pos) (tXfE X.K a cls d n te) := by
  refine ⟨fun pins s σ H Q I h => ?_⟩
  refine attr_of hb (thn (he.run pins s σ H _ I h) fun u s1 hh => ?_)
  obtain ⟨x, H1, I1, rx, C, ec, T, hno, ex, dd, fs, v, ed, ea, l, q⟩ := hh
  subst ex ec ed
  obtain rfl : u = Value.ref a := rx
  obtain ⟨ha, _⟩ := I1.pin (a, oe) (List.mem_append_left _ List.mem_cons_self)
  obtain ⟨vs, hd⟩ := hf
  have hx : ObjOk X.prog X.w H1 s1.heap dd (.xd fs) := I1.hok dd _ ea
  obtain ⟨mA, hns, hr⟩ := hx
  obtain ⟨od, ho, hl⟩ := lookIn_ns hns
  obtain ⟨u, hu, ru⟩ := RelO.some_of (v := v) (o := mA n) (by rw [← l]; exact hr n)
  have J : PySem.W.InstAt s1.heap a oe C (some od) := ⟨ha, hz.1, by unfold PySem.W.notCls; rw [hd] <;> rfl, by rw [hz.2]; exact ho⟩
  exact HandSPX.exc_get I1.kIn J T.ga T.gg T.exC (PySem.W.findObj_own T.hdC hno rfl (by rw [hl, hu])) (handed_of ru) ⟨v, H1, I1.tok _, ru, q⟩
/-- THE RULE for a def of the head's -/
theorem has_of {P : Program} {w : World} {K : PySem.W.Frag} {mg : Str → Option Value} {base : Heap} {x qual : Str} {params : Arguments} {body : List Stmt} {scope : Scope} {f : Addr} {N ps : List Str} {k : Nat} {sp : Sp}
    (F : ∃ fd, FunD K x qual params body scope [] [] f fd) (g : mg x = some (.ref f)) (S : FnScope N ps scope)
    (hb : ∀ (kV doc pm : Value) (an : Option Addr) (cdv ct : Value) (us : List Value), us.length = ps.length → bindArgs (PySem.W.fnOf x qual params body scope .none kV doc pm an cdv ct) ⟨us, []⟩ = pure (ps.zip us))
    (len : ∀ vs H Q E, sp vs H Q E → vs.length = ps.length)
    (hbody : ∀ (f : Addr) (cdv : Value) (A : Around) (outer : List Env) (s : Shared) (H : Hp) (vs : List V) (Q : VK) (E : XK), Room k (A.deeper (PyProof.Rows.envOfC qual scope s.heap.objs.size f cdv)) → sp vs H Q E →
      ∃ t, PSs (cxOf (L2.CX P w) P w K mg base N qual scope f cdv A outer s H E) body t ∧ t { nx := fun _ H' => Q .non H', rt := Q } (start N vs) H) : Has P w K mg base (k + 1) x sp := by
  obtain ⟨fd, F⟩ := F
  exact ⟨f, fd, ps, g, F.kp, F.bindsN hb, F.ok S len fun cdv A outer s H vs Q E hr h => hbody f cdv A outer s H vs Q E hr h⟩
/-- .. of an __init__ -/
theorem hasC_of {P : Program} {w : World} {K : PySem.W.Frag} {mg : Str → Option Value} {base : Heap} {x qual : Str} {C : Addr} {params : Arguments} {body : List Stmt} {scope : Scope} {f : Addr} {N ps : List Str} {k : Nat} {sp : Sp}
    (F : ∃ fd, FunD K "__init__" qual params body scope [] [] f fd) (g : mg x = some (.ref C)) (M : Mk K C f) (S : FnScope N ps scope)
    (hb : ∀ (kV doc pm : Value) (an : Option Addr) (cdv ct : Value) (us : List Value), us.length = ps.length → bindArgs (PySem.W.fnOf "__init__" qual params body scope .none kV doc pm an cdv ct) ⟨us, []⟩ = pure (ps.zip us))
    (len : ∀ vs H Q E, sp vs H Q E → vs.length = ps.length)
    (hbody : ∀ (f : Addr) (cdv : Value) (A : Around) (outer : List Env) (s : Shared) (H : Hp) (vs : List V) (Q : VK) (E : XK), Room k (A.deeper (PyProof.Rows.envOfC qual scope s.heap.objs.size f cdv)) → sp vs H Q E →
      ∃ t, PSs (cxOf (L2.CX P w) P w K mg base N qual scope f cdv A outer s H E) body t ∧ t { nx := fun _ H' => Q .non H', rt := Q } (start N vs) H) : HasC P w K mg base (k + 1) x C sp := by
  obtain ⟨fd, F⟩ := F
  exact ⟨f, fd, ps, g, M, F.bindsN hb, F.ok S len fun cdv A outer s H vs Q E hr h => hbody f cdv A outer s H vs Q E hr h⟩
theorem Has.mono {P : Program} {w : World} {K : PySem.W.Frag} {mg : Str → Option Value} {base : Heap} {j k : Nat} {x : Str} {sp : Sp} (G : Has P w K mg base j x sp) (h : j ≤ k) : Has P w K mg base k x sp := by
  obtain ⟨f, fd, ps, h1, h2, h3, h4⟩ := G
  exact ⟨f, fd, ps, h1, h2, h3, h4.mono h⟩
/-! ### heaps: D the frozen part of H, m what a def may change -/
structure Gr (m : Addr → Prop) (D H D' H' : Hp) : Prop where
  same : ∀ b o, ¬ m b → H b = some o → H' b = some o
  kept : ∀ b, H' b = none → H b = none
  dd : Same D D'
  sub : Same D' H'
  new : ∀ b o, D' b = some o → D b = some o ∨ H b = none
abbrev No : Addr → Prop := fun _ => False
section
variable {m m' : Addr → Prop} {D H D1 H1 D2 H2 : Hp} {p : Addr} {o : HO}
theorem Gr.refl (h : Same D H) : Gr m D H D H := ⟨fun _ _ _ e => e, fun _ e => e, Same.refl D, h, fun _ _ e => .inl e⟩
theorem Gr.trans (a : Gr m D H D1 H1) (b : Gr m D1 H1 D2 H2) : Gr m D H D2 H2 where
  same := fun x u hm e => b.same x u hm (a.same x u hm e)
  kept := fun x e => a.kept x (b.kept x e)
  dd := a.dd.trans b.dd
  sub := b.sub
  new := fun x u e => (b.new x u e).elim (a.new x u) fun z => .inr (a.kept x z)
theorem Gr.weak (a : Gr m D H D1 H1) (h : ∀ b, m b → m' b) : Gr m' D H D1 H1 := ⟨fun b o hm => a.same b o fun z => hm (h b z), a.kept, a.dd, a.sub, a.new⟩
theorem Gr.no (a : Gr No D H D1 H1) : Gr m D H D1 H1 := a.weak fun _ z => z.elim
theorem Gr.all (a : Gr No D H D1 H1) : Same H H1 := fun b o e => a.same b o (fun z => z) e
/-- a new object, not frozen -/
theorem Gr.lay (a : Gr m D H D1 H1) (h : H1 p = none) : Gr m D H D1 (upd H1 p o) where
  same := fun b u hm e => by
    have e1 := a.same b u hm e
    rw [upd_ne (ne_of_none e1 h)]
    exact e1
  kept := fun b e => a.kept b (by
    by_cases hb : b = p
    · rw [hb, upd_same] at e; cases e
    · rw [upd_ne hb] at e; exact e)
  dd := a.dd
  sub := fun b u e => by
    have e1 := a.sub b u e
    rw [upd_ne (ne_of_none e1 h)]
    exact e1
  new := a.new
/-- a new object, frozen at once -/
theorem Gr.ice (a : Gr m D H D1 H1) (h : H1 p = none) : Gr m D H (upd D1 p o) (upd H1 p o) where
  same := (a.lay h).same
  kept := (a.lay h).kept
  dd := fun b u e => by
    have e1 := a.sub b u (a.dd b u e)
    rw [upd_ne (ne_of_none e1 h)]
    exact a.dd b u e
  sub := fun b u e => by
    by_cases hb : b = p
    · subst hb; rw [upd_same] at e ⊢; exact e
    · rw [upd_ne hb] at e ⊢; exact a.sub b u e
  new := fun b u e => by
    by_cases hb : b = p
    · subst hb; exact .inr (a.kept b h)
    · rw [upd_ne hb] at e; exact a.new b u e
/-- a local object is frozen -/
theorem Gr.cold (a : Gr m D H D1 H1) (h : H1 p = some o) (h0 : H p = none) : Gr m D H (upd D1 p o) H1 where
  same := a.same
  kept := a.kept
  dd := fun b u e => by
    by_cases hb : b = p
    · subst hb
      have e1 := a.sub b u (a.dd b u e)
      rw [h] at e1
      rw [upd_same]
      exact e1
    · rw [upd_ne hb]; exact a.dd b u e
  sub := fun b u e => by
    by_cases hb : b = p
    · subst hb; rw [upd_same] at e; rw [h]; exact e
    · rw [upd_ne hb] at e; exact a.sub b u e
  new := fun b u e => by
    by_cases hb : b = p
    · subst hb; exact .inr h0
    · rw [upd_ne hb] at e; exact a.new b u e
/-- a local object is changed -/
theorem Gr.put (a : Gr m D H D1 H1) (h : D1 p = none) (h0 : H p = none ∨ m p) : Gr m D H D1 (upd H1 p o) where
  same := fun b u hm e => by
    have hb : b ≠ p := fun z => by
      subst z
      rcases h0 with h0 | h0
      · rw [h0] at e; cases e
      · exact hm h0
    rw [upd_ne hb]
    exact a.same b u hm e
  kept := fun b e => a.kept b (by
    by_cases hb : b = p
    · rw [hb, upd_same] at e; cases e
    · rw [upd_ne hb] at e; exact e)
  dd := a.dd
  sub := fun b u e => by
    rw [upd_ne (ne_of_none e h)]
    exact a.sub b u e
  new := a.new
/-- what is tracked and not frozen stays unfrozen -/
theorem Gr.stay (a : Gr m D H D1 H1) (h : D p = none) (h1 : H p = some o) : D1 p = none := by
  cases e : D1 p with
  | none => rfl
  | some u =>
    rcases a.new p u e with z | z
    · rw [h] at z; cases z
    · rw [h1] at z; cases z
theorem Gr.free (a : Gr m D H D1 H1) (h : H1 p = none) : D1 p = none := by
  cases e : D1 p with
  | none => rfl
  | some u =>
    have z := a.sub p u e
    rw [h] at z; cases z
theorem sub_free (a : Same D H) (h : H p = none) : D p = none := Same.free a h
end
/-! ### data -/
mutual
theorem Dp.mono {K : PySem.W.Frag} {H H' : Hp} (e : Same H H') : ∀ {d : PyData} {v : V}, Dp K H v d → Dp K H' v d
  | .none, _, h => by cases h; exact .non
  | .bool b, _, h => by cases h; exact .bl b
  | .int i, _, h => by cases h; exact .int i
  | .str x, _, h => by cases h; exact .str x
  | .list ds, _, h => by
    cases h with
    | lst hs ha => exact .lst (e.seq hs) (Dp.monoAll e ha)
  | .tuple ds, _, h => by
    cases h with
    | tup hs ha => exact .tup (same_seqT e hs) (Dp.monoAll e ha)
  | .dict _, _, h => by cases h
theorem Dp.monoAll {K : PySem.W.Frag} {H H' : Hp} (e : Same H H') : ∀ {ds : List PyData} {vs : List V}, DpAll K H vs ds → DpAll K H' vs ds
  | [], _, h => by cases h; exact .nil
  | _ :: _, _, h => by
    cases h with
    | cons h1 h2 => exact .cons (Dp.mono e h1) (Dp.monoAll e h2)
theorem same_seqT {K : PySem.W.Frag} {H H' : Hp} {a : Addr} {xs : List V} (e : Same H H') (h : SqT K H a xs) : SqT K H' a xs := by
  rcases h with (h | ⟨o, h⟩) | h
  · exact .inl (.inl (e _ _ h))
  · exact .inl (.inr ⟨o, e _ _ h⟩)
  · exact .inr h
end
end Y

namespace Y
open PySem PySem.Spec L2 He
/-! ### what is never reached -/
section
variable {X : Cx}
theorem ps_dead {s : Stmt} : PS X s (fun _ _ _ => False) := ⟨fun _ _ _ _ _ _ h => h.elim⟩
theorem pss_dead {s : List Stmt} : PSs X s (fun _ _ _ => False) := ⟨fun _ _ _ _ _ _ h => h.elim⟩
theorem pe_dead {e : Expr} : PE X e (fun _ _ _ => False) := ⟨fun _ _ _ _ _ _ h => h.elim⟩
end
/-! ### walks -/
theorem walk_enumT {K : PySem.W.Frag} {a : Addr} {xs : List V} : Walk (Ity K a) xs.length (fun H => SqT K H a xs) (YPair (fun i => some (.int (i : Nat))) (fun i => xs[i]?)) := by
  refine ⟨fun i _ hi q => ⟨xs, xs[i], q, by simp [hi]⟩, fun _ q => ⟨xs, q, rfl⟩, fun i H v H' _ q y => ?_⟩
  obtain ⟨T, x, h1, h2, h3, h4⟩ := y
  exact ⟨T, .int (i : Nat), x, h1, h2, h3, rfl, h4 xs q⟩
theorem walk_enumS {z : Str} : Walk (Itx z) z.cps.size (fun _ => True) (YPair (fun i => some (.int (i : Nat))) (fun i => z.cps[i]?.map fun c => V.str ⟨#[c]⟩)) := by
  refine ⟨fun i _ hi _ => hi, fun _ _ => rfl, fun i H v H' _ _ y => ?_⟩
  obtain ⟨T, c, h1, h2, h3, h4⟩ := y
  refine ⟨T, .int (i : Nat), _, h1, h2, h3, rfl, ?_⟩
  show z.cps[i]?.map _ = _
  rw [h4]
  rfl
/-! ### a comprehension, the heap by Gr -/
structure LcP (m : Addr → Prop) (D1 H1 : Hp) (p : Addr) (R : List V → Hp → Prop) (H : Hp) : Prop where
  ex : ∃ D2 acc, Gr m D1 H1 D2 H ∧ H p = some (.lst acc) ∧ D2 p = none ∧ R acc D2
theorem lc_put {m : Addr → Prop} {D1 H1 D2 H D4 H4 : Hp} {p : Addr} {R : List V → Hp → Prop} {acc : List V} {y : V} (hp : H1 p = none) (hm : ¬ m p) (g : Gr m D1 H1 D2 H) (ha : H p = some (.lst acc)) (hD : D2 p = none)
    (g4 : Gr m D2 H D4 H4) (hl : acc.length < sizeLine) (r : R (acc ++ [y]) D4) : ∃ acc, H4 p = some (.lst acc) ∧ acc.length < sizeLine ∧ LcP m D1 H1 p R (upd H4 p (.lst (acc ++ [y]))) := by
  have h4 := g4.same p _ hm ha
  have d4 := g4.stay hD ha
  exact ⟨acc, h4, hl, ⟨D4, acc ++ [y], (g.trans g4).put d4 (.inl hp), upd_same, d4, r⟩⟩
theorem lc_skip {m : Addr → Prop} {D1 H1 D2 H D4 H4 : Hp} {p : Addr} {R : List V → Hp → Prop} {acc : List V} (hm : ¬ m p) (g : Gr m D1 H1 D2 H) (ha : H p = some (.lst acc)) (hD : D2 p = none)
    (g4 : Gr m D2 H D4 H4) (r : R acc D4) : LcP m D1 H1 p R H4 :=
  ⟨D4, acc, g.trans g4, g4.same p _ hm ha, g4.stay hD ha, r⟩
/-- a for over J, ready to be walked; a comprehension -/
def Lp (g : TG) (tb : TS) (D : Ends) (J : It) (σ : L2.St) (H : Hp) : Prop := ∃ W : Nat → Nat → L2.St → Hp → Prop, (∃ m, W 0 m σ H) ∧ ∀ i m σ H, W i m σ H →
  (J.stop i H ∧ D.nx σ H) ∨ (J.go i H ∧ ∃ N : L2.St → Hp → Prop, (∀ σ' H', N σ' H' → ∃ m', m' < m ∧ W (i + 1) m' σ' H') ∧ ∀ x H', J.yld i H x H' → g x σ H' fun σ2 H2 => tb { D with nx := N, ct := N, bk := D.nx } σ2 H2)
def Lq (g : TG) (tt : TT) (te : TE) (vs : List Nat) (J : It) (σ : L2.St) (H1 : Hp) (p : Addr) (Qd : Hp → Prop) : Prop := ∃ W : Nat → Nat → Hp → Prop, (∃ m, W 0 m (upd H1 p (.lst []))) ∧ ∀ i m H, W i m H →
  (J.stop i H ∧ Qd H) ∨ (J.go i H ∧ ∃ Nx : Hp → Prop, (∀ H', Nx H' → ∃ m', m' < m ∧ W (i + 1) m' H') ∧ ∀ x H', J.yld i H x H' → g x (wipe σ vs) H' fun σ2 H2 => wipe σ2 vs = wipe σ vs ∧ tt σ2 H2 fun b H3 =>
    if b = true then te σ2 H3 fun y H4 => ∃ acc, H4 p = some (.lst acc) ∧ acc.length < sizeLine ∧ Nx (upd H4 p (.lst (acc ++ [y]))) else Nx H3)
section
variable {J : It} {n : Nat} {G : Hp → Prop} {Y : Nat → Hp → V → Hp → Prop}
theorem lp_it (w : Walk J n G Y) {g : TG} {tb : TS} {D : Ends} {σ : L2.St} {H : Hp} (Pv : Nat → L2.St → Hp → Prop) (h0 : Pv 0 σ H) (hG : ∀ i σ H, i ≤ n → Pv i σ H → G H)
    (hs : ∀ i x σ H H', i < n → Pv i σ H → Y i H x H' → g x σ H' fun σ2 H2 => tb { D with nx := Pv (i + 1), ct := Pv (i + 1), bk := D.nx } σ2 H2) (hd : ∀ σ H, Pv n σ H → D.nx σ H) : Lp g tb D J σ H := for_it w Pv h0 hG hs hd
theorem lq_gr (w : Walk J n G Y) {g : TG} {tt : TT} {te : TE} {vs : List Nat} {σ : L2.St} {H1 : Hp} {p : Addr} {Qd : Hp → Prop} {m : Addr → Prop} (D1 : Hp)
    (R : Nat → List V → Hp → Prop) (hp : H1 p = none) (h1 : Same D1 H1) (r0 : R 0 [] D1) (hG : ∀ D2 H, Gr m D1 H1 D2 H → G H)
    (hs : ∀ i x acc D2 H H', i < n → Gr m D1 H1 D2 H → H p = some (.lst acc) → D2 p = none → R i acc D2 → Y i H x H' → g x (wipe σ vs) H' fun σ2 H2 => wipe σ2 vs = wipe σ vs ∧ tt σ2 H2 fun b H3 =>
      if b = true then te σ2 H3 fun y H4 => ∃ acc, H4 p = some (.lst acc) ∧ acc.length < sizeLine ∧ LcP m D1 H1 p (R (i + 1)) (upd H4 p (.lst (acc ++ [y]))) else LcP m D1 H1 p (R (i + 1)) H3)
    (hd : ∀ acc D2 H, Gr m D1 H1 D2 H → H p = some (.lst acc) → D2 p = none → R n acc D2 → Qd H) : Lq g tt te vs J σ H1 p Qd := by
  refine lc_it w (fun i H => LcP m D1 H1 p (R i) H) ⟨D1, [], (Gr.refl h1).lay hp, upd_same, (Gr.refl (m := m) h1).free hp, r0⟩ (fun i H _ q => ?_) (fun i x H H' hi q y => ?_) (fun H q => ?_)
  · obtain ⟨D2, acc, g, ha, hD, r⟩ := q
    exact hG D2 H g
  · obtain ⟨D2, acc, g, ha, hD, r⟩ := q
    exact hs i x acc D2 H H' hi g ha hD r y
  · obtain ⟨D2, acc, g, ha, hD, r⟩ := q
    exact hd acc D2 H g ha hD r
/-- .. each item a value that is told beforehand, the heap stays -/
theorem lq_map (w : Walk J n G Y) {g : TG} {tt : TT} {te : TE} {vs : List Nat} {σ : L2.St} {H1 : Hp} {p : Addr} {Qd : Hp → Prop} (ys : List V) (hn : ys.length = n) (hz : n ≤ sizeLine)
    (hp : H1 p = none) (hG : ∀ acc, G (upd H1 p (.lst acc)))
    (hs : ∀ i x acc H' (N : Hp → Prop), i < n → Y i (upd H1 p (.lst acc)) x H' → ((y : V) → ys[i]? = some y → N (upd H1 p (.lst (acc ++ [y])))) → (acc.length < sizeLine) → g x (wipe σ vs) H' fun σ2 H2 => wipe σ2 vs = wipe σ vs ∧ tt σ2 H2 fun b H3 =>
      if b = true then te σ2 H3 fun y H4 => ∃ acc, H4 p = some (.lst acc) ∧ acc.length < sizeLine ∧ N (upd H4 p (.lst (acc ++ [y]))) else N H3)
    (hd : Qd (upd H1 p (.lst ys))) : Lq g tt te vs J σ H1 p Qd := by
  refine lc_it w (fun i H => H = upd H1 p (.lst (ys.take i))) (by rw [List.take_zero]) (fun i H _ q => by rw [q]; exact hG _) (fun i x H H' hi q y => ?_) (fun H q => ?_)
  · subst q
    refine hs i x _ H' _ hi y (fun v e => ?_) ?_
    · rw [List.take_add_one, e]
      rfl
    · rw [List.length_take, hn]
      omega
  · rw [q, ← hn, List.take_length]
    exact hd
theorem lq_put {H1 : Hp} {p : Addr} {acc : List V} {y : V} {N : Hp → Prop} (hl : acc.length < sizeLine) (k : N (upd H1 p (.lst (acc ++ [y])))) :
    ∃ acc', (upd H1 p (.lst acc)) p = some (.lst acc') ∧ acc'.length < sizeLine ∧ N (upd (upd H1 p (.lst acc)) p (.lst (acc' ++ [y]))) := ⟨acc, upd_same, hl, by rw [upd_upd]; exact k⟩
end
/-! ### more steps -/
section
variable {K : PySem.W.Frag} {σ : L2.St} {H : Hp} {Q : VK} {v x y : V} {ta tb tc te : TE} {t u : TT} {a b : Addr} {D : Ends} {n m : Int} {s z : Str} {R : It → Hp → Prop}
theorem s_for {wi : TI} {g : TG} {tb : TS} (k : wi σ H fun J H1 => Lp g tb D J σ H1) : tFor wi g tb D σ H := k
theorem s_lc {wi : TI} {g : TG} {tt : TT} {vs : List Nat} (k : wi σ H fun J H1 => ∀ p, H1 p = none → Lq g tt te vs J σ H1 p (fun H2 => Q (.ref p) H2)) : tLc wi g tt te vs σ H Q := k
theorem s_iStr (k : te σ H fun v H1 => ∃ x, v = .str x ∧ R (Its x) H1) : iStr te σ H R := k
theorem s_iList (k : te σ H fun x H1 => ∃ a, x = .ref a ∧ (∃ xs, SqL K H1 a xs) ∧ R (Itl K a) H1) : iList K te σ H R := k
theorem s_iTup (k : te σ H fun x H1 => ∃ a, x = .ref a ∧ (∃ xs, SqT K H1 a xs) ∧ R (Itt K a) H1) : iTup K te σ H R := k
theorem s_iR1 {ta : TA} (k : ta σ H fun vs H1 => ∃ j : Int, vs = [.int j] ∧ -(2 ^ 62) ≤ j ∧ j < 2 ^ 62 ∧ R (Itr 0 j.toNat) H1) : iRng1 ta σ H R := k
theorem s_iR2 {ta : TA} (k : ta σ H fun vs H1 => ∃ i j : Int, vs = [.int i, .int j] ∧ (-(2 ^ 62) ≤ i ∧ i < 2 ^ 62 ∧ -(2 ^ 62) ≤ j ∧ j < 2 ^ 62) ∧ R (Itr i (j - i).toNat) H1) : iRng2 ta σ H R := k
theorem s_iE {ta : TA} (k : ta σ H fun vs H1 => ∃ a xs, vs = [.ref a] ∧ SqL K H1 a xs ∧ R (Ite K a) H1) : iEnum K ta σ H R := k
theorem s_iET {ta : TA} (k : ta σ H fun vs H1 => ∃ a xs, vs = [.ref a] ∧ SqT K H1 a xs ∧ R (Ity K a) H1) : iEnumT K ta σ H R := k
theorem s_iES {ta : TA} (k : ta σ H fun vs H1 => ∃ x, vs = [.str x] ∧ R (Itx x) H1) : iEnumS ta σ H R := k
theorem s_make {C : Addr} {sp : Sp} {dvs : List V} {E : XK} {t : TA} (k : t σ H fun vs H1 => ∀ x dx, H1 x = none → H1 dx = none → dx ≠ x →
  sp (.ref x :: (vs ++ dvs)) (upd (upd H1 dx (.own x)) x (.ins C dx [])) (fun v H2 => v = .non ∧ Q (.ref x) H2) E) : tMake C sp dvs E t σ H Q := k
theorem s_fld {f : Str} (k : ta σ H fun x H1 => ∃ a C dx fs v, x = .ref a ∧ H1 a = some (.ins C dx fs) ∧ Cls K C ∧ NoAttr K C f ∧ fs.lookup f = some v ∧ Q v H1) : tFld K ta f σ H Q := k
theorem s_sFld {f : Str} {tv : TE} (k : tv σ H fun y H1 => ta σ H1 fun x H2 => ∃ a C dx fs, x = .ref a ∧ H2 a = some (.ins C dx fs) ∧ Cls K C ∧ NoAttr K C f ∧ fs.length < 1000 ∧ D.nx σ (upd H2 a (.ins C dx (putF f y fs)))) : sFld K ta tv f D σ H := k
theorem s_rz {C : Addr} {fs : List Str} {ta : TA} {Q : XK} (k : ta σ H fun vs H1 => vs.length = fs.length ∧ vs.length ≤ 1000 ∧ ∀ d, H1 d = none → Q (.ref C) (some d) (upd H1 d (.xd (fs.zip vs).reverse))) : tRz C fs ta σ H Q := k
theorem s_po {Q : Option Int → Hp → Prop} (k : te σ H fun x H1 => ∃ i, x = .int i ∧ Q (some i) H1) : tPart te σ H Q := k
theorem s_xb {Q : Bool → Prop} {c : Bool} (k : Q c) : ∃ k, V.bl c = .bl k ∧ Q k := ⟨c, rfl, k⟩
theorem s_xi {Q : Int → Prop} {c : Int} (k : Q c) : ∃ k, V.int c = .int k ∧ Q k := ⟨c, rfl, k⟩
theorem s_xs {Q : Str → Prop} {c : Str} (k : Q c) : ∃ k, V.str c = .str k ∧ Q k := ⟨c, rfl, k⟩
theorem s_xr {Q : Addr → Prop} {c : Addr} (k : Q c) : ∃ k, V.ref c = .ref k ∧ Q k := ⟨c, rfl, k⟩
theorem jtT {A B : Prop} {i : Decidable (true = true)} (k : A) : @ite Prop (true = true) i A B := by
  rw [if_pos rfl]
  exact k
theorem jtF {A B : Prop} {i : Decidable (false = true)} (k : B) : @ite Prop (false = true) i A B := by
  rw [if_neg Bool.false_ne_true]
  exact k
theorem jtD {p A B : Prop} {j : Decidable p} {i : Decidable (@decide p j = true)} (h1 : p → A) (h2 : ¬ p → B) : @ite Prop (@decide p j = true) i A B := ite2 (fun e => h1 (of_decide_eq_true e)) fun e => h2 fun z => e (decide_eq_true z)
theorem jtN {p A B : Prop} {j : Decidable p} {i : Decidable ((!@decide p j) = true)} (h1 : ¬ p → A) (h2 : p → B) : @ite Prop ((!@decide p j) = true) i A B := by
  by_cases h : p
  · rw [if_neg (by simp [h])]; exact h2 h
  · rw [if_pos (by simp [h])]; exact h1 h
theorem jtB {b : Bool} {A B : Prop} {i : Decidable (b = true)} (h1 : b = true → A) (h2 : b = false → B) : @ite Prop (b = true) i A B := by
  cases b
  · exact jtF (h2 rfl)
  · exact jtT (h1 rfl)
theorem jtNB {b : Bool} {A B : Prop} {i : Decidable ((!b) = true)} (h1 : b = false → A) (h2 : b = true → B) : @ite Prop ((!b) = true) i A B := by
  cases b
  · exact jtT (h1 rfl)
  · exact jtF (h2 rfl)
end
end Y

namespace Y
open PySem PySem.Spec L2 He
/-- an own error class with fields, by its __init__'s rows behind super().__init__('..') -/
theorem rz_of {P : Program} {w : World} {K : PySem.W.Frag} {mg : Str → Option Value} {base : Heap} {x : Str} {C f : Addr} {name qual : Str} {params : Arguments} {scope : Scope} {N ps fs : List Str} {ar : Arg} {rest : List Stmt} {m : Str} {j : Nat} {p0 p1 ap cp p2 rp : Pos}
    (I : ∃ fd, IniF P K mg C f name qual params (.Expr (.Call (.Attribute (.Call (.Name "super" p0) [] [] p1) "__init__" ap) [.Constant (.str m) j p2] [] cp) rp :: rest) scope fd) (g : mg x = some (.ref C)) (T : OexC K C) (S : IniScope N ps scope)
    (hp : (params.posonlyargs ++ params.args).head? = some ar) (hN : N[0]? = some ar.arg) (hps : ar.arg ∈ ps)
    (hev : ∀ env : Env, ∃ pl : Sem Bool, eval (.Call (.Attribute (.Call (.Name "super" p0) [] [] p1) "__init__" ap) [.Constant (.str m) j p2] [] cp) env = (do
        let ov ← attributeBase (.Call (.Name "super" p0) [] [] p1) "__init__" env (eval (.Call (.Name "super" p0) [] [] p1) env)
        standAt ap.atName
        let (f, first) ← holding [ov] (getMethod ov "__init__" pl)
        callWith cp f first (backTo cp (starEach [.Constant (.str m) j p2] env)) []))
    (hl : ps.length = fs.length + 1)
    (hb : ∀ (kV doc pm : Value) (an : Option Addr) (cdv ct : Value) (cc : Addr) (us : List Value), us.length = ps.length → bindArgs (iniFd name qual params (.Expr (.Call (.Attribute (.Call (.Name "super" p0) [] [] p1) "__init__" ap) [.Constant (.str m) j p2] [] cp) rp :: rest) scope .none kV doc pm an cdv ct cc) ⟨us, []⟩ = pure (ps.zip us))
    (hbody : ∀ (kV doc pm : Value) (an : Option Addr) (cdv ct : Value) (cc : Addr) (A : Around) (outer : List Env) (s : Shared) (H : Hp) (a : Addr) (ws : List V) (Q : VK) (E : XK), ws.length = fs.length → H a = some (exo a C none) →
      (∀ dx, H dx = none → dx ≠ a → Q .non (upd (upd H dx (exd dx (fs.zip ws).reverse)) a (exo a C (some dx)))) →
      ∃ t, PSs (cxI CX0 P w K mg base N (iniFd name qual params (.Expr (.Call (.Attribute (.Call (.Name "super" p0) [] [] p1) "__init__" ap) [.Constant (.str m) j p2] [] cp) rp :: rest) scope .none kV doc pm an cdv ct cc) f A outer s H E) rest t ∧ t { nx := fun _ H' => Q .non H', rt := Q } (start N (.ref a :: ws)) H) :
    Rz P w K mg base x C fs := by
  obtain ⟨fd, F⟩ := I
  have F1 : FnOk P w K mg base CX0 (0 + 1) f fd ps (spIni C fs) := by
    refine fn_ini (x := "") F T S hp hN hps hev (fun vs H Q E h => ?_) (fun vs H Q E h => ?_) (fun A outer s H vs Q E hr h => ?_)
    · obtain ⟨a, ws, rfl, hw, _⟩ := h
      rw [List.length_cons, hw, hl]
    · obtain ⟨a, ws, rfl, hw, ha, _⟩ := h
      exact ⟨a, ws, rfl, ha⟩
    · obtain ⟨a, ws, rfl, hw, ha, q⟩ := h
      obtain ⟨oc, od, kV, doc, pm, an, cda, ct, osl, cc, ocl, oco, vs, tf, rfl, _⟩ := F.ex
      exact hbody kV doc pm an _ ct cc A outer s H a ws Q E hw ha q
  refine ⟨g, T, f, fd, ps, F1, ?_, F.init, F.typ⟩
  obtain ⟨oc, od, kV, doc, pm, an, cda, ct, osl, cc, ocl, oco, vs, tf, rfl, _⟩ := F.ex
  exact .all fun us hu => hb kV doc pm an _ ct cc us hu
end Y

namespace Y
open PySem PySem.Spec L2 He
/-! ### data: lists of ints, of texts, of rows -/
abbrev dIs (ns : List Int) : List PyData := ns.map PyData.int
abbrev dSs (zs : List Str) : List PyData := zs.map PyData.str
abbrev dL (ns : List Int) : PyData := .list (dIs ns)
abbrev dT (ns : List Int) : PyData := .tuple (dIs ns)
abbrev dLL (rows : List (List Int)) : PyData := .list (rows.map dL)
abbrev dTT (rows : List (List Int)) : PyData := .tuple (rows.map dT)
section
variable {K : PySem.W.Frag} {D H D' H' D1 H1 D2 H2 : Hp} {a b p : Addr} {xs ys : List V} {ds es : List PyData} {x y v : V} {d : PyData} {ns : List Int} {zs : List Str} {rows : List (List Int)} {m : Addr → Prop}
theorem dpl_len : ∀ {xs : List V} {ds : List PyData}, DpAll K D xs ds → xs.length = ds.length
  | _, _, .nil => rfl
  | _, _, .cons _ h => congrArg (· + 1) (dpl_len h)
theorem dpl_get : ∀ {xs : List V} {ds : List PyData} {i : Nat} {x : V}, DpAll K D xs ds → xs[i]? = some x → ∃ d, ds[i]? = some d ∧ Dp K D x d
  | _, _, 0, _, .cons h _, e => ⟨_, rfl, by cases e; exact h⟩
  | _, _, i + 1, _, .cons _ h, e => dpl_get (i := i) h e
theorem dpl_getR : ∀ {xs : List V} {ds : List PyData} {i : Nat} {d : PyData}, DpAll K D xs ds → ds[i]? = some d → ∃ x, xs[i]? = some x ∧ Dp K D x d
  | _, _, 0, _, .cons h _, e => ⟨_, rfl, by cases e; exact h⟩
  | _, _, i + 1, _, .cons _ h, e => dpl_getR (i := i) h e
theorem dpl_snoc : ∀ {xs : List V} {ds : List PyData}, DpAll K D xs ds → Dp K D x d → DpAll K D (xs ++ [x]) (ds ++ [d])
  | _, _, .nil, h => .cons h .nil
  | _, _, .cons h1 h2, h => .cons h1 (dpl_snoc h2 h)
theorem dpl_ints : ∀ {ns : List Int} {xs : List V}, DpAll K D xs (dIs ns) → xs = ns.map V.int
  | [], _, .nil => rfl
  | n :: ns, _, .cons h1 h2 => by
    cases h1
    rw [dpl_ints h2]
    rfl
theorem dpl_of_ints : ∀ {ns : List Int}, DpAll K D (ns.map V.int) (dIs ns)
  | [] => .nil
  | n :: ns => .cons (.int n) dpl_of_ints
theorem dpl_strs : ∀ {zs : List Str} {xs : List V}, DpAll K D xs (dSs zs) → xs = zs.map V.str
  | [], _, .nil => rfl
  | n :: ns, _, .cons h1 h2 => by
    cases h1
    rw [dpl_strs h2]
    rfl
theorem dpl_of_strs : ∀ {zs : List Str}, DpAll K D (zs.map V.str) (dSs zs)
  | [] => .nil
  | n :: ns => .cons (.str n) dpl_of_strs
theorem dp_list (h : Dp K D v (.list ds)) : ∃ a xs, v = .ref a ∧ SqL K D a xs ∧ DpAll K D xs ds := by
  cases h with
  | lst hs ha => exact ⟨_, _, rfl, hs, ha⟩
theorem dp_tuple (h : Dp K D v (.tuple ds)) : ∃ a xs, v = .ref a ∧ SqT K D a xs ∧ DpAll K D xs ds := by
  cases h with
  | tup hs ha => exact ⟨_, _, rfl, hs, ha⟩
theorem dp_L (h : Dp K D v (dL ns)) : ∃ a, v = .ref a ∧ SqL K D a (ns.map V.int) := by
  obtain ⟨a, xs, e, hs, ha⟩ := dp_list h
  rw [dpl_ints ha] at hs
  exact ⟨a, e, hs⟩
theorem dp_T (h : Dp K D v (dT ns)) : ∃ a, v = .ref a ∧ SqT K D a (ns.map V.int) := by
  obtain ⟨a, xs, e, hs, ha⟩ := dp_tuple h
  rw [dpl_ints ha] at hs
  exact ⟨a, e, hs⟩
theorem dp_ofL (h : SqL K D a (ns.map V.int)) : Dp K D (.ref a) (dL ns) := .lst h dpl_of_ints
theorem dp_ofT (h : SqT K D a (ns.map V.int)) : Dp K D (.ref a) (dT ns) := .tup h dpl_of_ints
theorem dp_S (h : Dp K D v (.list (dSs zs))) : ∃ a, v = .ref a ∧ SqL K D a (zs.map V.str) := by
  obtain ⟨a, xs, e, hs, ha⟩ := dp_list h
  rw [dpl_strs ha] at hs
  exact ⟨a, e, hs⟩
theorem dp_ofS (h : SqL K D a (zs.map V.str)) : Dp K D (.ref a) (.list (dSs zs)) := .lst h dpl_of_strs
theorem sql (h : H a = some (.lst xs)) : SqL K H a xs := .inl (.inl h)
theorem sqt (h : H a = some (.tup xs)) : SqT K H a xs := .inl (.inl h)
theorem dp_up (g : Gr m D1 H1 D2 H2) (h : Dp K D1 v d) : Dp K D2 v d := Y.Dp.mono g.dd h
theorem dp_heap (g : Gr m D1 H1 D2 H2) (h : Dp K D2 v d) : Dp K H2 v d := Y.Dp.mono g.sub h
theorem sql_up (g : Gr m D1 H1 D2 H2) (h : SqL K D1 a xs) : SqL K H2 a xs := (g.dd.trans g.sub).seq h
theorem sqt_up (g : Gr m D1 H1 D2 H2) (h : SqT K D1 a xs) : SqT K H2 a xs := same_seqT (g.dd.trans g.sub) h
theorem Gr.same' (g : Gr m D1 H1 D2 H2) : Same D1 H2 := g.dd.trans g.sub
/-- what a call does to its own new object -/
theorem Gr.transN {n : Addr → Prop} (a : Gr m D H D1 H1) (b : Gr n D1 H1 D2 H2) (hn : ∀ x, n x → H x = none) : Gr m D H D2 H2 where
  same := fun x u hm e => b.same x u (fun z => by rw [hn x z] at e; cases e) (a.same x u hm e)
  kept := fun x e => a.kept x (b.kept x e)
  dd := a.dd.trans b.dd
  sub := b.sub
  new := fun x u e => (b.new x u e).elim (a.new x u) fun z => .inr (a.kept x z)
/-! ### steps -/
variable {σ : L2.St} {Q : VK} {i j : Nat} {T : Addr} {ta tb te : TE} {n : Int} {s z : Str}
theorem s_pair {Q : L2.St → Hp → Prop} (h : H T = some (.tup [x, y])) (k : Q ((σ.set i (some x)).set j (some y)) H) : gTup K 2 (gCons (gName i) (gCons (gName j) gNil)) (.ref T) σ H Q :=
  ⟨T, [x, y], rfl, .inl (.inl h), rfl, x, [y], rfl, y, [], rfl, rfl, k⟩
def rJoin (K : PySem.W.Frag) : V → List V → Hp → VK → Prop := fun x xs H Q => ∃ a p, ∃ ys : List Str, x = .str a ∧ xs = [.ref p] ∧ (SqL K H p (ys.map V.str) ∨ SqT K H p (ys.map V.str)) ∧
      (ys.map (·.length)).sum + ys.length * a.length ≤ 16777216 ∧ Q (.str (Txt.join a ys)) H
theorem s_join_l (h : SqL K H p (zs.map V.str)) (hl : (zs.map (·.length)).sum + zs.length * s.length ≤ 16777216) (k : Q (.str (Txt.join s zs)) H) : rJoin K (.str s) [.ref p] H Q := ⟨s, p, zs, rfl, rfl, .inl h, hl, k⟩
theorem pe_joinK {X : Cx} {o e : Expr} {to te : TE} {apos pos : Pos} (ho : PE X o to) (he : PE X e te) (hs : starEach [e] X.env = [(false, eval e X.env)] := by rfl) (hbase : attributeBase o "join" X.env (eval o X.env) = eval o X.env := by rfl) (hline : (apos.endLine == pos.line) = true := by rfl) :
    PE X (.Call (.Attribute o "join" apos) [e] [] pos) (tM1 (rJoin X.K) to te) := pe_join ho he hs hbase hline
theorem atI_0 {α : Type} {v : α} {r : List α} : atI (v :: r) 0 = some v := atI_nat (j := 0) rfl
theorem atI_i {α : Type} {xs : List α} {k : Int} {j : Nat} {v : α} (e : k = (j : Int)) (h : xs[j]? = some v) : atI xs k = some v := by rw [e]; exact atI_nat h
theorem put_end {fs : List (Str × V)} {f : Str} (h : fs.lookup f = none) : putF f v fs = fs ++ [(f, v)] := by
  induction fs with
  | nil => rfl
  | cons p r ih =>
    obtain ⟨g, u⟩ := p
    have hg : ¬ g = f := fun e => by
      subst e
      rw [List.lookup_cons_self] at h
      cases h
    have hr : r.lookup f = none := by
      rw [List.lookup_cons, show (f == g) = false from beq_false_of_ne (Ne.symm hg)] at h
      exact h
    show (if g = f then _ else _) = _
    rw [if_neg hg, ih hr]
    rfl
theorem cut_tail (xs : List V) : cutV xs (some 1) none = xs.drop 1 := by
  unfold cutV
  rw [show HT.sIx xs.length 0 (some 1) = min 1 xs.length from HT.sIx_nat xs.length 0 1, HT.sIx_none]
  cases xs with
  | nil => rfl
  | cons x r =>
    rw [show min 1 (x :: r).length = 1 by
      rw [List.length_cons]
      omega]
    show (List.take ((x :: r).length - 1) r) = r
    rw [List.length_cons, Nat.add_sub_cancel]
    exact List.take_length
theorem cut_take (xs : List V) (k : Nat) (h : k ≤ xs.length) : cutV xs none (some (k : Int)) = xs.take k := by
  unfold cutV
  rw [HT.sIx_nat xs.length xs.length k, HT.sIx_none, Nat.min_eq_left h]
  simp
theorem cut_init (xs : List V) : cutV xs none (some (-1)) = xs.take (xs.length - 1) := by
  unfold cutV
  have e : HT.sIx xs.length xs.length (some (-1)) = xs.length - 1 := by
    show (if (-1 : Int) < 0 then ((-1 : Int) + (xs.length : Int)).toNat else min (-1 : Int).toNat xs.length) = _
    rw [if_pos (by decide)]
    omega
  rw [e]
  simp [HT.sIx_none]
end
end Y

namespace Y
open PySem PySem.Spec L2 He
/-! ### the rules with the frozen part told -/
section
variable {X : Cx} (K : PySem.W.Frag)
theorem bK_len (h : X.K = K := by rfl) : CallR X (.builtin "len") (rLens K) := h ▸ b_len
theorem bK_list (h : X.K = K := by rfl) : CallR X (.type "list") (rLst1 K) := h ▸ b_list
theorem bK_tuple (h : X.K = K := by rfl) : CallR X (.type "tuple") (rTup1 K) := h ▸ b_tuple
theorem crK_any (hc : X.calm = true) (h : X.K = K := by rfl) : CallR X (.builtin "any") (rAny K) := h ▸ cr_any hc
theorem crK_all (hc : X.calm = true) (h : X.K = K := by rfl) : CallR X (.builtin "all") (rAll K) := h ▸ cr_all hc
theorem crK_sum (hc : X.calm = true) (h : X.K = K := by rfl) : CallR X (.builtin "sum") (rSum K) := h ▸ cr_sum hc
theorem oK_add (h : X.K = K := by rfl) : OpR X (binaryOp .Add) (rPlus K) := h ▸ o_add
theorem cK_eq (hu : X.A.units + 64 < cLine) (h : X.K = K := by rfl) : OpR X (compareOp .Eq) (rEqs K) := h ▸ c_eq hu
theorem cK_ne (hu : X.A.units + 64 < cLine) (h : X.K = K := by rfl) : OpR X (compareOp .NotEq) (rNes K) := h ▸ c_ne hu
theorem cK_in (h : X.K = K := by rfl) : OpR X (compareOp .In) (rIns K) := h ▸ c_in
theorem cK_ni (h : X.K = K := by rfl) : OpR X (compareOp .NotIn) (rNis K) := h ▸ c_ni
theorem ixK_seq (h : X.K = K := by rfl) : IxR X (rIx K) := h ▸ ix_seq
theorem slK_any (h : X.K = K := by rfl) : SlR X (rSlAny K) := h ▸ sl_any
theorem piK_list {tg l : Expr} {tl : TE} (hl : PE X l tl) (h : X.K = K := by rfl) : PI X tg l (iList K tl) := h ▸ pi_list hl
theorem piK_tup {tg l : Expr} {tl : TE} (hl : PE X l tl) (h : X.K = K := by rfl) : PI X tg l (iTup K tl) := h ▸ pi_tup hl
theorem piK_enum {e : Expr} {ta : TA} {p pos tpos : Pos} {elts : List Expr} {kk : Nat} (hg : Gl X "enumerate") (hm : X.mg "enumerate" = none) (ha : PA X [e] ta) (h : X.K = K := by rfl) (hs : starEach [e] X.env = [(false, eval e X.env)] := by rfl) :
    PI X (.Tuple elts kk tpos) (.Call (.Name "enumerate" p) [e] [] pos) (iEnum K ta) := h ▸ pi_enum hg hm ha hs
theorem piK_enumT {e : Expr} {ta : TA} {p pos tpos : Pos} {elts : List Expr} {kk : Nat} (hg : Gl X "enumerate") (hm : X.mg "enumerate" = none) (ha : PA X [e] ta) (h : X.K = K := by rfl) (hs : starEach [e] X.env = [(false, eval e X.env)] := by rfl) :
    PI X (.Tuple elts kk tpos) (.Call (.Name "enumerate" p) [e] [] pos) (iEnumT K ta) := h ▸ pi_enumT hg hm ha hs
theorem piK_zip {e e2 : Expr} {ta : TA} {p pos tpos : Pos} {elts : List Expr} {kk : Nat} (hg : Gl X "zip") (hm : X.mg "zip" = none) (ha : PA X [e, e2] ta) (h : X.K = K := by rfl)
    (hs : starEach [e, e2] X.env = (false, eval e X.env) :: starEach [e2] X.env := by rfl) (hpl : (backTo pos (starEach [e2] X.env)).any (·.1) = false := by rfl) :
    PI X (.Tuple elts kk tpos) (.Call (.Name "zip" p) [e, e2] [] pos) (iZip K ta) := h ▸ pi_zip hg hm ha hs hpl
theorem peK_fld {e : Expr} {f : Str} {ta : TE} {pos : Pos} (he : PE X e ta) (hb : attributeBase e f X.env (eval e X.env) = eval e X.env) (h : X.K = K := by rfl) : PE X (.Attribute e f pos) (tFld K ta f) := h ▸ pe_fld he hb
theorem psK_fld {o value : Expr} {f : Str} {ta tv : TE} {pos pos' : Pos} (ha : PE X o ta) (hv : PE X value tv) (hs : swapsWith value (some (.Attribute o f pos')) pos.line X.env = pure false) (h : X.K = K := by rfl) :
    PS X (.Assign [.Attribute o f pos'] value pos) (sFld K ta tv f) := h ▸ ps_fld ha hv hs
theorem pK_join {o e : Expr} {to te : TE} {apos pos : Pos} (ho : PE X o to) (he : PE X e te) (h : X.K = K := by rfl) (hs : starEach [e] X.env = [(false, eval e X.env)] := by rfl) (hbase : attributeBase o "join" X.env (eval o X.env) = eval o X.env := by rfl) (hline : (apos.endLine == pos.line) = true := by rfl) :
    PE X (.Call (.Attribute o "join" apos) [e] [] pos) (tM1 (rJoin K) to te) := h ▸ pe_joinK ho he hs hbase hline
theorem peK_bm {T : String} {name : Str} {id : String} {r : V → List V → Hp → VK → Prop} {o e : Expr} {es : List Expr} {to : TE} {t : TA} {apos cpos : Pos} (pa : PlainAttrs T) (slot : Slot T name id) (hty : typeOf (.builtin id) = pure (.type "method_descriptor")) (hm : MtR X id r) (ho : PE X o to) (ha : PA X (e :: es) t) (h : X.K = K := by rfl)
    (hbase : attributeBase o name X.env (eval o X.env) = eval o X.env := by rfl)
    (hfew : ((backTo cpos (starEach (e :: es) X.env)).all (fun x => !x.1) && (backToKw cpos (keywordEach [] X.env)).all (fun x => x.1.isSome)
      && decide ((e :: es).length + ([] : List Keyword).length + (if ([] : List Keyword).isEmpty then 0 else 1) < 30)) = true := by rfl)
    (hline : (apos.endLine == cpos.line) = true := by rfl) (hs : starEach (e :: es) X.env = (false, eval e X.env) :: starEach es X.env := by rfl) (hplain : (backTo cpos (starEach es X.env)).any (·.1) = false := by rfl) :
    PE X (.Call (.Attribute o name apos) (e :: es) [] cpos) (tBM K T r to t) := h ▸ pe_bm pa slot hty hm ho ha hbase hfew hline hs hplain
theorem peK_bm0 {T : String} {name : Str} {id : String} {r : V → List V → Hp → VK → Prop} {o : Expr} {to : TE} {apos cpos : Pos} (pa : PlainAttrs T) (slot : Slot T name id) (hty : typeOf (.builtin id) = pure (.type "method_descriptor")) (hm : MtR X id r) (ho : PE X o to) (h : X.K = K := by rfl)
    (hbase : attributeBase o name X.env (eval o X.env) = eval o X.env := by rfl) (hline : (apos.endLine == cpos.line) = true := by rfl) : PE X (.Call (.Attribute o name apos) [] [] cpos) (tBM0 K T r to) := h ▸ pe_bm0 pa slot hty hm ho hbase hline
theorem peK_bmS {T : String} {name : Str} {id : String} {r : L2.St → V → List V → Hp → VK → Prop} {o e : Expr} {es : List Expr} {to : TE} {t : TA} {apos cpos : Pos} (pa : PlainAttrs T) (slot : Slot T name id) (hty : typeOf (.builtin id) = pure (.type "method_descriptor")) (hm : MtS X id r) (ho : PE X o to) (ha : PA X (e :: es) t) (h : X.K = K := by rfl)
    (hbase : attributeBase o name X.env (eval o X.env) = eval o X.env := by rfl)
    (hfew : ((backTo cpos (starEach (e :: es) X.env)).all (fun x => !x.1) && (backToKw cpos (keywordEach [] X.env)).all (fun x => x.1.isSome)
      && decide ((e :: es).length + ([] : List Keyword).length + (if ([] : List Keyword).isEmpty then 0 else 1) < 30)) = true := by rfl)
    (hline : (apos.endLine == cpos.line) = true := by rfl) (hs : starEach (e :: es) X.env = (false, eval e X.env) :: starEach es X.env := by rfl) (hplain : (backTo cpos (starEach es X.env)).any (·.1) = false := by rfl) :
    PE X (.Call (.Attribute o name apos) (e :: es) [] cpos) (tBMS K T r to t) := h ▸ pe_bmS pa slot hty hm ho ha hbase hfew hline hs hplain
theorem s_BMS {T : String} {r : L2.St → V → List V → Hp → VK → Prop} {ta : TE} {t : TA} {σ : L2.St} {H : Hp} {Q : VK} (k : ta σ H fun x H1 => tyV K T x H1 ∧ t σ H1 fun xs H2 => r σ x xs H2 Q) : tBMS K T r ta t σ H Q := k
theorem s_index {W : WX} {σ : L2.St} {H : Hp} {Q : VK} {a b : Str} {k : Nat} (h : Txt.index0 a b = some k) (q : Q (.int (k : Nat)) H) : rIndexX W σ (.str a) [.str b] H Q :=
  ⟨a, b, rfl, rfl, fun j hj => by rw [h] at hj; cases hj; exact q, fun z => by rw [h] at z; cases z⟩
theorem pgK_tup {es : List Expr} {k : Nat} {t : TGs} {n : Nat} {pos : Pos} (hc : X.calm = true) (h' : PGs X es t) (h : X.K = K := by rfl)
    (hn : (assignEach es X.env).length = n := by rfl) (hst : (assignEach es X.env).findIdx? (·.1) = none := by rfl) : PG X (.Tuple es k pos) (gTup K n t) := h ▸ pg_tup hc h' hn hst
end
end Y

namespace Y
open PySem PySem.Spec L2 He
/-- what stands behind t, told beforehand -/
theorem s_cut {t u : TS} {D : Ends} {σ : L2.St} {H : Hp} (R : L2.St → Hp → Prop) (h : ∀ σ' H', R σ' H' → u D σ' H') (k : ∀ N : L2.St → Hp → Prop, (∀ σ' H', R σ' H' → N σ' H') → t { D with nx := N } σ H) : tSeq t u D σ H := k _ h
theorem s_gSub {to ti : TE} {r : TSet} {v : V} {σ : L2.St} {H : Hp} {Q : L2.St → Hp → Prop} (k : to σ H fun o H2 => ti σ H2 fun i H3 => r o i v H3 fun H4 => Q σ H4) : gSub to ti r v σ H Q := k
theorem walk_r0 {n : Nat} : Walk (Itr 0 n) n (fun _ => True) (fun i H x H' => H' = H ∧ x = .int (i : Nat)) := walk_range.mono (fun _ h => h) fun i H x H' _ _ y => ⟨y.1, by have z := y.2; dsimp only at z; rw [z, Int.zero_add]⟩
theorem pe_gC {X : Cx} {x : Str} {a : Addr} {pos : Pos} (hg : Gl X x) (hm : X.mg x = some (.ref a)) (hd : (x == ("__debug__" : Str)) = false := by decide) : PE X (.Name x pos) (tC (.ref a)) := pe_glob hg hm rfl hd
/-! ### a text cut at one sign -/
def cutAt (s : Nat) : List Nat → List Nat → List (List Nat)
  | acc, [] => [acc]
  | acc, c :: r => if c = s then acc :: cutAt s [] r else cutAt s (acc ++ [c]) r
theorem spl_one (s : Nat) : ∀ (acc l : List Nat), TL.spl [s] 0 acc l = cutAt s acc l
  | acc, [] => rfl
  | acc, c :: r => by
    by_cases h : c = s
    · rw [TL.spl_hit (by rw [h]; exact TL.pre_self [s] r)]
      show _ = if c = s then _ else _
      rw [if_pos h]
      exact congrArg _ (spl_one s [] r)
    · rw [TL.spl_miss (TL.pre_of_head _ _ h)]
      show _ = if c = s then _ else _
      rw [if_neg h]
      exact spl_one s _ r
/-- the sign of code s as a text -/
theorem split_one {x y : Str} {s : Nat} (hy : TL.tl y = [s]) (hk : s < 256) : (Txt.split x y).map TL.tl = cutAt s [] (TL.tl x) := by
  rw [TL.split_spl x y (by rw [hy]; simp) (TL.kind_ok (by
    rw [← Array.all_toList, show y.cps.toList = [s] from hy]
    simpa using hk)), hy]
  exact spl_one s [] _
theorem cutAt_ne (s : Nat) : ∀ (acc l : List Nat), cutAt s acc l ≠ []
  | acc, [] => by simp [cutAt]
  | acc, c :: r => by
    unfold cutAt
    split
    · simp
    · exact cutAt_ne s _ r
theorem cutAt_len (s : Nat) : ∀ (acc l : List Nat), (cutAt s acc l).length ≤ l.length + 1
  | acc, [] => by simp [cutAt]
  | acc, c :: r => by
    unfold cutAt
    split
    · have := cutAt_len s [] r
      simp only [List.length_cons]
      omega
    · have := cutAt_len s (acc ++ [c]) r
      simp only [List.length_cons]
      omega
theorem cutAt_mem (s : Nat) : ∀ (acc l : List Nat), ∀ p ∈ cutAt s acc l, p.length ≤ acc.length + l.length
  | acc, [], p, h => by
    rw [cutAt, List.mem_singleton] at h
    rw [h]
    simp
  | acc, c :: r, p, h => by
    unfold cutAt at h
    split at h
    · rcases List.mem_cons.mp h with h | h
      · rw [h]
        simp
      · have := cutAt_mem s [] r p h
        simp at this ⊢
        omega
    · have := cutAt_mem s (acc ++ [c]) r p h
      simp at this ⊢
      omega
/-- the first part has no separator, nor has any -/
theorem cutAt_free (s : Nat) : ∀ (acc l : List Nat), s ∉ acc → ∀ p ∈ cutAt s acc l, s ∉ p
  | acc, [], ha, p, h => by
    rw [cutAt, List.mem_singleton] at h
    rw [h]
    exact ha
  | acc, c :: r, ha, p, h => by
    unfold cutAt at h
    split at h
    · rcases List.mem_cons.mp h with h | h
      · rw [h]
        exact ha
      · exact cutAt_free s [] r (by simp) p h
    · rename_i hc
      refine cutAt_free s (acc ++ [c]) r ?_ p h
      intro z
      rcases List.mem_append.mp z with z | z
      · exact ha z
      · exact hc (List.mem_singleton.mp z).symm
theorem cutAt_none {s : Nat} : ∀ {acc l : List Nat}, s ∉ l → cutAt s acc l = [acc ++ l]
  | acc, [], _ => by simp [cutAt]
  | acc, c :: r, h => by
    have hc : ¬ c = s := fun e => h (by rw [e]; exact List.mem_cons_self ..)
    rw [cutAt, if_neg hc, cutAt_none (fun z => h (List.mem_cons_of_mem _ z)), List.append_assoc]
    rfl
theorem cutAt_app {s : Nat} : ∀ {acc l r : List Nat}, s ∉ l → cutAt s acc (l ++ s :: r) = (acc ++ l) :: cutAt s [] r
  | acc, [], r, _ => by simp [cutAt]
  | acc, c :: l, r, h => by
    have hc : ¬ c = s := fun e => h (by rw [e]; exact List.mem_cons_self ..)
    show cutAt s acc (c :: (l ++ s :: r)) = _
    rw [cutAt, if_neg hc, cutAt_app (fun z => h (List.mem_cons_of_mem _ z)), List.append_assoc]
    rfl
/-- the text again -/
theorem cutAt_join {s : Nat} : ∀ {acc l : List Nat}, TL.joinL [s] (cutAt s acc l) = acc ++ l
  | acc, [] => by simp [cutAt, TL.joinL]
  | acc, c :: r => by
    unfold cutAt
    split
    · rename_i hc
      have ih := cutAt_join (s := s) (acc := []) (l := r)
      cases h : cutAt s [] r with
      | nil => exact absurd h (cutAt_ne s [] r)
      | cons p q =>
        rw [h] at ih
        show acc ++ ([s] ++ TL.joinL [s] (p :: q)) = acc ++ c :: r
        rw [ih, hc]
        rfl
    · rw [cutAt_join, List.append_assoc]
      rfl
section
variable {x y : Str} {s : Nat}
theorem split_ne (hy : TL.tl y = [s]) (hk : s < 256) : Txt.split x y ≠ [] := fun e => by
  have h := split_one (x := x) hy hk
  rw [e] at h
  exact cutAt_ne s [] _ h.symm
theorem split_count (hy : TL.tl y = [s]) (hk : s < 256) : (Txt.split x y).length ≤ x.length + 1 := by
  have h := congrArg List.length (split_one (x := x) hy hk)
  rw [List.length_map] at h
  rw [h, TL.len_tl]
  exact cutAt_len s [] _
theorem split_part (hy : TL.tl y = [s]) (hk : s < 256) : ∀ p ∈ Txt.split x y, p.length ≤ x.length := fun p hp => by
  have h : TL.tl p ∈ (Txt.split x y).map TL.tl := List.mem_map_of_mem hp
  rw [split_one hy hk] at h
  have := cutAt_mem s [] _ _ h
  rw [TL.len_tl, TL.len_tl x]
  simpa using this
end
end Y

namespace Y
open PySem PySem.Spec L2 He
theorem jtNT {A B : Prop} {i : Decidable ((!true) = true)} (k : B) : @ite Prop ((!true) = true) i A B := by
  rw [if_neg (show ¬ (!true) = true from Bool.false_ne_true)]
  exact k
theorem jtNF {A B : Prop} {i : Decidable ((!false) = true)} (k : A) : @ite Prop ((!false) = true) i A B := by
  rw [if_pos (show (!false) = true from rfl)]
  exact k
/-- what any call may let out -/
def CXany : CXT := fun outer H s E u s' => ∃ (P : Program) (w : World), L2.CX P w outer H s E u s'
theorem fn_any {P : Program} {w : World} {K : PySem.W.Frag} {mg : Str → Option Value} {base : Heap} {k : Nat} {f : Addr} {fd : FuncData} {ps : List Str} {sp : Sp} (F : FnOk P w K mg base (L2.CX P w) k f fd ps sp) : FnOk P w K mg base CXany k f fd ps sp :=
  ⟨F.len, fun A outer s H args us vs Q E hr he hb hv hs => codeAny_mono (F.run A outer s H args us vs Q E hr he hb hv hs) fun r s' h => by
    cases r with
    | ok fl => cases fl <;> exact h
    | error e => exact ⟨P, w, h⟩⟩
theorem any_none (H : Hp) (s : Shared) (e : Value) (s' : Shared) : CXany [] H s (fun _ _ _ => False) e s' → False := by
  rintro ⟨P, w, a, B, H', cls, d, _, _, _, _, _, _, _, z⟩
  exact z
end Y

namespace Y
open PySem PySem.Spec L2 He
/-! ### methods -/
/-- the method m of the class at C keeps sp, at level k -/
def HasM (P : Program) (w : World) (K : PySem.W.Frag) (mg : Str → Option Value) (base : Heap) (k : Nat) (C : Addr) (m : Str) (sp : Sp) : Prop :=
  ∃ (f : Addr) (fd : FuncData) (ps : List Str), Meth K C m f ∧ PySem.W.fnIn K f = true ∧ Cls K C ∧ Binds K fd ps [] ∧ FnOk P w K mg base (L2.CX P w) k f fd ps sp
theorem HasM.mono {P : Program} {w : World} {K : PySem.W.Frag} {mg : Str → Option Value} {base : Heap} {j k : Nat} {C : Addr} {m : Str} {sp : Sp} (G : HasM P w K mg base j C m sp) (h : j ≤ k) : HasM P w K mg base k C m sp := by
  obtain ⟨f, fd, ps, h1, h2, h3, h4, h5⟩ := G
  exact ⟨f, fd, ps, h1, h2, h3, h4, h5.mono h⟩
theorem hasM_of {P : Program} {w : World} {K : PySem.W.Frag} {mg : Str → Option Value} {base : Heap} {x m qual : Str} {C : Addr} {params : Arguments} {body : List Stmt} {scope : Scope} {f : Addr} {N ps : List Str} {k : Nat} {sp : Sp}
    (F : ∃ fd, FunD K x qual params body scope [] [] f fd) (M : Meth K C m f) (c : Cls K C) (S : FnScope N ps scope)
    (hb : ∀ (kV doc pm : Value) (an : Option Addr) (cdv ct : Value) (us : List Value), us.length = ps.length → bindArgs (PySem.W.fnOf x qual params body scope .none kV doc pm an cdv ct) ⟨us, []⟩ = pure (ps.zip us))
    (len : ∀ vs H Q E, sp vs H Q E → vs.length = ps.length)
    (hbody : ∀ (f : Addr) (cdv : Value) (A : Around) (outer : List Env) (s : Shared) (H : Hp) (vs : List V) (Q : VK) (E : XK), Room k (A.deeper (PyProof.Rows.envOfC qual scope s.heap.objs.size f cdv)) → sp vs H Q E →
      ∃ t, PSs (cxOf (L2.CX P w) P w K mg base N qual scope f cdv A outer s H E) body t ∧ t { nx := fun _ H' => Q .non H', rt := Q } (start N vs) H) : HasM P w K mg base (k + 1) C m sp := by
  obtain ⟨fd, F⟩ := F
  have hfn : PySem.W.fnIn K f = true := by
    obtain ⟨oc, od, dV, kV, doc, pm, an, cdv, ct, osl, rfl, lk, _⟩ := F.ex
    unfold PySem.W.fnIn
    rw [lk]
  exact ⟨f, fd, ps, M, hfn, c, F.bindsN hb, F.ok S len fun cdv A outer s H vs Q E hr h => hbody f cdv A outer s H vs Q E hr h⟩
/-- o.m(e, ..), the error told by the slots -/
def tMethS (C : Addr) (m : Str) (sp : Sp) (E : L2.St → XK) (ta : TE) (t : TA) : TE := fun σ H Q => ta σ H fun x H1 => ∃ a dx fs, x = .ref a ∧ H1 a = some (.ins C dx fs) ∧ fs.lookup m = none ∧ t σ H1 fun vs H2 => sp (x :: vs) H2 Q (E σ)
/-- v(e, ..), v an instance with __call__ -/
def tCallO (C : Addr) (sp : Sp) (E : L2.St → XK) (ta : TE) (t : TA) : TE := fun σ H Q => ta σ H fun x H1 => ∃ a dx fs, x = .ref a ∧ H1 a = some (.ins C dx fs) ∧ t σ H1 fun vs H2 => H2 a = some (.ins C dx fs) ∧ sp (x :: vs) H2 Q (E σ)
section
variable {X : Cx} {W : WX} {k : Nat} {C : Addr} {m x : Str} {sp : Sp} {o e : Expr} {es : List Expr} {ta : TE} {t : TA} {apos p pos : Pos}
theorem pe_meth' {pl : Sem Bool} (G : HasM X.prog X.w X.K X.mg X.base k C m sp) (hr : Room k X.A) (tk : Takes X W) (he : PE X o ta) (ha : PA X (e :: es) t)
    (hst : starEach (e :: es) X.env = (false, eval e X.env) :: starEach es X.env := by rfl) (hpl : (backTo pos (starEach es X.env)).any (·.1) = false := by rfl)
    (ht : eval (.Call (.Attribute o m apos) (e :: es) [] pos) X.env = (do
      let ov ← eval o X.env
      standAt apos.atName
      let (f, first) ← holding [ov] (getMethod ov m pl)
      callWith pos f first (backTo pos (starEach (e :: es) X.env)) (backToKw pos (keywordEach [] X.env))) := by rfl) :
    PE X (.Call (.Attribute o m apos) (e :: es) [] pos) (tMethS C m sp (WE W) ta t) := by
  obtain ⟨f, fd, ps, hm, _, c, hb, F⟩ := G
  refine ⟨fun pins s σ H Q I h => ?_⟩
  refine PySem.W.methodCall_KW (pl := pl) (thn (he.run pins s σ H _ I h) fun u s1 z => ?_) ht
  obtain ⟨x, H1, I1, rx, a, dx, fs, ex, ea, l, q⟩ := z
  subst ex
  obtain rfl : u = Value.ref a := rx
  refine getmeth_ok I1 ea c hm l ?_
  refine PySem.W.callWith_K (first := [.ref a]) (h₀ := X.base) I.ok.mod.kin hm.kp (thn (ha.run pos pins s1 σ H1 _ I1 q) fun us s2 z2 => ?_) hst hpl
  obtain ⟨vs, H2, I2, r, q2⟩ := z2
  exact ⟨I2.kIn, run_fnS (us := .ref a :: us) (vs := .ref a :: vs) F hr hb (passAt tk σ) I2 (.cons rfl r) q2⟩
/-- a call of an instance, its arguments from the left; what its dict holds may have changed by then -/
theorem callWith_O {M : Model} {A : Around} {E : Value → Shared → Prop} {s : Shared} {ip : Pos} {xa : Addr} {ob : Obj} {Q : Value → Shared → Prop} {env : Env} (plain : ob.data = .plain)
    (hh : wpAny M A (spliced (backTo ip (starEach (e :: es) env))) (fun vs s1 => (∃ C od, PySem.W.InstAt s1.heap xa ob C od) ∧ wpAny M A (call (.ref xa) vs) Q E s1) E s)
    (h1 : starEach (e :: es) env = (false, eval e env) :: starEach es env) (h2 : (backTo ip (starEach es env)).any (·.1) = false) :
    wpAny M A (callWith ip (.ref xa) [] (backTo ip (starEach (e :: es) env)) []) Q E s := by
  rw [h1] at hh ⊢
  have np : ((backTo ip ((false, eval e env) :: starEach es env)).any (·.1) || ([] : List (Option Str × Sem Value)).any (·.1.isNone)) = false := by
    show ((false || (backTo ip (starEach es env)).any (·.1)) || false) = false
    rw [h2] <;> rfl
  unfold callWith
  refine wpAny_bind (wpAny_holding (wpAny_mono (Calls.evalArgs_plain (Q := fun av s1 => (∃ C od, PySem.W.InstAt s1.heap xa ob C od) ∧ wpAny M A (call (.ref xa) av.pos av.kw) Q E s1) hh) (fun av s1 hv => ?_) fun _ _ z => z))
  obtain ⟨⟨C1, od1, hi⟩, hc⟩ := hv
  refine wpAny_bind (wpAny_standAt ?_)
  have lk := PySem.W.kco_keeper (M := M) hi plain
  simp only [np]
  refine wpAny_bind (lk.here ?_)
  refine wpAny_bind (wpAny_mono (wpAny_operateT hc) (fun r s2 hr => ?_) fun _ _ z => z)
  exact wpAny_bind (wpAny_holding (wpAny_point (wpAny_pure hr)))
theorem pe_callO (G : HasM X.prog X.w X.K X.mg X.base k C "__call__" sp) (hr : Room k X.A) (tk : Takes X W) (hx : PE X (.Name x p) ta) (ha : PA X (e :: es) t)
    (he : starEach (e :: es) X.env = (false, eval e X.env) :: starEach es X.env := by rfl) (hpl : (backTo pos (starEach es X.env)).any (·.1) = false := by rfl) :
    PE X (.Call (.Name x p) (e :: es) [] pos) (tCallO C sp (WE W) ta t) := by
  obtain ⟨f, fd, ps, hm, hfn, c, hb, F⟩ := G
  refine ⟨fun pins s σ H Q I h => ?_⟩
  refine wpAny_Call_Name_kw (thn (hx.run pins s σ H _ I h) fun u s1 z => ?_)
  obtain ⟨xv, H1, I1, rx, a, dx, fs, ex, ea, q⟩ := z
  subst ex
  obtain rfl : u = Value.ref a := rx
  obtain ⟨mA, O, _⟩ := ins_get I1.hok ea
  obtain ⟨od, IA, _⟩ := O.look
  refine callWith_O (ob := PySem.W.instObj C dx) rfl (thn (ha.run pos pins s1 σ H1 _ I1 q) fun us s2 z2 => ?_) he hpl
  obtain ⟨vs, H2, I2, r, ea2, q2⟩ := z2
  obtain ⟨mA2, O2, _⟩ := ins_get I2.hok ea2
  obtain ⟨od2, IA2, _⟩ := O2.look
  refine ⟨⟨C, _, IA2⟩, ?_⟩
  have hl : (Value.ref a :: us).length = ps.length := by
    rw [show (Value.ref a :: us).length = (V.ref a :: vs).length by rw [List.length_cons, List.length_cons, r.length]]
    exact F.len _ _ _ _ q2
  have b := hb s2 (Value.ref a :: us) I2.kIn (by rw [List.append_nil]; exact hl)
  rw [List.append_nil] at b
  show wpAny (model X.prog X.w) X.A (call (.ref a) us) (EP X pins σ Q) X.xe s2
  refine wpAny_call (PySem.W.kco_code (a := ⟨us, []⟩) I2.kIn IA2 rfl hm.at_ hm.fn hfn (codeAny_mono (F.run X.A X.stack s2 H2 ⟨.ref a :: us, []⟩ (.ref a :: us) (.ref a :: vs) Q (WE W σ) hr I2.env0 b (.cons rfl r) q2) fun rr s' hq => ?_))
  cases rr with
  | error e => exact passAt tk σ pins H2 s2 e s' I2 hq
  | ok fl =>
    cases fl with
    | ret u => exact I2.after hq
    | next => exact False.elim hq
    | brk => exact False.elim hq
    | cont => exact False.elim hq
end
end Y

namespace Y
open PySem PySem.Spec L2 He
/-! ### a def called within an except suite, the caught error handed to it -/
structure FnQ (P : Program) (w : World) (K : PySem.W.Frag) (mg : Str → Option Value) (base : Heap) (p : Addr × Obj) (k : Nat) (f : Addr) (fd : FuncData) (ps : List Str) (sp : Sp) : Prop where
  len : ∀ vs H Q E, sp vs H Q E → vs.length = ps.length
  run : ∀ (A : Around) (outer : List Env) (s : Shared) (H : Hp) (args : Args) (us : List Value) (vs : List V) (Q : VK) (E : XK), L2H.RoomH k A → L2H.PinOk outer H s p → Env0 P w K mg base A outer s H → BindsTo s fd args (ps.zip us) → Vals vs us → sp vs H Q E →
    codeAny (model P w) A (.call (.ref f) args) (CR (L2.CX P w) outer P w H s Q E) s
/-- the def named x, so called -/
def HasQ (P : Program) (w : World) (K : PySem.W.Frag) (mg : Str → Option Value) (base : Heap) (p : Addr × Obj) (k : Nat) (x : Str) (sp : Sp) : Prop :=
  ∃ (f : Addr) (fd : FuncData) (ps : List Str), mg x = some (.ref f) ∧ PySem.W.keepIn K (.ref f) = true ∧ Binds K fd ps [] ∧ FnQ P w K mg base p k f fd ps sp
theorem hasQ_of {P : Program} {w : World} {K : PySem.W.Frag} {mg : Str → Option Value} {base : Heap} {p : Addr × Obj} {x qual : Str} {params : Arguments} {body : List Stmt} {scope : Scope} {f : Addr} {N ps : List Str} {k : Nat} {sp : Sp}
    (F : ∃ fd, FunD K x qual params body scope [] [] f fd) (g : mg x = some (.ref f)) (S : FnScope N ps scope)
    (hb : ∀ (kV doc pm : Value) (an : Option Addr) (cdv ct : Value) (us : List Value), us.length = ps.length → bindArgs (PySem.W.fnOf x qual params body scope .none kV doc pm an cdv ct) ⟨us, []⟩ = pure (ps.zip us))
    (len : ∀ vs H Q E, sp vs H Q E → vs.length = ps.length)
    (hbody : ∀ (f : Addr) (cdv : Value) (A : Around) (outer : List Env) (s : Shared) (H : Hp) (vs : List V) (Q : VK) (E : XK), L2H.RoomH k (A.deeper (PyProof.Rows.envOfC qual scope s.heap.objs.size f cdv)) → sp vs H Q E →
      ∃ t, PSs (L2H.cxH (L2.CX P w) P w K mg base N qual scope f cdv A outer s H E p) body t ∧ t { nx := fun _ H' => Q .non H', rt := Q } (start N vs) H) : HasQ P w K mg base p (k + 1) x sp := by
  obtain ⟨fd, F⟩ := F
  refine ⟨f, fd, ps, g, F.kp, F.bindsN hb, len, fun A outer s H args us vs Q E hr hpin e0 hbd r hsp => ?_⟩
  obtain ⟨oc, od, dV, kV, doc, pm, an, cdv, ct, osl, rfl, lk, hcd, _, _⟩ := F.ex
  have hl := len _ _ _ _ hsp
  have KX : K.In s.heap := e0.mod.kin.keeps fun b o e => (e0.bs b o e).1
  have lim : s.heap.NoLimit := e0.mod.nolimit.keeps fun b o e => (e0.bs b o e).1
  have hkind : ∀ y ∈ ps.zip us, scope.names.lookup y.1 = some .local ∨ (scope.names.lookup y.1 = some .cell ∧ ((cellsFrom (s.heap.objs.size + 1) scope.names []).lookup y.1).isSome = true) := by
    intro y hy
    obtain ⟨n, v⟩ := y
    cases S.par n (List.of_mem_zip hy).1 with
    | inl q => exact .inl q
    | inr q => exact .inr ⟨q, PySem.W.cellsFrom_some _ _ _ (.inl q)⟩
  refine codeAny_call_function hr.depth (KX _ _ lk) rfl S.co S.gen rfl (PySem.W.codeRec_of KX hcd) (hbd _ _ _ _ ?_)
  refine wpAny_newFunctionEnv_cells S.kind hkind fun env he s1 x => ?_
  subst he
  refine ⟨lim.keeps x.toInCall.keep, codeAny_func ?_⟩
  obtain ⟨t, ht, hq⟩ := hbody f cdv A outer s H vs Q E (hr.deeper _) hsp
  have I : Inv (L2H.cxH (L2.CX P w) P w K mg base N qual scope f cdv A outer s H E p) [] (L2.start N vs) H s1 := L2H.inv_startH S hpin e0 hl r x
  refine wpAny_mono (ht.run [] s1 (L2.start N vs) H _ I hq) (fun fl s' hs => ?_) fun e s' hs => hs
  cases fl with
  | ret u =>
    obtain ⟨v, σ', H', J, rv, q⟩ := hs
    exact ⟨v, H', J.os, J.bare, J.base, J.hok, rv, q⟩
  | next =>
    obtain ⟨σ', H', J, q⟩ := hs
    exact ⟨V.non, H', J.os, J.bare, J.base, J.hok, rfl, q⟩
  | brk =>
    obtain ⟨_, _, _, q⟩ := hs
    exact False.elim q
  | cont =>
    obtain ⟨_, _, _, q⟩ := hs
    exact False.elim q
section
variable {X : Cx} {W : WX} {k : Nat} {x : Str} {sp : Sp} {e : Expr} {es : List Expr} {t : TA} {q pos : Pos} {p : Addr × Obj}
theorem pe_hasQ (G : HasQ X.prog X.w X.K X.mg X.base p k x sp) (hp : p ∈ X.pn) (hr : L2H.RoomH k X.A) (tk : Takes X W) (hg : Gl X x) (ha : PA X (e :: es) t)
    (hdb : (x == ("__debug__" : Str)) = false := by decide) (he : starEach (e :: es) X.env = (false, eval e X.env) :: starEach es X.env := by rfl) (hpl : (backTo pos (starEach es X.env)).any (·.1) = false := by rfl) :
    PE X (.Call (.Name x q) (e :: es) [] pos) (tCallS sp (WE W) t) := by
  obtain ⟨f, fd, ps, h1, h2, h3, F⟩ := G
  refine ⟨fun pins s σ H Q I h => ?_⟩
  refine wpAny_Call_Name_kw (ld_glob I hg h1 ?_ hdb)
  refine PySem.W.callWith_K (h₀ := X.base) I.ok.mod.kin h2 (thn (ha.run pos pins s σ H _ I h) fun us s1 z => ?_) he hpl
  obtain ⟨vs, H1, I1, r, qq⟩ := z
  refine ⟨I1.kIn, ?_⟩
  have hl : us.length = ps.length := by rw [← r.length]; exact F.len _ _ _ _ qq
  have b := h3 s1 us I1.kIn (by rw [List.append_nil]; exact hl)
  rw [List.append_nil] at b
  have P1 := I1.pin p (List.mem_append_left _ hp)
  have hpin : L2H.PinOk X.stack H1 s1 p := ⟨P1.1, P1.2.1, fun hm => (List.mem_cons.mp (I1.stkSub p.1 hm)).elim P1.2.2.1 P1.2.2.2.1, P1.2.2.2.2⟩
  refine wpAny_call (codeAny_mono (F.run X.A X.stack s1 H1 ⟨us, []⟩ us vs Q (WE W σ) hr hpin I1.env0 b r qq) fun rr s' hq => ?_)
  cases rr with
  | error e => exact passAt tk σ pins H1 s1 e s' I1 hq
  | ok fl =>
    cases fl with
    | ret u => exact I1.after hq
    | next => exact False.elim hq
    | brk => exact False.elim hq
    | cont => exact False.elim hq
/-! ### the caught error, wherever it is pinned -/
theorem inst_ofG {a D : Addr} {oe : Obj} {d : Option Addr} {pins : List (Addr × Obj)} {σ : L2.St} {H : Hp} {s : Shared} (hp : (a, oe) ∈ X.pn) (I : Inv X pins σ H s) (hz : Zc (.ref D) d oe) (hf : ∃ vs, oe.data = .fields vs) (hd : DOk H d) : ∃ od, PySem.W.InstAt s.heap a oe D od := by
  obtain ⟨hget, _⟩ := I.pin (a, oe) (List.mem_append.mpr (.inl hp))
  obtain ⟨vs, hv⟩ := hf
  obtain ⟨oc, odd, oda, osl⟩ := oe
  obtain ⟨h1, h2⟩ := hz
  dsimp only at h1 h2 hv
  subst h1 h2 hv
  cases odd with
  | none => exact ⟨none, hget, rfl, rfl, trivial⟩
  | some dd =>
    obtain ⟨fs, hfs⟩ := hd
    obtain ⟨mA, ⟨o, es, ep, ho, _⟩, _⟩ := (show ObjOk X.prog X.w H s.heap dd (.xd fs) from I.hok dd _ hfs)
    exact ⟨some o, hget, rfl, rfl, ho⟩
theorem call_isG {a : Addr} {oe : Obj} {cls : Value} {d : Option Addr} (hp : (a, oe) ∈ X.pn) (hz : Zc cls d oe) (hf : ∃ vs, oe.data = .fields vs) : CallR X (.builtin "isinstance") (rIsX X.K a cls d) := by
  intro pins s σ H xs us Q I r h
  obtain ⟨D, c, cv, b, ec, C, rfl, hcv, e, hd, q⟩ := h
  subst ec
  obtain ⟨u1, u2, rfl, r1, r2⟩ := vals2 r
  have e2 := hcv.eq r2
  subst e2
  cases (show u1 = Value.ref a from r1)
  exact PySem.W.kia_one (kitx_excD (ox := oe) C) I.kIn (inst_ofG hp I hz hf hd) e (fun z => nomatch z) fun tk => ⟨.bl b, H, I.kept (t' := tk) fun _ _ z => z, rfl, q⟩
theorem call_isGT {a : Addr} {oe : Obj} {cls : Value} {d : Option Addr} (hp : (a, oe) ∈ X.pn) (hz : Zc cls d oe) (hf : ∃ vs, oe.data = .fields vs) : CallR X (.builtin "isinstance") (rIsXT X.K a cls d) := by
  intro pins s σ H xs us Q I r h
  obtain ⟨D, tp, cs, ws, b, ec, C, rfl, hT, k, e, hd, q⟩ := h
  subst ec
  obtain ⟨u1, u2, rfl, r1, r2⟩ := vals2 r
  cases (show u1 = Value.ref a from r1)
  cases (show u2 = Value.ref tp from r2)
  obtain ⟨_, its, rv, o, h1, h2, n, h3⟩ := (show ObjOk X.prog X.w H s.heap tp (.tup cs) from I.hok tp _ hT)
  have e3 := ClsV.all k rv
  subst e3
  obtain ⟨oc, od, dt, sl⟩ := o
  simp only at h2 h3
  subst h2 h3
  exact PySem.W.kia_tup (kitx_excD (ox := oe) C) I.kIn (inst_ofG hp I hz hf hd) h1 e (fun z => nomatch z) fun tk => ⟨.bl b, H, I.kept (t' := tk) fun _ _ z => z, rfl, q⟩
theorem pe_xfG {a : Addr} {oe : Obj} {cls : Value} {d : Option Addr} {te : TE} {n : Str} (hp : (a, oe) ∈ X.pn) (hz : Zc cls d oe) (hf : ∃ vs, oe.data = .fields vs) (he : PE X e te) (hb : attributeBase e n X.env (eval e X.env) = eval e X.env := by rfl) :
    PE X (.Attribute e n pos) (tXfE X.K a cls d n te) := by
  refine ⟨fun pins s σ H Q I h => ?_⟩
  refine attr_of hb (thn (he.run pins s σ H _ I h) fun u s1 hh => ?_)
  obtain ⟨x, H1, I1, rx, C, ec, T, hno, ex, dd, fs, v, ed, ea, l, q⟩ := hh
  subst ex ec ed
  obtain rfl : u = Value.ref a := rx
  obtain ⟨ha, _⟩ := I1.pin (a, oe) (List.mem_append_left _ hp)
  obtain ⟨vs, hd⟩ := hf
  have hx : ObjOk X.prog X.w H1 s1.heap dd (.xd fs) := I1.hok dd _ ea
  obtain ⟨mA, hns, hr⟩ := hx
  obtain ⟨od, ho, hl⟩ := lookIn_ns hns
  obtain ⟨u, hu, ru⟩ := RelO.some_of (v := v) (o := mA n) (by rw [← l]; exact hr n)
  have J : PySem.W.InstAt s1.heap a oe C (some od) := ⟨ha, hz.1, by unfold PySem.W.notCls; rw [hd] <;> rfl, by rw [hz.2]; exact ho⟩
  exact HandSPX.exc_get I1.kIn J T.ga T.gg T.exC (PySem.W.findObj_own T.hdC hno rfl (by rw [hl, hu])) (handed_of ru) ⟨v, H1, I1.tok _, ru, q⟩
end
end Y

namespace Y
open PySem PySem.Spec L2 He
/-! ### small facts -/
theorem le1000 {n : Nat} (h : n ≤ 1000) : n ≤ sizeLine := Nat.le_of_lt (small1000 h)
theorem leBig {n : Nat} (h : n ≤ 16000000) : n ≤ sizeLine := Nat.le_trans h (by decide)
theorem ltBig {n : Nat} (h : n ≤ 16000000) : n < sizeLine := Nat.lt_of_le_of_lt h (by decide)
theorem app_len (a b : Str) : (a ++ b).length = a.length + b.length := Array.size_append
theorem getD_at {l : List Nat} {i : Nat} (h : i < l.length) : l.getD i 0 = l[i] := by
  rw [List.getD_eq_getElem?_getD, List.getElem?_eq_getElem h]
  rfl
theorem str_ne {z : Str} (h : z ≠ "") : ∃ c r, z.cps.toList = c :: r := by
  cases e : z.cps.toList with
  | nil =>
    refine absurd ?_ h
    obtain ⟨⟨l⟩⟩ := z
    have : l = [] := e
    subst this
    rfl
  | cons c r => exact ⟨c, r, rfl⟩
theorem same_new {D : Hp} {p : Addr} {o : HO} (h : D p = none) : Same D (upd D p o) := fun b u e => by
  have : b ≠ p := fun z => by rw [z, h] at e; cases e
  exact (upd_ne this).trans e
theorem len_list (z : Str) : z.cps.toList.length = z.length := by simp [Str.length]
/-! ### dicts with text keys -/
section
variable {α : Type}
def getS (t : List (Str × α)) (k : Str) : Option α := (t.find? fun p => decide (p.1 = k)).map (·.2)
def putS (t : List (Str × α)) (k : Str) (v : α) : List (Str × α) := if (t.any fun p => decide (p.1 = k)) = true then t.map (fun p => if p.1 = k then (p.1, v) else p) else t ++ [(k, v)]
/-- the entries kvs stand for t, values by R -/
inductive KvR (R : V → α → Prop) : List (Key × V) → List (Str × α) → Prop where
  | nil : KvR R [] []
  | cons {k : Str} {v : V} {y : α} {kvs : List (Key × V)} {t : List (Str × α)} : R v y → KvR R kvs t → KvR R ((Sum.inr k, v) :: kvs) ((k, y) :: t)
variable {R R' : V → α → Prop}
theorem KvR.mono (h : ∀ v y, R v y → R' v y) : ∀ {kvs : List (Key × V)} {t : List (Str × α)}, KvR R kvs t → KvR R' kvs t
  | _, _, .nil => .nil
  | _, _, .cons r s => .cons (h _ _ r) (KvR.mono h s)
theorem KvR.len : ∀ {kvs : List (Key × V)} {t : List (Str × α)}, KvR R kvs t → kvs.length = t.length
  | _, _, .nil => rfl
  | _, _, .cons _ s => congrArg (· + 1) s.len
theorem inr_iff {a b : Str} : ((Sum.inr a : Key) = Sum.inr b) ↔ a = b := ⟨fun h => Sum.inr.inj h, fun h => by rw [h]⟩
theorem KvR.any (k : Str) : ∀ {kvs : List (Key × V)} {t : List (Str × α)}, KvR R kvs t → (kvs.any fun p => decide (p.1 = Sum.inr k)) = t.any fun p => decide (p.1 = k)
  | _, _, .nil => rfl
  | _, _, .cons (k := a) _ s => by
    rw [List.any_cons, List.any_cons, s.any k]
    congr 1
    exact decide_eq_decide.mpr inr_iff
theorem KvR.get (k : Str) : ∀ {kvs : List (Key × V)} {t : List (Str × α)}, KvR R kvs t → (valV kvs (Sum.inr k) = none ∧ getS t k = none) ∨ ∃ v y, valV kvs (Sum.inr k) = some v ∧ getS t k = some y ∧ R v y
  | _, _, .nil => .inl ⟨rfl, rfl⟩
  | _, _, .cons (k := a) (v := v) (y := y) (kvs := kvs) (t := t) r s => by
    by_cases h : a = k
    · refine .inr ⟨v, y, valV_pos (inr_iff.mpr h), ?_, r⟩
      unfold getS
      rw [List.find?_cons_of_pos (by simpa using h)]
      rfl
    · have e1 : valV ((Sum.inr a, v) :: kvs) (Sum.inr k) = valV kvs (Sum.inr k) := valV_neg fun z => h (inr_iff.mp z)
      have e2 : getS ((a, y) :: t) k = getS t k := by
        unfold getS
        rw [List.find?_cons_of_neg (by simpa using h)]
      rw [e1, e2]
      exact s.get k
theorem KvR.snoc {k : Str} {v : V} {y : α} (r : R v y) : ∀ {kvs : List (Key × V)} {t : List (Str × α)}, KvR R kvs t → KvR R (kvs ++ [(Sum.inr k, v)]) (t ++ [(k, y)])
  | _, _, .nil => .cons r .nil
  | _, _, .cons r1 s => .cons r1 (s.snoc r)
theorem KvR.map {k : Str} {v : V} {y : α} (r : R v y) : ∀ {kvs : List (Key × V)} {t : List (Str × α)}, KvR R kvs t → KvR R (kvs.map fun p => if p.1 = Sum.inr k then (p.1, v) else p) (t.map fun p => if p.1 = k then (p.1, y) else p)
  | _, _, .nil => .nil
  | _, _, .cons (k := a) r1 s => by
    rw [List.map_cons, List.map_cons]
    by_cases h : a = k
    · rw [if_pos (inr_iff.mpr h), if_pos h]
      exact .cons r (s.map r)
    · rw [if_neg fun z => h (inr_iff.mp z), if_neg h]
      exact .cons r1 (s.map r)
theorem KvR.put {k : Str} {v : V} {y : α} (r : R v y) {kvs : List (Key × V)} {t : List (Str × α)} (s : KvR R kvs t) : KvR R (putK kvs (Sum.inr k) v) (putS t k y) := by
  unfold putK putS
  rw [s.any k]
  split
  · exact s.map r
  · exact s.snoc r
theorem putS_len (t : List (Str × α)) (k : Str) (v : α) : (putS t k v).length ≤ t.length + 1 := by
  unfold putS
  split
  · rw [List.length_map]
    omega
  · simp
theorem getS_any (t : List (Str × α)) (k : Str) : (t.any fun p => decide (p.1 = k)) = (getS t k).isSome := by
  induction t with
  | nil => rfl
  | cons p r ih =>
    unfold getS at *
    rw [List.any_cons, ih, List.find?_cons]
    by_cases h : p.1 = k
    · simp [h]
    · simp [h]
theorem getS_cons (p : Str × α) (r : List (Str × α)) (k : Str) : getS (p :: r) k = if p.1 = k then some p.2 else getS r k := by
  unfold getS
  rw [List.find?_cons]
  by_cases h : p.1 = k
  · simp [h]
  · simp [h]
theorem getS_put (t : List (Str × α)) (k j : Str) (v : α) : getS (putS t k v) j = if j = k then some v else getS t j := by
  unfold putS
  rw [getS_any]
  split
  · rename_i h
    induction t with
    | nil => cases h
    | cons p r ih =>
      rw [List.map_cons, getS_cons, getS_cons]
      rw [getS_cons] at h
      by_cases hp : p.1 = k
      · rw [if_pos hp]
        dsimp only
        by_cases hj : j = k
        · rw [if_pos (hp.trans hj.symm), if_pos hj]
        · rw [if_neg fun z => hj (z.symm.trans hp), if_neg hj, if_neg fun z => hj (z.symm.trans hp)]
          have : ∀ l : List (Str × α), getS (l.map fun p => if p.1 = k then (p.1, v) else p) j = getS l j := by
            intro l
            induction l with
            | nil => rfl
            | cons q l ih2 =>
              rw [List.map_cons, getS_cons, getS_cons, ih2]
              by_cases hq : q.1 = k
              · rw [if_pos hq]
                dsimp only
                rw [if_neg fun z => hj (z.symm.trans hq), if_neg fun z => hj (z.symm.trans hq)]
              · rw [if_neg hq]
          exact this r
      · rw [if_neg hp] at h ⊢
        by_cases hj : p.1 = j
        · rw [if_pos hj, if_neg fun z => hp (hj.trans z), if_pos hj]
        · rw [if_neg hj, ih h, if_neg hj]
  · rename_i h
    have h0 : getS t k = none := by
      cases e : getS t k with
      | none => rfl
      | some y => rw [e] at h; exact absurd rfl h
    induction t with
    | nil =>
      rw [List.nil_append, getS_cons]
      by_cases hj : j = k
      · rw [if_pos hj.symm, if_pos hj]
      · rw [if_neg fun z => hj z.symm, if_neg hj]
    | cons p r ih =>
      rw [List.cons_append, getS_cons, getS_cons]
      rw [getS_cons] at h0
      by_cases hp : p.1 = k
      · rw [if_pos hp] at h0
        cases h0
      · rw [if_neg hp] at h0
        by_cases hj : p.1 = j
        · rw [if_pos hj, if_neg fun z => hp (hj.trans z), if_pos hj]
        · rw [if_neg hj, if_neg hj]
          exact ih (by rw [h0]; exact Bool.false_ne_true) h0
end
end Y

namespace Y
open PySem PySem.Spec L2 He
/-- C(e, ..), the error told by the slots -/
def tMakeS (C : Addr) (sp : Sp) (E : L2.St → XK) (t : TA) : TE := fun σ H Q => t σ H fun vs H1 => ∀ x dx, H1 x = none → H1 dx = none → dx ≠ x →
  sp (.ref x :: vs) (upd (upd H1 dx (.own x)) x (.ins C dx [])) (fun v H2 => v = .non ∧ Q (.ref x) H2) (E σ)
theorem s_makeS {C : Addr} {sp : Sp} {E : L2.St → XK} {t : TA} {σ : L2.St} {H : Hp} {Q : VK} (k : t σ H fun vs H1 => ∀ x dx, H1 x = none → H1 dx = none → dx ≠ x →
  sp (.ref x :: vs) (upd (upd H1 dx (.own x)) x (.ins C dx [])) (fun v H2 => v = .non ∧ Q (.ref x) H2) (E σ)) : tMakeS C sp E t σ H Q := k
section
variable {X : Cx} {W : WX} {k : Nat} {x : Str} {C : Addr} {sp : Sp} {e : Expr} {es : List Expr} {t : TA} {p pos : Pos}
theorem pe_mkS (G : HasC X.prog X.w X.K X.mg X.base k x C sp) (hr : Room (k + 1) X.A) (tk : Takes X W) (hg : Gl X x) (ha : PA X (e :: es) t)
    (hdb : (x == ("__debug__" : Str)) = false := by decide) (he : starEach (e :: es) X.env = (false, eval e X.env) :: starEach es X.env := by rfl) (hpl : (backTo pos (starEach es X.env)).any (·.1) = false := by rfl) :
    PE X (.Call (.Name x p) (e :: es) [] pos) (tMakeS C sp (WE W) t) := by
  obtain ⟨f, fd, ps, hm, M, hb, F⟩ := G
  refine ⟨fun pins s σ H Q I h => ?_⟩
  refine wpAny_Call_Name_kw (ld_glob I hg hm ?_ hdb)
  refine PySem.W.callWith_K (h₀ := X.base) I.ok.mod.kin M.kp (thn (ha.run pos pins s σ H _ I h) fun us s1 z => ?_) he hpl
  obtain ⟨vs, H1, I1, r, q⟩ := z
  refine ⟨I1.kIn, ?_⟩
  have hq := q (s1.heap.objs.size + 1) s1.heap.objs.size (I1.hok.fresh (Nat.le_succ _)) (I1.hok.fresh (Nat.le_refl _)) (Nat.ne_of_lt (Nat.lt_succ_self _))
  have J := Inv.made (C := C) I1
  have r2 : Vals (V.ref (s1.heap.objs.size + 1) :: vs) (Value.ref (s1.heap.objs.size + 1) :: us) := .cons rfl r
  have hl : (Value.ref (s1.heap.objs.size + 1) :: us).length = ps.length := r2.length.symm.trans (F.len _ _ _ _ hq)
  have bb := hb _ (Value.ref (s1.heap.objs.size + 1) :: us) J.kIn (by rw [List.append_nil]; exact hl)
  rw [List.append_nil] at bb
  refine wpAny_call (make_map (f := f) I1.kIn M.makes M.init (beq_iff_eq.mp M.fn) (codeAny_mono (F.run _ X.stack _ _ ⟨Value.ref (s1.heap.objs.size + 1) :: us, []⟩ _ _ _ (WE W σ) (hr.make C us []) (J.env0.make C us []) bb r2 hq) fun rr s' hq' => ?_))
  match rr, hq' with
  | .error e, hq' => exact passAt tk σ pins _ _ e s' J hq'
  | .ok (.ret u), hq' =>
    obtain ⟨v, H', I3, rv, ev, q3⟩ := J.after hq'
    subst ev
    exact ⟨rv, V.ref (s1.heap.objs.size + 1), H', I3, rfl, q3⟩
theorem s_methS {m : Str} {E : L2.St → XK} {ta : TE} {σ : L2.St} {H : Hp} {Q : VK} (k : ta σ H fun x H1 => ∃ a dx fs, x = .ref a ∧ H1 a = some (.ins C dx fs) ∧ fs.lookup m = none ∧ t σ H1 fun vs H2 => sp (x :: vs) H2 Q (E σ)) : tMethS C m sp E ta t σ H Q := k
theorem s_callO {E : L2.St → XK} {ta : TE} {σ : L2.St} {H : Hp} {Q : VK} (k : ta σ H fun x H1 => ∃ a dx fs, x = .ref a ∧ H1 a = some (.ins C dx fs) ∧ t σ H1 fun vs H2 => H2 a = some (.ins C dx fs) ∧ sp (x :: vs) H2 Q (E σ)) : tCallO C sp E ta t σ H Q := k
theorem pe_gT {T : String} (hg : Gl X x) (hm : X.mg x = none) (hv : bootBuiltins x = some (.type T)) (hn : x ≠ "__name__" := by decide) (hd : (x == ("__debug__" : Str)) = false := by decide) : PE X (.Name x p) (tC (.ty T)) := pe_bltn hg hm hv rfl hn hd
end
/-! dict steps -/
section
variable {α : Type} {R : V → α → Prop} {σ : L2.St} {H : Hp} {Q : VK} {a : Addr} {td ty tx : TE} {kvs : List (Key × V)} {t : List (Str × α)} {k : Str} {v : V} {y : α}
theorem s_dnew (q : ∀ p, H p = none → Q (.ref p) (upd H p (.dK []))) : tDNewK σ H Q := q
theorem s_dget (q : td σ H fun x H1 => ty σ H1 fun y H2 => ∃ a v, x = .ref a ∧ DGet H2 a y (some v) ∧ Q v H2) : tDGet td ty σ H Q := q
theorem s_din (q : ty σ H fun y H1 => td σ H1 fun x H2 => ∃ a o, x = .ref a ∧ DGet H2 a y o ∧ Q (.bl o.isSome) H2) : tDIn ty td σ H Q := q
theorem s_dnin (q : ty σ H fun y H1 => td σ H1 fun x H2 => ∃ a o, x = .ref a ∧ DGet H2 a y o ∧ Q (.bl (!o.isSome)) H2) : tDNotIn ty td σ H Q := q
theorem s_dput {D : Ends} {tv : TE} (q : tv σ H fun v H1 => td σ H1 fun x H2 => ty σ H2 fun y H3 => ∃ a H4, x = .ref a ∧ DPut H3 a y v H4 ∧ D.nx σ H4) : sDPut td ty tv D σ H := q
theorem s_dsetd (q : td σ H fun x H1 => ∃ a, x = .ref a ∧ IsD H1 a ∧ ty σ H1 fun y H2 => tx σ H2 fun z H3 => ∃ (kvs : List (Key × V)) (k : Key), H3 a = some (.dK kvs) ∧ y = kV k ∧ kvs.length < sizeLine ∧
  (∀ v, valV kvs k = some v → Q v H3) ∧ (valV kvs k = none → Q z (upd H3 a (.dK (putK kvs k z))))) : tDSetd td ty tx σ H Q := q
theorem s_dget2 (q : td σ H fun x H1 => ∃ a, x = .ref a ∧ IsD H1 a ∧ ty σ H1 fun y H2 => tx σ H2 fun z H3 => ∃ o, DGet H3 a y o ∧ Q (o.getD z) H3) : tDGet2 td ty tx σ H Q := q
/-- a look into a dict -/
theorem dgetS (h : H a = some (.dK kvs)) (r : KvR R kvs t) (k : Str) : (DGet H a (.str k) none ∧ getS t k = none) ∨ ∃ v y, DGet H a (.str k) (some v) ∧ getS t k = some y ∧ R v y := by
  have d : DGet H a (.str k) (valV kvs (Sum.inr k)) := DGet.k (k := Sum.inr k) h
  rcases r.get k with ⟨h1, h2⟩ | ⟨v, y, h1, h2, h3⟩
  · rw [h1] at d
    exact .inl ⟨d, h2⟩
  · rw [h1] at d
    exact .inr ⟨v, y, d, h2, h3⟩
theorem dputS (h : H a = some (.dK kvs)) (hl : kvs.length < sizeLine) : DPut H a (.str k) v (upd H a (.dK (putK kvs (Sum.inr k) v))) := DPut.k (k := Sum.inr k) h hl
theorem isDS (h : H a = some (.dK kvs)) : IsD H a := .inl ⟨kvs, .inl h⟩
end
end Y

namespace Y
open PySem PySem.Spec L2 He
/-! ### a text so many times -/
def rRepS : R2 := fun x y H Q => ∃ i n, x = .str i ∧ y = .int n ∧ MulOk i n ∧ Q (.str (Txt.mul i n)) H
theorem op_repS {X : Cx} : OpR X (binaryOp .Mult) rRepS := by
  intro pins s σ H x y v u Q I rx ry h
  obtain ⟨i, n, rfl, rfl, hok, q⟩ := h
  obtain ⟨t, rfl⟩ := rx
  obtain ⟨t', rfl⟩ := ry
  exact SB.mul hok fun t' tk => ⟨.str (Txt.mul i n), H, I.tok _, ⟨_, rfl⟩, q⟩
def rTimesX : R2 := fun x y H Q => rTimes x y H Q ∨ rRepS x y H Q
theorem oX_mul {X : Cx} : OpR X (binaryOp .Mult) rTimesX := OpR.or op_mul op_repS
theorem mulOk_one {c : Nat} {n : Int} (h0 : 0 ≤ n) (h1 : n ≤ 1000) : MulOk ⟨#[c]⟩ n := by
  have l : (⟨#[c]⟩ : Str).length = 1 := rfl
  refine ⟨?_, fun h2 _ => ?_, fun h2 _ => ?_⟩
  · rw [decide_eq_false (by omega), decide_eq_false (by omega)]
    rfl
  · rw [l]
    have : (1 : Int) ≤ (2 ^ 63 - 1) / n := (Int.le_ediv_iff_mul_le (by omega)).mpr (by omega)
    omega
  · rw [l]
    have := leBig (n := 1 * n.toNat) (by omega)
    exact decide_eq_false (by omega)
theorem mul_one_len {c : Nat} {n : Int} (h0 : 0 ≤ n) : (Txt.mul ⟨#[c]⟩ n).cps.toList = List.replicate n.toNat c := by
  unfold Txt.mul
  by_cases h1 : n < 1
  · have : n = 0 := by omega
    subst this
    rfl
  · rw [if_neg h1]
    by_cases h2 : n = 1
    · subst h2
      rfl
    · have e : (n == 1 || (⟨#[c]⟩ : Str).length == 0) = false := by
        rw [beq_false_of_ne h2]
        rfl
      rw [e, if_neg Bool.false_ne_true]
      show (List.foldl (· ++ ·) #[] (List.replicate n.toNat #[c])).toList = _
      have f : ∀ (m : Nat) (acc : Array Nat), (List.foldl (· ++ ·) acc (List.replicate m #[c])).toList = acc.toList ++ List.replicate m c := by
        intro m
        induction m with
        | zero => intro acc; simp
        | succ m ih =>
          intro acc
          rw [List.replicate_succ, List.foldl_cons, ih, List.replicate_succ]
          simp
      rw [f]
      simp
/-- the room of a suite -/
theorem roomS {k j : Nat} {A B : Around} (hr : Room j A) (h : k ≤ j) (hd : B.depth = A.depth) (hu : B.units = A.units) : L2H.RoomH k B := by
  have h1 := hr.dp
  have h2 := hr.un
  exact ⟨by rw [hd]; omega, by rw [hu]; omega⟩
end Y

namespace Hk87
open PySem PySem.Spec L2 He Y
def top (i : Nat) : Stmt := PySem.Challenge.pw_fromyesalone_k87_turner_fits_or_clash.main.body.getD i (.Pass ⟨0, 0, 0, 0⟩)
abbrev s_BadWord_init__ : Stmt := inClass (top 3) 0
abbrev s_BadText_init__ : Stmt := inClass (top 4) 0
abbrev s_check_letters : Stmt := top 8
abbrev s_check_word : Stmt := top 9
abbrev s_view_at : Stmt := top 11
abbrev s_Turner_init : Stmt := inClass (top 12) 0
abbrev s_Turner_call : Stmt := inClass (top 12) 1
abbrev s_check_pairs : Stmt := top 13
abbrev s_first_clash : Stmt := top 14
abbrev s_fit_turner : Stmt := top 15
abbrev s_law_start : Stmt := top 17
abbrev s_law_next : Stmt := top 18
abbrev s_law_integer : Stmt := top 19
abbrev s_law_word : Stmt := top 20
abbrev s_law_view : Stmt := top 21
abbrev s_law_image : Stmt := top 22
abbrev s_law_table : Stmt := top 23
abbrev s_law_place : Stmt := top 24
abbrev s_law_clash : Stmt := top 25
abbrev s_law_due_image : Stmt := top 26
abbrev s_law_good_turner : Stmt := top 27
abbrev s_law_spoil : Stmt := top 28
abbrev s_law_first_bad : Stmt := top 29
abbrev s_law_refused : Stmt := top 30
abbrev s_law_error : Stmt := top 31
abbrev s_law_asked : Stmt := top 32
abbrev s_law_refusals : Stmt := top 33
abbrev s_law : Stmt := top 34
def d_check_letters : DefD := ⟨("check_letters", none), "check_letters", "check_letters", defArgs s_check_letters, defBody s_check_letters, defScope s_check_letters, [], []⟩
def d_check_word : DefD := ⟨("check_word", none), "check_word", "check_word", defArgs s_check_word, defBody s_check_word, defScope s_check_word, [], []⟩
def d_view_at : DefD := ⟨("view_at", none), "view_at", "view_at", defArgs s_view_at, defBody s_view_at, defScope s_view_at, [], []⟩
def d_Turner_init : DefD := ⟨("Turner", some "__init__"), "__init__", "Turner.__init__", defArgs s_Turner_init, defBody s_Turner_init, defScope s_Turner_init, [], []⟩
def d_Turner_call : DefD := ⟨("Turner", some "__call__"), "__call__", "Turner.__call__", defArgs s_Turner_call, defBody s_Turner_call, defScope s_Turner_call, [], []⟩
def d_check_pairs : DefD := ⟨("check_pairs", none), "check_pairs", "check_pairs", defArgs s_check_pairs, defBody s_check_pairs, defScope s_check_pairs, [], []⟩
def d_first_clash : DefD := ⟨("first_clash", none), "first_clash", "first_clash", defArgs s_first_clash, defBody s_first_clash, defScope s_first_clash, [], []⟩
def d_fit_turner : DefD := ⟨("fit_turner", none), "fit_turner", "fit_turner", defArgs s_fit_turner, defBody s_fit_turner, defScope s_fit_turner, [], []⟩
def d_law_start : DefD := ⟨("_law_start", none), "_law_start", "_law_start", defArgs s_law_start, defBody s_law_start, defScope s_law_start, [], []⟩
def d_law_next : DefD := ⟨("_law_next", none), "_law_next", "_law_next", defArgs s_law_next, defBody s_law_next, defScope s_law_next, [], []⟩
def d_law_integer : DefD := ⟨("_law_integer", none), "_law_integer", "_law_integer", defArgs s_law_integer, defBody s_law_integer, defScope s_law_integer, [], []⟩
def d_law_word : DefD := ⟨("_law_word", none), "_law_word", "_law_word", defArgs s_law_word, defBody s_law_word, defScope s_law_word, [], []⟩
def d_law_view : DefD := ⟨("_law_view", none), "_law_view", "_law_view", defArgs s_law_view, defBody s_law_view, defScope s_law_view, [], []⟩
def d_law_image : DefD := ⟨("_law_image", none), "_law_image", "_law_image", defArgs s_law_image, defBody s_law_image, defScope s_law_image, [], []⟩
def d_law_table : DefD := ⟨("_law_table", none), "_law_table", "_law_table", defArgs s_law_table, defBody s_law_table, defScope s_law_table, [], []⟩
def d_law_place : DefD := ⟨("_law_place", none), "_law_place", "_law_place", defArgs s_law_place, defBody s_law_place, defScope s_law_place, [], []⟩
def d_law_clash : DefD := ⟨("_law_clash", none), "_law_clash", "_law_clash", defArgs s_law_clash, defBody s_law_clash, defScope s_law_clash, [], []⟩
def d_law_due_image : DefD := ⟨("_law_due_image", none), "_law_due_image", "_law_due_image", defArgs s_law_due_image, defBody s_law_due_image, defScope s_law_due_image, [], []⟩
def d_law_good_turner : DefD := ⟨("_law_good_turner", none), "_law_good_turner", "_law_good_turner", defArgs s_law_good_turner, defBody s_law_good_turner, defScope s_law_good_turner, [], []⟩
def d_law_spoil : DefD := ⟨("_law_spoil", none), "_law_spoil", "_law_spoil", defArgs s_law_spoil, defBody s_law_spoil, defScope s_law_spoil, [], []⟩
def d_law_first_bad : DefD := ⟨("_law_first_bad", none), "_law_first_bad", "_law_first_bad", defArgs s_law_first_bad, defBody s_law_first_bad, defScope s_law_first_bad, [], []⟩
def d_law_refused : DefD := ⟨("_law_refused", none), "_law_refused", "_law_refused", defArgs s_law_refused, defBody s_law_refused, defScope s_law_refused, [], []⟩
def d_law_error : DefD := ⟨("_law_error", none), "_law_error", "_law_error", defArgs s_law_error, defBody s_law_error, defScope s_law_error, [], []⟩
def d_law_asked : DefD := ⟨("_law_asked", none), "_law_asked", "_law_asked", defArgs s_law_asked, defBody s_law_asked, defScope s_law_asked, [], []⟩
def d_law_refusals : DefD := ⟨("_law_refusals", none), "_law_refusals", "_law_refusals", defArgs s_law_refusals, defBody s_law_refusals, defScope s_law_refusals, [], []⟩
def d_law : DefD := ⟨("law", none), "law", "law", defArgs s_law, defBody s_law, defScope s_law, [], []⟩
def i_BadWord : DefI := ⟨"BadWord", "__init__", "BadWord.__init__", defArgs s_BadWord_init__, defBody s_BadWord_init__, defScope s_BadWord_init__⟩
def i_BadText : DefI := ⟨"BadText", "__init__", "BadText.__init__", defArgs s_BadText_init__, defBody s_BadText_init__, defScope s_BadText_init__⟩
def fn0 : List DefD := [d_check_letters, d_check_word, d_view_at, d_Turner_init, d_Turner_call, d_check_pairs, d_first_clash, d_fit_turner, d_law_start, d_law_next, d_law_integer, d_law_word, d_law_view, d_law_image, d_law_table, d_law_place, d_law_clash, d_law_due_image, d_law_good_turner, d_law_spoil, d_law_first_bad, d_law_refused, d_law_error, d_law_asked, d_law_refusals, d_law]
def fn : List DefD := fn0
def fi0 : List DefI := [i_BadWord, i_BadText]
def fi : List DefI := fi0
def fa0 : List Fa := [.glo "LanguageError", .exc "LanguageError", .glo "BadLetters", .exc "BadLetters", .glo "BadWord", .glo "BadText", .str "SMALL" "abcdefghijklmnopqrstuvwxyz", .int "MOST_KINDS_OF_LETTERS" 4, .glo "check_letters", .glo "check_word", .glo "view_at", .glo "Turner", .cls "Turner", .mkr "Turner", .noat "Turner" "letters", .noat "Turner" "images", .noat "Turner" "size", .noat "Turner" "table", .meth "Turner" "__call__", .glo "check_pairs", .glo "first_clash", .glo "fit_turner", .glo "_law_start", .glo "_law_next", .glo "_law_integer", .glo "_law_word", .glo "_law_view", .glo "_law_image", .glo "_law_table", .glo "_law_place"]
def fa1 : List Fa := [.glo "_law_clash", .glo "_law_due_image", .glo "_law_good_turner", .glo "_law_spoil", .glo "_law_first_bad", .glo "_law_refused", .glo "_law_error", .glo "_law_asked", .glo "_law_refusals", .glo "law", .free "abs", .free "bool", .free "dict", .free "enumerate", .free "int", .free "isinstance", .free "len", .free "list", .free "max", .free "range", .free "super", .free "tuple", .free "ValueError"]
def fa : List Fa := fa0 ++ fa1
def fb0 : List Fb := [.exq "LanguageError", .exq "BadLetters", .exq "BadWord", .exq "BadText", .own "Turner", .noat "BadWord" "word", .noat "BadWord" "place", .noat "BadText" "line", .kit "LanguageError" "LanguageError" true, .exm "LanguageError" "LanguageError" true, .kit "LanguageError" "BadLetters" false, .exm "LanguageError" "BadLetters" false, .kit "LanguageError" "BadWord" false, .exm "LanguageError" "BadWord" false, .kit "LanguageError" "BadText" false, .exm "LanguageError" "BadText" false, .kit "BadLetters" "LanguageError" true, .exm "BadLetters" "LanguageError" true, .kit "BadLetters" "BadLetters" true, .exm "BadLetters" "BadLetters" true, .kit "BadLetters" "BadWord" false, .exm "BadLetters" "BadWord" false, .kit "BadLetters" "BadText" false, .exm "BadLetters" "BadText" false, .kit "BadWord" "LanguageError" true, .exm "BadWord" "LanguageError" true, .kit "BadWord" "BadLetters" false, .exm "BadWord" "BadLetters" false, .kit "BadWord" "BadWord" true, .exm "BadWord" "BadWord" true]
def fb1 : List Fb := [.kit "BadWord" "BadText" false, .exm "BadWord" "BadText" false, .kit "BadText" "LanguageError" true, .exm "BadText" "LanguageError" true, .kit "BadText" "BadLetters" false, .exm "BadText" "BadLetters" false, .kit "BadText" "BadWord" false, .exm "BadText" "BadWord" false, .kit "BadText" "BadText" true, .exm "BadText" "BadText" true, .kit "Turner" "Turner" true]
def fb : List Fb := fb0 ++ fb1
def names0 : List PySem.Str := ["LanguageError", "BadLetters", "BadWord", "BadText", "SMALL", "MOST_KINDS_OF_LETTERS", "check_letters", "check_word", "view_at", "Turner", "check_pairs", "first_clash", "fit_turner", "_law_start", "_law_next", "_law_integer", "_law_word", "_law_view", "_law_image", "_law_table", "_law_place", "_law_clash", "_law_due_image", "_law_good_turner", "_law_spoil", "_law_first_bad", "_law_refused", "_law_error", "_law_asked", "_law_refusals"]
def names : List PySem.Str := names0
def file : Str := "/claim/cut.py"
abbrev R : PySem.W.OpenRow := PySem.W.OpenLaw.row PySem.Challenge.rw_fromyesalone_k87_turner_fits_or_clash
abbrev hk : PySem.W.Hook := hookI 5 fa fn fb fi file
def ob (s : PySem.W.SharedT) : AlI := obsIG 5 fa fn fb fi file (HandSHeadRun.getT s)
theorem ob_eq (s : PySem.W.SharedT) : ob s = hk.obs s.abs := obsIG_eq (HandSHeadRun.getT_eq s)
theorem run (w : World) : HandSHeadRun.RunEq R (PySem.W.view R.prog [34]) hk ob 3000 names w := by
  intro os
  kernel_rfl
structure Txt (P : Program) (w : World) (K : PySem.W.Frag) (mg : Str → Option Value) : Prop where
  g_LanguageError : mg "LanguageError" = some (.ref (ga K "LanguageError"))
  x_LanguageError : PySem.W.excIn K (ga K "LanguageError") veBase "ValueError.__new__" = true
  k_LanguageError : PySem.W.keepIn K (.ref (ga K "LanguageError")) = true
  s_LanguageError : PySem.W.subIn K (.ref (ga K "LanguageError")) (.type "BaseException") = some true
  t_LanguageError : PySem.W.typeIn K (.ref (ga K "LanguageError")) = some (.type "type")
  g_BadLetters : mg "BadLetters" = some (.ref (ga K "BadLetters"))
  x_BadLetters : PySem.W.excIn K (ga K "BadLetters") veBase "ValueError.__new__" = true
  k_BadLetters : PySem.W.keepIn K (.ref (ga K "BadLetters")) = true
  s_BadLetters : PySem.W.subIn K (.ref (ga K "BadLetters")) (.type "BaseException") = some true
  t_BadLetters : PySem.W.typeIn K (.ref (ga K "BadLetters")) = some (.type "type")
  g_BadWord : mg "BadWord" = some (.ref (ga K "BadWord"))
  g_BadText : mg "BadText" = some (.ref (ga K "BadText"))
  c_SMALL : ∃ t, mg "SMALL" = some (.str "abcdefghijklmnopqrstuvwxyz" t)
  c_MOST_KINDS_OF_LETTERS : ∃ t, mg "MOST_KINDS_OF_LETTERS" = some (.int 4 t)
  gd_check_letters : mg "check_letters" = some (.ref (ga K "check_letters"))
  gd_check_word : mg "check_word" = some (.ref (ga K "check_word"))
  gd_view_at : mg "view_at" = some (.ref (ga K "view_at"))
  g_Turner : mg "Turner" = some (.ref (ga K "Turner"))
  cl_Turner : Cls K (ga K "Turner")
  mk_Turner : Mk K (ga K "Turner") (ma K (ga K "Turner") "__init__")
  na_Turner_letters : NoAttr K (ga K "Turner") "letters"
  na_Turner_images : NoAttr K (ga K "Turner") "images"
  na_Turner_size : NoAttr K (ga K "Turner") "size"
  na_Turner_table : NoAttr K (ga K "Turner") "table"
  me_Turner_call : Meth K (ga K "Turner") "__call__" (ma K (ga K "Turner") "__call__")
  gd_check_pairs : mg "check_pairs" = some (.ref (ga K "check_pairs"))
  gd_first_clash : mg "first_clash" = some (.ref (ga K "first_clash"))
  gd_fit_turner : mg "fit_turner" = some (.ref (ga K "fit_turner"))
  gd_law_start : mg "_law_start" = some (.ref (ga K "_law_start"))
  gd_law_next : mg "_law_next" = some (.ref (ga K "_law_next"))
  gd_law_integer : mg "_law_integer" = some (.ref (ga K "_law_integer"))
  gd_law_word : mg "_law_word" = some (.ref (ga K "_law_word"))
  gd_law_view : mg "_law_view" = some (.ref (ga K "_law_view"))
  gd_law_image : mg "_law_image" = some (.ref (ga K "_law_image"))
  gd_law_table : mg "_law_table" = some (.ref (ga K "_law_table"))
  gd_law_place : mg "_law_place" = some (.ref (ga K "_law_place"))
  gd_law_clash : mg "_law_clash" = some (.ref (ga K "_law_clash"))
  gd_law_due_image : mg "_law_due_image" = some (.ref (ga K "_law_due_image"))
  gd_law_good_turner : mg "_law_good_turner" = some (.ref (ga K "_law_good_turner"))
  gd_law_spoil : mg "_law_spoil" = some (.ref (ga K "_law_spoil"))
  gd_law_first_bad : mg "_law_first_bad" = some (.ref (ga K "_law_first_bad"))
  gd_law_refused : mg "_law_refused" = some (.ref (ga K "_law_refused"))
  gd_law_error : mg "_law_error" = some (.ref (ga K "_law_error"))
  gd_law_asked : mg "_law_asked" = some (.ref (ga K "_law_asked"))
  gd_law_refusals : mg "_law_refusals" = some (.ref (ga K "_law_refusals"))
  gd_law : mg "law" = some (.ref (ga K "law"))
  b_abs : mg "abs" = none
  b_bool : mg "bool" = none
  b_dict : mg "dict" = none
  b_enumerate : mg "enumerate" = none
  b_int : mg "int" = none
  b_isinstance : mg "isinstance" = none
  b_len : mg "len" = none
  b_list : mg "list" = none
  b_max : mg "max" = none
  b_range : mg "range" = none
  b_super : mg "super" = none
  b_tuple : mg "tuple" = none
  b_ValueError : mg "ValueError" = none
  e_LanguageError : ExK K (ga K "LanguageError")
  e_BadLetters : ExK K (ga K "BadLetters")
  e_BadWord : ExK K (ga K "BadWord")
  e_BadText : ExK K (ga K "BadText")
  o_Turner : OwnK K (ga K "Turner")
  no_BadWord_word : PySem.W.findIn K (.ref (ga K "BadWord")) "word" = some none
  no_BadWord_place : PySem.W.findIn K (.ref (ga K "BadWord")) "place" = some none
  no_BadText_line : PySem.W.findIn K (.ref (ga K "BadText")) "line" = some none
  kit_LanguageError_LanguageError : PySem.W.kitOne K (.ref (ga K "LanguageError")) (.ref (ga K "LanguageError")) = some true
  exm_LanguageError_LanguageError : PySem.W.exmOne K (.ref (ga K "LanguageError")) (.ref (ga K "LanguageError")) = some true
  kit_LanguageError_BadLetters : PySem.W.kitOne K (.ref (ga K "LanguageError")) (.ref (ga K "BadLetters")) = some false
  exm_LanguageError_BadLetters : PySem.W.exmOne K (.ref (ga K "LanguageError")) (.ref (ga K "BadLetters")) = some false
  kit_LanguageError_BadWord : PySem.W.kitOne K (.ref (ga K "LanguageError")) (.ref (ga K "BadWord")) = some false
  exm_LanguageError_BadWord : PySem.W.exmOne K (.ref (ga K "LanguageError")) (.ref (ga K "BadWord")) = some false
  kit_LanguageError_BadText : PySem.W.kitOne K (.ref (ga K "LanguageError")) (.ref (ga K "BadText")) = some false
  exm_LanguageError_BadText : PySem.W.exmOne K (.ref (ga K "LanguageError")) (.ref (ga K "BadText")) = some false
  kit_BadLetters_LanguageError : PySem.W.kitOne K (.ref (ga K "BadLetters")) (.ref (ga K "LanguageError")) = some true
  exm_BadLetters_LanguageError : PySem.W.exmOne K (.ref (ga K "BadLetters")) (.ref (ga K "LanguageError")) = some true
  kit_BadLetters_BadLetters : PySem.W.kitOne K (.ref (ga K "BadLetters")) (.ref (ga K "BadLetters")) = some true
  exm_BadLetters_BadLetters : PySem.W.exmOne K (.ref (ga K "BadLetters")) (.ref (ga K "BadLetters")) = some true
  kit_BadLetters_BadWord : PySem.W.kitOne K (.ref (ga K "BadLetters")) (.ref (ga K "BadWord")) = some false
  exm_BadLetters_BadWord : PySem.W.exmOne K (.ref (ga K "BadLetters")) (.ref (ga K "BadWord")) = some false
  kit_BadLetters_BadText : PySem.W.kitOne K (.ref (ga K "BadLetters")) (.ref (ga K "BadText")) = some false
  exm_BadLetters_BadText : PySem.W.exmOne K (.ref (ga K "BadLetters")) (.ref (ga K "BadText")) = some false
  kit_BadWord_LanguageError : PySem.W.kitOne K (.ref (ga K "BadWord")) (.ref (ga K "LanguageError")) = some true
  exm_BadWord_LanguageError : PySem.W.exmOne K (.ref (ga K "BadWord")) (.ref (ga K "LanguageError")) = some true
  kit_BadWord_BadLetters : PySem.W.kitOne K (.ref (ga K "BadWord")) (.ref (ga K "BadLetters")) = some false
  exm_BadWord_BadLetters : PySem.W.exmOne K (.ref (ga K "BadWord")) (.ref (ga K "BadLetters")) = some false
  kit_BadWord_BadWord : PySem.W.kitOne K (.ref (ga K "BadWord")) (.ref (ga K "BadWord")) = some true
  exm_BadWord_BadWord : PySem.W.exmOne K (.ref (ga K "BadWord")) (.ref (ga K "BadWord")) = some true
  kit_BadWord_BadText : PySem.W.kitOne K (.ref (ga K "BadWord")) (.ref (ga K "BadText")) = some false
  exm_BadWord_BadText : PySem.W.exmOne K (.ref (ga K "BadWord")) (.ref (ga K "BadText")) = some false
  kit_BadText_LanguageError : PySem.W.kitOne K (.ref (ga K "BadText")) (.ref (ga K "LanguageError")) = some true
  exm_BadText_LanguageError : PySem.W.exmOne K (.ref (ga K "BadText")) (.ref (ga K "LanguageError")) = some true
  kit_BadText_BadLetters : PySem.W.kitOne K (.ref (ga K "BadText")) (.ref (ga K "BadLetters")) = some false
  exm_BadText_BadLetters : PySem.W.exmOne K (.ref (ga K "BadText")) (.ref (ga K "BadLetters")) = some false
  kit_BadText_BadWord : PySem.W.kitOne K (.ref (ga K "BadText")) (.ref (ga K "BadWord")) = some false
  exm_BadText_BadWord : PySem.W.exmOne K (.ref (ga K "BadText")) (.ref (ga K "BadWord")) = some false
  kit_BadText_BadText : PySem.W.kitOne K (.ref (ga K "BadText")) (.ref (ga K "BadText")) = some true
  exm_BadText_BadText : PySem.W.exmOne K (.ref (ga K "BadText")) (.ref (ga K "BadText")) = some true
  kit_Turner_Turner : PySem.W.kitOne K (.ref (ga K "Turner")) (.ref (ga K "Turner")) = some true
  d_check_letters : ∃ fd, FunD K Hk87.d_check_letters.name Hk87.d_check_letters.qual Hk87.d_check_letters.params Hk87.d_check_letters.body Hk87.d_check_letters.scope [] [] (fAd K Hk87.d_check_letters.at_) fd
  d_check_word : ∃ fd, FunD K Hk87.d_check_word.name Hk87.d_check_word.qual Hk87.d_check_word.params Hk87.d_check_word.body Hk87.d_check_word.scope [] [] (fAd K Hk87.d_check_word.at_) fd
  d_view_at : ∃ fd, FunD K Hk87.d_view_at.name Hk87.d_view_at.qual Hk87.d_view_at.params Hk87.d_view_at.body Hk87.d_view_at.scope [] [] (fAd K Hk87.d_view_at.at_) fd
  d_Turner_init : ∃ fd, FunD K Hk87.d_Turner_init.name Hk87.d_Turner_init.qual Hk87.d_Turner_init.params Hk87.d_Turner_init.body Hk87.d_Turner_init.scope [] [] (fAd K Hk87.d_Turner_init.at_) fd
  d_Turner_call : ∃ fd, FunD K Hk87.d_Turner_call.name Hk87.d_Turner_call.qual Hk87.d_Turner_call.params Hk87.d_Turner_call.body Hk87.d_Turner_call.scope [] [] (fAd K Hk87.d_Turner_call.at_) fd
  d_check_pairs : ∃ fd, FunD K Hk87.d_check_pairs.name Hk87.d_check_pairs.qual Hk87.d_check_pairs.params Hk87.d_check_pairs.body Hk87.d_check_pairs.scope [] [] (fAd K Hk87.d_check_pairs.at_) fd
  d_first_clash : ∃ fd, FunD K Hk87.d_first_clash.name Hk87.d_first_clash.qual Hk87.d_first_clash.params Hk87.d_first_clash.body Hk87.d_first_clash.scope [] [] (fAd K Hk87.d_first_clash.at_) fd
  d_fit_turner : ∃ fd, FunD K Hk87.d_fit_turner.name Hk87.d_fit_turner.qual Hk87.d_fit_turner.params Hk87.d_fit_turner.body Hk87.d_fit_turner.scope [] [] (fAd K Hk87.d_fit_turner.at_) fd
  d_law_start : ∃ fd, FunD K Hk87.d_law_start.name Hk87.d_law_start.qual Hk87.d_law_start.params Hk87.d_law_start.body Hk87.d_law_start.scope [] [] (fAd K Hk87.d_law_start.at_) fd
  d_law_next : ∃ fd, FunD K Hk87.d_law_next.name Hk87.d_law_next.qual Hk87.d_law_next.params Hk87.d_law_next.body Hk87.d_law_next.scope [] [] (fAd K Hk87.d_law_next.at_) fd
  d_law_integer : ∃ fd, FunD K Hk87.d_law_integer.name Hk87.d_law_integer.qual Hk87.d_law_integer.params Hk87.d_law_integer.body Hk87.d_law_integer.scope [] [] (fAd K Hk87.d_law_integer.at_) fd
  d_law_word : ∃ fd, FunD K Hk87.d_law_word.name Hk87.d_law_word.qual Hk87.d_law_word.params Hk87.d_law_word.body Hk87.d_law_word.scope [] [] (fAd K Hk87.d_law_word.at_) fd
  d_law_view : ∃ fd, FunD K Hk87.d_law_view.name Hk87.d_law_view.qual Hk87.d_law_view.params Hk87.d_law_view.body Hk87.d_law_view.scope [] [] (fAd K Hk87.d_law_view.at_) fd
  d_law_image : ∃ fd, FunD K Hk87.d_law_image.name Hk87.d_law_image.qual Hk87.d_law_image.params Hk87.d_law_image.body Hk87.d_law_image.scope [] [] (fAd K Hk87.d_law_image.at_) fd
  d_law_table : ∃ fd, FunD K Hk87.d_law_table.name Hk87.d_law_table.qual Hk87.d_law_table.params Hk87.d_law_table.body Hk87.d_law_table.scope [] [] (fAd K Hk87.d_law_table.at_) fd
  d_law_place : ∃ fd, FunD K Hk87.d_law_place.name Hk87.d_law_place.qual Hk87.d_law_place.params Hk87.d_law_place.body Hk87.d_law_place.scope [] [] (fAd K Hk87.d_law_place.at_) fd
  d_law_clash : ∃ fd, FunD K Hk87.d_law_clash.name Hk87.d_law_clash.qual Hk87.d_law_clash.params Hk87.d_law_clash.body Hk87.d_law_clash.scope [] [] (fAd K Hk87.d_law_clash.at_) fd
  d_law_due_image : ∃ fd, FunD K Hk87.d_law_due_image.name Hk87.d_law_due_image.qual Hk87.d_law_due_image.params Hk87.d_law_due_image.body Hk87.d_law_due_image.scope [] [] (fAd K Hk87.d_law_due_image.at_) fd
  d_law_good_turner : ∃ fd, FunD K Hk87.d_law_good_turner.name Hk87.d_law_good_turner.qual Hk87.d_law_good_turner.params Hk87.d_law_good_turner.body Hk87.d_law_good_turner.scope [] [] (fAd K Hk87.d_law_good_turner.at_) fd
  d_law_spoil : ∃ fd, FunD K Hk87.d_law_spoil.name Hk87.d_law_spoil.qual Hk87.d_law_spoil.params Hk87.d_law_spoil.body Hk87.d_law_spoil.scope [] [] (fAd K Hk87.d_law_spoil.at_) fd
  d_law_first_bad : ∃ fd, FunD K Hk87.d_law_first_bad.name Hk87.d_law_first_bad.qual Hk87.d_law_first_bad.params Hk87.d_law_first_bad.body Hk87.d_law_first_bad.scope [] [] (fAd K Hk87.d_law_first_bad.at_) fd
  d_law_refused : ∃ fd, FunD K Hk87.d_law_refused.name Hk87.d_law_refused.qual Hk87.d_law_refused.params Hk87.d_law_refused.body Hk87.d_law_refused.scope [] [] (fAd K Hk87.d_law_refused.at_) fd
  d_law_error : ∃ fd, FunD K Hk87.d_law_error.name Hk87.d_law_error.qual Hk87.d_law_error.params Hk87.d_law_error.body Hk87.d_law_error.scope [] [] (fAd K Hk87.d_law_error.at_) fd
  d_law_asked : ∃ fd, FunD K Hk87.d_law_asked.name Hk87.d_law_asked.qual Hk87.d_law_asked.params Hk87.d_law_asked.body Hk87.d_law_asked.scope [] [] (fAd K Hk87.d_law_asked.at_) fd
  d_law_refusals : ∃ fd, FunD K Hk87.d_law_refusals.name Hk87.d_law_refusals.qual Hk87.d_law_refusals.params Hk87.d_law_refusals.body Hk87.d_law_refusals.scope [] [] (fAd K Hk87.d_law_refusals.at_) fd
  d_law : ∃ fd, FunD K Hk87.d_law.name Hk87.d_law.qual Hk87.d_law.params Hk87.d_law.body Hk87.d_law.scope [] [] (fAd K Hk87.d_law.at_) fd
  i_BadWord : ∃ fd, IniF P K mg (ga K "BadWord") (fAd K Hk87.i_BadWord.at_) Hk87.i_BadWord.name Hk87.i_BadWord.qual Hk87.i_BadWord.params Hk87.i_BadWord.body Hk87.i_BadWord.scope fd
  i_BadText : ∃ fd, IniF P K mg (ga K "BadText") (fAd K Hk87.i_BadText.at_) Hk87.i_BadText.name Hk87.i_BadText.qual Hk87.i_BadText.params Hk87.i_BadText.body Hk87.i_BadText.scope fd
theorem txt {P : Program} {w : World} {K : PySem.W.Frag} {h : Heap} {mg : Str → Option Value} (X : K.In h) (G : h.Ns mainGlobals mg) (hm : P.main.file = file) (ht : (P.main.scope.names.lookup ("super" : Str)).isSome = false) (c : SaysI fa fn fb fi file K) : Txt P w K mg := by
  have hs : mg "super" = none := free_ok X G (c.d.fact 50 (f := .free "super") rfl)
  exact {
    g_LanguageError := glo_ok X G (c.d.fact 0 (f := .glo "LanguageError") rfl),
    x_LanguageError := (exc_ok (c.d.fact 1 (f := .exc "LanguageError") rfl)).1,
    k_LanguageError := (exc_ok (c.d.fact 1 (f := .exc "LanguageError") rfl)).2.1,
    s_LanguageError := (exc_ok (c.d.fact 1 (f := .exc "LanguageError") rfl)).2.2.1,
    t_LanguageError := (exc_ok (c.d.fact 1 (f := .exc "LanguageError") rfl)).2.2.2,
    g_BadLetters := glo_ok X G (c.d.fact 2 (f := .glo "BadLetters") rfl),
    x_BadLetters := (exc_ok (c.d.fact 3 (f := .exc "BadLetters") rfl)).1,
    k_BadLetters := (exc_ok (c.d.fact 3 (f := .exc "BadLetters") rfl)).2.1,
    s_BadLetters := (exc_ok (c.d.fact 3 (f := .exc "BadLetters") rfl)).2.2.1,
    t_BadLetters := (exc_ok (c.d.fact 3 (f := .exc "BadLetters") rfl)).2.2.2,
    g_BadWord := glo_ok X G (c.d.fact 4 (f := .glo "BadWord") rfl),
    g_BadText := glo_ok X G (c.d.fact 5 (f := .glo "BadText") rfl),
    c_SMALL := str_ok X G (c.d.fact 6 (f := .str "SMALL" "abcdefghijklmnopqrstuvwxyz") rfl),
    c_MOST_KINDS_OF_LETTERS := int_ok X G (c.d.fact 7 (f := .int "MOST_KINDS_OF_LETTERS" 4) rfl),
    gd_check_letters := glo_ok X G (c.d.fact 8 (f := .glo "check_letters") rfl),
    gd_check_word := glo_ok X G (c.d.fact 9 (f := .glo "check_word") rfl),
    gd_view_at := glo_ok X G (c.d.fact 10 (f := .glo "view_at") rfl),
    g_Turner := glo_ok X G (c.d.fact 11 (f := .glo "Turner") rfl),
    cl_Turner := cls_ok (c.d.fact 12 (f := .cls "Turner") rfl),
    mk_Turner := mkr_ok (c.d.fact 13 (f := .mkr "Turner") rfl),
    na_Turner_letters := noat_ok (c.d.fact 14 (f := .noat "Turner" "letters") rfl),
    na_Turner_images := noat_ok (c.d.fact 15 (f := .noat "Turner" "images") rfl),
    na_Turner_size := noat_ok (c.d.fact 16 (f := .noat "Turner" "size") rfl),
    na_Turner_table := noat_ok (c.d.fact 17 (f := .noat "Turner" "table") rfl),
    me_Turner_call := meth_ok (c.d.fact 18 (f := .meth "Turner" "__call__") rfl),
    gd_check_pairs := glo_ok X G (c.d.fact 19 (f := .glo "check_pairs") rfl),
    gd_first_clash := glo_ok X G (c.d.fact 20 (f := .glo "first_clash") rfl),
    gd_fit_turner := glo_ok X G (c.d.fact 21 (f := .glo "fit_turner") rfl),
    gd_law_start := glo_ok X G (c.d.fact 22 (f := .glo "_law_start") rfl),
    gd_law_next := glo_ok X G (c.d.fact 23 (f := .glo "_law_next") rfl),
    gd_law_integer := glo_ok X G (c.d.fact 24 (f := .glo "_law_integer") rfl),
    gd_law_word := glo_ok X G (c.d.fact 25 (f := .glo "_law_word") rfl),
    gd_law_view := glo_ok X G (c.d.fact 26 (f := .glo "_law_view") rfl),
    gd_law_image := glo_ok X G (c.d.fact 27 (f := .glo "_law_image") rfl),
    gd_law_table := glo_ok X G (c.d.fact 28 (f := .glo "_law_table") rfl),
    gd_law_place := glo_ok X G (c.d.fact 29 (f := .glo "_law_place") rfl),
    gd_law_clash := glo_ok X G (c.d.fact 30 (f := .glo "_law_clash") rfl),
    gd_law_due_image := glo_ok X G (c.d.fact 31 (f := .glo "_law_due_image") rfl),
    gd_law_good_turner := glo_ok X G (c.d.fact 32 (f := .glo "_law_good_turner") rfl),
    gd_law_spoil := glo_ok X G (c.d.fact 33 (f := .glo "_law_spoil") rfl),
    gd_law_first_bad := glo_ok X G (c.d.fact 34 (f := .glo "_law_first_bad") rfl),
    gd_law_refused := glo_ok X G (c.d.fact 35 (f := .glo "_law_refused") rfl),
    gd_law_error := glo_ok X G (c.d.fact 36 (f := .glo "_law_error") rfl),
    gd_law_asked := glo_ok X G (c.d.fact 37 (f := .glo "_law_asked") rfl),
    gd_law_refusals := glo_ok X G (c.d.fact 38 (f := .glo "_law_refusals") rfl),
    gd_law := glo_ok X G (c.d.fact 39 (f := .glo "law") rfl),
    b_abs := free_ok X G (c.d.fact 40 (f := .free "abs") rfl),
    b_bool := free_ok X G (c.d.fact 41 (f := .free "bool") rfl),
    b_dict := free_ok X G (c.d.fact 42 (f := .free "dict") rfl),
    b_enumerate := free_ok X G (c.d.fact 43 (f := .free "enumerate") rfl),
    b_int := free_ok X G (c.d.fact 44 (f := .free "int") rfl),
    b_isinstance := free_ok X G (c.d.fact 45 (f := .free "isinstance") rfl),
    b_len := free_ok X G (c.d.fact 46 (f := .free "len") rfl),
    b_list := free_ok X G (c.d.fact 47 (f := .free "list") rfl),
    b_max := free_ok X G (c.d.fact 48 (f := .free "max") rfl),
    b_range := free_ok X G (c.d.fact 49 (f := .free "range") rfl),
    b_super := free_ok X G (c.d.fact 50 (f := .free "super") rfl),
    b_tuple := free_ok X G (c.d.fact 51 (f := .free "tuple") rfl),
    b_ValueError := free_ok X G (c.d.fact 52 (f := .free "ValueError") rfl),
    e_LanguageError := exB_ok (c.fb_ (f := .exq "LanguageError") (List.mem_of_getElem? (i := 0) rfl)),
    e_BadLetters := exB_ok (c.fb_ (f := .exq "BadLetters") (List.mem_of_getElem? (i := 1) rfl)),
    e_BadWord := exB_ok (c.fb_ (f := .exq "BadWord") (List.mem_of_getElem? (i := 2) rfl)),
    e_BadText := exB_ok (c.fb_ (f := .exq "BadText") (List.mem_of_getElem? (i := 3) rfl)),
    o_Turner := ownB_ok (c.fb_ (f := .own "Turner") (List.mem_of_getElem? (i := 4) rfl)),
    no_BadWord_word := of_decide_eq_true (c.fb_ (f := .noat "BadWord" "word") (List.mem_of_getElem? (i := 5) rfl)),
    no_BadWord_place := of_decide_eq_true (c.fb_ (f := .noat "BadWord" "place") (List.mem_of_getElem? (i := 6) rfl)),
    no_BadText_line := of_decide_eq_true (c.fb_ (f := .noat "BadText" "line") (List.mem_of_getElem? (i := 7) rfl)),
    kit_LanguageError_LanguageError := of_decide_eq_true (c.fb_ (f := .kit "LanguageError" "LanguageError" true) (List.mem_of_getElem? (i := 8) rfl)),
    exm_LanguageError_LanguageError := of_decide_eq_true (c.fb_ (f := .exm "LanguageError" "LanguageError" true) (List.mem_of_getElem? (i := 9) rfl)),
    kit_LanguageError_BadLetters := of_decide_eq_true (c.fb_ (f := .kit "LanguageError" "BadLetters" false) (List.mem_of_getElem? (i := 10) rfl)),
    exm_LanguageError_BadLetters := of_decide_eq_true (c.fb_ (f := .exm "LanguageError" "BadLetters" false) (List.mem_of_getElem? (i := 11) rfl)),
    kit_LanguageError_BadWord := of_decide_eq_true (c.fb_ (f := .kit "LanguageError" "BadWord" false) (List.mem_of_getElem? (i := 12) rfl)),
    exm_LanguageError_BadWord := of_decide_eq_true (c.fb_ (f := .exm "LanguageError" "BadWord" false) (List.mem_of_getElem? (i := 13) rfl)),
    kit_LanguageError_BadText := of_decide_eq_true (c.fb_ (f := .kit "LanguageError" "BadText" false) (List.mem_of_getElem? (i := 14) rfl)),
    exm_LanguageError_BadText := of_decide_eq_true (c.fb_ (f := .exm "LanguageError" "BadText" false) (List.mem_of_getElem? (i := 15) rfl)),
    kit_BadLetters_LanguageError := of_decide_eq_true (c.fb_ (f := .kit "BadLetters" "LanguageError" true) (List.mem_of_getElem? (i := 16) rfl)),
    exm_BadLetters_LanguageError := of_decide_eq_true (c.fb_ (f := .exm "BadLetters" "LanguageError" true) (List.mem_of_getElem? (i := 17) rfl)),
    kit_BadLetters_BadLetters := of_decide_eq_true (c.fb_ (f := .kit "BadLetters" "BadLetters" true) (List.mem_of_getElem? (i := 18) rfl)),
    exm_BadLetters_BadLetters := of_decide_eq_true (c.fb_ (f := .exm "BadLetters" "BadLetters" true) (List.mem_of_getElem? (i := 19) rfl)),
    kit_BadLetters_BadWord := of_decide_eq_true (c.fb_ (f := .kit "BadLetters" "BadWord" false) (List.mem_of_getElem? (i := 20) rfl)),
    exm_BadLetters_BadWord := of_decide_eq_true (c.fb_ (f := .exm "BadLetters" "BadWord" false) (List.mem_of_getElem? (i := 21) rfl)),
    kit_BadLetters_BadText := of_decide_eq_true (c.fb_ (f := .kit "BadLetters" "BadText" false) (List.mem_of_getElem? (i := 22) rfl)),
    exm_BadLetters_BadText := of_decide_eq_true (c.fb_ (f := .exm "BadLetters" "BadText" false) (List.mem_of_getElem? (i := 23) rfl)),
    kit_BadWord_LanguageError := of_decide_eq_true (c.fb_ (f := .kit "BadWord" "LanguageError" true) (List.mem_of_getElem? (i := 24) rfl)),
    exm_BadWord_LanguageError := of_decide_eq_true (c.fb_ (f := .exm "BadWord" "LanguageError" true) (List.mem_of_getElem? (i := 25) rfl)),
    kit_BadWord_BadLetters := of_decide_eq_true (c.fb_ (f := .kit "BadWord" "BadLetters" false) (List.mem_of_getElem? (i := 26) rfl)),
    exm_BadWord_BadLetters := of_decide_eq_true (c.fb_ (f := .exm "BadWord" "BadLetters" false) (List.mem_of_getElem? (i := 27) rfl)),
    kit_BadWord_BadWord := of_decide_eq_true (c.fb_ (f := .kit "BadWord" "BadWord" true) (List.mem_of_getElem? (i := 28) rfl)),
    exm_BadWord_BadWord := of_decide_eq_true (c.fb_ (f := .exm "BadWord" "BadWord" true) (List.mem_of_getElem? (i := 29) rfl)),
    kit_BadWord_BadText := of_decide_eq_true (c.fb_ (f := .kit "BadWord" "BadText" false) (List.mem_of_getElem? (i := 30) rfl)),
    exm_BadWord_BadText := of_decide_eq_true (c.fb_ (f := .exm "BadWord" "BadText" false) (List.mem_of_getElem? (i := 31) rfl)),
    kit_BadText_LanguageError := of_decide_eq_true (c.fb_ (f := .kit "BadText" "LanguageError" true) (List.mem_of_getElem? (i := 32) rfl)),
    exm_BadText_LanguageError := of_decide_eq_true (c.fb_ (f := .exm "BadText" "LanguageError" true) (List.mem_of_getElem? (i := 33) rfl)),
    kit_BadText_BadLetters := of_decide_eq_true (c.fb_ (f := .kit "BadText" "BadLetters" false) (List.mem_of_getElem? (i := 34) rfl)),
    exm_BadText_BadLetters := of_decide_eq_true (c.fb_ (f := .exm "BadText" "BadLetters" false) (List.mem_of_getElem? (i := 35) rfl)),
    kit_BadText_BadWord := of_decide_eq_true (c.fb_ (f := .kit "BadText" "BadWord" false) (List.mem_of_getElem? (i := 36) rfl)),
    exm_BadText_BadWord := of_decide_eq_true (c.fb_ (f := .exm "BadText" "BadWord" false) (List.mem_of_getElem? (i := 37) rfl)),
    kit_BadText_BadText := of_decide_eq_true (c.fb_ (f := .kit "BadText" "BadText" true) (List.mem_of_getElem? (i := 38) rfl)),
    exm_BadText_BadText := of_decide_eq_true (c.fb_ (f := .exm "BadText" "BadText" true) (List.mem_of_getElem? (i := 39) rfl)),
    kit_Turner_Turner := of_decide_eq_true (c.fb_ (f := .kit "Turner" "Turner" true) (List.mem_of_getElem? (i := 40) rfl)),
    d_check_letters := c.d.def_ 0 (d := d_check_letters) rfl,
    d_check_word := c.d.def_ 1 (d := d_check_word) rfl,
    d_view_at := c.d.def_ 2 (d := d_view_at) rfl,
    d_Turner_init := c.d.def_ 3 (d := d_Turner_init) rfl,
    d_Turner_call := c.d.def_ 4 (d := d_Turner_call) rfl,
    d_check_pairs := c.d.def_ 5 (d := d_check_pairs) rfl,
    d_first_clash := c.d.def_ 6 (d := d_first_clash) rfl,
    d_fit_turner := c.d.def_ 7 (d := d_fit_turner) rfl,
    d_law_start := c.d.def_ 8 (d := d_law_start) rfl,
    d_law_next := c.d.def_ 9 (d := d_law_next) rfl,
    d_law_integer := c.d.def_ 10 (d := d_law_integer) rfl,
    d_law_word := c.d.def_ 11 (d := d_law_word) rfl,
    d_law_view := c.d.def_ 12 (d := d_law_view) rfl,
    d_law_image := c.d.def_ 13 (d := d_law_image) rfl,
    d_law_table := c.d.def_ 14 (d := d_law_table) rfl,
    d_law_place := c.d.def_ 15 (d := d_law_place) rfl,
    d_law_clash := c.d.def_ 16 (d := d_law_clash) rfl,
    d_law_due_image := c.d.def_ 17 (d := d_law_due_image) rfl,
    d_law_good_turner := c.d.def_ 18 (d := d_law_good_turner) rfl,
    d_law_spoil := c.d.def_ 19 (d := d_law_spoil) rfl,
    d_law_first_bad := c.d.def_ 20 (d := d_law_first_bad) rfl,
    d_law_refused := c.d.def_ 21 (d := d_law_refused) rfl,
    d_law_error := c.d.def_ 22 (d := d_law_error) rfl,
    d_law_asked := c.d.def_ 23 (d := d_law_asked) rfl,
    d_law_refusals := c.d.def_ 24 (d := d_law_refusals) rfl,
    d_law := c.d.def_ 25 (d := d_law) rfl,
    i_BadWord := iniF_of (h := h) hm ht hs (c.fi_ 0 (d := i_BadWord) rfl).1 (c.fi_ 0 (d := i_BadWord) rfl).2,
    i_BadText := iniF_of (h := h) hm ht hs (c.fi_ 1 (d := i_BadText) rfl).1 (c.fi_ 1 (d := i_BadText) rfl).2 }
end Hk87

namespace H87
open PySem PySem.Spec L2 He Y Hk87
local macro_rules | `(tactic| walk_at "rd1") => `(tactic| first
  | with_reducible refine s_seq ?_
  | with_reducible refine s_asg ?_
  | with_reducible refine s_gname ?_
  | ((with_reducible refine s_var (v := ?_) ?_ ?_); rotate_left; exact rfl)
  | with_reducible refine s_c ?_
  | with_reducible refine s_op ?_
  | with_reducible refine s_un ?_
  | with_reducible refine s_nil ?_
  | with_reducible refine s_cons ?_
  | with_reducible refine s_CB ?_
  | with_reducible refine s_ifS ?_
  | with_reducible refine s_test ?_
  | with_reducible refine s_B ?_
  | with_reducible refine s_xb ?_
  | with_reducible refine s_xi ?_
  | with_reducible refine s_xs ?_
  | with_reducible refine s_or ?_
  | with_reducible refine s_and ?_
  | with_reducible refine s_not ?_
  | with_reducible refine s_orV ?_
  | with_reducible refine s_andV ?_
  | with_reducible refine s_notV ?_
  | with_reducible refine s_ret ?_
  | with_reducible refine s_retN ?_
  | with_reducible refine s_next ?_
  | with_reducible refine s_drop ?_
  | with_reducible refine s_yes ?_
  | with_reducible refine s_for ?_
  | with_reducible refine s_lc ?_
  | with_reducible refine s_iStr ?_
  | with_reducible refine s_iList ?_
  | with_reducible refine s_iTup ?_
  | with_reducible refine s_iR1 ?_
  | with_reducible refine s_iR2 ?_
  | with_reducible refine s_iE ?_
  | with_reducible refine s_iET ?_
  | with_reducible refine s_iES ?_
  | with_reducible refine s_tup ?_
  | with_reducible refine s_lst ?_
  | with_reducible refine s_BM ?_
  | with_reducible refine s_BM0 ?_
  | with_reducible refine s_BMS ?_
  | with_reducible refine s_M1 ?_
  | with_reducible refine s_sl ?_
  | with_reducible refine s_noP ?_
  | with_reducible refine s_po ?_
  | with_reducible refine s_call ?_
  | with_reducible refine s_callS ?_
  | with_reducible refine s_make ?_
  | with_reducible refine s_makeS ?_
  | with_reducible refine s_methS ?_
  | with_reducible refine s_callO ?_
  | with_reducible refine s_dnew ?_
  | with_reducible refine s_dget ?_
  | with_reducible refine s_din ?_
  | with_reducible refine s_dnin ?_
  | with_reducible refine s_dput ?_
  | with_reducible refine s_dsetd ?_
  | with_reducible refine s_dget2 ?_
  | with_reducible refine s_fld ?_
  | with_reducible refine s_sFld ?_
  | with_reducible refine s_rz ?_
  | with_reducible refine s_asgS ?_
  | with_reducible refine s_gSub ?_
  | with_reducible refine s_ifE ?_
  | with_reducible refine s_add_i ?_
  | with_reducible refine s_sub ?_
  | with_reducible refine s_neg ?_
  | with_reducible refine s_eq_i ?_
  | with_reducible refine s_eq_s ?_
  | with_reducible refine s_ne_i ?_
  | with_reducible refine s_ne_s ?_
  | with_reducible refine s_lt_i ?_
  | with_reducible refine s_le_i ?_
  | with_reducible refine s_gt_i ?_
  | with_reducible refine s_ge_i ?_
  | with_reducible refine s_lt_s ?_
  | with_reducible refine s_le_s ?_
  | with_reducible refine s_gt_s ?_
  | with_reducible refine s_ge_s ?_
  | with_reducible refine s_in_c ?_
  | with_reducible refine s_ni_c ?_
  | with_reducible refine s_isN ?_
  | with_reducible refine s_noN ?_
  | with_reducible refine s_abs ?_
  | with_reducible refine s_min2 ?_
  | with_reducible refine s_max2 ?_
  | with_reducible refine s_int_i ?_
  | ((with_reducible refine s_len_s ?_ ?_); assumption)
  | ((with_reducible refine s_len_l (xs := ?_) ?_ ?_); rotate_left; assumption)
  | ((with_reducible refine s_len_t (xs := ?_) ?_ ?_); rotate_left; assumption)
  | with_reducible refine s_pair upd_same ?_
  | with_reducible refine s_callS ?_
  | with_reducible refine jtT ?_
  | with_reducible refine jtF ?_
  | with_reducible refine jtNT ?_
  | with_reducible refine jtNF ?_
  | dsimp only)
local macro_rules | `(tactic| walk_at "rd") => `(tactic| repeat (walk_at "rd1"))

/-! ### what the two readers compute -/
def SM : Str := "abcdefghijklmnopqrstuvwxyz"
def okFrom : List Nat → List Nat → Bool
  | _, [] => true
  | b, c :: r => if c ∉ SM.cps.toList ∨ ¬ b < [c] then false else okFrom [c] r
theorem okFrom_cons (b : List Nat) (c : Nat) (r : List Nat) : okFrom b (c :: r) = if c ∉ SM.cps.toList ∨ ¬ b < [c] then false else okFrom [c] r := rfl
def okLetters (s : Str) : Bool := decide (1 ≤ s.length) && decide (s.length ≤ 4) && okFrom [] s.cps.toList
theorem str_get {z : Str} {i : Nat} {c : Nat} (h : z.cps[i]? = some c) : z.cps.toList.drop i = c :: z.cps.toList.drop (i + 1) := by
  have h1 : z.cps.toList[i]? = some c := by simpa using h
  obtain ⟨hi, e⟩ := List.getElem?_eq_some_iff.mp h1
  rw [List.drop_eq_getElem_cons hi, e]
section
variable {P : Program} {w : World} {K : PySem.W.Frag} {mg : Str → Option Value} {base : Heap}
/-! ### errors -/
theorem S_BadText : IniScope ["self", "line"] ["self", "line"] (i_BadText).scope := ⟨rfl, rfl, rfl, by decide, rfl, by decide +kernel, by decide +kernel, by decide +kernel, by decide +kernel, by decide +kernel⟩
theorem z_BadText (T : Txt P w K mg) : Rz P w K mg base "BadText" (ga K "BadText") ["line"] := by
  refine rz_of T.i_BadText T.g_BadText T.e_BadText.o S_BadText rfl rfl (by decide) (fun env => ⟨_, rfl⟩) rfl (fun _ _ _ _ _ _ _ us hl => match us, hl with | [_, _], _ => rfl) ?_
  intro kV doc pm an cdv ct cc A outer s H a ws Q E hl ha q
  obtain ⟨w1, rfl⟩ : ∃ w1, ws = [w1] := by
    match ws, hl with
    | [w1], _ => exact ⟨w1, rfl⟩
  refine ⟨_, pss_one (ps_ost (pv 0) (pv 1)), ?_⟩
  exact ⟨_, rfl, _, rfl, a, _, rfl, T.e_BadText.o, T.no_BadText_line, .inl ⟨ha, fun dx h1 h2 => q dx h1 h2⟩⟩
/-! ### check_letters -/
theorem S_check_letters : FnScope ["letters", "before", "letter"] ["letters"] (d_check_letters).scope := ⟨rfl, rfl, rfl, by decide +kernel, rfl, by decide +kernel, by decide +kernel⟩
def sp_check_letters (K : PySem.W.Frag) : Sp := fun vs H Q E => ∃ s : Str, vs = [.str s] ∧ s.length ≤ sizeLine ∧ (okLetters s = true → Q .non H) ∧ (okLetters s = false → E (.ref (ga K "BadLetters")) none H)
theorem w_check_letters (T : Txt P w K mg) : Has P w K mg base 3 "check_letters" (sp_check_letters K) := by
  have S := S_check_letters
  refine has_of (k := 2) T.d_check_letters T.gd_check_letters S (fun _ _ _ _ _ _ us hl => match us, hl with | [_], _ => rfl) (fun vs H Q E h => ?_) (fun f cdv A outer s H vs Q E hr h => ?_)
  · obtain ⟨s, rfl, _⟩ := h
    rfl
  · obtain ⟨z, rfl, hz, q1, q2⟩ := h
    refine ⟨_, (pss_cons (ps_if (PW.pt (pw_or (pt_cmpR c_lt (pe_callB (bK_len K) (by rfl) T.b_len (by decide +kernel) (pa_cons (pv 0) pa_nil)) pe_int (nomark _)) (pw_or1 (pt_cmpR c_gt (pe_callB (bK_len K) (by rfl) T.b_len (by decide +kernel) (pa_cons (pv 0) pa_nil)) (pe_gI rfl T.c_MOST_KINDS_OF_LETTERS) (nomark _)))))
      (pss_one (ps_raise rfl (takes_of rfl rfl rfl rfl) (pmk_own PySem.F.excBase_ValueError T.x_BadLetters T.g_BadLetters T.k_BadLetters (raises_own T.s_BadLetters T.t_BadLetters) rfl)))
      pss_nil)
    (pss_cons (ps_set (i := 1) S.nd rfl (Or.inl rfl) pe_str)
    (pss_one (ps_for (passes_of rfl) rfl (pi_str (pv 0)) (pg_name (i := 2) S.nd rfl (Or.inl rfl))
      (pss_cons (ps_if (PW.pt (pw_or (pt_cmpR (cK_ni K) (pv 2) (pe_gS rfl T.c_SMALL) rfl) (pw_or1 (pt_cmpR c_le (pv 2) (pv 1) (nomark _)))))
      (pss_one (ps_raise rfl (takes_of rfl rfl rfl rfl) (pmk_own PySem.F.excBase_ValueError T.x_BadLetters T.g_BadLetters T.k_BadLetters (raises_own T.s_BadLetters T.t_BadLetters) rfl)))
      pss_nil)
    (pss_one (ps_set (i := 1) S.nd rfl (Or.inl rfl) (pv 2)))))))), ?_⟩
    walk_at "rd"
    refine jtD (fun e => q2 ?_) (fun e1 => ?_)
    · have e' : ¬ 1 ≤ z.length := by omega
      simp [okLetters, e']
    walk_at "rd"
    refine jtD (fun e => q2 ?_) (fun e2 => ?_)
    · have e' : ¬ z.length ≤ 4 := by omega
      simp [okLetters, e']
    have hk : okLetters z = okFrom [] z.cps.toList := by
      have a1 : 1 ≤ z.length := by omega
      have a2 : z.length ≤ 4 := by omega
      simp [okLetters, a1, a2]
    rw [hk] at q1 q2
    walk_at "rd"
    refine lp_it walk_str (fun i σ H' => H' = H ∧ ∃ b l, σ = [some (.str z), some (.str b), l] ∧ okFrom b.cps.toList (z.cps.toList.drop i) = okFrom [] z.cps.toList) ⟨rfl, "", none, rfl, rfl⟩ (fun _ _ _ _ _ => trivial) ?_ ?_
    · rintro i x σ H1 H2 hi ⟨rfl, b, l, rfl, eb⟩ ⟨rfl, c, hc, rfl⟩
      rw [str_get hc] at eb
      rw [okFrom_cons] at eb
      walk_at "rd"
      refine jtN (fun e => q2 ?_) (fun e1 => ?_)
      · rw [← eb, if_pos (.inl e)]
      walk_at "rd"
      refine jtN (fun e => q2 ?_) (fun e2 => ?_)
      · rw [← eb, if_pos (.inr e)]
      rw [if_neg (fun z => z.elim (fun z => z e1) fun z => z e2)] at eb
      walk_at "rd"
      exact ⟨rfl, _, _, rfl, eb⟩
    · rintro σ H1 ⟨rfl, b, l, rfl, eb⟩
      refine q1 ?_
      rw [← eb, List.drop_of_length_le (by simp)]
      rfl
theorem S_BadWord : IniScope ["self", "word", "place"] ["self", "word", "place"] (i_BadWord).scope := ⟨rfl, rfl, rfl, by decide, rfl, by decide +kernel, by decide +kernel, by decide +kernel, by decide +kernel, by decide +kernel⟩
theorem z_BadWord (T : Txt P w K mg) : Rz P w K mg base "BadWord" (ga K "BadWord") ["word", "place"] := by
  refine rz_of T.i_BadWord T.g_BadWord T.e_BadWord.o S_BadWord rfl rfl (by decide) (fun env => ⟨_, rfl⟩) rfl (fun _ _ _ _ _ _ _ us hl => match us, hl with | [_, _, _], _ => rfl) ?_
  intro kV doc pm an cdv ct cc A outer s H a ws Q E hl ha q
  obtain ⟨w1, w2, rfl⟩ : ∃ w1 w2, ws = [w1, w2] := by
    match ws, hl with
    | [w1, w2], _ => exact ⟨w1, w2, rfl⟩
  refine ⟨_, pss_cons (ps_ost (pv 0) (pv 1)) (pss_one (ps_ost (pv 0) (pv 2))), ?_⟩
  refine ⟨_, rfl, _, rfl, a, _, rfl, T.e_BadWord.o, T.no_BadWord_word, .inl ⟨ha, fun dx h1 h2 => ?_⟩⟩
  refine ⟨_, rfl, _, rfl, a, _, rfl, T.e_BadWord.o, T.no_BadWord_place, .inr ⟨dx, _, upd_same, (upd_ne h2).trans upd_same, by simp, ?_⟩⟩
  have e : upd (upd (upd H dx (exd dx [("word", w1)])) a (exo a (ga K "BadWord") (some dx))) dx (exd dx [("place", w2), ("word", w1)]) = upd (upd H dx (exd dx [("place", w2), ("word", w1)])) a (exo a (ga K "BadWord") (some dx)) := by
    funext b
    by_cases hb : b = dx
    · rw [hb, upd_same, upd_ne h2, upd_same]
    · rw [upd_ne hb]
      by_cases hc : b = a
      · rw [hc, upd_same, upd_same]
      · rw [upd_ne hc, upd_ne hc, upd_ne hb, upd_ne hb]
  show Q .non _
  rw [e]
  exact q dx h1 h2
/-! ### check_word -/
/-- the first place of a sign that is not of the letters -/
def badAt (ls : List Nat) : Nat → List Nat → Option Nat
  | _, [] => none
  | i, c :: r => if c ∈ ls then badAt ls (i + 1) r else some i
theorem S_check_word : FnScope ["letters", "word", "place", "letter"] ["letters", "word"] (d_check_word).scope := ⟨rfl, rfl, rfl, by decide +kernel, rfl, by decide +kernel, by decide +kernel⟩
def sp_check_word (K : PySem.W.Frag) : Sp := fun vs H Q E => ∃ (D : Hp) (l s : Str), vs = [.str l, .str s] ∧ s.length ≤ sizeLine ∧ Same D H ∧ (badAt l.cps.toList 0 s.cps.toList = none → ∀ D' H', Gr No D H D' H' → Q .non H') ∧
  (∀ k, badAt l.cps.toList 0 s.cps.toList = some k → ∀ D' H' d, Gr No D H D' H' → H' d = none → E (.ref (ga K "BadWord")) (some d) (upd H' d (.xd [("place", .int (k : Nat)), ("word", .str s)])))
theorem w_check_word (T : Txt P w K mg) : Has P w K mg base 3 "check_word" (sp_check_word K) := by
  have S := S_check_word
  refine has_of (k := 2) T.d_check_word T.gd_check_word S (fun _ _ _ _ _ _ us hl => match us, hl with | [_, _], _ => rfl) (fun vs H Q E h => ?_) (fun f cdv A outer s H vs Q E hr h => ?_)
  · obtain ⟨D, l, s, rfl, _⟩ := h
    rfl
  · obtain ⟨D, l, z, rfl, hz, sm, q1, q2⟩ := h
    refine ⟨_, (pss_one (ps_for (passes_of rfl) rfl (pi_enumS (by rfl) T.b_enumerate (pa_cons (pv 1) pa_nil)) (pgK_tup K (n := 2) rfl (pgs_cons (pg_name (i := 2) S.nd rfl (Or.inl rfl)) (pgs_cons (pg_name (i := 3) S.nd rfl (Or.inl rfl)) pgs_nil)))
      (pss_one (ps_if (pt_cmpR (cK_ni K) (pv 3) (pv 0) rfl)
      (pss_one (ps_raise rfl (takes_of rfl rfl rfl rfl) (pmk_rz (z_BadWord T) (hr.mono (by decide)) rfl (pa_cons (pv 1) (pa_cons (pv 2) pa_nil)))))
      pss_nil)))), ?_⟩
    walk_at "rd"
    refine ⟨z, rfl, lp_it walk_enumS (fun i σ H' => ∃ D' o2 o3, Gr No D H D' H' ∧ σ = [some (.str l), some (.str z), o2, o3] ∧ badAt l.cps.toList i (z.cps.toList.drop i) = badAt l.cps.toList 0 z.cps.toList) ⟨D, _, _, Gr.refl sm, rfl, rfl⟩ (fun _ _ _ _ _ => trivial) ?_ ?_⟩
    · rintro i x σ H1 H2 hi ⟨D1, o2, o3, g, rfl, eb⟩ ⟨t, x1, x2, rfl, nt, rfl, e1, e2⟩
      cases e1
      have e2 : z.cps[i]?.map (fun c => V.str ⟨#[c]⟩) = some x2 := e2
      obtain ⟨c, hc, rfl⟩ := Option.map_eq_some_iff.mp e2
      rw [str_get hc] at eb
      have eb' : (if c ∈ l.cps.toList then badAt l.cps.toList (i + 1) (z.cps.toList.drop (i + 1)) else some i) = badAt l.cps.toList 0 z.cps.toList := eb
      have g2 := g.lay (o := .tup [.int i, .str ⟨#[c]⟩]) nt
      walk_at "rd"
      refine jtN (fun e => ?_) (fun e => ?_)
      · rw [if_neg e] at eb'
        walk_at "rd"
        exact ⟨rfl, by simp, fun d nd => q2 i eb'.symm D1 _ d g2 nd⟩
      · rw [if_pos e] at eb'
        walk_at "rd"
        exact ⟨D1, _, _, g2, rfl, eb'⟩
    · rintro σ H1 ⟨D1, o2, o3, g, rfl, eb⟩
      rw [List.drop_of_length_le (by simp)] at eb
      exact q1 eb.symm _ _ g
end
end H87

namespace H87
open PySem PySem.Spec L2 He Y Hk87
local macro_rules | `(tactic| walk_at "rd1") => `(tactic| first
  | with_reducible refine s_seq ?_
  | with_reducible refine s_asg ?_
  | with_reducible refine s_gname ?_
  | ((with_reducible refine s_var (v := ?_) ?_ ?_); rotate_left; exact rfl)
  | with_reducible refine s_c ?_
  | with_reducible refine s_op ?_
  | with_reducible refine s_un ?_
  | with_reducible refine s_nil ?_
  | with_reducible refine s_cons ?_
  | with_reducible refine s_CB ?_
  | with_reducible refine s_ifS ?_
  | with_reducible refine s_test ?_
  | with_reducible refine s_B ?_
  | with_reducible refine s_xb ?_
  | with_reducible refine s_xi ?_
  | with_reducible refine s_xs ?_
  | with_reducible refine s_or ?_
  | with_reducible refine s_and ?_
  | with_reducible refine s_not ?_
  | with_reducible refine s_orV ?_
  | with_reducible refine s_andV ?_
  | with_reducible refine s_notV ?_
  | with_reducible refine s_ret ?_
  | with_reducible refine s_retN ?_
  | with_reducible refine s_next ?_
  | with_reducible refine s_drop ?_
  | with_reducible refine s_yes ?_
  | with_reducible refine s_for ?_
  | with_reducible refine s_lc ?_
  | with_reducible refine s_iStr ?_
  | with_reducible refine s_iList ?_
  | with_reducible refine s_iTup ?_
  | with_reducible refine s_iR1 ?_
  | with_reducible refine s_iR2 ?_
  | with_reducible refine s_iE ?_
  | with_reducible refine s_iET ?_
  | with_reducible refine s_iES ?_
  | with_reducible refine s_tup ?_
  | with_reducible refine s_lst ?_
  | with_reducible refine s_BM ?_
  | with_reducible refine s_BM0 ?_
  | with_reducible refine s_BMS ?_
  | with_reducible refine s_M1 ?_
  | with_reducible refine s_sl ?_
  | with_reducible refine s_noP ?_
  | with_reducible refine s_po ?_
  | with_reducible refine s_call ?_
  | with_reducible refine s_callS ?_
  | with_reducible refine s_make ?_
  | with_reducible refine s_makeS ?_
  | with_reducible refine s_methS ?_
  | with_reducible refine s_callO ?_
  | with_reducible refine s_dnew ?_
  | with_reducible refine s_dget ?_
  | with_reducible refine s_din ?_
  | with_reducible refine s_dnin ?_
  | with_reducible refine s_dput ?_
  | with_reducible refine s_dsetd ?_
  | with_reducible refine s_dget2 ?_
  | with_reducible refine s_fld ?_
  | with_reducible refine s_sFld ?_
  | with_reducible refine s_rz ?_
  | with_reducible refine s_asgS ?_
  | with_reducible refine s_gSub ?_
  | with_reducible refine s_ifE ?_
  | with_reducible refine s_add_i ?_
  | with_reducible refine s_sub ?_
  | with_reducible refine s_neg ?_
  | with_reducible refine s_eq_i ?_
  | with_reducible refine s_eq_s ?_
  | with_reducible refine s_ne_i ?_
  | with_reducible refine s_ne_s ?_
  | with_reducible refine s_lt_i ?_
  | with_reducible refine s_le_i ?_
  | with_reducible refine s_gt_i ?_
  | with_reducible refine s_ge_i ?_
  | with_reducible refine s_lt_s ?_
  | with_reducible refine s_le_s ?_
  | with_reducible refine s_gt_s ?_
  | with_reducible refine s_ge_s ?_
  | with_reducible refine s_in_c ?_
  | with_reducible refine s_ni_c ?_
  | with_reducible refine s_isN ?_
  | with_reducible refine s_noN ?_
  | with_reducible refine s_abs ?_
  | with_reducible refine s_min2 ?_
  | with_reducible refine s_max2 ?_
  | with_reducible refine s_int_i ?_
  | ((with_reducible refine s_len_s ?_ ?_); assumption)
  | ((with_reducible refine s_len_l (xs := ?_) ?_ ?_); rotate_left; assumption)
  | ((with_reducible refine s_len_t (xs := ?_) ?_ ?_); rotate_left; assumption)
  | with_reducible refine s_pair upd_same ?_
  | with_reducible refine s_callS ?_
  | with_reducible refine jtT ?_
  | with_reducible refine jtF ?_
  | with_reducible refine jtNT ?_
  | with_reducible refine jtNF ?_
  | dsimp only)
local macro_rules | `(tactic| walk_at "rd") => `(tactic| repeat (walk_at "rd1"))

/-! ### the law's draws -/
/-- the draws' state: a list of four, the first one a list of ints -/
structure Stt (K : PySem.W.Frag) (D H : Hp) (st : Addr) : Prop where
  ex : ∃ (c : Addr) (a b e : Int) (cells : List Int), H st = some (.lst [.ref c, .int a, .int b, .int e]) ∧ SqL K D c (cells.map V.int) ∧ 1 ≤ cells.length
  free : D st = none
section
variable {K : PySem.W.Frag} {H : Hp} {st : Addr} {x0 x1 x2 x3 v : V} {Q : VK}
theorem s_u0 (k : Q x0 (upd H st (.lst [x0, x1, x2, x3]))) : rIx K (.ref st) (.int 0) (upd H st (.lst [x0, x1, x2, x3])) Q := s_ix_l (sql upd_same) atI_0 k
theorem s_u1 (k : Q x1 (upd H st (.lst [x0, x1, x2, x3]))) : rIx K (.ref st) (.int 1) (upd H st (.lst [x0, x1, x2, x3])) Q := s_ix_l (sql upd_same) (atI_i (j := 1) rfl rfl) k
theorem s_u2 (k : Q x2 (upd H st (.lst [x0, x1, x2, x3]))) : rIx K (.ref st) (.int 2) (upd H st (.lst [x0, x1, x2, x3])) Q := s_ix_l (sql upd_same) (atI_i (j := 2) rfl rfl) k
theorem s_u3 (k : Q x3 (upd H st (.lst [x0, x1, x2, x3]))) : rIx K (.ref st) (.int 3) (upd H st (.lst [x0, x1, x2, x3])) Q := s_ix_l (sql upd_same) (atI_i (j := 3) rfl rfl) k
theorem s_w1 {Q : Hp → Prop} (k : Q (upd H st (.lst [x0, v, x2, x3]))) : rSetL (.ref st) (.int 1) v (upd H st (.lst [x0, x1, x2, x3])) Q := s_setL upd_same (show ixN 4 1 = some 1 from rfl) (by rw [upd_upd]; exact k)
theorem s_w2 {Q : Hp → Prop} (k : Q (upd H st (.lst [x0, x1, v, x3]))) : rSetL (.ref st) (.int 2) v (upd H st (.lst [x0, x1, x2, x3])) Q := s_setL upd_same (show ixN 4 2 = some 2 from rfl) (by rw [upd_upd]; exact k)
theorem s_w3 {Q : Hp → Prop} (k : Q (upd H st (.lst [x0, x1, x2, v]))) : rSetL (.ref st) (.int 3) v (upd H st (.lst [x0, x1, x2, x3])) Q := s_setL upd_same (show ixN 4 3 = some 3 from rfl) (by rw [upd_upd]; exact k)
end
local macro_rules | `(tactic| walk_at "nx") => `(tactic| repeat (first
  | walk_at "rd1"
  | with_reducible refine s_u0 ?_
  | with_reducible refine s_u1 ?_
  | with_reducible refine s_u2 ?_
  | with_reducible refine s_u3 ?_
  | with_reducible refine s_w1 ?_
  | with_reducible refine s_w2 ?_
  | with_reducible refine s_w3 ?_))
section
variable {P : Program} {w : World} {K : PySem.W.Frag} {mg : Str → Option Value} {base : Heap}
theorem Stt.up {D H D' H' : Hp} {st : Addr} (h : Stt K D H st) (g : Gr No D H D' H') : Stt K D' H' st := by
  obtain ⟨⟨c, a, b, e, cells, h1, h2, h3⟩, h4⟩ := h
  exact ⟨⟨c, a, b, e, cells, g.same _ _ (fun z => z) h1, g.dd.seq h2, h3⟩, g.stay h4 h1⟩
theorem Stt.is {D H : Hp} {st : Addr} (h : Stt K D H st) : H st ≠ none := by
  obtain ⟨⟨c, a, b, e, cells, h1, h2, h3⟩, h4⟩ := h
  rw [h1]
  simp
theorem S_law_start : FnScope ["script", "cells", "cell"] ["script"] (d_law_start).scope := ⟨rfl, rfl, rfl, by decide +kernel, rfl, by decide +kernel, by decide +kernel⟩
def sp_law_start (K : PySem.W.Frag) : Sp := fun vs H Q E => ∃ (a : Addr) (ns : List Int), vs = [.ref a] ∧ SqL K H a (ns.map V.int) ∧ ns.length ≤ 63 ∧ ∀ D' H' st, Gr No H H D' H' → Stt K D' H' st → H st = none → Q (.ref st) H'
theorem w_law_start (T : Txt P w K mg) : Has P w K mg base 3 "_law_start" (sp_law_start K) := by
  have S := S_law_start
  refine has_of (k := 2) T.d_law_start T.gd_law_start S (fun _ _ _ _ _ _ us hl => match us, hl with | [_], _ => rfl) (fun vs H Q E h => ?_) (fun f cdv A outer s H vs Q E hr h => ?_)
  · obtain ⟨a, ns, rfl, _⟩ := h
    rfl
  · obtain ⟨a, ns, rfl, ha, hl, q⟩ := h
    refine ⟨_, (pss_cons (ps_setLc (i := 1) (own := [("cell", 2)]) rfl S.nd rfl rfl (sw_true rfl rfl rfl (by decide +kernel)) (piK_list K (pv 0)) (blkOk_by (by rfl)) (fun _ _ _ _ _ => (pg_name (i := 2) S.nd rfl (Or.inl rfl))) (fun _ _ _ _ _ => pts_nil) (fun _ _ _ _ _ => (pe_callB b_abs (by rfl) T.b_abs (by decide +kernel) (pa_cons (pv 2) pa_nil))))
    (pss_cons (ps_if (pt_cmpR (cK_eq K hr.units) (pe_callB (bK_len K) (by rfl) T.b_len (by decide +kernel) (pa_cons (pv 1) pa_nil)) pe_int (nomark _))
      (pss_one (ps_set (i := 1) S.nd rfl (Or.inl rfl) (pe_lst (pa_cons pe_int pa_nil))))
      pss_nil)
    (pss_one (ps_ret (pe_lst (pa_cons (pv 1) (pa_cons pe_int (pa_cons pe_int (pa_cons pe_int pa_nil))))))))), ?_⟩
    have fin : ∀ (H1 : Hp) (D1 : Hp) (p : Addr) (xs : List V) (cells : List Int), xs = cells.map V.int → Gr No H H D1 H1 → H p = none → SqL K D1 p xs → 1 ≤ cells.length → ∀ st, H1 st = none → Q (.ref st) (upd H1 st (.lst [.ref p, .int 0, .int 0, .int 0])) := by
      intro H1 D1 p xs cells e g np hp h1 st nst
      exact q D1 _ st (g.lay nst) ⟨⟨p, 0, 0, 0, cells, upd_same, e ▸ hp, h1⟩, g.free nst⟩ (g.kept _ nst)
    walk_at "rd"
    refine ⟨a, rfl, ⟨_, ha⟩, fun p np => lq_map walk_list (ns.map fun n => V.int (if n < 0 then -n else n)) (by simp) (by rw [List.length_map]; exact le1000 (by omega)) np (fun acc => ((Gr.refl (m := No) (Same.refl H)).lay np).all.seq ha) ?_ ?_⟩
    · rintro i x acc H' N hi ⟨rfl, ex⟩ hN hlt
      rw [List.getElem?_map] at ex
      obtain ⟨n, hn, rfl⟩ := Option.map_eq_some_iff.mp ex
      walk_at "rd"
      refine ⟨rfl, ?_⟩
      walk_at "rd"
      refine lq_put hlt (hN _ ?_)
      rw [List.getElem?_map, hn]
      rfl
    · have g1 := (Gr.refl (m := No) (Same.refl H)).ice (o := .lst (ns.map fun n => V.int (if n < 0 then -n else n))) np
      have hp1 : SqL K (upd H p (.lst (ns.map fun n => V.int (if n < 0 then -n else n)))) p (ns.map fun n => V.int (if n < 0 then -n else n)) := sql upd_same
      walk_at "rd"
      refine jtD (fun e => ?_) (fun e => ?_)
      · walk_at "rd"
        refine ⟨le1000 (by simp), fun p2 np2 => ?_⟩
        have g2 := g1.ice (o := .lst [.int 0]) np2
        walk_at "rd"
        refine ⟨le1000 (by simp), fun st nst => ?_⟩
        walk_at "rd"
        exact fin _ _ p2 [.int 0] [0] rfl g2 (g1.kept _ np2) (sql upd_same) (by simp) st nst
      · walk_at "rd"
        refine ⟨le1000 (by simp), fun st nst => ?_⟩
        walk_at "rd"
        refine fin _ _ p _ (ns.map fun n => if n < 0 then -n else n) (by rw [List.map_map]; rfl) g1 np hp1 ?_ st nst
        rw [List.length_map] at e ⊢
        omega
theorem S_law_next : FnScope ["state", "many", "cells", "cell", "turn", "mixed", "told"] ["state", "many"] (d_law_next).scope := ⟨rfl, rfl, rfl, by decide +kernel, rfl, by decide +kernel, by decide +kernel⟩
def sp_law_next (K : PySem.W.Frag) : Sp := fun vs H Q E => ∃ (D : Hp) (st : Addr) (many : Int), vs = [.ref st, .int many] ∧ 0 < many ∧ many ≤ 2 ^ 62 ∧ Same D H ∧ Stt K D H st ∧ ∀ D' H' r, Gr (· = st) D H D' H' → Stt K D' H' st → 0 ≤ r → r < many → Q (.int r) H'
theorem w_law_next (T : Txt P w K mg) : Has P w K mg base 3 "_law_next" (sp_law_next K) := by
  have S := S_law_next
  refine has_of (k := 2) T.d_law_next T.gd_law_next S (fun _ _ _ _ _ _ us hl => match us, hl with | [_, _], _ => rfl) (fun vs H Q E h => ?_) (fun f cdv A outer s H vs Q E hr h => ?_)
  · obtain ⟨D, st, many, rfl, _⟩ := h
    rfl
  · obtain ⟨D, st, many, rfl, hm, hm2, sm, X, q⟩ := h
    obtain ⟨⟨c, a, b, e, cells, hst, hc, h1⟩, hD⟩ := X
    refine ⟨_, (pss_cons (ps_set (i := 2) S.nd rfl (Or.inl rfl) (pe_ix (ixK_seq K) (pv 0) pe_int (fun _ _ => rfl)))
    (pss_cons (ps_set (i := 3) S.nd rfl (Or.inl rfl) (pe_ix (ixK_seq K) (pv 2) (pe_op o_mod (pe_callTy b_int (by rfl) T.b_int (by decide +kernel) (pa_cons (pe_ix (ixK_seq K) (pv 0) pe_int (fun _ _ => rfl)) pa_nil)) (pe_callB (bK_len K) (by rfl) T.b_len (by decide +kernel) (pa_cons (pv 2) pa_nil))) (fun _ _ => rfl)))
    (pss_cons (ps_if (PW.pt (pw_and (pt_cmpR c_ge (pv 3) (pe_op o_pow pe_int pe_int) (nomark _)) (pw_and1 (pt_cmpR c_lt (pe_ix (ixK_seq K) (pv 0) pe_int (fun _ _ => rfl)) (pe_callB (bK_len K) (by rfl) T.b_len (by decide +kernel) (pa_cons (pv 2) pa_nil)) (nomark _)))))
      (pss_cons (ps_if (pt_cmpR (cK_eq K hr.units) (pe_ix (ixK_seq K) (pv 0) pe_int (fun _ _ => rfl)) pe_int (nomark _))
      (pss_one (ps_asg (pv 3) (pg_sub (pv 0) pe_int set_list)))
      pss_nil)
    (pss_cons (ps_set (i := 6) S.nd rfl (Or.inl rfl) (pe_op o_mod (pe_callTy b_int (by rfl) T.b_int (by decide +kernel) (pa_cons (pe_ix (ixK_seq K) (pv 0) pe_int (fun _ _ => rfl)) pa_nil)) (pv 1)))
    (pss_cons (ps_asg (pe_op o_fdiv (pe_callTy b_int (by rfl) T.b_int (by decide +kernel) (pa_cons (pe_ix (ixK_seq K) (pv 0) pe_int (fun _ _ => rfl)) pa_nil)) (pv 1)) (pg_sub (pv 0) pe_int set_list))
    (pss_cons (ps_asg (pe_op (oK_add K) (pe_ix (ixK_seq K) (pv 0) pe_int (fun _ _ => rfl)) pe_int) (pg_sub (pv 0) pe_int set_list))
    (pss_cons (ps_if (PW.pt (pw_or (pt_cmpR (cK_eq K hr.units) (pe_ix (ixK_seq K) (pv 0) pe_int (fun _ _ => rfl)) pe_int (nomark _)) (pw_or1 (pt_cmpR c_ge (pe_ix (ixK_seq K) (pv 0) pe_int (fun _ _ => rfl)) pe_int (nomark _)))))
      (pss_cons (ps_asg (pe_op (oK_add K) (pe_ix (ixK_seq K) (pv 0) pe_int (fun _ _ => rfl)) pe_int) (pg_sub (pv 0) pe_int set_list))
    (pss_one (ps_asg pe_int (pg_sub (pv 0) pe_int set_list))))
      pss_nil)
    (pss_one (ps_ret (pv 6))))))))
      pss_nil)
    (pss_cons (ps_set (i := 4) S.nd rfl (Or.inl rfl) (pe_op (oK_add K) (pe_ix (ixK_seq K) (pv 0) pe_int (fun _ _ => rfl)) (pe_op o_mul pe_int (pe_ix (ixK_seq K) (pv 0) pe_int (fun _ _ => rfl)))))
    (pss_cons (ps_set (i := 5) S.nd rfl (Or.inl rfl) (pe_op o_mul (pe_op (oK_add K) (pe_op o_mod (pe_callTy b_int (by rfl) T.b_int (by decide +kernel) (pa_cons (pv 3) pa_nil)) pe_int) pe_int) (pe_op (oK_add K) pe_int (pe_op o_mul pe_int (pv 4)))))
    (pss_cons (ps_set (i := 5) S.nd rfl (Or.inl rfl) (pe_op o_mod (pe_callTy b_int (by rfl) T.b_int (by decide +kernel) (pa_cons (pv 5) pa_nil)) pe_int))
    (pss_cons (ps_set (i := 5) S.nd rfl (Or.inl rfl) (pe_op o_mod (pe_callTy b_int (by rfl) T.b_int (by decide +kernel) (pa_cons (pe_op (oK_add K) (pe_op (oK_add K) (pe_op o_mul (pv 5) (pv 5)) (pe_op o_mul pe_int (pv 4))) pe_int) pa_nil)) pe_int))
    (pss_cons (ps_asg (pe_op (oK_add K) (pe_ix (ixK_seq K) (pv 0) pe_int (fun _ _ => rfl)) pe_int) (pg_sub (pv 0) pe_int set_list))
    (pss_cons (ps_if (pt_cmpR c_ge (pe_ix (ixK_seq K) (pv 0) pe_int (fun _ _ => rfl)) pe_int (nomark _))
      (pss_cons (ps_asg (pe_op (oK_add K) (pe_ix (ixK_seq K) (pv 0) pe_int (fun _ _ => rfl)) pe_int) (pg_sub (pv 0) pe_int set_list))
    (pss_one (ps_asg pe_int (pg_sub (pv 0) pe_int set_list))))
      pss_nil)
    (pss_one (ps_ret (pe_op o_mod (pe_callTy b_int (by rfl) T.b_int (by decide +kernel) (pa_cons (pe_op o_fdiv (pv 5) pe_int) pa_nil)) (pv 1))))))))))))), ?_⟩
    have hcH := sm.seq hc
    have fin : ∀ (a b e r : Int), 0 ≤ r → r < many → Q (.int r) (upd H st (.lst [.ref c, .int a, .int b, .int e])) := fun a b e r h0 h2 =>
      q D _ r ((Gr.refl sm).put hD (.inr rfl)) ⟨⟨c, a, b, e, cells, upd_same, hc, h1⟩, hD⟩ h0 h2
    have hs : ∀ (xs : List V), SqL K (upd H st (.lst xs)) c (cells.map V.int) := fun xs => ((Gr.refl (m := (· = st)) sm).put (o := .lst xs) hD (.inr rfl)).same'.seq hc
    have hlc : (0 : Int) < ((cells.map V.int).length : Int) := by
      rw [List.length_map]
      omega
    have eH : upd H st (.lst [.ref c, .int a, .int b, .int e]) = H := by
      funext y
      by_cases hy : y = st
      · rw [hy, upd_same, hst]
      · rw [upd_ne hy]
    have hcU := hs [.ref c, .int a, .int b, .int e]
    rw [← eH]
    walk_at "nx"
    refine s_mod hlc ?_
    have hr0 := Int.emod_nonneg a (Int.ne_of_gt hlc)
    have hr1 := Int.emod_lt_of_pos a hlc
    obtain ⟨cell, hcell⟩ : ∃ cell, cells[(a % ((cells.map V.int).length : Int)).toNat]? = some cell := by
      refine ⟨cells[(a % ((cells.map V.int).length : Int)).toNat]'?_, List.getElem?_eq_getElem ?_⟩ <;> · rw [List.length_map] at hr0 hr1 ⊢; omega
    refine s_ix_l hcU (v := .int cell) (atI_i (j := (a % ((cells.map V.int).length : Int)).toNat) (by omega) (by rw [List.getElem?_map, hcell]; rfl)) ?_
    have hdv : ∀ n : Int, CDivW n many := fun n => ⟨hm, (Nat.log2_lt (by omega)).mpr (Nat.lt_of_le_of_lt (show many.natAbs ≤ 2 ^ 62 by omega) (Nat.pow_lt_pow_right (by decide) (by decide)))⟩
    have big : ∀ r : Int, 0 ≤ r % many ∧ r % many < many := fun r => ⟨Int.emod_nonneg r (Int.ne_of_gt hm), Int.emod_lt_of_pos r hm⟩
    with_reducible refine s_gname ?_
    refine s_cut (fun σ' H' => σ' = [some (.ref st), some (.int many), some (.ref c), some (.int cell), none, none, none] ∧ H' = upd H st (.lst [.ref c, .int a, .int b, .int e])) ?_ (fun N rest => ?_)
    · rintro σ' H' ⟨rfl, rfl⟩
      have m29 : (0 : Int) < 2147483629 := by decide
      have m47 : (0 : Int) < 2147483647 := by decide
      have b29 : ∀ x : Int, 0 ≤ x % 2147483629 ∧ x % 2147483629 < 2147483629 := fun x => ⟨Int.emod_nonneg x (by decide), Int.emod_lt_of_pos x m29⟩
      have b47 : ∀ x : Int, 0 ≤ x % 2147483647 ∧ x % 2147483647 < 2147483647 := fun x => ⟨Int.emod_nonneg x (by decide), Int.emod_lt_of_pos x m47⟩
      walk_at "nx"
      refine s_mul (.inl (by decide)) ?_
      walk_at "nx"
      refine s_mod m29 ?_
      walk_at "nx"
      refine s_mul (.inl (by decide)) ?_
      walk_at "nx"
      refine s_mul (.inl (by have := b29 cell; omega)) ?_
      walk_at "nx"
      refine s_mod m47 ?_
      walk_at "nx"
      refine s_mul (.inl (by have := b47 ((cell % 2147483629 + 1) * (48271 + 2 * (e + 7 * a))); omega)) ?_
      walk_at "nx"
      refine s_mul (.inl (by decide)) ?_
      walk_at "nx"
      refine s_mod m29 ?_
      walk_at "nx"
      refine jtD (fun e3 => ?_) (fun e3 => ?_)
      · walk_at "nx"
        refine s_div ⟨by decide, by decide⟩ ?_
        walk_at "nx"
        refine s_mod hm ?_
        exact fin _ _ _ _ (big _).1 (big _).2
      · walk_at "nx"
        refine s_div ⟨by decide, by decide⟩ ?_
        walk_at "nx"
        refine s_mod hm ?_
        exact fin _ _ _ _ (big _).1 (big _).2
    walk_at "nx"
    refine s_pow ⟨by decide, by decide, by decide⟩ ?_
    walk_at "nx"
    refine jtD (fun e1 => ?_) (fun e1 => ?_)
    · walk_at "nx"
      refine jtD (fun e2 => ?_) (fun e2 => ?_)
      · refine s_cut (fun σ' H' => ∃ b', σ' = [some (.ref st), some (.int many), some (.ref c), some (.int cell), none, none, none] ∧ H' = upd H st (.lst [.ref c, .int a, .int b', .int e])) ?_ (fun N rest => ?_)
        · rintro σ' H' ⟨b', rfl, rfl⟩
          walk_at "nx"
          refine s_mod hm ?_
          walk_at "nx"
          refine s_div (hdv _) ?_
          walk_at "nx"
          refine jtD (fun e3 => ?_) (fun e3 => ?_)
          · walk_at "nx"
            exact fin _ _ _ _ (big _).1 (big _).2
          · walk_at "nx"
            refine jtD (fun e4 => ?_) (fun e4 => ?_)
            · walk_at "nx"
              exact fin _ _ _ _ (big _).1 (big _).2
            · walk_at "nx"
              exact fin _ _ _ _ (big _).1 (big _).2
        · walk_at "nx"
          refine jtD (fun e3 => ?_) (fun e3 => ?_)
          · walk_at "nx"
            exact rest _ _ ⟨_, rfl, rfl⟩
          · walk_at "nx"
            exact rest _ _ ⟨_, rfl, rfl⟩
      · walk_at "nx"
        exact rest _ _ ⟨rfl, rfl⟩
    · walk_at "nx"
      exact rest _ _ ⟨rfl, rfl⟩
end
end H87

namespace H87
open PySem PySem.Spec L2 He Y Hk87
local macro_rules | `(tactic| walk_at "rd1") => `(tactic| first
  | with_reducible refine s_seq ?_
  | with_reducible refine s_asg ?_
  | with_reducible refine s_gname ?_
  | ((with_reducible refine s_var (v := ?_) ?_ ?_); rotate_left; exact rfl)
  | with_reducible refine s_c ?_
  | with_reducible refine s_op ?_
  | with_reducible refine s_un ?_
  | with_reducible refine s_nil ?_
  | with_reducible refine s_cons ?_
  | with_reducible refine s_CB ?_
  | with_reducible refine s_ifS ?_
  | with_reducible refine s_test ?_
  | with_reducible refine s_B ?_
  | with_reducible refine s_xb ?_
  | with_reducible refine s_xi ?_
  | with_reducible refine s_xs ?_
  | with_reducible refine s_or ?_
  | with_reducible refine s_and ?_
  | with_reducible refine s_not ?_
  | with_reducible refine s_orV ?_
  | with_reducible refine s_andV ?_
  | with_reducible refine s_notV ?_
  | with_reducible refine s_ret ?_
  | with_reducible refine s_retN ?_
  | with_reducible refine s_next ?_
  | with_reducible refine s_drop ?_
  | with_reducible refine s_yes ?_
  | with_reducible refine s_for ?_
  | with_reducible refine s_lc ?_
  | with_reducible refine s_iStr ?_
  | with_reducible refine s_iList ?_
  | with_reducible refine s_iTup ?_
  | with_reducible refine s_iR1 ?_
  | with_reducible refine s_iR2 ?_
  | with_reducible refine s_iE ?_
  | with_reducible refine s_iET ?_
  | with_reducible refine s_iES ?_
  | with_reducible refine s_tup ?_
  | with_reducible refine s_lst ?_
  | with_reducible refine s_BM ?_
  | with_reducible refine s_BM0 ?_
  | with_reducible refine s_BMS ?_
  | with_reducible refine s_M1 ?_
  | with_reducible refine s_sl ?_
  | with_reducible refine s_noP ?_
  | with_reducible refine s_po ?_
  | with_reducible refine s_call ?_
  | with_reducible refine s_callS ?_
  | with_reducible refine s_make ?_
  | with_reducible refine s_makeS ?_
  | with_reducible refine s_methS ?_
  | with_reducible refine s_callO ?_
  | with_reducible refine s_dnew ?_
  | with_reducible refine s_dget ?_
  | with_reducible refine s_din ?_
  | with_reducible refine s_dnin ?_
  | with_reducible refine s_dput ?_
  | with_reducible refine s_dsetd ?_
  | with_reducible refine s_dget2 ?_
  | with_reducible refine s_fld ?_
  | with_reducible refine s_sFld ?_
  | with_reducible refine s_rz ?_
  | with_reducible refine s_asgS ?_
  | with_reducible refine s_gSub ?_
  | with_reducible refine s_ifE ?_
  | with_reducible refine s_add_i ?_
  | with_reducible refine s_sub ?_
  | with_reducible refine s_neg ?_
  | with_reducible refine s_eq_i ?_
  | with_reducible refine s_eq_s ?_
  | with_reducible refine s_ne_i ?_
  | with_reducible refine s_ne_s ?_
  | with_reducible refine s_lt_i ?_
  | with_reducible refine s_le_i ?_
  | with_reducible refine s_gt_i ?_
  | with_reducible refine s_ge_i ?_
  | with_reducible refine s_lt_s ?_
  | with_reducible refine s_le_s ?_
  | with_reducible refine s_gt_s ?_
  | with_reducible refine s_ge_s ?_
  | with_reducible refine s_in_c ?_
  | with_reducible refine s_ni_c ?_
  | with_reducible refine s_isN ?_
  | with_reducible refine s_noN ?_
  | with_reducible refine s_abs ?_
  | with_reducible refine s_min2 ?_
  | with_reducible refine s_max2 ?_
  | with_reducible refine s_int_i ?_
  | ((with_reducible refine s_len_s ?_ ?_); assumption)
  | ((with_reducible refine s_len_l (xs := ?_) ?_ ?_); rotate_left; assumption)
  | ((with_reducible refine s_len_t (xs := ?_) ?_ ?_); rotate_left; assumption)
  | with_reducible refine s_pair upd_same ?_
  | with_reducible refine s_callS ?_
  | with_reducible refine jtT ?_
  | with_reducible refine jtF ?_
  | with_reducible refine jtNT ?_
  | with_reducible refine jtNF ?_
  | dsimp only)
local macro_rules | `(tactic| walk_at "rd") => `(tactic| repeat (walk_at "rd1"))

/-! ### views -/
def viewI (w : Str) (at_ size : Int) : Str := cutS w (some (if at_ - size + 1 > 0 then at_ - size + 1 else 0)) (some (at_ + 1))
theorem view_len (w : Str) (a s : Int) : (viewI w a s).length ≤ w.length := cutS_length _ _ _
abbrev Tb : Type := List (Str × Str)
abbrev IsS : V → Str → Prop := fun v y => v = .str y
/-- a turner -/
structure IsT (K : PySem.W.Frag) (D : Hp) (v : V) (l i : Str) (n : Int) (t : Tb) : Prop where
  ex : ∃ (a dx da : Addr) (kvs : List (Key × V)), v = .ref a ∧ D a = some (.ins (ga K "Turner") dx [("letters", .str l), ("images", .str i), ("size", .int n), ("table", .ref da)]) ∧ D da = some (.dK kvs) ∧ KvR IsS kvs t
theorem IsT.up {K : PySem.W.Frag} {D D' : Hp} {v : V} {l i : Str} {n : Int} {t : Tb} (e : Same D D') (h : IsT K D v l i n t) : IsT K D' v l i n t := by
  obtain ⟨a, dx, da, kvs, h1, h2, h3, h4⟩ := h
  exact ⟨a, dx, da, kvs, h1, e _ _ h2, e _ _ h3, h4⟩
/-- the image by a table from place j on, made so far: im -/
def imgM (t : Tb) (w : Str) (size : Int) : Nat → Nat → Str → Option Str
  | 0, _, im => some im
  | n + 1, j, im => match getS t (viewI w (j : Nat) size) with
    | none => none
    | some y => imgM t w size n (j + 1) (im ++ y)
theorem imgM_succ (t : Tb) (w : Str) (size : Int) (n j : Nat) (im : Str) : imgM t w size (n + 1) j im = match getS t (viewI w (j : Nat) size) with
    | none => none
    | some y => imgM t w size n (j + 1) (im ++ y) := rfl
section
variable {P : Program} {w : World} {K : PySem.W.Frag} {mg : Str → Option Value} {base : Heap}
theorem S_view_at : FnScope ["word", "at", "size"] ["word", "at", "size"] (d_view_at).scope := ⟨rfl, rfl, rfl, by decide +kernel, rfl, by decide +kernel, by decide +kernel⟩
def sp_view : Sp := fun vs H Q E => ∃ (z : Str) (a s : Int), vs = [.str z, .int a, .int s] ∧ z.length ≤ sizeLine ∧ Q (.str (viewI z a s)) H
theorem w_view_at (T : Txt P w K mg) : Has P w K mg base 3 "view_at" sp_view := by
  have S := S_view_at
  refine has_of (k := 2) T.d_view_at T.gd_view_at S (fun _ _ _ _ _ _ us hl => match us, hl with | [_, _, _], _ => rfl) (fun vs H Q E h => ?_) (fun f cdv A outer s H vs Q E hr h => ?_)
  · obtain ⟨z, a, s, rfl, _⟩ := h
    rfl
  · obtain ⟨z, a, s, rfl, hz, q⟩ := h
    refine ⟨_, (pss_one (ps_ret (pe_slice (slK_any K) (pv 0) (po_some (pe_callB (b_max rfl) (by rfl) T.b_max (by decide +kernel) (pa_cons pe_int (pa_cons (pe_op (oK_add K) (pe_op o_sub (pv 1) (pv 2)) pe_int) pa_nil)))) (po_some (pe_op (oK_add K) (pv 1) pe_int))))), ?_⟩
    walk_at "rd"
    exact s_sl_s hz q
theorem S_law_view : FnScope ["word", "at", "size"] ["word", "at", "size"] (d_law_view).scope := ⟨rfl, rfl, rfl, by decide +kernel, rfl, by decide +kernel, by decide +kernel⟩
theorem w_law_view (T : Txt P w K mg) : Has P w K mg base 3 "_law_view" sp_view := by
  have S := S_law_view
  refine has_of (k := 2) T.d_law_view T.gd_law_view S (fun _ _ _ _ _ _ us hl => match us, hl with | [_, _, _], _ => rfl) (fun vs H Q E h => ?_) (fun f cdv A outer s H vs Q E hr h => ?_)
  · obtain ⟨z, a, s, rfl, _⟩ := h
    rfl
  · obtain ⟨z, a, s, rfl, hz, q⟩ := h
    refine ⟨_, (pss_one (ps_ret (pe_slice (slK_any K) (pv 0) (po_some (pe_callB (b_max rfl) (by rfl) T.b_max (by decide +kernel) (pa_cons pe_int (pa_cons (pe_op (oK_add K) (pe_op o_sub (pv 1) (pv 2)) pe_int) pa_nil)))) (po_some (pe_op (oK_add K) (pv 1) pe_int))))), ?_⟩
    walk_at "rd"
    exact s_sl_s hz q
theorem S_Turner_init : FnScope ["self", "letters", "images", "size", "table"] ["self", "letters", "images", "size", "table"] (d_Turner_init).scope := ⟨rfl, rfl, rfl, by decide +kernel, rfl, by decide +kernel, by decide +kernel⟩
def sp_Turner (K : PySem.W.Frag) : Sp := fun vs H Q E => ∃ (D : Hp) (x dx : Addr) (l i : Str) (n : Int) (td : Addr) (kvs : List (Key × V)) (t : Tb), vs = [.ref x, .str l, .str i, .int n, .ref td] ∧ l.length ≤ sizeLine ∧ i.length ≤ sizeLine ∧ Same D H ∧ D x = none ∧ H x = some (.ins (ga K "Turner") dx []) ∧
  H td = some (.dK kvs) ∧ KvR IsS kvs t ∧ (okLetters l = true → okLetters i = true → ∀ D' H' da kvs', Gr (· = x) D H D' H' → D' x = none → H' x = some (.ins (ga K "Turner") dx [("letters", .str l), ("images", .str i), ("size", .int n), ("table", .ref da)]) → D' da = some (.dK kvs') → KvR IsS kvs' t → Q .non H') ∧
  (¬ (okLetters l = true ∧ okLetters i = true) → E (.ref (ga K "BadLetters")) none H)
theorem w_Turner (T : Txt P w K mg) : HasC P w K mg base 4 "Turner" (ga K "Turner") (sp_Turner K) := by
  have S := S_Turner_init
  have G_check_letters := w_check_letters (base := base) T
  refine hasC_of (k := 3) T.d_Turner_init T.g_Turner T.mk_Turner S (fun _ _ _ _ _ _ us hl => match us, hl with | [_, _, _, _, _], _ => rfl) (fun vs H Q E h => ?_) (fun f cdv A outer s H vs Q E hr h => ?_)
  · obtain ⟨D, x, dx, l, i, n, td, kvs, t, rfl, _⟩ := h
    rfl
  · obtain ⟨D, x, dx, l, i, n, td, kvs, t, rfl, hl, hi, sm, hDx, hHx, htd, hkv, q1, q2⟩ := h
    refine ⟨_, (pss_cons (ps_expr (pe_has G_check_letters (hr.mono (by decide)) (takes_of rfl rfl rfl rfl) rfl (pa_cons (pv 1) pa_nil)))
    (pss_cons (ps_expr (pe_has G_check_letters (hr.mono (by decide)) (takes_of rfl rfl rfl rfl) rfl (pa_cons (pv 2) pa_nil)))
    (pss_cons (psK_fld K (pv 0) (pv 1) rfl)
    (pss_cons (psK_fld K (pv 0) (pv 2) rfl)
    (pss_cons (psK_fld K (pv 0) (pv 3) rfl)
    (pss_one (psK_fld K (pv 0) (pe_callTy call_dictD (by rfl) T.b_dict (by decide +kernel) (pa_cons (pv 4) pa_nil)) rfl))))))), ?_⟩
    walk_at "rd"
    refine ⟨l, rfl, hl, fun ok1 => ?_, fun e => q2 fun z => by rw [e] at z; cases z.1⟩
    walk_at "rd"
    refine ⟨i, rfl, hi, fun ok2 => ?_, fun e => q2 fun z => by rw [e] at z; cases z.2⟩
    walk_at "rd"
    have ntx : td ≠ x := fun e => by rw [e, hHx] at htd; cases htd
    refine ⟨x, _, _, _, rfl, hHx, T.cl_Turner, T.na_Turner_letters, of_decide_eq_true rfl, ?_⟩
    walk_at "rd"
    refine ⟨x, _, _, _, rfl, upd_same, T.cl_Turner, T.na_Turner_images, of_decide_eq_true rfl, ?_⟩
    rw [upd_upd]
    walk_at "rd"
    refine ⟨x, _, _, _, rfl, upd_same, T.cl_Turner, T.na_Turner_size, of_decide_eq_true rfl, ?_⟩
    rw [upd_upd]
    have g1 := (Gr.refl (m := (· = x)) sm).put (o := .ins (ga K "Turner") dx [("letters", .str l), ("images", .str i), ("size", .int n)]) hDx (.inr rfl)
    have htd1 : (upd H x (.ins (ga K "Turner") dx [("letters", .str l), ("images", .str i), ("size", .int n)])) td = some (.dK kvs) := (upd_ne ntx).trans htd
    have hx1 : (upd H x (.ins (ga K "Turner") dx [("letters", .str l), ("images", .str i), ("size", .int n)])) x = _ := upd_same
    walk_at "rd"
    refine ⟨td, kvs, rfl, .inl htd1, fun da nda => ?_⟩
    have g2 := g1.ice (o := .dK kvs) nda
    have nxd : x ≠ da := fun e => by rw [← e, upd_same] at nda; cases nda
    have hD2 : (upd D da (.dK kvs)) x = none := (upd_ne nxd).trans hDx
    walk_at "rd"
    refine ⟨x, _, _, _, rfl, (upd_ne nxd).trans hx1, T.cl_Turner, T.na_Turner_table, of_decide_eq_true rfl, ?_⟩
    exact q1 ok1 ok2 _ _ da kvs (g2.put (o := .ins (ga K "Turner") dx [("letters", .str l), ("images", .str i), ("size", .int n), ("table", .ref da)]) hD2 (.inr rfl)) hD2 upd_same upd_same hkv
theorem S_Turner_call : FnScope ["self", "word", "image", "at", "view"] ["self", "word"] (d_Turner_call).scope := ⟨rfl, rfl, rfl, by decide +kernel, rfl, by decide +kernel, by decide +kernel⟩
def sp_call (K : PySem.W.Frag) : Sp := fun vs H Q E => ∃ (D : Hp) (v : V) (l i : Str) (n : Int) (t : Tb) (z : Str), vs = [v, .str z] ∧ z.length ≤ 1000 ∧ Same D H ∧ IsT K D v l i n t ∧ (∀ p ∈ t, p.2.length ≤ 1000) ∧
  (badAt l.cps.toList 0 z.cps.toList = none → ∀ D' H', Gr No D H D' H' → Q (match imgM t z n z.length 0 "" with
    | none => .non
    | some y => .str y) H') ∧
  (∀ k, badAt l.cps.toList 0 z.cps.toList = some k → ∀ D' H' d, Gr No D H D' H' → H' d = none → E (.ref (ga K "BadWord")) (some d) (upd H' d (.xd [("place", .int (k : Nat)), ("word", .str z)])))
theorem getS_mem {α : Type} {t : List (Str × α)} {k : Str} {y : α} (h : getS t k = some y) : (k, y) ∈ t := by
  unfold getS at h
  obtain ⟨p, hp, e⟩ := Option.map_eq_some_iff.mp h
  have h1 := List.find?_some hp
  have h2 := List.mem_of_find?_eq_some hp
  have : p.1 = k := of_decide_eq_true h1
  rw [← this, ← e]
  exact h2
theorem w_call (T : Txt P w K mg) : HasM P w K mg base 4 (ga K "Turner") "__call__" (sp_call K) := by
  have S := S_Turner_call
  have G_check_word := w_check_word (base := base) T
  have G_view_at := w_view_at (base := base) T
  refine hasM_of (k := 3) T.d_Turner_call T.me_Turner_call T.cl_Turner S (fun _ _ _ _ _ _ us hl => match us, hl with | [_, _], _ => rfl) (fun vs H Q E h => ?_) (fun f cdv A outer s H vs Q E hr h => ?_)
  · obtain ⟨D, v, l, i, n, t, z, rfl, _⟩ := h
    rfl
  · obtain ⟨D, v, l, i, n, t, z, rfl, hz, sm, M, hty, q1, q2⟩ := h
    obtain ⟨a, dx, da, kvs, rfl, ha, hda, hkv⟩ := M
    have hzl := le1000 hz
    refine ⟨_, (pss_cons (ps_expr (pe_has G_check_word (hr.mono (by decide)) (takes_of rfl rfl rfl rfl) rfl (pa_cons (peK_fld K (pv 0) rfl) (pa_cons (pv 1) pa_nil))))
    (pss_cons (ps_set (i := 2) S.nd rfl (Or.inl rfl) pe_str)
    (pss_cons (ps_for (passes_of rfl) rfl (pi_range1 (by rfl) T.b_range (pa_cons (pe_callB (bK_len K) (by rfl) T.b_len (by decide +kernel) (pa_cons (pv 1) pa_nil)) pa_nil)) (pg_name (i := 3) S.nd rfl (Or.inl rfl))
      (pss_cons (ps_set (i := 4) S.nd rfl (Or.inl rfl) (pe_has G_view_at (hr.mono (by decide)) (takes_of rfl rfl rfl rfl) rfl (pa_cons (pv 1) (pa_cons (pv 3) (pa_cons (peK_fld K (pv 0) rfl) pa_nil)))))
    (pss_cons (ps_if (pt_cmp (pc_dnotin (hu_of hr) (pv 4) (peK_fld K (pv 0) rfl)))
      (pss_one (ps_ret pe_non))
      pss_nil)
    (pss_one (ps_set (i := 2) S.nd rfl (Or.inl rfl) (pe_op (oK_add K) (pv 2) (pe_dget (hu_of hr) (peK_fld K (pv 0) rfl) (pv 4) (fun _ _ => rfl))))))))
    (pss_one (ps_ret (pv 2)))))), ?_⟩
    walk_at "rd"
    refine ⟨a, _, _, _, _, rfl, sm _ _ ha, T.cl_Turner, T.na_Turner_letters, rfl, ?_⟩
    walk_at "rd"
    refine ⟨D, l, z, rfl, hzl, sm, fun ok D1 H1 g1 => ?_, q2⟩
    have q := q1 ok
    walk_at "rd"
    refine ⟨_, rfl, by omega, by omega, lp_it walk_r0 (fun i σ H' => H' = H1 ∧ ∃ im o3 o4, σ = [some (.ref a), some (.str z), some (.str im), o3, o4] ∧ im.length ≤ 1000 * i ∧ imgM t z n (z.length - i) i im = imgM t z n z.length 0 "") ⟨rfl, "", none, none, rfl, by decide, rfl⟩ (fun _ _ _ _ _ => trivial) ?_ ?_⟩
    · rintro i x σ H2 H3 hi ⟨rfl, im, o3, o4, rfl, him, en⟩ ⟨rfl, rfl⟩
      have hi1 : i < z.length := by omega
      rw [show z.length - i = (z.length - (i + 1)) + 1 by omega, imgM_succ] at en
      walk_at "rd"
      refine ⟨a, _, _, _, _, rfl, g1.same' _ _ ha, T.cl_Turner, T.na_Turner_size, rfl, ?_⟩
      walk_at "rd"
      refine ⟨z, _, _, rfl, hzl, ?_⟩
      walk_at "rd"
      refine ⟨a, _, _, _, _, rfl, g1.same' _ _ ha, T.cl_Turner, T.na_Turner_table, rfl, ?_⟩
      rcases dgetS (g1.same' _ _ hda) hkv (viewI z (i : Nat) n) with ⟨hd, hg⟩ | ⟨v, y, hd, hg, rfl⟩
      · rw [hg] at en
        refine ⟨da, _, rfl, hd, ?_⟩
        walk_at "rd"
        have := q D1 H3 g1
        rw [← en] at this
        exact this
      · rw [hg] at en
        refine ⟨da, _, rfl, hd, ?_⟩
        walk_at "rd"
        refine jtNT ?_
        walk_at "rd"
        refine ⟨a, _, _, _, _, rfl, g1.same' _ _ ha, T.cl_Turner, T.na_Turner_table, rfl, ?_⟩
        walk_at "rd"
        refine ⟨da, _, rfl, hd, ?_⟩
        have hyl := hty _ (getS_mem hg)
        refine s_add_s (leBig (by have : y.length ≤ 1000 := hyl; omega)) ?_
        walk_at "rd"
        refine ⟨rfl, _, _, _, rfl, ?_, en⟩
        rw [app_len]
        have : y.length ≤ 1000 := hyl
        omega
    · rintro σ H2 ⟨rfl, im, o3, o4, rfl, him, en⟩
      rw [show ((z.length : Int)).toNat = z.length from Int.toNat_natCast _, Nat.sub_self] at en
      walk_at "rd"
      have := q D1 H2 g1
      rw [← en] at this
      exact this
end
end H87

namespace H87
open PySem PySem.Spec L2 He Y Hk87
local macro_rules | `(tactic| walk_at "rd1") => `(tactic| first
  | with_reducible refine s_seq ?_
  | with_reducible refine s_asg ?_
  | with_reducible refine s_gname ?_
  | ((with_reducible refine s_var (v := ?_) ?_ ?_); rotate_left; exact rfl)
  | with_reducible refine s_c ?_
  | with_reducible refine s_op ?_
  | with_reducible refine s_un ?_
  | with_reducible refine s_nil ?_
  | with_reducible refine s_cons ?_
  | with_reducible refine s_CB ?_
  | with_reducible refine s_ifS ?_
  | with_reducible refine s_test ?_
  | with_reducible refine s_B ?_
  | with_reducible refine s_xb ?_
  | with_reducible refine s_xi ?_
  | with_reducible refine s_xs ?_
  | with_reducible refine s_or ?_
  | with_reducible refine s_and ?_
  | with_reducible refine s_not ?_
  | with_reducible refine s_orV ?_
  | with_reducible refine s_andV ?_
  | with_reducible refine s_notV ?_
  | with_reducible refine s_ret ?_
  | with_reducible refine s_retN ?_
  | with_reducible refine s_next ?_
  | with_reducible refine s_drop ?_
  | with_reducible refine s_yes ?_
  | with_reducible refine s_for ?_
  | with_reducible refine s_lc ?_
  | with_reducible refine s_iStr ?_
  | with_reducible refine s_iList ?_
  | with_reducible refine s_iTup ?_
  | with_reducible refine s_iR1 ?_
  | with_reducible refine s_iR2 ?_
  | with_reducible refine s_iE ?_
  | with_reducible refine s_iET ?_
  | with_reducible refine s_iES ?_
  | with_reducible refine s_tup ?_
  | with_reducible refine s_lst ?_
  | with_reducible refine s_BM ?_
  | with_reducible refine s_BM0 ?_
  | with_reducible refine s_BMS ?_
  | with_reducible refine s_M1 ?_
  | with_reducible refine s_sl ?_
  | with_reducible refine s_noP ?_
  | with_reducible refine s_po ?_
  | with_reducible refine s_call ?_
  | with_reducible refine s_callS ?_
  | with_reducible refine s_make ?_
  | with_reducible refine s_makeS ?_
  | with_reducible refine s_methS ?_
  | with_reducible refine s_callO ?_
  | with_reducible refine s_dnew ?_
  | with_reducible refine s_dget ?_
  | with_reducible refine s_din ?_
  | with_reducible refine s_dnin ?_
  | with_reducible refine s_dput ?_
  | with_reducible refine s_dsetd ?_
  | with_reducible refine s_dget2 ?_
  | with_reducible refine s_fld ?_
  | with_reducible refine s_sFld ?_
  | with_reducible refine s_rz ?_
  | with_reducible refine s_asgS ?_
  | with_reducible refine s_gSub ?_
  | with_reducible refine s_ifE ?_
  | with_reducible refine s_add_i ?_
  | with_reducible refine s_sub ?_
  | with_reducible refine s_neg ?_
  | with_reducible refine s_eq_i ?_
  | with_reducible refine s_eq_s ?_
  | with_reducible refine s_ne_i ?_
  | with_reducible refine s_ne_s ?_
  | with_reducible refine s_lt_i ?_
  | with_reducible refine s_le_i ?_
  | with_reducible refine s_gt_i ?_
  | with_reducible refine s_ge_i ?_
  | with_reducible refine s_lt_s ?_
  | with_reducible refine s_le_s ?_
  | with_reducible refine s_gt_s ?_
  | with_reducible refine s_ge_s ?_
  | with_reducible refine s_in_c ?_
  | with_reducible refine s_ni_c ?_
  | with_reducible refine s_isN ?_
  | with_reducible refine s_noN ?_
  | with_reducible refine s_abs ?_
  | with_reducible refine s_min2 ?_
  | with_reducible refine s_max2 ?_
  | with_reducible refine s_int_i ?_
  | ((with_reducible refine s_len_s ?_ ?_); assumption)
  | ((with_reducible refine s_len_l (xs := ?_) ?_ ?_); rotate_left; assumption)
  | ((with_reducible refine s_len_t (xs := ?_) ?_ ?_); rotate_left; assumption)
  | with_reducible refine s_pair upd_same ?_
  | with_reducible refine s_callS ?_
  | with_reducible refine jtT ?_
  | with_reducible refine jtF ?_
  | with_reducible refine jtNT ?_
  | with_reducible refine jtNF ?_
  | dsimp only)
local macro_rules | `(tactic| walk_at "rd") => `(tactic| repeat (walk_at "rd1"))

/-! ### pairs -/
abbrev Pr : Type := Str × Str
abbrev dP (p : Pr) : PyData := .tuple [.str p.1, .str p.2]
abbrev dPs (ps : List Pr) : PyData := .list (ps.map dP)
inductive Bad where
  | word (s : Str) (k : Nat) | text (n : Nat)
def badP (l i : Str) : Nat → List Pr → Option Bad
  | _, [] => none
  | n, p :: r => match badAt l.cps.toList 0 p.1.cps.toList with
    | some k => some (.word p.1 k)
    | none => match badAt i.cps.toList 0 p.2.cps.toList with
      | some k => some (.word p.2 k)
      | none => if p.1.length = p.2.length then badP l i (n + 1) r else some (.text n)
theorem badP_cons (l i : Str) (n : Nat) (p : Pr) (r : List Pr) : badP l i n (p :: r) = match badAt l.cps.toList 0 p.1.cps.toList with
    | some k => some (.word p.1 k)
    | none => match badAt i.cps.toList 0 p.2.cps.toList with
      | some k => some (.word p.2 k)
      | none => if p.1.length = p.2.length then badP l i (n + 1) r else some (.text n) := rfl
/-- the error that is wished for -/
def Er (K : PySem.W.Frag) (E : XK) (D H : Hp) : Bad → Prop
  | .word s k => ∀ D' H' d, Gr No D H D' H' → H' d = none → E (.ref (ga K "BadWord")) (some d) (upd H' d (.xd [("place", .int (k : Nat)), ("word", .str s)]))
  | .text n => ∀ D' H' d, Gr No D H D' H' → H' d = none → E (.ref (ga K "BadText")) (some d) (upd H' d (.xd [("line", .int (n : Nat))]))
structure Short (ps : List Pr) : Prop where
  few : ps.length ≤ 1000
  len : ∀ p ∈ ps, p.1.length ≤ 1000 ∧ p.2.length ≤ 1000
theorem dP_get {K : PySem.W.Frag} {D : Hp} {v : V} {p : Pr} (h : Dp K D v (dP p)) : ∃ a, v = .ref a ∧ SqT K D a [.str p.1, .str p.2] := by
  obtain ⟨a, xs, e, hs, ha⟩ := dp_tuple h
  have : xs = [p.1, p.2].map V.str := dpl_strs (zs := [p.1, p.2]) ha
  rw [this] at hs
  exact ⟨a, e, hs⟩
section
variable {P : Program} {w : World} {K : PySem.W.Frag} {mg : Str → Option Value} {base : Heap}
theorem S_check_pairs : FnScope ["letters", "images", "pairs", "number", "pair"] ["letters", "images", "pairs"] (d_check_pairs).scope := ⟨rfl, rfl, rfl, by decide +kernel, rfl, by decide +kernel, by decide +kernel⟩
def sp_check_pairs (K : PySem.W.Frag) : Sp := fun vs H Q E => ∃ (D : Hp) (l i : Str) (v : V) (ps : List Pr), vs = [.str l, .str i, v] ∧ l.length ≤ sizeLine ∧ i.length ≤ sizeLine ∧ Same D H ∧ Dp K D v (dPs ps) ∧ Short ps ∧
  (¬ (okLetters l = true ∧ okLetters i = true) → E (.ref (ga K "BadLetters")) none H) ∧
  (okLetters l = true → okLetters i = true → badP l i 0 ps = none → ∀ D' H', Gr No D H D' H' → Q .non H') ∧
  (okLetters l = true → okLetters i = true → ∀ b, badP l i 0 ps = some b → Er K E D H b)
theorem w_check_pairs (T : Txt P w K mg) : Has P w K mg base 4 "check_pairs" (sp_check_pairs K) := by
  have S := S_check_pairs
  have G_check_letters := w_check_letters (base := base) T
  have G_check_word := w_check_word (base := base) T
  refine has_of (k := 3) T.d_check_pairs T.gd_check_pairs S (fun _ _ _ _ _ _ us hl => match us, hl with | [_, _, _], _ => rfl) (fun vs H Q E h => ?_) (fun f cdv A outer s H vs Q E hr h => ?_)
  · obtain ⟨D, l, i, v, ps, rfl, _⟩ := h
    rfl
  · obtain ⟨D, l, im, v, ps, rfl, hl, hi, sm, dv, hsh, q0, q1, q2⟩ := h
    obtain ⟨a, xs, rfl, ha, hxs⟩ := dp_list dv
    refine ⟨_, (pss_cons (ps_expr (pe_has G_check_letters (hr.mono (by decide)) (takes_of rfl rfl rfl rfl) rfl (pa_cons (pv 0) pa_nil)))
    (pss_cons (ps_expr (pe_has G_check_letters (hr.mono (by decide)) (takes_of rfl rfl rfl rfl) rfl (pa_cons (pv 1) pa_nil)))
    (pss_one (ps_for (passes_of rfl) rfl (piK_enum K (by rfl) T.b_enumerate (pa_cons (pv 2) pa_nil)) (pgK_tup K (n := 2) rfl (pgs_cons (pg_name (i := 3) S.nd rfl (Or.inl rfl)) (pgs_cons (pg_name (i := 4) S.nd rfl (Or.inl rfl)) pgs_nil)))
      (pss_cons (ps_expr (pe_has G_check_word (hr.mono (by decide)) (takes_of rfl rfl rfl rfl) rfl (pa_cons (pv 0) (pa_cons (pe_ix (ixK_seq K) (pv 4) pe_int (fun _ _ => rfl)) pa_nil))))
    (pss_cons (ps_expr (pe_has G_check_word (hr.mono (by decide)) (takes_of rfl rfl rfl rfl) rfl (pa_cons (pv 1) (pa_cons (pe_ix (ixK_seq K) (pv 4) pe_int (fun _ _ => rfl)) pa_nil))))
    (pss_one (ps_if (pt_cmpR (cK_ne K hr.units) (pe_callB (bK_len K) (by rfl) T.b_len (by decide +kernel) (pa_cons (pe_ix (ixK_seq K) (pv 4) pe_int (fun _ _ => rfl)) pa_nil)) (pe_callB (bK_len K) (by rfl) T.b_len (by decide +kernel) (pa_cons (pe_ix (ixK_seq K) (pv 4) pe_int (fun _ _ => rfl)) pa_nil)) (nomark _))
      (pss_one (ps_raise rfl (takes_of rfl rfl rfl rfl) (pmk_rz (z_BadText T) (hr.mono (by decide)) rfl (pa_cons (pv 3) pa_nil))))
      pss_nil)))))))), ?_⟩
    walk_at "rd"
    refine ⟨l, rfl, hl, fun ok1 => ?_, fun e => q0 fun z => by rw [e] at z; cases z.1⟩
    walk_at "rd"
    refine ⟨im, rfl, hi, fun ok2 => ?_, fun e => q0 fun z => by rw [e] at z; cases z.2⟩
    have q1 := q1 ok1 ok2
    have q2 := q2 ok1 ok2
    have haH := sm.seq ha
    walk_at "rd"
    refine ⟨a, xs, rfl, haH, lp_it walk_enum (fun i σ H' => ∃ D' o3 o4, Gr No D H D' H' ∧ σ = [some (.str l), some (.str im), some (.ref a), o3, o4] ∧ badP l im i (ps.drop i) = badP l im 0 ps) ⟨D, _, _, Gr.refl sm, rfl, rfl⟩ (fun i σ H' _ ⟨D', _, _, g, _⟩ => sql_up g ha) ?_ ?_⟩
    · rintro i x σ H1 H2 hi ⟨D1, o3, o4, g, rfl, en⟩ ⟨t, x1, x2, rfl, nt, rfl, e1, e2⟩
      cases e1
      obtain ⟨d, hd, hx2⟩ := dpl_get hxs e2
      rw [List.getElem?_map] at hd
      obtain ⟨p, hp, rfl⟩ := Option.map_eq_some_iff.mp hd
      obtain ⟨b, rfl, hb⟩ := dP_get hx2
      obtain ⟨hi1, ep⟩ := List.getElem?_eq_some_iff.mp hp
      rw [List.drop_eq_getElem_cons hi1, ep, badP_cons] at en
      have hlen := hsh.len p (List.mem_of_getElem? hp)
      have g2 := g.lay (o := .tup [.int i, .ref b]) nt
      walk_at "rd"
      refine s_ix_t (sqt_up g2 hb) atI_0 ?_
      walk_at "rd"
      refine ⟨D1, l, p.1, rfl, le1000 hlen.1, g2.sub, fun e3 D3 H3 g3 => ?_, fun k e3 D3 H3 d g3 nd => ?_⟩
      · rw [e3] at en
        dsimp only at en
        have g4 := g2.trans g3
        walk_at "rd"
        refine s_ix_t (sqt_up g4 hb) (atI_i (j := 1) rfl rfl) ?_
        walk_at "rd"
        refine ⟨D3, im, p.2, rfl, le1000 hlen.2, g4.sub, fun e4 D5 H5 g5 => ?_, fun k e4 D5 H5 d g5 nd => ?_⟩
        · rw [e4] at en
          dsimp only at en
          have g6 := g4.trans g5
          have h1 := le1000 hlen.1
          have h2 := le1000 hlen.2
          walk_at "rd"
          refine s_ix_t (sqt_up g6 hb) atI_0 ?_
          walk_at "rd"
          refine s_ix_t (sqt_up g6 hb) (atI_i (j := 1) rfl rfl) ?_
          walk_at "rd"
          refine jtN (fun e5 => ?_) (fun e5 => ?_)
          · rw [if_neg fun z => e5 (by rw [z])] at en
            walk_at "rd"
            exact ⟨rfl, by simp, fun d nd => q2 _ en.symm D5 H5 d g6 nd⟩
          · rw [if_pos (by omega)] at en
            walk_at "rd"
            exact ⟨D5, _, _, g6, rfl, en⟩
        · rw [e4] at en
          exact q2 _ en.symm D5 H5 d (g4.trans g5) nd
      · rw [e3] at en
        exact q2 _ en.symm D3 H3 d (g2.trans g3) nd
    · rintro σ H1 ⟨D1, o3, o4, g, rfl, en⟩
      rw [List.drop_of_length_le (by rw [dpl_len hxs, List.length_map]; exact Nat.le_refl _)] at en
      exact q1 en.symm _ _ g
end
end H87

namespace H87
open PySem PySem.Spec L2 He Y Hk87
local macro_rules | `(tactic| walk_at "rd1") => `(tactic| first
  | with_reducible refine s_seq ?_
  | with_reducible refine s_asg ?_
  | with_reducible refine s_gname ?_
  | ((with_reducible refine s_var (v := ?_) ?_ ?_); rotate_left; exact rfl)
  | with_reducible refine s_c ?_
  | with_reducible refine s_op ?_
  | with_reducible refine s_un ?_
  | with_reducible refine s_nil ?_
  | with_reducible refine s_cons ?_
  | with_reducible refine s_CB ?_
  | with_reducible refine s_ifS ?_
  | with_reducible refine s_test ?_
  | with_reducible refine s_B ?_
  | with_reducible refine s_xb ?_
  | with_reducible refine s_xi ?_
  | with_reducible refine s_xs ?_
  | with_reducible refine s_or ?_
  | with_reducible refine s_and ?_
  | with_reducible refine s_not ?_
  | with_reducible refine s_orV ?_
  | with_reducible refine s_andV ?_
  | with_reducible refine s_notV ?_
  | with_reducible refine s_ret ?_
  | with_reducible refine s_retN ?_
  | with_reducible refine s_next ?_
  | with_reducible refine s_drop ?_
  | with_reducible refine s_yes ?_
  | with_reducible refine s_for ?_
  | with_reducible refine s_lc ?_
  | with_reducible refine s_iStr ?_
  | with_reducible refine s_iList ?_
  | with_reducible refine s_iTup ?_
  | with_reducible refine s_iR1 ?_
  | with_reducible refine s_iR2 ?_
  | with_reducible refine s_iE ?_
  | with_reducible refine s_iET ?_
  | with_reducible refine s_iES ?_
  | with_reducible refine s_tup ?_
  | with_reducible refine s_lst ?_
  | with_reducible refine s_BM ?_
  | with_reducible refine s_BM0 ?_
  | with_reducible refine s_BMS ?_
  | with_reducible refine s_M1 ?_
  | with_reducible refine s_sl ?_
  | with_reducible refine s_noP ?_
  | with_reducible refine s_po ?_
  | with_reducible refine s_call ?_
  | with_reducible refine s_callS ?_
  | with_reducible refine s_make ?_
  | with_reducible refine s_makeS ?_
  | with_reducible refine s_methS ?_
  | with_reducible refine s_callO ?_
  | with_reducible refine s_dnew ?_
  | with_reducible refine s_dget ?_
  | with_reducible refine s_din ?_
  | with_reducible refine s_dnin ?_
  | with_reducible refine s_dput ?_
  | with_reducible refine s_dsetd ?_
  | with_reducible refine s_dget2 ?_
  | with_reducible refine s_fld ?_
  | with_reducible refine s_sFld ?_
  | with_reducible refine s_rz ?_
  | with_reducible refine s_asgS ?_
  | with_reducible refine s_gSub ?_
  | with_reducible refine s_ifE ?_
  | with_reducible refine s_add_i ?_
  | with_reducible refine s_sub ?_
  | with_reducible refine s_neg ?_
  | with_reducible refine s_eq_i ?_
  | with_reducible refine s_eq_s ?_
  | with_reducible refine s_ne_i ?_
  | with_reducible refine s_ne_s ?_
  | with_reducible refine s_lt_i ?_
  | with_reducible refine s_le_i ?_
  | with_reducible refine s_gt_i ?_
  | with_reducible refine s_ge_i ?_
  | with_reducible refine s_lt_s ?_
  | with_reducible refine s_le_s ?_
  | with_reducible refine s_gt_s ?_
  | with_reducible refine s_ge_s ?_
  | with_reducible refine s_in_c ?_
  | with_reducible refine s_ni_c ?_
  | with_reducible refine s_isN ?_
  | with_reducible refine s_noN ?_
  | with_reducible refine s_abs ?_
  | with_reducible refine s_min2 ?_
  | with_reducible refine s_max2 ?_
  | with_reducible refine s_int_i ?_
  | ((with_reducible refine s_len_s ?_ ?_); assumption)
  | ((with_reducible refine s_len_l (xs := ?_) ?_ ?_); rotate_left; assumption)
  | ((with_reducible refine s_len_t (xs := ?_) ?_ ?_); rotate_left; assumption)
  | with_reducible refine s_pair upd_same ?_
  | with_reducible refine s_callS ?_
  | with_reducible refine jtT ?_
  | with_reducible refine jtF ?_
  | with_reducible refine jtNT ?_
  | with_reducible refine jtNF ?_
  | dsimp only)
local macro_rules | `(tactic| walk_at "rd") => `(tactic| repeat (walk_at "rd1"))

/-! ### tables of views -/
def chr (im : Str) (j : Nat) : Str := ⟨#[im.cps.toList.getD j 0]⟩
def bW (size : Int) (w im : Str) : Nat → Nat → Tb → Option Tb
  | 0, _, t => some t
  | n + 1, j, t => match getS t (viewI w (j : Nat) size) with
    | some y => if y = chr im j then bW size w im n (j + 1) (putS t (viewI w (j : Nat) size) (chr im j)) else none
    | none => bW size w im n (j + 1) (putS t (viewI w (j : Nat) size) (chr im j))
theorem bW_succ (size : Int) (w im : Str) (n j : Nat) (t : Tb) : bW size w im (n + 1) j t = match getS t (viewI w (j : Nat) size) with
    | some y => if y = chr im j then bW size w im n (j + 1) (putS t (viewI w (j : Nat) size) (chr im j)) else none
    | none => bW size w im n (j + 1) (putS t (viewI w (j : Nat) size) (chr im j)) := rfl
def bP (size : Int) : List Pr → Tb → Option Tb
  | [], t => some t
  | p :: r, t => match bW size p.1 p.2 p.1.length 0 t with
    | none => none
    | some t' => bP size r t'
theorem bP_cons (size : Int) (p : Pr) (r : List Pr) (t : Tb) : bP size (p :: r) t = match bW size p.1 p.2 p.1.length 0 t with
    | none => none
    | some t' => bP size r t' := rfl
/-- the pairs are of one length each -/
structure Fine (ps : List Pr) : Prop extends Short ps where
  eq : ∀ p ∈ ps, p.1.length = p.2.length
/-- two places with one view and different letters -/
structure ClashAt (ps : List Pr) (size : Int) (x y : Nat × Nat) : Prop where
  ex : ∃ p q : Pr, ps[x.1]? = some p ∧ ps[y.1]? = some q ∧ x.2 < p.1.length ∧ y.2 < q.1.length ∧ viewI p.1 (x.2 : Nat) size = viewI q.1 (y.2 : Nat) size ∧ chr p.2 x.2 ≠ chr q.2 y.2
abbrev dN (x : Nat × Nat) : PyData := .tuple [.int (x.1 : Nat), .int (x.2 : Nat)]
/-- the first places t' of views stand beside their letters t -/
structure Lnk (ps : List Pr) (size : Int) (t' : List (Str × (Nat × Nat))) (t : Tb) : Prop where
  eq : ∀ k, (getS t' k).isSome = (getS t k).isSome
  at_ : ∀ k x, getS t' k = some x → ∃ p : Pr, ps[x.1]? = some p ∧ x.2 < p.1.length ∧ viewI p.1 (x.2 : Nat) size = k ∧ getS t k = some (chr p.2 x.2)
theorem Lnk.nil (ps : List Pr) (size : Int) : Lnk ps size [] [] := ⟨fun _ => rfl, fun k x h => nomatch h⟩
theorem Lnk.same {ps : List Pr} {size : Int} {t' : List (Str × (Nat × Nat))} {t : Tb} (L : Lnk ps size t' t) {k : Str} {y : Str} (h : getS t k = some y) : Lnk ps size t' (putS t k y) := by
  have e : ∀ j, getS (putS t k y) j = getS t j := fun j => by
    rw [getS_put]
    by_cases hj : j = k
    · rw [if_pos hj, hj, h]
    · rw [if_neg hj]
  exact ⟨fun j => by rw [e]; exact L.eq j, fun j x hx => by rw [e]; exact L.at_ j x hx⟩
theorem Lnk.new {ps : List Pr} {size : Int} {t' : List (Str × (Nat × Nat))} {t : Tb} (L : Lnk ps size t' t) {x : Nat × Nat} {p : Pr} (hp : ps[x.1]? = some p) (hx : x.2 < p.1.length) :
    Lnk ps size (putS t' (viewI p.1 (x.2 : Nat) size) x) (putS t (viewI p.1 (x.2 : Nat) size) (chr p.2 x.2)) := by
  refine ⟨fun j => ?_, fun j z hz => ?_⟩
  · rw [getS_put, getS_put]
    by_cases hj : j = viewI p.1 (x.2 : Nat) size
    · rw [if_pos hj, if_pos hj]
      rfl
    · rw [if_neg hj, if_neg hj]
      exact L.eq j
  · rw [getS_put] at hz ⊢
    by_cases hj : j = viewI p.1 (x.2 : Nat) size
    · rw [if_pos hj] at hz ⊢
      cases hz
      exact ⟨p, hp, hx, hj.symm, rfl⟩
    · rw [if_neg hj] at hz ⊢
      exact L.at_ j z hz
abbrev RelP (K : PySem.W.Frag) (D : Hp) : V → Nat × Nat → Prop := fun v x => Dp K D v (dN x)
theorem dN_get {K : PySem.W.Frag} {D : Hp} {v : V} {x : Nat × Nat} (h : Dp K D v (dN x)) : ∃ a, v = .ref a ∧ SqT K D a [.int (x.1 : Nat), .int (x.2 : Nat)] := by
  obtain ⟨a, xs, e, hs, ha⟩ := dp_tuple h
  have : xs = [(x.1 : Int), (x.2 : Int)].map V.int := dpl_ints (ns := [(x.1 : Int), (x.2 : Int)]) ha
  rw [this] at hs
  exact ⟨a, e, hs⟩
theorem dN_of {K : PySem.W.Frag} {D : Hp} {a : Addr} {x : Nat × Nat} (h : D a = some (.tup [.int (x.1 : Nat), .int (x.2 : Nat)])) : Dp K D (.ref a) (dN x) := .tup (sqt h) (dpl_of_ints (ns := [(x.1 : Int), (x.2 : Int)]))
/-- the state of first_clash: at word n, place j -/
structure FcI (K : PySem.W.Frag) (D H : Hp) (pl : Addr) (ps : List Pr) (size : Int) (t : Tb) (bd : Nat) (D' H' : Hp) : Prop where
  g : Gr No D H D' H'
  free : D' pl = none
  ex : ∃ (t' : List (Str × (Nat × Nat))) (kvs : List (Key × V)), H' pl = some (.dK kvs) ∧ KvR (RelP K D') kvs t' ∧ Lnk ps size t' t ∧ t'.length ≤ bd
theorem FcI.up {K : PySem.W.Frag} {D H : Hp} {pl : Addr} {ps : List Pr} {size : Int} {t : Tb} {bd : Nat} {D1 H1 D2 H2 : Hp} (h : FcI K D H pl ps size t bd D1 H1) (g : Gr No D1 H1 D2 H2) : FcI K D H pl ps size t bd D2 H2 := by
  obtain ⟨g0, hf, t', kvs, h1, h2, h3, h4⟩ := h
  exact ⟨g0.trans g, g.stay hf h1, t', kvs, g.same _ _ (fun z => z) h1, h2.mono fun v y r => dp_up g r, h3, h4⟩
theorem atI_chr {im : Str} {j : Nat} (h : j < im.length) : atI im.cps.toList (j : Int) = some (im.cps.toList.getD j 0) := by
  have h' : j < im.cps.toList.length := by rw [len_list]; exact h
  rw [getD_at h']
  exact atI_nat (List.getElem?_eq_getElem h')
section
variable {P : Program} {w : World} {K : PySem.W.Frag} {mg : Str → Option Value} {base : Heap}
theorem S_first_clash : FnScope ["pairs", "size", "places", "number", "at", "word", "image", "view", "earlier"] ["pairs", "size"] (d_first_clash).scope := ⟨rfl, rfl, rfl, by decide +kernel, rfl, by decide +kernel, by decide +kernel⟩
def sp_first_clash (K : PySem.W.Frag) : Sp := fun vs H Q E => ∃ (D : Hp) (v : V) (ps : List Pr) (size : Int), vs = [v, .int size] ∧ Same D H ∧ Dp K D v (dPs ps) ∧ Fine ps ∧
  (∀ t, bP size ps [] = some t → ∀ D' H', Gr No D H D' H' → Q .non H') ∧
  (bP size ps [] = none → ∀ x y D' H' u, ClashAt ps size x y → Gr No D H D' H' → Dp K D' u (.tuple [dN x, dN y]) → Q u H')
theorem w_first_clash (T : Txt P w K mg) : Has P w K mg base 4 "first_clash" (sp_first_clash K) := by
  have S := S_first_clash
  have G_view_at := w_view_at (base := base) T
  refine has_of (k := 3) T.d_first_clash T.gd_first_clash S (fun _ _ _ _ _ _ us hl => match us, hl with | [_, _], _ => rfl) (fun vs H Q E h => ?_) (fun f cdv A outer s H vs Q E hr h => ?_)
  · obtain ⟨D, v, ps, size, rfl, _⟩ := h
    rfl
  · obtain ⟨D, v, ps, size, rfl, sm, dv, fine, q1, q2⟩ := h
    obtain ⟨a, xs, rfl, ha, hxs⟩ := dp_list dv
    have hfew := fine.few
    refine ⟨_, (pss_cons (ps_set (i := 2) S.nd rfl (Or.inl rfl) pe_dnewK)
    (pss_cons (ps_for (passes_of rfl) rfl (piK_enum K (by rfl) T.b_enumerate (pa_cons (pv 0) pa_nil)) (pgK_tup K (n := 2) rfl (pgs_cons (pg_name (i := 3) S.nd rfl (Or.inl rfl)) (pgs_cons (pgK_tup K (n := 2) rfl (pgs_cons (pg_name (i := 5) S.nd rfl (Or.inl rfl)) (pgs_cons (pg_name (i := 6) S.nd rfl (Or.inl rfl)) pgs_nil))) pgs_nil)))
      (pss_one (ps_for (passes_of rfl) rfl (pi_range1 (by rfl) T.b_range (pa_cons (pe_callB (bK_len K) (by rfl) T.b_len (by decide +kernel) (pa_cons (pv 5) pa_nil)) pa_nil)) (pg_name (i := 4) S.nd rfl (Or.inl rfl))
      (pss_cons (ps_set (i := 7) S.nd rfl (Or.inl rfl) (pe_has G_view_at (hr.mono (by decide)) (takes_of rfl rfl rfl rfl) rfl (pa_cons (pv 5) (pa_cons (pv 4) (pa_cons (pv 1) pa_nil)))))
    (pss_cons (ps_set (i := 8) S.nd rfl (Or.inl rfl) (pe_dsetd (pv 2) (pv 7) (pe_tup (pa_cons (pv 3) (pa_cons (pv 4) pa_nil))) ⟨rfl, rfl, rfl, rfl⟩))
    (pss_one (ps_if (pt_cmpR (cK_ne K hr.units) (pe_ix (ixK_seq K) (pe_ix (ixK_seq K) (pe_ix (ixK_seq K) (pv 0) (pe_ix (ixK_seq K) (pv 8) pe_int (fun _ _ => rfl)) (fun _ _ => rfl)) pe_int (fun _ _ => rfl)) (pe_ix (ixK_seq K) (pv 8) pe_int (fun _ _ => rfl)) (fun _ _ => rfl)) (pe_ix (ixK_seq K) (pv 6) (pv 4) (fun _ _ => rfl)) (nomark _))
      (pss_one (ps_ret (pe_tup (pa_cons (pv 8) (pa_cons (pe_tup (pa_cons (pv 3) (pa_cons (pv 4) pa_nil))) pa_nil)))))
      pss_nil)))))))
    (pss_one (ps_ret pe_non)))), ?_⟩
    walk_at "rd"
    intro pl npl
    have hDpl : D pl = none := (Gr.refl (m := No) sm).free npl
    have gp := (Gr.refl (m := No) sm).lay (o := .dK []) npl
    have haH := sql_up gp ha
    walk_at "rd"
    refine ⟨a, xs, rfl, haH, lp_it walk_enum (fun i σ H' => ∃ D' t o3 o4 o5 o6 o7 o8, FcI K D H pl ps size t (1000 * i) D' H' ∧ σ = [some (.ref a), some (.int size), some (.ref pl), o3, o4, o5, o6, o7, o8] ∧ bP size (ps.drop i) t = bP size ps [])
      ⟨D, [], none, none, none, none, none, none, ⟨gp, hDpl, [], [], upd_same, .nil, Lnk.nil _ _, Nat.zero_le _⟩, rfl, rfl⟩ (fun i σ H' _ ⟨D', _, _, _, _, _, _, _, g, _⟩ => sql_up g.g ha) ?_ ?_⟩
    · rintro i x σ H1 H2 hi ⟨D1, t, o3, o4, o5, o6, o7, o8, I, rfl, en⟩ ⟨tt, x1, x2, rfl, nt, rfl, e1, e2⟩
      cases e1
      obtain ⟨d, hd, hx2⟩ := dpl_get hxs e2
      rw [List.getElem?_map] at hd
      obtain ⟨p, hp, rfl⟩ := Option.map_eq_some_iff.mp hd
      obtain ⟨b, rfl, hb⟩ := dP_get hx2
      obtain ⟨hi1, ep⟩ := List.getElem?_eq_some_iff.mp hp
      rw [List.drop_eq_getElem_cons hi1, ep, bP_cons] at en
      have hlen := fine.len p (List.mem_of_getElem? hp)
      have heq := fine.eq p (List.mem_of_getElem? hp)
      have hl1 := le1000 hlen.1
      have I2 := I.up ((Gr.refl (m := No) I.g.sub).lay (o := .tup [.int i, .ref b]) nt)
      have hbH := sqt_up I2.g hb
      refine ⟨tt, [.int i, .ref b], rfl, sqt upd_same, rfl, .int i, [.ref b], rfl, .ref b, [], rfl, ⟨b, [.str p.1, .str p.2], rfl, hbH, rfl, .str p.1, [.str p.2], rfl, .str p.2, [], rfl, rfl, rfl, ?_⟩⟩
      walk_at "rd"
      have hcol : ∀ (r : Option Tb), r = bP size ps [] → r = bP size ps [] := fun _ h => h
      refine ⟨_, rfl, by omega, by omega, lp_it walk_r0 (fun j σ H' => ∃ D' t o4 o7 o8, FcI K D H pl ps size t (1000 * i + j) D' H' ∧ σ = [some (.ref a), some (.int size), some (.ref pl), some (.int i), o4, some (.str p.1), some (.str p.2), o7, o8] ∧
        (match bW size p.1 p.2 (p.1.length - j) j t with
          | none => none
          | some t2 => bP size (ps.drop (i + 1)) t2) = bP size ps []) ⟨D1, t, _, _, _, I2, rfl, en⟩ (fun _ _ _ _ _ => trivial) ?_ ?_⟩
      · rintro j x σ H3 H4 hj ⟨D3, t, o4, o7, o8, I3, rfl, en⟩ ⟨rfl, rfl⟩
        have hj1 : j < p.1.length := by omega
        have hj2 : j < p.2.length := by omega
        rw [show p.1.length - j = (p.1.length - (j + 1)) + 1 by omega, bW_succ] at en
        walk_at "rd"
        refine ⟨p.1, _, _, rfl, hl1, ?_⟩
        with_reducible refine s_gname ?_
        obtain ⟨g3, hf3, t', kvs, hk, hkv, L, hb'⟩ := I3
        generalize ev : viewI p.1 (j : Nat) size = vw at *
        refine s_cut (fun σ' H' => ∃ (D' : Hp) (e : V) (x : Nat × Nat) (p' : Pr), Gr No D H D' H' ∧ Dp K D' e (dN x) ∧ ps[x.1]? = some p' ∧ x.2 < p'.1.length ∧ viewI p'.1 (x.2 : Nat) size = vw ∧
          σ' = [some (.ref a), some (.int size), some (.ref pl), some (.int i), some (.int (j : Nat)), some (.str p.1), some (.str p.2), some (.str vw), some e] ∧
          (chr p'.2 x.2 = chr p.2 j → FcI K D H pl ps size (putS t vw (chr p.2 j)) (1000 * i + (j + 1)) D' H' ∧ (match bW size p.1 p.2 (p.1.length - (j + 1)) (j + 1) (putS t vw (chr p.2 j)) with
            | none => none
            | some t2 => bP size (ps.drop (i + 1)) t2) = bP size ps []) ∧
          (chr p'.2 x.2 ≠ chr p.2 j → bP size ps [] = none)) ?_ (fun N rest => ?_)
        · rintro σ' H5 ⟨D5, e, x, p', g5, de, hpx, hx2, hvx, rfl, yes, no⟩
          obtain ⟨ea, rfl, he⟩ := dN_get de
          have heH := g5.sub |> fun s => same_seqT s he
          obtain ⟨bv, hbv, dbv⟩ := dpl_getR hxs (d := dP p') (i := x.1) (by rw [List.getElem?_map, hpx]; rfl)
          obtain ⟨b', rfl, hb2⟩ := dP_get dbv
          have hlen' := fine.len p' (List.mem_of_getElem? hpx)
          have heq' := fine.eq p' (List.mem_of_getElem? hpx)
          have haH5 := sql_up g5 ha
          walk_at "rd"
          refine s_ix_t heH atI_0 ?_
          refine s_ix_l haH5 (atI_i (j := x.1) rfl hbv) ?_
          walk_at "rd"
          refine s_ix_t (sqt_up g5 hb2) (atI_i (j := 1) rfl rfl) ?_
          walk_at "rd"
          refine s_ix_t heH (atI_i (j := 1) rfl rfl) ?_
          refine s_ix_s (le1000 hlen'.2) (atI_chr (by omega)) ?_
          walk_at "rd"
          refine s_ix_s (le1000 hlen.2) (atI_chr hj2) ?_
          walk_at "rd"
          refine jtN (fun e => ?_) (fun e => ?_)
          · have hn := no e
            walk_at "rd"
            refine ⟨le1000 (by simp), fun c1 nc1 => ?_⟩
            have g6 := g5.ice (o := .tup [.int i, .int (j : Nat)]) nc1
            walk_at "rd"
            refine ⟨le1000 (by simp), fun c2 nc2 => ?_⟩
            have g7 := g6.ice (o := .tup [.ref ea, .ref c1]) nc2
            walk_at "rd"
            have s6 := same_new (o := .tup [.int i, .int (j : Nat)]) (g5.free nc1)
            have s7 := same_new (o := .tup [.ref ea, .ref c1]) (g6.free nc2)
            refine q2 hn x (i, j) _ _ (.ref c2) ⟨p', p, hpx, hp, hx2, hj1, hvx.trans ev.symm, e⟩ g7 (.tup (sqt upd_same) (.cons (Y.Dp.mono s7 (Y.Dp.mono s6 de)) (.cons (Y.Dp.mono s7 (dN_of (x := (i, j)) upd_same)) .nil)))
          · obtain ⟨F, en2⟩ := yes e
            walk_at "rd"
            exact ⟨D5, _, _, _, _, F, rfl, en2⟩
        · walk_at "rd"
          refine ⟨pl, rfl, isDS hk, ?_⟩
          walk_at "rd"
          refine ⟨le1000 (by simp), fun c nc => ?_⟩
          have gl := (Gr.refl (m := No) g3.sub).ice (o := .tup [.int i, .int (j : Nat)]) nc
          have g4 := g3.trans gl
          have hk4 := gl.same _ _ (fun z => z) hk
          have hf4 := gl.stay hf3 hk
          have hkv4 := hkv.mono fun v y r => (dp_up gl r : RelP K _ v y)
          have dc : Dp K (upd D3 c (.tup [.int i, .int (j : Nat)])) (.ref c) (dN (i, j)) := dN_of upd_same
          have hkl := hkv.len
          refine ⟨kvs, Sum.inr vw, hk4, rfl, ltBig (by omega), fun v hv => ?_, fun hv => ?_⟩
          · rcases hkv4.get vw with ⟨h1, _⟩ | ⟨v', x, h1, h2, h3⟩
            · rw [h1] at hv
              cases hv
            · rw [h1] at hv
              cases hv
              obtain ⟨p', hpx, hx2, hvx, hgt⟩ := L.at_ vw x h2
              rw [hgt] at en
              dsimp only at en
              refine rest _ _ ⟨_, v, x, p', g4, h3, hpx, hx2, hvx, rfl, fun e => ?_, fun e => ?_⟩
              · rw [e] at hgt
                rw [if_pos e] at en
                exact ⟨⟨g4, hf4, t', kvs, hk4, hkv4, L.same hgt, by omega⟩, en⟩
              · rw [if_neg e] at en
                exact en.symm
          · rcases hkv4.get vw with ⟨h1, h2⟩ | ⟨v', x, h1, h2, h3⟩
            · have hgt : getS t vw = none := by
                have := L.eq vw
                rw [h2] at this
                cases e : getS t vw with
                | none => rfl
                | some y => rw [e] at this; cases this
              rw [hgt] at en
              have Ln := L.new (x := (i, j)) hp hj1
              rw [show viewI p.1 (((i, j) : Nat × Nat).2 : Nat) size = vw from ev] at Ln
              refine rest _ _ ⟨_, .ref c, (i, j), p, g4.put hf4 (.inl npl), dc, hp, hj1, ev, rfl, fun _ => ⟨⟨g4.put hf4 (.inl npl), hf4, putS t' vw (i, j), _, upd_same, KvR.put (R := RelP K _) dc hkv4, Ln, ?_⟩, en⟩, fun e => absurd rfl e⟩
              have := putS_len t' vw (i, j)
              omega
            · rw [h1] at hv
              cases hv
      · rintro σ H3 ⟨D3, t, o4, o7, o8, I3, rfl, en⟩
        rw [show ((p.1.length : Int)).toNat = p.1.length from Int.toNat_natCast _, Nat.sub_self] at en
        obtain ⟨g3, hf3, t', kvs, hk, hkv, L, hb'⟩ := I3
        exact ⟨D3, t, _, _, _, _, _, _, ⟨g3, hf3, t', kvs, hk, hkv, L, by omega⟩, rfl, en⟩
    · rintro σ H1 ⟨D1, t, o3, o4, o5, o6, o7, o8, I, rfl, en⟩
      rw [List.drop_of_length_le (by rw [dpl_len hxs, List.length_map]; exact Nat.le_refl _)] at en
      walk_at "rd"
      exact q1 t en.symm _ _ I.g
end
end H87

namespace H87
open PySem PySem.Spec L2 He Y Hk87
local macro_rules | `(tactic| walk_at "rd1") => `(tactic| first
  | with_reducible refine s_seq ?_
  | with_reducible refine s_asg ?_
  | with_reducible refine s_gname ?_
  | ((with_reducible refine s_var (v := ?_) ?_ ?_); rotate_left; exact rfl)
  | with_reducible refine s_c ?_
  | with_reducible refine s_op ?_
  | with_reducible refine s_un ?_
  | with_reducible refine s_nil ?_
  | with_reducible refine s_cons ?_
  | with_reducible refine s_CB ?_
  | with_reducible refine s_ifS ?_
  | with_reducible refine s_test ?_
  | with_reducible refine s_B ?_
  | with_reducible refine s_xb ?_
  | with_reducible refine s_xi ?_
  | with_reducible refine s_xs ?_
  | with_reducible refine s_or ?_
  | with_reducible refine s_and ?_
  | with_reducible refine s_not ?_
  | with_reducible refine s_orV ?_
  | with_reducible refine s_andV ?_
  | with_reducible refine s_notV ?_
  | with_reducible refine s_ret ?_
  | with_reducible refine s_retN ?_
  | with_reducible refine s_next ?_
  | with_reducible refine s_drop ?_
  | with_reducible refine s_yes ?_
  | with_reducible refine s_for ?_
  | with_reducible refine s_lc ?_
  | with_reducible refine s_iStr ?_
  | with_reducible refine s_iList ?_
  | with_reducible refine s_iTup ?_
  | with_reducible refine s_iR1 ?_
  | with_reducible refine s_iR2 ?_
  | with_reducible refine s_iE ?_
  | with_reducible refine s_iET ?_
  | with_reducible refine s_iES ?_
  | with_reducible refine s_tup ?_
  | with_reducible refine s_lst ?_
  | with_reducible refine s_BM ?_
  | with_reducible refine s_BM0 ?_
  | with_reducible refine s_BMS ?_
  | with_reducible refine s_M1 ?_
  | with_reducible refine s_sl ?_
  | with_reducible refine s_noP ?_
  | with_reducible refine s_po ?_
  | with_reducible refine s_call ?_
  | with_reducible refine s_callS ?_
  | with_reducible refine s_make ?_
  | with_reducible refine s_makeS ?_
  | with_reducible refine s_methS ?_
  | with_reducible refine s_callO ?_
  | with_reducible refine s_dnew ?_
  | with_reducible refine s_dget ?_
  | with_reducible refine s_din ?_
  | with_reducible refine s_dnin ?_
  | with_reducible refine s_dput ?_
  | with_reducible refine s_dsetd ?_
  | with_reducible refine s_dget2 ?_
  | with_reducible refine s_fld ?_
  | with_reducible refine s_sFld ?_
  | with_reducible refine s_rz ?_
  | with_reducible refine s_asgS ?_
  | with_reducible refine s_gSub ?_
  | with_reducible refine s_ifE ?_
  | with_reducible refine s_add_i ?_
  | with_reducible refine s_sub ?_
  | with_reducible refine s_neg ?_
  | with_reducible refine s_eq_i ?_
  | with_reducible refine s_eq_s ?_
  | with_reducible refine s_ne_i ?_
  | with_reducible refine s_ne_s ?_
  | with_reducible refine s_lt_i ?_
  | with_reducible refine s_le_i ?_
  | with_reducible refine s_gt_i ?_
  | with_reducible refine s_ge_i ?_
  | with_reducible refine s_lt_s ?_
  | with_reducible refine s_le_s ?_
  | with_reducible refine s_gt_s ?_
  | with_reducible refine s_ge_s ?_
  | with_reducible refine s_in_c ?_
  | with_reducible refine s_ni_c ?_
  | with_reducible refine s_isN ?_
  | with_reducible refine s_noN ?_
  | with_reducible refine s_abs ?_
  | with_reducible refine s_min2 ?_
  | with_reducible refine s_max2 ?_
  | with_reducible refine s_int_i ?_
  | ((with_reducible refine s_len_s ?_ ?_); assumption)
  | ((with_reducible refine s_len_l (xs := ?_) ?_ ?_); rotate_left; assumption)
  | ((with_reducible refine s_len_t (xs := ?_) ?_ ?_); rotate_left; assumption)
  | with_reducible refine s_pair upd_same ?_
  | with_reducible refine s_callS ?_
  | with_reducible refine jtT ?_
  | with_reducible refine jtF ?_
  | with_reducible refine jtNT ?_
  | with_reducible refine jtNF ?_
  | dsimp only)
local macro_rules | `(tactic| walk_at "rd") => `(tactic| repeat (walk_at "rd1"))

theorem badP_fine {l i : Str} : ∀ {ps : List Pr} {n : Nat}, badP l i n ps = none → ∀ p ∈ ps, p.1.length = p.2.length ∧ badAt l.cps.toList 0 p.1.cps.toList = none ∧ badAt i.cps.toList 0 p.2.cps.toList = none
  | [], _, _, p, h => nomatch h
  | q :: r, n, h, p, hp => by
    rw [badP_cons] at h
    split at h
    · cases h
    · rename_i h1
      split at h
      · cases h
      · rename_i h2
        split at h
        · rename_i h3
          rcases List.mem_cons.mp hp with e | e
          · rw [e]
            exact ⟨h3, h1, h2⟩
          · exact badP_fine h p e
        · cases h
section
variable {P : Program} {w : World} {K : PySem.W.Frag} {mg : Str → Option Value} {base : Heap}
theorem S_fit_turner : FnScope ["letters", "images", "size", "pairs", "clash", "table", "word", "image", "at"] ["letters", "images", "size", "pairs"] (d_fit_turner).scope := ⟨rfl, rfl, rfl, by decide +kernel, rfl, by decide +kernel, by decide +kernel⟩
/-- the answer "clash" with two places, "fits" with a turner -/
def AnsC (K : PySem.W.Frag) (D : Hp) (u : V) (x y : Nat × Nat) : Prop := Dp K D u (.tuple [.str "clash", dN x, dN y])
def AnsF (K : PySem.W.Frag) (D : Hp) (u : V) (l i : Str) (size : Int) (t : Tb) : Prop := ∃ (q : Addr) (tv : V), u = .ref q ∧ D q = some (.tup [.str "fits", tv]) ∧ IsT K D tv l i size t
def sp_fit (K : PySem.W.Frag) : Sp := fun vs H Q E => ∃ (D : Hp) (l i : Str) (size : Int) (v : V) (ps : List Pr), vs = [.str l, .str i, .int size, v] ∧ l.length ≤ sizeLine ∧ i.length ≤ sizeLine ∧ Same D H ∧ Dp K D v (dPs ps) ∧ Short ps ∧
  (¬ (okLetters l = true ∧ okLetters i = true) → E (.ref (ga K "BadLetters")) none H) ∧
  (okLetters l = true → okLetters i = true → ∀ b, badP l i 0 ps = some b → Er K E D H b) ∧
  (okLetters l = true → okLetters i = true → badP l i 0 ps = none → bP size ps [] = none → ∀ x y D' H' u, ClashAt ps size x y → Gr No D H D' H' → AnsC K D' u x y → Q u H') ∧
  (okLetters l = true → okLetters i = true → badP l i 0 ps = none → ∀ t, bP size ps [] = some t → ∀ D' H' u, Gr No D H D' H' → AnsF K D' u l i size t → Q u H')
theorem w_fit_turner (T : Txt P w K mg) : Has P w K mg base 6 "fit_turner" (sp_fit K) := by
  have S := S_fit_turner
  have G_check_pairs := w_check_pairs (base := base) T
  have G_first_clash := w_first_clash (base := base) T
  have G_view_at := w_view_at (base := base) T
  have G_Turner := w_Turner (base := base) T
  refine has_of (k := 5) T.d_fit_turner T.gd_fit_turner S (fun _ _ _ _ _ _ us hl => match us, hl with | [_, _, _, _], _ => rfl) (fun vs H Q E h => ?_) (fun f cdv A outer s H vs Q E hr h => ?_)
  · obtain ⟨D, l, i, size, v, ps, rfl, _⟩ := h
    rfl
  · obtain ⟨D, l, im, size, v, ps, rfl, hl, hi, sm, dv, hsh, q0, q1, q2, q3⟩ := h
    refine ⟨_, (pss_cons (ps_expr (pe_has G_check_pairs (hr.mono (by decide)) (takes_of rfl rfl rfl rfl) rfl (pa_cons (pv 0) (pa_cons (pv 1) (pa_cons (pv 3) pa_nil)))))
    (pss_cons (ps_set (i := 4) S.nd rfl (Or.inl rfl) (pe_has G_first_clash (hr.mono (by decide)) (takes_of rfl rfl rfl rfl) rfl (pa_cons (pv 3) (pa_cons (pv 2) pa_nil))))
    (pss_cons (ps_if (pt_cmpR c_ns (pv 4) pe_non (nomark _))
      (pss_one (ps_ret (pe_tup (pa_cons pe_str (pa_cons (pe_ix (ixK_seq K) (pv 4) pe_int (fun _ _ => rfl)) (pa_cons (pe_ix (ixK_seq K) (pv 4) pe_int (fun _ _ => rfl)) pa_nil))))))
      pss_nil)
    (pss_cons (ps_set (i := 5) S.nd rfl (Or.inl rfl) pe_dnewK)
    (pss_cons (ps_for (passes_of rfl) rfl (piK_list K (pv 3)) (pgK_tup K (n := 2) rfl (pgs_cons (pg_name (i := 6) S.nd rfl (Or.inl rfl)) (pgs_cons (pg_name (i := 7) S.nd rfl (Or.inl rfl)) pgs_nil)))
      (pss_one (ps_for (passes_of rfl) rfl (pi_range1 (by rfl) T.b_range (pa_cons (pe_callB (bK_len K) (by rfl) T.b_len (by decide +kernel) (pa_cons (pv 6) pa_nil)) pa_nil)) (pg_name (i := 8) S.nd rfl (Or.inl rfl))
      (pss_one (ps_dput (hu_of hr) (pv 5) (pe_has G_view_at (hr.mono (by decide)) (takes_of rfl rfl rfl rfl) rfl (pa_cons (pv 6) (pa_cons (pv 8) (pa_cons (pv 2) pa_nil)))) (pe_ix (ixK_seq K) (pv 7) (pv 8) (fun _ _ => rfl)) rfl)))))
    (pss_one (ps_ret (pe_tup (pa_cons pe_str (pa_cons (pe_mkS G_Turner (hr.mono (by decide)) (takes_of rfl rfl rfl rfl) rfl (pa_cons (pv 0) (pa_cons (pv 1) (pa_cons (pv 2) (pa_cons (pv 5) pa_nil))))) pa_nil)))))))))), ?_⟩
    walk_at "rd"
    refine ⟨D, l, im, v, ps, rfl, hl, hi, sm, dv, hsh, q0, fun ok1 ok2 hb D1 H1 g1 => ?_, fun ok1 ok2 b hb => q1 ok1 ok2 b hb⟩
    have q2 := q2 ok1 ok2 hb
    have q3 := q3 ok1 ok2 hb
    have fine : Fine ps := { toShort := hsh, eq := fun p hp => (badP_fine hb p hp).1 }
    walk_at "rd"
    refine ⟨D1, v, ps, size, rfl, g1.sub, dp_up g1 dv, fine, fun t ht D2 H2 g2 => ?_, fun hn x y D2 H2 u hc g2 du => ?_⟩
    · have g := g1.trans g2
      walk_at "rd"
      refine jtN (fun e => absurd rfl e) (fun _ => ?_)
      walk_at "rd"
      intro td ntd
      have gt := g.lay (o := .dK []) ntd
      have hDt : D2 td = none := g.free ntd
      obtain ⟨a, xs, rfl, ha, hxs⟩ := dp_list (dp_up g dv)
      have haH := (gt.sub).seq ha
      walk_at "rd"
      refine ⟨a, rfl, ⟨_, haH⟩, lp_it walk_list (fun i σ H' => ∃ t1 kvs o6 o7 o8, Gr No D H D2 H' ∧ H' td = some (.dK kvs) ∧ KvR IsS kvs t1 ∧ t1.length ≤ 1000 * i ∧ σ = [some (.str l), some (.str im), some (.int size), some (.ref a), some .non, some (.ref td), o6, o7, o8] ∧ bP size (ps.drop i) t1 = some t)
        ⟨[], [], none, none, none, gt, upd_same, .nil, Nat.zero_le _, rfl, ht⟩ (fun i σ H' _ ⟨_, _, _, _, _, g, _⟩ => g.sub.seq ha) ?_ ?_⟩
      · rintro i x σ H3 H4 hi ⟨t1, kvs, o6, o7, o8, g3, hk, hkv, hlt, rfl, en⟩ ⟨rfl, ex⟩
        obtain ⟨d, hd, hx2⟩ := dpl_get hxs ex
        rw [List.getElem?_map] at hd
        obtain ⟨p, hp, rfl⟩ := Option.map_eq_some_iff.mp hd
        obtain ⟨b, rfl, hb2⟩ := dP_get hx2
        obtain ⟨hi1, ep⟩ := List.getElem?_eq_some_iff.mp hp
        rw [List.drop_eq_getElem_cons hi1, ep, bP_cons] at en
        have hlen := fine.len p (List.mem_of_getElem? hp)
        have heq := fine.eq p (List.mem_of_getElem? hp)
        have hl1 := le1000 hlen.1
        have hbH := same_seqT g3.sub hb2
        have hfew := hsh.few
        refine ⟨b, [.str p.1, .str p.2], rfl, hbH, rfl, .str p.1, [.str p.2], rfl, .str p.2, [], rfl, rfl, ?_⟩
        walk_at "rd"
        refine ⟨_, rfl, by omega, by omega, lp_it walk_r0 (fun j σ H' => ∃ t1 kvs o8, Gr No D H D2 H' ∧ H' td = some (.dK kvs) ∧ KvR IsS kvs t1 ∧ t1.length ≤ 1000 * i + j ∧ σ = [some (.str l), some (.str im), some (.int size), some (.ref a), some .non, some (.ref td), some (.str p.1), some (.str p.2), o8] ∧
          (match bW size p.1 p.2 (p.1.length - j) j t1 with
            | none => none
            | some t2 => bP size (ps.drop (i + 1)) t2) = some t) ⟨t1, kvs, _, g3, hk, hkv, hlt, rfl, en⟩ (fun _ _ _ _ _ => trivial) ?_ ?_⟩
        · rintro j x σ H5 H6 hj ⟨t1, kvs, o8, g5, hk, hkv, hlt, rfl, en⟩ ⟨rfl, rfl⟩
          have hj1 : j < p.1.length := by omega
          have hj2 : j < p.2.length := by omega
          rw [show p.1.length - j = (p.1.length - (j + 1)) + 1 by omega, bW_succ] at en
          have en2 : (match bW size p.1 p.2 (p.1.length - (j + 1)) (j + 1) (putS t1 (viewI p.1 (j : Nat) size) (chr p.2 j)) with
            | none => none
            | some t2 => bP size (ps.drop (i + 1)) t2) = some t := by
            cases e : getS t1 (viewI p.1 (j : Nat) size) with
            | none =>
              rw [e] at en
              exact en
            | some y =>
              rw [e] at en
              dsimp only at en
              by_cases hy : y = chr p.2 j
              · rw [if_pos hy] at en
                exact en
              · rw [if_neg hy] at en
                cases en
          have hkl := hkv.len
          walk_at "rd"
          refine s_ix_s (le1000 hlen.2) (atI_chr hj2) ?_
          walk_at "rd"
          refine ⟨p.1, _, _, rfl, hl1, ?_⟩
          refine ⟨td, _, rfl, dputS hk (ltBig (by omega)), ?_⟩
          refine ⟨_, _, _, g5.put hDt (.inl (g.kept _ ntd)), upd_same, KvR.put (R := IsS) rfl hkv, ?_, rfl, en2⟩
          exact Nat.le_trans (putS_len _ _ _) (by omega)
        · rintro σ H5 ⟨t1, kvs, o8, g5, hk, hkv, hlt, rfl, en⟩
          rw [show ((p.1.length : Int)).toNat = p.1.length from Int.toNat_natCast _, Nat.sub_self] at en
          exact ⟨t1, kvs, _, _, _, g5, hk, hkv, by omega, rfl, en⟩
      · rintro σ H3 ⟨t1, kvs, o6, o7, o8, g3, hk, hkv, hlt, rfl, en⟩
        rw [List.drop_of_length_le (by rw [dpl_len hxs, List.length_map]; exact Nat.le_refl _)] at en
        have et : t1 = t := Option.some.inj en
        subst et
        walk_at "rd"
        intro x dx nx ndx ne
        have nx' : (upd H3 dx (.own x)) x = none := (upd_ne (Ne.symm ne)).trans nx
        have gM := (g3.lay (o := .own x) ndx).lay (o := .ins (ga K "Turner") dx []) nx'
        have hkM : (upd (upd H3 dx (.own x)) x (.ins (ga K "Turner") dx [])) td = some (.dK kvs) := by
          rw [upd_ne (ne_of_none hk nx), upd_ne (ne_of_none hk ndx)]
          exact hk
        refine ⟨D2, x, dx, l, im, size, td, kvs, t1, rfl, hl, hi, gM.sub, g3.free nx, upd_same, hkM, hkv, fun _ _ D4 H4 da kvs' gF hDx hHx hda hkv' => ⟨rfl, ?_⟩, fun z => absurd ⟨ok1, ok2⟩ z⟩
        have hx0 : H x = none := g3.kept x nx
        have gG := (gM.transN gF fun y hy => hy ▸ hx0).cold hHx hx0
        have sX : Same D4 (upd D4 x (.ins (ga K "Turner") dx [("letters", .str l), ("images", .str im), ("size", .int size), ("table", .ref da)])) := same_new hDx
        have M : IsT K (upd D4 x (.ins (ga K "Turner") dx [("letters", .str l), ("images", .str im), ("size", .int size), ("table", .ref da)])) (.ref x) l im size t1 := ⟨x, dx, da, kvs', rfl, upd_same, sX _ _ hda, hkv'⟩
        walk_at "rd"
        refine ⟨le1000 (by simp), fun c nc => ?_⟩
        exact q3 t1 ht _ _ _ (gG.ice nc) ⟨c, .ref x, rfl, upd_same, M.up (same_new (gG.free nc))⟩
    · have g := g1.trans g2
      obtain ⟨c, ys, rfl, hc2, hys⟩ := dp_tuple du
      cases hys with
      | cons hy1 hr1 =>
      cases hr1 with
      | cons hy2 hr2 =>
      cases hr2
      have hcH := same_seqT g.sub hc2
      walk_at "rd"
      refine jtN (fun _ => ?_) (fun e => nomatch e)
      walk_at "rd"
      refine s_ix_t hcH atI_0 ?_
      walk_at "rd"
      refine s_ix_t hcH (atI_i (j := 1) rfl rfl) ?_
      walk_at "rd"
      refine ⟨le1000 (by simp), fun c2 nc2 => ?_⟩
      exact q2 hn x y _ _ _ hc (g.ice nc2) (.tup (sqt upd_same) (.cons (.str _) (.cons (Y.Dp.mono (same_new (g.free nc2)) hy1) (.cons (Y.Dp.mono (same_new (g.free nc2)) hy2) .nil))))
end
end H87

namespace H87
open PySem PySem.Spec L2 He Y Hk87
local macro_rules | `(tactic| walk_at "rd1") => `(tactic| first
  | with_reducible refine s_seq ?_
  | with_reducible refine s_asg ?_
  | with_reducible refine s_gname ?_
  | ((with_reducible refine s_var (v := ?_) ?_ ?_); rotate_left; exact rfl)
  | with_reducible refine s_c ?_
  | with_reducible refine s_op ?_
  | with_reducible refine s_un ?_
  | with_reducible refine s_nil ?_
  | with_reducible refine s_cons ?_
  | with_reducible refine s_CB ?_
  | with_reducible refine s_ifS ?_
  | with_reducible refine s_test ?_
  | with_reducible refine s_B ?_
  | with_reducible refine s_xb ?_
  | with_reducible refine s_xi ?_
  | with_reducible refine s_xs ?_
  | with_reducible refine s_or ?_
  | with_reducible refine s_and ?_
  | with_reducible refine s_not ?_
  | with_reducible refine s_orV ?_
  | with_reducible refine s_andV ?_
  | with_reducible refine s_notV ?_
  | with_reducible refine s_ret ?_
  | with_reducible refine s_retN ?_
  | with_reducible refine s_next ?_
  | with_reducible refine s_drop ?_
  | with_reducible refine s_yes ?_
  | with_reducible refine s_for ?_
  | with_reducible refine s_lc ?_
  | with_reducible refine s_iStr ?_
  | with_reducible refine s_iList ?_
  | with_reducible refine s_iTup ?_
  | with_reducible refine s_iR1 ?_
  | with_reducible refine s_iR2 ?_
  | with_reducible refine s_iE ?_
  | with_reducible refine s_iET ?_
  | with_reducible refine s_iES ?_
  | with_reducible refine s_tup ?_
  | with_reducible refine s_lst ?_
  | with_reducible refine s_BM ?_
  | with_reducible refine s_BM0 ?_
  | with_reducible refine s_BMS ?_
  | with_reducible refine s_M1 ?_
  | with_reducible refine s_sl ?_
  | with_reducible refine s_noP ?_
  | with_reducible refine s_po ?_
  | with_reducible refine s_call ?_
  | with_reducible refine s_callS ?_
  | with_reducible refine s_make ?_
  | with_reducible refine s_makeS ?_
  | with_reducible refine s_methS ?_
  | with_reducible refine s_callO ?_
  | with_reducible refine s_dnew ?_
  | with_reducible refine s_dget ?_
  | with_reducible refine s_din ?_
  | with_reducible refine s_dnin ?_
  | with_reducible refine s_dput ?_
  | with_reducible refine s_dsetd ?_
  | with_reducible refine s_dget2 ?_
  | with_reducible refine s_fld ?_
  | with_reducible refine s_sFld ?_
  | with_reducible refine s_rz ?_
  | with_reducible refine s_asgS ?_
  | with_reducible refine s_gSub ?_
  | with_reducible refine s_ifE ?_
  | with_reducible refine s_add_i ?_
  | with_reducible refine s_sub ?_
  | with_reducible refine s_neg ?_
  | with_reducible refine s_eq_i ?_
  | with_reducible refine s_eq_s ?_
  | with_reducible refine s_ne_i ?_
  | with_reducible refine s_ne_s ?_
  | with_reducible refine s_lt_i ?_
  | with_reducible refine s_le_i ?_
  | with_reducible refine s_gt_i ?_
  | with_reducible refine s_ge_i ?_
  | with_reducible refine s_lt_s ?_
  | with_reducible refine s_le_s ?_
  | with_reducible refine s_gt_s ?_
  | with_reducible refine s_ge_s ?_
  | with_reducible refine s_in_c ?_
  | with_reducible refine s_ni_c ?_
  | with_reducible refine s_isN ?_
  | with_reducible refine s_noN ?_
  | with_reducible refine s_abs ?_
  | with_reducible refine s_min2 ?_
  | with_reducible refine s_max2 ?_
  | with_reducible refine s_int_i ?_
  | ((with_reducible refine s_len_s ?_ ?_); assumption)
  | ((with_reducible refine s_len_l (xs := ?_) ?_ ?_); rotate_left; assumption)
  | ((with_reducible refine s_len_t (xs := ?_) ?_ ?_); rotate_left; assumption)
  | with_reducible refine s_pair upd_same ?_
  | with_reducible refine s_callS ?_
  | with_reducible refine jtT ?_
  | with_reducible refine jtF ?_
  | with_reducible refine jtNT ?_
  | with_reducible refine jtNF ?_
  | dsimp only)
local macro_rules | `(tactic| walk_at "rd") => `(tactic| repeat (walk_at "rd1"))

section
variable {P : Program} {w : World} {K : PySem.W.Frag} {mg : Str → Option Value} {base : Heap}
theorem Stt.put {D H : Hp} {st p : Addr} {o : HO} (h : Stt K D H st) (hp : p ≠ st) : Stt K D (upd H p o) st := by
  obtain ⟨⟨c, a, b, e, cells, h1, h2, h3⟩, h4⟩ := h
  exact ⟨⟨c, a, b, e, cells, (upd_ne hp.symm).trans h1, h2, h3⟩, h4⟩
theorem Stt.frz {D H : Hp} {st p : Addr} {o : HO} (h : Stt K D H st) (hp : p ≠ st) (hD : D p = none) : Stt K (upd D p o) H st := by
  obtain ⟨⟨c, a, b, e, cells, h1, h2, h3⟩, h4⟩ := h
  exact ⟨⟨c, a, b, e, cells, h1, (same_new hD).seq h2, h3⟩, (upd_ne hp.symm).trans h4⟩
theorem S_law_integer : FnScope ["actual"] ["actual"] (d_law_integer).scope := ⟨rfl, rfl, rfl, by decide +kernel, rfl, by decide +kernel, by decide +kernel⟩
def sp_integer : Sp := fun vs H Q E => ∃ n : Int, vs = [.int n] ∧ Q (.bl true) H
theorem w_law_integer (T : Txt P w K mg) : Has P w K mg base 3 "_law_integer" sp_integer := by
  have S := S_law_integer
  refine has_of (k := 2) T.d_law_integer T.gd_law_integer S (fun _ _ _ _ _ _ us hl => match us, hl with | [_], _ => rfl) (fun vs H Q E h => ?_) (fun f cdv A outer s H vs Q E hr h => ?_)
  · obtain ⟨n, rfl, _⟩ := h
    rfl
  · obtain ⟨n, rfl, q⟩ := h
    refine ⟨_, (pss_one (ps_ret (pe_and (pe_callB call_isi (by rfl) T.b_isinstance (by decide +kernel) (pa_cons (pv 0) (pa_cons (pe_gT (T := "int") (by rfl) T.b_int (by decide +kernel)) pa_nil))) (pe_one (pe_not (pe_callB call_isi (by rfl) T.b_isinstance (by decide +kernel) (pa_cons (pv 0) (pa_cons (pe_gT (T := "bool") (by rfl) T.b_bool (by decide +kernel)) pa_nil)))))))), ?_⟩
    walk_at "rd"
    refine ⟨.int n, .ty "int", .type "int", .type "int", true, rfl, .ty _, .base (.int n), rfl, ?_⟩
    walk_at "rd"
    refine ⟨.int n, .ty "bool", .type "int", .type "bool", false, rfl, .ty _, .base (.int n), rfl, ?_⟩
    walk_at "rd"
    exact q
theorem S_law_word : FnScope ["state", "letters", "size", "word", "k"] ["state", "letters", "size"] (d_law_word).scope := ⟨rfl, rfl, rfl, by decide +kernel, rfl, by decide +kernel, by decide +kernel⟩
def sp_word (K : PySem.W.Frag) : Sp := fun vs H Q E => ∃ (D : Hp) (st : Addr) (l : Str) (n : Nat), vs = [.ref st, .str l, .int (n : Nat)] ∧ 1 ≤ l.length ∧ l.length ≤ 1000 ∧ n ≤ 1000 ∧ Same D H ∧ Stt K D H st ∧
  ∀ D' H' z, Gr (· = st) D H D' H' → Stt K D' H' st → z.length = n → (∀ c ∈ z.cps.toList, c ∈ l.cps.toList) → Q (.str z) H'
theorem w_law_word (T : Txt P w K mg) : Has P w K mg base 4 "_law_word" (sp_word K) := by
  have S := S_law_word
  have G_law_next := w_law_next (base := base) T
  refine has_of (k := 3) T.d_law_word T.gd_law_word S (fun _ _ _ _ _ _ us hl => match us, hl with | [_, _, _], _ => rfl) (fun vs H Q E h => ?_) (fun f cdv A outer s H vs Q E hr h => ?_)
  · obtain ⟨D, st, l, n, rfl, _⟩ := h
    rfl
  · obtain ⟨D, st, l, n, rfl, hl1, hl2, hn, sm, X, q⟩ := h
    have hlz := le1000 hl2
    refine ⟨_, (pss_cons (ps_set (i := 3) S.nd rfl (Or.inl rfl) pe_str)
    (pss_cons (ps_for (passes_of rfl) rfl (pi_range1 (by rfl) T.b_range (pa_cons (pv 2) pa_nil)) (pg_name (i := 4) S.nd rfl (Or.inl rfl))
      (pss_one (ps_set (i := 3) S.nd rfl (Or.inl rfl) (pe_op (oK_add K) (pv 3) (pe_ix (ixK_seq K) (pv 1) (pe_has G_law_next (hr.mono (by decide)) (takes_of rfl rfl rfl rfl) rfl (pa_cons (pv 0) (pa_cons (pe_callB (bK_len K) (by rfl) T.b_len (by decide +kernel) (pa_cons (pv 1) pa_nil)) pa_nil))) (fun _ _ => rfl))))))
    (pss_one (ps_ret (pv 3))))), ?_⟩
    walk_at "rd"
    refine ⟨_, rfl, by omega, by omega, lp_it walk_r0 (fun i σ H' => ∃ D' z o4, Gr (· = st) D H D' H' ∧ Stt K D' H' st ∧ z.length = i ∧ (∀ c ∈ z.cps.toList, c ∈ l.cps.toList) ∧ σ = [some (.ref st), some (.str l), some (.int (n : Nat)), some (.str z), o4]) ⟨D, "", none, Gr.refl sm, X, rfl, fun c z => (nomatch z), rfl⟩ (fun _ _ _ _ _ => trivial) ?_ ?_⟩
    · rintro i x σ H1 H2 hi ⟨D1, z, o4, g, X1, hz, hc, rfl⟩ ⟨rfl, rfl⟩
      have hi2 : i < n := by omega
      walk_at "rd"
      refine ⟨D1, st, _, rfl, by omega, by omega, g.sub, X1, fun D3 H3 r g3 X3 r0 r1 => ?_⟩
      have hr : r.toNat < l.length := by omega
      refine s_ix_s hlz (atI_i (j := r.toNat) (by omega) (List.getElem?_eq_getElem (by rw [len_list]; exact hr))) ?_
      refine s_add_s (leBig (by have : (⟨#[l.cps.toList[r.toNat]'(by rw [len_list]; exact hr)]⟩ : Str).length = 1 := rfl; omega)) ?_
      walk_at "rd"
      refine ⟨D3, _, _, g.trans g3, X3, ?_, ?_, rfl⟩
      · rw [app_len, hz]
        rfl
      · intro c hcm
        have hcm : c ∈ TL.tl (z ++ _) := hcm
        rw [TL.tl_append] at hcm
        rcases List.mem_append.mp hcm with hcm | hcm
        · exact hc c hcm
        · have : c = l.cps.toList[r.toNat]'(by rw [len_list]; exact hr) := List.mem_singleton.mp hcm
          rw [this]
          exact List.getElem_mem _
    · rintro σ H1 ⟨D1, z, o4, g, X1, hz, hc, rfl⟩
      walk_at "rd"
      exact q D1 H1 z g X1 (by rw [hz]; exact Int.toNat_natCast n) hc
theorem S_law_due_image : FnScope ["table", "word", "size", "image", "at", "view"] ["table", "word", "size"] (d_law_due_image).scope := ⟨rfl, rfl, rfl, by decide +kernel, rfl, by decide +kernel, by decide +kernel⟩
def sp_due (K : PySem.W.Frag) : Sp := fun vs H Q E => ∃ (a : Addr) (kvs : List (Key × V)) (t : Tb) (z : Str) (n : Int), vs = [.ref a, .str z, .int n] ∧ z.length ≤ 1000 ∧ H a = some (.dK kvs) ∧ KvR IsS kvs t ∧ (∀ p ∈ t, p.2.length ≤ 1000) ∧ Q (match imgM t z n z.length 0 "" with
    | none => .non
    | some y => .str y) H
theorem w_law_due_image (T : Txt P w K mg) : Has P w K mg base 4 "_law_due_image" (sp_due K) := by
  have S := S_law_due_image
  have G_law_view := w_law_view (base := base) T
  refine has_of (k := 3) T.d_law_due_image T.gd_law_due_image S (fun _ _ _ _ _ _ us hl => match us, hl with | [_, _, _], _ => rfl) (fun vs H Q E h => ?_) (fun f cdv A outer s H vs Q E hr h => ?_)
  · obtain ⟨a, kvs, t, z, n, rfl, _⟩ := h
    rfl
  · obtain ⟨a, kvs, t, z, n, rfl, hz, hda, hkv, hty, q⟩ := h
    have hzl := le1000 hz
    refine ⟨_, (pss_cons (ps_set (i := 3) S.nd rfl (Or.inl rfl) pe_str)
    (pss_cons (ps_for (passes_of rfl) rfl (pi_range1 (by rfl) T.b_range (pa_cons (pe_callB (bK_len K) (by rfl) T.b_len (by decide +kernel) (pa_cons (pv 1) pa_nil)) pa_nil)) (pg_name (i := 4) S.nd rfl (Or.inl rfl))
      (pss_cons (ps_set (i := 5) S.nd rfl (Or.inl rfl) (pe_has G_law_view (hr.mono (by decide)) (takes_of rfl rfl rfl rfl) rfl (pa_cons (pv 1) (pa_cons (pv 4) (pa_cons (pv 2) pa_nil)))))
    (pss_cons (ps_if (pt_cmp (pc_dnotin (hu_of hr) (pv 5) (pv 0)))
      (pss_one (ps_ret pe_non))
      pss_nil)
    (pss_one (ps_set (i := 3) S.nd rfl (Or.inl rfl) (pe_op (oK_add K) (pv 3) (pe_dget (hu_of hr) (pv 0) (pv 5) (fun _ _ => rfl))))))))
    (pss_one (ps_ret (pv 3))))), ?_⟩
    walk_at "rd"
    refine ⟨_, rfl, by omega, by omega, lp_it walk_r0 (fun i σ H' => H' = H ∧ ∃ im o3 o4, σ = [some (.ref a), some (.str z), some (.int n), some (.str im), o3, o4] ∧ im.length ≤ 1000 * i ∧ imgM t z n (z.length - i) i im = imgM t z n z.length 0 "") ⟨rfl, "", none, none, rfl, by decide, rfl⟩ (fun _ _ _ _ _ => trivial) ?_ ?_⟩
    · rintro i x σ H2 H3 hi ⟨rfl, im, o3, o4, rfl, him, en⟩ ⟨rfl, rfl⟩
      have hi1 : i < z.length := by omega
      rw [show z.length - i = (z.length - (i + 1)) + 1 by omega, imgM_succ] at en
      walk_at "rd"
      refine ⟨z, _, _, rfl, hzl, ?_⟩
      walk_at "rd"
      rcases dgetS hda hkv (viewI z (i : Nat) n) with ⟨hd, hg⟩ | ⟨v, y, hd, hg, rfl⟩
      · rw [hg] at en
        refine ⟨a, _, rfl, hd, ?_⟩
        walk_at "rd"
        rw [← en] at q
        exact q
      · rw [hg] at en
        refine ⟨a, _, rfl, hd, ?_⟩
        walk_at "rd"
        refine jtNT ?_
        walk_at "rd"
        refine ⟨a, _, rfl, hd, ?_⟩
        have hyl : y.length ≤ 1000 := hty _ (getS_mem hg)
        refine s_add_s (leBig (by omega)) ?_
        walk_at "rd"
        refine ⟨rfl, _, _, _, rfl, ?_, en⟩
        rw [app_len]
        omega
    · rintro σ H2 ⟨rfl, im, o3, o4, rfl, him, en⟩
      rw [show ((z.length : Int)).toNat = z.length from Int.toNat_natCast _, Nat.sub_self] at en
      walk_at "rd"
      rw [← en] at q
      exact q
theorem S_law_table : FnScope ["pairs", "size", "table", "pair", "at", "view"] ["pairs", "size"] (d_law_table).scope := ⟨rfl, rfl, rfl, by decide +kernel, rfl, by decide +kernel, by decide +kernel⟩
def sp_table (K : PySem.W.Frag) : Sp := fun vs H Q E => ∃ (D : Hp) (v : V) (ps : List Pr) (size : Int), vs = [v, .int size] ∧ Same D H ∧ Dp K D v (dPs ps) ∧ Fine ps ∧
  (bP size ps [] = none → ∀ D' H', Gr No D H D' H' → Q .non H') ∧
  (∀ t, bP size ps [] = some t → ∀ D' H' a kvs, Gr No D H D' H' → H a = none → D' a = some (.dK kvs) → KvR IsS kvs t → Q (.ref a) H')
theorem w_law_table (T : Txt P w K mg) : Has P w K mg base 4 "_law_table" (sp_table K) := by
  have S := S_law_table
  have G_law_view := w_law_view (base := base) T
  refine has_of (k := 3) T.d_law_table T.gd_law_table S (fun _ _ _ _ _ _ us hl => match us, hl with | [_, _], _ => rfl) (fun vs H Q E h => ?_) (fun f cdv A outer s H vs Q E hr h => ?_)
  · obtain ⟨D, v, ps, size, rfl, _⟩ := h
    rfl
  · obtain ⟨D, v, ps, size, rfl, sm, dv, fine, q1, q2⟩ := h
    obtain ⟨a, xs, rfl, ha, hxs⟩ := dp_list dv
    have hfew := fine.few
    refine ⟨_, (pss_cons (ps_set (i := 2) S.nd rfl (Or.inl rfl) pe_dnewK)
    (pss_cons (ps_for (passes_of rfl) rfl (piK_list K (pv 0)) (pg_name (i := 3) S.nd rfl (Or.inl rfl))
      (pss_one (ps_for (passes_of rfl) rfl (pi_range1 (by rfl) T.b_range (pa_cons (pe_callB (bK_len K) (by rfl) T.b_len (by decide +kernel) (pa_cons (pe_ix (ixK_seq K) (pv 3) pe_int (fun _ _ => rfl)) pa_nil)) pa_nil)) (pg_name (i := 4) S.nd rfl (Or.inl rfl))
      (pss_cons (ps_set (i := 5) S.nd rfl (Or.inl rfl) (pe_has G_law_view (hr.mono (by decide)) (takes_of rfl rfl rfl rfl) rfl (pa_cons (pe_ix (ixK_seq K) (pv 3) pe_int (fun _ _ => rfl)) (pa_cons (pv 4) (pa_cons (pv 1) pa_nil)))))
    (pss_cons (ps_if (PW.pt (pw_and (pt_cmp (pc_din (hu_of hr) (pv 5) (pv 2))) (pw_and1 (pt_cmpR (cK_ne K hr.units) (pe_dget (hu_of hr) (pv 2) (pv 5) (fun _ _ => rfl)) (pe_ix (ixK_seq K) (pe_ix (ixK_seq K) (pv 3) pe_int (fun _ _ => rfl)) (pv 4) (fun _ _ => rfl)) (nomark _)))))
      (pss_one (ps_ret pe_non))
      pss_nil)
    (pss_one (ps_dput (hu_of hr) (pv 2) (pv 5) (pe_ix (ixK_seq K) (pe_ix (ixK_seq K) (pv 3) pe_int (fun _ _ => rfl)) (pv 4) (fun _ _ => rfl)) rfl)))))))
    (pss_one (ps_ret (pv 2))))), ?_⟩
    walk_at "rd"
    intro td ntd
    have gt := (Gr.refl (m := No) sm).lay (o := .dK []) ntd
    have hDt : D td = none := (Gr.refl (m := No) sm).free ntd
    have haH := sql_up gt ha
    walk_at "rd"
    refine ⟨a, rfl, ⟨_, haH⟩, lp_it walk_list (fun i σ H' => ∃ t1 kvs o3 o4 o5, Gr No D H D H' ∧ H' td = some (.dK kvs) ∧ KvR IsS kvs t1 ∧ t1.length ≤ 1000 * i ∧ σ = [some (.ref a), some (.int size), some (.ref td), o3, o4, o5] ∧ bP size (ps.drop i) t1 = bP size ps [])
      ⟨[], [], none, none, none, gt, upd_same, .nil, Nat.zero_le _, rfl, rfl⟩ (fun i σ H' _ ⟨_, _, _, _, _, g, _⟩ => g.sub.seq ha) ?_ ?_⟩
    · rintro i x σ H3 H4 hi ⟨t1, kvs, o3, o4, o5, g3, hk, hkv, hlt, rfl, en⟩ ⟨rfl, ex⟩
      obtain ⟨d, hd, hx2⟩ := dpl_get hxs ex
      rw [List.getElem?_map] at hd
      obtain ⟨p, hp, rfl⟩ := Option.map_eq_some_iff.mp hd
      obtain ⟨b, rfl, hb2⟩ := dP_get hx2
      obtain ⟨hi1, ep⟩ := List.getElem?_eq_some_iff.mp hp
      rw [List.drop_eq_getElem_cons hi1, ep, bP_cons] at en
      have hlen := fine.len p (List.mem_of_getElem? hp)
      have heq := fine.eq p (List.mem_of_getElem? hp)
      have hl1 := le1000 hlen.1
      have hbH := same_seqT g3.sub hb2
      walk_at "rd"
      refine s_ix_t hbH atI_0 ?_
      walk_at "rd"
      refine ⟨_, rfl, by omega, by omega, lp_it walk_r0 (fun j σ H' => ∃ t1 kvs o4 o5, Gr No D H D H' ∧ H' td = some (.dK kvs) ∧ KvR IsS kvs t1 ∧ t1.length ≤ 1000 * i + j ∧ σ = [some (.ref a), some (.int size), some (.ref td), some (.ref b), o4, o5] ∧
        (match bW size p.1 p.2 (p.1.length - j) j t1 with
          | none => none
          | some t2 => bP size (ps.drop (i + 1)) t2) = bP size ps []) ⟨t1, kvs, _, _, g3, hk, hkv, hlt, rfl, en⟩ (fun _ _ _ _ _ => trivial) ?_ ?_⟩
      · rintro j x σ H5 H6 hj ⟨t1, kvs, o4, o5, g5, hk, hkv, hlt, rfl, en⟩ ⟨rfl, rfl⟩
        have hj1 : j < p.1.length := by omega
        have hj2 : j < p.2.length := by omega
        rw [show p.1.length - j = (p.1.length - (j + 1)) + 1 by omega, bW_succ] at en
        have hkl := hkv.len
        have hbH5 := same_seqT g5.sub hb2
        generalize ev : viewI p.1 (j : Nat) size = vw at *
        have put : ∀ (en2 : (match bW size p.1 p.2 (p.1.length - (j + 1)) (j + 1) (putS t1 vw (chr p.2 j)) with
            | none => none
            | some t2 => bP size (ps.drop (i + 1)) t2) = bP size ps []), ∃ t1' kvs' o4 o5, Gr No D H D (upd H6 td (.dK (putK kvs (Sum.inr vw) (.str (chr p.2 j))))) ∧ (upd H6 td (.dK (putK kvs (Sum.inr vw) (.str (chr p.2 j))))) td = some (.dK kvs') ∧ KvR IsS kvs' t1' ∧ t1'.length ≤ 1000 * i + (j + 1) ∧
            ([some (V.ref a), some (V.int size), some (V.ref td), some (V.ref b), some (V.int (j : Nat)), some (V.str vw)] : L2.St) = [some (.ref a), some (.int size), some (.ref td), some (.ref b), o4, o5] ∧
            (match bW size p.1 p.2 (p.1.length - (j + 1)) (j + 1) t1' with
              | none => none
              | some t2 => bP size (ps.drop (i + 1)) t2) = bP size ps [] := fun en2 =>
          ⟨_, _, _, _, g5.put hDt (.inl ntd), upd_same, KvR.put (R := IsS) rfl hkv, Nat.le_trans (putS_len _ _ _) (by omega), rfl, en2⟩
        walk_at "rd"
        refine s_ix_t hbH5 atI_0 ?_
        walk_at "rd"
        refine ⟨p.1, _, _, rfl, hl1, ?_⟩
        rw [ev]
        have hch : ∀ Q : VK, Q (.str (chr p.2 j)) H6 → rIx K (.str p.2) (.int (j : Nat)) H6 Q := fun Q q => s_ix_s (le1000 hlen.2) (atI_chr hj2) q
        rcases dgetS hk hkv vw with ⟨hd, hg⟩ | ⟨v, y, hd, hg, rfl⟩
        · rw [hg] at en
          walk_at "rd"
          refine ⟨td, _, rfl, hd, ?_⟩
          walk_at "rd"
          refine jtF ?_
          walk_at "rd"
          refine s_ix_t hbH5 (atI_i (j := 1) rfl rfl) ?_
          walk_at "rd"
          refine hch _ ?_
          walk_at "rd"
          exact ⟨td, _, rfl, dputS hk (ltBig (by omega)), put en⟩
        · rw [hg] at en
          dsimp only at en
          walk_at "rd"
          refine ⟨td, _, rfl, hd, ?_⟩
          walk_at "rd"
          refine jtT ?_
          walk_at "rd"
          refine ⟨td, _, rfl, hd, ?_⟩
          walk_at "rd"
          refine s_ix_t hbH5 (atI_i (j := 1) rfl rfl) ?_
          walk_at "rd"
          refine hch _ ?_
          walk_at "rd"
          refine jtN (fun e => ?_) (fun e => ?_)
          · rw [if_neg e] at en
            walk_at "rd"
            exact q1 en.symm _ _ g5
          · rw [if_pos e] at en
            walk_at "rd"
            refine s_ix_t hbH5 (atI_i (j := 1) rfl rfl) ?_
            walk_at "rd"
            refine hch _ ?_
            walk_at "rd"
            exact ⟨td, _, rfl, dputS hk (ltBig (by omega)), put en⟩
      · rintro σ H5 ⟨t1, kvs, o4, o5, g5, hk, hkv, hlt, rfl, en⟩
        rw [show ((p.1.length : Int)).toNat = p.1.length from Int.toNat_natCast _, Nat.sub_self] at en
        exact ⟨t1, kvs, _, _, _, g5, hk, hkv, by omega, rfl, en⟩
    · rintro σ H3 ⟨t1, kvs, o3, o4, o5, g3, hk, hkv, hlt, rfl, en⟩
      rw [List.drop_of_length_le (by rw [dpl_len hxs, List.length_map]; exact Nat.le_refl _)] at en
      walk_at "rd"
      exact q2 t1 en.symm _ _ td kvs (g3.cold hk ntd) ntd upd_same hkv
end
end H87

namespace H87
open PySem PySem.Spec L2 He Y Hk87
local macro_rules | `(tactic| walk_at "rd1") => `(tactic| first
  | with_reducible refine s_seq ?_
  | with_reducible refine s_asg ?_
  | with_reducible refine s_gname ?_
  | ((with_reducible refine s_var (v := ?_) ?_ ?_); rotate_left; exact rfl)
  | with_reducible refine s_c ?_
  | with_reducible refine s_op ?_
  | with_reducible refine s_un ?_
  | with_reducible refine s_nil ?_
  | with_reducible refine s_cons ?_
  | with_reducible refine s_CB ?_
  | with_reducible refine s_ifS ?_
  | with_reducible refine s_test ?_
  | with_reducible refine s_B ?_
  | with_reducible refine s_xb ?_
  | with_reducible refine s_xi ?_
  | with_reducible refine s_xs ?_
  | with_reducible refine s_or ?_
  | with_reducible refine s_and ?_
  | with_reducible refine s_not ?_
  | with_reducible refine s_orV ?_
  | with_reducible refine s_andV ?_
  | with_reducible refine s_notV ?_
  | with_reducible refine s_ret ?_
  | with_reducible refine s_retN ?_
  | with_reducible refine s_next ?_
  | with_reducible refine s_drop ?_
  | with_reducible refine s_yes ?_
  | with_reducible refine s_for ?_
  | with_reducible refine s_lc ?_
  | with_reducible refine s_iStr ?_
  | with_reducible refine s_iList ?_
  | with_reducible refine s_iTup ?_
  | with_reducible refine s_iR1 ?_
  | with_reducible refine s_iR2 ?_
  | with_reducible refine s_iE ?_
  | with_reducible refine s_iET ?_
  | with_reducible refine s_iES ?_
  | with_reducible refine s_tup ?_
  | with_reducible refine s_lst ?_
  | with_reducible refine s_BM ?_
  | with_reducible refine s_BM0 ?_
  | with_reducible refine s_BMS ?_
  | with_reducible refine s_M1 ?_
  | with_reducible refine s_sl ?_
  | with_reducible refine s_noP ?_
  | with_reducible refine s_po ?_
  | with_reducible refine s_call ?_
  | with_reducible refine s_callS ?_
  | with_reducible refine s_make ?_
  | with_reducible refine s_makeS ?_
  | with_reducible refine s_methS ?_
  | with_reducible refine s_callO ?_
  | with_reducible refine s_dnew ?_
  | with_reducible refine s_dget ?_
  | with_reducible refine s_din ?_
  | with_reducible refine s_dnin ?_
  | with_reducible refine s_dput ?_
  | with_reducible refine s_dsetd ?_
  | with_reducible refine s_dget2 ?_
  | with_reducible refine s_fld ?_
  | with_reducible refine s_sFld ?_
  | with_reducible refine s_rz ?_
  | with_reducible refine s_asgS ?_
  | with_reducible refine s_gSub ?_
  | with_reducible refine s_ifE ?_
  | with_reducible refine s_add_i ?_
  | with_reducible refine s_sub ?_
  | with_reducible refine s_neg ?_
  | with_reducible refine s_eq_i ?_
  | with_reducible refine s_eq_s ?_
  | with_reducible refine s_ne_i ?_
  | with_reducible refine s_ne_s ?_
  | with_reducible refine s_lt_i ?_
  | with_reducible refine s_le_i ?_
  | with_reducible refine s_gt_i ?_
  | with_reducible refine s_ge_i ?_
  | with_reducible refine s_lt_s ?_
  | with_reducible refine s_le_s ?_
  | with_reducible refine s_gt_s ?_
  | with_reducible refine s_ge_s ?_
  | with_reducible refine s_in_c ?_
  | with_reducible refine s_ni_c ?_
  | with_reducible refine s_isN ?_
  | with_reducible refine s_noN ?_
  | with_reducible refine s_abs ?_
  | with_reducible refine s_min2 ?_
  | with_reducible refine s_max2 ?_
  | with_reducible refine s_int_i ?_
  | ((with_reducible refine s_len_s ?_ ?_); assumption)
  | ((with_reducible refine s_len_l (xs := ?_) ?_ ?_); rotate_left; assumption)
  | ((with_reducible refine s_len_t (xs := ?_) ?_ ?_); rotate_left; assumption)
  | with_reducible refine s_pair upd_same ?_
  | with_reducible refine s_callS ?_
  | with_reducible refine jtT ?_
  | with_reducible refine jtF ?_
  | with_reducible refine jtNT ?_
  | with_reducible refine jtNF ?_
  | dsimp only)
local macro_rules | `(tactic| walk_at "rd") => `(tactic| repeat (walk_at "rd1"))

/-! ### a table without a clash gives back the images -/
theorem bW_keep {size : Int} {w im : Str} {k y : Str} : ∀ {n j : Nat} {t t' : Tb}, bW size w im n j t = some t' → getS t k = some y → getS t' k = some y
  | 0, j, t, t', h, e => by
    cases h
    exact e
  | n + 1, j, t, t', h, e => by
    rw [bW_succ] at h
    have step : ∀ (h2 : bW size w im n (j + 1) (putS t (viewI w (j : Nat) size) (chr im j)) = some t'), (viewI w (j : Nat) size = k → chr im j = y) → getS t' k = some y := fun h2 hy => by
      refine bW_keep h2 ?_
      rw [getS_put]
      by_cases hk : k = viewI w (j : Nat) size
      · rw [if_pos hk, hy hk.symm]
      · rw [if_neg hk, e]
    cases hg : getS t (viewI w (j : Nat) size) with
    | none =>
      rw [hg] at h
      exact step h fun hk => by rw [hk, e] at hg; cases hg
    | some z =>
      rw [hg] at h
      dsimp only at h
      by_cases hz : z = chr im j
      · rw [if_pos hz] at h
        exact step h fun hk => by rw [hk, e] at hg; cases hg; exact hz.symm
      · rw [if_neg hz] at h
        cases h
theorem bW_has {size : Int} {w im : Str} : ∀ {n j : Nat} {t t' : Tb}, bW size w im n j t = some t' → ∀ i, j ≤ i → i < j + n → getS t' (viewI w (i : Nat) size) = some (chr im i)
  | 0, j, t, t', h, i, h1, h2 => by omega
  | n + 1, j, t, t', h, i, h1, h2 => by
    rw [bW_succ] at h
    have step : ∀ (h3 : bW size w im n (j + 1) (putS t (viewI w (j : Nat) size) (chr im j)) = some t'), getS t' (viewI w (i : Nat) size) = some (chr im i) := fun h3 => by
      by_cases hi : i = j
      · refine bW_keep h3 ?_
        rw [hi, getS_put, if_pos rfl]
      · exact bW_has h3 i (by omega) (by omega)
    cases hg : getS t (viewI w (j : Nat) size) with
    | none =>
      rw [hg] at h
      exact step h
    | some z =>
      rw [hg] at h
      dsimp only at h
      by_cases hz : z = chr im j
      · rw [if_pos hz] at h
        exact step h
      · rw [if_neg hz] at h
        cases h
theorem bP_keep {size : Int} {k y : Str} : ∀ {ps : List Pr} {t t' : Tb}, bP size ps t = some t' → getS t k = some y → getS t' k = some y
  | [], t, t', h, e => by
    cases h
    exact e
  | p :: r, t, t', h, e => by
    rw [bP_cons] at h
    split at h
    · cases h
    · rename_i t1 h1
      exact bP_keep h (bW_keep h1 e)
theorem bP_has {size : Int} : ∀ {ps : List Pr} {t t' : Tb}, bP size ps t = some t' → ∀ p ∈ ps, ∀ i, i < p.1.length → getS t' (viewI p.1 (i : Nat) size) = some (chr p.2 i)
  | q :: r, t, t', h, p, hp, i, hi => by
    rw [bP_cons] at h
    split at h
    · cases h
    · rename_i t1 h1
      rcases List.mem_cons.mp hp with e | e
      · rw [e] at hi ⊢
        exact bP_keep h (bW_has h1 i (Nat.zero_le _) (by omega))
      · exact bP_has h p e i hi
theorem img_back {t : Tb} {size : Int} {w im : Str} (hl : w.length = im.length) (h : ∀ i, i < w.length → getS t (viewI w (i : Nat) size) = some (chr im i)) : ∀ {n j : Nat} {acc : Str}, n + j = w.length → acc.cps.toList = im.cps.toList.take j → imgM t w size n j acc = some im
  | 0, j, acc, hn, ha => by
    show some acc = some im
    congr 1
    refine TL.ext_tl ?_
    show acc.cps.toList = im.cps.toList
    rw [ha, List.take_of_length_le]
    rw [len_list]
    omega
  | n + 1, j, acc, hn, ha => by
    rw [imgM_succ, h j (by omega)]
    dsimp only
    refine img_back hl h (by omega) ?_
    have hj : j < im.cps.toList.length := by
      rw [len_list]
      omega
    show TL.tl (acc ++ chr im j) = _
    rw [TL.tl_append, List.take_add_one, List.getElem?_eq_getElem hj]
    show acc.cps.toList ++ [im.cps.toList.getD j 0] = _
    rw [ha, getD_at hj]
    rfl
theorem getS_in {α : Type} {t : List (Str × α)} {k : Str} {y : α} (h : (k, y) ∈ t) : ∃ z, getS t k = some z := by
  induction t with
  | nil => cases h
  | cons p r ih =>
    rw [getS_cons]
    by_cases hp : p.1 = k
    · rw [if_pos hp]
      exact ⟨_, rfl⟩
    · rw [if_neg hp]
      rcases List.mem_cons.mp h with e | e
      · rw [← e] at hp
        exact absurd rfl hp
      · exact ih e
theorem KvR.nth {α : Type} {R : V → α → Prop} : ∀ {kvs : List (Key × V)} {t : List (Str × α)} {i : Nat} {k : Key} {v : V}, KvR R kvs t → kvs[i]? = some (k, v) → ∃ z y, k = Sum.inr z ∧ (z, y) ∈ t ∧ R v y
  | _, _, 0, k, v, .cons (k := z) (y := y) r s, e => by
    cases e
    exact ⟨z, y, rfl, List.mem_cons_self .., r⟩
  | _, _, i + 1, k, v, .cons r s, e => by
    obtain ⟨z, y, h1, h2, h3⟩ := KvR.nth (i := i) s e
    exact ⟨z, y, h1, List.mem_cons_of_mem _ h2, h3⟩
theorem tyx_tup {K : PySem.W.Frag} {H : Hp} {a : Addr} {xs : List V} (h : SqT K H a xs) : TyX K H (.ref a) (.type "tuple") := by
  rcases h with (h | ⟨o, h⟩) | ⟨o, its, n, h, hc, _⟩
  · exact .base (.tup h)
  · exact .fTuple h
  · exact .kTuple h hc
section
variable {P : Program} {w : World} {K : PySem.W.Frag} {mg : Str → Option Value} {base : Heap}
theorem S_law_place : FnScope ["pairs", "place"] ["pairs", "place"] (d_law_place).scope := ⟨rfl, rfl, rfl, by decide +kernel, rfl, by decide +kernel, by decide +kernel⟩
def sp_place (K : PySem.W.Frag) : Sp := fun vs H Q E => ∃ (D : Hp) (v u : V) (ps : List Pr) (x : Nat × Nat) (p : Pr), vs = [v, u] ∧ Same D H ∧ Dp K D v (dPs ps) ∧ Dp K D u (dN x) ∧ Short ps ∧ ps[x.1]? = some p ∧ x.2 < p.1.length ∧ Q (.bl true) H
theorem w_law_place (T : Txt P w K mg) : Has P w K mg base 4 "_law_place" (sp_place K) := by
  have S := S_law_place
  have G_law_integer := w_law_integer (base := base) T
  refine has_of (k := 3) T.d_law_place T.gd_law_place S (fun _ _ _ _ _ _ us hl => match us, hl with | [_, _], _ => rfl) (fun vs H Q E h => ?_) (fun f cdv A outer s H vs Q E hr h => ?_)
  · obtain ⟨D, v, u, ps, x, p, rfl, _⟩ := h
    rfl
  · obtain ⟨D, v, u, ps, x, p, rfl, sm, dv, du, hsh, hp, hx, q⟩ := h
    obtain ⟨a, xs, rfl, ha, hxs⟩ := dp_list dv
    obtain ⟨b, rfl, hb⟩ := dN_get du
    have haH := sm.seq ha
    have hbH := same_seqT sm hb
    have hl : xs.length = ps.length := by rw [dpl_len hxs, List.length_map]
    have hx1 : x.1 < ps.length := (List.getElem?_eq_some_iff.mp hp).1
    obtain ⟨bv, hbv, dbv⟩ := dpl_getR hxs (d := dP p) (i := x.1) (by rw [List.getElem?_map, hp]; rfl)
    obtain ⟨b', rfl, hb2⟩ := dP_get dbv
    have hb2H := same_seqT sm hb2
    have hpl := le1000 (hsh.len p (List.mem_of_getElem? hp)).1
    refine ⟨_, (pss_cons (ps_if (PW.pt (pw_or (pt_not (pt_val (pe_callB call_isi (by rfl) T.b_isinstance (by decide +kernel) (pa_cons (pv 1) (pa_cons (pe_gT (T := "tuple") (by rfl) T.b_tuple (by decide +kernel)) pa_nil))))) (pw_or1 (pt_cmpR (cK_ne K hr.units) (pe_callB (bK_len K) (by rfl) T.b_len (by decide +kernel) (pa_cons (pv 1) pa_nil)) pe_int (nomark _)))))
      (pss_one (ps_ret pe_bl))
      pss_nil)
    (pss_cons (ps_if (PW.pt (pw_or (pt_not (pt_val (pe_has G_law_integer (hr.mono (by decide)) (takes_of rfl rfl rfl rfl) rfl (pa_cons (pe_ix (ixK_seq K) (pv 1) pe_int (fun _ _ => rfl)) pa_nil)))) (pw_or1 (pt_not (pt_val (pe_has G_law_integer (hr.mono (by decide)) (takes_of rfl rfl rfl rfl) rfl (pa_cons (pe_ix (ixK_seq K) (pv 1) pe_int (fun _ _ => rfl)) pa_nil)))))))
      (pss_one (ps_ret pe_bl))
      pss_nil)
    (pss_cons (ps_if (PW.pt (pw_or (pt_cmpR c_lt (pe_ix (ixK_seq K) (pv 1) pe_int (fun _ _ => rfl)) pe_int (nomark _)) (pw_or1 (pt_cmpR c_ge (pe_ix (ixK_seq K) (pv 1) pe_int (fun _ _ => rfl)) (pe_callB (bK_len K) (by rfl) T.b_len (by decide +kernel) (pa_cons (pv 0) pa_nil)) (nomark _)))))
      (pss_one (ps_ret pe_bl))
      pss_nil)
    (pss_one (ps_ret (pe_and (pe_cmpR c_ge (pe_ix (ixK_seq K) (pv 1) pe_int (fun _ _ => rfl)) pe_int (nomark _)) (pe_one (pe_cmpR c_lt (pe_ix (ixK_seq K) (pv 1) pe_int (fun _ _ => rfl)) (pe_callB (bK_len K) (by rfl) T.b_len (by decide +kernel) (pa_cons (pe_ix (ixK_seq K) (pe_ix (ixK_seq K) (pv 0) (pe_ix (ixK_seq K) (pv 1) pe_int (fun _ _ => rfl)) (fun _ _ => rfl)) pe_int (fun _ _ => rfl)) pa_nil)) (nomark _))))))))), ?_⟩
    walk_at "rd"
    refine ⟨.ref b, .ty "tuple", .type "tuple", .type "tuple", true, rfl, .ty _, tyx_tup hbH, rfl, ?_⟩
    walk_at "rd"
    refine jtN (fun e => absurd rfl e) (fun _ => ?_)
    walk_at "rd"
    refine s_ix_t hbH atI_0 ?_
    walk_at "rd"
    refine ⟨_, rfl, ?_⟩
    walk_at "rd"
    refine s_ix_t hbH (atI_i (j := 1) rfl rfl) ?_
    walk_at "rd"
    refine ⟨_, rfl, ?_⟩
    walk_at "rd"
    refine s_ix_t hbH atI_0 ?_
    walk_at "rd"
    refine jtD (fun e => ?_) (fun _ => ?_)
    · omega
    walk_at "rd"
    refine s_ix_t hbH atI_0 ?_
    walk_at "rd"
    refine jtD (fun e => ?_) (fun _ => ?_)
    · omega
    walk_at "rd"
    refine s_ix_t hbH (atI_i (j := 1) rfl rfl) ?_
    walk_at "rd"
    refine jtD (fun _ => ?_) (fun e => absurd (by omega) e)
    walk_at "rd"
    refine s_ix_t hbH (atI_i (j := 1) rfl rfl) ?_
    walk_at "rd"
    refine s_ix_t hbH atI_0 ?_
    refine s_ix_l haH (atI_i (j := x.1) rfl hbv) ?_
    walk_at "rd"
    refine s_ix_t hb2H atI_0 ?_
    walk_at "rd"
    rw [decide_eq_true (show (x.2 : Int) < (p.1.length : Int) by omega)]
    exact q
theorem S_law_clash : FnScope ["pairs", "size", "answer", "one", "two"] ["pairs", "size", "answer"] (d_law_clash).scope := ⟨rfl, rfl, rfl, by decide +kernel, rfl, by decide +kernel, by decide +kernel⟩
def sp_clash (K : PySem.W.Frag) : Sp := fun vs H Q E => ∃ (D : Hp) (v u : V) (ps : List Pr) (size : Int) (x y : Nat × Nat), vs = [v, .int size, u] ∧ Same D H ∧ Dp K D v (dPs ps) ∧ AnsC K D u x y ∧ Fine ps ∧ ClashAt ps size x y ∧ Q (.bl true) H
theorem w_law_clash (T : Txt P w K mg) : Has P w K mg base 5 "_law_clash" (sp_clash K) := by
  have S := S_law_clash
  have G_law_place := w_law_place (base := base) T
  have G_law_view := w_law_view (base := base) T
  refine has_of (k := 4) T.d_law_clash T.gd_law_clash S (fun _ _ _ _ _ _ us hl => match us, hl with | [_, _, _], _ => rfl) (fun vs H Q E h => ?_) (fun f cdv A outer s H vs Q E hr h => ?_)
  · obtain ⟨D, v, u, ps, size, x, y, rfl, _⟩ := h
    rfl
  · obtain ⟨D, v, u, ps, size, x, y, rfl, sm, dv, du, fine, hc, q⟩ := h
    obtain ⟨p, r, hp, hr2, hx, hy, hv, hne⟩ := hc
    obtain ⟨a, xs, rfl, ha, hxs⟩ := dp_list dv
    obtain ⟨b, ys, rfl, hb, hys⟩ := dp_tuple du
    cases hys with
    | cons hy0 hr0 =>
    cases hr0 with
    | cons hy1 hr1 =>
    cases hr1 with
    | cons hy2 hr2' =>
    cases hr2'
    cases hy0
    obtain ⟨bx, rfl, hbx⟩ := dN_get hy1
    obtain ⟨by_, rfl, hby⟩ := dN_get hy2
    have haH := sm.seq ha
    have hbH := same_seqT sm hb
    have hbxH := same_seqT sm hbx
    have hbyH := same_seqT sm hby
    obtain ⟨pv1, hpv1, dp1⟩ := dpl_getR hxs (d := dP p) (i := x.1) (by rw [List.getElem?_map, hp]; rfl)
    obtain ⟨pa, rfl, hpa⟩ := dP_get dp1
    obtain ⟨pv2, hpv2, dp2⟩ := dpl_getR hxs (d := dP r) (i := y.1) (by rw [List.getElem?_map, hr2]; rfl)
    obtain ⟨ra, rfl, hra⟩ := dP_get dp2
    have hpaH := same_seqT sm hpa
    have hraH := same_seqT sm hra
    have hpl := fine.len p (List.mem_of_getElem? hp)
    have hrl := fine.len r (List.mem_of_getElem? hr2)
    have hpe := fine.eq p (List.mem_of_getElem? hp)
    have hre := fine.eq r (List.mem_of_getElem? hr2)
    refine ⟨_, (pss_cons (ps_if (PW.pt (pw_or (pt_cmpR (cK_ne K hr.units) (pe_callB (bK_len K) (by rfl) T.b_len (by decide +kernel) (pa_cons (pv 2) pa_nil)) pe_int (nomark _)) (pw_or (pt_not (pt_val (pe_has G_law_place (hr.mono (by decide)) (takes_of rfl rfl rfl rfl) rfl (pa_cons (pv 0) (pa_cons (pe_ix (ixK_seq K) (pv 2) pe_int (fun _ _ => rfl)) pa_nil))))) (pw_or1 (pt_not (pt_val (pe_has G_law_place (hr.mono (by decide)) (takes_of rfl rfl rfl rfl) rfl (pa_cons (pv 0) (pa_cons (pe_ix (ixK_seq K) (pv 2) pe_int (fun _ _ => rfl)) pa_nil)))))))))
      (pss_one (ps_ret pe_bl))
      pss_nil)
    (pss_cons (ps_set (i := 3) S.nd rfl (Or.inl rfl) (pe_ix (ixK_seq K) (pv 0) (pe_ix (ixK_seq K) (pe_ix (ixK_seq K) (pv 2) pe_int (fun _ _ => rfl)) pe_int (fun _ _ => rfl)) (fun _ _ => rfl)))
    (pss_cons (ps_set (i := 4) S.nd rfl (Or.inl rfl) (pe_ix (ixK_seq K) (pv 0) (pe_ix (ixK_seq K) (pe_ix (ixK_seq K) (pv 2) pe_int (fun _ _ => rfl)) pe_int (fun _ _ => rfl)) (fun _ _ => rfl)))
    (pss_cons (ps_if (pt_cmpR (cK_ne K hr.units) (pe_has G_law_view (hr.mono (by decide)) (takes_of rfl rfl rfl rfl) rfl (pa_cons (pe_ix (ixK_seq K) (pv 3) pe_int (fun _ _ => rfl)) (pa_cons (pe_ix (ixK_seq K) (pe_ix (ixK_seq K) (pv 2) pe_int (fun _ _ => rfl)) pe_int (fun _ _ => rfl)) (pa_cons (pv 1) pa_nil)))) (pe_has G_law_view (hr.mono (by decide)) (takes_of rfl rfl rfl rfl) rfl (pa_cons (pe_ix (ixK_seq K) (pv 4) pe_int (fun _ _ => rfl)) (pa_cons (pe_ix (ixK_seq K) (pe_ix (ixK_seq K) (pv 2) pe_int (fun _ _ => rfl)) pe_int (fun _ _ => rfl)) (pa_cons (pv 1) pa_nil)))) (nomark _))
      (pss_one (ps_ret pe_bl))
      pss_nil)
    (pss_one (ps_ret (pe_cmpR (cK_ne K hr.units) (pe_ix (ixK_seq K) (pe_ix (ixK_seq K) (pv 3) pe_int (fun _ _ => rfl)) (pe_ix (ixK_seq K) (pe_ix (ixK_seq K) (pv 2) pe_int (fun _ _ => rfl)) pe_int (fun _ _ => rfl)) (fun _ _ => rfl)) (pe_ix (ixK_seq K) (pe_ix (ixK_seq K) (pv 4) pe_int (fun _ _ => rfl)) (pe_ix (ixK_seq K) (pe_ix (ixK_seq K) (pv 2) pe_int (fun _ _ => rfl)) pe_int (fun _ _ => rfl)) (fun _ _ => rfl)) (nomark _)))))))), ?_⟩
    walk_at "rd"
    refine jtN (fun e => absurd rfl e) (fun _ => ?_)
    walk_at "rd"
    refine s_ix_t hbH (atI_i (j := 1) rfl rfl) ?_
    walk_at "rd"
    refine ⟨D, _, _, ps, x, p, rfl, sm, dv, hy1, fine.toShort, hp, hx, ?_⟩
    walk_at "rd"
    refine s_ix_t hbH (atI_i (j := 2) rfl rfl) ?_
    walk_at "rd"
    refine ⟨D, _, _, ps, y, r, rfl, sm, dv, hy2, fine.toShort, hr2, hy, ?_⟩
    walk_at "rd"
    refine s_ix_t hbH (atI_i (j := 1) rfl rfl) ?_
    refine s_ix_t hbxH atI_0 ?_
    refine s_ix_l haH (atI_i (j := x.1) rfl hpv1) ?_
    walk_at "rd"
    refine s_ix_t hbH (atI_i (j := 2) rfl rfl) ?_
    refine s_ix_t hbyH atI_0 ?_
    refine s_ix_l haH (atI_i (j := y.1) rfl hpv2) ?_
    walk_at "rd"
    refine s_ix_t hpaH atI_0 ?_
    walk_at "rd"
    refine s_ix_t hbH (atI_i (j := 1) rfl rfl) ?_
    walk_at "rd"
    refine s_ix_t hbxH (atI_i (j := 1) rfl rfl) ?_
    walk_at "rd"
    refine ⟨p.1, _, _, rfl, le1000 hpl.1, ?_⟩
    walk_at "rd"
    refine s_ix_t hraH atI_0 ?_
    walk_at "rd"
    refine s_ix_t hbH (atI_i (j := 2) rfl rfl) ?_
    walk_at "rd"
    refine s_ix_t hbyH (atI_i (j := 1) rfl rfl) ?_
    walk_at "rd"
    refine ⟨r.1, _, _, rfl, le1000 hrl.1, ?_⟩
    walk_at "rd"
    refine jtN (fun e => absurd hv e) (fun _ => ?_)
    walk_at "rd"
    refine s_ix_t hpaH (atI_i (j := 1) rfl rfl) ?_
    walk_at "rd"
    refine s_ix_t hbH (atI_i (j := 1) rfl rfl) ?_
    walk_at "rd"
    refine s_ix_t hbxH (atI_i (j := 1) rfl rfl) ?_
    refine s_ix_s (le1000 hpl.2) (atI_chr (by omega)) ?_
    walk_at "rd"
    refine s_ix_t hraH (atI_i (j := 1) rfl rfl) ?_
    walk_at "rd"
    refine s_ix_t hbH (atI_i (j := 2) rfl rfl) ?_
    walk_at "rd"
    refine s_ix_t hbyH (atI_i (j := 1) rfl rfl) ?_
    refine s_ix_s (le1000 hrl.2) (atI_chr (by omega)) ?_
    refine s_ne_s ?_
    have hne' : ¬ ((⟨#[p.2.cps.toList.getD x.2 0]⟩ : Str) = ⟨#[r.2.cps.toList.getD y.2 0]⟩) := hne
    rw [decide_eq_false hne']
    exact q
theorem S_law_image : FnScope ["state", "known", "word", "images", "size", "image", "at", "view"] ["state", "known", "word", "images", "size"] (d_law_image).scope := ⟨rfl, rfl, rfl, by decide +kernel, rfl, by decide +kernel, by decide +kernel⟩
def Ones (im : Str) (t : Tb) : Prop := ∀ p ∈ t, ∃ c ∈ im.cps.toList, p.2 = ⟨#[c]⟩
def sp_image (K : PySem.W.Frag) : Sp := fun vs H Q E => ∃ (D : Hp) (st kd : Addr) (z im : Str) (size : Int) (kvs : List (Key × V)) (t : Tb), vs = [.ref st, .ref kd, .str z, .str im, .int size] ∧ z.length ≤ 1000 ∧ 1 ≤ im.length ∧ im.length ≤ 1000 ∧ Same D H ∧ Stt K D H st ∧ kd ≠ st ∧ D kd = none ∧
  H kd = some (.dK kvs) ∧ KvR IsS kvs t ∧ Ones im t ∧ t.length ≤ 1000000 ∧
  ∀ D' H' kvs' t' y, Gr (fun b => b = st ∨ b = kd) D H D' H' → Stt K D' H' st → D' kd = none → H' kd = some (.dK kvs') → KvR IsS kvs' t' → Ones im t' → t'.length ≤ t.length + z.length → y.length = z.length → (∀ c ∈ y.cps.toList, c ∈ im.cps.toList) → Q (.str y) H'
theorem Ones.put {im : Str} {t : Tb} {k : Str} {c : Nat} (h : Ones im t) (hc : c ∈ im.cps.toList) : Ones im (putS t k ⟨#[c]⟩) := by
  intro p hp
  unfold putS at hp
  split at hp
  · obtain ⟨q, hq, e⟩ := List.mem_map.mp hp
    split at e
    · rw [← e]
      exact ⟨c, hc, rfl⟩
    · rw [← e]
      exact h q hq
  · rcases List.mem_append.mp hp with hp | hp
    · exact h p hp
    · rw [List.mem_singleton.mp hp]
      exact ⟨c, hc, rfl⟩
theorem w_law_image (T : Txt P w K mg) : Has P w K mg base 4 "_law_image" (sp_image K) := by
  have S := S_law_image
  have G_law_view := w_law_view (base := base) T
  have G_law_next := w_law_next (base := base) T
  refine has_of (k := 3) T.d_law_image T.gd_law_image S (fun _ _ _ _ _ _ us hl => match us, hl with | [_, _, _, _, _], _ => rfl) (fun vs H Q E h => ?_) (fun f cdv A outer s H vs Q E hr h => ?_)
  · obtain ⟨D, st, kd, z, im, size, kvs, t, rfl, _⟩ := h
    rfl
  · obtain ⟨D, st, kd, z, im, size, kvs, t, rfl, hz, hi1, hi2, sm, X, hks, hDk, hHk, hkv, hon, htl, q⟩ := h
    have hzl := le1000 hz
    have hil := le1000 hi2
    refine ⟨_, (pss_cons (ps_set (i := 5) S.nd rfl (Or.inl rfl) pe_str)
    (pss_cons (ps_for (passes_of rfl) rfl (pi_range1 (by rfl) T.b_range (pa_cons (pe_callB (bK_len K) (by rfl) T.b_len (by decide +kernel) (pa_cons (pv 2) pa_nil)) pa_nil)) (pg_name (i := 6) S.nd rfl (Or.inl rfl))
      (pss_cons (ps_set (i := 7) S.nd rfl (Or.inl rfl) (pe_has G_law_view (hr.mono (by decide)) (takes_of rfl rfl rfl rfl) rfl (pa_cons (pv 2) (pa_cons (pv 6) (pa_cons (pv 4) pa_nil)))))
    (pss_cons (ps_if (pt_cmp (pc_dnotin (hu_of hr) (pv 7) (pv 1)))
      (pss_one (ps_dput (hu_of hr) (pv 1) (pv 7) (pe_ix (ixK_seq K) (pv 3) (pe_has G_law_next (hr.mono (by decide)) (takes_of rfl rfl rfl rfl) rfl (pa_cons (pv 0) (pa_cons (pe_callB (bK_len K) (by rfl) T.b_len (by decide +kernel) (pa_cons (pv 3) pa_nil)) pa_nil))) (fun _ _ => rfl)) rfl))
      pss_nil)
    (pss_one (ps_set (i := 5) S.nd rfl (Or.inl rfl) (pe_op (oK_add K) (pv 5) (pe_dget (hu_of hr) (pv 1) (pv 7) (fun _ _ => rfl))))))))
    (pss_one (ps_ret (pv 5))))), ?_⟩
    walk_at "rd"
    refine ⟨_, rfl, by omega, by omega, lp_it walk_r0 (fun i σ H' => ∃ D' kvs' t' y o6 o7, Gr (fun b => b = st ∨ b = kd) D H D' H' ∧ Stt K D' H' st ∧ D' kd = none ∧ H' kd = some (.dK kvs') ∧ KvR IsS kvs' t' ∧ Ones im t' ∧ t'.length ≤ t.length + i ∧ y.length = i ∧ (∀ c ∈ y.cps.toList, c ∈ im.cps.toList) ∧
      σ = [some (.ref st), some (.ref kd), some (.str z), some (.str im), some (.int size), some (.str y), o6, o7]) ⟨D, kvs, t, "", none, none, Gr.refl sm, X, hDk, hHk, hkv, hon, Nat.le_refl _, rfl, fun c z => (nomatch z), rfl⟩ (fun _ _ _ _ _ => trivial) ?_ ?_⟩
    · rintro i x σ H1 H2 hi ⟨D1, kvs1, t1, y, o6, o7, g, X1, hD1, hk1, hkv1, hon1, htl1, hyl, hyc, rfl⟩ ⟨rfl, rfl⟩
      walk_at "rd"
      refine ⟨z, _, _, rfl, hzl, ?_⟩
      with_reducible refine s_gname ?_
      generalize viewI z (i : Nat) size = vw
      refine s_cut (fun σ' H' => ∃ D' kvs' t' c, Gr (fun b => b = st ∨ b = kd) D H D' H' ∧ Stt K D' H' st ∧ D' kd = none ∧ H' kd = some (.dK kvs') ∧ KvR IsS kvs' t' ∧ Ones im t' ∧ t'.length ≤ t.length + (i + 1) ∧ c ∈ im.cps.toList ∧ getS t' vw = some ⟨#[c]⟩ ∧
        σ' = [some (.ref st), some (.ref kd), some (.str z), some (.str im), some (.int size), some (.str y), some (.int (i : Nat)), some (.str vw)]) ?_ (fun N rest => ?_)
      · rintro σ' H3 ⟨D3, kvs3, t3, c, g3, X3, hD3, hk3, hkv3, hon3, htl3, hc, hgt, rfl⟩
        rcases dgetS hk3 hkv3 vw with ⟨hd, hg⟩ | ⟨v, y2, hd, hg, rfl⟩
        · rw [hg] at hgt
          cases hgt
        · rw [hg] at hgt
          cases hgt
          walk_at "rd"
          refine ⟨kd, _, rfl, hd, ?_⟩
          have l1 : (⟨#[c]⟩ : Str).length = 1 := rfl
          refine s_add_s (leBig (by omega)) ?_
          walk_at "rd"
          refine ⟨D3, kvs3, t3, _, _, _, g3, X3, hD3, hk3, hkv3, hon3, htl3, ?_, ?_, rfl⟩
          · rw [app_len, hyl]
            rfl
          · intro d hd2
            have hd2 : d ∈ TL.tl (y ++ ⟨#[c]⟩) := hd2
            rw [TL.tl_append] at hd2
            rcases List.mem_append.mp hd2 with h | h
            · exact hyc d h
            · have : d = c := List.mem_singleton.mp h
              rw [this]
              exact hc
      · walk_at "rd"
        rcases dgetS hk1 hkv1 vw with ⟨hd, hg⟩ | ⟨v, y2, hd, hg, rfl⟩
        · refine ⟨kd, _, rfl, hd, ?_⟩
          walk_at "rd"
          refine jtNF ?_
          walk_at "rd"
          refine ⟨D1, st, _, rfl, by omega, by omega, g.sub, X1, fun D5 H5 r g5 X5 r0 r1 => ?_⟩
          have hk5 := g5.same kd _ hks hk1
          have hD5 := g5.stay hD1 hk1
          have gA := g.trans (g5.weak (m' := fun b => b = st ∨ b = kd) fun b e => .inl e)
          have hr : r.toNat < im.cps.toList.length := by rw [len_list]; omega
          refine s_ix_s hil (atI_i (j := r.toNat) (by omega) (List.getElem?_eq_getElem hr)) ?_
          walk_at "rd"
          have hkl := hkv1.len
          refine ⟨kd, _, rfl, dputS hk5 (ltBig (by omega)), ?_⟩
          refine rest _ _ ⟨D5, _, _, im.cps.toList[r.toNat], gA.put hD5 (.inr (.inr rfl)), X5.put hks, hD5, upd_same, KvR.put (R := IsS) rfl hkv1, hon1.put (List.getElem_mem hr), Nat.le_trans (putS_len _ _ _) (by omega), List.getElem_mem hr, ?_, rfl⟩
          rw [getS_put, if_pos rfl]
        · refine ⟨kd, _, rfl, hd, ?_⟩
          walk_at "rd"
          refine jtNT ?_
          walk_at "rd"
          obtain ⟨c, hc, e⟩ := hon1 _ (getS_mem hg)
          have e : y2 = ⟨#[c]⟩ := e
          refine rest _ _ ⟨D1, kvs1, t1, c, g, X1, hD1, hk1, hkv1, hon1, by omega, hc, by rw [hg, e], rfl⟩
    · rintro σ H1 ⟨D1, kvs1, t1, y, o6, o7, g, X1, hD1, hk1, hkv1, hon1, htl1, hyl, hyc, rfl⟩
      rw [show ((z.length : Int)).toNat = z.length from Int.toNat_natCast _] at htl1 hyl
      walk_at "rd"
      exact q D1 H1 kvs1 t1 y g X1 hD1 hk1 hkv1 hon1 htl1 hyl hyc
end
end H87

namespace H87
open PySem PySem.Spec L2 He Y Hk87
local macro_rules | `(tactic| walk_at "rd1") => `(tactic| first
  | with_reducible refine s_seq ?_
  | with_reducible refine s_asg ?_
  | with_reducible refine s_gname ?_
  | ((with_reducible refine s_var (v := ?_) ?_ ?_); rotate_left; exact rfl)
  | with_reducible refine s_c ?_
  | with_reducible refine s_op ?_
  | with_reducible refine s_un ?_
  | with_reducible refine s_nil ?_
  | with_reducible refine s_cons ?_
  | with_reducible refine s_CB ?_
  | with_reducible refine s_ifS ?_
  | with_reducible refine s_test ?_
  | with_reducible refine s_B ?_
  | with_reducible refine s_xb ?_
  | with_reducible refine s_xi ?_
  | with_reducible refine s_xs ?_
  | with_reducible refine s_or ?_
  | with_reducible refine s_and ?_
  | with_reducible refine s_not ?_
  | with_reducible refine s_orV ?_
  | with_reducible refine s_andV ?_
  | with_reducible refine s_notV ?_
  | with_reducible refine s_ret ?_
  | with_reducible refine s_retN ?_
  | with_reducible refine s_next ?_
  | with_reducible refine s_drop ?_
  | with_reducible refine s_yes ?_
  | with_reducible refine s_for ?_
  | with_reducible refine s_lc ?_
  | with_reducible refine s_iStr ?_
  | with_reducible refine s_iList ?_
  | with_reducible refine s_iTup ?_
  | with_reducible refine s_iR1 ?_
  | with_reducible refine s_iR2 ?_
  | with_reducible refine s_iE ?_
  | with_reducible refine s_iET ?_
  | with_reducible refine s_iES ?_
  | with_reducible refine s_tup ?_
  | with_reducible refine s_lst ?_
  | with_reducible refine s_BM ?_
  | with_reducible refine s_BM0 ?_
  | with_reducible refine s_BMS ?_
  | with_reducible refine s_M1 ?_
  | with_reducible refine s_sl ?_
  | with_reducible refine s_noP ?_
  | with_reducible refine s_po ?_
  | with_reducible refine s_call ?_
  | with_reducible refine s_callS ?_
  | with_reducible refine s_make ?_
  | with_reducible refine s_makeS ?_
  | with_reducible refine s_methS ?_
  | with_reducible refine s_callO ?_
  | with_reducible refine s_dnew ?_
  | with_reducible refine s_dget ?_
  | with_reducible refine s_din ?_
  | with_reducible refine s_dnin ?_
  | with_reducible refine s_dput ?_
  | with_reducible refine s_dsetd ?_
  | with_reducible refine s_dget2 ?_
  | with_reducible refine s_fld ?_
  | with_reducible refine s_sFld ?_
  | with_reducible refine s_rz ?_
  | with_reducible refine s_asgS ?_
  | with_reducible refine s_gSub ?_
  | with_reducible refine s_ifE ?_
  | with_reducible refine s_add_i ?_
  | with_reducible refine s_sub ?_
  | with_reducible refine s_neg ?_
  | with_reducible refine s_eq_i ?_
  | with_reducible refine s_eq_s ?_
  | with_reducible refine s_ne_i ?_
  | with_reducible refine s_ne_s ?_
  | with_reducible refine s_lt_i ?_
  | with_reducible refine s_le_i ?_
  | with_reducible refine s_gt_i ?_
  | with_reducible refine s_ge_i ?_
  | with_reducible refine s_lt_s ?_
  | with_reducible refine s_le_s ?_
  | with_reducible refine s_gt_s ?_
  | with_reducible refine s_ge_s ?_
  | with_reducible refine s_in_c ?_
  | with_reducible refine s_ni_c ?_
  | with_reducible refine s_isN ?_
  | with_reducible refine s_noN ?_
  | with_reducible refine s_abs ?_
  | with_reducible refine s_min2 ?_
  | with_reducible refine s_max2 ?_
  | with_reducible refine s_int_i ?_
  | ((with_reducible refine s_len_s ?_ ?_); assumption)
  | ((with_reducible refine s_len_l (xs := ?_) ?_ ?_); rotate_left; assumption)
  | ((with_reducible refine s_len_t (xs := ?_) ?_ ?_); rotate_left; assumption)
  | with_reducible refine s_pair upd_same ?_
  | with_reducible refine s_callS ?_
  | with_reducible refine jtT ?_
  | with_reducible refine jtF ?_
  | with_reducible refine jtNT ?_
  | with_reducible refine jtNF ?_
  | dsimp only)
local macro_rules | `(tactic| walk_at "rd") => `(tactic| repeat (walk_at "rd1"))

section
variable {P : Program} {w : World} {K : PySem.W.Frag} {mg : Str → Option Value} {base : Heap}
theorem S_law_good_turner : FnScope ["turner", "letters", "images", "size", "table", "pairs", "more", "view", "pair", "word", "due", "told"] ["turner", "letters", "images", "size", "table", "pairs", "more"] (d_law_good_turner).scope := ⟨rfl, rfl, rfl, by decide +kernel, rfl, by decide +kernel, by decide +kernel⟩
def sp_good (K : PySem.W.Frag) : Sp := fun vs H Q E => ∃ (D : Hp) (tv pv mv : V) (l i : Str) (size : Int) (t : Tb) (ta : Addr) (kvs : List (Key × V)) (ps : List Pr) (more : List Str), vs = [tv, .str l, .str i, .int size, .ref ta, pv, mv] ∧ Same D H ∧ IsT K D tv l i size t ∧
  H ta = some (.dK kvs) ∧ D ta = none ∧ KvR IsS kvs t ∧ (∀ p ∈ t, p.2.length ≤ 1000) ∧ Dp K D pv (dPs ps) ∧ Dp K D mv (.list (dSs more)) ∧ Fine ps ∧ (∀ p ∈ ps, badAt l.cps.toList 0 p.1.cps.toList = none) ∧ bP size ps [] = some t ∧ (∀ z ∈ more, z.length ≤ 1000 ∧ badAt l.cps.toList 0 z.cps.toList = none) ∧ ∀ H', Q (.bl true) H'
theorem w_law_good (T : Txt P w K mg) : Has P w K mg base 6 "_law_good_turner" (sp_good K) := by
  have S := S_law_good_turner
  have G_turner_call := w_call (base := base) T
  have G_law_due_image := w_law_due_image (base := base) T
  refine has_of (k := 5) T.d_law_good_turner T.gd_law_good_turner S (fun _ _ _ _ _ _ us hl => match us, hl with | [_, _, _, _, _, _, _], _ => rfl) (fun vs H Q E h => ?_) (fun f cdv A outer s H vs Q E hr h => ?_)
  · obtain ⟨D, tv, pvv, mv, l, i, size, t, ta, kvs, ps, more, rfl, _⟩ := h
    rfl
  · obtain ⟨D, tv, pvv, mv, l, im, size, t, ta, kvs, ps, more, rfl, sm, M, hta, hDta, hkv, hty, dp, dm, fine, hbp, hbt, hmore, q⟩ := h
    have M0 := M
    obtain ⟨a, dx, da, kvs2, rfl, ha, hda, hkv2⟩ := M
    have haH := sm _ _ ha
    have hdaH := sm _ _ hda
    have nda : da ≠ ta := fun e => by rw [e, hDta] at hda; cases hda
    have naa : a ≠ ta := fun e => by rw [e, hDta] at ha; cases ha
    have hl1 := hkv.len
    have hl2 := hkv2.len
    refine ⟨_, (pss_cons (ps_if (PW.pt (pw_or (pt_not (pt_val (pe_callB call_isi (by rfl) T.b_isinstance (by decide +kernel) (pa_cons (pv 0) (pa_cons (pe_gC rfl T.g_Turner) pa_nil))))) (pw_or (pt_cmpR (cK_ne K hr.units) (peK_fld K (pv 0) rfl) (pv 1) (nomark _)) (pw_or1 (pt_cmpR (cK_ne K hr.units) (peK_fld K (pv 0) rfl) (pv 2) (nomark _))))))
      (pss_one (ps_ret pe_bl))
      pss_nil)
    (pss_cons (ps_if (PW.pt (pw_or (pt_cmpR (cK_ne K hr.units) (peK_fld K (pv 0) rfl) (pv 3) (nomark _)) (pw_or (pt_not (pt_val (pe_callB call_isi (by rfl) T.b_isinstance (by decide +kernel) (pa_cons (peK_fld K (pv 0) rfl) (pa_cons (pe_gT (T := "dict") (by rfl) T.b_dict (by decide +kernel)) pa_nil))))) (pw_or1 (pt_cmpR (cK_ne K hr.units) (pe_callB call_lenD (by rfl) T.b_len (by decide +kernel) (pa_cons (peK_fld K (pv 0) rfl) pa_nil)) (pe_callB call_lenD (by rfl) T.b_len (by decide +kernel) (pa_cons (pv 4) pa_nil)) (nomark _))))))
      (pss_one (ps_ret pe_bl))
      pss_nil)
    (pss_cons (ps_lock (ps_for (passes_of rfl) rfl (pi_keys (pv 4)) (pg_name (i := 7) S.nd rfl (Or.inl rfl))
      (pss_one (ps_if (PW.pt (pw_or (pt_cmp (pc_dnotin (hu_of hr) (pv 7) (peK_fld K (pv 0) rfl))) (pw_or1 (pt_cmpR (cK_ne K hr.units) (pe_dget (hu_of hr) (peK_fld K (pv 0) rfl) (pv 7) (fun _ _ => rfl)) (pe_dget (hu_of hr) (pv 4) (pv 7) (fun _ _ => rfl)) (nomark _)))))
      (pss_one (ps_ret pe_bl))
      pss_nil))))
    (pss_cons (ps_for (passes_of rfl) rfl (piK_list K (pv 5)) (pg_name (i := 8) S.nd rfl (Or.inl rfl))
      (pss_one (ps_if (pt_cmpR (cK_ne K hr.units) (pe_callO G_turner_call (hr.mono (by decide)) (takes_of rfl rfl rfl rfl) (pv 0) (pa_cons (pe_ix (ixK_seq K) (pv 8) pe_int (fun _ _ => rfl)) pa_nil)) (pe_ix (ixK_seq K) (pv 8) pe_int (fun _ _ => rfl)) (nomark _))
      (pss_one (ps_ret pe_bl))
      pss_nil)))
    (pss_cons (ps_for (passes_of rfl) rfl (piK_list K (pv 6)) (pg_name (i := 9) S.nd rfl (Or.inl rfl))
      (pss_cons (ps_set (i := 10) S.nd rfl (Or.inl rfl) (pe_has G_law_due_image (hr.mono (by decide)) (takes_of rfl rfl rfl rfl) rfl (pa_cons (pv 4) (pa_cons (pv 9) (pa_cons (pv 3) pa_nil)))))
    (pss_cons (ps_set (i := 11) S.nd rfl (Or.inl rfl) (pe_callO G_turner_call (hr.mono (by decide)) (takes_of rfl rfl rfl rfl) (pv 0) (pa_cons (pv 9) pa_nil)))
    (pss_one (ps_if (PW.pt (pw_or (PW.pt (pw_and (pt_cmpR c_is (pv 10) pe_non (nomark _)) (pw_and1 (pt_cmpR c_ns (pv 11) pe_non (nomark _))))) (pw_or1 (PW.pt (pw_and (pt_cmpR c_ns (pv 10) pe_non (nomark _)) (pw_and1 (pt_cmpR (cK_ne K hr.units) (pv 11) (pv 10) (nomark _))))))))
      (pss_one (ps_ret pe_bl))
      pss_nil)))))
    (pss_one (ps_ret pe_bl))))))), ?_⟩
    walk_at "rd"
    refine ⟨.ref a, .ref (ga K "Turner"), .ref (ga K "Turner"), .ref (ga K "Turner"), true, rfl, .own _, .base (.ins haH T.cl_Turner T.o_Turner.ha T.o_Turner.hn T.o_Turner.ht T.o_Turner.hm), T.kit_Turner_Turner, ?_⟩
    walk_at "rd"
    refine ⟨a, _, _, _, _, rfl, haH, T.cl_Turner, T.na_Turner_letters, rfl, ?_⟩
    walk_at "rd"
    refine jtN (fun e => absurd rfl e) (fun _ => ?_)
    walk_at "rd"
    refine ⟨a, _, _, _, _, rfl, haH, T.cl_Turner, T.na_Turner_images, rfl, ?_⟩
    walk_at "rd"
    refine jtN (fun e => absurd rfl e) (fun _ => ?_)
    walk_at "rd"
    refine ⟨a, _, _, _, _, rfl, haH, T.cl_Turner, T.na_Turner_size, rfl, ?_⟩
    walk_at "rd"
    refine jtN (fun e => absurd rfl e) (fun _ => ?_)
    walk_at "rd"
    refine ⟨a, _, _, _, _, rfl, haH, T.cl_Turner, T.na_Turner_table, rfl, ?_⟩
    walk_at "rd"
    refine ⟨.ref da, .ty "dict", .type "dict", .type "dict", true, rfl, .ty _, .base (.dK hdaH), rfl, ?_⟩
    walk_at "rd"
    refine ⟨a, _, _, _, _, rfl, haH, T.cl_Turner, T.na_Turner_table, rfl, ?_⟩
    walk_at "rd"
    refine ⟨da, _, rfl, hdaH, ?_⟩
    walk_at "rd"
    refine ⟨ta, _, rfl, hta, ?_⟩
    walk_at "rd"
    refine jtN (fun e => absurd (by rw [hl1, hl2]) e) (fun _ => ?_)
    walk_at "rd"
    refine ⟨ta, .dK kvs, hta, trivial, fun od => ?_⟩
    have hF : (upd H ta (.frz od (.dK kvs))) ta = some (.frz od (.dK kvs)) := upd_same
    walk_at "rd"
    refine ⟨.ref ta, rfl, ta, od, rfl, .inl ⟨kvs, hF, lp_it walk_keys (fun i σ H' => H' = upd H ta (.frz od (.dK kvs)) ∧ ∃ o7, σ = [some (.ref a), some (.str l), some (.str im), some (.int size), some (.ref ta), some pvv, some mv, o7, none, none, none, none]) ⟨rfl, none, rfl⟩ (fun i σ H' _ ⟨e, _⟩ => by rw [e]; exact hF) ?_ ?_⟩⟩
    · rintro i x σ H1 H2 hi ⟨rfl, o7, rfl⟩ ⟨rfl, k, v, ek, rfl⟩
      obtain ⟨z, y, rfl, hm, rfl⟩ := KvR.nth hkv ek
      obtain ⟨y2, hy2⟩ := getS_in hm
      have haF : (upd H ta (.frz od (.dK kvs))) a = _ := (upd_ne naa).trans haH
      have hdaF : (upd H ta (.frz od (.dK kvs))) da = _ := (upd_ne nda).trans hdaH
      have d1 : DGet (upd H ta (.frz od (.dK kvs))) da (.str z) (some (.str y2)) := by
        rcases dgetS hdaF hkv2 z with ⟨_, h2⟩ | ⟨v, y, h1, h2, rfl⟩
        · rw [h2] at hy2
          cases hy2
        · rw [h2] at hy2
          cases hy2
          exact h1
      have d2 : DGet (upd H ta (.frz od (.dK kvs))) ta (.str z) (some (.str y2)) := by
        rcases hkv.get z with ⟨_, h2⟩ | ⟨v, y, h1, h2, rfl⟩
        · rw [h2] at hy2
          cases hy2
        · rw [h2] at hy2
          cases hy2
          exact .inl ⟨kvs, Sum.inr z, .inr ⟨od, hF⟩, rfl, h1.symm⟩
      walk_at "rd"
      refine ⟨a, _, _, _, _, rfl, haF, T.cl_Turner, T.na_Turner_table, rfl, ?_⟩
      refine ⟨da, _, rfl, d1, ?_⟩
      walk_at "rd"
      refine jtNT ?_
      walk_at "rd"
      refine ⟨a, _, _, _, _, rfl, haF, T.cl_Turner, T.na_Turner_table, rfl, ?_⟩
      walk_at "rd"
      refine ⟨da, _, rfl, d1, ?_⟩
      walk_at "rd"
      refine ⟨ta, _, rfl, d2, ?_⟩
      walk_at "rd"
      refine jtN (fun e => absurd rfl e) (fun _ => ?_)
      walk_at "rd"
      exact ⟨rfl, _, rfl⟩
    · rintro σ H1 ⟨rfl, o7, rfl⟩
      refine ⟨hF, ?_⟩
      rw [upd_upd, show upd H ta (.dK kvs) = H by
        funext b
        by_cases hb : b = ta
        · rw [hb, upd_same, hta]
        · rw [upd_ne hb]]
      obtain ⟨pa, xs, rfl, hpa, hxs⟩ := dp_list dp
      obtain ⟨ma, rfl, hma⟩ := dp_S dm
      walk_at "rd"
      refine ⟨pa, rfl, ⟨_, sm.seq hpa⟩, lp_it walk_list (fun i σ H' => ∃ D' o7 o8, Gr No D H D' H' ∧ H' ta = some (.dK kvs) ∧ σ = [some (.ref a), some (.str l), some (.str im), some (.int size), some (.ref ta), some (.ref pa), some (.ref ma), o7, o8, none, none, none]) ⟨D, _, none, Gr.refl sm, hta, rfl⟩ (fun i σ H' _ ⟨_, _, _, g, _⟩ => sql_up g hpa) ?_ ?_⟩
      · rintro i x σ H2 H3 hi ⟨D2, o7, o8, g, hta2, rfl⟩ ⟨rfl, ex⟩
        obtain ⟨d, hd, hx2⟩ := dpl_get hxs ex
        rw [List.getElem?_map] at hd
        obtain ⟨p, hp, rfl⟩ := Option.map_eq_some_iff.mp hd
        obtain ⟨b, rfl, hb⟩ := dP_get hx2
        have hmem := List.mem_of_getElem? hp
        have hbH := sqt_up g hb
        walk_at "rd"
        refine ⟨a, _, _, rfl, g.same' _ _ ha, ?_⟩
        walk_at "rd"
        refine s_ix_t hbH atI_0 ?_
        walk_at "rd"
        refine ⟨g.same' _ _ ha, D2, .ref a, l, im, size, t, p.1, rfl, (fine.len p hmem).1, g.sub, M0.up g.dd, hty, fun _ D4 H4 g4 => ?_, fun k e => by rw [hbp p hmem] at e; cases e⟩
        rw [img_back (fine.eq p hmem) (bP_has hbt p hmem) (Nat.add_zero _) rfl]
        have g5 := g.trans g4
        walk_at "rd"
        refine s_ix_t (sqt_up g5 hb) (atI_i (j := 1) rfl rfl) ?_
        walk_at "rd"
        refine jtN (fun e => absurd rfl e) (fun _ => ?_)
        walk_at "rd"
        exact ⟨D4, _, _, g5, g4.same _ _ (fun z => z) hta2, rfl⟩
      · rintro σ H2 ⟨D2, o7, o8, g, hta2, rfl⟩
        walk_at "rd"
        refine ⟨ma, rfl, ⟨_, sql_up g hma⟩, lp_it walk_list (fun i σ H' => ∃ D' o9 o10 o11, Gr No D H D' H' ∧ H' ta = some (.dK kvs) ∧ σ = [some (.ref a), some (.str l), some (.str im), some (.int size), some (.ref ta), some (.ref pa), some (.ref ma), o7, o8, o9, o10, o11]) ⟨D2, none, none, none, g, hta2, rfl⟩ (fun i σ H' _ ⟨_, _, _, _, g, _⟩ => sql_up g hma) ?_ ?_⟩
        · rintro i x σ H3 H4 hi ⟨D3, o9, o10, o11, g3, hta3, rfl⟩ ⟨rfl, ex⟩
          rw [List.getElem?_map] at ex
          obtain ⟨z, hz, rfl⟩ := Option.map_eq_some_iff.mp ex
          obtain ⟨hz1, hz2⟩ := hmore z (List.mem_of_getElem? hz)
          walk_at "rd"
          refine ⟨ta, kvs, t, z, size, rfl, hz1, hta3, hkv, hty, ?_⟩
          walk_at "rd"
          refine ⟨a, _, _, rfl, g3.same' _ _ ha, ?_⟩
          walk_at "rd"
          refine ⟨g3.same' _ _ ha, D3, .ref a, l, im, size, t, z, rfl, hz1, g3.sub, M0.up g3.dd, hty, fun _ D4 H5 g4 => ?_, fun k e => by rw [hz2] at e; cases e⟩
          have g5 := g3.trans g4
          have hta5 := g4.same _ _ (fun z => z) hta3
          cases himg : imgM t z size z.length 0 "" with
          | none =>
            dsimp only
            walk_at "rd"
            refine jtD (fun _ => ?_) (fun e => absurd rfl e)
            walk_at "rd"
            refine jtN (fun e => absurd rfl e) (fun _ => ?_)
            walk_at "rd"
            refine jtN (fun e => absurd rfl e) (fun _ => ?_)
            walk_at "rd"
            exact ⟨D4, _, _, _, g5, hta5, rfl⟩
          | some y =>
            dsimp only
            walk_at "rd"
            refine jtD (fun e => nomatch e) (fun _ => ?_)
            walk_at "rd"
            refine jtN (fun _ => ?_) (fun e => nomatch e)
            walk_at "rd"
            refine jtN (fun e => absurd rfl e) (fun _ => ?_)
            walk_at "rd"
            exact ⟨D4, _, _, _, g5, hta5, rfl⟩
        · rintro σ H3 ⟨D3, o9, o10, o11, g3, hta3, rfl⟩
          walk_at "rd"
          exact q H3
end
end H87

namespace H87
open PySem PySem.Spec L2 He Y Hk87
local macro_rules | `(tactic| walk_at "rd1") => `(tactic| first
  | with_reducible refine s_seq ?_
  | with_reducible refine s_asg ?_
  | with_reducible refine s_gname ?_
  | ((with_reducible refine s_var (v := ?_) ?_ ?_); rotate_left; exact rfl)
  | with_reducible refine s_c ?_
  | with_reducible refine s_op ?_
  | with_reducible refine s_un ?_
  | with_reducible refine s_nil ?_
  | with_reducible refine s_cons ?_
  | with_reducible refine s_CB ?_
  | with_reducible refine s_ifS ?_
  | with_reducible refine s_test ?_
  | with_reducible refine s_B ?_
  | with_reducible refine s_xb ?_
  | with_reducible refine s_xi ?_
  | with_reducible refine s_xs ?_
  | with_reducible refine s_or ?_
  | with_reducible refine s_and ?_
  | with_reducible refine s_not ?_
  | with_reducible refine s_orV ?_
  | with_reducible refine s_andV ?_
  | with_reducible refine s_notV ?_
  | with_reducible refine s_ret ?_
  | with_reducible refine s_retN ?_
  | with_reducible refine s_next ?_
  | with_reducible refine s_drop ?_
  | with_reducible refine s_yes ?_
  | with_reducible refine s_for ?_
  | with_reducible refine s_lc ?_
  | with_reducible refine s_iStr ?_
  | with_reducible refine s_iList ?_
  | with_reducible refine s_iTup ?_
  | with_reducible refine s_iR1 ?_
  | with_reducible refine s_iR2 ?_
  | with_reducible refine s_iE ?_
  | with_reducible refine s_iET ?_
  | with_reducible refine s_iES ?_
  | with_reducible refine s_tup ?_
  | with_reducible refine s_lst ?_
  | with_reducible refine s_BM ?_
  | with_reducible refine s_BM0 ?_
  | with_reducible refine s_BMS ?_
  | with_reducible refine s_M1 ?_
  | with_reducible refine s_sl ?_
  | with_reducible refine s_noP ?_
  | with_reducible refine s_po ?_
  | with_reducible refine s_call ?_
  | with_reducible refine s_callS ?_
  | with_reducible refine s_make ?_
  | with_reducible refine s_makeS ?_
  | with_reducible refine s_methS ?_
  | with_reducible refine s_callO ?_
  | with_reducible refine s_dnew ?_
  | with_reducible refine s_dget ?_
  | with_reducible refine s_din ?_
  | with_reducible refine s_dnin ?_
  | with_reducible refine s_dput ?_
  | with_reducible refine s_dsetd ?_
  | with_reducible refine s_dget2 ?_
  | with_reducible refine s_fld ?_
  | with_reducible refine s_sFld ?_
  | with_reducible refine s_rz ?_
  | with_reducible refine s_asgS ?_
  | with_reducible refine s_gSub ?_
  | with_reducible refine s_ifE ?_
  | with_reducible refine s_add_i ?_
  | with_reducible refine s_sub ?_
  | with_reducible refine s_neg ?_
  | with_reducible refine s_eq_i ?_
  | with_reducible refine s_eq_s ?_
  | with_reducible refine s_ne_i ?_
  | with_reducible refine s_ne_s ?_
  | with_reducible refine s_lt_i ?_
  | with_reducible refine s_le_i ?_
  | with_reducible refine s_gt_i ?_
  | with_reducible refine s_ge_i ?_
  | with_reducible refine s_lt_s ?_
  | with_reducible refine s_le_s ?_
  | with_reducible refine s_gt_s ?_
  | with_reducible refine s_ge_s ?_
  | with_reducible refine s_in_c ?_
  | with_reducible refine s_ni_c ?_
  | with_reducible refine s_isN ?_
  | with_reducible refine s_noN ?_
  | with_reducible refine s_abs ?_
  | with_reducible refine s_min2 ?_
  | with_reducible refine s_max2 ?_
  | with_reducible refine s_int_i ?_
  | ((with_reducible refine s_len_s ?_ ?_); assumption)
  | ((with_reducible refine s_len_l (xs := ?_) ?_ ?_); rotate_left; assumption)
  | ((with_reducible refine s_len_t (xs := ?_) ?_ ?_); rotate_left; assumption)
  | with_reducible refine s_pair upd_same ?_
  | with_reducible refine s_callS ?_
  | with_reducible refine jtT ?_
  | with_reducible refine jtF ?_
  | with_reducible refine jtNT ?_
  | with_reducible refine jtNF ?_
  | dsimp only)
local macro_rules | `(tactic| walk_at "rd") => `(tactic| repeat (walk_at "rd1"))

/-- of no sign beyond the codes -/
def Okc (z : Str) : Prop := ∀ c ∈ z.cps.toList, c < 0x110000
theorem Okc.app {a b : Str} (ha : Okc a) (hb : Okc b) : Okc (a ++ b) := fun c hc => by
  have hc : c ∈ TL.tl (a ++ b) := hc
  rw [TL.tl_append] at hc
  rcases List.mem_append.mp hc with h | h
  · exact ha c h
  · exact hb c h
theorem Okc.cut {a : Str} (ha : Okc a) (lo hi : Option Int) : Okc (cutS a lo hi) := fun c hc => ha c (List.mem_of_mem_drop (List.mem_of_mem_take hc))
theorem Okc.chr {a : Str} (ha : Okc a) {i : Nat} (h : i < a.cps.toList.length) : Okc ⟨#[a.cps.toList[i]]⟩ := fun c hc => by
  have : c = a.cps.toList[i] := List.mem_singleton.mp hc
  rw [this]
  exact ha _ (List.getElem_mem h)
structure Pok (B : Nat) (p : Pr) : Prop where
  l1 : p.1.length ≤ B
  l2 : p.2.length ≤ B
  o1 : Okc p.1
  o2 : Okc p.2
section
variable {P : Program} {w : World} {K : PySem.W.Frag} {mg : Str → Option Value} {base : Heap}
theorem dpl_set {D : Hp} : ∀ {xs : List V} {ds : List PyData} {i : Nat} {v : V} {d : PyData}, DpAll K D xs ds → Dp K D v d → DpAll K D (xs.set i v) (ds.set i d)
  | _, _, i, v, d, .nil, h => .nil
  | _, _, 0, v, d, .cons _ hr, h => .cons h hr
  | _, _, i + 1, v, d, .cons h1 hr, h => .cons h1 (dpl_set hr h)
theorem S_law_spoil : FnScope ["state", "pairs", "letters", "images", "at", "word", "image", "choice", "where", "sign"] ["state", "pairs", "letters", "images"] (d_law_spoil).scope := ⟨rfl, rfl, rfl, by decide +kernel, rfl, by decide +kernel, by decide +kernel⟩
def sp_spoil (K : PySem.W.Frag) : Sp := fun vs H Q E => ∃ (D : Hp) (st pa : Addr) (xs : List V) (ps : List Pr) (l im : Str) (B : Nat), vs = [.ref st, .ref pa, .str l, .str im] ∧ Same D H ∧ Stt K D H st ∧ pa ≠ st ∧ D pa = none ∧ H pa = some (.lst xs) ∧ DpAll K D xs (ps.map dP) ∧ 1 ≤ ps.length ∧ ps.length ≤ 1000 ∧ (∀ p ∈ ps, Pok B p) ∧ B ≤ 400 ∧
  1 ≤ im.length ∧ im.length ≤ 10 ∧ Okc im ∧ ∀ (D' H' : Hp) (xs' : List V) (ps' : List Pr) (r : Int), Gr (fun b => b = st ∨ b = pa) D H D' H' → Stt K D' H' st → D' pa = none → H' pa = some (.lst xs') → DpAll K D' xs' (ps'.map dP) → ps'.length = ps.length → (∀ p ∈ ps', Pok (2 * B + 1) p) → Q (.int r) H'
theorem w_law_spoil (T : Txt P w K mg) : Has P w K mg base 4 "_law_spoil" (sp_spoil K) := by
  have S := S_law_spoil
  have G_law_next := w_law_next (base := base) T
  refine has_of (k := 3) T.d_law_spoil T.gd_law_spoil S (fun _ _ _ _ _ _ us hl => match us, hl with | [_, _, _, _], _ => rfl) (fun vs H Q E h => ?_) (fun f cdv A outer s H vs Q E hr h => ?_)
  · obtain ⟨D, st, pa, xs, ps, l, im, B, rfl, _⟩ := h
    rfl
  · obtain ⟨D, st, pa, xs, ps, l, im, B, rfl, sm, X, hps, hDp, hHp, hxs, hl1, hl2, hok, hB, hi1, hi2, hio, q⟩ := h
    have hxl : xs.length = ps.length := by rw [dpl_len hxs, List.length_map]
    refine ⟨_, (pss_cons (ps_set (i := 4) S.nd rfl (Or.inl rfl) (pe_has G_law_next (hr.mono (by decide)) (takes_of rfl rfl rfl rfl) rfl (pa_cons (pv 0) (pa_cons (pe_callB (bK_len K) (by rfl) T.b_len (by decide +kernel) (pa_cons (pv 1) pa_nil)) pa_nil))))
    (pss_cons (ps_set (i := 5) S.nd rfl (Or.inl rfl) (pe_ix (ixK_seq K) (pe_ix (ixK_seq K) (pv 1) (pv 4) (fun _ _ => rfl)) pe_int (fun _ _ => rfl)))
    (pss_cons (ps_set (i := 6) S.nd rfl (Or.inl rfl) (pe_ix (ixK_seq K) (pe_ix (ixK_seq K) (pv 1) (pv 4) (fun _ _ => rfl)) pe_int (fun _ _ => rfl)))
    (pss_cons (ps_set (i := 7) S.nd rfl (Or.inl rfl) (pe_has G_law_next (hr.mono (by decide)) (takes_of rfl rfl rfl rfl) rfl (pa_cons (pv 0) (pa_cons pe_int pa_nil))))
    (pss_cons (ps_set (i := 8) S.nd rfl (Or.inl rfl) (pe_has G_law_next (hr.mono (by decide)) (takes_of rfl rfl rfl rfl) rfl (pa_cons (pv 0) (pa_cons (pe_op (oK_add K) (pe_callB (bK_len K) (by rfl) T.b_len (by decide +kernel) (pa_cons (pv 5) pa_nil)) pe_int) pa_nil))))
    (pss_cons (ps_set (i := 9) S.nd rfl (Or.inl rfl) (pe_ix (ixK_seq K) (pe_lst (pa_cons pe_str (pa_cons pe_str (pa_cons pe_str (pa_cons pe_str pa_nil))))) (pe_has G_law_next (hr.mono (by decide)) (takes_of rfl rfl rfl rfl) rfl (pa_cons (pv 0) (pa_cons pe_int pa_nil))) (fun _ _ => rfl)))
    (pss_cons (ps_if (pt_cmpR (cK_eq K hr.units) (pv 7) pe_int (nomark _))
      (pss_one (ps_asg (pe_tup (pa_cons (pv 5) (pa_cons (pe_op (oK_add K) (pv 6) (pe_ix (ixK_seq K) (pv 3) pe_int (fun _ _ => rfl))) pa_nil))) (pg_sub (pv 1) (pv 4) set_list)))
      (pss_one (ps_if (pt_cmpR (cK_eq K hr.units) (pv 7) pe_int (nomark _))
      (pss_one (ps_asg (pe_tup (pa_cons (pe_op (oK_add K) (pe_op (oK_add K) (pe_slice (slK_any K) (pv 5) po_none (po_some (pv 8))) (pv 9)) (pe_slice (slK_any K) (pv 5) (po_some (pv 8)) po_none)) (pa_cons (pe_op (oK_add K) (pv 6) (pe_ix (ixK_seq K) (pv 3) pe_int (fun _ _ => rfl))) pa_nil))) (pg_sub (pv 1) (pv 4) set_list)))
      (pss_one (ps_asg (pe_tup (pa_cons (pv 5) (pa_cons (pe_op (oK_add K) (pe_op (oK_add K) (pe_slice (slK_any K) (pv 6) po_none (po_some (pv 8))) (pv 9)) (pe_slice (slK_any K) (pv 6) (po_some (pe_op (oK_add K) (pv 8) pe_int)) po_none)) pa_nil))) (pg_sub (pv 1) (pv 4) set_list))))))
    (pss_one (ps_ret (pv 4)))))))))), ?_⟩
    have hS : SqL K H pa xs := sql hHp
    walk_at "rd"
    refine ⟨D, st, _, rfl, by omega, by omega, sm, X, fun D1 H1 r g1 X1 r0 r1 => ?_⟩
    have hr : r.toNat < ps.length := by omega
    have hp1 := g1.same pa _ hps hHp
    have hD1 := g1.stay hDp hHp
    have hxs1 := Y.Dp.monoAll g1.dd hxs
    obtain ⟨b0, hb0, db0⟩ := dpl_getR hxs1 (d := dP ps[r.toNat]) (i := r.toNat) (by rw [List.getElem?_map, List.getElem?_eq_getElem hr]; rfl)
    obtain ⟨b, rfl, hb⟩ := dP_get db0
    have hpk := hok ps[r.toNat] (List.getElem_mem hr)
    generalize ep : ps[r.toNat] = p at *
    have hl1' := le1000 (Nat.le_trans hpk.l1 (by omega) : p.1.length ≤ 1000)
    have hl2' := le1000 (Nat.le_trans hpk.l2 (by omega) : p.2.length ≤ 1000)
    have k1 := hpk.l1
    have k2 := hpk.l2
    walk_at "rd"
    refine s_ix_l (sql hp1) (atI_i (j := r.toNat) (by omega) hb0) ?_
    walk_at "rd"
    refine s_ix_t (same_seqT g1.sub hb) atI_0 ?_
    walk_at "rd"
    refine s_ix_l (sql hp1) (atI_i (j := r.toNat) (by omega) hb0) ?_
    walk_at "rd"
    refine s_ix_t (same_seqT g1.sub hb) (atI_i (j := 1) rfl rfl) ?_
    walk_at "rd"
    refine ⟨D1, st, _, rfl, by decide, by decide, g1.sub, X1, fun D2 H2 ch g2 X2 c0 c1 => ?_⟩
    walk_at "rd"
    refine ⟨D2, st, _, rfl, by omega, by omega, g2.sub, X2, fun D3 H3 wh g3 X3 w0 w1 => ?_⟩
    walk_at "rd"
    refine ⟨le1000 (by simp), fun sl nsl => ?_⟩
    have nss : sl ≠ st := fun e => X3.is (e ▸ nsl)
    have gl := ((Gr.refl (m := (· = st)) g3.sub).lay (o := .lst [.str "?", .str "A", .str " ", .str "0"]) nsl)
    walk_at "rd"
    refine ⟨D3, st, _, rfl, by decide, by decide, gl.sub, X3.put nss, fun D4 H4 sg g4 X4 s0 s1 => ?_⟩
    obtain ⟨sign, es, ls, os⟩ : ∃ z : Str, atI [V.str "?", .str "A", .str " ", .str "0"] sg = some (.str z) ∧ z.length = 1 ∧ Okc z := by
      have hr : sg = 0 ∨ sg = 1 ∨ sg = 2 ∨ sg = 3 := by omega
      rcases hr with rfl | rfl | rfl | rfl <;> exact ⟨_, rfl, rfl, by unfold Okc; decide⟩
    refine s_ix_l (sql (g4.same sl _ nss upd_same)) es ?_
    have gA := (((g1.trans g2).trans g3).trans gl).trans g4
    have hp4 := ((((g2.trans g3).trans gl).trans g4).same pa _ hps hp1)
    have hD4 := (((g2.trans g3).trans gl).trans g4).stay hD1 hp1
    have hxs4 := Y.Dp.monoAll (((g2.trans g3).trans gl).trans g4).dd hxs1
    have i0 : 0 < im.cps.toList.length := by rw [len_list]; omega
    have one : (⟨#[im.cps.toList[0]]⟩ : Str).length = 1 := rfl
    have himl := le1000 (Nat.le_trans hi2 (by decide) : im.length ≤ 1000)
    have fin : ∀ (c : Addr) (p' : Pr), H4 c = none → Pok (2 * B + 1) p' → Q (.int r) (upd (upd H4 c (.tup [.str p'.1, .str p'.2])) pa (.lst (xs.set r.toNat (.ref c)))) := by
      intro c p' nc hp'
      have gB := (gA.weak (m' := fun b => b = st ∨ b = pa) fun b e => .inl e).ice (o := .tup [.str p'.1, .str p'.2]) nc
      have ncp : pa ≠ c := fun e => by rw [← e, hp4] at nc; cases nc
      have ncs : c ≠ st := fun e => X4.is (e ▸ nc)
      have hDc : (upd D4 c (.tup [.str p'.1, .str p'.2])) pa = none := (upd_ne ncp).trans hD4
      have sN := same_new (o := .tup [.str p'.1, .str p'.2]) ((Gr.refl (m := No) g4.sub).free nc)
      refine q _ _ _ (ps.set r.toNat p') r (gB.put hDc (.inr (.inr rfl))) (((X4.put ncs).frz ncs ((Gr.refl (m := No) g4.sub).free nc)).put hps) hDc upd_same ?_ (List.length_set ..) ?_
      · rw [List.map_set]
        exact dpl_set (Y.Dp.monoAll sN hxs4) (.tup (sqt upd_same) (dpl_of_strs (zs := [p'.1, p'.2])))
      · intro x hx
        rcases List.mem_or_eq_of_mem_set hx with h | h
        · have := hok x h
          exact ⟨by have := this.l1; omega, by have := this.l2; omega, this.o1, this.o2⟩
        · rw [h]
          exact hp'
    have ixr : ∀ c : Addr, ixN xs.length r = some r.toNat := fun c => by
      unfold ixN
      rw [if_pos r0, if_pos (by omega)]
    have cl := cutS_length
    have put : ∀ (c : Addr) (o : HO), H4 c = none → (upd H4 c o) pa = some (.lst xs) := fun c o nc => by
      have : pa ≠ c := fun e => by rw [← e, hp4] at nc; cases nc
      exact (upd_ne this).trans hp4
    have iim : ∀ (H : Hp) (Q : VK), Q (.str ⟨#[im.cps.toList[0]]⟩) H → rIx K (.str im) (.int 0) H Q := fun H Q k => s_ix_s himl (atI_i (j := 0) rfl (List.getElem?_eq_getElem i0)) k
    have oim : Okc ⟨#[im.cps.toList[0]]⟩ := hio.chr i0
    walk_at "rd"
    refine jtD (fun e => ?_) (fun e => ?_)
    · walk_at "rd"
      refine iim _ _ ?_
      refine s_add_s (leBig (by rw [one]; omega)) ?_
      walk_at "rd"
      refine ⟨le1000 (by simp), fun c nc => ?_⟩
      walk_at "rd"
      refine s_setL (put c _ nc) (ixr c) ?_
      walk_at "rd"
      exact fin c (p.1, p.2 ++ ⟨#[im.cps.toList[0]]⟩) nc ⟨by show p.1.length ≤ _; omega, by show (p.2 ++ _).length ≤ _; rw [app_len, one]; omega, hpk.o1, hpk.o2.app oim⟩
    · walk_at "rd"
      refine jtD (fun e => ?_) (fun e => ?_)
      · have c1 := cl p.1 none (some wh)
        have c2 := cl p.1 (some wh) none
        walk_at "rd"
        refine s_sl_s hl1' ?_
        walk_at "rd"
        refine s_add_s (leBig (by omega)) ?_
        walk_at "rd"
        refine s_sl_s hl1' ?_
        refine s_add_s (leBig (by rw [app_len]; omega)) ?_
        walk_at "rd"
        refine iim _ _ ?_
        refine s_add_s (leBig (by rw [one]; omega)) ?_
        walk_at "rd"
        refine ⟨le1000 (by simp), fun c nc => ?_⟩
        walk_at "rd"
        refine s_setL (put c _ nc) (ixr c) ?_
        walk_at "rd"
        exact fin c (cutS p.1 none (some wh) ++ sign ++ cutS p.1 (some wh) none, p.2 ++ ⟨#[im.cps.toList[0]]⟩) nc ⟨by rw [app_len, app_len]; omega, by rw [app_len, one]; omega, ((hpk.o1.cut _ _).app os).app (hpk.o1.cut _ _), hpk.o2.app oim⟩
      · have c1 := cl p.2 none (some wh)
        have c2 := cl p.2 (some (wh + 1)) none
        walk_at "rd"
        refine s_sl_s hl2' ?_
        walk_at "rd"
        refine s_add_s (leBig (by omega)) ?_
        walk_at "rd"
        refine s_sl_s hl2' ?_
        refine s_add_s (leBig (by rw [app_len]; omega)) ?_
        walk_at "rd"
        refine ⟨le1000 (by simp), fun c nc => ?_⟩
        walk_at "rd"
        refine s_setL (put c _ nc) (ixr c) ?_
        walk_at "rd"
        exact fin c (p.1, cutS p.2 none (some wh) ++ sign ++ cutS p.2 (some (wh + 1)) none) nc ⟨by show p.1.length ≤ _; omega, by show (cutS p.2 none (some wh) ++ sign ++ cutS p.2 (some (wh + 1)) none : Str).length ≤ _; rw [app_len, app_len]; omega, hpk.o1, ((hpk.o2.cut _ _).app os).app (hpk.o2.cut _ _)⟩
theorem S_law_first_bad : FnScope ["pairs", "letters", "images", "k", "side", "at"] ["pairs", "letters", "images"] (d_law_first_bad).scope := ⟨rfl, rfl, rfl, by decide +kernel, rfl, by decide +kernel, by decide +kernel⟩
/-- what the law tells of the first bad pair -/
def BadV (K : PySem.W.Frag) (D : Hp) (u : V) : Bad → Prop
  | .word s k => Dp K D u (.tuple [.str "word", .str s, .int (k : Nat)])
  | .text n => Dp K D u (.tuple [.str "text", .int (n : Nat), .int 0])
def sp_first_bad (K : PySem.W.Frag) : Sp := fun vs H Q E => ∃ (D : Hp) (v : V) (ps : List Pr) (l im : Str), vs = [v, .str l, .str im] ∧ Same D H ∧ Dp K D v (dPs ps) ∧ Short ps ∧ (badP l im 0 ps = none → ∀ D' H', Gr No D H D' H' → Q .non H') ∧
  (∀ b, badP l im 0 ps = some b → ∀ D' H' u, Gr No D H D' H' → BadV K D' u b → Q u H')
/-- one side of a pair -/
def side (p : Pr) : Nat → Str
  | 0 => p.1
  | _ => p.2
def ltr (l im : Str) : Nat → Str
  | 0 => l
  | _ => im
theorem w_law_first_bad (T : Txt P w K mg) : Has P w K mg base 3 "_law_first_bad" (sp_first_bad K) := by
  have S := S_law_first_bad
  refine has_of (k := 2) T.d_law_first_bad T.gd_law_first_bad S (fun _ _ _ _ _ _ us hl => match us, hl with | [_, _, _], _ => rfl) (fun vs H Q E h => ?_) (fun f cdv A outer s H vs Q E hr h => ?_)
  · obtain ⟨D, v, ps, l, im, rfl, _⟩ := h
    rfl
  · obtain ⟨D, v, ps, l, im, rfl, sm, dv, hsh, q1, q2⟩ := h
    obtain ⟨a, xs, rfl, ha, hxs⟩ := dp_list dv
    have hxl : xs.length = ps.length := by rw [dpl_len hxs, List.length_map]
    have hfew := hsh.few
    refine ⟨_, (pss_cons (ps_for (passes_of rfl) rfl (pi_range1 (by rfl) T.b_range (pa_cons (pe_callB (bK_len K) (by rfl) T.b_len (by decide +kernel) (pa_cons (pv 0) pa_nil)) pa_nil)) (pg_name (i := 3) S.nd rfl (Or.inl rfl))
      (pss_cons (ps_for (passes_of rfl) rfl (pi_range1 (by rfl) T.b_range (pa_cons pe_int pa_nil)) (pg_name (i := 4) S.nd rfl (Or.inl rfl))
      (pss_one (ps_for (passes_of rfl) rfl (pi_range1 (by rfl) T.b_range (pa_cons (pe_callB (bK_len K) (by rfl) T.b_len (by decide +kernel) (pa_cons (pe_ix (ixK_seq K) (pe_ix (ixK_seq K) (pv 0) (pv 3) (fun _ _ => rfl)) (pv 4) (fun _ _ => rfl)) pa_nil)) pa_nil)) (pg_name (i := 5) S.nd rfl (Or.inl rfl))
      (pss_one (ps_if (pt_cmpR (cK_ni K) (pe_ix (ixK_seq K) (pe_ix (ixK_seq K) (pe_ix (ixK_seq K) (pv 0) (pv 3) (fun _ _ => rfl)) (pv 4) (fun _ _ => rfl)) (pv 5) (fun _ _ => rfl)) (pe_ix (ixK_seq K) (pe_lst (pa_cons (pv 1) (pa_cons (pv 2) pa_nil))) (pv 4) (fun _ _ => rfl)) rfl)
      (pss_one (ps_ret (pe_tup (pa_cons pe_str (pa_cons (pe_ix (ixK_seq K) (pe_ix (ixK_seq K) (pv 0) (pv 3) (fun _ _ => rfl)) (pv 4) (fun _ _ => rfl)) (pa_cons (pv 5) pa_nil))))))
      pss_nil)))))
    (pss_one (ps_if (pt_cmpR (cK_ne K hr.units) (pe_callB (bK_len K) (by rfl) T.b_len (by decide +kernel) (pa_cons (pe_ix (ixK_seq K) (pe_ix (ixK_seq K) (pv 0) (pv 3) (fun _ _ => rfl)) pe_int (fun _ _ => rfl)) pa_nil)) (pe_callB (bK_len K) (by rfl) T.b_len (by decide +kernel) (pa_cons (pe_ix (ixK_seq K) (pe_ix (ixK_seq K) (pv 0) (pv 3) (fun _ _ => rfl)) pe_int (fun _ _ => rfl)) pa_nil)) (nomark _))
      (pss_one (ps_ret (pe_tup (pa_cons pe_str (pa_cons (pv 3) (pa_cons pe_int pa_nil))))))
      pss_nil))))
    (pss_one (ps_ret pe_non))), ?_⟩
    have haH := sm.seq ha
    walk_at "rd"
    refine ⟨_, rfl, by omega, by omega, lp_it walk_r0 (fun i σ H' => ∃ D' o3 o4 o5, Gr No D H D' H' ∧ σ = [some (.ref a), some (.str l), some (.str im), o3, o4, o5] ∧ badP l im i (ps.drop i) = badP l im 0 ps) ⟨D, none, none, none, Gr.refl sm, rfl, rfl⟩ (fun _ _ _ _ _ => trivial) ?_ ?_⟩
    · rintro i x σ H1 H2 hi ⟨D1, o3, o4, o5, g, rfl, en⟩ ⟨rfl, rfl⟩
      have hi1 : i < ps.length := by omega
      obtain ⟨b0, hb0, db0⟩ := dpl_getR hxs (d := dP ps[i]) (i := i) (by rw [List.getElem?_map, List.getElem?_eq_getElem hi1]; rfl)
      obtain ⟨b, rfl, hb⟩ := dP_get db0
      rw [List.drop_eq_getElem_cons hi1, badP_cons] at en
      have hlen := hsh.len ps[i] (List.getElem_mem hi1)
      generalize ep : ps[i] = p at *
      have hl1 := le1000 hlen.1
      have hl2 := le1000 hlen.2
      have sl : ∀ k, (side p k).length ≤ 1000 := fun k => by
        match k with
        | 0 => exact hlen.1
        | k + 1 => exact hlen.2
      have sidx : ∀ k : Nat, k < 2 → atI [V.str p.1, V.str p.2] (k : Int) = some (.str (side p k)) := fun k hk => by
        have : k = 0 ∨ k = 1 := by omega
        rcases this with rfl | rfl <;> rfl
      have lidx : ∀ k : Nat, k < 2 → atI [V.str l, V.str im] (k : Int) = some (.str (ltr l im k)) := fun k hk => by
        have : k = 0 ∨ k = 1 := by omega
        rcases this with rfl | rfl <;> rfl
      walk_at "rd"
      refine ⟨_, rfl, by decide, by decide, lp_it walk_r0 (n := 2) (fun k σ H' => ∃ D' o4 o5, Gr No D H D' H' ∧ σ = [some (.ref a), some (.str l), some (.str im), some (.int (i : Nat)), o4, o5] ∧ ∀ m, m < k → badAt (ltr l im m).cps.toList 0 (side p m).cps.toList = none) ⟨D1, _, _, g, rfl, fun m hm => absurd hm (Nat.not_lt_zero m)⟩ (fun _ _ _ _ _ => trivial) ?_ ?_⟩
      · rintro k x σ H3 H4 hk ⟨D3, o4, o5, g3, rfl, hm⟩ ⟨rfl, rfl⟩
        have hsz := le1000 (sl k)
        have hbad : ∀ j, badAt (ltr l im k).cps.toList 0 (side p k).cps.toList = some j → badP l im 0 ps = some (.word (side p k) j) := by
          intro j hj
          have : k = 0 ∨ k = 1 := by omega
          rcases this with rfl | rfl
          · have hj : badAt l.cps.toList 0 p.1.cps.toList = some j := hj
            rw [hj] at en
            exact en.symm
          · have h0 : badAt l.cps.toList 0 p.1.cps.toList = none := hm 0 (by omega)
            have hj : badAt im.cps.toList 0 p.2.cps.toList = some j := hj
            rw [h0] at en
            dsimp only at en
            rw [hj] at en
            exact en.symm
        walk_at "rd"
        refine s_ix_l (sql_up g3 ha) (atI_nat hb0) ?_
        walk_at "rd"
        refine s_ix_t (sqt_up g3 hb) (sidx k hk) ?_
        walk_at "rd"
        have sk := sl k
        refine ⟨_, rfl, by omega, by omega, lp_it walk_r0 (fun j σ H' => ∃ D' o5, Gr No D H D' H' ∧ σ = [some (.ref a), some (.str l), some (.str im), some (.int (i : Nat)), some (.int (k : Nat)), o5] ∧ badAt (ltr l im k).cps.toList j ((side p k).cps.toList.drop j) = badAt (ltr l im k).cps.toList 0 (side p k).cps.toList) ⟨D3, _, g3, rfl, rfl⟩ (fun _ _ _ _ _ => trivial) ?_ ?_⟩
        · rintro j x σ H5 H6 hj ⟨D5, o5, g5, rfl, eb⟩ ⟨rfl, rfl⟩
          have hj1 : j < (side p k).cps.toList.length := by rw [len_list]; omega
          rw [List.drop_eq_getElem_cons hj1] at eb
          have eb' : (if (side p k).cps.toList[j] ∈ (ltr l im k).cps.toList then badAt (ltr l im k).cps.toList (j + 1) ((side p k).cps.toList.drop (j + 1)) else some j) = badAt (ltr l im k).cps.toList 0 (side p k).cps.toList := eb
          walk_at "rd"
          refine s_ix_l (sql_up g5 ha) (atI_nat hb0) ?_
          walk_at "rd"
          refine s_ix_t (sqt_up g5 hb) (sidx k hk) ?_
          walk_at "rd"
          refine s_ix_s hsz (atI_nat (List.getElem?_eq_getElem hj1)) ?_
          walk_at "rd"
          refine ⟨le1000 (by simp), fun c nc => ?_⟩
          have g6 := g5.lay (o := .lst [.str l, .str im]) nc
          walk_at "rd"
          refine s_ix_l (sql upd_same) (lidx k hk) ?_
          walk_at "rd"
          refine jtN (fun e => ?_) (fun e => ?_)
          · rw [if_neg e] at eb'
            walk_at "rd"
            refine s_ix_l (sql_up g6 ha) (atI_nat hb0) ?_
            walk_at "rd"
            refine s_ix_t (sqt_up g6 hb) (sidx k hk) ?_
            walk_at "rd"
            refine ⟨le1000 (by simp), fun c2 nc2 => ?_⟩
            exact q2 _ (hbad j eb'.symm) _ _ _ (g6.ice nc2) (.tup (sqt upd_same) (.cons (.str _) (.cons (.str _) (.cons (.int _) .nil))))
          · rw [if_pos e] at eb'
            walk_at "rd"
            exact ⟨D5, _, g6, rfl, eb'⟩
        · rintro σ H5 ⟨D5, o5, g5, rfl, eb⟩
          rw [show (((side p k).length : Int)).toNat = (side p k).length from Int.toNat_natCast _, List.drop_of_length_le (by rw [len_list]; exact Nat.le_refl _)] at eb
          refine ⟨D5, _, _, g5, rfl, fun m hmk => ?_⟩
          by_cases h : m < k
          · exact hm m h
          · have : m = k := by omega
            rw [this]
            exact eb.symm
      · rintro σ H3 ⟨D3, o4, o5, g3, rfl, hm⟩
        have h0 : badAt l.cps.toList 0 p.1.cps.toList = none := hm 0 (by decide)
        have h1 : badAt im.cps.toList 0 p.2.cps.toList = none := hm 1 (by decide)
        rw [h0] at en
        dsimp only at en
        rw [h1] at en
        dsimp only at en
        walk_at "rd"
        refine s_ix_l (sql_up g3 ha) (atI_nat hb0) ?_
        walk_at "rd"
        refine s_ix_t (sqt_up g3 hb) atI_0 ?_
        walk_at "rd"
        refine s_ix_l (sql_up g3 ha) (atI_nat hb0) ?_
        walk_at "rd"
        refine s_ix_t (sqt_up g3 hb) (atI_i (j := 1) rfl rfl) ?_
        walk_at "rd"
        refine jtN (fun e => ?_) (fun e => ?_)
        · rw [if_neg fun z => e (by rw [z])] at en
          walk_at "rd"
          refine ⟨le1000 (by simp), fun c nc => ?_⟩
          exact q2 _ en.symm _ _ _ (g3.ice nc) (.tup (sqt upd_same) (.cons (.str _) (.cons (.int _) (.cons (.int _) .nil))))
        · rw [if_pos (by omega)] at en
          walk_at "rd"
          exact ⟨D3, _, _, _, g3, rfl, en⟩
    · rintro σ H1 ⟨D1, o3, o4, o5, g, rfl, en⟩
      rw [List.drop_of_length_le (by omega)] at en
      walk_at "rd"
      exact q1 en.symm _ _ g
end
end H87

namespace H87
open PySem PySem.Spec L2 He Y Hk87
local macro_rules | `(tactic| walk_at "rd1") => `(tactic| first
  | with_reducible refine s_seq ?_
  | with_reducible refine s_asg ?_
  | with_reducible refine s_gname ?_
  | ((with_reducible refine s_var (v := ?_) ?_ ?_); rotate_left; exact rfl)
  | with_reducible refine s_c ?_
  | with_reducible refine s_op ?_
  | with_reducible refine s_un ?_
  | with_reducible refine s_nil ?_
  | with_reducible refine s_cons ?_
  | with_reducible refine s_CB ?_
  | with_reducible refine s_ifS ?_
  | with_reducible refine s_test ?_
  | with_reducible refine s_B ?_
  | with_reducible refine s_xb ?_
  | with_reducible refine s_xi ?_
  | with_reducible refine s_xs ?_
  | with_reducible refine s_or ?_
  | with_reducible refine s_and ?_
  | with_reducible refine s_not ?_
  | with_reducible refine s_orV ?_
  | with_reducible refine s_andV ?_
  | with_reducible refine s_notV ?_
  | with_reducible refine s_ret ?_
  | with_reducible refine s_retN ?_
  | with_reducible refine s_next ?_
  | with_reducible refine s_drop ?_
  | with_reducible refine s_yes ?_
  | with_reducible refine s_for ?_
  | with_reducible refine s_lc ?_
  | with_reducible refine s_iStr ?_
  | with_reducible refine s_iList ?_
  | with_reducible refine s_iTup ?_
  | with_reducible refine s_iR1 ?_
  | with_reducible refine s_iR2 ?_
  | with_reducible refine s_iE ?_
  | with_reducible refine s_iET ?_
  | with_reducible refine s_iES ?_
  | with_reducible refine s_tup ?_
  | with_reducible refine s_lst ?_
  | with_reducible refine s_BM ?_
  | with_reducible refine s_BM0 ?_
  | with_reducible refine s_BMS ?_
  | with_reducible refine s_M1 ?_
  | with_reducible refine s_sl ?_
  | with_reducible refine s_noP ?_
  | with_reducible refine s_po ?_
  | with_reducible refine s_call ?_
  | with_reducible refine s_callS ?_
  | with_reducible refine s_make ?_
  | with_reducible refine s_makeS ?_
  | with_reducible refine s_methS ?_
  | with_reducible refine s_callO ?_
  | with_reducible refine s_dnew ?_
  | with_reducible refine s_dget ?_
  | with_reducible refine s_din ?_
  | with_reducible refine s_dnin ?_
  | with_reducible refine s_dput ?_
  | with_reducible refine s_dsetd ?_
  | with_reducible refine s_dget2 ?_
  | with_reducible refine s_fld ?_
  | with_reducible refine s_sFld ?_
  | with_reducible refine s_rz ?_
  | with_reducible refine s_asgS ?_
  | with_reducible refine s_gSub ?_
  | with_reducible refine s_ifE ?_
  | with_reducible refine s_add_i ?_
  | with_reducible refine s_sub ?_
  | with_reducible refine s_neg ?_
  | with_reducible refine s_eq_i ?_
  | with_reducible refine s_eq_s ?_
  | with_reducible refine s_ne_i ?_
  | with_reducible refine s_ne_s ?_
  | with_reducible refine s_lt_i ?_
  | with_reducible refine s_le_i ?_
  | with_reducible refine s_gt_i ?_
  | with_reducible refine s_ge_i ?_
  | with_reducible refine s_lt_s ?_
  | with_reducible refine s_le_s ?_
  | with_reducible refine s_gt_s ?_
  | with_reducible refine s_ge_s ?_
  | with_reducible refine s_in_c ?_
  | with_reducible refine s_ni_c ?_
  | with_reducible refine s_isN ?_
  | with_reducible refine s_noN ?_
  | with_reducible refine s_abs ?_
  | with_reducible refine s_min2 ?_
  | with_reducible refine s_max2 ?_
  | with_reducible refine s_int_i ?_
  | ((with_reducible refine s_len_s ?_ ?_); assumption)
  | ((with_reducible refine s_len_l (xs := ?_) ?_ ?_); rotate_left; assumption)
  | ((with_reducible refine s_len_t (xs := ?_) ?_ ?_); rotate_left; assumption)
  | with_reducible refine s_pair upd_same ?_
  | with_reducible refine s_callS ?_
  | with_reducible refine jtT ?_
  | with_reducible refine jtF ?_
  | with_reducible refine jtNT ?_
  | with_reducible refine jtNF ?_
  | dsimp only)
local macro_rules | `(tactic| walk_at "rd") => `(tactic| repeat (walk_at "rd1"))

section
variable {P : Program} {w : World} {K : PySem.W.Frag} {mg : Str → Option Value} {base : Heap}
theorem S_law_refused : FnScope ["letters", "images", "size", "pairs", "bad", "e"] ["letters", "images", "size", "pairs", "bad"] (d_law_refused).scope := ⟨rfl, rfl, rfl, by decide +kernel, rfl, by decide +kernel, by decide +kernel⟩
def sp_refused (K : PySem.W.Frag) : Sp := fun vs H Q E => ∃ (D : Hp) (l im : Str) (size : Int) (v u : V) (ps : List Pr) (b : Bad), vs = [.str l, .str im, .int size, v, u] ∧ l.length ≤ sizeLine ∧ im.length ≤ sizeLine ∧ Same D H ∧ Dp K D v (dPs ps) ∧ Short ps ∧ okLetters l = true ∧ okLetters im = true ∧ badP l im 0 ps = some b ∧ BadV K D u b ∧ ∀ H', Same D H' → Q (.bl true) H'
theorem w_law_refused (T : Txt P w K mg) : Has P w K mg base 8 "_law_refused" (sp_refused K) := by
  have S := S_law_refused
  have G_fit_turner := w_fit_turner (base := base) T
  refine has_of (k := 7) T.d_law_refused T.gd_law_refused S (fun _ _ _ _ _ _ us hl => match us, hl with | [_, _, _, _, _], _ => rfl) (fun vs H Q E h => ?_) (fun f cdv A outer s H vs Q E hr h => ?_)
  · obtain ⟨D, l, im, size, v, u, ps, b, rfl, _⟩ := h
    rfl
  · obtain ⟨D, l, im, size, v, u, ps, b, rfl, hl, hi, sm, dv, hsh, ok1, ok2, hb, hu, q⟩ := h
    refine ⟨_, (pss_cons (ps_try_as (i := 5) rfl rfl S.nd rfl rfl ⟨rfl, by decide, Or.inl T.g_LanguageError⟩ (takes_of rfl rfl rfl rfl)
      (fun W pn xe tk po => (pss_one (ps_expr (pe_has G_fit_turner (hr.mono (by decide)) tk rfl (pa_cons (pv 0) (pa_cons (pv 1) (pa_cons (pv 2) (pa_cons (pv 3) pa_nil))))))))
      (fun a oe cls d pn hz hf => (pss_cons (ps_if (pt_cmpR (cK_eq K hr.units) (pe_ix (ixK_seq K) (pv 4) pe_int (fun _ _ => rfl)) pe_str (nomark _))
      (pss_one (ps_ret (pe_and (pe_callB (call_isX hz hf) (by rfl) T.b_isinstance (by decide +kernel) (pa_cons (pv 5) (pa_cons (pe_gC rfl T.g_BadText) pa_nil))) (pe_and (pe_not (pe_callB (call_isX hz hf) (by rfl) T.b_isinstance (by decide +kernel) (pa_cons (pv 5) (pa_cons (pe_gC rfl T.g_BadWord) pa_nil)))) (pe_one (pe_cmpR (cK_eq K hr.units) (pe_xfE hz hf (pv 5)) (pe_ix (ixK_seq K) (pv 4) pe_int (fun _ _ => rfl)) (nomark _)))))))
      pss_nil)
    (pss_one (ps_ret (pe_and (pe_callB (call_isX hz hf) (by rfl) T.b_isinstance (by decide +kernel) (pa_cons (pv 5) (pa_cons (pe_gC rfl T.g_BadWord) pa_nil))) (pe_and (pe_not (pe_callB (call_isX hz hf) (by rfl) T.b_isinstance (by decide +kernel) (pa_cons (pv 5) (pa_cons (pe_gC rfl T.g_BadText) pa_nil)))) (pe_and (pe_cmpR (cK_eq K hr.units) (pe_xfE hz hf (pv 5)) (pe_ix (ixK_seq K) (pv 4) pe_int (fun _ _ => rfl)) (nomark _)) (pe_one (pe_cmpR (cK_eq K hr.units) (pe_xfE hz hf (pv 5)) (pe_ix (ixK_seq K) (pv 4) pe_int (fun _ _ => rfl)) (nomark _)))))))))))
    (pss_one (ps_ret pe_bl))), ?_⟩
    walk_at "rd"
    refine ⟨D, l, im, size, v, ps, rfl, hl, hi, sm, dv, hsh, fun z => absurd ⟨ok1, ok2⟩ z, fun _ _ b' hb' => ?_, ?_, ?_⟩
    rotate_left
    · intro _ _ z
      rw [hb] at z
      cases z
    · intro _ _ z
      rw [hb] at z
      cases z
    rw [hb] at hb'
    cases hb'
    cases b with
    | word z k =>
      obtain ⟨t, ys, rfl, ht, hys⟩ := dp_tuple hu
      cases hys with
      | cons h0 r0 =>
      cases r0 with
      | cons h1 r1 =>
      cases r1 with
      | cons h2 r2 =>
      cases r2
      cases h0
      cases h1
      cases h2
      intro D' H' d g nd
      refine ⟨true, T.exm_BadWord_LanguageError, fun _ a na => ?_, fun z => nomatch z⟩
      have htH := same_seqT (g.same'.trans ((Gr.refl (m := No) (Same.refl H')).lay (o := .xd [("place", .int (k : Nat)), ("word", .str z)]) nd).all) ht
      walk_at "rd"
      refine s_ix_t htH atI_0 ?_
      walk_at "rd"
      refine jtD (fun e => absurd e (by decide)) (fun _ => ?_)
      walk_at "rd"
      refine ⟨ga K "BadWord", _, .ref (ga K "BadWord"), true, rfl, T.e_BadWord.e, rfl, .own _, T.kit_BadWord_BadWord, ⟨_, upd_same⟩, ?_⟩
      walk_at "rd"
      refine ⟨ga K "BadWord", _, .ref (ga K "BadText"), false, rfl, T.e_BadWord.e, rfl, .own _, T.kit_BadWord_BadText, ⟨_, upd_same⟩, ?_⟩
      walk_at "rd"
      refine ⟨_, rfl, ga K "BadWord", rfl, T.e_BadWord.x, T.no_BadWord_word, rfl, d, _, _, rfl, upd_same, rfl, ?_⟩
      walk_at "rd"
      refine s_ix_t htH (atI_i (j := 1) rfl rfl) ?_
      walk_at "rd"
      refine jtD (fun _ => ?_) (fun e => absurd rfl e)
      walk_at "rd"
      refine ⟨_, rfl, ga K "BadWord", rfl, T.e_BadWord.x, T.no_BadWord_place, rfl, d, _, _, rfl, upd_same, rfl, ?_⟩
      walk_at "rd"
      refine s_ix_t htH (atI_i (j := 2) rfl rfl) ?_
      walk_at "rd"
      rw [decide_eq_true rfl]
      first
      | exact q _ (g.same'.trans ((Gr.refl (m := No) (Same.refl H')).lay (o := .xd [("place", .int (k : Nat)), ("word", .str z)]) nd).all)
      | exact q _ ((g.same'.trans ((Gr.refl (m := No) (Same.refl H')).lay (o := .xd [("place", .int (k : Nat)), ("word", .str z)]) nd).all).trans (same_new na))
    | text n =>
      obtain ⟨t, ys, rfl, ht, hys⟩ := dp_tuple hu
      cases hys with
      | cons h0 r0 =>
      cases r0 with
      | cons h1 r1 =>
      cases r1 with
      | cons h2 r2 =>
      cases r2
      cases h0
      cases h1
      cases h2
      intro D' H' d g nd
      refine ⟨true, T.exm_BadText_LanguageError, fun _ a na => ?_, fun z => nomatch z⟩
      have htH := same_seqT (g.same'.trans ((Gr.refl (m := No) (Same.refl H')).lay (o := .xd [("line", .int (n : Nat))]) nd).all) ht
      walk_at "rd"
      refine s_ix_t htH atI_0 ?_
      walk_at "rd"
      refine jtD (fun _ => ?_) (fun e => absurd rfl e)
      walk_at "rd"
      refine ⟨ga K "BadText", _, .ref (ga K "BadText"), true, rfl, T.e_BadText.e, rfl, .own _, T.kit_BadText_BadText, ⟨_, upd_same⟩, ?_⟩
      walk_at "rd"
      refine ⟨ga K "BadText", _, .ref (ga K "BadWord"), false, rfl, T.e_BadText.e, rfl, .own _, T.kit_BadText_BadWord, ⟨_, upd_same⟩, ?_⟩
      walk_at "rd"
      refine ⟨_, rfl, ga K "BadText", rfl, T.e_BadText.x, T.no_BadText_line, rfl, d, _, _, rfl, upd_same, rfl, ?_⟩
      walk_at "rd"
      refine s_ix_t htH (atI_i (j := 1) rfl rfl) ?_
      walk_at "rd"
      rw [decide_eq_true rfl]
      first
      | exact q _ (g.same'.trans ((Gr.refl (m := No) (Same.refl H')).lay (o := .xd [("line", .int (n : Nat))]) nd).all)
      | exact q _ ((g.same'.trans ((Gr.refl (m := No) (Same.refl H')).lay (o := .xd [("line", .int (n : Nat))]) nd).all).trans (same_new na))
end
end H87

namespace H87
open PySem PySem.Spec L2 He Y Hk87
local macro_rules | `(tactic| walk_at "rd1") => `(tactic| first
  | with_reducible refine s_seq ?_
  | with_reducible refine s_asg ?_
  | with_reducible refine s_gname ?_
  | ((with_reducible refine s_var (v := ?_) ?_ ?_); rotate_left; exact rfl)
  | with_reducible refine s_c ?_
  | with_reducible refine s_op ?_
  | with_reducible refine s_un ?_
  | with_reducible refine s_nil ?_
  | with_reducible refine s_cons ?_
  | with_reducible refine s_CB ?_
  | with_reducible refine s_ifS ?_
  | with_reducible refine s_test ?_
  | with_reducible refine s_B ?_
  | with_reducible refine s_xb ?_
  | with_reducible refine s_xi ?_
  | with_reducible refine s_xs ?_
  | with_reducible refine s_or ?_
  | with_reducible refine s_and ?_
  | with_reducible refine s_not ?_
  | with_reducible refine s_orV ?_
  | with_reducible refine s_andV ?_
  | with_reducible refine s_notV ?_
  | with_reducible refine s_ret ?_
  | with_reducible refine s_retN ?_
  | with_reducible refine s_next ?_
  | with_reducible refine s_drop ?_
  | with_reducible refine s_yes ?_
  | with_reducible refine s_for ?_
  | with_reducible refine s_lc ?_
  | with_reducible refine s_iStr ?_
  | with_reducible refine s_iList ?_
  | with_reducible refine s_iTup ?_
  | with_reducible refine s_iR1 ?_
  | with_reducible refine s_iR2 ?_
  | with_reducible refine s_iE ?_
  | with_reducible refine s_iET ?_
  | with_reducible refine s_iES ?_
  | with_reducible refine s_tup ?_
  | with_reducible refine s_lst ?_
  | with_reducible refine s_BM ?_
  | with_reducible refine s_BM0 ?_
  | with_reducible refine s_BMS ?_
  | with_reducible refine s_M1 ?_
  | with_reducible refine s_sl ?_
  | with_reducible refine s_noP ?_
  | with_reducible refine s_po ?_
  | with_reducible refine s_call ?_
  | with_reducible refine s_callS ?_
  | with_reducible refine s_make ?_
  | with_reducible refine s_makeS ?_
  | with_reducible refine s_methS ?_
  | with_reducible refine s_callO ?_
  | with_reducible refine s_dnew ?_
  | with_reducible refine s_dget ?_
  | with_reducible refine s_din ?_
  | with_reducible refine s_dnin ?_
  | with_reducible refine s_dput ?_
  | with_reducible refine s_dsetd ?_
  | with_reducible refine s_dget2 ?_
  | with_reducible refine s_fld ?_
  | with_reducible refine s_sFld ?_
  | with_reducible refine s_rz ?_
  | with_reducible refine s_asgS ?_
  | with_reducible refine s_gSub ?_
  | with_reducible refine s_ifE ?_
  | with_reducible refine s_add_i ?_
  | with_reducible refine s_sub ?_
  | with_reducible refine s_neg ?_
  | with_reducible refine s_eq_i ?_
  | with_reducible refine s_eq_s ?_
  | with_reducible refine s_ne_i ?_
  | with_reducible refine s_ne_s ?_
  | with_reducible refine s_lt_i ?_
  | with_reducible refine s_le_i ?_
  | with_reducible refine s_gt_i ?_
  | with_reducible refine s_ge_i ?_
  | with_reducible refine s_lt_s ?_
  | with_reducible refine s_le_s ?_
  | with_reducible refine s_gt_s ?_
  | with_reducible refine s_ge_s ?_
  | with_reducible refine s_in_c ?_
  | with_reducible refine s_ni_c ?_
  | with_reducible refine s_isN ?_
  | with_reducible refine s_noN ?_
  | with_reducible refine s_abs ?_
  | with_reducible refine s_min2 ?_
  | with_reducible refine s_max2 ?_
  | with_reducible refine s_int_i ?_
  | ((with_reducible refine s_len_s ?_ ?_); assumption)
  | ((with_reducible refine s_len_l (xs := ?_) ?_ ?_); rotate_left; assumption)
  | ((with_reducible refine s_len_t (xs := ?_) ?_ ?_); rotate_left; assumption)
  | with_reducible refine s_pair upd_same ?_
  | with_reducible refine s_callS ?_
  | with_reducible refine jtT ?_
  | with_reducible refine jtF ?_
  | with_reducible refine jtNT ?_
  | with_reducible refine jtNF ?_
  | dsimp only)
local macro_rules | `(tactic| walk_at "rd") => `(tactic| repeat (walk_at "rd1"))

section
variable {P : Program} {w : World} {K : PySem.W.Frag} {mg : Str → Option Value} {base : Heap}
theorem kit2 {t a b : Value} {x y : Bool} (h1 : PySem.W.kitOne K t a = some x) (h2 : PySem.W.kitOne K t b = some y) : PySem.W.kitAny K t [a, b] = some (x || y) := by
  unfold PySem.W.kitAny
  rw [h1]
  cases x
  · show PySem.W.kitAny K t [b] = _
    unfold PySem.W.kitAny
    rw [h2]
    cases y <;> rfl
  · rfl
theorem S_law_error : FnScope ["e"] ["e"] (d_law_error).scope := ⟨rfl, rfl, rfl, by decide +kernel, rfl, by decide +kernel, by decide +kernel⟩
/-- what _law_error tells of the caught error -/
def sp_error (K : PySem.W.Frag) (a : Addr) (cls : Value) (d : Option Addr) : Sp := fun vs H Q E => vs = [.ref a] ∧
  ((cls = .ref (ga K "BadLetters") ∧ DOk H d ∧ ∀ H' q, Same H H' → H' q = some (.tup [.str "letters"]) → Q (.ref q) H') ∨
   (cls = .ref (ga K "BadWord") ∧ ∃ (dd : Addr) (s : Str) (k : Nat), d = some dd ∧ H dd = some (.xd [("place", .int (k : Nat)), ("word", .str s)]) ∧ ∀ H' q, Same H H' → H' q = some (.tup [.str "word", .str s, .int (k : Nat)]) → Q (.ref q) H'))
theorem w_law_error (T : Txt P w K mg) (a : Addr) (oe : Obj) (cls : Value) (d : Option Addr) (hz : Zc cls d oe) (hf : ∃ vs, oe.data = .fields vs) : HasQ P w K mg base (a, oe) 3 "_law_error" (sp_error K a cls d) := by
  have S := S_law_error
  have hp : ∀ {X : Cx}, X.pn = [(a, oe)] → (a, oe) ∈ X.pn := fun h => by rw [h]; exact List.mem_cons_self
  refine hasQ_of (k := 2) T.d_law_error T.gd_law_error S (fun _ _ _ _ _ _ us hl => match us, hl with | [_], _ => rfl) (fun vs H Q E h => ?_) (fun f cdv A outer s H vs Q E hr h => ?_)
  · obtain ⟨rfl, _⟩ := h
    rfl
  · obtain ⟨rfl, h⟩ := h
    have hp : (a, oe) ∈ (L2H.cxH (L2.CX P w) P w K mg base ["e"] (d_law_error).qual (d_law_error).scope f cdv A outer s H E (a, oe)).pn := List.mem_cons_self
    refine ⟨_, (pss_cons (ps_if (PW.pt (pw_and (pt_val (pe_callB (call_isG hp hz hf) (by rfl) T.b_isinstance (by decide +kernel) (pa_cons (pv 0) (pa_cons (pe_gC rfl T.g_BadLetters) pa_nil)))) (pw_and1 (pt_not (pt_val (pe_callB (call_isGT hp hz hf) (by rfl) T.b_isinstance (by decide +kernel) (pa_cons (pv 0) (pa_cons (pe_tup (pa_cons (pe_gC rfl T.g_BadText) (pa_cons (pe_gC rfl T.g_BadWord) pa_nil))) pa_nil))))))))
      (pss_one (ps_ret (pe_tup (pa_cons pe_str pa_nil))))
      pss_nil)
    (pss_cons (ps_if (PW.pt (pw_and (pt_val (pe_callB (call_isG hp hz hf) (by rfl) T.b_isinstance (by decide +kernel) (pa_cons (pv 0) (pa_cons (pe_gC rfl T.g_BadWord) pa_nil)))) (pw_and1 (pt_not (pt_val (pe_callB (call_isGT hp hz hf) (by rfl) T.b_isinstance (by decide +kernel) (pa_cons (pv 0) (pa_cons (pe_tup (pa_cons (pe_gC rfl T.g_BadLetters) (pa_cons (pe_gC rfl T.g_BadText) pa_nil))) pa_nil))))))))
      (pss_one (ps_ret (pe_tup (pa_cons pe_str (pa_cons (pe_xfG hp hz hf (pv 0)) (pa_cons (pe_xfG hp hz hf (pv 0)) pa_nil))))))
      pss_nil)
    (pss_one (ps_ret (pe_tup (pa_cons pe_str pa_nil)))))), ?_⟩
    rcases h with ⟨rfl, hd, q⟩ | ⟨rfl, dd, z, k, rfl, hdd, q⟩
    · walk_at "rd"
      refine ⟨ga K "BadLetters", _, .ref (ga K "BadLetters"), true, rfl, T.e_BadLetters.e, rfl, .own _, T.kit_BadLetters_BadLetters, hd, ?_⟩
      walk_at "rd"
      refine ⟨le1000 (by simp), fun c nc => ?_⟩
      have s1 : Same H (upd H c (.tup [.ref (ga K "BadText"), .ref (ga K "BadWord")])) := same_new nc
      have hd1 : DOk (upd H c (.tup [.ref (ga K "BadText"), .ref (ga K "BadWord")])) d := by
        cases d with
        | none => trivial
        | some dd =>
          obtain ⟨fs, e⟩ := hd
          exact ⟨fs, s1 _ _ e⟩
      refine ⟨ga K "BadLetters", c, _, [.ref (ga K "BadText"), .ref (ga K "BadWord")], false, rfl, T.e_BadLetters.e, rfl, upd_same, .cons (.own _) (.cons (.own _) .nil), kit2 T.kit_BadLetters_BadText T.kit_BadLetters_BadWord, hd1, ?_⟩
      walk_at "rd"
      refine ⟨le1000 (by simp), fun c2 nc2 => ?_⟩
      exact q _ c2 (s1.trans (same_new nc2)) upd_same
    · walk_at "rd"
      refine ⟨ga K "BadWord", _, .ref (ga K "BadLetters"), false, rfl, T.e_BadWord.e, rfl, .own _, T.kit_BadWord_BadLetters, ⟨_, hdd⟩, ?_⟩
      walk_at "rd"
      refine ⟨ga K "BadWord", _, .ref (ga K "BadWord"), true, rfl, T.e_BadWord.e, rfl, .own _, T.kit_BadWord_BadWord, ⟨_, hdd⟩, ?_⟩
      walk_at "rd"
      refine ⟨le1000 (by simp), fun c nc => ?_⟩
      have s1 : Same H (upd H c (.tup [.ref (ga K "BadLetters"), .ref (ga K "BadText")])) := same_new nc
      refine ⟨ga K "BadWord", c, _, [.ref (ga K "BadLetters"), .ref (ga K "BadText")], false, rfl, T.e_BadWord.e, rfl, upd_same, .cons (.own _) (.cons (.own _) .nil), kit2 T.kit_BadWord_BadLetters T.kit_BadWord_BadText, ⟨_, s1 _ _ hdd⟩, ?_⟩
      walk_at "rd"
      refine ⟨_, rfl, ga K "BadWord", rfl, T.e_BadWord.x, T.no_BadWord_word, rfl, dd, _, _, rfl, s1 _ _ hdd, rfl, ?_⟩
      walk_at "rd"
      refine ⟨_, rfl, ga K "BadWord", rfl, T.e_BadWord.x, T.no_BadWord_place, rfl, dd, _, _, rfl, s1 _ _ hdd, rfl, ?_⟩
      walk_at "rd"
      refine ⟨le1000 (by simp), fun c2 nc2 => ?_⟩
      exact q _ c2 (s1.trans (same_new nc2)) upd_same
end
end H87

namespace H87
open PySem PySem.Spec L2 He Y Hk87
local macro_rules | `(tactic| walk_at "rd1") => `(tactic| first
  | with_reducible refine s_seq ?_
  | with_reducible refine s_asg ?_
  | with_reducible refine s_gname ?_
  | ((with_reducible refine s_var (v := ?_) ?_ ?_); rotate_left; exact rfl)
  | with_reducible refine s_c ?_
  | with_reducible refine s_op ?_
  | with_reducible refine s_un ?_
  | with_reducible refine s_nil ?_
  | with_reducible refine s_cons ?_
  | with_reducible refine s_CB ?_
  | with_reducible refine s_ifS ?_
  | with_reducible refine s_test ?_
  | with_reducible refine s_B ?_
  | with_reducible refine s_xb ?_
  | with_reducible refine s_xi ?_
  | with_reducible refine s_xs ?_
  | with_reducible refine s_or ?_
  | with_reducible refine s_and ?_
  | with_reducible refine s_not ?_
  | with_reducible refine s_orV ?_
  | with_reducible refine s_andV ?_
  | with_reducible refine s_notV ?_
  | with_reducible refine s_ret ?_
  | with_reducible refine s_retN ?_
  | with_reducible refine s_next ?_
  | with_reducible refine s_drop ?_
  | with_reducible refine s_yes ?_
  | with_reducible refine s_for ?_
  | with_reducible refine s_lc ?_
  | with_reducible refine s_iStr ?_
  | with_reducible refine s_iList ?_
  | with_reducible refine s_iTup ?_
  | with_reducible refine s_iR1 ?_
  | with_reducible refine s_iR2 ?_
  | with_reducible refine s_iE ?_
  | with_reducible refine s_iET ?_
  | with_reducible refine s_iES ?_
  | with_reducible refine s_tup ?_
  | with_reducible refine s_lst ?_
  | with_reducible refine s_BM ?_
  | with_reducible refine s_BM0 ?_
  | with_reducible refine s_BMS ?_
  | with_reducible refine s_M1 ?_
  | with_reducible refine s_sl ?_
  | with_reducible refine s_noP ?_
  | with_reducible refine s_po ?_
  | with_reducible refine s_call ?_
  | with_reducible refine s_callS ?_
  | with_reducible refine s_make ?_
  | with_reducible refine s_makeS ?_
  | with_reducible refine s_methS ?_
  | with_reducible refine s_callO ?_
  | with_reducible refine s_dnew ?_
  | with_reducible refine s_dget ?_
  | with_reducible refine s_din ?_
  | with_reducible refine s_dnin ?_
  | with_reducible refine s_dput ?_
  | with_reducible refine s_dsetd ?_
  | with_reducible refine s_dget2 ?_
  | with_reducible refine s_fld ?_
  | with_reducible refine s_sFld ?_
  | with_reducible refine s_rz ?_
  | with_reducible refine s_asgS ?_
  | with_reducible refine s_gSub ?_
  | with_reducible refine s_ifE ?_
  | with_reducible refine s_add_i ?_
  | with_reducible refine s_sub ?_
  | with_reducible refine s_neg ?_
  | with_reducible refine s_eq_i ?_
  | with_reducible refine s_eq_s ?_
  | with_reducible refine s_ne_i ?_
  | with_reducible refine s_ne_s ?_
  | with_reducible refine s_lt_i ?_
  | with_reducible refine s_le_i ?_
  | with_reducible refine s_gt_i ?_
  | with_reducible refine s_ge_i ?_
  | with_reducible refine s_lt_s ?_
  | with_reducible refine s_le_s ?_
  | with_reducible refine s_gt_s ?_
  | with_reducible refine s_ge_s ?_
  | with_reducible refine s_in_c ?_
  | with_reducible refine s_ni_c ?_
  | with_reducible refine s_isN ?_
  | with_reducible refine s_noN ?_
  | with_reducible refine s_abs ?_
  | with_reducible refine s_min2 ?_
  | with_reducible refine s_max2 ?_
  | with_reducible refine s_int_i ?_
  | ((with_reducible refine s_len_s ?_ ?_); assumption)
  | ((with_reducible refine s_len_l (xs := ?_) ?_ ?_); rotate_left; assumption)
  | ((with_reducible refine s_len_t (xs := ?_) ?_ ?_); rotate_left; assumption)
  | with_reducible refine s_pair upd_same ?_
  | with_reducible refine s_callS ?_
  | with_reducible refine jtT ?_
  | with_reducible refine jtF ?_
  | with_reducible refine jtNT ?_
  | with_reducible refine jtNF ?_
  | dsimp only)
local macro_rules | `(tactic| walk_at "rd") => `(tactic| repeat (walk_at "rd1"))

theorem Gr.ofSame {D H H' : Hp} (h : Same D H) (e : Same H H') : Gr No D H D H' where
  same := fun b o _ x => e b o x
  kept := fun b x => by
    cases q : H b with
    | none => rfl
    | some o => rw [e b o q] at x; cases x
  dd := Same.refl D
  sub := h.trans e
  new := fun b o x => .inl x
section
variable {P : Program} {w : World} {K : PySem.W.Frag} {mg : Str → Option Value} {base : Heap}
theorem S_law_asked : FnScope ["call", "letters", "images", "size", "given", "word", "e", "turner"] ["call", "letters", "images", "size", "given", "word"] (d_law_asked).scope := ⟨rfl, rfl, rfl, by decide +kernel, rfl, by decide +kernel, by decide +kernel⟩
def sp_asked (K : PySem.W.Frag) : Sp := fun vs H Q E => ∃ (D : Hp) (c : Int) (l im : Str) (size : Int) (gv : V) (z : Str), vs = [.int c, .str l, .str im, .int size, gv, .str z] ∧ l.length ≤ sizeLine ∧ im.length ≤ sizeLine ∧ Same D H ∧
  ((c = 0 ∧ ¬ (okLetters l = true ∧ okLetters im = true) ∧ ∀ H' q, Same H H' → H' q = some (.tup [.str "letters"]) → Q (.ref q) H') ∨
   (c = 1 ∧ ¬ (okLetters l = true ∧ okLetters im = true) ∧ (∃ (xs : List V) (ps : List Pr) (a : Addr), gv = .ref a ∧ SqL K H a xs ∧ DpAll K D xs (ps.map dP) ∧ Short ps) ∧ ∀ H' q, Same H H' → H' q = some (.tup [.str "letters"]) → Q (.ref q) H') ∨
   (c = 0 ∧ (okLetters l = true ∧ okLetters im = true) ∧ ∀ H' q, Same H H' → H' q = some (.tup [.str "none"]) → Q (.ref q) H') ∨
   (c = 2 ∧ (okLetters l = true ∧ okLetters im = true) ∧ ∃ (ga_ : Addr) (kvs : List (Key × V)) (t : Tb) (k : Nat), gv = .ref ga_ ∧ H ga_ = some (.dK kvs) ∧ KvR IsS kvs t ∧ (∀ p ∈ t, p.2.length ≤ 1000) ∧ z.length ≤ 1000 ∧ badAt l.cps.toList 0 z.cps.toList = some k ∧
      ∀ H' q, Same H H' → H' q = some (.tup [.str "word", .str z, .int (k : Nat)]) → Q (.ref q) H'))
theorem w_law_asked (T : Txt P w K mg) : Has P w K mg base 8 "_law_asked" (sp_asked K) := by
  have S := S_law_asked
  have G_Turner := w_Turner (base := base) T
  have G_fit_turner := w_fit_turner (base := base) T
  have G_turner_call := w_call (base := base) T
  have G_law_error := fun a oe cls d hz hf => w_law_error (base := base) T a oe cls d hz hf
  refine has_of (k := 7) T.d_law_asked T.gd_law_asked S (fun _ _ _ _ _ _ us hl => match us, hl with | [_, _, _, _, _, _], _ => rfl) (fun vs H Q E h => ?_) (fun f cdv A outer s H vs Q E hr h => ?_)
  · obtain ⟨D, c, l, im, size, gv, z, rfl, _⟩ := h
    rfl
  · obtain ⟨D, c, l, im, size, gv, z, rfl, hl, hi, sm, h⟩ := h
    refine ⟨_, (pss_cons (ps_try_as (i := 6) rfl rfl S.nd rfl rfl ⟨rfl, by decide, Or.inl T.g_LanguageError⟩ (takes_of rfl rfl rfl rfl)
      (fun W pn xe tk po => (pss_one (ps_if (pt_cmpR (cK_eq K hr.units) (pv 0) pe_int (nomark _))
      (pss_one (ps_expr (pe_mkS G_Turner (hr.mono (by decide)) tk rfl (pa_cons (pv 1) (pa_cons (pv 2) (pa_cons (pv 3) (pa_cons pe_dnewK pa_nil)))))))
      (pss_one (ps_if (pt_cmpR (cK_eq K hr.units) (pv 0) pe_int (nomark _))
      (pss_one (ps_expr (pe_has G_fit_turner (hr.mono (by decide)) tk rfl (pa_cons (pv 1) (pa_cons (pv 2) (pa_cons (pv 3) (pa_cons (pe_callTy (bK_list K) (by rfl) T.b_list (by decide +kernel) (pa_cons (pv 4) pa_nil)) pa_nil)))))))
      (pss_cons (ps_set (i := 7) S.nd rfl (Or.inl rfl) (pe_mkS G_Turner (hr.mono (by decide)) tk rfl (pa_cons (pv 1) (pa_cons (pv 2) (pa_cons (pv 3) (pa_cons (pe_callTy call_dictD (by rfl) T.b_dict (by decide +kernel) (pa_cons (pv 4) pa_nil)) pa_nil))))))
    (pss_one (ps_expr (pe_callO G_turner_call (hr.mono (by decide)) tk (pv 7) (pa_cons (pv 5) pa_nil))))))))))
      (fun a oe cls d pn hz hf => (pss_one (ps_ret (pe_hasQ (G_law_error a oe cls d hz hf) (List.mem_cons_self) (roomS hr (by decide) rfl rfl) takes0 rfl (pa_cons (pv 6) pa_nil))))))
    (pss_one (ps_ret (pe_tup (pa_cons pe_str pa_nil))))), ?_⟩
    rcases h with ⟨rfl, nok, q⟩ | ⟨rfl, nok, ⟨xs, ps, a, rfl, ha, hxs, hsh⟩, q⟩ | ⟨rfl, ok, q⟩ | ⟨rfl, ok, ga_, kvs, t, k, rfl, hga, hkv, hty, hz, hbad, q⟩
    · walk_at "rd"
      refine jtD (fun _ => ?_) (fun e => absurd rfl e)
      walk_at "rd"
      intro td ntd
      walk_at "rd"
      intro x dx nx ndx ne
      have g1 := (Gr.refl (m := No) sm).lay (o := .dK []) ntd
      have nx' : (upd (upd H td (.dK [])) dx (.own x)) x = none := (upd_ne (Ne.symm ne)).trans nx
      have gM := (g1.lay (o := .own x) ndx).lay (o := .ins (ga K "Turner") dx []) nx'
      have htd : (upd (upd (upd H td (.dK [])) dx (.own x)) x (.ins (ga K "Turner") dx [])) td = some (.dK []) := by
        rw [upd_ne (ne_of_none upd_same nx), upd_ne (ne_of_none upd_same ndx)]
        exact upd_same
      refine ⟨D, x, dx, l, im, size, td, [], [], rfl, hl, hi, gM.sub, g1.free nx, upd_same, htd, .nil, fun o1 o2 => absurd ⟨o1, o2⟩ nok, fun _ => ?_⟩
      refine ⟨true, T.exm_BadLetters_LanguageError, fun _ a na => ?_, fun z => nomatch z⟩
      walk_at "rd"
      exact ⟨rfl, .inl ⟨rfl, trivial, fun H' qq s1 e => q H' qq (gM.all.trans s1) e⟩⟩
    · walk_at "rd"
      refine jtD (fun e => absurd e (by decide)) (fun _ => ?_)
      walk_at "rd"
      refine jtD (fun _ => ?_) (fun e => absurd rfl e)
      walk_at "rd"
      refine s_lst_l ha fun c nc => ?_
      have gc := (Gr.refl (m := No) sm).ice (o := .lst xs) nc
      walk_at "rd"
      refine ⟨_, l, im, size, .ref c, ps, rfl, hl, hi, gc.sub, .lst (sql upd_same) (Y.Dp.monoAll gc.dd hxs), hsh, fun _ => ?_, fun o1 o2 => absurd ⟨o1, o2⟩ nok, fun o1 o2 => absurd ⟨o1, o2⟩ nok, fun o1 o2 => absurd ⟨o1, o2⟩ nok⟩
      refine ⟨true, T.exm_BadLetters_LanguageError, fun _ a na => ?_, fun z => nomatch z⟩
      walk_at "rd"
      exact ⟨rfl, .inl ⟨rfl, trivial, fun H' qq s1 e => q H' qq (gc.all.trans s1) e⟩⟩
    · walk_at "rd"
      refine jtD (fun _ => ?_) (fun e => absurd rfl e)
      walk_at "rd"
      intro td ntd
      walk_at "rd"
      intro x dx nx ndx ne
      have g1 := (Gr.refl (m := No) sm).lay (o := .dK []) ntd
      have nx' : (upd (upd H td (.dK [])) dx (.own x)) x = none := (upd_ne (Ne.symm ne)).trans nx
      have gM := (g1.lay (o := .own x) ndx).lay (o := .ins (ga K "Turner") dx []) nx'
      have htd : (upd (upd (upd H td (.dK [])) dx (.own x)) x (.ins (ga K "Turner") dx [])) td = some (.dK []) := by
        rw [upd_ne (ne_of_none upd_same nx), upd_ne (ne_of_none upd_same ndx)]
        exact upd_same
      refine ⟨D, x, dx, l, im, size, td, [], [], rfl, hl, hi, gM.sub, g1.free nx, upd_same, htd, .nil, fun _ _ D' H' da kvs' gF hDx hHx hda hkv' => ⟨rfl, ?_⟩, fun z => absurd ok z⟩
      have gG := gM.transN gF fun y hy => hy ▸ g1.kept x nx
      walk_at "rd"
      refine ⟨le1000 (by simp), fun c nc => ?_⟩
      exact q _ c (gG.all.trans (same_new nc)) upd_same
    · walk_at "rd"
      refine jtD (fun e => absurd e (by decide)) (fun _ => ?_)
      walk_at "rd"
      refine jtD (fun e => absurd e (by decide)) (fun _ => ?_)
      walk_at "rd"
      refine ⟨ga_, kvs, rfl, .inl hga, fun td ntd => ?_⟩
      have g1 := (Gr.refl (m := No) sm).lay (o := .dK kvs) ntd
      walk_at "rd"
      intro x dx nx ndx ne
      have nx' : (upd (upd H td (.dK kvs)) dx (.own x)) x = none := (upd_ne (Ne.symm ne)).trans nx
      have gM := (g1.lay (o := .own x) ndx).lay (o := .ins (ga K "Turner") dx []) nx'
      have htd : (upd (upd (upd H td (.dK kvs)) dx (.own x)) x (.ins (ga K "Turner") dx [])) td = some (.dK kvs) := by
        rw [upd_ne (ne_of_none upd_same nx), upd_ne (ne_of_none upd_same ndx)]
        exact upd_same
      refine ⟨D, x, dx, l, im, size, td, kvs, t, rfl, hl, hi, gM.sub, g1.free nx, upd_same, htd, hkv, fun _ _ D' H' da kvs' gF hDx hHx hda hkv' => ⟨rfl, ?_⟩, fun z => absurd ok z⟩
      have gG := (gM.transN gF fun y hy => hy ▸ g1.kept x nx).cold hHx (g1.kept x nx)
      have sX : Same D' (upd D' x (.ins (ga K "Turner") dx [("letters", .str l), ("images", .str im), ("size", .int size), ("table", .ref da)])) := same_new hDx
      have M : IsT K (upd D' x (.ins (ga K "Turner") dx [("letters", .str l), ("images", .str im), ("size", .int size), ("table", .ref da)])) (.ref x) l im size t := ⟨x, dx, da, kvs', rfl, upd_same, sX _ _ hda, hkv'⟩
      walk_at "rd"
      refine ⟨x, _, _, rfl, hHx, ?_⟩
      walk_at "rd"
      refine ⟨hHx, _, .ref x, l, im, size, t, z, rfl, hz, gG.sub, M, hty, ?_, ?_⟩
      · intro e
        rw [hbad] at e
        cases e
      intro k' e D3 H3 d g3 nd
      rw [hbad] at e
      cases e
      refine ⟨true, T.exm_BadWord_LanguageError, fun _ a na => ?_, fun z => nomatch z⟩
      have gA := gG.trans g3
      walk_at "rd"
      exact ⟨rfl, .inr ⟨rfl, d, z, k, rfl, upd_same, fun H' qq s1 e => q H' qq ((gA.all.trans (same_new nd)).trans s1) e⟩⟩
end
end H87

namespace H87
open PySem PySem.Spec L2 He Y Hk87
local macro_rules | `(tactic| walk_at "rd1") => `(tactic| first
  | with_reducible refine s_seq ?_
  | with_reducible refine s_asg ?_
  | with_reducible refine s_gname ?_
  | ((with_reducible refine s_var (v := ?_) ?_ ?_); rotate_left; exact rfl)
  | with_reducible refine s_c ?_
  | with_reducible refine s_op ?_
  | with_reducible refine s_un ?_
  | with_reducible refine s_nil ?_
  | with_reducible refine s_cons ?_
  | with_reducible refine s_CB ?_
  | with_reducible refine s_ifS ?_
  | with_reducible refine s_test ?_
  | with_reducible refine s_B ?_
  | with_reducible refine s_xb ?_
  | with_reducible refine s_xi ?_
  | with_reducible refine s_xs ?_
  | with_reducible refine s_or ?_
  | with_reducible refine s_and ?_
  | with_reducible refine s_not ?_
  | with_reducible refine s_orV ?_
  | with_reducible refine s_andV ?_
  | with_reducible refine s_notV ?_
  | with_reducible refine s_ret ?_
  | with_reducible refine s_retN ?_
  | with_reducible refine s_next ?_
  | with_reducible refine s_drop ?_
  | with_reducible refine s_yes ?_
  | with_reducible refine s_for ?_
  | with_reducible refine s_lc ?_
  | with_reducible refine s_iStr ?_
  | with_reducible refine s_iList ?_
  | with_reducible refine s_iTup ?_
  | with_reducible refine s_iR1 ?_
  | with_reducible refine s_iR2 ?_
  | with_reducible refine s_iE ?_
  | with_reducible refine s_iET ?_
  | with_reducible refine s_iES ?_
  | with_reducible refine s_tup ?_
  | with_reducible refine s_lst ?_
  | with_reducible refine s_BM ?_
  | with_reducible refine s_BM0 ?_
  | with_reducible refine s_BMS ?_
  | with_reducible refine s_M1 ?_
  | with_reducible refine s_sl ?_
  | with_reducible refine s_noP ?_
  | with_reducible refine s_po ?_
  | with_reducible refine s_call ?_
  | with_reducible refine s_callS ?_
  | with_reducible refine s_make ?_
  | with_reducible refine s_makeS ?_
  | with_reducible refine s_methS ?_
  | with_reducible refine s_callO ?_
  | with_reducible refine s_dnew ?_
  | with_reducible refine s_dget ?_
  | with_reducible refine s_din ?_
  | with_reducible refine s_dnin ?_
  | with_reducible refine s_dput ?_
  | with_reducible refine s_dsetd ?_
  | with_reducible refine s_dget2 ?_
  | with_reducible refine s_fld ?_
  | with_reducible refine s_sFld ?_
  | with_reducible refine s_rz ?_
  | with_reducible refine s_asgS ?_
  | with_reducible refine s_gSub ?_
  | with_reducible refine s_ifE ?_
  | with_reducible refine s_add_i ?_
  | with_reducible refine s_sub ?_
  | with_reducible refine s_neg ?_
  | with_reducible refine s_eq_i ?_
  | with_reducible refine s_eq_s ?_
  | with_reducible refine s_ne_i ?_
  | with_reducible refine s_ne_s ?_
  | with_reducible refine s_lt_i ?_
  | with_reducible refine s_le_i ?_
  | with_reducible refine s_gt_i ?_
  | with_reducible refine s_ge_i ?_
  | with_reducible refine s_lt_s ?_
  | with_reducible refine s_le_s ?_
  | with_reducible refine s_gt_s ?_
  | with_reducible refine s_ge_s ?_
  | with_reducible refine s_in_c ?_
  | with_reducible refine s_ni_c ?_
  | with_reducible refine s_isN ?_
  | with_reducible refine s_noN ?_
  | with_reducible refine s_abs ?_
  | with_reducible refine s_min2 ?_
  | with_reducible refine s_max2 ?_
  | with_reducible refine s_int_i ?_
  | ((with_reducible refine s_len_s ?_ ?_); assumption)
  | ((with_reducible refine s_len_l (xs := ?_) ?_ ?_); rotate_left; assumption)
  | ((with_reducible refine s_len_t (xs := ?_) ?_ ?_); rotate_left; assumption)
  | with_reducible refine s_pair upd_same ?_
  | with_reducible refine s_callS ?_
  | with_reducible refine jtT ?_
  | with_reducible refine jtF ?_
  | with_reducible refine jtNT ?_
  | with_reducible refine jtNF ?_
  | dsimp only)
local macro_rules | `(tactic| walk_at "rd") => `(tactic| repeat (walk_at "rd1"))

theorem okFrom_mem : ∀ {l b : List Nat}, okFrom b l = true → ∀ c ∈ l, c ∈ SM.cps.toList
  | [], _, _, c, z => nomatch z
  | d :: l, b, h, c, z => by
    rw [okFrom_cons] at h
    split at h
    · cases h
    · rename_i hd
      rcases List.mem_cons.mp z with z | z
      · rw [z]
        exact Classical.byContradiction fun y => hd (.inl y)
      · exact okFrom_mem h c z
theorem ok_free {s : Str} (h : okLetters s = true) {c : Nat} (hc : c ∉ SM.cps.toList) : c ∉ s.cps.toList := fun z => by
  unfold okLetters at h
  simp only [Bool.and_eq_true] at h
  exact hc (okFrom_mem h.2 c z)
theorem ok_len {s : Str} (h : okLetters s = true) : 1 ≤ s.length ∧ s.length ≤ 4 := by
  unfold okLetters at h
  simp only [Bool.and_eq_true, decide_eq_true_eq] at h
  exact h.1
theorem ok_okc {s : Str} (h : okLetters s = true) : Okc s := fun c hc => by
  unfold okLetters at h
  simp only [Bool.and_eq_true] at h
  have : ∀ c ∈ SM.cps.toList, c < 0x110000 := by decide +kernel
  exact this c (okFrom_mem h.2 c hc)
theorem badAt_rep {ls : List Nat} {c s : Nat} (hc : c ∈ ls) (hs : s ∉ ls) (r : List Nat) : ∀ (n i : Nat), badAt ls i (List.replicate n c ++ s :: r) = some (i + n)
  | 0, i => by
    show (if s ∈ ls then _ else some i) = some (i + 0)
    rw [if_neg hs]
    rfl
  | n + 1, i => by
    show (if c ∈ ls then badAt ls (i + 1) (List.replicate n c ++ s :: r) else some i) = _
    rw [if_pos hc, badAt_rep hc hs r n (i + 1)]
    congr 1
    omega
theorem strOk_of {z : Str} (h : Okc z) : PyData.strOk z = true := by
  unfold PyData.strOk
  rw [← Array.all_toList, List.all_eq_true]
  intro c hc
  exact decide_eq_true (h c hc)
theorem shaped_lay {d : PyData} (h : SeqAt.shaped d = true) : PyData.canLay0 d = true := by
  unfold SeqAt.shaped at h
  exact (Bool.and_eq_true_iff.mp h).1
section
variable {K : PySem.W.Frag} {H : Hp} {Q : VK} {x y : V} {d : PyData}
theorem s_ne_refl (hx : Dp K H x d) (hy : Dp K H y d) (sd : SeqAt.shaped d = true) (k : Q (.bl false) H) : rNes K x y H Q := s_ne_d hx hy sd sd (by rw [SeqAt.eqv_refl d (shaped_lay sd)]; exact k)
theorem s_eq_refl (hx : Dp K H x d) (hy : Dp K H y d) (sd : SeqAt.shaped d = true) (k : Q (.bl true) H) : rEqs K x y H Q := s_eq_d hx hy sd sd (by rw [SeqAt.eqv_refl d (shaped_lay sd)]; exact k)
end
section
variable {P : Program} {w : World} {K : PySem.W.Frag} {mg : Str → Option Value} {base : Heap}
theorem Stt.same {D H H' : Hp} {st : Addr} (h : Stt K D H st) (e : Same H H') : Stt K D H' st := by
  obtain ⟨⟨c, a, b, e1, cells, h1, h2, h3⟩, h4⟩ := h
  exact ⟨⟨c, a, b, e1, cells, e _ _ h1, h2, h3⟩, h4⟩
theorem S_law_refusals : FnScope ["state", "letters", "images", "size", "pairs", "bad", "call", "table", "k", "place", "sign", "spoilt"] ["state", "letters", "images", "size", "pairs"] (d_law_refusals).scope := ⟨rfl, rfl, rfl, by decide +kernel, rfl, by decide +kernel, by decide +kernel⟩
def sp_refusals (K : PySem.W.Frag) : Sp := fun vs H Q E => ∃ (D : Hp) (st pa : Addr) (xs : List V) (ps : List Pr) (l im : Str) (size : Nat), vs = [.ref st, .str l, .str im, .int (size : Nat), .ref pa] ∧ Same D H ∧ Stt K D H st ∧ okLetters l = true ∧ okLetters im = true ∧ size ≤ 10 ∧ pa ≠ st ∧ D pa = none ∧ H pa = some (.lst xs) ∧ DpAll K D xs (ps.map dP) ∧ Short ps ∧
  ∀ D' H', Gr (· = st) D H D' H' → Stt K D' H' st → Q (.bl true) H'
theorem w_law_refusals (T : Txt P w K mg) : Has P w K mg base 9 "_law_refusals" (sp_refusals K) := by
  have S := S_law_refusals
  have G_law_next := w_law_next (base := base) T
  have G_law_asked := w_law_asked (base := base) T
  refine has_of (k := 8) T.d_law_refusals T.gd_law_refusals S (fun _ _ _ _ _ _ us hl => match us, hl with | [_, _, _, _, _], _ => rfl) (fun vs H Q E h => ?_) (fun f cdv A outer s H vs Q E hr h => ?_)
  · obtain ⟨D, st, pa, xs, ps, l, im, size, rfl, _⟩ := h
    rfl
  · obtain ⟨D, st, pa, xs, ps, l, im, size, rfl, sm, X, ok1, ok2, hsz, hps, hDp, hHp, hxs, hsh, q⟩ := h
    have hl := ok_len ok1
    have hi := ok_len ok2
    have hlz := le1000 (Nat.le_trans hl.2 (by decide) : l.length ≤ 1000)
    have hiz := le1000 (Nat.le_trans hi.2 (by decide) : im.length ≤ 1000)
    refine ⟨_, (pss_cons (ps_set (i := 5) S.nd rfl (Or.inl rfl) (pe_ix (ixK_seq K) (pe_lst (pa_cons pe_str (pa_cons pe_str (pa_cons pe_str (pa_cons pe_str (pa_cons pe_str (pa_cons pe_str (pa_cons pe_str pa_nil)))))))) (pe_has G_law_next (hr.mono (by decide)) (takes_of rfl rfl rfl rfl) rfl (pa_cons (pv 0) (pa_cons pe_int pa_nil))) (fun _ _ => rfl)))
    (pss_cons (ps_for (passes_of rfl) rfl (pi_range1 (by rfl) T.b_range (pa_cons pe_int pa_nil)) (pg_name (i := 6) S.nd rfl (Or.inl rfl))
      (pss_cons (ps_if (pt_cmpR (cK_ne K hr.units) (pe_has G_law_asked (hr.mono (by decide)) (takes_of rfl rfl rfl rfl) rfl (pa_cons (pv 6) (pa_cons (pv 5) (pa_cons (pv 2) (pa_cons (pv 3) (pa_cons (pv 4) (pa_cons pe_str pa_nil))))))) (pe_tup (pa_cons pe_str pa_nil)) (nomark _))
      (pss_one (ps_ret pe_bl))
      pss_nil)
    (pss_one (ps_if (pt_cmpR (cK_ne K hr.units) (pe_has G_law_asked (hr.mono (by decide)) (takes_of rfl rfl rfl rfl) rfl (pa_cons (pv 6) (pa_cons (pv 1) (pa_cons (pv 5) (pa_cons (pv 3) (pa_cons (pv 4) (pa_cons pe_str pa_nil))))))) (pe_tup (pa_cons pe_str pa_nil)) (nomark _))
      (pss_one (ps_ret pe_bl))
      pss_nil))))
    (pss_cons (ps_set (i := 7) S.nd rfl (Or.inl rfl) pe_dnewK)
    (pss_cons (ps_for (passes_of rfl) rfl (pi_range1 (by rfl) T.b_range (pa_cons (pv 3) pa_nil)) (pg_name (i := 8) S.nd rfl (Or.inl rfl))
      (pss_one (ps_dput (hu_of hr) (pv 7) (pe_op oX_mul (pe_ix (ixK_seq K) (pv 1) pe_int (fun _ _ => rfl)) (pe_op (oK_add K) (pv 8) pe_int)) (pe_ix (ixK_seq K) (pv 2) pe_int (fun _ _ => rfl)) rfl)))
    (pss_cons (ps_set (i := 9) S.nd rfl (Or.inl rfl) (pe_has G_law_next (hr.mono (by decide)) (takes_of rfl rfl rfl rfl) rfl (pa_cons (pv 0) (pa_cons pe_int pa_nil))))
    (pss_cons (ps_set (i := 10) S.nd rfl (Or.inl rfl) (pe_ix (ixK_seq K) (pe_lst (pa_cons pe_str (pa_cons pe_str (pa_cons pe_str (pa_cons pe_str pa_nil))))) (pe_has G_law_next (hr.mono (by decide)) (takes_of rfl rfl rfl rfl) rfl (pa_cons (pv 0) (pa_cons pe_int pa_nil))) (fun _ _ => rfl)))
    (pss_cons (ps_set (i := 11) S.nd rfl (Or.inl rfl) (pe_op (oK_add K) (pe_op (oK_add K) (pe_op (oK_add K) (pe_op oX_mul (pe_ix (ixK_seq K) (pv 1) pe_int (fun _ _ => rfl)) (pv 9)) (pv 10)) (pe_op oX_mul (pe_ix (ixK_seq K) (pv 1) pe_int (fun _ _ => rfl)) (pe_has G_law_next (hr.mono (by decide)) (takes_of rfl rfl rfl rfl) rfl (pa_cons (pv 0) (pa_cons pe_int pa_nil))))) (pe_ix (ixK_seq K) (pe_lst (pa_cons pe_str (pa_cons pe_str pa_nil))) (pe_has G_law_next (hr.mono (by decide)) (takes_of rfl rfl rfl rfl) rfl (pa_cons (pv 0) (pa_cons pe_int pa_nil))) (fun _ _ => rfl))))
    (pss_cons (ps_if (pt_cmpR (cK_ne K hr.units) (pe_has G_law_asked (hr.mono (by decide)) (takes_of rfl rfl rfl rfl) rfl (pa_cons pe_int (pa_cons (pv 1) (pa_cons (pv 2) (pa_cons (pv 3) (pa_cons (pv 7) (pa_cons (pv 11) pa_nil))))))) (pe_tup (pa_cons pe_str (pa_cons (pv 11) (pa_cons (pv 9) pa_nil)))) (nomark _))
      (pss_one (ps_ret pe_bl))
      pss_nil)
    (pss_one (ps_ret (pe_cmpR (cK_eq K hr.units) (pe_has G_law_asked (hr.mono (by decide)) (takes_of rfl rfl rfl rfl) rfl (pa_cons pe_int (pa_cons (pv 1) (pa_cons (pv 2) (pa_cons (pv 3) (pa_cons (pv 4) (pa_cons pe_str pa_nil))))))) (pe_tup (pa_cons pe_str pa_nil)) (nomark _)))))))))))), ?_⟩
    walk_at "rd"
    refine ⟨le1000 (by simp), fun p np => ?_⟩
    have nps : p ≠ st := fun e => X.is (e ▸ np)
    have g2 := (Gr.refl (m := (· = st)) sm).lay (o := .lst [.str "", .str "ba", .str "aa", .str "abcde", .str "aB", .str "a1", .str "a "]) np
    walk_at "rd"
    refine ⟨D, st, _, rfl, by decide, by decide, g2.sub, X.put nps, fun D3 H3 r g3 X3 r0 r1 => ?_⟩
    obtain ⟨bad, ez, lz, nz⟩ : ∃ z : Str, atI [V.str "", .str "ba", .str "aa", .str "abcde", .str "aB", .str "a1", .str "a "] r = some (.str z) ∧ z.length ≤ 1000 ∧ okLetters z = false := by
      have hr : r = 0 ∨ r = 1 ∨ r = 2 ∨ r = 3 ∨ r = 4 ∨ r = 5 ∨ r = 6 := by omega
      rcases hr with rfl | rfl | rfl | rfl | rfl | rfl | rfl <;> exact ⟨_, rfl, by decide, by decide +kernel⟩
    refine s_ix_l (sql (g3.same p _ nps upd_same)) ez ?_
    have gA := g2.trans g3
    have hbz := le1000 lz
    have hp3 := gA.same pa _ hps hHp
    have hxs3 := Y.Dp.monoAll gA.dd hxs
    walk_at "rd"
    refine ⟨_, rfl, by decide, by decide, lp_it walk_r0 (n := 2) (fun i σ H' => ∃ o6, Same H3 H' ∧ σ = [some (.ref st), some (.str l), some (.str im), some (.int (size : Nat)), some (.ref pa), some (.str bad), o6, none, none, none, none, none]) ⟨none, Same.refl H3, rfl⟩ (fun _ _ _ _ _ => trivial) ?_ ?_⟩
    · rintro i x σ H4 H5 hi2 ⟨o6, s4, rfl⟩ ⟨rfl, rfl⟩
      have letters : ∀ (H : Hp) (s : Same H3 H) (l1 l2 : Str) (Q : VK), l1.length ≤ sizeLine → l2.length ≤ sizeLine → ¬ (okLetters l1 = true ∧ okLetters l2 = true) → (∀ H' q, Same H3 H' → H' q = some (.tup [.str "letters"]) → Q (.ref q) H') → sp_asked K [.int (i : Nat), .str l1, .str l2, .int (size : Nat), .ref pa, .str ""] H Q E := by
        intro H s l1 l2 Q h1 h2 nok k
        refine ⟨D3, (i : Nat), l1, l2, (size : Nat), .ref pa, "", rfl, h1, h2, gA.sub.trans s, ?_⟩
        have : i = 0 ∨ i = 1 := by omega
        rcases this with rfl | rfl
        · exact .inl ⟨rfl, nok, fun H' q s' e => k H' q (s.trans s') e⟩
        · exact .inr (.inl ⟨rfl, nok, ⟨xs, ps, pa, rfl, sql (s _ _ hp3), hxs3, hsh⟩, fun H' q s' e => k H' q (s.trans s') e⟩)
      walk_at "rd"
      refine letters _ s4 bad im _ hbz hiz (fun z => by rw [nz] at z; cases z.1) fun H6 t1 s6 e6 => ?_
      walk_at "rd"
      refine ⟨le1000 (by simp), fun c nc => ?_⟩
      have s7 := same_new (o := .tup [.str "letters"]) nc
      refine s_ne_refl (d := .tuple [.str "letters"]) (.tup (sqt (s7 _ _ e6)) (.cons (.str _) .nil)) (.tup (sqt upd_same) (.cons (.str _) .nil)) (by decide +kernel) ?_
      walk_at "rd"
      refine letters _ (s6.trans s7) l bad _ hlz hbz (fun z => by rw [nz] at z; cases z.2) fun H8 t2 s8 e8 => ?_
      walk_at "rd"
      refine ⟨le1000 (by simp), fun c2 nc2 => ?_⟩
      have s9 := same_new (o := .tup [.str "letters"]) nc2
      refine s_ne_refl (d := .tuple [.str "letters"]) (.tup (sqt (s9 _ _ e8)) (.cons (.str _) .nil)) (.tup (sqt upd_same) (.cons (.str _) .nil)) (by decide +kernel) ?_
      walk_at "rd"
      exact ⟨_, s8.trans s9, rfl⟩
    · rintro σ H4 ⟨o6, s4, rfl⟩
      have g4 := gA.trans (Gr.ofSame gA.sub s4).no
      have X4 := X3.same s4
      have l0 : 0 < l.cps.toList.length := by rw [len_list]; omega
      have i0 : 0 < im.cps.toList.length := by rw [len_list]; omega
      have hlm : l.cps.toList[0] ∈ l.cps.toList := List.getElem_mem l0
      have hlo : l.cps.toList[0] < 0x110000 := ok_okc ok1 _ hlm
      have ixl : ∀ (H : Hp) (Q : VK), Q (.str ⟨#[l.cps.toList[0]]⟩) H → rIx K (.str l) (.int 0) H Q := fun H Q k => s_ix_s hlz (atI_i (j := 0) rfl (List.getElem?_eq_getElem l0)) k
      have ixi : ∀ (H : Hp) (Q : VK), Q (.str ⟨#[im.cps.toList[0]]⟩) H → rIx K (.str im) (.int 0) H Q := fun H Q k => s_ix_s hiz (atI_i (j := 0) rfl (List.getElem?_eq_getElem i0)) k
      generalize l.cps.toList[0] = c at *
      generalize im.cps.toList[0] = ci at *
      have rep : ∀ (n : Int) (H : Hp) (Q : VK), 0 ≤ n → n ≤ 1000 → Q (.str (Txt.mul ⟨#[c]⟩ n)) H → rTimesX (.str ⟨#[c]⟩) (.int n) H Q := fun n H Q h0 h1 k => .inr ⟨_, _, rfl, rfl, mulOk_one h0 h1, k⟩
      walk_at "rd"
      intro td ntd
      have ntst : td ≠ st := fun e => X4.is (e ▸ ntd)
      have hDtd : D3 td = none := g4.free ntd
      have g5 := g4.lay (o := .dK []) ntd
      walk_at "rd"
      refine ⟨_, rfl, by omega, by omega, lp_it walk_r0 (fun i σ H' => ∃ kvs t o8, Gr (· = st) D H D3 H' ∧ Stt K D3 H' st ∧ H' td = some (.dK kvs) ∧ KvR IsS kvs t ∧ (∀ p ∈ t, p.2.length ≤ 1000) ∧ t.length ≤ i ∧ σ = [some (.ref st), some (.str l), some (.str im), some (.int (size : Nat)), some (.ref pa), some (.str bad), o6, some (.ref td), o8, none, none, none])
        ⟨[], [], none, g5, X4.put ntst, upd_same, .nil, fun p z => (nomatch z), Nat.le_refl _, rfl⟩ (fun _ _ _ _ _ => trivial) ?_ ?_⟩
      · rintro i x σ H5 H6 hi5 ⟨kvs, t, o8, g6, X6, hk, hkv, hty, htl, rfl⟩ ⟨rfl, rfl⟩
        have hkl := hkv.len
        walk_at "rd"
        refine ixi _ _ ?_
        walk_at "rd"
        refine ixl _ _ ?_
        walk_at "rd"
        refine rep _ _ _ (by omega) (by omega) ?_
        refine ⟨td, _, rfl, dputS hk (ltBig (by omega)), ?_⟩
        refine ⟨_, _, _, g6.put hDtd (.inl (g4.kept _ ntd)), X6.put ntst, upd_same, KvR.put (R := IsS) rfl hkv, ?_, Nat.le_trans (putS_len _ _ _) (by omega), rfl⟩
        intro p hp
        unfold putS at hp
        split at hp
        · obtain ⟨w, hw, e⟩ := List.mem_map.mp hp
          split at e
          · rw [← e]
            exact (by decide : (1 : Nat) ≤ 1000)
          · rw [← e]
            exact hty w hw
        · rcases List.mem_append.mp hp with hp | hp
          · exact hty p hp
          · rw [List.mem_singleton.mp hp]
            exact (by decide : (1 : Nat) ≤ 1000)
      · rintro σ H5 ⟨kvs, t, o8, g6, X6, hk, hkv, hty, htl, rfl⟩
        walk_at "rd"
        refine ⟨D3, st, _, rfl, by decide, by decide, g6.sub, X6, fun D7 H7 pl g7 X7 p0 p1 => ?_⟩
        walk_at "rd"
        refine ⟨le1000 (by simp), fun sl nsl => ?_⟩
        have nss : sl ≠ st := fun e => X7.is (e ▸ nsl)
        have g8 := (Gr.refl (m := (· = st)) g7.sub).lay (o := .lst [.str "?", .str "A", .str " ", .str "0"]) nsl
        walk_at "rd"
        refine ⟨D7, st, _, rfl, by decide, by decide, g8.sub, X7.put nss, fun D9 H9 sg g9 X9 s0 s1 => ?_⟩
        obtain ⟨sign, sc, es, hsc, esc, osc⟩ : ∃ (z : Str) (sc : Nat), atI [V.str "?", .str "A", .str " ", .str "0"] sg = some (.str z) ∧ sc ∉ SM.cps.toList ∧ z.cps.toList = [sc] ∧ sc < 0x110000 := by
          have hr : sg = 0 ∨ sg = 1 ∨ sg = 2 ∨ sg = 3 := by omega
          rcases hr with rfl | rfl | rfl | rfl <;> exact ⟨_, _, rfl, by decide +kernel, rfl, by decide⟩
        refine s_ix_l (sql (g9.same sl _ nss upd_same)) es ?_
        have ls : sign.length = 1 := by
          rw [← len_list, esc]
          rfl
        have mlen : ∀ n : Int, 0 ≤ n → n ≤ 1000 → (Txt.mul ⟨#[c]⟩ n).length = n.toNat := fun n h0 h1 => by
          rw [← len_list, mul_one_len h0, List.length_replicate]
        have mok : ∀ n : Int, 0 ≤ n → Okc (Txt.mul ⟨#[c]⟩ n) := fun n h0 d hd => by
          rw [mul_one_len h0] at hd
          rw [(List.mem_replicate.mp hd).2]
          exact hlo
        have m1 := mlen pl p0 (by omega)
        have hk9 := (g7.trans (g8.trans g9)).same td _ ntst hk
        have gB := g6.trans (g7.trans (g8.trans g9))
        walk_at "rd"
        refine ixl _ _ ?_
        walk_at "rd"
        refine rep _ _ _ p0 (by omega) ?_
        walk_at "rd"
        refine s_add_s (leBig (by omega)) ?_
        walk_at "rd"
        refine ixl _ _ ?_
        walk_at "rd"
        refine ⟨D9, st, _, rfl, by decide, by decide, g9.sub, X9, fun D10 H10 n3 g10 X10 a0 a1 => ?_⟩
        have m3 := mlen n3 a0 (by omega)
        refine rep _ _ _ a0 (by omega) ?_
        refine s_add_s (leBig (by rw [app_len]; omega)) ?_
        walk_at "rd"
        refine ⟨le1000 (by simp), fun tl ntl => ?_⟩
        have nts : tl ≠ st := fun e => X10.is (e ▸ ntl)
        have g11 := (Gr.refl (m := (· = st)) g10.sub).lay (o := .lst [.str "", .str "!"]) ntl
        walk_at "rd"
        refine ⟨D10, st, _, rfl, by decide, by decide, g11.sub, X10.put nts, fun D12 H12 n2 g12 X12 b0 b1 => ?_⟩
        obtain ⟨z2, ez2, lz2, oz2⟩ : ∃ z : Str, atI [V.str "", .str "!"] n2 = some (.str z) ∧ z.length ≤ 1 ∧ Okc z := by
          have hr : n2 = 0 ∨ n2 = 1 := by omega
          rcases hr with rfl | rfl <;> exact ⟨_, rfl, by decide, by unfold Okc; decide⟩
        refine s_ix_l (sql (g12.same tl _ nts upd_same)) ez2 ?_
        refine s_add_s (leBig (by rw [app_len, app_len]; omega)) ?_
        have gC := gB.trans (g10.trans (g11.trans g12))
        have hk12 := (g10.trans (g11.trans g12)).same td _ ntst hk9
        have elist : (Txt.mul ⟨#[c]⟩ pl ++ sign ++ Txt.mul ⟨#[c]⟩ n3 ++ z2).cps.toList = List.replicate pl.toNat c ++ sc :: ((Txt.mul ⟨#[c]⟩ n3).cps.toList ++ z2.cps.toList) := by
          show TL.tl _ = _
          rw [TL.tl_append, TL.tl_append, TL.tl_append, TL.tl, TL.tl, mul_one_len p0, esc]
          simp
        have hbad : badAt l.cps.toList 0 (Txt.mul ⟨#[c]⟩ pl ++ sign ++ Txt.mul ⟨#[c]⟩ n3 ++ z2).cps.toList = some pl.toNat := by
          rw [elist, badAt_rep hlm (ok_free ok1 hsc), Nat.zero_add]
        have hsl : (Txt.mul ⟨#[c]⟩ pl ++ sign ++ Txt.mul ⟨#[c]⟩ n3 ++ z2).length ≤ 1000 := by
          rw [app_len, app_len, app_len]
          omega
        have hso : Okc (Txt.mul ⟨#[c]⟩ pl ++ sign ++ Txt.mul ⟨#[c]⟩ n3 ++ z2) := (((mok pl p0).app (fun d hd => by rw [esc] at hd; rw [List.mem_singleton.mp hd]; exact osc)).app (mok n3 a0)).app oz2
        generalize Txt.mul ⟨#[c]⟩ pl ++ sign ++ Txt.mul ⟨#[c]⟩ n3 ++ z2 = sp at *
        have hp12 := gC.same pa _ hps hHp
        walk_at "rd"
        refine ⟨D12, 2, l, im, (size : Nat), .ref td, sp, rfl, hlz, hiz, g12.sub, .inr (.inr (.inr ⟨rfl, ⟨ok1, ok2⟩, td, kvs, t, pl.toNat, rfl, hk12, hkv, hty, hsl, hbad, fun H13 q1 s13 e13 => ?_⟩))⟩
        rw [show ((pl.toNat : Nat) : Int) = pl by omega] at e13
        walk_at "rd"
        refine ⟨le1000 (by simp), fun c3 nc3 => ?_⟩
        have s14 := same_new (o := .tup [.str "word", .str sp, .int pl]) nc3
        refine s_ne_refl (d := .tuple [.str "word", .str sp, .int pl]) (.tup (sqt (s14 _ _ e13)) (.cons (.str _) (.cons (.str _) (.cons (.int _) .nil)))) (.tup (sqt upd_same) (.cons (.str _) (.cons (.str _) (.cons (.int _) .nil)))) ?_ ?_
        · unfold SeqAt.shaped
          rw [Bool.and_eq_true]
          refine ⟨?_, of_decide_eq_true rfl |> fun h => decide_eq_true h⟩
          show (PyData.canLay0 (.str "word") && (PyData.canLay0 (.str sp) && (PyData.canLay0 (.int pl) && true))) = true
          rw [show PyData.canLay0 (.str sp) = true from strOk_of hso, show PyData.canLay0 (.str "word") = true by decide +kernel]
          rfl
        walk_at "rd"
        have sA := s13.trans s14
        refine ⟨D12, 0, l, im, (size : Nat), .ref pa, "", rfl, hlz, hiz, g12.sub.trans sA, .inr (.inr (.inl ⟨rfl, ⟨ok1, ok2⟩, fun H15 q2 s15 e15 => ?_⟩))⟩
        walk_at "rd"
        refine ⟨le1000 (by simp), fun c4 nc4 => ?_⟩
        have s16 := same_new (o := .tup [.str "none"]) nc4
        refine s_eq_refl (d := .tuple [.str "none"]) (.tup (sqt (s16 _ _ e15)) (.cons (.str _) .nil)) (.tup (sqt upd_same) (.cons (.str _) .nil)) (by decide +kernel) ?_
        have sB := sA.trans (s15.trans s16)
        exact q D12 _ (gC.trans (Gr.ofSame g12.sub sB).no) (X12.same sB)
end
end H87

namespace H87
open PySem PySem.Spec L2 He Y Hk87
local macro_rules | `(tactic| walk_at "rd1") => `(tactic| first
  | with_reducible refine s_seq ?_
  | with_reducible refine s_asg ?_
  | with_reducible refine s_gname ?_
  | ((with_reducible refine s_var (v := ?_) ?_ ?_); rotate_left; exact rfl)
  | with_reducible refine s_c ?_
  | with_reducible refine s_op ?_
  | with_reducible refine s_un ?_
  | with_reducible refine s_nil ?_
  | with_reducible refine s_cons ?_
  | with_reducible refine s_CB ?_
  | with_reducible refine s_ifS ?_
  | with_reducible refine s_test ?_
  | with_reducible refine s_B ?_
  | with_reducible refine s_xb ?_
  | with_reducible refine s_xi ?_
  | with_reducible refine s_xs ?_
  | with_reducible refine s_or ?_
  | with_reducible refine s_and ?_
  | with_reducible refine s_not ?_
  | with_reducible refine s_orV ?_
  | with_reducible refine s_andV ?_
  | with_reducible refine s_notV ?_
  | with_reducible refine s_ret ?_
  | with_reducible refine s_retN ?_
  | with_reducible refine s_next ?_
  | with_reducible refine s_drop ?_
  | with_reducible refine s_yes ?_
  | with_reducible refine s_for ?_
  | with_reducible refine s_lc ?_
  | with_reducible refine s_iStr ?_
  | with_reducible refine s_iList ?_
  | with_reducible refine s_iTup ?_
  | with_reducible refine s_iR1 ?_
  | with_reducible refine s_iR2 ?_
  | with_reducible refine s_iE ?_
  | with_reducible refine s_iET ?_
  | with_reducible refine s_iES ?_
  | with_reducible refine s_tup ?_
  | with_reducible refine s_lst ?_
  | with_reducible refine s_BM ?_
  | with_reducible refine s_BM0 ?_
  | with_reducible refine s_BMS ?_
  | with_reducible refine s_M1 ?_
  | with_reducible refine s_sl ?_
  | with_reducible refine s_noP ?_
  | with_reducible refine s_po ?_
  | with_reducible refine s_call ?_
  | with_reducible refine s_callS ?_
  | with_reducible refine s_make ?_
  | with_reducible refine s_makeS ?_
  | with_reducible refine s_methS ?_
  | with_reducible refine s_callO ?_
  | with_reducible refine s_dnew ?_
  | with_reducible refine s_dget ?_
  | with_reducible refine s_din ?_
  | with_reducible refine s_dnin ?_
  | with_reducible refine s_dput ?_
  | with_reducible refine s_dsetd ?_
  | with_reducible refine s_dget2 ?_
  | with_reducible refine s_fld ?_
  | with_reducible refine s_sFld ?_
  | with_reducible refine s_rz ?_
  | with_reducible refine s_asgS ?_
  | with_reducible refine s_gSub ?_
  | with_reducible refine s_ifE ?_
  | with_reducible refine s_add_i ?_
  | with_reducible refine s_sub ?_
  | with_reducible refine s_neg ?_
  | with_reducible refine s_eq_i ?_
  | with_reducible refine s_eq_s ?_
  | with_reducible refine s_ne_i ?_
  | with_reducible refine s_ne_s ?_
  | with_reducible refine s_lt_i ?_
  | with_reducible refine s_le_i ?_
  | with_reducible refine s_gt_i ?_
  | with_reducible refine s_ge_i ?_
  | with_reducible refine s_lt_s ?_
  | with_reducible refine s_le_s ?_
  | with_reducible refine s_gt_s ?_
  | with_reducible refine s_ge_s ?_
  | with_reducible refine s_in_c ?_
  | with_reducible refine s_ni_c ?_
  | with_reducible refine s_isN ?_
  | with_reducible refine s_noN ?_
  | with_reducible refine s_abs ?_
  | with_reducible refine s_min2 ?_
  | with_reducible refine s_max2 ?_
  | with_reducible refine s_int_i ?_
  | ((with_reducible refine s_len_s ?_ ?_); assumption)
  | ((with_reducible refine s_len_l (xs := ?_) ?_ ?_); rotate_left; assumption)
  | ((with_reducible refine s_len_t (xs := ?_) ?_ ?_); rotate_left; assumption)
  | with_reducible refine s_pair upd_same ?_
  | with_reducible refine s_callS ?_
  | with_reducible refine jtT ?_
  | with_reducible refine jtF ?_
  | with_reducible refine jtNT ?_
  | with_reducible refine jtNF ?_
  | dsimp only)
local macro_rules | `(tactic| walk_at "rd") => `(tactic| repeat (walk_at "rd1"))

theorem lay_P {p : Pr} (h1 : Okc p.1) (h2 : Okc p.2) : PyData.canLay0 (dP p) = true := by
  show (PyData.canLay0 (.str p.1) && (PyData.canLay0 (.str p.2) && true)) = true
  rw [show PyData.canLay0 (.str p.1) = true from strOk_of h1, show PyData.canLay0 (.str p.2) = true from strOk_of h2]
  rfl
theorem lay_Ps : ∀ {ps : List Pr}, (∀ p ∈ ps, Okc p.1 ∧ Okc p.2) → PyData.canLayAll0 (ps.map dP) = true ∧ PyData.depthAll (ps.map dP) ≤ 1
  | [], _ => ⟨rfl, Nat.zero_le _⟩
  | p :: ps, h => by
    obtain ⟨h1, h2⟩ := lay_Ps fun q hq => h q (List.mem_cons_of_mem _ hq)
    obtain ⟨o1, o2⟩ := h p (List.mem_cons_self ..)
    refine ⟨?_, ?_⟩
    · show (PyData.canLay0 (dP p) && PyData.canLayAll0 (ps.map dP)) = true
      rw [lay_P o1 o2, h1]
      rfl
    · show max (PyData.depth (dP p)) (PyData.depthAll (ps.map dP)) ≤ 1
      have : PyData.depth (dP p) = 1 := rfl
      omega
theorem shaped_Ps {ps : List Pr} (h : ∀ p ∈ ps, Okc p.1 ∧ Okc p.2) : SeqAt.shaped (dPs ps) = true := by
  unfold SeqAt.shaped
  rw [Bool.and_eq_true]
  refine ⟨(lay_Ps h).1, decide_eq_true ?_⟩
  show PyData.depthAll (ps.map dP) + 1 ≤ 64
  have := (lay_Ps h).2
  omega
theorem badAt_none {ls : List Nat} : ∀ {l : List Nat} {i : Nat}, (∀ c ∈ l, c ∈ ls) → badAt ls i l = none
  | [], _, _ => rfl
  | c :: r, i, h => by
    show (if c ∈ ls then badAt ls (i + 1) r else some i) = none
    rw [if_pos (h c (List.mem_cons_self ..))]
    exact badAt_none fun d hd => h d (List.mem_cons_of_mem _ hd)
theorem small_put {t : Tb} {k v : Str} (h : ∀ p ∈ t, p.2.length ≤ 1000) (hv : v.length ≤ 1000) : ∀ p ∈ putS t k v, p.2.length ≤ 1000 := by
  intro p hp
  unfold putS at hp
  split at hp
  · obtain ⟨q, hq, e⟩ := List.mem_map.mp hp
    split at e
    · rw [← e]
      exact hv
    · rw [← e]
      exact h q hq
  · rcases List.mem_append.mp hp with hp | hp
    · exact h p hp
    · rw [List.mem_singleton.mp hp]
      exact hv
theorem bW_small {size : Int} {w im : Str} : ∀ {n j : Nat} {t t' : Tb}, bW size w im n j t = some t' → (∀ p ∈ t, p.2.length ≤ 1000) → ∀ p ∈ t', p.2.length ≤ 1000
  | 0, j, t, t', h, e => by
    cases h
    exact e
  | n + 1, j, t, t', h, e => by
    rw [bW_succ] at h
    have hc : (chr im j).length ≤ 1000 := by
      show (1 : Nat) ≤ 1000
      decide
    split at h
    · split at h
      · exact bW_small h (small_put e hc)
      · cases h
    · exact bW_small h (small_put e hc)
theorem bP_small {size : Int} : ∀ {ps : List Pr} {t t' : Tb}, bP size ps t = some t' → (∀ p ∈ t, p.2.length ≤ 1000) → ∀ p ∈ t', p.2.length ≤ 1000
  | [], t, t', h, e => by
    cases h
    exact e
  | p :: r, t, t', h, e => by
    rw [bP_cons] at h
    split at h
    · cases h
    · rename_i t1 h1
      exact bP_small h (bW_small h1 e)
section
variable {P : Program} {w : World} {K : PySem.W.Frag} {mg : Str → Option Value} {base : Heap}
theorem gr_two {st kd : Addr} {D H D1 H1 D2 H2 : Hp} (a : Gr (· = st) D H D1 H1) (b : Gr (fun b => b = st ∨ b = kd) D1 H1 D2 H2) (h : H kd = none) : Gr (· = st) D H D2 H2 where
  same := fun x u hm e => b.same x u (fun z => z.elim hm fun z => by rw [← z, e] at h; cases h) (a.same x u hm e)
  kept := fun x e => a.kept x (b.kept x e)
  dd := a.dd.trans b.dd
  sub := b.sub
  new := fun x u e => (b.new x u e).elim (a.new x u) fun z => .inr (a.kept x z)
theorem S_law : FnScope ["script", "state", "letters", "images", "hidden", "size", "many", "longest", "known", "pairs", "k", "given", "bad", "more", "answer", "table", "word", "at", "image", "where"] ["script"] (d_law).scope := ⟨rfl, rfl, rfl, by decide +kernel, rfl, by decide +kernel, by decide +kernel⟩
def sp_law (K : PySem.W.Frag) : Sp := fun vs H Q _ => ∃ (a : Addr) (ns : List Int), vs = [.ref a] ∧ SqL K H a (ns.map V.int) ∧ ns.length ≤ 63 ∧ ∀ H', Q (.bl true) H'
/-- the drawn pairs stand at pa -/
structure LwI (K : PySem.W.Frag) (D1 H1 : Hp) (st pa : Addr) (n B : Nat) (D H : Hp) (xs : List V) (ps : List Pr) : Prop where
  g : Gr (· = st) D1 H1 D H
  X : Stt K D H st
  free : D pa = none
  at_ : H pa = some (.lst xs)
  dp : DpAll K D xs (ps.map dP)
  len : ps.length = n
  ok : ∀ p ∈ ps, Pok B p
/-- the state after the pairs are drawn -/
def LwR (K : PySem.W.Frag) (D1 H1 : Hp) (a st pa kd : Addr) (l im : Str) (h : Int) (size mn lg B : Nat) (σ : L2.St) (H : Hp) : Prop := ∃ D xs ps o10 o16 o17 o18 o19, LwI K D1 H1 st pa mn B D H xs ps ∧
  σ = [some (.ref a), some (.ref st), some (.str l), some (.str im), some (.int h), some (.int (size : Nat)), some (.int (mn : Nat)), some (.int (lg : Nat)), some (.ref kd), some (.ref pa), o10, none, none, none, none, none, o16, o17, o18, o19]
theorem LwI.more {K : PySem.W.Frag} {D1 H1 D H : Hp} {st pa : Addr} {n B C : Nat} {xs : List V} {ps : List Pr} (h : LwI K D1 H1 st pa n B D H xs ps) (c : B ≤ C) : LwI K D1 H1 st pa n C D H xs ps :=
  { h with ok := fun p hp => ⟨Nat.le_trans (h.ok p hp).l1 c, Nat.le_trans (h.ok p hp).l2 c, (h.ok p hp).o1, (h.ok p hp).o2⟩ }
/-- a call that draws and leaves the pairs as they are -/
theorem LwI.on {K : PySem.W.Frag} {D1 H1 D H D' H' : Hp} {st pa : Addr} {n B : Nat} {xs : List V} {ps : List Pr} (h : LwI K D1 H1 st pa n B D H xs ps) (hs : pa ≠ st) (g : Gr (· = st) D H D' H') (X : Stt K D' H' st) : LwI K D1 H1 st pa n B D' H' xs ps :=
  ⟨h.g.trans g, X, g.stay h.free h.at_, g.same pa _ hs h.at_, Y.Dp.monoAll g.dd h.dp, h.len, h.ok⟩
theorem w_law (T : Txt P w K mg) {fd : FuncData} (F : FunD K Hk87.d_law.name Hk87.d_law.qual Hk87.d_law.params Hk87.d_law.body Hk87.d_law.scope [] [] (fAd K Hk87.d_law.at_) fd) : FnOk P w K mg base (L2.CX P w) 11 (fAd K Hk87.d_law.at_) fd ["script"] (sp_law K) := by
  have S := S_law
  have G_law_start := w_law_start (base := base) T
  have G_law_next := w_law_next (base := base) T
  have G_law_word := w_law_word (base := base) T
  have G_law_image := w_law_image (base := base) T
  have G_law_spoil := w_law_spoil (base := base) T
  have G_law_refusals := w_law_refusals (base := base) T
  have G_law_first_bad := w_law_first_bad (base := base) T
  have G_law_refused := w_law_refused (base := base) T
  have G_fit_turner := w_fit_turner (base := base) T
  have G_law_table := w_law_table (base := base) T
  have G_law_clash := w_law_clash (base := base) T
  have G_law_good_turner := w_law_good (base := base) T
  refine F.ok (k := 10) S (fun vs H Q E h => ?_) (fun cdv A outer s H vs Q E hr h => ?_)
  · obtain ⟨a, ns, rfl, _⟩ := h
    rfl
  · obtain ⟨a, ns, rfl, ha, hns, q⟩ := h
    refine ⟨_, (pss_cons (ps_set (i := 1) S.nd rfl (Or.inr rfl) (pe_has G_law_start (hr.mono (by decide)) (takes_of rfl rfl rfl rfl) rfl (pa_cons (pv 0) pa_nil)))
    (pss_cons (ps_set (i := 2) S.nd rfl (Or.inr rfl) (pe_ix (ixK_seq K) (pe_lst (pa_cons pe_str (pa_cons pe_str (pa_cons pe_str (pa_cons pe_str (pa_cons pe_str (pa_cons pe_str pa_nil))))))) (pe_has G_law_next (hr.mono (by decide)) (takes_of rfl rfl rfl rfl) rfl (pa_cons (pv 1) (pa_cons pe_int pa_nil))) (fun _ _ => rfl)))
    (pss_cons (ps_set (i := 3) S.nd rfl (Or.inl rfl) (pe_ix (ixK_seq K) (pe_lst (pa_cons pe_str (pa_cons pe_str (pa_cons pe_str (pa_cons pe_str (pa_cons pe_str (pa_cons pe_str pa_nil))))))) (pe_has G_law_next (hr.mono (by decide)) (takes_of rfl rfl rfl rfl) rfl (pa_cons (pv 1) (pa_cons pe_int pa_nil))) (fun _ _ => rfl)))
    (pss_cons (ps_set (i := 4) S.nd rfl (Or.inl rfl) (pe_op (oK_add K) pe_int (pe_has G_law_next (hr.mono (by decide)) (takes_of rfl rfl rfl rfl) rfl (pa_cons (pv 1) (pa_cons pe_int pa_nil)))))
    (pss_cons (ps_set (i := 5) S.nd rfl (Or.inl rfl) (pe_op (oK_add K) pe_int (pe_has G_law_next (hr.mono (by decide)) (takes_of rfl rfl rfl rfl) rfl (pa_cons (pv 1) (pa_cons pe_int pa_nil)))))
    (pss_cons (ps_if (pt_cmpR (cK_eq K hr.units) (pe_has G_law_next (hr.mono (by decide)) (takes_of rfl rfl rfl rfl) rfl (pa_cons (pv 1) (pa_cons pe_int pa_nil))) pe_int (nomark _))
      (pss_one (ps_set (i := 5) S.nd rfl (Or.inl rfl) (pe_op (oK_add K) pe_int (pe_has G_law_next (hr.mono (by decide)) (takes_of rfl rfl rfl rfl) rfl (pa_cons (pv 1) (pa_cons pe_int pa_nil))))))
      pss_nil)
    (pss_cons (ps_set (i := 6) S.nd rfl (Or.inl rfl) (pe_has G_law_next (hr.mono (by decide)) (takes_of rfl rfl rfl rfl) rfl (pa_cons (pv 1) (pa_cons pe_int pa_nil))))
    (pss_cons (ps_set (i := 7) S.nd rfl (Or.inl rfl) pe_int)
    (pss_cons (ps_if (pt_cmpR (cK_eq K hr.units) (pe_has G_law_next (hr.mono (by decide)) (takes_of rfl rfl rfl rfl) rfl (pa_cons (pv 1) (pa_cons pe_int pa_nil))) pe_int (nomark _))
      (pss_cons (ps_set (i := 6) S.nd rfl (Or.inl rfl) (pe_op (oK_add K) pe_int (pe_has G_law_next (hr.mono (by decide)) (takes_of rfl rfl rfl rfl) rfl (pa_cons (pv 1) (pa_cons pe_int pa_nil)))))
    (pss_one (ps_set (i := 7) S.nd rfl (Or.inl rfl) pe_int)))
      pss_nil)
    (pss_cons (ps_set (i := 8) S.nd rfl (Or.inl rfl) pe_dnewK)
    (pss_cons (ps_set (i := 9) S.nd rfl (Or.inl rfl) (pe_lst pa_nil))
    (pss_cons (ps_for (passes_of rfl) rfl (pi_range1 (by rfl) T.b_range (pa_cons (pv 6) pa_nil)) (pg_name (i := 10) S.nd rfl (Or.inl rfl))
      (pss_cons (ps_set (i := 16) S.nd rfl (Or.inl rfl) (pe_has G_law_word (hr.mono (by decide)) (takes_of rfl rfl rfl rfl) rfl (pa_cons (pv 1) (pa_cons (pv 2) (pa_cons (pe_has G_law_next (hr.mono (by decide)) (takes_of rfl rfl rfl rfl) rfl (pa_cons (pv 1) (pa_cons (pe_op (oK_add K) (pv 7) pe_int) pa_nil))) pa_nil)))))
    (pss_one (ps_expr (peK_bm K PySem.F.plainAttrs_list PySem.F.slot_list_append PySem.F.type_list_append mt_append (pv 9) (pa_cons (pe_tup (pa_cons (pv 16) (pa_cons (pe_has G_law_image (hr.mono (by decide)) (takes_of rfl rfl rfl rfl) rfl (pa_cons (pv 1) (pa_cons (pv 8) (pa_cons (pv 16) (pa_cons (pv 3) (pa_cons (pv 4) pa_nil)))))) pa_nil))) pa_nil))))))
    (pss_cons (ps_if (PW.pt (pw_and (pt_cmpR c_gt (pv 6) pe_int (nomark _)) (pw_and1 (pt_cmpR (cK_eq K hr.units) (pe_has G_law_next (hr.mono (by decide)) (takes_of rfl rfl rfl rfl) rfl (pa_cons (pv 1) (pa_cons pe_int pa_nil))) pe_int (nomark _)))))
      (pss_cons (ps_set (i := 17) S.nd rfl (Or.inl rfl) (pe_has G_law_next (hr.mono (by decide)) (takes_of rfl rfl rfl rfl) rfl (pa_cons (pv 1) (pa_cons (pv 6) pa_nil))))
    (pss_cons (ps_set (i := 16) S.nd rfl (Or.inl rfl) (pe_ix (ixK_seq K) (pe_ix (ixK_seq K) (pv 9) (pv 17) (fun _ _ => rfl)) pe_int (fun _ _ => rfl)))
    (pss_cons (ps_set (i := 18) S.nd rfl (Or.inl rfl) (pe_ix (ixK_seq K) (pe_ix (ixK_seq K) (pv 9) (pv 17) (fun _ _ => rfl)) pe_int (fun _ _ => rfl)))
    (pss_cons (ps_set (i := 19) S.nd rfl (Or.inl rfl) (pe_has G_law_next (hr.mono (by decide)) (takes_of rfl rfl rfl rfl) rfl (pa_cons (pv 1) (pa_cons (pe_op (oK_add K) (pe_callB (bK_len K) (by rfl) T.b_len (by decide +kernel) (pa_cons (pv 16) pa_nil)) pe_int) pa_nil))))
    (pss_one (ps_if (pt_cmpR c_lt (pv 19) (pe_callB (bK_len K) (by rfl) T.b_len (by decide +kernel) (pa_cons (pv 16) pa_nil)) (nomark _))
      (pss_one (ps_asg (pe_tup (pa_cons (pv 16) (pa_cons (pe_op (oK_add K) (pe_op (oK_add K) (pe_slice (slK_any K) (pv 18) po_none (po_some (pv 19))) (pe_ix (ixK_seq K) (pv 3) (pe_has G_law_next (hr.mono (by decide)) (takes_of rfl rfl rfl rfl) rfl (pa_cons (pv 1) (pa_cons (pe_callB (bK_len K) (by rfl) T.b_len (by decide +kernel) (pa_cons (pv 3) pa_nil)) pa_nil))) (fun _ _ => rfl))) (pe_slice (slK_any K) (pv 18) (po_some (pe_op (oK_add K) (pv 19) pe_int)) po_none)) pa_nil))) (pg_sub (pv 9) (pv 17) set_list)))
      pss_nil))))))
      pss_nil)
    (pss_cons (ps_if (PW.pt (pw_and (pt_cmpR c_gt (pv 6) pe_int (nomark _)) (pw_and1 (pt_cmpR (cK_eq K hr.units) (pe_has G_law_next (hr.mono (by decide)) (takes_of rfl rfl rfl rfl) rfl (pa_cons (pv 1) (pa_cons pe_int pa_nil))) pe_int (nomark _)))))
      (pss_cons (ps_expr (pe_has G_law_spoil (hr.mono (by decide)) (takes_of rfl rfl rfl rfl) rfl (pa_cons (pv 1) (pa_cons (pv 9) (pa_cons (pv 2) (pa_cons (pv 3) pa_nil))))))
    (pss_one (ps_if (pt_cmpR (cK_eq K hr.units) (pe_has G_law_next (hr.mono (by decide)) (takes_of rfl rfl rfl rfl) rfl (pa_cons (pv 1) (pa_cons pe_int pa_nil))) pe_int (nomark _))
      (pss_one (ps_expr (pe_has G_law_spoil (hr.mono (by decide)) (takes_of rfl rfl rfl rfl) rfl (pa_cons (pv 1) (pa_cons (pv 9) (pa_cons (pv 2) (pa_cons (pv 3) pa_nil)))))))
      pss_nil)))
      pss_nil)
    (pss_cons (ps_if (pt_not (pt_val (pe_has G_law_refusals (hr.mono (by decide)) (takes_of rfl rfl rfl rfl) rfl (pa_cons (pv 1) (pa_cons (pv 2) (pa_cons (pv 3) (pa_cons (pv 5) (pa_cons (pv 9) pa_nil))))))))
      (pss_one (ps_ret pe_bl))
      pss_nil)
    (pss_cons (ps_set (i := 11) S.nd rfl (Or.inl rfl) (pe_callTy (bK_list K) (by rfl) T.b_list (by decide +kernel) (pa_cons (pv 9) pa_nil)))
    (pss_cons (ps_set (i := 12) S.nd rfl (Or.inl rfl) (pe_has G_law_first_bad (hr.mono (by decide)) (takes_of rfl rfl rfl rfl) rfl (pa_cons (pv 9) (pa_cons (pv 2) (pa_cons (pv 3) pa_nil)))))
    (pss_cons (ps_if (pt_cmpR c_ns (pv 12) pe_non (nomark _))
      (pss_one (ps_ret (pe_and (pe_has G_law_refused (hr.mono (by decide)) (takes_of rfl rfl rfl rfl) rfl (pa_cons (pv 2) (pa_cons (pv 3) (pa_cons (pv 5) (pa_cons (pv 11) (pa_cons (pv 12) pa_nil)))))) (pe_one (pe_cmpR (cK_eq K hr.units) (pv 11) (pv 9) (nomark _))))))
      pss_nil)
    (pss_cons (ps_setLc (i := 13) (own := [("k", 10)]) rfl S.nd rfl rfl (sw_true rfl rfl rfl (by decide +kernel)) (pi_range1 (by rfl) T.b_range (pa_cons pe_int pa_nil)) (blkOk_by (by rfl)) (fun _ _ _ _ _ => (pg_name (i := 10) S.nd rfl (Or.inl rfl))) (fun _ _ _ _ _ => pts_nil) (fun _ _ _ _ _ => (pe_has G_law_word (hr.mono (by decide)) takes0 rfl (pa_cons (pv 1) (pa_cons (pv 2) (pa_cons (pv 10) pa_nil))))))
    (pss_cons (ps_set (i := 14) S.nd rfl (Or.inl rfl) (pe_has G_fit_turner (hr.mono (by decide)) (takes_of rfl rfl rfl rfl) rfl (pa_cons (pv 2) (pa_cons (pv 3) (pa_cons (pv 5) (pa_cons (pv 11) pa_nil))))))
    (pss_cons (ps_if (PW.pt (pw_or (pt_cmpR (cK_ne K hr.units) (pv 11) (pv 9) (nomark _)) (pw_or (pt_not (pt_val (pe_callB call_isi (by rfl) T.b_isinstance (by decide +kernel) (pa_cons (pv 14) (pa_cons (pe_gT (T := "tuple") (by rfl) T.b_tuple (by decide +kernel)) pa_nil))))) (pw_or1 (pt_cmpR c_lt (pe_callB (bK_len K) (by rfl) T.b_len (by decide +kernel) (pa_cons (pv 14) pa_nil)) pe_int (nomark _))))))
      (pss_one (ps_ret pe_bl))
      pss_nil)
    (pss_cons (ps_set (i := 15) S.nd rfl (Or.inl rfl) (pe_has G_law_table (hr.mono (by decide)) (takes_of rfl rfl rfl rfl) rfl (pa_cons (pv 9) (pa_cons (pv 5) pa_nil))))
    (pss_cons (ps_if (pt_cmpR c_is (pv 15) pe_non (nomark _))
      (pss_one (ps_ret (pe_and (pe_cmpR (cK_eq K hr.units) (pe_ix (ixK_seq K) (pv 14) pe_int (fun _ _ => rfl)) pe_str (nomark _)) (pe_one (pe_has G_law_clash (hr.mono (by decide)) (takes_of rfl rfl rfl rfl) rfl (pa_cons (pv 9) (pa_cons (pv 5) (pa_cons (pv 14) pa_nil))))))))
      pss_nil)
    (pss_cons (ps_if (PW.pt (pw_or (pt_cmpR (cK_ne K hr.units) (pe_ix (ixK_seq K) (pv 14) pe_int (fun _ _ => rfl)) pe_str (nomark _)) (pw_or1 (pt_cmpR (cK_ne K hr.units) (pe_callB (bK_len K) (by rfl) T.b_len (by decide +kernel) (pa_cons (pv 14) pa_nil)) pe_int (nomark _)))))
      (pss_one (ps_ret pe_bl))
      pss_nil)
    (pss_one (ps_ret (pe_has G_law_good_turner (hr.mono (by decide)) (takes_of rfl rfl rfl rfl) rfl (pa_cons (pe_ix (ixK_seq K) (pv 14) pe_int (fun _ _ => rfl)) (pa_cons (pv 2) (pa_cons (pv 3) (pa_cons (pv 5) (pa_cons (pv 15) (pa_cons (pv 9) (pa_cons (pv 13) pa_nil)))))))))))))))))))))))))))))))))), ?_⟩
    walk_at "rd"
    refine ⟨a, ns, rfl, ha, hns, fun D1 H1 st g1 X1 nst => ?_⟩
    walk_at "rd"
    refine ⟨le1000 (by simp), fun p np => ?_⟩
    have nps : p ≠ st := fun e => X1.is (e ▸ np)
    have g2 := (Gr.refl (m := (· = st)) g1.sub).lay (o := .lst [.str "ab", .str "a", .str "abc", .str "bd", .str "acz", .str "abcd"]) np
    walk_at "rd"
    refine ⟨D1, st, _, rfl, by decide, by decide, g2.sub, X1.put nps, fun D3 H3 r g3 X3 r0 r1 => ?_⟩
    obtain ⟨l, ez, okl⟩ : ∃ z : Str, atI [V.str "ab", .str "a", .str "abc", .str "bd", .str "acz", .str "abcd"] r = some (.str z) ∧ okLetters z = true := by
      have hr : r = 0 ∨ r = 1 ∨ r = 2 ∨ r = 3 ∨ r = 4 ∨ r = 5 := by omega
      rcases hr with rfl | rfl | rfl | rfl | rfl | rfl <;> exact ⟨_, rfl, by decide +kernel⟩
    refine s_ix_l (sql (g3.same p _ nps upd_same)) ez ?_
    have gA := g2.trans g3
    walk_at "rd"
    refine ⟨le1000 (by simp), fun p2 np2 => ?_⟩
    have nps2 : p2 ≠ st := fun e => X3.is (e ▸ np2)
    have g4 := gA.lay (o := .lst [.str "ab", .str "xy", .str "pqrs", .str "z", .str "abc", .str "bd"]) np2
    walk_at "rd"
    refine ⟨D3, st, _, rfl, by decide, by decide, g4.sub, X3.put nps2, fun D5 H5 r2 g5 X5 r20 r21 => ?_⟩
    obtain ⟨im, ez2, oki⟩ : ∃ z : Str, atI [V.str "ab", .str "xy", .str "pqrs", .str "z", .str "abc", .str "bd"] r2 = some (.str z) ∧ okLetters z = true := by
      have hr : r2 = 0 ∨ r2 = 1 ∨ r2 = 2 ∨ r2 = 3 ∨ r2 = 4 ∨ r2 = 5 := by omega
      rcases hr with rfl | rfl | rfl | rfl | rfl | rfl <;> exact ⟨_, rfl, by decide +kernel⟩
    refine s_ix_l (sql (g5.same p2 _ nps2 upd_same)) ez2 ?_
    have gB := g4.trans g5
    have hl := ok_len okl
    have hi := ok_len oki
    walk_at "rd"
    refine ⟨D5, st, _, rfl, by decide, by decide, g5.sub, X5, fun D6 H6 hd g6 X6 h0 h1 => ?_⟩
    have gC := gB.trans g6
    walk_at "rd"
    refine ⟨D6, st, _, rfl, by decide, by decide, g6.sub, X6, fun D7 H7 sz g7 X7 z0 z1 => ?_⟩
    have gD := gC.trans g7
    refine s_add_i ?_
    with_reducible refine s_gname ?_
    refine s_cut (fun σ' H' => ∃ (D : Hp) (size : Nat), Gr (· = st) D1 H1 D H' ∧ Stt K D H' st ∧ 1 ≤ size ∧ size ≤ 7 ∧ σ' = [some (.ref a), some (.ref st), some (.str l), some (.str im), some (.int (1 + hd)), some (.int (size : Nat)), none, none, none, none, none, none, none, none, none, none, none, none, none, none]) ?_ (fun N rest => ?_)
    · rintro σ' H8 ⟨D8, size, g8, X8, s0, s1, rfl⟩
      walk_at "rd"
      refine ⟨D8, st, _, rfl, by decide, by decide, g8.sub, X8, fun D9 H9 mn g9 X9 m0 m1 => ?_⟩
      have gE := g8.trans g9
      with_reducible refine s_gname ?_
      try dsimp only
      with_reducible refine s_seq ?_
      with_reducible refine s_asg ?_
      with_reducible refine s_c ?_
      with_reducible refine s_gname ?_
      try dsimp only
      with_reducible refine s_cut (fun σ' H' => ∃ (D : Hp) (mn lg : Nat), Gr (· = st) D1 H1 D H' ∧ Stt K D H' st ∧ mn ≤ 30 ∧ lg ≤ 24 ∧ σ' = [some (.ref a), some (.ref st), some (.str l), some (.str im), some (.int (1 + hd)), some (.int (size : Nat)), some (.int (mn : Nat)), some (.int (lg : Nat)), none, none, none, none, none, none, none, none, none, none, none, none]) ?_ (fun N rest => ?_)
      · clear g9 X9 g8 X8 gE m0 m1
        rintro σ' H10 ⟨D10, mn, lg, g10, X10, hmn, hlg, rfl⟩
        walk_at "rd"
        intro kd nkd
        have nks : kd ≠ st := fun e => X10.is (e ▸ nkd)
        have g11 := g10.lay (o := .dK []) nkd
        have X11 := X10.put (o := .dK []) nks
        have hkd : (upd H10 kd (.dK [])) kd = some (.dK []) := upd_same
        have hkD := g10.free nkd
        have hkn := g10.kept _ nkd
        walk_at "rd"
        refine ⟨le1000 (by simp), fun pa np => ?_⟩
        have nps : pa ≠ st := fun e => X11.is (e ▸ np)
        have npk : kd ≠ pa := fun e => by rw [← e, hkd] at np; cases np
        have g12 := g11.lay (o := .lst []) np
        have X12 := X11.put (o := .lst []) nps
        have hpn := g11.kept _ np
        walk_at "rd"
        refine ⟨_, rfl, by omega, by omega, lp_it walk_r0 (n := mn) (fun i σ H' => ∃ D xs ps kvs t o10 o16, LwI K D1 H1 st pa i 24 D H' xs ps ∧ D kd = none ∧ H' kd = some (.dK kvs) ∧ KvR IsS kvs t ∧ Ones im t ∧ t.length ≤ 24 * i ∧
          σ = [some (.ref a), some (.ref st), some (.str l), some (.str im), some (.int (1 + hd)), some (.int (size : Nat)), some (.int (mn : Nat)), some (.int (lg : Nat)), some (.ref kd), some (.ref pa), o10, none, none, none, none, none, o16, none, none, none])
          ⟨D10, [], [], [], [], none, none, ⟨g12, X12, g11.free np, upd_same, .nil, rfl, fun p hp => nomatch hp⟩, hkD, (upd_ne npk).trans hkd, .nil, (fun p hp => nomatch hp), Nat.zero_le _, rfl⟩ (fun _ _ _ _ _ => trivial) ?_ ?_⟩
        · rintro i x σ H20 H21 hi2 ⟨D20, xs, ps, kvs, t, o10, o16, I, hkD, hkH, hkv, hon, htl, rfl⟩ ⟨rfl, rfl⟩
          have hplen := I.len
          walk_at "rd"
          refine ⟨D20, st, _, rfl, by omega, by omega, I.g.sub, I.X, fun D21 H21 r21 g21 X21 r210 r211 => ?_⟩
          obtain ⟨r21, rfl⟩ := Int.eq_ofNat_of_zero_le r210
          refine ⟨D21, st, l, r21, rfl, hl.1, Nat.le_trans hl.2 (by decide), by omega, g21.sub, X21, fun D22 H22 z g22 X22 zl zc => ?_⟩
          have gP := g21.trans g22
          have hk22 := gP.same kd _ nks hkH
          have hkD22 := gP.stay hkD hkH
          have hp22 := gP.same pa _ nps I.at_
          have hpD22 := gP.stay I.free I.at_
          walk_at "rd"
          refine ⟨ty_l hp22, ?_⟩
          walk_at "rd"
          refine ⟨D22, st, kd, z, im, _, kvs, t, rfl, by omega, hi.1, Nat.le_trans hi.2 (by decide), g22.sub, X22, nks, hkD22, hk22, hkv, hon, by omega, fun D23 H23 kvs' t' y g23 X23 hkD23 hkH23 hkv' hon' htl' hyl hyc => ?_⟩
          have npk' : ¬ (pa = st ∨ pa = kd) := fun z => z.elim nps fun e => npk e.symm
          have hp23 := g23.same pa _ npk' hp22
          have hpD23 := g23.stay hpD22 hp22
          have g24 : Gr (· = st) D1 H1 D23 H23 := gr_two (I.g.trans gP) g23 hkn
          walk_at "rd"
          refine ⟨le1000 (by simp), fun c nc => ?_⟩
          walk_at "rd"
          have hpc : pa ≠ c := fun e => by rw [← e, hp23] at nc; cases nc
          have hkc : kd ≠ c := fun e => by rw [← e, hkH23] at nc; cases nc
          have ncs : c ≠ st := fun e => X23.is (e ▸ nc)
          have hxl : xs.length = i := by rw [dpl_len I.dp, List.length_map, hplen]
          have g25 := g24.ice (o := .tup [.str z, .str y]) nc
          have hpD25 : (upd D23 c (.tup [.str z, .str y])) pa = none := (upd_ne hpc).trans hpD23
          have hkD25 : (upd D23 c (.tup [.str z, .str y])) kd = none := (upd_ne hkc).trans hkD23
          have sN := same_new (o := .tup [.str z, .str y]) ((Gr.refl (m := No) g24.sub).free nc)
          have X25 := ((X23.put (o := .tup [.str z, .str y]) ncs).frz (o := .tup [.str z, .str y]) ncs ((Gr.refl (m := No) g24.sub).free nc)).put (o := .lst (xs ++ [.ref c])) nps
          refine s_append ((upd_ne hpc).trans hp23) (by rw [hxl]; exact small1000 (by omega)) ?_
          walk_at "rd"
          refine ⟨_, xs ++ [.ref c], ps ++ [(z, y)], kvs', t', _, _, ⟨g25.put hpD25 (.inl hpn), X25, hpD25, upd_same, ?_, ?_, ?_⟩, hkD25, (upd_ne npk).trans ((upd_ne hkc).trans hkH23), hkv', hon', by omega, rfl⟩
          · rw [List.map_append]
            exact dpl_snoc (Y.Dp.monoAll sN (Y.Dp.monoAll g23.dd (Y.Dp.monoAll gP.dd I.dp))) (.tup (sqt upd_same) (dpl_of_strs (zs := [z, y])))
          · rw [List.length_append, hplen]
            rfl
          · intro p hp
            rcases List.mem_append.mp hp with hp | hp
            · exact I.ok p hp
            · rw [List.mem_singleton.mp hp]
              exact ⟨by show z.length ≤ 24; omega, by show y.length ≤ 24; omega, fun d hd => ok_okc okl d (zc d hd), fun d hd => ok_okc oki d (hyc d hd)⟩
        · rintro σ H20 ⟨D20, xs, ps, kvs, t, o10, o16, I, hkD, hkH, hkv, hon, htl, rfl⟩
          have hl1 := le1000 (Nat.le_trans hl.2 (by decide) : l.length ≤ 1000)
          have hi1 := le1000 (Nat.le_trans hi.2 (by decide) : im.length ≤ 1000)
          try dsimp only
          with_reducible refine s_cut (LwR K D1 H1 a st pa kd l im (1 + hd) size mn lg 49) ?_ (fun N rest => ?_)
          · clear I hkD hkH hkv hon htl
            rintro σ' H30 ⟨D30, xs, ps, o10, o16, o17, o18, o19, I, rfl⟩
            with_reducible refine s_cut (LwR K D1 H1 a st pa kd l im (1 + hd) size mn lg 199) ?_ (fun N rest => ?_)
            · clear I
              rintro σ' H40 ⟨D40, xs, ps, o10, o16, o17, o18, o19, I, rfl⟩
              have hsh : Short ps := ⟨by have := I.len; omega, fun p hp => ⟨by have := (I.ok p hp).l1; omega, by have := (I.ok p hp).l2; omega⟩⟩
              have hokp : ∀ p ∈ ps, Okc p.1 ∧ Okc p.2 := fun p hp => ⟨(I.ok p hp).o1, (I.ok p hp).o2⟩
              have hsp := shaped_Ps hokp
              walk_at "rd"
              refine ⟨D40, st, pa, xs, ps, l, im, size, rfl, I.g.sub, I.X, okl, oki, by omega, nps, I.free, I.at_, I.dp, hsh, fun D41 H41 g41 X41 => ?_⟩
              have I41 := I.on nps g41 X41
              clear I
              walk_at "rd"
              refine s_lst_l (sql I41.at_) fun gv ngv => ?_
              have ngs : gv ≠ st := fun e => X41.is (e ▸ ngv)
              have ngp : pa ≠ gv := fun e => by rw [← e, I41.at_] at ngv; cases ngv
              have gB := (I41.g.cold I41.at_ hpn).ice (o := .lst xs) ngv
              have fgv : (upd D41 pa (.lst xs)) gv = none := (upd_ne (Ne.symm ngp)).trans ((Gr.refl (m := No) g41.sub).free ngv)
              have XB := ((X41.frz (o := .lst xs) nps I41.free).put (o := .lst xs) ngs).frz (o := .lst xs) ngs fgv
              have s1 := same_new (o := .lst xs) I41.free
              have s2 := same_new (o := .lst xs) fgv
              have dA : Dp K (upd (upd D41 pa (.lst xs)) gv (.lst xs)) (.ref pa) (dPs ps) := .lst (sql (s2 _ _ upd_same)) (Y.Dp.monoAll s2 (Y.Dp.monoAll s1 I41.dp))
              have dG : Dp K (upd (upd D41 pa (.lst xs)) gv (.lst xs)) (.ref gv) (dPs ps) := .lst (sql upd_same) (Y.Dp.monoAll s2 (Y.Dp.monoAll s1 I41.dp))
              clear I41
              revert gB XB dA dG
              generalize (upd (upd D41 pa (.lst xs)) gv (.lst xs)) = D42
              generalize (upd H41 gv (.lst xs)) = H42
              intro gB XB dA dG
              walk_at "rd"
              refine ⟨D42, .ref pa, ps, l, im, rfl, gB.sub, dA, hsh, fun hb D43 H43 g43 => ?_, fun b hb D43 H43 u g43 hu => ?_⟩
              rotate_left
              · have hu2 : ∃ ub, u = .ref ub := by
                  cases b with
                  | word z k =>
                    obtain ⟨t, ys, rfl, _⟩ := dp_tuple hu
                    exact ⟨t, rfl⟩
                  | text n =>
                    obtain ⟨t, ys, rfl, _⟩ := dp_tuple hu
                    exact ⟨t, rfl⟩
                obtain ⟨ub, rfl⟩ := hu2
                walk_at "rd"
                refine jtN (fun _ => ?_) (fun z => nomatch z)
                walk_at "rd"
                refine ⟨D43, l, im, size, .ref gv, .ref ub, ps, b, rfl, hl1, hi1, g43.sub, dp_up g43 dG, hsh, okl, oki, hb, hu, fun H44 s44 => ?_⟩
                walk_at "rd"
                refine s_eq_refl (Y.Dp.mono s44 (dp_up g43 dG)) (Y.Dp.mono s44 (dp_up g43 dA)) hsp ?_
                walk_at "rd"
                exact q _
              have gC := gB.trans g43.no
              have XC := XB.up g43
              have dA2 := dp_up g43 dA
              have dG2 := dp_up g43 dG
              have hbf := badP_fine hb
              have fine : Fine ps := { hsh with eq := fun p hp => (hbf p hp).1 }
              walk_at "rd"
              walk_at "rd"
              refine ⟨_, rfl, by decide, by decide, fun pm npm => ?_⟩
              have npms : pm ≠ st := fun e => XC.is (e ▸ npm)
              refine lc_it walk_r0 (fun i H => ∃ (D : Hp) (E : List Str), Gr (· = st) D43 H43 D H ∧ Stt K D H st ∧ H pm = some (.lst (E.map V.str)) ∧ D pm = none ∧ E.length = i ∧ ∀ z ∈ E, z.length ≤ 1000 ∧ badAt l.cps.toList 0 z.cps.toList = none)
                ⟨D43, [], (Gr.refl g43.sub).lay npm, XC.put npms, upd_same, g43.free npm, rfl, fun x z => nomatch z⟩ (fun _ _ _ _ => trivial) ?_ ?_
              · rintro i x H48 H49 hi3 ⟨D48, E, g48, X48, hE, hDp, hEl, hbE⟩ ⟨rfl, rfl⟩
                walk_at "rd"
                refine ⟨rfl, ?_⟩
                walk_at "rd"
                refine ⟨D48, st, l, i, rfl, hl.1, Nat.le_trans hl.2 (by decide), by have := Int.toNat_natCast 5; omega, g48.sub, X48, fun D50 H50 z g50 X50 zl zc => ?_⟩
                have hE10 := g50.same pm _ npms hE
                have hD10 := g50.stay hDp hE
                walk_at "rd"
                refine ⟨_, hE10, by rw [List.length_map]; exact small1000 (by omega), D50, E ++ [z], (g48.trans g50).put hD10 (.inl npm), X50.put npms, ?_, hD10, ?_, ?_⟩
                · rw [upd_same, List.map_append]
                  rfl
                · rw [List.length_append, hEl]
                  rfl
                · intro y hy
                  rcases List.mem_append.mp hy with hy | hy
                  · exact hbE y hy
                  · rw [List.mem_singleton.mp hy]
                    exact ⟨by omega, badAt_none zc⟩
              · rintro H48 ⟨D48, E, g48, X48, hE, hDp, hEl, hbE⟩
                have gD := (gC.trans g48).cold hE (gC.kept _ npm)
                have dM : Dp K (upd D48 pm (.lst (E.map V.str))) (.ref pm) (.list (dSs E)) := .lst (sql upd_same) dpl_of_strs
                have dA3 := Y.Dp.mono (same_new (o := .lst (E.map V.str)) hDp) (dp_up g48 dA2)
                have dG3 := Y.Dp.mono (same_new (o := .lst (E.map V.str)) hDp) (dp_up g48 dG2)
                revert gD dM dA3 dG3
                generalize (upd D48 pm (.lst (E.map V.str))) = D51
                intro gD dM dA3 dG3
                walk_at "rd"
                refine ⟨D51, l, im, size, .ref gv, ps, rfl, hl1, hi1, gD.sub, dG3, hsh, fun z => absurd ⟨okl, oki⟩ z, (fun _ _ b z => by rw [hb] at z; cases z), fun _ _ _ hbn x y D52 H52 u hc g52 hu => ?_, fun _ _ _ t hbt D52 H52 u g52 hu => ?_⟩
                · obtain ⟨ua, ys, rfl, hua, hys⟩ := dp_tuple hu
                  have huH := same_seqT g52.sub hua
                  walk_at "rd"
                  refine s_ne_refl (Y.Dp.mono g52.same' dG3) (Y.Dp.mono g52.same' dA3) hsp ?_
                  walk_at "rd"
                  refine ⟨.ref ua, .ty "tuple", .type "tuple", .type "tuple", true, rfl, .ty _, tyx_tup huH, rfl, ?_⟩
                  walk_at "rd"
                  have hul : ys.length = 3 := dpl_len hys
                  refine jtD (fun e => absurd e (by rw [hul]; decide)) (fun _ => ?_)
                  walk_at "rd"
                  refine ⟨D52, .ref pa, ps, size, rfl, g52.sub, dp_up g52 dA3, fine, fun _ D53 H53 g53 => ?_, fun t ht D53 H53 ta kvs g53 hna hta hkv => by rw [hbn] at ht; cases ht⟩
                  have huH3 := same_seqT (g53.sub) (same_seqT g53.dd hua)
                  walk_at "rd"
                  refine jtD (fun _ => ?_) (fun e => absurd rfl e)
                  walk_at "rd"
                  cases hys with
                  | cons h0 r0 =>
                  cases h0
                  refine s_ix_t huH3 atI_0 ?_
                  walk_at "rd"
                  refine jtD (fun _ => ?_) (fun e => absurd rfl e)
                  walk_at "rd"
                  refine ⟨D53, .ref pa, .ref ua, ps, size, x, y, rfl, g53.sub, dp_up g53 (dp_up g52 dA3), dp_up g53 hu, fine, hc, q _⟩
                · obtain ⟨ua, tv, rfl, hua, hT⟩ := hu
                  have huH : SqT K H52 ua [.str "fits", tv] := sqt (g52.sub _ _ hua)
                  walk_at "rd"
                  refine s_ne_refl (Y.Dp.mono g52.same' dG3) (Y.Dp.mono g52.same' dA3) hsp ?_
                  walk_at "rd"
                  refine ⟨.ref ua, .ty "tuple", .type "tuple", .type "tuple", true, rfl, .ty _, tyx_tup huH, rfl, ?_⟩
                  walk_at "rd"
                  refine jtD (fun e => absurd e (by show ¬ ((2 : Nat) : Int) < 2; decide)) (fun _ => ?_)
                  walk_at "rd"
                  refine ⟨D52, .ref pa, ps, size, rfl, g52.sub, dp_up g52 dA3, fine, (fun hn D53 H53 g53 => by rw [hbt] at hn; cases hn), fun t' ht D53 H53 ta kvs g53 hna hta hkv => ?_⟩
                  rw [hbt] at ht
                  cases ht
                  have huH3 := same_seqT g53.all huH
                  walk_at "rd"
                  refine jtD (fun e => nomatch e) (fun _ => ?_)
                  walk_at "rd"
                  refine s_ix_t huH3 atI_0 ?_
                  walk_at "rd"
                  refine jtN (fun e => absurd rfl e) (fun _ => ?_)
                  walk_at "rd"
                  refine jtN (fun e => absurd rfl e) (fun _ => ?_)
                  walk_at "rd"
                  refine s_ix_t huH3 (atI_i (j := 1) rfl rfl) ?_
                  walk_at "rd"
                  refine ⟨D52, tv, .ref pa, .ref pm, l, im, size, t, ta, kvs, ps, E, rfl, g53.same', hT, g53.sub _ _ hta, (Gr.refl (m := No) g52.sub).free hna, hkv, bP_small hbt (fun p hp => nomatch hp), dp_up g52 dA3, dp_up g52 dM, fine, (fun p hp => (hbf p hp).2.1), hbt, hbE, q⟩
            · have hplen := I.len
              walk_at "rd"
              refine jtD (fun e => ?_) (fun e => ?_)
              · walk_at "rd"
                refine ⟨D30, st, _, rfl, by decide, by decide, I.g.sub, I.X, fun D31 H31 r31 g31 X31 r310 r311 => ?_⟩
                have I31 := I.on nps g31 X31
                walk_at "rd"
                refine jtD (fun e2 => ?_) (fun e2 => ?_)
                · walk_at "rd"
                  refine ⟨D31, st, pa, xs, ps, l, im, 49, rfl, I31.g.sub, X31, nps, I31.free, I31.at_, I31.dp, by omega, by omega, I31.ok, by decide, hi.1, by omega, ok_okc oki, fun D32 H32 xs2 ps2 rr g32 X32 f32 a32 d32 l32 k32 => ?_⟩
                  have I32 : LwI K D1 H1 st pa mn 99 D32 H32 xs2 ps2 := ⟨gr_two I31.g g32 hpn, X32, f32, a32, d32, by omega, k32⟩
                  walk_at "rd"
                  refine ⟨D32, st, _, rfl, by decide, by decide, I32.g.sub, X32, fun D33 H33 r33 g33 X33 r330 r331 => ?_⟩
                  have I33 := I32.on nps g33 X33
                  walk_at "rd"
                  refine jtD (fun e3 => ?_) (fun e3 => ?_)
                  · walk_at "rd"
                    refine ⟨D33, st, pa, xs2, ps2, l, im, 99, rfl, I33.g.sub, X33, nps, I33.free, I33.at_, I33.dp, by omega, by omega, I33.ok, by decide, hi.1, by omega, ok_okc oki, fun D34 H34 xs3 ps3 rr g34 X34 f34 a34 d34 l34 k34 => ?_⟩
                    walk_at "rd"
                    exact rest _ _ ⟨D34, xs3, ps3, _, _, _, _, _, ⟨gr_two I33.g g34 hpn, X34, f34, a34, d34, by omega, k34⟩, rfl⟩
                  · walk_at "rd"
                    exact rest _ _ ⟨D33, xs2, ps2, _, _, _, _, _, I33.more (by decide), rfl⟩
                · walk_at "rd"
                  exact rest _ _ ⟨D31, xs, ps, _, _, _, _, _, I31.more (by decide), rfl⟩
              · walk_at "rd"
                exact rest _ _ ⟨D30, xs, ps, _, _, _, _, _, I.more (by decide), rfl⟩
          · have hplen := I.len
            walk_at "rd"
            refine jtD (fun e => ?_) (fun e => ?_)
            · walk_at "rd"
              refine ⟨D20, st, _, rfl, by decide, by decide, I.g.sub, I.X, fun D31 H31 r31 g31 X31 r310 r311 => ?_⟩
              have I31 := I.on nps g31 X31
              walk_at "rd"
              refine jtD (fun e2 => ?_) (fun e2 => ?_)
              · have hplen31 := I31.len
                walk_at "rd"
                refine ⟨D31, st, _, rfl, by omega, by omega, I31.g.sub, X31, fun D32 H32 r32 g32 X32 r320 r321 => ?_⟩
                have I32 := I31.on nps g32 X32
                have hr : r32.toNat < ps.length := by omega
                obtain ⟨b0, hb0, db0⟩ := dpl_getR I32.dp (d := dP ps[r32.toNat]) (i := r32.toNat) (by rw [List.getElem?_map, List.getElem?_eq_getElem hr]; rfl)
                obtain ⟨b, rfl, hb⟩ := dP_get db0
                have hpk := I32.ok ps[r32.toNat] (List.getElem_mem hr)
                generalize ep : ps[r32.toNat] = p at hpk hb db0
                have k1 := hpk.l1
                have k2 := hpk.l2
                have hl1' := le1000 (Nat.le_trans k1 (by omega) : p.1.length ≤ 1000)
                have hl2' := le1000 (Nat.le_trans k2 (by omega) : p.2.length ≤ 1000)
                walk_at "rd"
                refine s_ix_l (sql I32.at_) (atI_i (j := r32.toNat) (by omega) hb0) ?_
                walk_at "rd"
                refine s_ix_t (same_seqT I32.g.sub hb) atI_0 ?_
                walk_at "rd"
                refine s_ix_l (sql I32.at_) (atI_i (j := r32.toNat) (by omega) hb0) ?_
                walk_at "rd"
                refine s_ix_t (same_seqT I32.g.sub hb) (atI_i (j := 1) rfl rfl) ?_
                walk_at "rd"
                refine ⟨D32, st, _, rfl, by omega, by omega, I32.g.sub, I32.X, fun D33 H33 wh g33 X33 w0 w1 => ?_⟩
                have I33 := I32.on nps g33 X33
                walk_at "rd"
                refine jtD (fun e3 => ?_) (fun e3 => ?_)
                · have c1 := cutS_length p.2 none (some wh)
                  have c2 := cutS_length p.2 (some (wh + 1)) none
                  walk_at "rd"
                  refine s_sl_s hl2' ?_
                  walk_at "rd"
                  refine ⟨D33, st, _, rfl, by omega, by omega, I33.g.sub, I33.X, fun D34 H34 r34 g34 X34 r340 r341 => ?_⟩
                  have I34 := I33.on nps g34 X34
                  have hir : r34.toNat < im.cps.toList.length := by rw [len_list]; omega
                  have one : (⟨#[im.cps.toList[r34.toNat]]⟩ : Str).length = 1 := rfl
                  refine s_ix_s hi1 (atI_i (j := r34.toNat) (by omega) (List.getElem?_eq_getElem hir)) ?_
                  refine s_add_s (leBig (by omega)) ?_
                  walk_at "rd"
                  refine s_sl_s hl2' ?_
                  refine s_add_s (leBig (by rw [app_len]; omega)) ?_
                  walk_at "rd"
                  refine ⟨le1000 (by simp), fun c nc => ?_⟩
                  walk_at "rd"
                  have npc : pa ≠ c := fun e => by rw [← e, I34.at_] at nc; cases nc
                  have ncs : c ≠ st := fun e => X34.is (e ▸ nc)
                  have hxl : xs.length = ps.length := by rw [dpl_len I34.dp, List.length_map]
                  refine s_setL (xs := xs) (l := r32.toNat) ((upd_ne npc).trans I34.at_) (by unfold ixN; rw [if_pos r320, if_pos (by omega)]) ?_
                  walk_at "rd"
                  have gB := I34.g.ice (o := .tup [.str p.1, .str (cutS p.2 none (some wh) ++ ⟨#[im.cps.toList[r34.toNat]]⟩ ++ cutS p.2 (some (wh + 1)) none)]) nc
                  have hDc : (upd D34 c (.tup [.str p.1, .str (cutS p.2 none (some wh) ++ ⟨#[im.cps.toList[r34.toNat]]⟩ ++ cutS p.2 (some (wh + 1)) none)])) pa = none := (upd_ne npc).trans I34.free
                  have sN := same_new (o := .tup [.str p.1, .str (cutS p.2 none (some wh) ++ ⟨#[im.cps.toList[r34.toNat]]⟩ ++ cutS p.2 (some (wh + 1)) none)]) ((Gr.refl (m := No) g34.sub).free nc)
                  refine rest _ _ ⟨_, xs.set r32.toNat (.ref c), ps.set r32.toNat (p.1, cutS p.2 none (some wh) ++ ⟨#[im.cps.toList[r34.toNat]]⟩ ++ cutS p.2 (some (wh + 1)) none), _, _, _, _, _, ⟨gB.put hDc (.inl hpn), ((X34.put ncs).frz ncs ((Gr.refl (m := No) g34.sub).free nc)).put nps, hDc, upd_same, ?_, ?_, ?_⟩, rfl⟩
                  · rw [List.map_set]
                    exact dpl_set (Y.Dp.monoAll sN I34.dp) (.tup (sqt upd_same) (dpl_of_strs (zs := [p.1, _])))
                  · rw [List.length_set]
                    exact hplen31
                  · intro x hx
                    rcases List.mem_or_eq_of_mem_set hx with h | h
                    · have := I34.ok x h
                      exact ⟨by have := this.l1; omega, by have := this.l2; omega, this.o1, this.o2⟩
                    · rw [h]
                      exact ⟨by show p.1.length ≤ _; omega, by show (_ ++ _ ++ _ : Str).length ≤ _; rw [app_len, app_len, one]; omega, hpk.o1, ((hpk.o2.cut _ _).app ((ok_okc oki).chr hir)).app (hpk.o2.cut _ _)⟩
                · walk_at "rd"
                  exact rest _ _ ⟨D33, xs, ps, _, _, _, _, _, I33.more (by decide), rfl⟩
              · walk_at "rd"
                exact rest _ _ ⟨D31, xs, ps, _, _, _, _, _, I31.more (by decide), rfl⟩
            · walk_at "rd"
              exact rest _ _ ⟨D20, xs, ps, _, _, _, _, _, I.more (by decide), rfl⟩
      · walk_at "rd"
        refine ⟨D9, st, _, rfl, by decide, by decide, g9.sub, X9, fun D10 H10 r10 g10 X10 r100 r101 => ?_⟩
        walk_at "rd"
        refine jtD (fun e => ?_) (fun e => ?_)
        · walk_at "rd"
          refine ⟨D10, st, _, rfl, by decide, by decide, g10.sub, X10, fun D11 H11 r11 g11 X11 r110 r111 => ?_⟩
          walk_at "rd"
          exact rest _ _ ⟨D11, (20 + r11).toNat, 24, (gE.trans g10).trans g11, X11, by omega, by omega, by rw [Int.toNat_of_nonneg (by omega)]; rfl⟩
        · walk_at "rd"
          exact rest _ _ ⟨D10, mn.toNat, 6, gE.trans g10, X10, by omega, by omega, by rw [Int.toNat_of_nonneg (by omega)]; rfl⟩
    · walk_at "rd"
      refine ⟨D7, st, _, rfl, by decide, by decide, g7.sub, X7, fun D9 H9 r9 g9 X9 r90 r91 => ?_⟩
      walk_at "rd"
      refine jtD (fun e => ?_) (fun e => ?_)
      · walk_at "rd"
        refine ⟨D9, st, _, rfl, by decide, by decide, g9.sub, X9, fun D10 H10 r10 g10 X10 r100 r101 => ?_⟩
        walk_at "rd"
        exact rest _ _ ⟨D10, (5 + r10).toNat, (gD.trans g9).trans g10, X10, by omega, by omega, by rw [Int.toNat_of_nonneg (by omega)]; rfl⟩
      · walk_at "rd"
        exact rest _ _ ⟨D9, (1 + sz).toNat, gD.trans g9, X9, by omega, by omega, by rw [Int.toNat_of_nonneg (by omega)]; rfl⟩
end
end H87

namespace H87
open PySem PySem.Spec L2 He Y Hk87
theorem facts {w : World} {K : PySem.W.Frag} {h : Heap} {mg : Str → Option Value} {f : Addr} (X : K.In h) (G : h.Ns mainGlobals mg) (hfa : mg ("law" : Str) = some (.ref f)) (c : SaysI fa fn fb fi file K) :
    ∃ fd : FuncData, (∀ (s : Shared) (v : Value), BindsTo s fd ⟨[v], []⟩ [("script", v)]) ∧ ∀ base : Heap, K.In base → base.Ns mainGlobals mg → FnOk (PySem.Challenge.rw_fromyesalone_k87_turner_fits_or_clash).prog w K mg base CXany 11 f fd ["script"] (sp_law K) := by
  have T : Txt (PySem.Challenge.rw_fromyesalone_k87_turner_fits_or_clash).prog w K mg := txt X G rfl rfl c
  obtain ⟨fd, F⟩ := T.d_law
  have e := hfa.symm.trans T.gd_law
  cases e
  have b := FunD.bindsA (ps := ["script"]) F fun _ _ _ _ _ _ us hl => match us, hl with | [_], _ => rfl
  exact ⟨fd, fun s v => b s [v] rfl, fun base _ _ => fn_any (w_law T F)⟩
end H87
open PySem PySem.W PySem.Calls PyProof.Rows
theorem PySem.Challenge.cw_fromyesalone_k87_turner_fits_or_clash_holds : PySem.Challenge.rw_fromyesalone_k87_turner_fits_or_clash.Holds := by
  w_on; o_law
  refine HandSHeadRun.head_any (r := Hk87.R) (q := view Hk87.R.prog [34]) (H := Hk87.hk) (ob := Hk87.ob) (M := 3000) (loose := Hk87.names) (d := HandSHeadRun.topDef Hk87.R.prog 34) (kwd := []) Hk87.ob_eq
    (by kernel_rfl) (fun s => by kernel_rfl) Hk87.run (by kernel_rfl) (by kernel_rfl) (by kernel_rfl) (by rfl) (by first | assumption | decide +kernel) (by decide +kernel) ⟨rfl, rfl, rfl, rfl, rfl, by decide +kernel⟩ ?hw ?hc
  case hw => w_witness2
  case hc =>
    refine L2.walk_ofE (l := PySem.Challenge.rw_fromyesalone_k87_turner_fits_or_clash) (n := 63) (k := 11) (x := "script") (CX := Y.CXany) rfl (by decide) (by kernel_rfl) ⟨rfl, by decide, by decide⟩ ?F Y.any_none
    intro w mg fa h Y G hmg0
    obtain ⟨K, KX, c⟩ := Y
    have hmg : mg ("law" : PySem.Str) = some (.ref fa) := by
      have e : (HandSHeadRun.topDef Hk87.R.prog 34).name = ("law" : PySem.Str) := by kernel_rfl
      rw [← e]
      exact hmg0
    obtain ⟨fd, hb, hF⟩ := H87.facts (w := w) KX G hmg c
    exact ⟨K, fd, H87.sp_law K, KX, hb, fun H a ns hl _ hS => ⟨a, ns, rfl, hS, hl, fun _ => rfl⟩, hF⟩
