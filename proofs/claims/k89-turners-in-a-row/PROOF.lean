import PyProof.Rows.All
import Wide.All
import OpenK.AllK
import Wide.FinOn
import HandS.Base
import HandS.Call
import HandS.List
import HandS.Comp
import HandS.Ends
import HandS.Dict
import HandS.Iter
import HandS.Text
import HandS.Words
import HandS.Exc
import HandS.TryOnly
import HandS.ExcOwn
import HandS.Wide
import KE.KStateDown
import KE.KFromBytes
import KE.KExcSuper
import KE.KIsAll
import KE.KTryMore
import HandS.ExcInit
import HandS.ExcField
import HandS.ExcIs
import HandS.Defaults
import HandS.Head0
import HandS.Head1
import HandS.Head2
import HandS.HeadEnd
import HandS.HeadHook1
import HandS.HeadHook2
import HandS.ExcSuper
import HandS.TryMany
import HandS.HotCalls
import HandS.ExcInitHot
import HandS.IsInst
import KE.GoesMore
import KE.GoesEnum
import PyProof.EnumMake
import HandS.ExcCtx
import HandS.StrMore
import HandS.SetKeys
import HandS.Walk
import KE.IntTextLaws
import KE.KCallOwn
import HandS.WordsExc
import HandS.WordsDict
import HandS.More
import PyProof.StrBlock2
import HandS.SortKw
import KE.KSortTup
import HandS.TupLe
import HandS.Conv
import PyProof.StrLawsFirst
import HandS.Finally
import HandS.SuiteRaise
import PySem.Challenge.RW_fromyesalone_k89_turners_in_a_row
set_option Elab.async false
set_option linter.all false
set_option maxRecDepth 100000
set_option maxHeartbeats 0
/-! Our own layer over HandS: rules that serve a construct whatever its operands are, step lemmas, heaps. -/
namespace Y
open PySem PySem.Spec PyProof.Rows L2

/-! ### either of two rules -/
section
variable {X : Cx}
theorem OpR.or {f : Value → Value → Sem Value} {r1 r2 : R2} (h1 : OpR X f r1) (h2 : OpR X f r2) : OpR X f (fun x y H Q => r1 x y H Q ∨ r2 x y H Q) :=
  fun pins s σ H x y v u Q I rx ry h => h.elim (h1 pins s σ H x y v u Q I rx ry) (h2 pins s σ H x y v u Q I rx ry)
theorem CallR.or {f : Value} {r1 r2 : List V → Hp → VK → Prop} (h1 : CallR X f r1) (h2 : CallR X f r2) : CallR X f (fun xs H Q => r1 xs H Q ∨ r2 xs H Q) :=
  fun pins s σ H xs us Q I r h => h.elim (h1 pins s σ H xs us Q I r) (h2 pins s σ H xs us Q I r)
theorem SlR.or {r1 r2 : V → Option Int → Option Int → Hp → VK → Prop} (h1 : SlR X r1) (h2 : SlR X r2) : SlR X (fun x lo hi H Q => r1 x lo hi H Q ∨ r2 x lo hi H Q) :=
  fun pins s σ H x v vl vu lo hi sl Q I rx hs pl pu h => h.elim (h1 pins s σ H x v vl vu lo hi sl Q I rx hs pl pu) (h2 pins s σ H x v vl vu lo hi sl Q I rx hs pl pu)
theorem PE.or {e : Expr} {t u : TE} (h1 : PE X e t) (h2 : PE X e u) : PE X e (fun σ H Q => t σ H Q ∨ u σ H Q) :=
  ⟨fun pins s σ H Q I h => h.elim (h1.run pins s σ H Q I) (h2.run pins s σ H Q I)⟩
theorem PT.or {e : Expr} {t u : TT} (h1 : PT X e t) (h2 : PT X e u) : PT X e (fun σ H Q => t σ H Q ∨ u σ H Q) :=
  ⟨fun pins s σ H Q I h => h.elim (h1.run pins s σ H Q I) (h2.run pins s σ H Q I)⟩
theorem PI.or {tg e : Expr} {t u : TI} (h1 : PI X tg e t) (h2 : PI X tg e u) : PI X tg e (fun σ H R => t σ H R ∨ u σ H R) :=
  ⟨fun pins s σ H R I h => h.elim (h1.run pins s σ H R I) (h2.run pins s σ H R I)⟩
end

/-! ### operators by values -/
def rPlus (K : PySem.W.Frag) : R2 := fun x y H Q => (rI0 fun i j => .int (i + j)) x y H Q ∨ (∃ i j, x = .str i ∧ y = .str j ∧ i.length + j.length ≤ sizeLine ∧ Q (.str (i ++ j)) H) ∨ rCat x y H Q
def rMinus : R2 := rI0 fun i j => .int (i - j)
def rTimes : R2 := rI CMul fun i j => .int (i * j)
def rMod : R2 := rI (fun _ j => 0 < j) fun i j => .int (i % j)
def rDiv : R2 := rI CDivW fun i j => .int (i / j)
def rPow : R2 := rI CPow fun i j => .int (i ^ j.toNat)
def rEqs (K : PySem.W.Frag) : R2 := fun x y H Q => rEq x y H Q ∨ rEqD K x y H Q
def rNes (K : PySem.W.Frag) : R2 := fun x y H Q => rNe x y H Q ∨ rNeD K x y H Q
def rLts : R2 := fun x y H Q => (rI0 fun i j => .bl (decide (i < j))) x y H Q ∨ ∃ i j, x = .str i ∧ y = .str j ∧ Q (.bl (decide (i.cps.toList < j.cps.toList))) H
def rLes : R2 := fun x y H Q => (rI0 fun i j => .bl (decide (i ≤ j))) x y H Q ∨ ∃ i j, x = .str i ∧ y = .str j ∧ Q (.bl (!decide (j.cps.toList < i.cps.toList))) H
def rGts : R2 := fun x y H Q => (rI0 fun i j => .bl (decide (j < i))) x y H Q ∨ ∃ i j, x = .str i ∧ y = .str j ∧ Q (.bl (decide (j.cps.toList < i.cps.toList))) H
def rGes : R2 := fun x y H Q => (rI0 fun i j => .bl (decide (j ≤ i))) x y H Q ∨ ∃ i j, x = .str i ∧ y = .str j ∧ Q (.bl (!decide (i.cps.toList < j.cps.toList))) H
def rIns (K : PySem.W.Frag) : R2 := fun x y H Q => (∃ (c : Nat) (z : Str), x = .str ⟨#[c]⟩ ∧ y = .str z ∧ Q (.bl (decide (c ∈ z.cps.toList))) H) ∨ rIn K false x y H Q
def rNis (K : PySem.W.Frag) : R2 := fun x y H Q => (∃ (c : Nat) (z : Str), x = .str ⟨#[c]⟩ ∧ y = .str z ∧ Q (.bl (!decide (c ∈ z.cps.toList))) H) ∨ rIn K true x y H Q
def rIsN : R2 := fun x y H Q => y = .non ∧ Q (.bl (decide (x = .non))) H
def rNoN : R2 := fun x y H Q => y = .non ∧ Q (.bl (!decide (x = .non))) H
def rNeg : V → Hp → VK → Prop := rU fun i => .int (-i)
section
variable {X : Cx}
theorem o_add : OpR X (binaryOp .Add) (rPlus X.K) := OpR.or op_add (OpR.or op_add_str op_cat)
theorem o_sub : OpR X (binaryOp .Sub) rMinus := op_sub
theorem o_mul : OpR X (binaryOp .Mult) rTimes := op_mul
theorem o_mod : OpR X (binaryOp .Mod) rMod := op_mod
theorem o_fdiv : OpR X (binaryOp .FloorDiv) rDiv := op_fdivW
theorem o_pow : OpR X (binaryOp .Pow) rPow := op_pow
theorem o_neg : UnR X (unaryOp .USub) rNeg := un_neg
theorem c_eq (hu : X.A.units + 64 < cLine) : OpR X (compareOp .Eq) (rEqs X.K) := OpR.or op_eq (op_eqD hu)
theorem c_ne (hu : X.A.units + 64 < cLine) : OpR X (compareOp .NotEq) (rNes X.K) := OpR.or op_ne (op_neD hu)
theorem c_lt : OpR X (compareOp .Lt) rLts := OpR.or op_lt op_lt_str
theorem c_le : OpR X (compareOp .LtE) rLes := OpR.or op_le op_le_str
theorem c_gt : OpR X (compareOp .Gt) rGts := OpR.or op_gt op_gt_str
theorem c_ge : OpR X (compareOp .GtE) rGes := OpR.or op_ge op_ge_str
theorem c_in : OpR X (compareOp .In) (rIns X.K) := OpR.or op_in_sign op_in_seq
theorem c_ni : OpR X (compareOp .NotIn) (rNis X.K) := OpR.or op_notIn_sign op_notIn_seq
theorem c_is : OpR X (compareOp .Is) rIsN := op_isN
theorem c_ns : OpR X (compareOp .IsNot) rNoN := op_notN
end
end Y

namespace Y
open PySem PySem.Spec PyProof.Rows L2
/-! ### steps of a reading -/
section
variable {K : PySem.W.Frag} {σ : L2.St} {H : Hp} {Q : VK} {i : Nat} {v x y : V} {ta tb tc te tr : TE} {t u : TT} {a b : Addr} {D : Ends} {n m : Int} {s z : Str}
theorem s_var (h : σ[i]? = some (some v)) (k : Q v H) : tVar i σ H Q := ⟨v, h, k⟩
theorem s_c (k : Q v H) : tC v σ H Q := k
theorem s_op {r : R2} (k : ta σ H fun x H1 => tb σ H1 fun y H2 => r x y H2 Q) : tOp r ta tb σ H Q := k
theorem s_un {r : V → Hp → VK → Prop} (k : ta σ H fun x H1 => r x H1 Q) : tUn r ta σ H Q := k
theorem s_nil {Q : List V → Hp → Prop} (k : Q [] H) : tNil σ H Q := k
theorem s_cons {tr : TA} {Q : List V → Hp → Prop} (k : ta σ H fun x H1 => tr σ H1 fun xs H2 => Q (x :: xs) H2) : tCons ta tr σ H Q := k
theorem s_tup {t : TA} (k : t σ H fun xs H1 => xs.length ≤ sizeLine ∧ ∀ p, H1 p = none → Q (.ref p) (upd H1 p (.tup xs))) : tTup t σ H Q := k
theorem s_lst {t : TA} (k : t σ H fun xs H1 => xs.length ≤ sizeLine ∧ ∀ p, H1 p = none → Q (.ref p) (upd H1 p (.lst xs))) : tLst t σ H Q := k
theorem s_CB {r : List V → Hp → VK → Prop} {t : TA} (k : t σ H fun vs H1 => r vs H1 Q) : tCB r t σ H Q := k
theorem s_BM {T : String} {r : V → List V → Hp → VK → Prop} {t : TA} (k : ta σ H fun x H1 => tyV K T x H1 ∧ t σ H1 fun xs H2 => r x xs H2 Q) : tBM K T r ta t σ H Q := k
theorem s_BM0 {T : String} {r : V → List V → Hp → VK → Prop} (k : ta σ H fun x H1 => tyV K T x H1 ∧ r x [] H1 Q) : tBM0 K T r ta σ H Q := k
theorem s_M0 {r : V → List V → Hp → VK → Prop} (k : ta σ H fun x H1 => (∃ a, x = .str a) ∧ r x [] H1 Q) : tM0 r ta σ H Q := k
theorem s_M1 {r : V → List V → Hp → VK → Prop} (k : ta σ H fun x H1 => (∃ a, x = .str a) ∧ tb σ H1 fun y H2 => r x [y] H2 Q) : tM1 r ta tb σ H Q := k
theorem s_sl {r : V → Option Int → Option Int → Hp → VK → Prop} {tl th : TO} (k : ta σ H fun x H1 => tl σ H1 fun l H2 => th σ H2 fun u H3 => r x l u H3 Q) : tSl r ta tl th σ H Q := k
theorem s_noP {Q : Option Int → Hp → Prop} (k : Q none H) : tNoPart σ H Q := k
theorem s_test {Q : Bool → Hp → Prop} (k : ta σ H fun x H' => ∃ k, x = .bl k ∧ Q k H') : tTest ta σ H Q := k
theorem s_B {Q : Bool → Hp → Prop} (k : ta σ H fun x H' => ∃ k, x = .bl k ∧ Q k H') : tB ta σ H Q := k
theorem s_bl {Q : Bool → Hp → Prop} {c : Bool} (k : Q c H) : ∃ k, V.bl c = .bl k ∧ Q k H := ⟨c, rfl, k⟩
theorem s_and {Q : Bool → Hp → Prop} (k : t σ H fun c H1 => if c = true then u σ H1 Q else Q false H1) : tAnd t u σ H Q := k
theorem s_or {Q : Bool → Hp → Prop} (k : t σ H fun c H1 => if c = true then Q true H1 else u σ H1 Q) : tOr t u σ H Q := k
theorem s_not {Q : Bool → Hp → Prop} (k : t σ H fun c H1 => Q (!c) H1) : tNot t σ H Q := k
theorem s_andV (k : ta σ H fun x H1 => ∃ c, x = .bl c ∧ if c = true then tb σ H1 Q else Q (.bl false) H1) : tAndV ta tb σ H Q := k
theorem s_orV (k : ta σ H fun x H1 => ∃ c, x = .bl c ∧ if c = true then Q (.bl true) H1 else tb σ H1 Q) : tOrV ta tb σ H Q := k
theorem s_notV (k : ta σ H fun x H1 => ∃ c, x = .bl c ∧ Q (.bl (!c)) H1) : tNotV ta σ H Q := k
theorem s_ifE (k : t σ H fun c H1 => if c = true then ta σ H1 Q else tb σ H1 Q) : tIf t ta tb σ H Q := k
theorem s_seq {t u : TS} (k : t { D with nx := u D } σ H) : tSeq t u D σ H := k
theorem s_asg {g : TG} (k : te σ H fun x H1 => g x σ H1 D.nx) : tAsg te g D σ H := k
theorem s_gname {Q : L2.St → Hp → Prop} (k : Q (σ.set i (some v)) H) : gName i v σ H Q := k
theorem s_drop (k : te σ H fun _ H1 => D.nx σ H1) : tDrop te D σ H := k
theorem s_ret (k : te σ H D.rt) : tRet te D σ H := k
theorem s_retN (k : D.rt .non H) : tRetN D σ H := k
theorem s_next (k : D.nx σ H) : tNext D σ H := k
theorem s_ifS {tu tw : TS} (k : t σ H fun b H1 => if b = true then tu D σ H1 else tw D σ H1) : tIfS t tu tw D σ H := k
theorem s_yes {Q : Bool → Hp → Prop} (k : Q true H) : tYes σ H Q := k
theorem s_call {sp : Sp} {dvs : List V} {E : XK} {t : TA} (k : t σ H fun vs H1 => sp (vs ++ dvs) H1 Q E) : tCall sp dvs E t σ H Q := k
theorem s_callS {sp : Sp} {E : L2.St → XK} {t : TA} (k : t σ H fun vs H1 => sp vs H1 Q (E σ)) : tCallS sp E t σ H Q := k
theorem s_asgS {to ti : TE} {r : TSet} (k : te σ H fun x H1 => to σ H1 fun o H2 => ti σ H2 fun i H3 => r o i x H3 fun H4 => D.nx σ H4) : tAsg te (gSub to ti r) D σ H := k
/-! operators -/
theorem s_add_i (k : Q (.int (n + m)) H) : rPlus K (.int n) (.int m) H Q := Or.inl ⟨n, m, rfl, rfl, k⟩
theorem s_add_s (h : s.length + z.length ≤ sizeLine) (k : Q (.str (s ++ z)) H) : rPlus K (.str s) (.str z) H Q := Or.inr (Or.inl ⟨s, z, rfl, rfl, h, k⟩)
theorem s_add_l {xs ys : List V} (ha : H a = some (.lst xs)) (hb : H b = some (.lst ys)) (hl : xs.length + ys.length ≤ sizeLine) (k : ∀ p, H p = none → Q (.ref p) (upd H p (.lst (xs ++ ys)))) : rPlus K (.ref a) (.ref b) H Q :=
  Or.inr (Or.inr ⟨a, b, xs, ys, rfl, rfl, ha, hb, hl, k⟩)
theorem s_sub (k : Q (.int (n - m)) H) : rMinus (.int n) (.int m) H Q := ⟨n, m, rfl, rfl, k⟩
theorem s_mul (h : CMul n m) (k : Q (.int (n * m)) H) : rTimes (.int n) (.int m) H Q := ⟨n, m, rfl, rfl, h, k⟩
theorem s_mod (h : 0 < m) (k : Q (.int (n % m)) H) : rMod (.int n) (.int m) H Q := ⟨n, m, rfl, rfl, h, k⟩
theorem s_div (h : CDivW n m) (k : Q (.int (n / m)) H) : rDiv (.int n) (.int m) H Q := ⟨n, m, rfl, rfl, h, k⟩
theorem s_pow (h : CPow n m) (k : Q (.int (n ^ m.toNat)) H) : rPow (.int n) (.int m) H Q := ⟨n, m, rfl, rfl, h, k⟩
theorem s_neg (k : Q (.int (-n)) H) : rNeg (.int n) H Q := ⟨n, rfl, k⟩
theorem s_eq_i (k : Q (.bl (decide (n = m))) H) : rEqs K (.int n) (.int m) H Q := Or.inl ⟨rfl, by rw [dec_int]; rw [show (n == m) = decide (n = m) from by rw [Bool.eq_iff_iff]; simp]; exact k⟩
theorem s_eq_s (k : Q (.bl (decide (s = z))) H) : rEqs K (.str s) (.str z) H Q := Or.inl ⟨rfl, by rw [dec_str]; rw [show (s == z) = decide (s = z) from by rw [Bool.eq_iff_iff]; simp]; exact k⟩
theorem s_eq_x (h : scal x y = true) (k : Q (.bl (decide (x = y))) H) : rEqs K x y H Q := Or.inl ⟨h, k⟩
theorem s_eq_d {d e : PyData} (hd : Dp K H x d) (he : Dp K H y e) (sd : SeqAt.shaped d = true) (se : SeqAt.shaped e = true) (k : Q (.bl (PyData.eqv d e)) H) : rEqs K x y H Q := Or.inr ⟨d, e, hd, he, sd, se, k⟩
theorem s_ne_i (k : Q (.bl (!decide (n = m))) H) : rNes K (.int n) (.int m) H Q := Or.inl ⟨rfl, by rw [dec_int]; rw [show (n == m) = decide (n = m) from by rw [Bool.eq_iff_iff]; simp]; exact k⟩
theorem s_ne_s (k : Q (.bl (!decide (s = z))) H) : rNes K (.str s) (.str z) H Q := Or.inl ⟨rfl, by rw [dec_str]; rw [show (s == z) = decide (s = z) from by rw [Bool.eq_iff_iff]; simp]; exact k⟩
theorem s_ne_x (h : scal x y = true) (k : Q (.bl (!decide (x = y))) H) : rNes K x y H Q := Or.inl ⟨h, k⟩
theorem s_ne_d {d e : PyData} (hd : Dp K H x d) (he : Dp K H y e) (sd : SeqAt.shaped d = true) (se : SeqAt.shaped e = true) (k : Q (.bl (!PyData.eqv d e)) H) : rNes K x y H Q := Or.inr ⟨d, e, hd, he, sd, se, k⟩
theorem s_lt_i (k : Q (.bl (decide (n < m))) H) : rLts (.int n) (.int m) H Q := Or.inl ⟨n, m, rfl, rfl, k⟩
theorem s_le_i (k : Q (.bl (decide (n ≤ m))) H) : rLes (.int n) (.int m) H Q := Or.inl ⟨n, m, rfl, rfl, k⟩
theorem s_gt_i (k : Q (.bl (decide (m < n))) H) : rGts (.int n) (.int m) H Q := Or.inl ⟨n, m, rfl, rfl, k⟩
theorem s_ge_i (k : Q (.bl (decide (m ≤ n))) H) : rGes (.int n) (.int m) H Q := Or.inl ⟨n, m, rfl, rfl, k⟩
theorem s_lt_s (k : Q (.bl (decide (s.cps.toList < z.cps.toList))) H) : rLts (.str s) (.str z) H Q := Or.inr ⟨s, z, rfl, rfl, k⟩
theorem s_le_s (k : Q (.bl (!decide (z.cps.toList < s.cps.toList))) H) : rLes (.str s) (.str z) H Q := Or.inr ⟨s, z, rfl, rfl, k⟩
theorem s_gt_s (k : Q (.bl (decide (z.cps.toList < s.cps.toList))) H) : rGts (.str s) (.str z) H Q := Or.inr ⟨s, z, rfl, rfl, k⟩
theorem s_ge_s (k : Q (.bl (!decide (s.cps.toList < z.cps.toList))) H) : rGes (.str s) (.str z) H Q := Or.inr ⟨s, z, rfl, rfl, k⟩
theorem s_in_c {c : Nat} (k : Q (.bl (decide (c ∈ z.cps.toList))) H) : rIns K (.str ⟨#[c]⟩) (.str z) H Q := Or.inl ⟨c, z, rfl, rfl, k⟩
theorem s_ni_c {c : Nat} (k : Q (.bl (!decide (c ∈ z.cps.toList))) H) : rNis K (.str ⟨#[c]⟩) (.str z) H Q := Or.inl ⟨c, z, rfl, rfl, k⟩
theorem s_in_l {xs : List V} (h : SqL K H a xs) (hx : flatV x = true) (hs : xs.all flatV = true) (k : Q (.bl (inV x xs)) H) : rIns K x (.ref a) H Q := Or.inr ⟨a, xs, rfl, Or.inl h, hx, hs, k⟩
theorem s_in_t {xs : List V} (h : SqT K H a xs) (hx : flatV x = true) (hs : xs.all flatV = true) (k : Q (.bl (inV x xs)) H) : rIns K x (.ref a) H Q := Or.inr ⟨a, xs, rfl, Or.inr h, hx, hs, k⟩
theorem s_ni_l {xs : List V} (h : SqL K H a xs) (hx : flatV x = true) (hs : xs.all flatV = true) (k : Q (.bl (!inV x xs)) H) : rNis K x (.ref a) H Q := Or.inr ⟨a, xs, rfl, Or.inl h, hx, hs, k⟩
theorem s_ni_t {xs : List V} (h : SqT K H a xs) (hx : flatV x = true) (hs : xs.all flatV = true) (k : Q (.bl (!inV x xs)) H) : rNis K x (.ref a) H Q := Or.inr ⟨a, xs, rfl, Or.inr h, hx, hs, k⟩
theorem s_isN (k : Q (.bl (decide (x = .non))) H) : rIsN x .non H Q := ⟨rfl, k⟩
theorem s_noN (k : Q (.bl (!decide (x = .non))) H) : rNoN x .non H Q := ⟨rfl, k⟩
/-! subscripts -/
theorem s_ix_l {xs : List V} {j : Int} (h : SqL K H a xs) (hv : atI xs j = some v) (k : Q v H) : rIx K (.ref a) (.int j) H Q := Or.inl ⟨a, xs, j, v, rfl, rfl, h, hv, k⟩
theorem s_ix_t {xs : List V} {j : Int} (h : SqT K H a xs) (hv : atI xs j = some v) (k : Q v H) : rIx K (.ref a) (.int j) H Q := Or.inr (Or.inl ⟨a, xs, j, v, rfl, rfl, h, hv, k⟩)
theorem s_ix_s {j : Int} {c : Nat} (h : s.length ≤ sizeLine) (hv : atI s.cps.toList j = some c) (k : Q (.str ⟨#[c]⟩) H) : rIx K (.str s) (.int j) H Q := Or.inr (Or.inr ⟨s, j, c, rfl, rfl, h, hv, k⟩)
/-! calls of built-ins -/
def rLens (K : PySem.W.Frag) : List V → Hp → VK → Prop := fun xs H Q => ∃ x n, xs = [x] ∧ LenV K x H n ∧ Q (.int n) H
theorem s_len_s (h : s.length ≤ sizeLine) (k : Q (.int s.length) H) : rLens K [.str s] H Q := ⟨.str s, s.length, rfl, ⟨h, rfl⟩, k⟩
theorem s_len_l {xs : List V} (h : SqL K H a xs) (k : Q (.int xs.length) H) : rLens K [.ref a] H Q := ⟨.ref a, xs.length, rfl, Or.inl ⟨xs, h, rfl⟩, k⟩
theorem s_len_t {xs : List V} (h : SqT K H a xs) (k : Q (.int xs.length) H) : rLens K [.ref a] H Q := ⟨.ref a, xs.length, rfl, Or.inr ⟨xs, h, rfl⟩, k⟩
def rAbs : List V → Hp → VK → Prop := fun xs H Q => ∃ i, xs = [.int i] ∧ Q (.int (if i < 0 then -i else i)) H
theorem s_abs (k : Q (.int (if n < 0 then -n else n)) H) : rAbs [.int n] H Q := ⟨n, rfl, k⟩
def rMax2 : List V → Hp → VK → Prop := fun xs H Q => ∃ i j, xs = [.int i, .int j] ∧ Q (.int (if j > i then j else i)) H
theorem s_max2 (k : Q (.int (if m > n then m else n)) H) : rMax2 [.int n, .int m] H Q := ⟨n, m, rfl, k⟩
def rMin2 : List V → Hp → VK → Prop := fun xs H Q => ∃ i j, xs = [.int i, .int j] ∧ Q (.int (if j < i then j else i)) H
theorem s_min2 (k : Q (.int (if m < n then m else n)) H) : rMin2 [.int n, .int m] H Q := ⟨n, m, rfl, k⟩
def rInt1 : List V → Hp → VK → Prop := fun xs H Q => ((∃ i, xs = [.int i] ∧ Q (.int i) H) ∨ ∃ k, xs = [.bl k] ∧ Q (.int (if k then 1 else 0)) H) ∨ ∃ a n, xs = [.str a] ∧ PySem.intText? a = some n ∧ a.length ≤ 640 ∧ Q (.int n) H
theorem s_int_i (k : Q (.int n) H) : rInt1 [.int n] H Q := Or.inl (Or.inl ⟨n, rfl, k⟩)
theorem s_int_s (h : PySem.intText? s = some n) (hl : s.length ≤ 640) (k : Q (.int n) H) : rInt1 [.str s] H Q := Or.inr ⟨s, n, rfl, h, hl, k⟩
def rStr1 : List V → Hp → VK → Prop := fun xs H Q => ∃ i : Int, xs = [.int i] ∧ i.natAbs.log2 < 1920 ∧ Q (.str (toString i)) H
theorem s_str_i (h : n.natAbs.log2 < 1920) (k : Q (.str (toString n)) H) : rStr1 [.int n] H Q := ⟨n, rfl, h, k⟩
def rLst1 (K : PySem.W.Frag) : List V → Hp → VK → Prop := fun xs H Q => ∃ p ys, xs = [.ref p] ∧ (SqL K H p ys ∨ SqT K H p ys) ∧ ∀ l, H l = none → Q (.ref l) (upd H l (.lst ys))
theorem s_lst_l {xs : List V} (h : SqL K H a xs) (k : ∀ l, H l = none → Q (.ref l) (upd H l (.lst xs))) : rLst1 K [.ref a] H Q := ⟨a, xs, rfl, Or.inl h, k⟩
theorem s_lst_t {xs : List V} (h : SqT K H a xs) (k : ∀ l, H l = none → Q (.ref l) (upd H l (.lst xs))) : rLst1 K [.ref a] H Q := ⟨a, xs, rfl, Or.inr h, k⟩
def rTup1 (K : PySem.W.Frag) : List V → Hp → VK → Prop := fun xs H Q => ∃ p ys, xs = [.ref p] ∧ ((SqL K H p ys ∧ ∀ l, H l = none → Q (.ref l) (upd H l (.tup ys))) ∨ (SqT K H p ys ∧ Q (.ref p) H))
theorem s_tup_l {xs : List V} (h : SqL K H a xs) (k : ∀ l, H l = none → Q (.ref l) (upd H l (.tup xs))) : rTup1 K [.ref a] H Q := ⟨a, xs, rfl, Or.inl ⟨h, k⟩⟩
theorem s_tup_t {xs : List V} (h : SqT K H a xs) (k : Q (.ref a) H) : rTup1 K [.ref a] H Q := ⟨a, xs, rfl, Or.inr ⟨h, k⟩⟩
theorem s_any {bs : List Bool} (h : SqL K H a (bs.map V.bl)) (k : Q (.bl (bs.any id)) H) : rAny K [.ref a] H Q := ⟨a, bs, rfl, h, k⟩
theorem s_all {bs : List Bool} (h : SqL K H a (bs.map V.bl)) (k : Q (.bl (bs.all id)) H) : rAll K [.ref a] H Q := ⟨a, bs, rfl, h, k⟩
/-! methods -/
theorem s_append {xs : List V} (h : H a = some (.lst xs)) (hz : xs.length < sizeLine) (k : Q .non (upd H a (.lst (xs ++ [y])))) : rAppend (.ref a) [y] H Q := ⟨a, xs, y, rfl, rfl, h, hz, k⟩
theorem s_pop {xs : List V} (h : H a = some (.lst xs)) (hv : xs[xs.length - 1]? = some v) (k : Q v (upd H a (.lst xs.dropLast))) : rPop (.ref a) [] H Q := ⟨a, xs, v, rfl, rfl, h, hv, k⟩
theorem ty_l {xs : List V} (h : H a = some (.lst xs)) : tyV K "list" (.ref a) H := Or.inl ⟨rfl, xs, SqL.of h⟩
theorem ty_s : tyV K "str" (.str s) H := rfl
def rSplit : V → List V → Hp → VK → Prop := fun x xs H Q => ∃ a b, x = .str a ∧ xs = [.str b] ∧ (b.length == 0) = false ∧ a.length + 2 ≤ sizeLine ∧ rNewStrs (Txt.split a b) H Q
theorem s_split (hz : (z.length == 0) = false) (hl : s.length + 2 ≤ sizeLine) (k : ∀ p, H p = none → Q (.ref p) (upd H p (.lst ((Txt.split s z).map V.str)))) : rSplit (.str s) [.str z] H Q := ⟨s, z, rfl, rfl, hz, hl, k⟩
def rSlAny (K : PySem.W.Frag) : V → Option Int → Option Int → Hp → VK → Prop := fun x lo hi H Q => rSlL K x lo hi H Q ∨ rSlS x lo hi H Q
theorem s_sl_l {xs : List V} {lo hi : Option Int} (h : SqL K H a xs) (k : ∀ p, H p = none → Q (.ref p) (upd H p (.lst (cutV xs lo hi)))) : rSlAny K (.ref a) lo hi H Q := Or.inl ⟨a, xs, rfl, h, k⟩
theorem s_sl_s {lo hi : Option Int} (h : s.length ≤ sizeLine) (k : Q (.str (cutS s lo hi)) H) : rSlAny K (.str s) lo hi H Q := Or.inr ⟨s, rfl, h, k⟩
theorem s_setL {xs : List V} {j : Int} {l : Nat} {Q : Hp → Prop} (h : H a = some (.lst xs)) (hj : ixN xs.length j = some l) (k : Q (upd H a (.lst (xs.set l v)))) : rSetL (.ref a) (.int j) v H Q := ⟨a, xs, j, l, rfl, rfl, h, hj, k⟩
end
section
variable {X : Cx}
theorem b_len : CallR X (.builtin "len") (rLens X.K) := call_len
theorem b_abs : CallR X (.builtin "abs") rAbs := call_abs
theorem b_max (hc : X.calm = true) : CallR X (.builtin "max") rMax2 := call_max2 hc
theorem b_min (hc : X.calm = true) : CallR X (.builtin "min") rMin2 := call_min2 hc
theorem b_int : CallR X (.type "int") rInt1 := CallR.or call_int1 call_int_str
theorem b_str : CallR X (.type "str") rStr1 := call_str_int
theorem b_list : CallR X (.type "list") (rLst1 X.K) := call_list_of
theorem b_tuple : CallR X (.type "tuple") (rTup1 X.K) := call_tuple_of
theorem m_split : MtR X "str.split" rSplit := mt_split
theorem sl_any : SlR X (rSlAny X.K) := SlR.or sl_list sl_str
end
end Y

/-! The head: what the top has written, told by a Hook. -/
namespace Y
open PySem PySem.Spec L2 He
/-! ### own exception classes over ValueError -/
def cqB (K : PySem.W.Frag) (C : Addr) : Bool := match K.lookup C with
  | some ⟨.type t, dd, .cls cd, sl⟩ => (match cd.mro, sl.toList with
    | .ref C' :: bm, [k0, k1, k2, k3, some (.builtin n), k5] => t == "type" && C' == C && n == "ValueError.__new__" && !cd.hasDel && cd.hasDict && PySem.HandSPX.refsVE bm
    | _, _ => false)
  | _ => false
theorem cqB_ok {K : PySem.W.Frag} {C : Addr} (h : cqB K C = true) : ∃ nm q N bs bm sn sub ab col dd k0 k1 k2 k3 k5, K.lookup C = some (excClassObj nm q C N bs bm true sn sub ab col dd k0 k1 k2 k3 k5 "ValueError.__new__") ∧ PySem.HandSPX.refsVE bm = true := by
  unfold cqB at h
  split at h
  · rename_i t dd cd sl ho
    split at h
    · rename_i C' bm k0 k1 k2 k3 n k5 hm hs
      simp only [Bool.and_eq_true, beq_iff_eq, Bool.not_eq_true'] at h
      obtain ⟨⟨⟨⟨⟨rfl, rfl⟩, rfl⟩, hdel⟩, hd⟩, hr⟩ := h
      obtain ⟨nm, bs, mro, ns, qn, hd', sn, sub, ab, col, del⟩ := cd
      dsimp only at hm hdel hd
      subst hm hdel hd
      have hsl : sl = #[k0, k1, k2, k3, some (.builtin "ValueError.__new__"), k5] := by
        obtain ⟨l⟩ := sl
        simp only at hs
        rw [hs]
      subst hsl
      exact ⟨nm, qn, ns, bs, bm, sn, sub, ab, col, dd, k0, k1, k2, k3, k5, ho, hr⟩
    · cases h
  · cases h
/-- what is told of an own exception class -/
structure ExK (K : PySem.W.Frag) (C : Addr) : Prop where
  o : OexC K C
  x : XfC K C
  e : ExcC K C
def exB (K : PySem.W.Frag) (C : Addr) : Bool :=
  cqB K C && (decide (PySem.W.findIn K (.ref C) "__setattr__" = some (some (.builtin "object.__setattr__"))) && (decide (PySem.W.typeIn K (.ref C) = some (.type "type")) && (PySem.W.keepIn K (.ref C) && (xfB K C &&
    (decide (PySem.W.findIn K (.ref C) "__class__" = some (some (.builtin "object.__class__"))) && (decide (PySem.W.specialIn K (.builtin "object.__class__") "__get__" = some (some (.builtin "getset_descriptor.__get__"))) &&
      (decide (PySem.W.takesIn K (.builtin "object.__class__") = some true) && decide (PySem.W.mroIn K C (.type "object") = some true))))))))
theorem exB_ok {K : PySem.W.Frag} {C : Addr} (h : exB K C = true) : ExK K C := by
  obtain ⟨h1, h⟩ := ba h
  obtain ⟨h2, h⟩ := ba h
  obtain ⟨h3, h⟩ := ba h
  obtain ⟨h4, h⟩ := ba h
  obtain ⟨h5, h⟩ := ba h
  obtain ⟨h6, h⟩ := ba h
  obtain ⟨h7, h⟩ := ba h
  obtain ⟨h8, h9⟩ := ba h
  have x := xfB_ok h5
  exact ⟨⟨cqB_ok h1, of_decide_eq_true h2, x.exC, of_decide_eq_true h3, h4⟩, x, ⟨x.ga, x.gg, x.exC, x.hdC, of_decide_eq_true h6, of_decide_eq_true h7, of_decide_eq_true h8, of_decide_eq_true h9⟩⟩
/-- what isinstance asks of an own class -/
structure OwnK (K : PySem.W.Frag) (C : Addr) : Prop where
  ha : PySem.W.findIn K (.ref C) "__class__" = some (some (.builtin "object.__class__"))
  hn : PySem.W.specialIn K (.builtin "object.__class__") "__get__" = some (some (.builtin "getset_descriptor.__get__"))
  ht : PySem.W.takesIn K (.builtin "object.__class__") = some true
  hm : PySem.W.mroIn K C (.type "object") = some true
def ownB (K : PySem.W.Frag) (C : Addr) : Bool := decide (PySem.W.findIn K (.ref C) "__class__" = some (some (.builtin "object.__class__"))) && (decide (PySem.W.specialIn K (.builtin "object.__class__") "__get__" = some (some (.builtin "getset_descriptor.__get__"))) &&
  (decide (PySem.W.takesIn K (.builtin "object.__class__") = some true) && decide (PySem.W.mroIn K C (.type "object") = some true)))
theorem ownB_ok {K : PySem.W.Frag} {C : Addr} (h : ownB K C = true) : OwnK K C := by
  obtain ⟨h1, h⟩ := ba h
  obtain ⟨h2, h⟩ := ba h
  obtain ⟨h3, h4⟩ := ba h
  exact ⟨of_decide_eq_true h1, of_decide_eq_true h2, of_decide_eq_true h3, of_decide_eq_true h4⟩
/-! ### more facts -/
inductive Fb where
  /-- an own class whose instances isinstance is asked of -/
  | own (x : Str)
  /-- an own exception class -/
  | exq (x : Str)
  /-- isinstance of an instance of the first by the second; except: does the second catch the first -/
  | kit (x y : Str) (b : Bool)
  | exm (x y : Str) (b : Bool)
  /-- the class x has no attribute f -/
  | noat (x f : Str)
def Fb.ok (K : PySem.W.Frag) : Fb → Bool
  | .exq x => exB K (ga K x)
  | .own x => ownB K (ga K x)
  | .kit x y b => decide (PySem.W.kitOne K (.ref (ga K x)) (.ref (ga K y)) = some b)
  | .exm x y b => decide (PySem.W.exmOne K (.ref (ga K x)) (.ref (ga K y)) = some b)
  | .noat x f => decide (PySem.W.findIn K (.ref (ga K x)) f = some none)
/-! ### an __init__ that says super() -/
structure DefI where
  cls : Str
  name : Str
  qual : Str
  params : Arguments
  body : List Stmt
  scope : Scope
abbrev FnI : Type := Option (Str × Str × Arguments × FuncBody × Scope × Addr × List Str × Addr)
def fnI (K : PySem.W.Frag) (p : Str × Option Str) : FnI := match K.lookup (fAd K p) with
  | some ⟨_, _, .func fd, _⟩ => some (fd.name, fd.qualname, fd.params, fd.body, fd.scope, fd.globals, fd.closure.map (·.1), fd.builtins)
  | _ => none
def DefI.at_ (d : DefI) : Str × Option Str := (d.cls, some d.name)
def DefI.val (d : DefI) : FnI := some (d.name, d.qual, d.params, .stmts d.body, d.scope, mainGlobals, ["__class__"], builtinsNs)
/-- the cell of __class__ holds the class at C; the code object tells its file -/
def iniB (K : PySem.W.Frag) (C : Addr) (fd : FuncData) (q file : Str) : Bool := PySem.W.codeIn K fd.code q && (match fd.closure with
  | [(_, cc)] => (match K.lookup cc with
    | some ⟨_, _, .cell (some (.ref D)), _⟩ => decide (D = C)
    | _ => false)
  | _ => false) && (match fd.code with
  | .ref c => (match K.lookup c with
    | some ⟨_, _, .fields vs, _⟩ => (match vs.toList with
      | _ :: _ :: .str f _ :: _ => decide (f = file)
      | _ => false)
    | _ => false)
  | _ => false) && (match fd.defaults with
  | .none => true
  | _ => false)
def DefI.ok (K : PySem.W.Frag) (file : Str) (d : DefI) : Bool := PySem.W.keepIn K (.ref (fAd K d.at_)) && (decide (PySem.W.typeIn K (.ref (fAd K d.at_)) = some (.type "function")) &&
  (decide (PySem.W.findIn K (.ref (ga K d.cls)) "__init__" = some (some (.ref (fAd K d.at_)))) && (decide (PySem.W.ks_superIn K (ga K d.cls) (ga K d.cls) "__init__" = some (some (.builtin "ValueError.__init__"))) &&
    (decide (PySem.W.subIn K (.ref (ga K d.cls)) (.type "ValueError") = some true) && (decide (PySem.W.mroIn K (ga K d.cls) (.ref (ga K d.cls)) = some true) && (decide (PySem.W.nsIn K cStatics "thirdparty.any" = some none) &&
  (match K.lookup (fAd K d.at_) with
  | some ⟨_, _, .func fd, _⟩ => iniB K (ga K d.cls) fd d.qual file
  | _ => false)))))))
/-! ### the Hook -/
abbrev AlI : Type := AlD × Bool × List FnI
def obsI (fa : List Fa) (fn : List DefD) (fb : List Fb) (fi : List DefI) (file : Str) (K : PySem.W.Frag) : AlI := (obsD fa fn K, (fb.all fun f => f.ok K) && fi.all fun d => d.ok K file, fi.map fun d => fnI K d.at_)
def valI (fn : List DefD) (fi : List DefI) : AlI := (valD fn, true, fi.map DefI.val)
def SaysI (fa : List Fa) (fn : List DefD) (fb : List Fb) (fi : List DefI) (file : Str) (K : PySem.W.Frag) : Prop := obsI fa fn fb fi file K = valI fn fi
/-- the objects that the module's names reach in n steps, and some more -/
def asI (g : Addr → Option Obj) (n : Nat) : List Addr := asD g n ++ [cStatics]
def obsIG (n : Nat) (fa : List Fa) (fn : List DefD) (fb : List Fb) (fi : List DefI) (file : Str) (g : Addr → Option Obj) : AlI := obsI fa fn fb fi file (frG g (asI g n))
def hookI (n : Nat) (fa : List Fa) (fn : List DefD) (fb : List Fb) (fi : List DefI) (file : Str) : PySem.W.Hook where
  α := AlI
  obs := fun s => obsIG n fa fn fb fi file s.heap.get?
  val := fun _ => valI fn fi
  says := fun _ h => ∃ K : PySem.W.Frag, K.In h ∧ SaysI fa fn fb fi file K
  of := fun _ _ e => ⟨_, frG_in, e⟩
  keeps := fun _ _ _ ⟨K, hK, c⟩ k => ⟨K, PySem.W.Frag.In.keeps hK k, c⟩
theorem obsIG_eq {n : Nat} {fa : List Fa} {fn : List DefD} {fb : List Fb} {fi : List DefI} {file : Str} {g : Addr → Option Obj} {s : Shared} (h : ∀ a, g a = s.heap.get? a) : obsIG n fa fn fb fi file g = (hookI n fa fn fb fi file).obs s := by
  have e : g = s.heap.get? := funext h
  rw [e] <;> rfl
section
variable {fa : List Fa} {fn : List DefD} {fb : List Fb} {fi : List DefI} {file : Str} {K : PySem.W.Frag}
theorem SaysI.d (c : SaysI fa fn fb fi file K) : SaysD fa fn K := congrArg (fun z : AlI => z.1) c
theorem SaysI.fb_ (c : SaysI fa fn fb fi file K) {f : Fb} (h : f ∈ fb) : f.ok K = true := by
  have e : ((fb.all fun f => f.ok K) && fi.all fun d => d.ok K file) = true := congrArg (fun z : AlI => z.2.1) c
  exact List.all_eq_true.mp (ba e).1 f h
theorem SaysI.fi_ (c : SaysI fa fn fb fi file K) (i : Nat) {d : DefI} (h : fi[i]? = some d) : d.ok K file = true ∧ fnI K d.at_ = d.val := by
  have e : ((fb.all fun f => f.ok K) && fi.all fun d => d.ok K file) = true := congrArg (fun z : AlI => z.2.1) c
  have e2 : fi.map (fun d => fnI K d.at_) = fi.map DefI.val := congrArg (fun z : AlI => z.2.2) c
  have e3 : (fi.map fun d => fnI K d.at_)[i]? = (fi.map DefI.val)[i]? := by rw [e2]
  rw [List.getElem?_map, List.getElem?_map, h] at e3
  exact ⟨List.all_eq_true.mp (ba e).2 d (List.mem_of_getElem? h), Option.some.inj e3⟩
end
end Y

/-! An own exception class whose __init__ begins with super().__init__('..'). -/
namespace Y
open PySem PySem.Spec L2
section
open PySem.W PySem.Calls
variable {prog : Program} {w : World} {A : Around} {E : Value → Shared → Prop} {h : Heap} {g : Array GenState} {d : Drawn} {t : Nat} {os : OsState}
variable {nm q : Str} {C N : Addr} {bs bm : List Value} {hdct : Bool} {sn : List Str} {sub : List Value} {ab : Bool} {col : Option Bool} {dd : Option Addr} {k0 k1 k2 k3 k5 : Option Value}
/-- the bound ValueError.__init__ called: the args are laid anew -/
theorem call_mw {u e t0 : Addr} {rest : List Value} {Q : Value → Shared → Prop}
    (hC : h.get? C = some (excClassObj nm q C N bs bm hdct sn sub ab col dd k0 k1 k2 k3 k5 "ValueError.__new__")) (he : h.get? e = some (HandSPX.excO C t0)) (hu : h.get? u = some (kxs_mw "ValueError.__init__" e)) (hrest : rest.length ≤ sizeLine)
    (hq : ∀ h' t1, (∀ b o, b ≠ e → h.get? b = some o → h'.get? b = some o) → h'.get? e = some (HandSPX.excO C t1) → Q .none ⟨h', g, d, t, os⟩) :
    wpAny (model prog w) A (call (.ref u) rest) Q E ⟨h, g, d, t, os⟩ := by
  refine wpAny_call (codeAny_of_tree ?_)
  show wpAny _ A.in1 (callAny (.ref u) ⟨rest, []⟩) _ _ _
  simp only [callAny]
  refine wpAny_bind (wpAny_load hu ?_)
  simp only [kxs_mw, show (Value.type "method-wrapper" == Value.type "method" || Value.type "method-wrapper" == Value.type "builtin_function_or_method" || Value.type "method-wrapper" == Value.type "method-wrapper") = true by decide, if_true]
  refine W.KFB.if_so (by decide) ?_
  refine wpAny_bind (ESX.check_bound F.excBase_ValueError hC he rfl ?_)
  refine wpAny_bind (wpAny_pure (wpAny_pure ?_))
  refine ⟨Code.quiet_builtin _ (by decide +kernel), codeAny_builtin F.excBase_ValueError.initEntry ?_⟩
  rw [Around.under_plainId F.excBase_ValueError.init.plain _]
  wp_walk
  refine hq _ h.objs.size (fun b o hb ho => ?_) ?_
  · rw [Heap.get?_update_other _ _ (Ne.symm hb)]
    exact Heap.get?_push_of_some _ ho
  · rw [Heap.get?_update_self _ (Heap.get?_push_of_some _ he) rfl]
    rfl
end
/-- the context of such an __init__ -/
def cxI (CX : CXT) (P : Program) (w : World) (K : PySem.W.Frag) (mg : Str → Option Value) (base : Heap) (N : List Str) (fd : FuncData) (f : Addr) (A : Around) (outer : List Env) (s : Shared) (H : Hp) (E : XK) : Cx where
  prog := P
  w := w
  K := K
  mg := mg
  base := base
  A := A.deeper (callEnv fd s.heap.objs.size f)
  N := N
  s_0 := s
  H_0 := H
  env := callEnv fd s.heap.objs.size f
  outer := outer
  stack := callEnv fd s.heap.objs.size f :: outer
  ex := []
  calm := true
  fn := fun _ => false
  pn := []
  xe := fun e s' => wpAny (model P w) (A.deeper (callEnv fd s.heap.objs.size f)) (leaving (callEnv fd s.heap.objs.size f) e) (fun _ s'' => CX outer H s E e s'') (fun e' s'' => CX outer H s E e' s'') s'
/-- what is asked of the scope of such an __init__ -/
structure IniScope (N ps : List Str) (sc : Scope) : Prop where
  kind : sc.kind = .function
  co : sc.isCoroutine = false
  gen : sc.isGenerator = false
  nd : N.Nodup
  pre : N.take ps.length = ps
  par : ∀ x ∈ ps, sc.names.lookup x = some .local
  nocell : ∀ y ∈ sc.names, y.2 ≠ .cell
  frees : ∀ y ∈ sc.names, y.2 = NameKind.free → y.1 = "__class__"
  sup : sc.names.lookup ("super" : Str) = some NameKind.globalImplicit
  cl : sc.names.lookup ("__class__" : Str) = some NameKind.free
abbrev iniFd (name qual : Str) (params : Arguments) (body : List Stmt) (scope : Scope) (dV kV doc pm : Value) (an : Option Addr) (cdv ct : Value) (cc : Addr) : FuncData := PySem.W.fnX name qual params body scope [(("__class__" : Str), cc)] dV kV doc pm an cdv ct
theorem look_nd {β : Type} {x : Str} {v : β} : ∀ {l : List (Str × β)}, (l.map (·.1)).Nodup → (x, v) ∈ l → l.lookup x = some v
  | [], _, h => absurd h (by simp)
  | (y, u) :: r, nd, h => by
    rw [List.map_cons, List.nodup_cons] at nd
    rcases List.mem_cons.mp h with e | h
    · cases e
      simp [List.lookup]
    · have ne : x ≠ y := fun e => nd.1 (by rw [← e]; exact List.mem_map_of_mem (f := (·.1)) h)
      have hb : (x == y) = false := by simpa using ne
      simp only [List.lookup, hb]
      exact look_nd nd.2 h
theorem mem_look {sc : Scope} {x : Str} {k : NameKind} (h : sc.names.lookup x = some k) : (x, k) ∈ sc.names := PySem.mem_of_lookup h
theorem ini_start {CX : CXT} {P : Program} {w : World} {K : PySem.W.Frag} {mg : Str → Option Value} {base : Heap} {N ps : List Str} {fd : FuncData} {f cc : Addr} {A : Around} {outer : List Env} {s : Shared} {h1 : Heap} {H : Hp} {E : XK} {us : List Value} {vs : List V} {ocell : Obj} {D : Addr} {tk : Nat}
    (S : IniScope N ps fd.scope) (hcl : fd.closure = [(("__class__" : Str), cc)]) (hgl : fd.globals = mainGlobals) (hbt : fd.builtins = builtinsNs) (hcc : K.lookup cc = some ocell) (hcd : ocell.data = .cell (some (.ref D)))
    (hd : A.handled = none) (e0 : Env0 P w K mg base A outer s H) (hl : vs.length = ps.length) (r : Vals vs us)
    (hns : h1.Ns s.heap.objs.size (fun x => (ps.zip us).reverse.lookup x)) (hk : ∀ b o, s.heap.get? b = some o → h1.get? b = some o) :
    Inv (cxI CX P w K mg base N fd f A outer s H E) [] (start N vs) H { s with heap := h1, toks := tk } := by
  have hpl : ps.length ≤ N.length := by have := congrArg List.length S.pre; rw [List.length_take] at this; omega
  have ecells : (callEnv fd s.heap.objs.size f).cells = [(("__class__" : Str), cc)] := by
    show fd.closure = _
    exact hcl
  have one : ∀ {x c}, (callEnv fd s.heap.objs.size f).cells.lookup x = some c → x = "__class__" ∧ c = cc := fun {x c} e => by
    rw [ecells] at e
    by_cases hx : x = "__class__"
    · subst hx
      simp at e
      exact ⟨rfl, e.symm⟩
    · have hb : (x == ("__class__" : Str)) = false := by simpa using hx
      simp [List.lookup, hb] at e
  have ccb : base.get? cc = some ocell := e0.mod.kin _ _ hcc
  have ccs : s.heap.get? cc = some ocell ∧ H cc = none := e0.bs _ _ ccb
  have isc : ∀ {hp : Heap}, hp.get? cc = some ocell → hp.IsCell cc (some (.ref D)) := fun {hp} e => ⟨ocell, e, hcd⟩
  have ksc : (callEnv fd s.heap.objs.size f).scope = fd.scope := rfl
  have ndP : ps.Nodup := by rw [← S.pre]; exact S.nd.sublist (List.take_sublist _ _)
  refine ⟨⟨e0.mod, S.kind, hgl, hbt, Nat.le_refl _, fun y z c a b => ?_, fun y hy => ?_, fun y c hf _ => ?_, fun _ => hd, Around.frames_deeper e0.frames, .inr ⟨rfl, rfl⟩, fun b z => ?_, e0.bs, e0.bsz, fun b _ _ z => ?_, fun b z => ?_, e0.funs, e0.frf⟩,
    rfl, e0.bare, Un.kept hk, ⟨_, hns, fun i y v a b c => ?_⟩, fun y c e => ?_, e0.hok.fresh (Nat.le_refl _), fun y c e => ?_, fun p hp => absurd (show p ∈ ([] : List (Addr × Obj)) from hp) (by simp), e0.hok.kept hk, ?_⟩
  · rw [(one a).1, (one b).1]
  · have hy : fd.scope.names.lookup y = some .cell ∨ fd.scope.names.lookup y = some .free := hy
    rcases hy with hy | hy
    · exact absurd rfl (S.nocell _ (mem_look hy))
    · have e := S.frees _ (mem_look hy) rfl
      have e' : y = "__class__" := e
      subst e'
      refine ⟨cc, ?_⟩
      show (callEnv fd s.heap.objs.size f).cells.lookup ("__class__" : Str) = some cc
      rw [ecells]
      rfl
  · exact absurd (show false = true from hf) Bool.false_ne_true
  · exact absurd (show b ∈ ([] : List Addr) from z) (by simp)
  · exact absurd (show b ∈ ([] : List Addr) from z) (by simp)
  · exact absurd (show b ∈ ([] : List Addr) from z) (by simp)
  · have hi : i < vs.length := by
      unfold L2.start at b
      by_cases hi : i < vs.length
      · exact hi
      · rw [List.getElem?_append_right (by simpa using hi)] at b
        rw [List.getElem?_replicate] at b
        split at b <;> cases b
    have ha : vs[i]? = some v := by
      unfold L2.start at b
      rw [List.getElem?_append_left (by simpa using hi), List.getElem?_map] at b
      cases e : vs[i]? with
      | none => rw [e] at b; cases b
      | some a => rw [e] at b; cases b; rfl
    obtain ⟨u, hu, rv⟩ := r.get ha
    have hp : ps[i]? = some y := by
      rw [← S.pre, List.getElem?_take_of_lt (by omega)]; exact a
    refine ⟨u, rv, .inl ⟨S.par y (List.mem_of_getElem? hp), ?_⟩⟩
    have hz : (ps.zip us)[i]? = some (y, u) := by
      rw [List.getElem?_zip_eq_some]
      exact ⟨hp, hu⟩
    have nd2 : ((ps.zip us).map (·.1)).Nodup := by
      rw [List.map_fst_zip (by rw [← r.length, hl]; exact Nat.le_refl _)]
      exact ndP
    show (ps.zip us).reverse.lookup y = some u
    rw [lookup_reverse_of_nodup _ nd2]
    exact look_nd nd2 (List.mem_of_getElem? hz)
  · rw [(one e).2]
    exact ⟨_, isc (hk _ _ ccs.1)⟩
  · rw [(one e).2]
    exact ccs.2
  · unfold L2.start
    show _ = N.length
    rw [List.length_append, List.length_map, List.length_replicate]
    omega
/-- super().__init__('m') as the first row, the exception standing at a -/
theorem ini_super {P : Program} {X : Cx} {a C D f cc cda : Addr} {σ : L2.St} {H : Hp} {s : Shared} {fd : FuncData} {ar : Arg} {vs : Array Value} {tf : Tok} {file : Str} {of oco : Obj} {rest : List Stmt} {m : Str} {j : Nat} {p0 p1 ap cp p2 sp : Pos} {body : List Stmt} {Q : Flow → Shared → Prop}
    (T : OexC X.K C) (I : Inv X [] σ H s) (e : H a = some (exo a C none)) (hD : D = C) (hprog : X.prog = P)
    (hks : X.env.kindOf "super" = some .globalImplicit) (hkc : X.env.kindOf "__class__" = some .free) (hcells : X.env.cells = [(("__class__" : Str), cc)]) (hfu : X.env.func = some f) (hf : X.K.lookup f = some of) (hfd : of.data = .func fd)
    (hp : (fd.params.posonlyargs ++ fd.params.args).head? = some ar) (hco : X.env.code = .ref cda) (hcc : X.K.lookup cda = some oco) (hoc : oco.data = .fields vs) (hvs : vs[2]? = some (.str file tf)) (hfile : (P.main.file == file) = true) (htop : (P.main.scope.names.lookup ("super" : Str)).isSome = false)
    (hcell : ∃ ol, X.K.lookup cc = some ol ∧ ol.data = .cell (some (.ref D))) (hsi : X.mg "super" = none)
    (hN : X.N[0]? = some ar.arg) (hσ : σ[0]? = some (some (.ref a))) (hloc : X.env.kindOf ar.arg = some .local) (hth : PySem.W.nsIn X.K cStatics "thirdparty.any" = some none)
    (hin : PySem.W.ks_superIn X.K C C "__init__" = some (some (.builtin "ValueError.__init__"))) (hsub : PySem.W.subIn X.K (.ref C) (.type "ValueError") = some true) (hmro : PySem.W.mroIn X.K C (.ref C) = some true) (hA : X.A.handled = none)
    (hst : swapsWith (.Call (.Attribute (.Call (.Name "super" p0) [] [] p1) "__init__" ap) [.Constant (.str m) j p2] [] cp) none sp.line X.env = pure false)
    (hev : ∃ pl : Sem Bool, eval (.Call (.Attribute (.Call (.Name "super" p0) [] [] p1) "__init__" ap) [.Constant (.str m) j p2] [] cp) X.env = (do
        let ov ← attributeBase (.Call (.Name "super" p0) [] [] p1) "__init__" X.env (eval (.Call (.Name "super" p0) [] [] p1) X.env)
        standAt ap.atName
        let (f, first) ← holding [ov] (getMethod ov "__init__" pl)
        callWith cp f first (backTo cp (starEach [.Constant (.str m) j p2] X.env)) []))
    (h : ∀ s', Inv X [] σ H s' → wpAny (model P X.w) X.A (execs rest X.env) Q X.xe s') :
    wpAt (model P X.w) X.A (.func body X.env) (execs (.Expr (.Call (.Attribute (.Call (.Name "super" p0) [] [] p1) "__init__" ap) [.Constant (.str m) j p2] [] cp) sp :: rest) X.env) Q X.xe s := by
  subst hD
  subst hprog
  obtain ⟨nm, q', N', bs, bm, sn, sub, ab, col, dd, k0, k1, k2, k3, k5, hC, hbm⟩ := id T.cls
  obtain ⟨t1, ho⟩ := exo_at I.hok e
  have hcl : PySem.W.clsIn X.K D = some { name := nm, bases := bs, mro := .ref D :: bm, ns := N', qualname := q', hasDict := true, slotNames := sn, subclasses := sub, abstract := ab, collection := col, hasDel := false } := by unfold PySem.W.clsIn; rw [hC] <;> rfl
  obtain ⟨ocl, hcl1, hcl2⟩ := hcell
  obtain ⟨pl, hev⟩ := hev
  have LI : PySem.W.InstAt s.heap a { cls := .ref D, data := .fields #[.ref t1, .none, .none, .none, .bool false, .none] } D none := ⟨ho, rfl, rfl, trivial⟩
  refine ks_wpAt_execs_cons ?_
  refine ks_wpAt_Expr_any ?_ I.quiet hst
  refine ks_wpAt_MethodCall (pl := pl) ?_ hev
  refine ks_wpAt_super_base (env := X.env) hks hkc (by decide) hfu (I.kIn _ _ hf) hfd hp hco (I.kIn _ _ hcc) hoc hvs hfile htop ?_
  obtain ⟨mb, hb1, hb2⟩ := I.mod.blt
  refine PySem.W.ks_loadName_global I.ok.kind hks (Calls.loadGlobal_builtin (by rw [I.ok.glob]; exact I.mod.glob.keeps I.bk) hsi (by rw [I.ok.blt]; exact hb1.keeps I.bk) ((hb2 "super" (by decide)).trans (by decide +kernel : bootBuiltins "super" = some (.type "super"))) ⟨rfl, ?_⟩)
  have hcc' : X.env.cells.lookup ("__class__" : Str) = some cc := by rw [hcells]; rfl
  refine wpAny_loadName_free I.ok.kind hkc hcc' ⟨_, I.kIn _ _ hcl1, hcl2⟩ ?_
  obtain ⟨mm, hn, hlk⟩ := id I.loc
  obtain ⟨u, ru, hl⟩ := hlk 0 ar.arg (.ref a) hN hσ (.inl hloc)
  obtain rfl : u = Value.ref a := ru
  have hv : mm ar.arg = some (.ref a) := by
    rcases hl with ⟨_, h⟩ | ⟨h, _⟩
    · exact h
    · rw [hloc] at h
      rcases h with h | h <;> cases h
  refine wpAny_loadName_local I.ok.kind hloc hn hv ?_
  have hCs := I.kIn _ _ hC
  refine ks_wpAny_isType_cls hCs rfl ⟨rfl, ?_⟩
  obtain ⟨hp0, g, d, t, os⟩ := s
  refine ks_wpAny_call_super hCs rfl ho rfl (fun c z => nomatch z) (PySem.W.looks_mroIn I.kIn hmro) fun h' hso k => ?_
  have I2 : Inv X [] σ H ⟨h', g, d, t, os⟩ := I.kept (t' := t) k
  have LM : PySem.W.Looks (model X.prog X.w) h' (mroOf (.ref D)) (.ref D :: bm) := fun A Q E s kk z => wpAny_bind ((PySem.W.looks_clsIn I2.kIn hcl) A _ E s kk (wpAny_pure z))
  have hin' : PySem.W.alongIn X.K "__init__" (((.ref D :: bm).dropWhile (· != .ref D)).drop 1) = some (some (.builtin "ValueError.__init__")) := by
    have z := hin
    unfold PySem.W.ks_superIn at z
    rw [hcl] at z
    exact z
  have LI2 : PySem.W.InstAt h' a { cls := .ref D, data := .fields #[.ref t1, .none, .none, .none, .bool false, .none] } D none := ⟨k _ _ ho, rfl, rfl, trivial⟩
  have hI2 : PySem.W.Looks (model X.prog X.w) h' (isInstance (.ref a) (.type "ValueError")) true := LI2.type.andThen (PySem.W.looks_subIn I2.kIn hsub)
  refine PySem.W.kxs_getMethod PySem.W.kxs_ValueError hso (PySem.W.looks_opaque I2.kIn hth) LM rfl I2.kIn hin' hI2 (PySem.W.ks_ne I2.kIn LI2 hcl) (by decide) ?_
  have I3 : Inv X [] σ H ⟨h'.push (PySem.W.kxs_mw "ValueError.__init__" a), g, d, t + 1, os⟩ := I2.kept (t' := t + 1) fun b o z => Heap.get?_push_of_some _ z
  have hu3 : (h'.push (PySem.W.kxs_mw "ValueError.__init__" a)).get? h'.objs.size = some (PySem.W.kxs_mw "ValueError.__init__" a) := Heap.get?_push_size _ rfl
  show wpAny _ _ (callWith cp (Value.ref h'.objs.size) [] (backTo cp (starEach [.Constant (.str m) j p2] X.env)) []) _ _ _
  have he : starEach [.Constant (.str m) j p2] X.env = (false, eval (.Constant (.str m) j p2) X.env) :: starEach [] X.env := by rfl
  have ha : PA X [.Constant (.str m) j p2] (tCons (tC (.str m)) tNil) := pa_cons pe_str pa_nil
  have I3p := I3.pinned (fp := [h'.objs.size]) (fun b hb => by
      have eb : b = h'.objs.size := by simpa using hb
      rw [eb]
      have z := I2.fpOk (b := h'.objs.size) (H' := H) (Nat.le_refl _) (I2.hok.fresh (Nat.le_refl _))
      exact z) (fun b hb => by
      have eb : b = h'.objs.size := by simpa using hb
      rw [eb]
      exact ⟨_, hu3, fun v z => nomatch z⟩)
  have hsp := ha.run cp _ _ σ H (fun vs H1 => vs = [V.str m] ∧ H = H1) I3p ⟨rfl, rfl⟩
  rw [he] at hsp ⊢
  refine PySem.W.kxs_callWith (i := "ValueError.__init__") (x := a) (by rfl) (Calls.evalArgs_plain ?_)
  refine thn hsp fun us s4 hh => ?_
  obtain ⟨vs4, H4, I4, r4, ev, eH⟩ := hh
  subst ev
  rw [← eH] at I4
  have hu4 : s4.heap.get? h'.objs.size = some (PySem.W.kxs_mw "ValueError.__init__" a) :=
    (I4.pin (h'.objs.size, PySem.W.kxs_mw "ValueError.__init__" a) (List.mem_append_right _ (List.mem_append_right _ (mem_pinsAt (fp := [h'.objs.size]) (by simp) hu3)))).1
  refine ⟨hu4, ?_⟩
  obtain ⟨t4, ho4⟩ := exo_at I4.hok e
  have I5 : Inv X [] σ H s4 := I4.pins_of fun p hp => by
    have hp' : p ∈ X.pn := by simpa using hp
    exact I4.pin p (List.mem_append_left _ hp')
  obtain ⟨hp4, g4, d4, tk4, os4⟩ := s4
  have hlen : us.length ≤ sizeLine := by
    rw [← Paired.length r4, sizeLine_eq]
    show 1 ≤ 16777216
    decide
  refine call_mw (I5.kIn _ _ hC) ho4 hu4 hlen fun h5 t5 k5 hx5 => ?_
  have J := I5.write (t' := tk4) (x := a) (e := a) (o := exo a D none) (by rw [e]; exact True.intro) (.inl rfl) k5 ⟨_, hx5⟩ (exo_ok hx5)
  have eu : upd H a (exo a D none) = H := by
    funext b
    by_cases hb : b = a
    · rw [hb, upd_same, e]
    · rw [upd_ne hb]
  rw [eu] at J
  exact wpAt_of_wpAny (h _ J)
/-- what the written part says of such an __init__ at f: C its class -/
structure IniF (P : Program) (K : PySem.W.Frag) (mg : Str → Option Value) (C f : Addr) (name qual : Str) (params : Arguments) (body : List Stmt) (scope : Scope) (fd : FuncData) : Prop where
  ex : ∃ (oc : Value) (od : Option Addr) (kV doc pm : Value) (an : Option Addr) (cda : Addr) (ct : Value) (osl : Array (Option Value)) (cc : Addr) (ocl oco : Obj) (vs : Array Value) (tf : Tok),
    fd = iniFd name qual params body scope .none kV doc pm an (.ref cda) ct cc ∧ K.lookup f = some ⟨oc, od, .func fd, osl⟩ ∧ PySem.W.codeIn K (.ref cda) qual = true ∧
      K.lookup cc = some ocl ∧ ocl.data = .cell (some (.ref C)) ∧ K.lookup cda = some oco ∧ oco.data = .fields vs ∧ vs[2]? = some (.str P.main.file tf)
  sup : mg "super" = none
  th : PySem.W.nsIn K cStatics "thirdparty.any" = some none
  inn : PySem.W.ks_superIn K C C "__init__" = some (some (.builtin "ValueError.__init__"))
  sub : PySem.W.subIn K (.ref C) (.type "ValueError") = some true
  mro : PySem.W.mroIn K C (.ref C) = some true
  init : PySem.W.findIn K (.ref C) "__init__" = some (some (.ref f))
  typ : PySem.W.typeIn K (.ref f) = some (.type "function")
  top : (P.main.scope.names.lookup ("super" : Str)).isSome = false
/-- a class's own __init__, its first row super().__init__('m') -/
theorem fn_ini {CX : CXT} {P : Program} {w : World} {K : PySem.W.Frag} {mg : Str → Option Value} {base : Heap} {k : Nat} {C f : Addr} {name qual : Str} {params : Arguments} {scope : Scope} {fd : FuncData} {N ps : List Str} {sp : Sp} {ar : Arg} {rest : List Stmt} {m : Str} {j : Nat} {p0 p1 ap cp p2 rp : Pos} {x : Str}
    (F : IniF P K mg C f name qual params (.Expr (.Call (.Attribute (.Call (.Name "super" p0) [] [] p1) "__init__" ap) [.Constant (.str m) j p2] [] cp) rp :: rest) scope fd) (T : OexC K C) (S : IniScope N ps scope)
    (hp : (params.posonlyargs ++ params.args).head? = some ar) (hN : N[0]? = some ar.arg) (hps : ar.arg ∈ ps)
    (hev : ∀ env : Env, ∃ pl : Sem Bool, eval (.Call (.Attribute (.Call (.Name "super" p0) [] [] p1) "__init__" ap) [.Constant (.str m) j p2] [] cp) env = (do
        let ov ← attributeBase (.Call (.Name "super" p0) [] [] p1) "__init__" env (eval (.Call (.Name "super" p0) [] [] p1) env)
        standAt ap.atName
        let (f, first) ← holding [ov] (getMethod ov "__init__" pl)
        callWith cp f first (backTo cp (starEach [.Constant (.str m) j p2] env)) []))
    (len : ∀ vs H Q E, sp vs H Q E → vs.length = ps.length) (hsp : ∀ vs H Q E, sp vs H Q E → ∃ a ws, vs = .ref a :: ws ∧ H a = some (exo a C none))
    (hbody : ∀ (A : Around) (outer : List Env) (s : Shared) (H : Hp) (vs : List V) (Q : VK) (E : XK), Room k (A.deeper (callEnv fd s.heap.objs.size f)) → sp vs H Q E →
      ∃ t, PSs (cxI CX P w K mg base N fd f A outer s H E) rest t ∧ t { nx := fun _ H' => Q .non H', rt := Q } (start N vs) H) :
    FnOk P w K mg base CX (k + 1) f fd ps sp := by
  obtain ⟨oc, od, kV, doc, pm, an, cda, ct, osl, cc, ocl, oco, vsc, tf, hfd, lk, hcd, hcl, hcld, hco, hcod, hvs⟩ := F.ex
  refine ⟨len, fun A outer s H args us vs Q E hr e0 hb r hq0 => ?_⟩
  have hl := len _ _ _ _ hq0
  obtain ⟨a, ws, ev, he⟩ := hsp _ _ _ _ hq0
  have KX : K.In s.heap := e0.mod.kin.keeps fun b o e => (e0.bs b o e).1
  have lim : s.heap.NoLimit := e0.mod.nolimit.keeps fun b o e => (e0.bs b o e).1
  subst hfd
  refine ks_codeAny_call_defAt hr.depth (KX _ _ lk) rfl lim (PySem.W.codeRec_of KX hcd) rfl hb S.nocell (fun y hy => S.par _ (List.of_mem_zip (show (y.1, y.2) ∈ ps.zip us from hy)).1) (fun h0 hns hk => ?_) S.co S.gen S.kind
  have I : Inv (cxI CX P w K mg base N (iniFd name qual params (.Expr (.Call (.Attribute (.Call (.Name "super" p0) [] [] p1) "__init__" ap) [.Constant (.str m) j p2] [] cp) rp :: rest) scope .none kV doc pm an (.ref cda) ct cc) f A outer s H E) [] (start N vs) H { s with heap := h0, toks := s.toks + (ps.zip us).length } :=
    ini_start S rfl rfl rfl hcl hcld hr.hd e0 hl r hns hk
  obtain ⟨t, ht, hq⟩ := hbody A outer s H vs Q E (hr.deeper _) hq0
  have h00 : (start N vs)[0]? = some (some (.ref a)) := by
    rw [ev]
    rfl
  refine wpAt_mono (ini_super (P := P) (X := cxI CX P w K mg base N (iniFd name qual params (.Expr (.Call (.Attribute (.Call (.Name "super" p0) [] [] p1) "__init__" ap) [.Constant (.str m) j p2] [] cp) rp :: rest) scope .none kV doc pm an (.ref cda) ct cc) f A outer s H E) T I he rfl rfl S.sup S.cl rfl rfl lk rfl hp rfl hco hcod hvs (by simp) F.top ⟨ocl, hcl, hcld⟩ F.sup hN h00 (S.par _ hps) F.th F.inn F.sub F.mro hr.hd rfl (hev _) fun s' J => ht.run [] s' (start N vs) H _ J hq) (fun fl s' hs => ?_) fun e s' hs => hs
  cases fl with
  | ret u =>
    obtain ⟨v, σ', H', J, rv, q⟩ := hs
    exact ⟨v, H', J.os, J.bare, J.base, J.hok, rv, q⟩
  | next =>
    obtain ⟨σ', H', J, q⟩ := hs
    exact ⟨V.non, H', J.os, J.bare, J.base, J.hok, rfl, q⟩
  | brk =>
    obtain ⟨_, _, _, q⟩ := hs
    exact False.elim q
  | cont =>
    obtain ⟨_, _, _, q⟩ := hs
    exact False.elim q
end Y

namespace Y
open PySem PySem.Spec L2 He
/-! ### an __init__ of the head's -/
theorem iniF_of {P : Program} {K : PySem.W.Frag} {h : Heap} {mg : Str → Option Value} {d : DefI} {file : Str} (hm : P.main.file = file) (ht : (P.main.scope.names.lookup ("super" : Str)).isSome = false) (hs : mg "super" = none) (c : d.ok K file = true) (e : fnI K d.at_ = d.val) :
    ∃ fd, IniF P K mg (ga K d.cls) (fAd K d.at_) d.name d.qual d.params d.body d.scope fd := by
  unfold DefI.ok at c
  obtain ⟨c1, c⟩ := ba c
  obtain ⟨c2, c⟩ := ba c
  obtain ⟨c3, c⟩ := ba c
  obtain ⟨c4, c⟩ := ba c
  obtain ⟨c5, c⟩ := ba c
  obtain ⟨c6, c⟩ := ba c
  obtain ⟨c7, c⟩ := ba c
  unfold fnI at e
  cases q : K.lookup (fAd K d.at_) with
  | none =>
    rw [q] at c
    cases c
  | some o =>
    obtain ⟨oc, od, dt, osl⟩ := o
    rw [q] at c e
    cases dt with
    | func fd =>
      obtain ⟨n1, n2, n3, n4, n5, n6, n7, n8, n9, n10, n11, n12, n13, n14, n15⟩ := fd
      have e2 : (some (n1, n2, n3, n4, n5, n6, n7.map (·.1), n15) : FnI) = (some (d.name, d.qual, d.params, FuncBody.stmts d.body, d.scope, mainGlobals, ["__class__"], builtinsNs) : FnI) := e
      simp only [Option.some.injEq, Prod.mk.injEq] at e2
      obtain ⟨h1, h2, h3, h4, h5, h6, h7, h8⟩ := e2
      subst h1 h2 h3 h4 h5 h6 h8
      have c8 : iniB K (ga K d.cls) _ d.qual file = true := c
      unfold iniB at c8
      obtain ⟨c13, c14⟩ := ba c8
      obtain ⟨c11, c10⟩ := ba c13
      obtain ⟨c12, c9⟩ := ba c11
      clear c8 c11 c13
      dsimp only at c12 c9 c10 c14
      cases n8 with
      | none => ?_
      | _ => cases c14
      cases n7 with
      | nil => cases c9
      | cons p r =>
        cases r with
        | cons p2 r2 => cases c9
        | nil =>
          obtain ⟨pn, cc⟩ := p
          have epn : pn = "__class__" := by
            have z : [pn] = [("__class__" : Str)] := h7
            exact List.head_eq_of_cons_eq z
          subst epn
          dsimp only at c9
          cases ql : K.lookup cc with
          | none =>
            rw [ql] at c9
            cases c9
          | some ol =>
            obtain ⟨lc, ld, ldt, lsl⟩ := ol
            rw [ql] at c9
            cases ldt with
            | cell v =>
              cases v with
              | none => cases c9
              | some v =>
                cases v with
                | ref D =>
                  have eD : D = ga K d.cls := of_decide_eq_true c9
                  subst eD
                  cases n13 with
                  | ref cda =>
                    dsimp only at c10
                    cases qc : K.lookup cda with
                    | none =>
                      rw [qc] at c10
                      cases c10
                    | some oo =>
                      obtain ⟨occ, ocd, ocdt, ocsl⟩ := oo
                      rw [qc] at c10
                      cases ocdt with
                      | fields vs =>
                        dsimp only at c10
                        obtain ⟨l⟩ := vs
                        match l, c10 with
                        | _ :: _ :: .str f tf :: rest, c10 =>
                          have ef : f = file := of_decide_eq_true c10
                          subst ef
                          refine ⟨_, ⟨oc, od, n9, n10, n11, n12, cda, n14, osl, cc, _, _, _, tf, rfl, q, c12, ql, rfl, qc, rfl, ?_⟩, hs, of_decide_eq_true c7, of_decide_eq_true c4, of_decide_eq_true c5, of_decide_eq_true c6, of_decide_eq_true c3, of_decide_eq_true c2, ht⟩
                          rw [hm]
                          rfl
                      | _ => cases c10
                  | _ => cases c10
                | _ => cases c9
            | _ => cases c9
    | _ => cases c
/-! ### raising an own exception with fields -/
/-- __init__ stores the arguments under the names fs, in order -/
def spIni (C : Addr) (fs : List Str) : Sp := fun vs H Q _ => ∃ (a : Addr) (ws : List V), vs = .ref a :: ws ∧ ws.length = fs.length ∧ H a = some (exo a C none) ∧
  ∀ dx, H dx = none → dx ≠ a → Q .non (upd (upd H dx (exd dx (fs.zip ws).reverse)) a (exo a C (some dx)))
/-- an own exception class, named x, ready to be raised -/
structure Rz (P : Program) (w : World) (K : PySem.W.Frag) (mg : Str → Option Value) (base : Heap) (x : Str) (C : Addr) (fs : List Str) : Prop where
  g : mg x = some (.ref C)
  o : OexC K C
  ex : ∃ (fI : Addr) (fd : FuncData) (ps : List Str), FnOk P w K mg base CX0 1 fI fd ps (spIni C fs) ∧ Binds K fd ps [] ∧ PySem.W.findIn K (.ref C) "__init__" = some (some (.ref fI)) ∧ PySem.W.typeIn K (.ref fI) = some (.type "function")
def tRz (C : Addr) (fs : List Str) (ta : TA) : L2.St → Hp → XK → Prop := fun σ H Q => ta σ H fun vs H1 => vs.length = fs.length ∧ vs.length ≤ 1000 ∧ ∀ d, H1 d = none → Q (.ref C) (some d) (upd H1 d (.xd (fs.zip vs).reverse))
def tMon (t : TA) : TA := fun σ H Q => ∃ Q0 : List V → Hp → Prop, t σ H Q0 ∧ ∀ vs H1, Q0 vs H1 → Q vs H1
theorem pa_mon {X : Cx} {es : List Expr} {t : TA} (h : PA X es t) : PA X es (tMon t) := by
  refine ⟨fun pos pins s σ H Q I q => ?_⟩
  obtain ⟨Q0, h0, k⟩ := q
  refine thn (h.run pos pins s σ H Q0 I h0) fun us s1 z => ?_
  obtain ⟨vs, H1, I1, r, q⟩ := z
  exact ⟨vs, H1, I1, r, k _ _ q⟩
/-- an own exception, made: its context is None -/
theorem pmk_oexN {X : Cx} {e : Expr} {es : List Expr} {ta : TA} {p pos : Pos} {CX : CXT} {x : Str} {C fI : Addr} {k : Nat} {fd : FuncData} {ps : List Str} {sp : Sp} (T : OexC X.K C) (iC : PySem.W.findIn X.K (.ref C) "__init__" = some (some (.ref fI))) (tI : PySem.W.typeIn X.K (.ref fI) = some (.type "function"))
    (F1 : FnOk X.prog X.w X.K X.mg X.base CX k fI fd ps sp) (hr : Room (k + 1) X.A) (hb : Binds X.K fd ps []) (hx : Passes CX X (fun _ _ _ => False)) (hg : Gl X x) (hm : X.mg x = some (.ref C)) (ha : PA X (e :: es) ta)
    (hdb : (x == ("__debug__" : Str)) = false := by decide) (he : starEach (e :: es) X.env = (false, eval e X.env) :: starEach es X.env := by rfl) (hpl : (backTo pos (starEach es X.env)).any (·.1) = false := by rfl) :
    L2N.PMk X (.Call (.Name x p) (e :: es) [] pos) (tMkO C sp [] ta) := by
  intro pins s σ H Q I h
  obtain ⟨nm, q, N, bs, bm, sn, sub, ab, col, dd, k0, k1, k2, k3, k5, hC, hbm⟩ := T.cls
  refine wpAny_Call_Name_kw (ld_glob I hg hm ?_ hdb)
  refine PySem.W.callWith_K (h₀ := X.base) I.ok.mod.kin T.kC (thn (ha.run pos pins s σ H _ I h) fun us s1 ⟨vs, H1, I1, r1, hz, q1⟩ => ⟨I1.kIn, ?_⟩) he hpl
  show wpAny _ _ (call (.ref C) us) _ _ _
  obtain ⟨hp, g, dr, tk, os⟩ := s1
  have hsz : hp.objs.size ≤ hp.objs.size + 1 := Nat.le_succ _
  have hn : H1 (hp.objs.size + 1) = none := I1.hok.fresh hsz
  have hq := q1 (hp.objs.size + 1) hn
  rw [List.append_nil] at hq
  have kk : ∀ b o, hp.get? b = some o → ((hp.push (PySem.W.kdv_tup us)).push (PySem.HandSPX.excO C hp.objs.size)).get? b = some o := fun b o e => Heap.get?_push_of_some _ (Heap.get?_push_of_some _ e)
  have hget : ((hp.push (PySem.W.kdv_tup us)).push (PySem.HandSPX.excO C hp.objs.size)).get? (hp.objs.size + 1) = some (PySem.HandSPX.excO C hp.objs.size) := by heap_get
  have I2 : Inv X pins σ (upd H1 (hp.objs.size + 1) (exo (hp.objs.size + 1) C none)) ⟨(hp.push (PySem.W.kdv_tup us)).push (PySem.HandSPX.excO C hp.objs.size), g, dr, tk, os⟩ :=
    I1.laid (t' := tk) (a := hp.objs.size + 1) (o := exo (hp.objs.size + 1) C none) (h' := (hp.push (PySem.W.kdv_tup us)).push (PySem.HandSPX.excO C hp.objs.size)) kk hsz (exo_ok hget)
  have r2 : Vals (V.ref (hp.objs.size + 1) :: vs) (Value.ref (hp.objs.size + 1) :: us) := .cons rfl r1
  have hl : (Value.ref (hp.objs.size + 1) :: us ++ []).length = ps.length := by
    have e := r2.length
    rw [F1.len _ _ _ _ hq] at e
    rw [List.append_nil]
    exact e.symm
  have hus : us.length ≤ sizeLine := by
    rw [← Paired.length r1, sizeLine_eq]
    omega
  have b2 := hb _ (Value.ref (hp.objs.size + 1) :: us) I2.kIn hl
  rw [List.append_nil] at b2
  refine wpAny_call (PySem.HandSPX.call_own F.excBase_ValueError (fun Y => PySem.HandSPX.refsVE_contains Y bm hbm) (I1.kIn _ _ hC) (PySem.W.looks_findIn I1.kIn iC) (fun self => PySem.W.bind_fn I1.kIn self tI) hus
    (codeAny_mono (F1.run _ X.stack _ _ ⟨Value.ref (hp.objs.size + 1) :: us, []⟩ (Value.ref (hp.objs.size + 1) :: us) _ _ (fun _ _ _ => False) (hr.make C us []) (I2.env0.make C us []) b2 r2 hq) fun r s' hq' => ?_))
  cases r with
  | error er => exact hx pins σ _ _ er s' I2 hq'
  | ok fl =>
    cases fl with
    | ret u =>
      obtain ⟨v, H2, os2, bare2, un2, hok2, rv, ev, d, fs, ea, ed, hd1, q2⟩ := hq'
      subst ev
      obtain ⟨h2, g2, d2, t2, os'⟩ := s'
      obtain ⟨t0, G, J, kG, ge, hoe, na⟩ := mk_end0 (d2 := d2) (t2 := t2) I1 hsz kk un2 hok2 os2 bare2 ea ed hd1
      refine ⟨rv, hp.objs.size + 1, _, _, ⟨G, g2, d2, t2, os'⟩, _, .ref C, some d, rfl, J, kG, ge, hoe, ⟨rfl, rfl, fun vs hv => ?_⟩, rfl, rfl, na, rfl, bare2, raises_own T.exC T.tyC, q2⟩
      cases hv
      rfl
    | next => exact False.elim hq'
    | brk => exact False.elim hq'
    | cont => exact False.elim hq'
theorem pmk_rz {X : Cx} {x : Str} {C : Addr} {fs : List Str} {e : Expr} {es : List Expr} {ta : TA} {p pos : Pos} (R : Rz X.prog X.w X.K X.mg X.base x C fs) (hr : Room 2 X.A) (hg : Gl X x) (ha : PA X (e :: es) ta)
    (hdb : (x == ("__debug__" : Str)) = false := by decide) (he : starEach (e :: es) X.env = (false, eval e X.env) :: starEach es X.env := by rfl) (hpl : (backTo pos (starEach es X.env)).any (·.1) = false := by rfl) :
    L2N.PMk X (.Call (.Name x p) (e :: es) [] pos) (tRz C fs ta) := by
  obtain ⟨fI, fd, ps, F1, hb, iC, tI⟩ := R.ex
  have key := pmk_oexN (X := X) (p := p) (pos := pos) R.o iC tI F1 hr hb pass0 hg R.g (pa_mon ha) hdb he hpl
  intro pins s σ H Q I h
  refine key pins s σ H Q I ?_
  have h' : ta σ H fun vs H1 => vs.length = fs.length ∧ vs.length ≤ 1000 ∧ ∀ d, H1 d = none → Q (.ref C) (some d) (upd H1 d (.xd (fs.zip vs).reverse)) := h
  refine ⟨_, h', fun vs H1 z => ?_⟩
  obtain ⟨z1, z2, z3⟩ := z
  refine ⟨z2, fun a na => ?_⟩
  rw [List.append_nil]
  refine ⟨a, vs, rfl, z1, upd_same, fun dx nd ne => ⟨rfl, dx, (fs.zip vs).reverse, upd_same, ?_, ?_, ?_⟩⟩
  · rw [upd_ne ne, upd_same]
  · rw [upd_ne ne] at nd
    exact nd
  · have nd1 : H1 dx = none := by
      rw [upd_ne ne] at nd
      exact nd
    have q := z3 dx nd1
    have e : upd (del (upd (upd (upd H1 a (exo a C none)) dx (exd dx (fs.zip vs).reverse)) a (exo a C (some dx))) a) dx (.xd (fs.zip vs).reverse) = upd H1 dx (.xd (fs.zip vs).reverse) := by
      funext b
      by_cases h1 : b = dx
      · rw [h1, upd_same, upd_same]
      · rw [upd_ne h1, upd_ne h1]
        by_cases h2 : b = a
        · rw [h2, del_same, na]
        · rw [del_ne h2, upd_ne h2, upd_ne h1, upd_ne h2]
    rw [e]
    exact q
end Y

namespace Hk89
open PySem PySem.Spec L2 He Y
def top (i : Nat) : Stmt := PySem.Challenge.pw_fromyesalone_k89_turners_in_a_row.main.body.getD i (.Pass ⟨0, 0, 0, 0⟩)
abbrev s_BadWord_init__ : Stmt := inClass (top 3) 0
abbrev s_TooMany_init__ : Stmt := inClass (top 4) 0
abbrev s_BadText_init__ : Stmt := inClass (top 5) 0
abbrev s_check_letters : Stmt := top 9
abbrev s_check_word : Stmt := top 10
abbrev s_words_to : Stmt := top 11
abbrev s_view_at : Stmt := top 14
abbrev s_Turner_init : Stmt := inClass (top 15) 0
abbrev s_Turner_call : Stmt := inClass (top 15) 1
abbrev s_check_pairs : Stmt := top 16
abbrev s_first_clash : Stmt := top 17
abbrev s_least_turner : Stmt := top 18
abbrev s_one_behind_other : Stmt := top 19
abbrev s_all_words : Stmt := top 20
abbrev s_law_start : Stmt := top 22
abbrev s_law_next : Stmt := top 23
abbrev s_law_integer : Stmt := top 24
abbrev s_law_alphabet : Stmt := top 25
abbrev s_law_word : Stmt := top 26
abbrev s_law_same_text : Stmt := top 27
abbrev s_law_views : Stmt := top 28
abbrev s_law_table : Stmt := top 29
abbrev s_law_sizes : Stmt := top 30
abbrev s_law_image : Stmt := top 31
abbrev s_law_composed : Stmt := top 32
abbrev s_law_same_table : Stmt := top 33
abbrev s_law_asked_words : Stmt := top 34
abbrev s_law_row_right : Stmt := top 35
abbrev s_law_error : Stmt := top 36
abbrev s_law_row_raised : Stmt := top 37
abbrev s_law_rows_refused : Stmt := top 38
abbrev s_law_pairs : Stmt := top 39
abbrev s_law_clashes : Stmt := top 40
abbrev s_law_clash_shown : Stmt := top 41
abbrev s_law_least_right : Stmt := top 42
abbrev s_law_foreign : Stmt := top 43
abbrev s_law_bent : Stmt := top 44
abbrev s_law_pair_error : Stmt := top 45
abbrev s_law_least_raised : Stmt := top 46
abbrev s_law : Stmt := top 47
def d_check_letters : DefD := ⟨("check_letters", none), "check_letters", "check_letters", defArgs s_check_letters, defBody s_check_letters, defScope s_check_letters, [], []⟩
def d_check_word : DefD := ⟨("check_word", none), "check_word", "check_word", defArgs s_check_word, defBody s_check_word, defScope s_check_word, [], []⟩
def d_words_to : DefD := ⟨("words_to", none), "words_to", "words_to", defArgs s_words_to, defBody s_words_to, defScope s_words_to, [], []⟩
def d_view_at : DefD := ⟨("view_at", none), "view_at", "view_at", defArgs s_view_at, defBody s_view_at, defScope s_view_at, [], []⟩
def d_Turner_init : DefD := ⟨("Turner", some "__init__"), "__init__", "Turner.__init__", defArgs s_Turner_init, defBody s_Turner_init, defScope s_Turner_init, [], []⟩
def d_Turner_call : DefD := ⟨("Turner", some "__call__"), "__call__", "Turner.__call__", defArgs s_Turner_call, defBody s_Turner_call, defScope s_Turner_call, [], []⟩
def d_check_pairs : DefD := ⟨("check_pairs", none), "check_pairs", "check_pairs", defArgs s_check_pairs, defBody s_check_pairs, defScope s_check_pairs, [], []⟩
def d_first_clash : DefD := ⟨("first_clash", none), "first_clash", "first_clash", defArgs s_first_clash, defBody s_first_clash, defScope s_first_clash, [], []⟩
def d_least_turner : DefD := ⟨("least_turner", none), "least_turner", "least_turner", defArgs s_least_turner, defBody s_least_turner, defScope s_least_turner, [], []⟩
def d_one_behind_other : DefD := ⟨("one_behind_other", none), "one_behind_other", "one_behind_other", defArgs s_one_behind_other, defBody s_one_behind_other, defScope s_one_behind_other, [], []⟩
def d_all_words : DefD := ⟨("all_words", none), "all_words", "all_words", defArgs s_all_words, defBody s_all_words, defScope s_all_words, [], []⟩
def d_law_start : DefD := ⟨("_law_start", none), "_law_start", "_law_start", defArgs s_law_start, defBody s_law_start, defScope s_law_start, [], []⟩
def d_law_next : DefD := ⟨("_law_next", none), "_law_next", "_law_next", defArgs s_law_next, defBody s_law_next, defScope s_law_next, [], []⟩
def d_law_integer : DefD := ⟨("_law_integer", none), "_law_integer", "_law_integer", defArgs s_law_integer, defBody s_law_integer, defScope s_law_integer, [], []⟩
def d_law_alphabet : DefD := ⟨("_law_alphabet", none), "_law_alphabet", "_law_alphabet", defArgs s_law_alphabet, defBody s_law_alphabet, defScope s_law_alphabet, [], []⟩
def d_law_word : DefD := ⟨("_law_word", none), "_law_word", "_law_word", defArgs s_law_word, defBody s_law_word, defScope s_law_word, [], []⟩
def d_law_same_text : DefD := ⟨("_law_same_text", none), "_law_same_text", "_law_same_text", defArgs s_law_same_text, defBody s_law_same_text, defScope s_law_same_text, [], []⟩
def d_law_views : DefD := ⟨("_law_views", none), "_law_views", "_law_views", defArgs s_law_views, defBody s_law_views, defScope s_law_views, [], []⟩
def d_law_table : DefD := ⟨("_law_table", none), "_law_table", "_law_table", defArgs s_law_table, defBody s_law_table, defScope s_law_table, [], []⟩
def d_law_sizes : DefD := ⟨("_law_sizes", none), "_law_sizes", "_law_sizes", defArgs s_law_sizes, defBody s_law_sizes, defScope s_law_sizes, [], []⟩
def d_law_image : DefD := ⟨("_law_image", none), "_law_image", "_law_image", defArgs s_law_image, defBody s_law_image, defScope s_law_image, [], []⟩
def d_law_composed : DefD := ⟨("_law_composed", none), "_law_composed", "_law_composed", defArgs s_law_composed, defBody s_law_composed, defScope s_law_composed, [], []⟩
def d_law_same_table : DefD := ⟨("_law_same_table", none), "_law_same_table", "_law_same_table", defArgs s_law_same_table, defBody s_law_same_table, defScope s_law_same_table, [], []⟩
def d_law_asked_words : DefD := ⟨("_law_asked_words", none), "_law_asked_words", "_law_asked_words", defArgs s_law_asked_words, defBody s_law_asked_words, defScope s_law_asked_words, [], []⟩
def d_law_row_right : DefD := ⟨("_law_row_right", none), "_law_row_right", "_law_row_right", defArgs s_law_row_right, defBody s_law_row_right, defScope s_law_row_right, [], []⟩
def d_law_error : DefD := ⟨("_law_error", none), "_law_error", "_law_error", defArgs s_law_error, defBody s_law_error, defScope s_law_error, [], []⟩
def d_law_row_raised : DefD := ⟨("_law_row_raised", none), "_law_row_raised", "_law_row_raised", defArgs s_law_row_raised, defBody s_law_row_raised, defScope s_law_row_raised, [], []⟩
def d_law_rows_refused : DefD := ⟨("_law_rows_refused", none), "_law_rows_refused", "_law_rows_refused", defArgs s_law_rows_refused, defBody s_law_rows_refused, defScope s_law_rows_refused, [], []⟩
def d_law_pairs : DefD := ⟨("_law_pairs", none), "_law_pairs", "_law_pairs", defArgs s_law_pairs, defBody s_law_pairs, defScope s_law_pairs, [], []⟩
def d_law_clashes : DefD := ⟨("_law_clashes", none), "_law_clashes", "_law_clashes", defArgs s_law_clashes, defBody s_law_clashes, defScope s_law_clashes, [], []⟩
def d_law_clash_shown : DefD := ⟨("_law_clash_shown", none), "_law_clash_shown", "_law_clash_shown", defArgs s_law_clash_shown, defBody s_law_clash_shown, defScope s_law_clash_shown, [], []⟩
def d_law_least_right : DefD := ⟨("_law_least_right", none), "_law_least_right", "_law_least_right", defArgs s_law_least_right, defBody s_law_least_right, defScope s_law_least_right, [], []⟩
def d_law_foreign : DefD := ⟨("_law_foreign", none), "_law_foreign", "_law_foreign", defArgs s_law_foreign, defBody s_law_foreign, defScope s_law_foreign, [], []⟩
def d_law_bent : DefD := ⟨("_law_bent", none), "_law_bent", "_law_bent", defArgs s_law_bent, defBody s_law_bent, defScope s_law_bent, [], []⟩
def d_law_pair_error : DefD := ⟨("_law_pair_error", none), "_law_pair_error", "_law_pair_error", defArgs s_law_pair_error, defBody s_law_pair_error, defScope s_law_pair_error, [], []⟩
def d_law_least_raised : DefD := ⟨("_law_least_raised", none), "_law_least_raised", "_law_least_raised", defArgs s_law_least_raised, defBody s_law_least_raised, defScope s_law_least_raised, [], []⟩
def d_law : DefD := ⟨("law", none), "law", "law", defArgs s_law, defBody s_law, defScope s_law, [], []⟩
def i_BadWord : DefI := ⟨"BadWord", "__init__", "BadWord.__init__", defArgs s_BadWord_init__, defBody s_BadWord_init__, defScope s_BadWord_init__⟩
def i_TooMany : DefI := ⟨"TooMany", "__init__", "TooMany.__init__", defArgs s_TooMany_init__, defBody s_TooMany_init__, defScope s_TooMany_init__⟩
def i_BadText : DefI := ⟨"BadText", "__init__", "BadText.__init__", defArgs s_BadText_init__, defBody s_BadText_init__, defScope s_BadText_init__⟩
def fn0 : List DefD := [d_check_letters, d_check_word, d_words_to, d_view_at, d_Turner_init, d_Turner_call, d_check_pairs, d_first_clash, d_least_turner, d_one_behind_other, d_all_words, d_law_start, d_law_next, d_law_integer, d_law_alphabet, d_law_word, d_law_same_text, d_law_views, d_law_table, d_law_sizes, d_law_image, d_law_composed, d_law_same_table, d_law_asked_words, d_law_row_right, d_law_error, d_law_row_raised, d_law_rows_refused, d_law_pairs, d_law_clashes]
def fn1 : List DefD := [d_law_clash_shown, d_law_least_right, d_law_foreign, d_law_bent, d_law_pair_error, d_law_least_raised, d_law]
def fn : List DefD := fn0 ++ fn1
def fi0 : List DefI := [i_BadWord, i_TooMany, i_BadText]
def fi : List DefI := fi0
def fa0 : List Fa := [.glo "LanguageError", .exc "LanguageError", .glo "BadLetters", .exc "BadLetters", .glo "BadWord", .glo "TooMany", .glo "BadText", .str "SMALL" "abcdefghijklmnopqrstuvwxyz", .int "MOST_KINDS_OF_LETTERS" 4, .glo "check_letters", .glo "check_word", .glo "words_to", .int "MOST_SIZE" 7, .glo "view_at", .glo "Turner", .cls "Turner", .mkr "Turner", .noat "Turner" "letters", .noat "Turner" "images", .noat "Turner" "size", .noat "Turner" "table", .meth "Turner" "__call__", .glo "check_pairs", .glo "first_clash", .glo "least_turner", .glo "one_behind_other", .glo "all_words", .glo "_law_start", .glo "_law_next", .glo "_law_integer"]
def fa1 : List Fa := [.glo "_law_alphabet", .glo "_law_word", .glo "_law_same_text", .glo "_law_views", .glo "_law_table", .glo "_law_sizes", .glo "_law_image", .glo "_law_composed", .glo "_law_same_table", .glo "_law_asked_words", .glo "_law_row_right", .glo "_law_error", .glo "_law_row_raised", .glo "_law_rows_refused", .glo "_law_pairs", .glo "_law_clashes", .glo "_law_clash_shown", .glo "_law_least_right", .glo "_law_foreign", .glo "_law_bent", .glo "_law_pair_error", .glo "_law_least_raised", .glo "law", .free "abs", .free "bool", .free "dict", .free "enumerate", .free "int", .free "isinstance", .free "len"]
def fa2 : List Fa := [.free "list", .free "max", .free "min", .free "range", .free "str", .free "super", .free "tuple", .free "ValueError"]
def fa : List Fa := fa0 ++ fa1 ++ fa2
def fb0 : List Fb := [.exq "LanguageError", .exq "BadLetters", .exq "BadWord", .exq "TooMany", .exq "BadText", .own "Turner", .noat "BadWord" "word", .noat "BadWord" "place", .noat "TooMany" "limit", .noat "BadText" "line", .kit "LanguageError" "LanguageError" true, .exm "LanguageError" "LanguageError" true, .kit "LanguageError" "BadLetters" false, .exm "LanguageError" "BadLetters" false, .kit "LanguageError" "BadWord" false, .exm "LanguageError" "BadWord" false, .kit "LanguageError" "TooMany" false, .exm "LanguageError" "TooMany" false, .kit "LanguageError" "BadText" false, .exm "LanguageError" "BadText" false, .kit "BadLetters" "LanguageError" true, .exm "BadLetters" "LanguageError" true, .kit "BadLetters" "BadLetters" true, .exm "BadLetters" "BadLetters" true, .kit "BadLetters" "BadWord" false, .exm "BadLetters" "BadWord" false, .kit "BadLetters" "TooMany" false, .exm "BadLetters" "TooMany" false, .kit "BadLetters" "BadText" false, .exm "BadLetters" "BadText" false]
def fb1 : List Fb := [.kit "BadWord" "LanguageError" true, .exm "BadWord" "LanguageError" true, .kit "BadWord" "BadLetters" false, .exm "BadWord" "BadLetters" false, .kit "BadWord" "BadWord" true, .exm "BadWord" "BadWord" true, .kit "BadWord" "TooMany" false, .exm "BadWord" "TooMany" false, .kit "BadWord" "BadText" false, .exm "BadWord" "BadText" false, .kit "TooMany" "LanguageError" true, .exm "TooMany" "LanguageError" true, .kit "TooMany" "BadLetters" false, .exm "TooMany" "BadLetters" false, .kit "TooMany" "BadWord" false, .exm "TooMany" "BadWord" false, .kit "TooMany" "TooMany" true, .exm "TooMany" "TooMany" true, .kit "TooMany" "BadText" false, .exm "TooMany" "BadText" false, .kit "BadText" "LanguageError" true, .exm "BadText" "LanguageError" true, .kit "BadText" "BadLetters" false, .exm "BadText" "BadLetters" false, .kit "BadText" "BadWord" false, .exm "BadText" "BadWord" false, .kit "BadText" "TooMany" false, .exm "BadText" "TooMany" false, .kit "BadText" "BadText" true, .exm "BadText" "BadText" true]
def fb2 : List Fb := [.kit "Turner" "Turner" true]
def fb : List Fb := fb0 ++ fb1 ++ fb2
def names0 : List PySem.Str := ["LanguageError", "BadLetters", "BadWord", "TooMany", "BadText", "SMALL", "MOST_KINDS_OF_LETTERS", "check_letters", "check_word", "words_to", "MOST_SIZE", "view_at", "Turner", "check_pairs", "first_clash", "least_turner", "one_behind_other", "all_words", "_law_start", "_law_next", "_law_integer", "_law_alphabet", "_law_word", "_law_same_text", "_law_views", "_law_table", "_law_sizes", "_law_image", "_law_composed", "_law_same_table"]
def names1 : List PySem.Str := ["_law_asked_words", "_law_row_right", "_law_error", "_law_row_raised", "_law_rows_refused", "_law_pairs", "_law_clashes", "_law_clash_shown", "_law_least_right", "_law_foreign", "_law_bent", "_law_pair_error", "_law_least_raised"]
def names : List PySem.Str := names0 ++ names1
def file : Str := "/claim/cut.py"
abbrev R : PySem.W.OpenRow := PySem.W.OpenLaw.row PySem.Challenge.rw_fromyesalone_k89_turners_in_a_row
abbrev hk : PySem.W.Hook := hookI 5 fa fn fb fi file
def ob (s : PySem.W.SharedT) : AlI := obsIG 5 fa fn fb fi file (HandSHeadRun.getT s)
theorem ob_eq (s : PySem.W.SharedT) : ob s = hk.obs s.abs := obsIG_eq (HandSHeadRun.getT_eq s)
theorem run (w : World) : HandSHeadRun.RunEq R (PySem.W.view R.prog [47]) hk ob 3000 names w := by
  intro os
  kernel_rfl
structure Txt (P : Program) (w : World) (K : PySem.W.Frag) (mg : Str → Option Value) : Prop where
  g_LanguageError : mg "LanguageError" = some (.ref (ga K "LanguageError"))
  x_LanguageError : PySem.W.excIn K (ga K "LanguageError") veBase "ValueError.__new__" = true
  k_LanguageError : PySem.W.keepIn K (.ref (ga K "LanguageError")) = true
  s_LanguageError : PySem.W.subIn K (.ref (ga K "LanguageError")) (.type "BaseException") = some true
  t_LanguageError : PySem.W.typeIn K (.ref (ga K "LanguageError")) = some (.type "type")
  g_BadLetters : mg "BadLetters" = some (.ref (ga K "BadLetters"))
  x_BadLetters : PySem.W.excIn K (ga K "BadLetters") veBase "ValueError.__new__" = true
  k_BadLetters : PySem.W.keepIn K (.ref (ga K "BadLetters")) = true
  s_BadLetters : PySem.W.subIn K (.ref (ga K "BadLetters")) (.type "BaseException") = some true
  t_BadLetters : PySem.W.typeIn K (.ref (ga K "BadLetters")) = some (.type "type")
  g_BadWord : mg "BadWord" = some (.ref (ga K "BadWord"))
  g_TooMany : mg "TooMany" = some (.ref (ga K "TooMany"))
  g_BadText : mg "BadText" = some (.ref (ga K "BadText"))
  c_SMALL : ∃ t, mg "SMALL" = some (.str "abcdefghijklmnopqrstuvwxyz" t)
  c_MOST_KINDS_OF_LETTERS : ∃ t, mg "MOST_KINDS_OF_LETTERS" = some (.int 4 t)
  gd_check_letters : mg "check_letters" = some (.ref (ga K "check_letters"))
  gd_check_word : mg "check_word" = some (.ref (ga K "check_word"))
  gd_words_to : mg "words_to" = some (.ref (ga K "words_to"))
  c_MOST_SIZE : ∃ t, mg "MOST_SIZE" = some (.int 7 t)
  gd_view_at : mg "view_at" = some (.ref (ga K "view_at"))
  g_Turner : mg "Turner" = some (.ref (ga K "Turner"))
  cl_Turner : Cls K (ga K "Turner")
  mk_Turner : Mk K (ga K "Turner") (ma K (ga K "Turner") "__init__")
  na_Turner_letters : NoAttr K (ga K "Turner") "letters"
  na_Turner_images : NoAttr K (ga K "Turner") "images"
  na_Turner_size : NoAttr K (ga K "Turner") "size"
  na_Turner_table : NoAttr K (ga K "Turner") "table"
  me_Turner_call : Meth K (ga K "Turner") "__call__" (ma K (ga K "Turner") "__call__")
  gd_check_pairs : mg "check_pairs" = some (.ref (ga K "check_pairs"))
  gd_first_clash : mg "first_clash" = some (.ref (ga K "first_clash"))
  gd_least_turner : mg "least_turner" = some (.ref (ga K "least_turner"))
  gd_one_behind_other : mg "one_behind_other" = some (.ref (ga K "one_behind_other"))
  gd_all_words : mg "all_words" = some (.ref (ga K "all_words"))
  gd_law_start : mg "_law_start" = some (.ref (ga K "_law_start"))
  gd_law_next : mg "_law_next" = some (.ref (ga K "_law_next"))
  gd_law_integer : mg "_law_integer" = some (.ref (ga K "_law_integer"))
  gd_law_alphabet : mg "_law_alphabet" = some (.ref (ga K "_law_alphabet"))
  gd_law_word : mg "_law_word" = some (.ref (ga K "_law_word"))
  gd_law_same_text : mg "_law_same_text" = some (.ref (ga K "_law_same_text"))
  gd_law_views : mg "_law_views" = some (.ref (ga K "_law_views"))
  gd_law_table : mg "_law_table" = some (.ref (ga K "_law_table"))
  gd_law_sizes : mg "_law_sizes" = some (.ref (ga K "_law_sizes"))
  gd_law_image : mg "_law_image" = some (.ref (ga K "_law_image"))
  gd_law_composed : mg "_law_composed" = some (.ref (ga K "_law_composed"))
  gd_law_same_table : mg "_law_same_table" = some (.ref (ga K "_law_same_table"))
  gd_law_asked_words : mg "_law_asked_words" = some (.ref (ga K "_law_asked_words"))
  gd_law_row_right : mg "_law_row_right" = some (.ref (ga K "_law_row_right"))
  gd_law_error : mg "_law_error" = some (.ref (ga K "_law_error"))
  gd_law_row_raised : mg "_law_row_raised" = some (.ref (ga K "_law_row_raised"))
  gd_law_rows_refused : mg "_law_rows_refused" = some (.ref (ga K "_law_rows_refused"))
  gd_law_pairs : mg "_law_pairs" = some (.ref (ga K "_law_pairs"))
  gd_law_clashes : mg "_law_clashes" = some (.ref (ga K "_law_clashes"))
  gd_law_clash_shown : mg "_law_clash_shown" = some (.ref (ga K "_law_clash_shown"))
  gd_law_least_right : mg "_law_least_right" = some (.ref (ga K "_law_least_right"))
  gd_law_foreign : mg "_law_foreign" = some (.ref (ga K "_law_foreign"))
  gd_law_bent : mg "_law_bent" = some (.ref (ga K "_law_bent"))
  gd_law_pair_error : mg "_law_pair_error" = some (.ref (ga K "_law_pair_error"))
  gd_law_least_raised : mg "_law_least_raised" = some (.ref (ga K "_law_least_raised"))
  gd_law : mg "law" = some (.ref (ga K "law"))
  b_abs : mg "abs" = none
  b_bool : mg "bool" = none
  b_dict : mg "dict" = none
  b_enumerate : mg "enumerate" = none
  b_int : mg "int" = none
  b_isinstance : mg "isinstance" = none
  b_len : mg "len" = none
  b_list : mg "list" = none
  b_max : mg "max" = none
  b_min : mg "min" = none
  b_range : mg "range" = none
  b_str : mg "str" = none
  b_super : mg "super" = none
  b_tuple : mg "tuple" = none
  b_ValueError : mg "ValueError" = none
  e_LanguageError : ExK K (ga K "LanguageError")
  e_BadLetters : ExK K (ga K "BadLetters")
  e_BadWord : ExK K (ga K "BadWord")
  e_TooMany : ExK K (ga K "TooMany")
  e_BadText : ExK K (ga K "BadText")
  o_Turner : OwnK K (ga K "Turner")
  no_BadWord_word : PySem.W.findIn K (.ref (ga K "BadWord")) "word" = some none
  no_BadWord_place : PySem.W.findIn K (.ref (ga K "BadWord")) "place" = some none
  no_TooMany_limit : PySem.W.findIn K (.ref (ga K "TooMany")) "limit" = some none
  no_BadText_line : PySem.W.findIn K (.ref (ga K "BadText")) "line" = some none
  kit_LanguageError_LanguageError : PySem.W.kitOne K (.ref (ga K "LanguageError")) (.ref (ga K "LanguageError")) = some true
  exm_LanguageError_LanguageError : PySem.W.exmOne K (.ref (ga K "LanguageError")) (.ref (ga K "LanguageError")) = some true
  kit_LanguageError_BadLetters : PySem.W.kitOne K (.ref (ga K "LanguageError")) (.ref (ga K "BadLetters")) = some false
  exm_LanguageError_BadLetters : PySem.W.exmOne K (.ref (ga K "LanguageError")) (.ref (ga K "BadLetters")) = some false
  kit_LanguageError_BadWord : PySem.W.kitOne K (.ref (ga K "LanguageError")) (.ref (ga K "BadWord")) = some false
  exm_LanguageError_BadWord : PySem.W.exmOne K (.ref (ga K "LanguageError")) (.ref (ga K "BadWord")) = some false
  kit_LanguageError_TooMany : PySem.W.kitOne K (.ref (ga K "LanguageError")) (.ref (ga K "TooMany")) = some false
  exm_LanguageError_TooMany : PySem.W.exmOne K (.ref (ga K "LanguageError")) (.ref (ga K "TooMany")) = some false
  kit_LanguageError_BadText : PySem.W.kitOne K (.ref (ga K "LanguageError")) (.ref (ga K "BadText")) = some false
  exm_LanguageError_BadText : PySem.W.exmOne K (.ref (ga K "LanguageError")) (.ref (ga K "BadText")) = some false
  kit_BadLetters_LanguageError : PySem.W.kitOne K (.ref (ga K "BadLetters")) (.ref (ga K "LanguageError")) = some true
  exm_BadLetters_LanguageError : PySem.W.exmOne K (.ref (ga K "BadLetters")) (.ref (ga K "LanguageError")) = some true
  kit_BadLetters_BadLetters : PySem.W.kitOne K (.ref (ga K "BadLetters")) (.ref (ga K "BadLetters")) = some true
  exm_BadLetters_BadLetters : PySem.W.exmOne K (.ref (ga K "BadLetters")) (.ref (ga K "BadLetters")) = some true
  kit_BadLetters_BadWord : PySem.W.kitOne K (.ref (ga K "BadLetters")) (.ref (ga K "BadWord")) = some false
  exm_BadLetters_BadWord : PySem.W.exmOne K (.ref (ga K "BadLetters")) (.ref (ga K "BadWord")) = some false
  kit_BadLetters_TooMany : PySem.W.kitOne K (.ref (ga K "BadLetters")) (.ref (ga K "TooMany")) = some false
  exm_BadLetters_TooMany : PySem.W.exmOne K (.ref (ga K "BadLetters")) (.ref (ga K "TooMany")) = some false
  kit_BadLetters_BadText : PySem.W.kitOne K (.ref (ga K "BadLetters")) (.ref (ga K "BadText")) = some false
  exm_BadLetters_BadText : PySem.W.exmOne K (.ref (ga K "BadLetters")) (.ref (ga K "BadText")) = some false
  kit_BadWord_LanguageError : PySem.W.kitOne K (.ref (ga K "BadWord")) (.ref (ga K "LanguageError")) = some true
  exm_BadWord_LanguageError : PySem.W.exmOne K (.ref (ga K "BadWord")) (.ref (ga K "LanguageError")) = some true
  kit_BadWord_BadLetters : PySem.W.kitOne K (.ref (ga K "BadWord")) (.ref (ga K "BadLetters")) = some false
  exm_BadWord_BadLetters : PySem.W.exmOne K (.ref (ga K "BadWord")) (.ref (ga K "BadLetters")) = some false
  kit_BadWord_BadWord : PySem.W.kitOne K (.ref (ga K "BadWord")) (.ref (ga K "BadWord")) = some true
  exm_BadWord_BadWord : PySem.W.exmOne K (.ref (ga K "BadWord")) (.ref (ga K "BadWord")) = some true
  kit_BadWord_TooMany : PySem.W.kitOne K (.ref (ga K "BadWord")) (.ref (ga K "TooMany")) = some false
  exm_BadWord_TooMany : PySem.W.exmOne K (.ref (ga K "BadWord")) (.ref (ga K "TooMany")) = some false
  kit_BadWord_BadText : PySem.W.kitOne K (.ref (ga K "BadWord")) (.ref (ga K "BadText")) = some false
  exm_BadWord_BadText : PySem.W.exmOne K (.ref (ga K "BadWord")) (.ref (ga K "BadText")) = some false
  kit_TooMany_LanguageError : PySem.W.kitOne K (.ref (ga K "TooMany")) (.ref (ga K "LanguageError")) = some true
  exm_TooMany_LanguageError : PySem.W.exmOne K (.ref (ga K "TooMany")) (.ref (ga K "LanguageError")) = some true
  kit_TooMany_BadLetters : PySem.W.kitOne K (.ref (ga K "TooMany")) (.ref (ga K "BadLetters")) = some false
  exm_TooMany_BadLetters : PySem.W.exmOne K (.ref (ga K "TooMany")) (.ref (ga K "BadLetters")) = some false
  kit_TooMany_BadWord : PySem.W.kitOne K (.ref (ga K "TooMany")) (.ref (ga K "BadWord")) = some false
  exm_TooMany_BadWord : PySem.W.exmOne K (.ref (ga K "TooMany")) (.ref (ga K "BadWord")) = some false
  kit_TooMany_TooMany : PySem.W.kitOne K (.ref (ga K "TooMany")) (.ref (ga K "TooMany")) = some true
  exm_TooMany_TooMany : PySem.W.exmOne K (.ref (ga K "TooMany")) (.ref (ga K "TooMany")) = some true
  kit_TooMany_BadText : PySem.W.kitOne K (.ref (ga K "TooMany")) (.ref (ga K "BadText")) = some false
  exm_TooMany_BadText : PySem.W.exmOne K (.ref (ga K "TooMany")) (.ref (ga K "BadText")) = some false
  kit_BadText_LanguageError : PySem.W.kitOne K (.ref (ga K "BadText")) (.ref (ga K "LanguageError")) = some true
  exm_BadText_LanguageError : PySem.W.exmOne K (.ref (ga K "BadText")) (.ref (ga K "LanguageError")) = some true
  kit_BadText_BadLetters : PySem.W.kitOne K (.ref (ga K "BadText")) (.ref (ga K "BadLetters")) = some false
  exm_BadText_BadLetters : PySem.W.exmOne K (.ref (ga K "BadText")) (.ref (ga K "BadLetters")) = some false
  kit_BadText_BadWord : PySem.W.kitOne K (.ref (ga K "BadText")) (.ref (ga K "BadWord")) = some false
  exm_BadText_BadWord : PySem.W.exmOne K (.ref (ga K "BadText")) (.ref (ga K "BadWord")) = some false
  kit_BadText_TooMany : PySem.W.kitOne K (.ref (ga K "BadText")) (.ref (ga K "TooMany")) = some false
  exm_BadText_TooMany : PySem.W.exmOne K (.ref (ga K "BadText")) (.ref (ga K "TooMany")) = some false
  kit_BadText_BadText : PySem.W.kitOne K (.ref (ga K "BadText")) (.ref (ga K "BadText")) = some true
  exm_BadText_BadText : PySem.W.exmOne K (.ref (ga K "BadText")) (.ref (ga K "BadText")) = some true
  kit_Turner_Turner : PySem.W.kitOne K (.ref (ga K "Turner")) (.ref (ga K "Turner")) = some true
  d_check_letters : ∃ fd, FunD K Hk89.d_check_letters.name Hk89.d_check_letters.qual Hk89.d_check_letters.params Hk89.d_check_letters.body Hk89.d_check_letters.scope [] [] (fAd K Hk89.d_check_letters.at_) fd
  d_check_word : ∃ fd, FunD K Hk89.d_check_word.name Hk89.d_check_word.qual Hk89.d_check_word.params Hk89.d_check_word.body Hk89.d_check_word.scope [] [] (fAd K Hk89.d_check_word.at_) fd
  d_words_to : ∃ fd, FunD K Hk89.d_words_to.name Hk89.d_words_to.qual Hk89.d_words_to.params Hk89.d_words_to.body Hk89.d_words_to.scope [] [] (fAd K Hk89.d_words_to.at_) fd
  d_view_at : ∃ fd, FunD K Hk89.d_view_at.name Hk89.d_view_at.qual Hk89.d_view_at.params Hk89.d_view_at.body Hk89.d_view_at.scope [] [] (fAd K Hk89.d_view_at.at_) fd
  d_Turner_init : ∃ fd, FunD K Hk89.d_Turner_init.name Hk89.d_Turner_init.qual Hk89.d_Turner_init.params Hk89.d_Turner_init.body Hk89.d_Turner_init.scope [] [] (fAd K Hk89.d_Turner_init.at_) fd
  d_Turner_call : ∃ fd, FunD K Hk89.d_Turner_call.name Hk89.d_Turner_call.qual Hk89.d_Turner_call.params Hk89.d_Turner_call.body Hk89.d_Turner_call.scope [] [] (fAd K Hk89.d_Turner_call.at_) fd
  d_check_pairs : ∃ fd, FunD K Hk89.d_check_pairs.name Hk89.d_check_pairs.qual Hk89.d_check_pairs.params Hk89.d_check_pairs.body Hk89.d_check_pairs.scope [] [] (fAd K Hk89.d_check_pairs.at_) fd
  d_first_clash : ∃ fd, FunD K Hk89.d_first_clash.name Hk89.d_first_clash.qual Hk89.d_first_clash.params Hk89.d_first_clash.body Hk89.d_first_clash.scope [] [] (fAd K Hk89.d_first_clash.at_) fd
  d_least_turner : ∃ fd, FunD K Hk89.d_least_turner.name Hk89.d_least_turner.qual Hk89.d_least_turner.params Hk89.d_least_turner.body Hk89.d_least_turner.scope [] [] (fAd K Hk89.d_least_turner.at_) fd
  d_one_behind_other : ∃ fd, FunD K Hk89.d_one_behind_other.name Hk89.d_one_behind_other.qual Hk89.d_one_behind_other.params Hk89.d_one_behind_other.body Hk89.d_one_behind_other.scope [] [] (fAd K Hk89.d_one_behind_other.at_) fd
  d_all_words : ∃ fd, FunD K Hk89.d_all_words.name Hk89.d_all_words.qual Hk89.d_all_words.params Hk89.d_all_words.body Hk89.d_all_words.scope [] [] (fAd K Hk89.d_all_words.at_) fd
  d_law_start : ∃ fd, FunD K Hk89.d_law_start.name Hk89.d_law_start.qual Hk89.d_law_start.params Hk89.d_law_start.body Hk89.d_law_start.scope [] [] (fAd K Hk89.d_law_start.at_) fd
  d_law_next : ∃ fd, FunD K Hk89.d_law_next.name Hk89.d_law_next.qual Hk89.d_law_next.params Hk89.d_law_next.body Hk89.d_law_next.scope [] [] (fAd K Hk89.d_law_next.at_) fd
  d_law_integer : ∃ fd, FunD K Hk89.d_law_integer.name Hk89.d_law_integer.qual Hk89.d_law_integer.params Hk89.d_law_integer.body Hk89.d_law_integer.scope [] [] (fAd K Hk89.d_law_integer.at_) fd
  d_law_alphabet : ∃ fd, FunD K Hk89.d_law_alphabet.name Hk89.d_law_alphabet.qual Hk89.d_law_alphabet.params Hk89.d_law_alphabet.body Hk89.d_law_alphabet.scope [] [] (fAd K Hk89.d_law_alphabet.at_) fd
  d_law_word : ∃ fd, FunD K Hk89.d_law_word.name Hk89.d_law_word.qual Hk89.d_law_word.params Hk89.d_law_word.body Hk89.d_law_word.scope [] [] (fAd K Hk89.d_law_word.at_) fd
  d_law_same_text : ∃ fd, FunD K Hk89.d_law_same_text.name Hk89.d_law_same_text.qual Hk89.d_law_same_text.params Hk89.d_law_same_text.body Hk89.d_law_same_text.scope [] [] (fAd K Hk89.d_law_same_text.at_) fd
  d_law_views : ∃ fd, FunD K Hk89.d_law_views.name Hk89.d_law_views.qual Hk89.d_law_views.params Hk89.d_law_views.body Hk89.d_law_views.scope [] [] (fAd K Hk89.d_law_views.at_) fd
  d_law_table : ∃ fd, FunD K Hk89.d_law_table.name Hk89.d_law_table.qual Hk89.d_law_table.params Hk89.d_law_table.body Hk89.d_law_table.scope [] [] (fAd K Hk89.d_law_table.at_) fd
  d_law_sizes : ∃ fd, FunD K Hk89.d_law_sizes.name Hk89.d_law_sizes.qual Hk89.d_law_sizes.params Hk89.d_law_sizes.body Hk89.d_law_sizes.scope [] [] (fAd K Hk89.d_law_sizes.at_) fd
  d_law_image : ∃ fd, FunD K Hk89.d_law_image.name Hk89.d_law_image.qual Hk89.d_law_image.params Hk89.d_law_image.body Hk89.d_law_image.scope [] [] (fAd K Hk89.d_law_image.at_) fd
  d_law_composed : ∃ fd, FunD K Hk89.d_law_composed.name Hk89.d_law_composed.qual Hk89.d_law_composed.params Hk89.d_law_composed.body Hk89.d_law_composed.scope [] [] (fAd K Hk89.d_law_composed.at_) fd
  d_law_same_table : ∃ fd, FunD K Hk89.d_law_same_table.name Hk89.d_law_same_table.qual Hk89.d_law_same_table.params Hk89.d_law_same_table.body Hk89.d_law_same_table.scope [] [] (fAd K Hk89.d_law_same_table.at_) fd
  d_law_asked_words : ∃ fd, FunD K Hk89.d_law_asked_words.name Hk89.d_law_asked_words.qual Hk89.d_law_asked_words.params Hk89.d_law_asked_words.body Hk89.d_law_asked_words.scope [] [] (fAd K Hk89.d_law_asked_words.at_) fd
  d_law_row_right : ∃ fd, FunD K Hk89.d_law_row_right.name Hk89.d_law_row_right.qual Hk89.d_law_row_right.params Hk89.d_law_row_right.body Hk89.d_law_row_right.scope [] [] (fAd K Hk89.d_law_row_right.at_) fd
  d_law_error : ∃ fd, FunD K Hk89.d_law_error.name Hk89.d_law_error.qual Hk89.d_law_error.params Hk89.d_law_error.body Hk89.d_law_error.scope [] [] (fAd K Hk89.d_law_error.at_) fd
  d_law_row_raised : ∃ fd, FunD K Hk89.d_law_row_raised.name Hk89.d_law_row_raised.qual Hk89.d_law_row_raised.params Hk89.d_law_row_raised.body Hk89.d_law_row_raised.scope [] [] (fAd K Hk89.d_law_row_raised.at_) fd
  d_law_rows_refused : ∃ fd, FunD K Hk89.d_law_rows_refused.name Hk89.d_law_rows_refused.qual Hk89.d_law_rows_refused.params Hk89.d_law_rows_refused.body Hk89.d_law_rows_refused.scope [] [] (fAd K Hk89.d_law_rows_refused.at_) fd
  d_law_pairs : ∃ fd, FunD K Hk89.d_law_pairs.name Hk89.d_law_pairs.qual Hk89.d_law_pairs.params Hk89.d_law_pairs.body Hk89.d_law_pairs.scope [] [] (fAd K Hk89.d_law_pairs.at_) fd
  d_law_clashes : ∃ fd, FunD K Hk89.d_law_clashes.name Hk89.d_law_clashes.qual Hk89.d_law_clashes.params Hk89.d_law_clashes.body Hk89.d_law_clashes.scope [] [] (fAd K Hk89.d_law_clashes.at_) fd
  d_law_clash_shown : ∃ fd, FunD K Hk89.d_law_clash_shown.name Hk89.d_law_clash_shown.qual Hk89.d_law_clash_shown.params Hk89.d_law_clash_shown.body Hk89.d_law_clash_shown.scope [] [] (fAd K Hk89.d_law_clash_shown.at_) fd
  d_law_least_right : ∃ fd, FunD K Hk89.d_law_least_right.name Hk89.d_law_least_right.qual Hk89.d_law_least_right.params Hk89.d_law_least_right.body Hk89.d_law_least_right.scope [] [] (fAd K Hk89.d_law_least_right.at_) fd
  d_law_foreign : ∃ fd, FunD K Hk89.d_law_foreign.name Hk89.d_law_foreign.qual Hk89.d_law_foreign.params Hk89.d_law_foreign.body Hk89.d_law_foreign.scope [] [] (fAd K Hk89.d_law_foreign.at_) fd
  d_law_bent : ∃ fd, FunD K Hk89.d_law_bent.name Hk89.d_law_bent.qual Hk89.d_law_bent.params Hk89.d_law_bent.body Hk89.d_law_bent.scope [] [] (fAd K Hk89.d_law_bent.at_) fd
  d_law_pair_error : ∃ fd, FunD K Hk89.d_law_pair_error.name Hk89.d_law_pair_error.qual Hk89.d_law_pair_error.params Hk89.d_law_pair_error.body Hk89.d_law_pair_error.scope [] [] (fAd K Hk89.d_law_pair_error.at_) fd
  d_law_least_raised : ∃ fd, FunD K Hk89.d_law_least_raised.name Hk89.d_law_least_raised.qual Hk89.d_law_least_raised.params Hk89.d_law_least_raised.body Hk89.d_law_least_raised.scope [] [] (fAd K Hk89.d_law_least_raised.at_) fd
  d_law : ∃ fd, FunD K Hk89.d_law.name Hk89.d_law.qual Hk89.d_law.params Hk89.d_law.body Hk89.d_law.scope [] [] (fAd K Hk89.d_law.at_) fd
  i_BadWord : ∃ fd, IniF P K mg (ga K "BadWord") (fAd K Hk89.i_BadWord.at_) Hk89.i_BadWord.name Hk89.i_BadWord.qual Hk89.i_BadWord.params Hk89.i_BadWord.body Hk89.i_BadWord.scope fd
  i_TooMany : ∃ fd, IniF P K mg (ga K "TooMany") (fAd K Hk89.i_TooMany.at_) Hk89.i_TooMany.name Hk89.i_TooMany.qual Hk89.i_TooMany.params Hk89.i_TooMany.body Hk89.i_TooMany.scope fd
  i_BadText : ∃ fd, IniF P K mg (ga K "BadText") (fAd K Hk89.i_BadText.at_) Hk89.i_BadText.name Hk89.i_BadText.qual Hk89.i_BadText.params Hk89.i_BadText.body Hk89.i_BadText.scope fd
theorem txt {P : Program} {w : World} {K : PySem.W.Frag} {h : Heap} {mg : Str → Option Value} (X : K.In h) (G : h.Ns mainGlobals mg) (hm : P.main.file = file) (ht : (P.main.scope.names.lookup ("super" : Str)).isSome = false) (c : SaysI fa fn fb fi file K) : Txt P w K mg := by
  have hs : mg "super" = none := free_ok X G (c.d.fact 65 (f := .free "super") rfl)
  exact {
    g_LanguageError := glo_ok X G (c.d.fact 0 (f := .glo "LanguageError") rfl),
    x_LanguageError := (exc_ok (c.d.fact 1 (f := .exc "LanguageError") rfl)).1,
    k_LanguageError := (exc_ok (c.d.fact 1 (f := .exc "LanguageError") rfl)).2.1,
    s_LanguageError := (exc_ok (c.d.fact 1 (f := .exc "LanguageError") rfl)).2.2.1,
    t_LanguageError := (exc_ok (c.d.fact 1 (f := .exc "LanguageError") rfl)).2.2.2,
    g_BadLetters := glo_ok X G (c.d.fact 2 (f := .glo "BadLetters") rfl),
    x_BadLetters := (exc_ok (c.d.fact 3 (f := .exc "BadLetters") rfl)).1,
    k_BadLetters := (exc_ok (c.d.fact 3 (f := .exc "BadLetters") rfl)).2.1,
    s_BadLetters := (exc_ok (c.d.fact 3 (f := .exc "BadLetters") rfl)).2.2.1,
    t_BadLetters := (exc_ok (c.d.fact 3 (f := .exc "BadLetters") rfl)).2.2.2,
    g_BadWord := glo_ok X G (c.d.fact 4 (f := .glo "BadWord") rfl),
    g_TooMany := glo_ok X G (c.d.fact 5 (f := .glo "TooMany") rfl),
    g_BadText := glo_ok X G (c.d.fact 6 (f := .glo "BadText") rfl),
    c_SMALL := str_ok X G (c.d.fact 7 (f := .str "SMALL" "abcdefghijklmnopqrstuvwxyz") rfl),
    c_MOST_KINDS_OF_LETTERS := int_ok X G (c.d.fact 8 (f := .int "MOST_KINDS_OF_LETTERS" 4) rfl),
    gd_check_letters := glo_ok X G (c.d.fact 9 (f := .glo "check_letters") rfl),
    gd_check_word := glo_ok X G (c.d.fact 10 (f := .glo "check_word") rfl),
    gd_words_to := glo_ok X G (c.d.fact 11 (f := .glo "words_to") rfl),
    c_MOST_SIZE := int_ok X G (c.d.fact 12 (f := .int "MOST_SIZE" 7) rfl),
    gd_view_at := glo_ok X G (c.d.fact 13 (f := .glo "view_at") rfl),
    g_Turner := glo_ok X G (c.d.fact 14 (f := .glo "Turner") rfl),
    cl_Turner := cls_ok (c.d.fact 15 (f := .cls "Turner") rfl),
    mk_Turner := mkr_ok (c.d.fact 16 (f := .mkr "Turner") rfl),
    na_Turner_letters := noat_ok (c.d.fact 17 (f := .noat "Turner" "letters") rfl),
    na_Turner_images := noat_ok (c.d.fact 18 (f := .noat "Turner" "images") rfl),
    na_Turner_size := noat_ok (c.d.fact 19 (f := .noat "Turner" "size") rfl),
    na_Turner_table := noat_ok (c.d.fact 20 (f := .noat "Turner" "table") rfl),
    me_Turner_call := meth_ok (c.d.fact 21 (f := .meth "Turner" "__call__") rfl),
    gd_check_pairs := glo_ok X G (c.d.fact 22 (f := .glo "check_pairs") rfl),
    gd_first_clash := glo_ok X G (c.d.fact 23 (f := .glo "first_clash") rfl),
    gd_least_turner := glo_ok X G (c.d.fact 24 (f := .glo "least_turner") rfl),
    gd_one_behind_other := glo_ok X G (c.d.fact 25 (f := .glo "one_behind_other") rfl),
    gd_all_words := glo_ok X G (c.d.fact 26 (f := .glo "all_words") rfl),
    gd_law_start := glo_ok X G (c.d.fact 27 (f := .glo "_law_start") rfl),
    gd_law_next := glo_ok X G (c.d.fact 28 (f := .glo "_law_next") rfl),
    gd_law_integer := glo_ok X G (c.d.fact 29 (f := .glo "_law_integer") rfl),
    gd_law_alphabet := glo_ok X G (c.d.fact 30 (f := .glo "_law_alphabet") rfl),
    gd_law_word := glo_ok X G (c.d.fact 31 (f := .glo "_law_word") rfl),
    gd_law_same_text := glo_ok X G (c.d.fact 32 (f := .glo "_law_same_text") rfl),
    gd_law_views := glo_ok X G (c.d.fact 33 (f := .glo "_law_views") rfl),
    gd_law_table := glo_ok X G (c.d.fact 34 (f := .glo "_law_table") rfl),
    gd_law_sizes := glo_ok X G (c.d.fact 35 (f := .glo "_law_sizes") rfl),
    gd_law_image := glo_ok X G (c.d.fact 36 (f := .glo "_law_image") rfl),
    gd_law_composed := glo_ok X G (c.d.fact 37 (f := .glo "_law_composed") rfl),
    gd_law_same_table := glo_ok X G (c.d.fact 38 (f := .glo "_law_same_table") rfl),
    gd_law_asked_words := glo_ok X G (c.d.fact 39 (f := .glo "_law_asked_words") rfl),
    gd_law_row_right := glo_ok X G (c.d.fact 40 (f := .glo "_law_row_right") rfl),
    gd_law_error := glo_ok X G (c.d.fact 41 (f := .glo "_law_error") rfl),
    gd_law_row_raised := glo_ok X G (c.d.fact 42 (f := .glo "_law_row_raised") rfl),
    gd_law_rows_refused := glo_ok X G (c.d.fact 43 (f := .glo "_law_rows_refused") rfl),
    gd_law_pairs := glo_ok X G (c.d.fact 44 (f := .glo "_law_pairs") rfl),
    gd_law_clashes := glo_ok X G (c.d.fact 45 (f := .glo "_law_clashes") rfl),
    gd_law_clash_shown := glo_ok X G (c.d.fact 46 (f := .glo "_law_clash_shown") rfl),
    gd_law_least_right := glo_ok X G (c.d.fact 47 (f := .glo "_law_least_right") rfl),
    gd_law_foreign := glo_ok X G (c.d.fact 48 (f := .glo "_law_foreign") rfl),
    gd_law_bent := glo_ok X G (c.d.fact 49 (f := .glo "_law_bent") rfl),
    gd_law_pair_error := glo_ok X G (c.d.fact 50 (f := .glo "_law_pair_error") rfl),
    gd_law_least_raised := glo_ok X G (c.d.fact 51 (f := .glo "_law_least_raised") rfl),
    gd_law := glo_ok X G (c.d.fact 52 (f := .glo "law") rfl),
    b_abs := free_ok X G (c.d.fact 53 (f := .free "abs") rfl),
    b_bool := free_ok X G (c.d.fact 54 (f := .free "bool") rfl),
    b_dict := free_ok X G (c.d.fact 55 (f := .free "dict") rfl),
    b_enumerate := free_ok X G (c.d.fact 56 (f := .free "enumerate") rfl),
    b_int := free_ok X G (c.d.fact 57 (f := .free "int") rfl),
    b_isinstance := free_ok X G (c.d.fact 58 (f := .free "isinstance") rfl),
    b_len := free_ok X G (c.d.fact 59 (f := .free "len") rfl),
    b_list := free_ok X G (c.d.fact 60 (f := .free "list") rfl),
    b_max := free_ok X G (c.d.fact 61 (f := .free "max") rfl),
    b_min := free_ok X G (c.d.fact 62 (f := .free "min") rfl),
    b_range := free_ok X G (c.d.fact 63 (f := .free "range") rfl),
    b_str := free_ok X G (c.d.fact 64 (f := .free "str") rfl),
    b_super := free_ok X G (c.d.fact 65 (f := .free "super") rfl),
    b_tuple := free_ok X G (c.d.fact 66 (f := .free "tuple") rfl),
    b_ValueError := free_ok X G (c.d.fact 67 (f := .free "ValueError") rfl),
    e_LanguageError := exB_ok (c.fb_ (f := .exq "LanguageError") (List.mem_of_getElem? (i := 0) rfl)),
    e_BadLetters := exB_ok (c.fb_ (f := .exq "BadLetters") (List.mem_of_getElem? (i := 1) rfl)),
    e_BadWord := exB_ok (c.fb_ (f := .exq "BadWord") (List.mem_of_getElem? (i := 2) rfl)),
    e_TooMany := exB_ok (c.fb_ (f := .exq "TooMany") (List.mem_of_getElem? (i := 3) rfl)),
    e_BadText := exB_ok (c.fb_ (f := .exq "BadText") (List.mem_of_getElem? (i := 4) rfl)),
    o_Turner := ownB_ok (c.fb_ (f := .own "Turner") (List.mem_of_getElem? (i := 5) rfl)),
    no_BadWord_word := of_decide_eq_true (c.fb_ (f := .noat "BadWord" "word") (List.mem_of_getElem? (i := 6) rfl)),
    no_BadWord_place := of_decide_eq_true (c.fb_ (f := .noat "BadWord" "place") (List.mem_of_getElem? (i := 7) rfl)),
    no_TooMany_limit := of_decide_eq_true (c.fb_ (f := .noat "TooMany" "limit") (List.mem_of_getElem? (i := 8) rfl)),
    no_BadText_line := of_decide_eq_true (c.fb_ (f := .noat "BadText" "line") (List.mem_of_getElem? (i := 9) rfl)),
    kit_LanguageError_LanguageError := of_decide_eq_true (c.fb_ (f := .kit "LanguageError" "LanguageError" true) (List.mem_of_getElem? (i := 10) rfl)),
    exm_LanguageError_LanguageError := of_decide_eq_true (c.fb_ (f := .exm "LanguageError" "LanguageError" true) (List.mem_of_getElem? (i := 11) rfl)),
    kit_LanguageError_BadLetters := of_decide_eq_true (c.fb_ (f := .kit "LanguageError" "BadLetters" false) (List.mem_of_getElem? (i := 12) rfl)),
    exm_LanguageError_BadLetters := of_decide_eq_true (c.fb_ (f := .exm "LanguageError" "BadLetters" false) (List.mem_of_getElem? (i := 13) rfl)),
    kit_LanguageError_BadWord := of_decide_eq_true (c.fb_ (f := .kit "LanguageError" "BadWord" false) (List.mem_of_getElem? (i := 14) rfl)),
    exm_LanguageError_BadWord := of_decide_eq_true (c.fb_ (f := .exm "LanguageError" "BadWord" false) (List.mem_of_getElem? (i := 15) rfl)),
    kit_LanguageError_TooMany := of_decide_eq_true (c.fb_ (f := .kit "LanguageError" "TooMany" false) (List.mem_of_getElem? (i := 16) rfl)),
    exm_LanguageError_TooMany := of_decide_eq_true (c.fb_ (f := .exm "LanguageError" "TooMany" false) (List.mem_of_getElem? (i := 17) rfl)),
    kit_LanguageError_BadText := of_decide_eq_true (c.fb_ (f := .kit "LanguageError" "BadText" false) (List.mem_of_getElem? (i := 18) rfl)),
    exm_LanguageError_BadText := of_decide_eq_true (c.fb_ (f := .exm "LanguageError" "BadText" false) (List.mem_of_getElem? (i := 19) rfl)),
    kit_BadLetters_LanguageError := of_decide_eq_true (c.fb_ (f := .kit "BadLetters" "LanguageError" true) (List.mem_of_getElem? (i := 20) rfl)),
    exm_BadLetters_LanguageError := of_decide_eq_true (c.fb_ (f := .exm "BadLetters" "LanguageError" true) (List.mem_of_getElem? (i := 21) rfl)),
    kit_BadLetters_BadLetters := of_decide_eq_true (c.fb_ (f := .kit "BadLetters" "BadLetters" true) (List.mem_of_getElem? (i := 22) rfl)),
    exm_BadLetters_BadLetters := of_decide_eq_true (c.fb_ (f := .exm "BadLetters" "BadLetters" true) (List.mem_of_getElem? (i := 23) rfl)),
    kit_BadLetters_BadWord := of_decide_eq_true (c.fb_ (f := .kit "BadLetters" "BadWord" false) (List.mem_of_getElem? (i := 24) rfl)),
    exm_BadLetters_BadWord := of_decide_eq_true (c.fb_ (f := .exm "BadLetters" "BadWord" false) (List.mem_of_getElem? (i := 25) rfl)),
    kit_BadLetters_TooMany := of_decide_eq_true (c.fb_ (f := .kit "BadLetters" "TooMany" false) (List.mem_of_getElem? (i := 26) rfl)),
    exm_BadLetters_TooMany := of_decide_eq_true (c.fb_ (f := .exm "BadLetters" "TooMany" false) (List.mem_of_getElem? (i := 27) rfl)),
    kit_BadLetters_BadText := of_decide_eq_true (c.fb_ (f := .kit "BadLetters" "BadText" false) (List.mem_of_getElem? (i := 28) rfl)),
    exm_BadLetters_BadText := of_decide_eq_true (c.fb_ (f := .exm "BadLetters" "BadText" false) (List.mem_of_getElem? (i := 29) rfl)),
    kit_BadWord_LanguageError := of_decide_eq_true (c.fb_ (f := .kit "BadWord" "LanguageError" true) (List.mem_of_getElem? (i := 30) rfl)),
    exm_BadWord_LanguageError := of_decide_eq_true (c.fb_ (f := .exm "BadWord" "LanguageError" true) (List.mem_of_getElem? (i := 31) rfl)),
    kit_BadWord_BadLetters := of_decide_eq_true (c.fb_ (f := .kit "BadWord" "BadLetters" false) (List.mem_of_getElem? (i := 32) rfl)),
    exm_BadWord_BadLetters := of_decide_eq_true (c.fb_ (f := .exm "BadWord" "BadLetters" false) (List.mem_of_getElem? (i := 33) rfl)),
    kit_BadWord_BadWord := of_decide_eq_true (c.fb_ (f := .kit "BadWord" "BadWord" true) (List.mem_of_getElem? (i := 34) rfl)),
    exm_BadWord_BadWord := of_decide_eq_true (c.fb_ (f := .exm "BadWord" "BadWord" true) (List.mem_of_getElem? (i := 35) rfl)),
    kit_BadWord_TooMany := of_decide_eq_true (c.fb_ (f := .kit "BadWord" "TooMany" false) (List.mem_of_getElem? (i := 36) rfl)),
    exm_BadWord_TooMany := of_decide_eq_true (c.fb_ (f := .exm "BadWord" "TooMany" false) (List.mem_of_getElem? (i := 37) rfl)),
    kit_BadWord_BadText := of_decide_eq_true (c.fb_ (f := .kit "BadWord" "BadText" false) (List.mem_of_getElem? (i := 38) rfl)),
    exm_BadWord_BadText := of_decide_eq_true (c.fb_ (f := .exm "BadWord" "BadText" false) (List.mem_of_getElem? (i := 39) rfl)),
    kit_TooMany_LanguageError := of_decide_eq_true (c.fb_ (f := .kit "TooMany" "LanguageError" true) (List.mem_of_getElem? (i := 40) rfl)),
    exm_TooMany_LanguageError := of_decide_eq_true (c.fb_ (f := .exm "TooMany" "LanguageError" true) (List.mem_of_getElem? (i := 41) rfl)),
    kit_TooMany_BadLetters := of_decide_eq_true (c.fb_ (f := .kit "TooMany" "BadLetters" false) (List.mem_of_getElem? (i := 42) rfl)),
    exm_TooMany_BadLetters := of_decide_eq_true (c.fb_ (f := .exm "TooMany" "BadLetters" false) (List.mem_of_getElem? (i := 43) rfl)),
    kit_TooMany_BadWord := of_decide_eq_true (c.fb_ (f := .kit "TooMany" "BadWord" false) (List.mem_of_getElem? (i := 44) rfl)),
    exm_TooMany_BadWord := of_decide_eq_true (c.fb_ (f := .exm "TooMany" "BadWord" false) (List.mem_of_getElem? (i := 45) rfl)),
    kit_TooMany_TooMany := of_decide_eq_true (c.fb_ (f := .kit "TooMany" "TooMany" true) (List.mem_of_getElem? (i := 46) rfl)),
    exm_TooMany_TooMany := of_decide_eq_true (c.fb_ (f := .exm "TooMany" "TooMany" true) (List.mem_of_getElem? (i := 47) rfl)),
    kit_TooMany_BadText := of_decide_eq_true (c.fb_ (f := .kit "TooMany" "BadText" false) (List.mem_of_getElem? (i := 48) rfl)),
    exm_TooMany_BadText := of_decide_eq_true (c.fb_ (f := .exm "TooMany" "BadText" false) (List.mem_of_getElem? (i := 49) rfl)),
    kit_BadText_LanguageError := of_decide_eq_true (c.fb_ (f := .kit "BadText" "LanguageError" true) (List.mem_of_getElem? (i := 50) rfl)),
    exm_BadText_LanguageError := of_decide_eq_true (c.fb_ (f := .exm "BadText" "LanguageError" true) (List.mem_of_getElem? (i := 51) rfl)),
    kit_BadText_BadLetters := of_decide_eq_true (c.fb_ (f := .kit "BadText" "BadLetters" false) (List.mem_of_getElem? (i := 52) rfl)),
    exm_BadText_BadLetters := of_decide_eq_true (c.fb_ (f := .exm "BadText" "BadLetters" false) (List.mem_of_getElem? (i := 53) rfl)),
    kit_BadText_BadWord := of_decide_eq_true (c.fb_ (f := .kit "BadText" "BadWord" false) (List.mem_of_getElem? (i := 54) rfl)),
    exm_BadText_BadWord := of_decide_eq_true (c.fb_ (f := .exm "BadText" "BadWord" false) (List.mem_of_getElem? (i := 55) rfl)),
    kit_BadText_TooMany := of_decide_eq_true (c.fb_ (f := .kit "BadText" "TooMany" false) (List.mem_of_getElem? (i := 56) rfl)),
    exm_BadText_TooMany := of_decide_eq_true (c.fb_ (f := .exm "BadText" "TooMany" false) (List.mem_of_getElem? (i := 57) rfl)),
    kit_BadText_BadText := of_decide_eq_true (c.fb_ (f := .kit "BadText" "BadText" true) (List.mem_of_getElem? (i := 58) rfl)),
    exm_BadText_BadText := of_decide_eq_true (c.fb_ (f := .exm "BadText" "BadText" true) (List.mem_of_getElem? (i := 59) rfl)),
    kit_Turner_Turner := of_decide_eq_true (c.fb_ (f := .kit "Turner" "Turner" true) (List.mem_of_getElem? (i := 60) rfl)),
    d_check_letters := c.d.def_ 0 (d := d_check_letters) rfl,
    d_check_word := c.d.def_ 1 (d := d_check_word) rfl,
    d_words_to := c.d.def_ 2 (d := d_words_to) rfl,
    d_view_at := c.d.def_ 3 (d := d_view_at) rfl,
    d_Turner_init := c.d.def_ 4 (d := d_Turner_init) rfl,
    d_Turner_call := c.d.def_ 5 (d := d_Turner_call) rfl,
    d_check_pairs := c.d.def_ 6 (d := d_check_pairs) rfl,
    d_first_clash := c.d.def_ 7 (d := d_first_clash) rfl,
    d_least_turner := c.d.def_ 8 (d := d_least_turner) rfl,
    d_one_behind_other := c.d.def_ 9 (d := d_one_behind_other) rfl,
    d_all_words := c.d.def_ 10 (d := d_all_words) rfl,
    d_law_start := c.d.def_ 11 (d := d_law_start) rfl,
    d_law_next := c.d.def_ 12 (d := d_law_next) rfl,
    d_law_integer := c.d.def_ 13 (d := d_law_integer) rfl,
    d_law_alphabet := c.d.def_ 14 (d := d_law_alphabet) rfl,
    d_law_word := c.d.def_ 15 (d := d_law_word) rfl,
    d_law_same_text := c.d.def_ 16 (d := d_law_same_text) rfl,
    d_law_views := c.d.def_ 17 (d := d_law_views) rfl,
    d_law_table := c.d.def_ 18 (d := d_law_table) rfl,
    d_law_sizes := c.d.def_ 19 (d := d_law_sizes) rfl,
    d_law_image := c.d.def_ 20 (d := d_law_image) rfl,
    d_law_composed := c.d.def_ 21 (d := d_law_composed) rfl,
    d_law_same_table := c.d.def_ 22 (d := d_law_same_table) rfl,
    d_law_asked_words := c.d.def_ 23 (d := d_law_asked_words) rfl,
    d_law_row_right := c.d.def_ 24 (d := d_law_row_right) rfl,
    d_law_error := c.d.def_ 25 (d := d_law_error) rfl,
    d_law_row_raised := c.d.def_ 26 (d := d_law_row_raised) rfl,
    d_law_rows_refused := c.d.def_ 27 (d := d_law_rows_refused) rfl,
    d_law_pairs := c.d.def_ 28 (d := d_law_pairs) rfl,
    d_law_clashes := c.d.def_ 29 (d := d_law_clashes) rfl,
    d_law_clash_shown := c.d.def_ 30 (d := d_law_clash_shown) rfl,
    d_law_least_right := c.d.def_ 31 (d := d_law_least_right) rfl,
    d_law_foreign := c.d.def_ 32 (d := d_law_foreign) rfl,
    d_law_bent := c.d.def_ 33 (d := d_law_bent) rfl,
    d_law_pair_error := c.d.def_ 34 (d := d_law_pair_error) rfl,
    d_law_least_raised := c.d.def_ 35 (d := d_law_least_raised) rfl,
    d_law := c.d.def_ 36 (d := d_law) rfl,
    i_BadWord := iniF_of (h := h) hm ht hs (c.fi_ 0 (d := i_BadWord) rfl).1 (c.fi_ 0 (d := i_BadWord) rfl).2,
    i_TooMany := iniF_of (h := h) hm ht hs (c.fi_ 1 (d := i_TooMany) rfl).1 (c.fi_ 1 (d := i_TooMany) rfl).2,
    i_BadText := iniF_of (h := h) hm ht hs (c.fi_ 2 (d := i_BadText) rfl).1 (c.fi_ 2 (d := i_BadText) rfl).2 }
end Hk89

namespace Y
open PySem PySem.Spec L2 He
/-! ### isinstance of a caught error that may have fields -/
section
open PySem.W PySem.Calls
variable {prog : Program} {w : World} {A : Around} {E : Value → Shared → Prop} {s : Shared} {K : Frag} {x D : Addr} {ox : Obj} {od : Option Obj}
theorem find_dataD {C : Addr} {name : Str} {a g : Value} (hc : (clsIn K C).isSome = true) (ha : findIn K (.ref C) name = some (some a)) (hg : specialIn K a "__get__" = some (some g)) (ht : takesIn K a = some true) : findObj K C od name = some (.bind g a) := by
  obtain ⟨cd, hc⟩ := Option.isSome_iff_exists.mp hc
  unfold findObj
  rw [hc, Option.bind_some, ha, Option.bind_some]
  simp [hg, ht]
theorem kin_classD {Q : Option Value → Shared → Prop} (F : L2.ExcC K D) (X : K.In s.heap) (I : InstAt s.heap x ox D od) (h : Q (some (.ref D)) { s with toks := s.toks + 1 }) : wpAny (model prog w) A (getAttr? (.ref x) "__class__") Q E s := by
  obtain ⟨hga, hgt, hsub, hdct, ha, hn, htk, hm⟩ := F
  have hf : findObj K D od "__class__" = some (.bind (.builtin "getset_descriptor.__get__") (.builtin "object.__class__")) := find_dataD (by obtain ⟨cd, hc, _⟩ := any_some hdct; rw [hc]; rfl) ha hn htk
  obtain ⟨hp, g, d, t, os⟩ := s
  have W0 := I.type (M := model prog w)
  have W1 := looks_findIn (M := model prog w) X hga
  have W2 := looks_findIn (M := model prog w) X hgt
  have W3 := looks_find (M := model prog w) X I hf
  have sub : Looks (model prog w) hp (isInstance (.ref x) (.type "BaseException")) true := W0.andThen (looks_subIn X hsub)
  have hx0 : (false && onTheHeap (Value.builtin "BaseException.__getattribute__")) = false := rfl
  have hx2 : (Value.builtin "BaseException.__getattribute__" == Value.builtin "object.__getattribute__") = false := by decide +kernel
  have hx1 : (onTheHeap (Value.ref D) && Value.builtin "BaseException.__getattribute__" == Value.builtin "object.__getattribute__") = false := by rw [hx2]; rfl
  unfold getAttr? getAttrBy? getAttrBy
  refine wpAny_bind (wpAny_mkText (wpAny_bind (wpAny_attempt (wpAny_holding (wpAny_bind (W0.at (wpAny_bind (W1.at ?_))))))))
  show wpAny _ _ (if (onTheHeap (Value.ref D) && Value.builtin "BaseException.__getattribute__" == Value.builtin "object.__getattribute__") = true then _ else _) _ _ _
  rw [hx1, if_neg Bool.false_ne_true]
  unfold getAttrByItsOwn hookBefore
  refine wpAny_bind ?_
  rw [if_pos (show onTheHeap (Value.ref D) = true from rfl)]
  refine W2.at ?_
  refine wpAny_bind (wpAny_attempt (wpAny_holding ?_))
  unfold callGetattribute
  rw [hx0, if_neg Bool.false_ne_true]
  unfold boundAndCalled
  rw [PySem.F.excAttr_ValueError.ga.bind (.ref x)]
  refine wpAny_bind (wpAny_pure ?_)
  show wpAny _ _ (call (.builtin "BaseException.__getattribute__") [.ref x, .str "__class__" t]) _ _ _
  refine wpAny_call (codeAny_call_builtin PySem.F.excAttr_ValueError.ga.plain PySem.F.entry_bexc_ga ?_)
  refine @check_slot (model prog w) _ _ ⟨hp, g, d, t + 1, os⟩ "BaseException.__getattribute__" "BaseException" "__getattribute__" (.ref x) [.str "__class__" t] [] _ (by decide +kernel) (by decide +kernel) sub (PySem.F.args_bexc_ga (.ref x) (.str "__class__" t)) ?_
  unfold Builtin.«object.__getattribute__»
  refine wpAny_bind (wpAny_of_eq (a := ((Value.ref x : Value), [Value.str "__class__" t])) (by first | rfl | (simp only [slotArgs]; rfl)) ?_)
  refine wpAny_bind (wpAny_pure (wpAny_bind (W0.at (wpAny_bind (W3.at ?_)))))
  show wpAny _ _ (holding [Value.builtin "object.__class__"] (call (.builtin "getset_descriptor.__get__") [.builtin "object.__class__", .ref x, .ref D]) >>= ret) _ _ _
  refine wpAny_bind (wpAny_holding (wpAny_call (class_get (s := ⟨hp, g, d, t + 1, os⟩) (ox := ox) (od := od) X I hm ?_)))
  refine wpAny_pure ?_
  show wpAny _ _ (handedOut (.ref D)) _ _ _
  rw [handedOut_of (v := .ref D) rfl]
  first
    | exact wpAny_pure (wpAny_pure h)
    | exact wpAny_pure h
    | exact wpAny_pure (wpAny_bind (wpAny_pure (wpAny_pure h)))
theorem kitx_excD (F : L2.ExcC K D) : KitX K (.ref x) (.ref D) (fun h => ∃ od, InstAt h x ox D od) where
  ty := fun _ _ _ I => by
    obtain ⟨od, I⟩ := I
    exact I.type
  it := fun _ _ X _ => by
    obtain ⟨cdD, hcD, _⟩ := any_some F.hd
    unfold clsIn at hcD
    split at hcD
    · rename_i c' d' cd' sl' ho
      intro A' Q' E' s' k q
      unfold isType loadHead
      exact wpAny_bind (wpAny_loadPart (k _ _ (X _ _ ho)) (wpAny_pure q))
    · cases hcD
  ne := fun h tp dd its n sl X htp => by
    obtain ⟨cdD, hcD, _⟩ := any_some F.hd
    refine Bool.eq_false_iff.mpr fun q => ?_
    have e : D = tp := Value.ref.inj (beq_iff_eq.mp q)
    subst e
    unfold clsIn at hcD
    split at hcD
    · rename_i c' d' cd' sl' ho
      have z := (X _ _ ho).symm.trans htp
      cases z
    · cases hcD
  ca := fun X I k => by
    obtain ⟨od, I⟩ := I
    exact kin_classD F X I k
end
/-- the dict that a caught error has, if any, stands -/
def DOk (H : Hp) (d : Option Addr) : Prop := match d with
  | none => True
  | some dd => ∃ fs, H dd = some (.xd fs)
/-- isinstance(e, c): e the exception that the suite holds, of the class cls -/
def rIsX (K : PySem.W.Frag) (a : Addr) (cls : Value) (d : Option Addr) : List V → Hp → VK → Prop := fun xs H Q => ∃ (D : Addr) (c : V) (cv : Value) (b : Bool), cls = .ref D ∧ ExcC K D ∧ xs = [.ref a, c] ∧ ClsV c cv ∧ PySem.W.kitOne K (.ref D) cv = some b ∧ DOk H d ∧ Q (.bl b) H
theorem inst_of {X : Cx} {a D : Addr} {oe : Obj} {d : Option Addr} {pn pins : List (Addr × Obj)} {σ : L2.St} {H : Hp} {s : Shared} (I : Inv (X.suite a ((a, oe) :: pn)) pins σ H s) (hz : Zc (.ref D) d oe) (hf : ∃ vs, oe.data = .fields vs) (hd : DOk H d) : ∃ od, PySem.W.InstAt s.heap a oe D od := by
  obtain ⟨hget, _⟩ := I.pin (a, oe) (List.mem_append.mpr (.inl List.mem_cons_self))
  obtain ⟨vs, hv⟩ := hf
  obtain ⟨oc, odd, oda, osl⟩ := oe
  obtain ⟨h1, h2⟩ := hz
  dsimp only at h1 h2 hv
  subst h1 h2 hv
  cases odd with
  | none => exact ⟨none, hget, rfl, rfl, trivial⟩
  | some dd =>
    obtain ⟨fs, hfs⟩ := hd
    obtain ⟨mA, ⟨o, es, ep, ho, _⟩, _⟩ := (show ObjOk X.prog X.w H s.heap dd (.xd fs) from I.hok dd _ hfs)
    exact ⟨some o, hget, rfl, rfl, ho⟩
theorem call_isX {X : Cx} {a : Addr} {oe : Obj} {cls : Value} {d : Option Addr} {pn : List (Addr × Obj)} (hz : Zc cls d oe) (hf : ∃ vs, oe.data = .fields vs) : CallR (X.suite a ((a, oe) :: pn)) (.builtin "isinstance") (rIsX X.K a cls d) := by
  intro pins s σ H xs us Q I r h
  obtain ⟨D, c, cv, b, ec, C, rfl, hcv, e, hd, q⟩ := h
  subst ec
  obtain ⟨u1, u2, rfl, r1, r2⟩ := vals2 r
  have e2 := hcv.eq r2
  subst e2
  cases (show u1 = Value.ref a from r1)
  exact PySem.W.kia_one (kitx_excD (ox := oe) C) I.kIn (inst_of I hz hf hd) e (fun z => nomatch z) fun tk => ⟨.bl b, H, I.kept (t' := tk) fun _ _ z => z, rfl, q⟩
/-- isinstance(e, (c1, c2, ..)) -/
def rIsXT (K : PySem.W.Frag) (a : Addr) (cls : Value) (d : Option Addr) : List V → Hp → VK → Prop := fun xs H Q => ∃ (D tp : Addr) (cs : List V) (us : List Value) (b : Bool), cls = .ref D ∧ ExcC K D ∧ xs = [.ref a, .ref tp] ∧ H tp = some (.tup cs) ∧ Paired ClsV cs us ∧ PySem.W.kitAny K (.ref D) us = some b ∧ DOk H d ∧ Q (.bl b) H
theorem call_isXT {X : Cx} {a : Addr} {oe : Obj} {cls : Value} {d : Option Addr} {pn : List (Addr × Obj)} (hz : Zc cls d oe) (hf : ∃ vs, oe.data = .fields vs) : CallR (X.suite a ((a, oe) :: pn)) (.builtin "isinstance") (rIsXT X.K a cls d) := by
  intro pins s σ H xs us Q I r h
  obtain ⟨D, tp, cs, ws, b, ec, C, rfl, hT, k, e, hd, q⟩ := h
  subst ec
  obtain ⟨u1, u2, rfl, r1, r2⟩ := vals2 r
  cases (show u1 = Value.ref a from r1)
  cases (show u2 = Value.ref tp from r2)
  obtain ⟨_, its, rv, o, h1, h2, n, h3⟩ := (show ObjOk X.prog X.w H s.heap tp (.tup cs) from I.hok tp _ hT)
  have e3 := ClsV.all k rv
  subst e3
  obtain ⟨oc, od, dt, sl⟩ := o
  simp only at h2 h3
  subst h2 h3
  exact PySem.W.kia_tup (kitx_excD (ox := oe) C) I.kIn (inst_of I hz hf hd) h1 e (fun z => nomatch z) fun tk => ⟨.bl b, H, I.kept (t' := tk) fun _ _ z => z, rfl, q⟩
end Y

namespace Y
open PySem PySem.Spec L2 He
/-! ### enumerate of a tuple, of a text -/
/-- the pairs (number, item), each in a new tuple: item i of what is walked is told by It0 i H x; n items -/
theorem turn_enumD {P : Program} {w : World} {K : PySem.W.Frag} {elts : List Expr} {kk : Nat} {tpos : Pos} (e it : Addr) (J : It) (Si : Nat → Heap → Prop)
    (Sobj : ∀ i h, Si i h → ∃ o, h.get? it = some o ∧ ∀ v, o.data ≠ .cell v) (Skeep : ∀ i h h', Si i h → (∀ o, h.get? it = some o → h'.get? it = some o) → Si i h')
    (Dr : ∀ (X : Cx), X.prog = P → X.w = w → X.K = K → X.calm = true → ∀ (i : Nat) (pins : List (Addr × Obj)) (s : Shared) (σ : L2.St) (H : Hp), Inv X pins σ H s → Si i s.heap → (J.go i H ∨ J.stop i H) →
      ∃ (fp : List Addr) (n : Nat) (Pv : Nat → Value → Prop) (S2 : Nat → Heap → Prop), Draws P w X.A.in1 it fp n Pv S2 ∧ S2 i s.heap ∧ (∀ j h, S2 j h → Si j h) ∧ (s.heap.get? e = some { cls := .type "enumerate", data := .fields #[.none, .bool false, .ref it, rawInt 0, .none, .none] } → True) ∧
        (∀ b ∈ fp, b = it ∨ ∃ o, s.heap.get? b = some o ∧ o.cls = .type "tuple") ∧ (J.stop i H → i = n) ∧ (J.go i H → i < n ∧ ∀ u, Pv i u → ∃ x, RelV x u ∧ ∀ T, H T = none → J.yld i H (.ref T) (upd H T (.tup [.int (i : Nat), x])))) :
    Turn P w K (.Tuple elts kk tpos) J [e, it] e (fun i h => (∃ old, IsEnum h e it ((i : Nat) : Int) old) ∧ Si i h ∧ e ≠ it) where
  mem := by simp
  obj := fun i h st b hb => by
    obtain ⟨⟨old, he⟩, hs, _⟩ := st
    have e' : b = e ∨ b = it := by simpa using hb
    rcases e' with z | z
    · rw [z]; exact ⟨_, he, fun v q => nomatch q⟩
    · rw [z]; exact Sobj i h hs
  keep := fun i h h' st k => by
    obtain ⟨⟨old, he⟩, hs, hne⟩ := st
    exact ⟨⟨old, k e (by simp) _ he⟩, Skeep i h h' hs fun o q => k it (by simp) o q, hne⟩
  item := by
    intro X hP hw hK hc i pins s σ H E I hf st hg
    obtain ⟨⟨old, he⟩, hs, hne⟩ := st
    obtain ⟨fp, n, Pv, S2, D, s2, up, _, hfp, _, hgo⟩ := Dr X hP hw hK hc i pins s σ H I hs (.inl hg)
    subst hP hw hK
    obtain ⟨hlt, hv⟩ := hgo hg
    have hel : e < s.heap.objs.size := Heap.lt_size he
    obtain ⟨oit, hoit, _⟩ := Sobj i _ hs
    have hil : it < s.heap.objs.size := Heap.lt_size hoit
    have hef : e ∉ fp := fun hm => by
      rcases hfp e hm with z | ⟨o, ho, hc⟩
      · exact hne z
      · have z := ho.symm.trans he
        injection z with z
        rw [z] at hc
        exact absurd (show Value.type "enumerate" = Value.type "tuple" from hc) (by decide)
    refine wpAny_pyNext_enum_itemD D he s2 hlt hne hef fun u h' tk hP ho hit' hT hsz hk => ?_
    obtain ⟨x, ru, hy⟩ := hv u hP
    refine ⟨_, rfl, wpAny_letOwnedTupleGo_enum (s := { s with heap := h', toks := tk + 1 }) ho fun h'' he' sb => ?_⟩
    have hT2 : h''.get? s.heap.objs.size = some { cls := .type "tuple", data := .seq #[.int i tk, u] } := (sb.2 _ (Nat.ne_of_gt hel)).trans hT
    have new : ObjOk X.prog X.w (upd H s.heap.objs.size (.tup [.int (i : Nat), x])) h'' s.heap.objs.size (.tup [.int (i : Nat), x]) :=
      ⟨by show 2 ≤ sizeLine; decide, [.int i tk, u], .cons ⟨_, rfl⟩ (.cons ru .nil), ⟨_, hT2, rfl, _, rfl⟩⟩
    have I1 : Inv X pins σ (upd H s.heap.objs.size (.tup [.int (i : Nat), x])) { s with heap := h'', toks := tk + 1 } :=
      I.turnedNew (ch := [e, it]) (fun b ob hb q => (sb.2 b (fun z => hb (by simp [z]))).trans (hk b ob (fun z => hb (by simp [z])) (fun z => hb (by simp [z])) q)) hf (Nat.le_refl _) new
    refine ⟨.ref s.heap.objs.size, _, I1, rfl, hy _ (I.hok.fresh (Nat.le_refl _)), ⟨⟨u, ?_⟩, Skeep _ _ _ (up _ _ hit') fun o q => (sb.2 it (Ne.symm hne)).trans q, hne⟩, fun b hb => ?_⟩
    · have e1 : ((i + 1 : Nat) : Int) = (i : Int) + 1 := by omega
      rw [e1]; exact he'
    · have hb' : b < s.heap.objs.size := by
        have e' : b = e ∨ b = it := by simpa using hb
        rcases e' with z | z
        · rw [z]; exact hel
        · rw [z]; exact hil
      rw [upd_ne (Nat.ne_of_lt hb')]
      exact (hf b hb).1
  done := by
    intro X hP hw hK hc i pins s σ H E I hf st hg
    obtain ⟨⟨old, he⟩, hs, hne⟩ := st
    obtain ⟨fp, n, Pv, S2, D, s2, up, _, hfp, hstop, _⟩ := Dr X hP hw hK hc i pins s σ H I hs (.inr hg)
    subst hP hw hK
    have en := hstop hg
    subst en
    obtain ⟨f0, f1, f2, f3, f4, f5⟩ := hf it (by simp)
    exact wpAny_pyNext_enum_endD D he s2 fun h' eb => ⟨rfl, I.turned (t' := s.toks) (fun b o hb q => eb b o hb q) f0 f1 f3 f4 f5⟩
  self := fun A i s Q E st h => let ⟨⟨_, he⟩, _⟩ := st; wpAny_pyIter_enum he h
/-- the tuple at a, its items in new pairs -/
def Ity (K : PySem.W.Frag) (a : Addr) : It :=
  ⟨fun i H => ∃ (xs : List V) (x : V), SqT K H a xs ∧ xs[i]? = some x, fun i H v H' => ∃ T x, v = .ref T ∧ H T = none ∧ H' = upd H T (.tup [.int (i : Nat), x]) ∧ ∀ xs, SqT K H a xs → xs[i]? = some x, fun i H => ∃ xs : List V, SqT K H a xs ∧ xs.length = i⟩
theorem turn_enumT {P : Program} {w : World} {K : PySem.W.Frag} {elts : List Expr} {kk : Nat} {tpos : Pos} (a e it : Addr) :
    Turn P w K (.Tuple elts kk tpos) (Ity K a) [e, it] e (fun i h => (∃ old, IsEnum h e it ((i : Nat) : Int) old) ∧ h.IsTupleIter it a i ∧ e ≠ it) := by
  refine turn_enumD e it (Ity K a) (fun i h => h.IsTupleIter it a i) (fun i h st => ?_) (fun i h h' st k => st.at k) (fun X hP hw hK hc i pins s σ H I st hg => ?_)
  · obtain ⟨o, e, c, d⟩ := st
    exact ⟨o, e, fun v z => by rw [d] at z; cases z⟩
  · subst hP hw hK
    obtain ⟨xs, hq⟩ : ∃ xs, SqT X.K H a xs := by
      rcases hg with ⟨xs, _, hq, _⟩ | ⟨xs, hq, _⟩ <;> exact ⟨xs, hq⟩
    obtain ⟨its, rv, p, hz⟩ := I.tuple hq
    have pt : s.heap.IsTuple a its.toArray := p
    have hne : a ≠ it := fun z => by
      obtain ⟨o, e1, c1, _⟩ := pt
      obtain ⟨o2, e2, c2, _⟩ := st
      rw [z] at e1
      have ee := e1.symm.trans e2
      injection ee with ee
      rw [ee, c2] at c1
      exact absurd c1 (by decide)
    have hl := rv.length
    refine ⟨[it, a], its.toArray.size, _, _, Draws.tuple (A := X.A.in1) (show X.A.in1.handled = none from I.ok.hd hc) it a hne its.toArray, ⟨st, pt⟩, fun j h z => z.1, fun _ => trivial, fun b hb => ?_, ?_, ?_⟩
    · have e' : b = it ∨ b = a := by simpa using hb
      rcases e' with z | z
      · exact .inl z
      · obtain ⟨o, e1, c1, _⟩ := pt
        exact .inr ⟨o, by rw [z]; exact e1, c1⟩
    · rintro ⟨ys, hy, e1⟩
      rw [← e1, I.tuple_inj hy hq, hl]
      simp
    · rintro ⟨ys, x, hy, hx⟩
      rw [I.tuple_inj hy hq] at hx
      obtain ⟨u, hu, ru⟩ := rv.get hx
      refine ⟨by
        have := (List.getElem?_eq_some_iff.mp hu).1
        simpa using this, fun u' hu' => ⟨x, ?_, fun T hT => ⟨T, x, rfl, hT, rfl, fun zs hzs => by rw [I.tuple_inj hzs hq]; exact hx⟩⟩⟩
      have e1 : its[i]? = some u' := by simpa using hu'
      rw [hu] at e1
      cases e1
      exact ru
def iEnumT (K : PySem.W.Frag) (ta : TA) : TI := fun σ H R => ta σ H fun vs H1 => ∃ a xs, vs = [.ref a] ∧ SqT K H1 a xs ∧ R (Ity K a) H1
/-- the signs of the text x in new pairs -/
def Itx (x : Str) : It :=
  ⟨fun i _ => i < x.cps.size, fun i H v H' => ∃ T c, v = .ref T ∧ H T = none ∧ H' = upd H T (.tup [.int (i : Nat), .str ⟨#[c]⟩]) ∧ x.cps[i]? = some c, fun i _ => i = x.cps.size⟩
theorem turn_enumS {P : Program} {w : World} {K : PySem.W.Frag} {elts : List Expr} {kk : Nat} {tpos : Pos} (x : Str) (t : Tok) (e it : Addr) :
    Turn P w K (.Tuple elts kk tpos) (Itx x) [e, it] e (fun i h => (∃ old, IsEnum h e it ((i : Nat) : Int) old) ∧ h.IsStrIter it (strIterType x) x t i ∧ e ≠ it) := by
  refine turn_enumD e it (Itx x) (fun i h => h.IsStrIter it (strIterType x) x t i) (fun i h st => ?_) (fun i h h' st k => ?_) (fun X hP hw hK hc i pins s σ H I st hg => ?_)
  · obtain ⟨o, e, c, d⟩ := st
    exact ⟨o, e, fun v z => by rw [d] at z; cases z⟩
  · obtain ⟨o, ho, r⟩ := st
    exact ⟨o, k o ho, r⟩
  · subst hP hw hK
    refine ⟨[it], x.cps.size, _, _, Draws.text (A := X.A.in1) (show X.A.in1.handled = none from I.ok.hd hc) it x t, st, fun j h z => z, fun _ => trivial, fun b hb => .inl (by simpa using hb), fun h => h, fun h => ⟨h, fun u hu => ?_⟩⟩
    obtain ⟨c, u', hc', rfl⟩ := hu
    exact ⟨.str ⟨#[c]⟩, ⟨u', rfl⟩, fun T hT => ⟨T, c, rfl, hT, rfl, hc'⟩⟩
def iEnumS (ta : TA) : TI := fun σ H R => ta σ H fun vs H1 => ∃ x, vs = [.str x] ∧ R (Itx x) H1
section
variable {prog : Program} {w : World} {A : Around} {E : Value → Shared → Prop} {s : Shared}
theorem meets_enumT (l : Addr) (items : Array Value) : Meets (Builtin.«enumerate.__new__» ⟨[.type "enumerate", .ref l], []⟩) (fun _ R s => s.heap.IsTuple l items ∧
      R (.ok (.ret (.ref (s.heap.push { cls := .type "tuple_iterator", data := .fields #[.ref l, .int 0 0] }).objs.size)))
        { s with heap := (s.heap.push { cls := .type "tuple_iterator", data := .fields #[.ref l, .int 0 0] }).push { cls := .type "enumerate", data := .fields #[.none, .bool false, .ref s.heap.objs.size, rawInt 0, .none, .none] } }) :=
  .of_wp fun prog w A R s h => by
    obtain ⟨hp, g, d, tk, os⟩ := s
    obtain ⟨hl, h⟩ := h
    have hsub := sub_enumerate
    wp_walk using wpAny_pyIter_tuple hl
    refine wpAny_stack_any fun st => wpAny_pure ?_
    split
    · rename_i c _ _ _ _ _
      cases (c == Value.type "enumerate")
      · wp_walk using wpAny_pyIter_tuple hl
        exact ⟨_, rfl, h⟩
      · wp_walk using wpAny_pyIter_tuple hl
        exact ⟨_, rfl, h⟩
    · wp_walk using wpAny_pyIter_tuple hl
      exact ⟨_, rfl, h⟩
end
section
variable {prog : Program} {w : World} {A : Around} {E : Value → Shared → Prop} {s : Shared}
theorem call_enumT {l : Addr} {items : Array Value} {Q : Value → Shared → Prop} (hL : s.heap.IsTuple l items)
    (h : ∀ h', IsEnum h' (s.heap.objs.size + 1) s.heap.objs.size 0 .none → h'.IsTupleIter s.heap.objs.size l 0 →
      (∀ b o, s.heap.get? b = some o → h'.get? b = some o) → Q (.ref (s.heap.objs.size + 1)) { s with heap := h' }) :
    wpAny (model prog w) A (call (.type "enumerate") [.ref l]) Q E s := by
  refine callType_new F.called_enumerate (by decide) (F.typeCall_enumerate_1 _) (F.newCall_enumerate_1 _) (fun obj => F.args_object_init_2 obj _) F.entry_enumerate_new (meets_enumT l items) ⟨hL, ?_⟩
  have hz : (s.heap.push { cls := .type "tuple_iterator", data := .fields #[.ref l, .int 0 0] }).objs.size = s.heap.objs.size + 1 := Heap.size_push ..
  show _ ∧ _
  rw [hz]
  have he : IsEnum ((s.heap.push { cls := .type "tuple_iterator", data := .fields #[.ref l, .int 0 0] }).push
      { cls := .type "enumerate", data := .fields #[.none, .bool false, .ref s.heap.objs.size, rawInt 0, .none, .none] }) (s.heap.objs.size + 1) s.heap.objs.size 0 .none := by
    have := Heap.get?_push_size (s.heap.push { cls := .type "tuple_iterator", data := .fields #[.ref l, .int 0 0] })
      (o := { cls := .type "enumerate", data := .fields #[.none, .bool false, .ref s.heap.objs.size, rawInt 0, .none, .none] }) rfl
    rw [hz] at this; exact this
  exact ⟨⟨_, he, rfl⟩, h _ he ⟨_, Heap.get?_push_of_some _ (Heap.get?_push_size _ rfl), rfl, rfl⟩ fun b o x => Heap.get?_push_of_some _ (Heap.get?_push_of_some _ x)⟩
end
theorem pi_enumT {X : Cx} {e : Expr} {ta : TA} {p pos tpos : Pos} {elts : List Expr} {kk : Nat} (hg : Gl X "enumerate") (hm : X.mg "enumerate" = none) (ha : PA X [e] ta) (hs : starEach [e] X.env = [(false, eval e X.env)] := by rfl) :
    PI X (.Tuple elts kk tpos) (.Call (.Name "enumerate" p) [e] [] pos) (iEnumT X.K ta) := by
  refine ⟨fun pins s σ H R I h => ?_⟩
  refine PyProof.Rows.Call_ (ld_blt I hg hm PyProof.Rows.boot_enumerate (PyProof.Rows.callWith_type1 (thn (ha.run pos pins s σ H _ I h) fun us s1 hh => ?_) hs rfl))
  obtain ⟨vs, H1, I1, r1, a, xs, ex, hq, q⟩ := hh
  subst ex
  cases r1 with
  | cons r rr =>
    cases rr
    cases r
    obtain ⟨its, rv, p', hz⟩ := I1.tuple hq
    refine call_enumT (show s1.heap.IsTuple a its.toArray from p') fun h' he hit hk => wpAny_pyIter_enum he ?_
    have I2 : Inv X pins σ H1 { s1 with heap := h' } := I1.kept (t' := s1.toks) hk
    refine ⟨s1.heap.objs.size + 1, [s1.heap.objs.size + 1, s1.heap.objs.size], _, _, H1, rfl, I2, turn_enumT a (s1.heap.objs.size + 1) s1.heap.objs.size, ⟨⟨.none, he⟩, hit, Nat.succ_ne_self _⟩, fun b hb => ?_, q⟩
    have e' : b = s1.heap.objs.size + 1 ∨ b = s1.heap.objs.size := by simpa using hb
    have hle : s1.heap.objs.size ≤ b := by
      rcases e' with z | z
      · rw [z]; exact Nat.le_add_right _ _
      · rw [z]; exact Nat.le_refl _
    exact I1.fpOk hle (I1.hok.fresh hle)
theorem pi_enumS {X : Cx} {e : Expr} {ta : TA} {p pos tpos : Pos} {elts : List Expr} {kk : Nat} (hg : Gl X "enumerate") (hm : X.mg "enumerate" = none) (ha : PA X [e] ta) (hs : starEach [e] X.env = [(false, eval e X.env)] := by rfl) :
    PI X (.Tuple elts kk tpos) (.Call (.Name "enumerate" p) [e] [] pos) (iEnumS ta) := by
  refine ⟨fun pins s σ H R I h => ?_⟩
  refine PyProof.Rows.Call_ (ld_blt I hg hm PyProof.Rows.boot_enumerate (PyProof.Rows.callWith_type1 (thn (ha.run pos pins s σ H _ I h) fun us s1 hh => ?_) hs rfl))
  obtain ⟨vs, H1, I1, r1, x, ex, q⟩ := hh
  subst ex
  cases r1 with
  | cons r rr =>
    cases rr
    obtain ⟨t, rfl⟩ := r
    refine call_enumerate_str fun h' he hit hsz hk => wpAny_pyIter_enum he ?_
    have I2 : Inv X pins σ H1 { s1 with heap := h' } := I1.kept (t' := s1.toks) hk
    refine ⟨s1.heap.objs.size + 1, [s1.heap.objs.size + 1, s1.heap.objs.size], _, _, H1, rfl, I2, turn_enumS x t (s1.heap.objs.size + 1) s1.heap.objs.size, ⟨⟨.none, he⟩, hit, Nat.succ_ne_self _⟩, fun b hb => ?_, q⟩
    have e' : b = s1.heap.objs.size + 1 ∨ b = s1.heap.objs.size := by simpa using hb
    have hle : s1.heap.objs.size ≤ b := by
      rcases e' with z | z
      · rw [z]; exact Nat.le_add_right _ _
      · rw [z]; exact Nat.le_refl _
    exact I1.fpOk hle (I1.hok.fresh hle)
end Y

namespace Y
open PySem PySem.Spec L2 He
/-! ### calls of defs, of classes -/
section
variable {X : Cx} {x : Str} {v : V} {pos : Pos}
theorem pe_gI {i : Int} (hg : Gl X x) (hm : ∃ t, X.mg x = some (.int i t)) (hd : (x == ("__debug__" : Str)) = false := by decide) : PE X (.Name x pos) (tC (.int i)) := by
  obtain ⟨t, h⟩ := hm
  exact pe_glob hg h ⟨t, rfl⟩ hd
theorem pe_gS {z : Str} (hg : Gl X x) (hm : ∃ t, X.mg x = some (.str z t)) (hd : (x == ("__debug__" : Str)) = false := by decide) : PE X (.Name x pos) (tC (.str z)) := by
  obtain ⟨t, h⟩ := hm
  exact pe_glob hg h ⟨t, rfl⟩ hd
end
/-- the def named x keeps the promise sp, at level k -/
def Has (P : Program) (w : World) (K : PySem.W.Frag) (mg : Str → Option Value) (base : Heap) (k : Nat) (x : Str) (sp : Sp) : Prop :=
  ∃ (f : Addr) (fd : FuncData) (ps : List Str), mg x = some (.ref f) ∧ PySem.W.keepIn K (.ref f) = true ∧ Binds K fd ps [] ∧ FnOk P w K mg base (L2N.CX P w) k f fd ps sp
theorem pe_has {X : Cx} {W : WX} {k : Nat} {x : Str} {sp : Sp} {e : Expr} {es : List Expr} {t : TA} {p pos : Pos} (G : Has X.prog X.w X.K X.mg X.base k x sp) (hr : Room k X.A) (tk : L2N.Takes X W) (hg : Gl X x) (ha : PA X (e :: es) t)
    (hdb : (x == ("__debug__" : Str)) = false := by decide) (he : starEach (e :: es) X.env = (false, eval e X.env) :: starEach es X.env := by rfl) (hpl : (backTo pos (starEach es X.env)).any (·.1) = false := by rfl) :
    PE X (.Call (.Name x p) (e :: es) [] pos) (tCallS sp (WE W) t) := by
  obtain ⟨f, fd, ps, h1, h2, h3, h4⟩ := G
  exact pe_callS h4 hr hg h1 h2 h3 (fun σ => L2N.passAt tk σ) ha hdb he hpl
theorem takesN0 {X : Cx} : L2N.Takes X (fun _ _ _ _ => False) := fun _ _ x => by
  obtain ⟨_, _, _, _, _, _, _, _, _, _, _, _, _, _, _, _, z⟩ := x
  exact z.elim
theorem ps_try_onlyN {X : Cx} {x : Str} {c : Value} {body suite : List Stmt} {b₀ : Stmt} {np pos pos' : Pos} {tb : WX → TS} {ts : Addr → Value → Option Addr → TS} {Wout : WX} (hs : X.stack = X.env :: X.outer) (hf : X.env.frame = some X.env.locals) (hc : Names X x c) (tk : L2N.Takes X Wout)
    (hb : ∀ (W : WX) (pn : List (Addr × Obj)) (xe : Value → Shared → Prop), L2N.Takes (X.tr pn xe) W → PassesOwn (model X.prog X.w) X.A X.env xe → PSs (X.tr pn xe) body (tb W))
    (hsu : ∀ (a : Addr) (oe : Obj) (cls : Value) (d : Option Addr) (pn : List (Addr × Obj)), L2N.Zn cls d oe → (∃ vs, oe.data = .fields vs) → PSs (X.suite a ((a, oe) :: pn)) (b₀ :: suite) (ts a cls d)) :
    PS X (.Try body [.ExceptHandler (some (.Name x np)) none (b₀ :: suite) pos'] [] [] pos) (fun D σ H => tb (wOnly X.K c ts Wout D) D σ H) :=
  L2N.ps_try_many hs hf tk hb (.cons hc hsu .nil)
/-- no exception leaves a call -/
theorem passA {X : Cx} : Passes (L2N.CX X.prog X.w) X E0 := fun pins σ H s e s' I c => by
  obtain ⟨_, _, _, _, _, _, _, _, _, _, _, _, z⟩ := c
  exact z.elim
/-- the class named x, at C, is made by an __init__ that keeps sp (nothing is let out) -/
def HasC (P : Program) (w : World) (K : PySem.W.Frag) (mg : Str → Option Value) (base : Heap) (k : Nat) (x : Str) (C : Addr) (sp : Sp) : Prop :=
  ∃ (f : Addr) (fd : FuncData) (ps : List Str), mg x = some (.ref C) ∧ Mk K C f ∧ Binds K fd ps [] ∧ FnOk P w K mg base (L2N.CX P w) k f fd ps sp
theorem pe_mk' {X : Cx} {k : Nat} {x : Str} {C : Addr} {sp : Sp} {e : Expr} {es : List Expr} {t : TA} {p pos : Pos} (G : HasC X.prog X.w X.K X.mg X.base k x C sp) (hr : Room (k + 1) X.A) (hg : Gl X x) (ha : PA X (e :: es) t)
    (hdb : (x == ("__debug__" : Str)) = false := by decide) (he : starEach (e :: es) X.env = (false, eval e X.env) :: starEach es X.env := by rfl) (hpl : (backTo pos (starEach es X.env)).any (·.1) = false := by rfl) :
    PE X (.Call (.Name x p) (e :: es) [] pos) (tMake C sp [] E0 t) := by
  obtain ⟨f, fd, ps, h1, h2, h3, h4⟩ := G
  exact pe_make h2 h4 hr hg h1 h3 .nil passA ha hdb he hpl
/-- e.f in an except suite, e the caught error -/
def tXfE (K : PySem.W.Frag) (a : Addr) (cls : Value) (d : Option Addr) (f : Str) (te : TE) : TE := fun σ H Q => te σ H fun x H1 => ∃ C : Addr, cls = .ref C ∧ XfC K C ∧ PySem.W.findIn K (.ref C) f = some none ∧ x = .ref a ∧ ∃ (dd : Addr) (fs : List (Str × V)) (v : V), d = some dd ∧ H1 dd = some (.xd fs) ∧ fs.lookup f = some v ∧ Q v H1
theorem pe_xfE {X : Cx} {a : Addr} {oe : Obj} {cls : Value} {d : Option Addr} {pn : List (Addr × Obj)} {e : Expr} {te : TE} {pos : Pos} {n : Str} (hz : Zc cls d oe) (hf : ∃ vs, oe.data = .fields vs) (he : PE (X.suite a ((a, oe) :: pn)) e te) (hb : attributeBase e n X.env (eval e X.env) = eval e X.env := by rfl) :
    PE (X.suite a ((a, oe) :: pn)) (.Attribute e n pos) (tXfE X.K a cls d n te) := by
  refine ⟨fun pins s σ H Q I h => ?_⟩
  refine attr_of hb (thn (he.run pins s σ H _ I h) fun u s1 hh => ?_)
  obtain ⟨x, H1, I1, rx, C, ec, T, hno, ex, dd, fs, v, ed, ea, l, q⟩ := hh
  subst ex ec ed
  obtain rfl : u = Value.ref a := rx
  obtain ⟨ha, _⟩ := I1.pin (a, oe) (List.mem_append_left _ List.mem_cons_self)
  obtain ⟨vs, hd⟩ := hf
  have hx : ObjOk X.prog X.w H1 s1.heap dd (.xd fs) := I1.hok dd _ ea
  obtain ⟨mA, hns, hr⟩ := hx
  obtain ⟨od, ho, hl⟩ := lookIn_ns hns
  obtain ⟨u, hu, ru⟩ := RelO.some_of (v := v) (o := mA n) (by rw [← l]; exact hr n)
  have J : PySem.W.InstAt s1.heap a oe C (some od) := ⟨ha, hz.1, by unfold PySem.W.notCls; rw [hd] <;> rfl, by rw [hz.2]; exact ho⟩
  exact HandSPX.exc_get I1.kIn J T.ga T.gg T.exC (PySem.W.findObj_own T.hdC hno rfl (by rw [hl, hu])) (handed_of ru) ⟨v, H1, I1.tok _, ru, q⟩
/-- THE RULE for a def of the head's -/
theorem has_of {P : Program} {w : World} {K : PySem.W.Frag} {mg : Str → Option Value} {base : Heap} {x qual : Str} {params : Arguments} {body : List Stmt} {scope : Scope} {f : Addr} {N ps : List Str} {k : Nat} {sp : Sp}
    (F : ∃ fd, FunD K x qual params body scope [] [] f fd) (g : mg x = some (.ref f)) (S : FnScope N ps scope)
    (hb : ∀ (kV doc pm : Value) (an : Option Addr) (cdv ct : Value) (us : List Value), us.length = ps.length → bindArgs (PySem.W.fnOf x qual params body scope .none kV doc pm an cdv ct) ⟨us, []⟩ = pure (ps.zip us))
    (len : ∀ vs H Q E, sp vs H Q E → vs.length = ps.length)
    (hbody : ∀ (f : Addr) (cdv : Value) (A : Around) (outer : List Env) (s : Shared) (H : Hp) (vs : List V) (Q : VK) (E : XK), Room k (A.deeper (PyProof.Rows.envOfC qual scope s.heap.objs.size f cdv)) → sp vs H Q E →
      ∃ t, PSs (cxOf (L2N.CX P w) P w K mg base N qual scope f cdv A outer s H E) body t ∧ t { nx := fun _ H' => Q .non H', rt := Q } (start N vs) H) : Has P w K mg base (k + 1) x sp := by
  obtain ⟨fd, F⟩ := F
  exact ⟨f, fd, ps, g, F.kp, F.bindsN hb, F.ok S len fun cdv A outer s H vs Q E hr h => hbody f cdv A outer s H vs Q E hr h⟩
/-- .. of an __init__ -/
theorem hasC_of {P : Program} {w : World} {K : PySem.W.Frag} {mg : Str → Option Value} {base : Heap} {x qual : Str} {C : Addr} {params : Arguments} {body : List Stmt} {scope : Scope} {f : Addr} {N ps : List Str} {k : Nat} {sp : Sp}
    (F : ∃ fd, FunD K "__init__" qual params body scope [] [] f fd) (g : mg x = some (.ref C)) (M : Mk K C f) (S : FnScope N ps scope)
    (hb : ∀ (kV doc pm : Value) (an : Option Addr) (cdv ct : Value) (us : List Value), us.length = ps.length → bindArgs (PySem.W.fnOf "__init__" qual params body scope .none kV doc pm an cdv ct) ⟨us, []⟩ = pure (ps.zip us))
    (len : ∀ vs H Q E, sp vs H Q E → vs.length = ps.length)
    (hbody : ∀ (f : Addr) (cdv : Value) (A : Around) (outer : List Env) (s : Shared) (H : Hp) (vs : List V) (Q : VK) (E : XK), Room k (A.deeper (PyProof.Rows.envOfC qual scope s.heap.objs.size f cdv)) → sp vs H Q E →
      ∃ t, PSs (cxOf (L2N.CX P w) P w K mg base N qual scope f cdv A outer s H E) body t ∧ t { nx := fun _ H' => Q .non H', rt := Q } (start N vs) H) : HasC P w K mg base (k + 1) x C sp := by
  obtain ⟨fd, F⟩ := F
  exact ⟨f, fd, ps, g, M, F.bindsN hb, F.ok S len fun cdv A outer s H vs Q E hr h => hbody f cdv A outer s H vs Q E hr h⟩
theorem Has.mono {P : Program} {w : World} {K : PySem.W.Frag} {mg : Str → Option Value} {base : Heap} {j k : Nat} {x : Str} {sp : Sp} (G : Has P w K mg base j x sp) (h : j ≤ k) : Has P w K mg base k x sp := by
  obtain ⟨f, fd, ps, h1, h2, h3, h4⟩ := G
  exact ⟨f, fd, ps, h1, h2, h3, h4.mono h⟩
/-! ### heaps: D the frozen part of H, m what a def may change -/
structure Gr (m : Addr → Prop) (D H D' H' : Hp) : Prop where
  same : ∀ b o, ¬ m b → H b = some o → H' b = some o
  kept : ∀ b, H' b = none → H b = none
  dd : Same D D'
  sub : Same D' H'
  new : ∀ b o, D' b = some o → D b = some o ∨ H b = none
abbrev No : Addr → Prop := fun _ => False
section
variable {m m' : Addr → Prop} {D H D1 H1 D2 H2 : Hp} {p : Addr} {o : HO}
theorem Gr.refl (h : Same D H) : Gr m D H D H := ⟨fun _ _ _ e => e, fun _ e => e, Same.refl D, h, fun _ _ e => .inl e⟩
theorem Gr.trans (a : Gr m D H D1 H1) (b : Gr m D1 H1 D2 H2) : Gr m D H D2 H2 where
  same := fun x u hm e => b.same x u hm (a.same x u hm e)
  kept := fun x e => a.kept x (b.kept x e)
  dd := a.dd.trans b.dd
  sub := b.sub
  new := fun x u e => (b.new x u e).elim (a.new x u) fun z => .inr (a.kept x z)
theorem Gr.weak (a : Gr m D H D1 H1) (h : ∀ b, m b → m' b) : Gr m' D H D1 H1 := ⟨fun b o hm => a.same b o fun z => hm (h b z), a.kept, a.dd, a.sub, a.new⟩
theorem Gr.no (a : Gr No D H D1 H1) : Gr m D H D1 H1 := a.weak fun _ z => z.elim
theorem Gr.all (a : Gr No D H D1 H1) : Same H H1 := fun b o e => a.same b o (fun z => z) e
/-- a new object, not frozen -/
theorem Gr.lay (a : Gr m D H D1 H1) (h : H1 p = none) : Gr m D H D1 (upd H1 p o) where
  same := fun b u hm e => by
    have e1 := a.same b u hm e
    rw [upd_ne (ne_of_none e1 h)]
    exact e1
  kept := fun b e => a.kept b (by
    by_cases hb : b = p
    · rw [hb, upd_same] at e; cases e
    · rw [upd_ne hb] at e; exact e)
  dd := a.dd
  sub := fun b u e => by
    have e1 := a.sub b u e
    rw [upd_ne (ne_of_none e1 h)]
    exact e1
  new := a.new
/-- a new object, frozen at once -/
theorem Gr.ice (a : Gr m D H D1 H1) (h : H1 p = none) : Gr m D H (upd D1 p o) (upd H1 p o) where
  same := (a.lay h).same
  kept := (a.lay h).kept
  dd := fun b u e => by
    have e1 := a.sub b u (a.dd b u e)
    rw [upd_ne (ne_of_none e1 h)]
    exact a.dd b u e
  sub := fun b u e => by
    by_cases hb : b = p
    · subst hb; rw [upd_same] at e ⊢; exact e
    · rw [upd_ne hb] at e ⊢; exact a.sub b u e
  new := fun b u e => by
    by_cases hb : b = p
    · subst hb; exact .inr (a.kept b h)
    · rw [upd_ne hb] at e; exact a.new b u e
/-- a local object is frozen -/
theorem Gr.cold (a : Gr m D H D1 H1) (h : H1 p = some o) (h0 : H p = none) : Gr m D H (upd D1 p o) H1 where
  same := a.same
  kept := a.kept
  dd := fun b u e => by
    by_cases hb : b = p
    · subst hb
      have e1 := a.sub b u (a.dd b u e)
      rw [h] at e1
      rw [upd_same]
      exact e1
    · rw [upd_ne hb]; exact a.dd b u e
  sub := fun b u e => by
    by_cases hb : b = p
    · subst hb; rw [upd_same] at e; rw [h]; exact e
    · rw [upd_ne hb] at e; exact a.sub b u e
  new := fun b u e => by
    by_cases hb : b = p
    · subst hb; exact .inr h0
    · rw [upd_ne hb] at e; exact a.new b u e
/-- a local object is changed -/
theorem Gr.put (a : Gr m D H D1 H1) (h : D1 p = none) (h0 : H p = none ∨ m p) : Gr m D H D1 (upd H1 p o) where
  same := fun b u hm e => by
    have hb : b ≠ p := fun z => by
      subst z
      rcases h0 with h0 | h0
      · rw [h0] at e; cases e
      · exact hm h0
    rw [upd_ne hb]
    exact a.same b u hm e
  kept := fun b e => a.kept b (by
    by_cases hb : b = p
    · rw [hb, upd_same] at e; cases e
    · rw [upd_ne hb] at e; exact e)
  dd := a.dd
  sub := fun b u e => by
    rw [upd_ne (ne_of_none e h)]
    exact a.sub b u e
  new := a.new
/-- what is tracked and not frozen stays unfrozen -/
theorem Gr.stay (a : Gr m D H D1 H1) (h : D p = none) (h1 : H p = some o) : D1 p = none := by
  cases e : D1 p with
  | none => rfl
  | some u =>
    rcases a.new p u e with z | z
    · rw [h] at z; cases z
    · rw [h1] at z; cases z
theorem Gr.free (a : Gr m D H D1 H1) (h : H1 p = none) : D1 p = none := by
  cases e : D1 p with
  | none => rfl
  | some u =>
    have z := a.sub p u e
    rw [h] at z; cases z
theorem sub_free (a : Same D H) (h : H p = none) : D p = none := Same.free a h
end
/-! ### data -/
mutual
theorem Dp.mono {K : PySem.W.Frag} {H H' : Hp} (e : Same H H') : ∀ {d : PyData} {v : V}, Dp K H v d → Dp K H' v d
  | .none, _, h => by cases h; exact .non
  | .bool b, _, h => by cases h; exact .bl b
  | .int i, _, h => by cases h; exact .int i
  | .str x, _, h => by cases h; exact .str x
  | .list ds, _, h => by
    cases h with
    | lst hs ha => exact .lst (e.seq hs) (Dp.monoAll e ha)
  | .tuple ds, _, h => by
    cases h with
    | tup hs ha => exact .tup (same_seqT e hs) (Dp.monoAll e ha)
  | .dict _, _, h => by cases h
theorem Dp.monoAll {K : PySem.W.Frag} {H H' : Hp} (e : Same H H') : ∀ {ds : List PyData} {vs : List V}, DpAll K H vs ds → DpAll K H' vs ds
  | [], _, h => by cases h; exact .nil
  | _ :: _, _, h => by
    cases h with
    | cons h1 h2 => exact .cons (Dp.mono e h1) (Dp.monoAll e h2)
theorem same_seqT {K : PySem.W.Frag} {H H' : Hp} {a : Addr} {xs : List V} (e : Same H H') (h : SqT K H a xs) : SqT K H' a xs := by
  rcases h with (h | ⟨o, h⟩) | h
  · exact .inl (.inl (e _ _ h))
  · exact .inl (.inr ⟨o, e _ _ h⟩)
  · exact .inr h
end
end Y

namespace Y
open PySem PySem.Spec L2 He
/-! ### what is never reached -/
section
variable {X : Cx}
theorem ps_dead {s : Stmt} : PS X s (fun _ _ _ => False) := ⟨fun _ _ _ _ _ _ h => h.elim⟩
theorem pss_dead {s : List Stmt} : PSs X s (fun _ _ _ => False) := ⟨fun _ _ _ _ _ _ h => h.elim⟩
theorem pe_dead {e : Expr} : PE X e (fun _ _ _ => False) := ⟨fun _ _ _ _ _ _ h => h.elim⟩
end
/-! ### walks -/
theorem walk_enumT {K : PySem.W.Frag} {a : Addr} {xs : List V} : Walk (Ity K a) xs.length (fun H => SqT K H a xs) (YPair (fun i => some (.int (i : Nat))) (fun i => xs[i]?)) := by
  refine ⟨fun i _ hi q => ⟨xs, xs[i], q, by simp [hi]⟩, fun _ q => ⟨xs, q, rfl⟩, fun i H v H' _ q y => ?_⟩
  obtain ⟨T, x, h1, h2, h3, h4⟩ := y
  exact ⟨T, .int (i : Nat), x, h1, h2, h3, rfl, h4 xs q⟩
theorem walk_enumS {z : Str} : Walk (Itx z) z.cps.size (fun _ => True) (YPair (fun i => some (.int (i : Nat))) (fun i => z.cps[i]?.map fun c => V.str ⟨#[c]⟩)) := by
  refine ⟨fun i _ hi _ => hi, fun _ _ => rfl, fun i H v H' _ _ y => ?_⟩
  obtain ⟨T, c, h1, h2, h3, h4⟩ := y
  refine ⟨T, .int (i : Nat), _, h1, h2, h3, rfl, ?_⟩
  show z.cps[i]?.map _ = _
  rw [h4]
  rfl
/-! ### a comprehension, the heap by Gr -/
structure LcP (m : Addr → Prop) (D1 H1 : Hp) (p : Addr) (R : List V → Hp → Prop) (H : Hp) : Prop where
  ex : ∃ D2 acc, Gr m D1 H1 D2 H ∧ H p = some (.lst acc) ∧ D2 p = none ∧ R acc D2
theorem lc_put {m : Addr → Prop} {D1 H1 D2 H D4 H4 : Hp} {p : Addr} {R : List V → Hp → Prop} {acc : List V} {y : V} (hp : H1 p = none) (hm : ¬ m p) (g : Gr m D1 H1 D2 H) (ha : H p = some (.lst acc)) (hD : D2 p = none)
    (g4 : Gr m D2 H D4 H4) (hl : acc.length < sizeLine) (r : R (acc ++ [y]) D4) : ∃ acc, H4 p = some (.lst acc) ∧ acc.length < sizeLine ∧ LcP m D1 H1 p R (upd H4 p (.lst (acc ++ [y]))) := by
  have h4 := g4.same p _ hm ha
  have d4 := g4.stay hD ha
  exact ⟨acc, h4, hl, ⟨D4, acc ++ [y], (g.trans g4).put d4 (.inl hp), upd_same, d4, r⟩⟩
theorem lc_skip {m : Addr → Prop} {D1 H1 D2 H D4 H4 : Hp} {p : Addr} {R : List V → Hp → Prop} {acc : List V} (hm : ¬ m p) (g : Gr m D1 H1 D2 H) (ha : H p = some (.lst acc)) (hD : D2 p = none)
    (g4 : Gr m D2 H D4 H4) (r : R acc D4) : LcP m D1 H1 p R H4 :=
  ⟨D4, acc, g.trans g4, g4.same p _ hm ha, g4.stay hD ha, r⟩
/-- a for over J, ready to be walked; a comprehension -/
def Lp (g : TG) (tb : TS) (D : Ends) (J : It) (σ : L2.St) (H : Hp) : Prop := ∃ W : Nat → Nat → L2.St → Hp → Prop, (∃ m, W 0 m σ H) ∧ ∀ i m σ H, W i m σ H →
  (J.stop i H ∧ D.nx σ H) ∨ (J.go i H ∧ ∃ N : L2.St → Hp → Prop, (∀ σ' H', N σ' H' → ∃ m', m' < m ∧ W (i + 1) m' σ' H') ∧ ∀ x H', J.yld i H x H' → g x σ H' fun σ2 H2 => tb { D with nx := N, ct := N, bk := D.nx } σ2 H2)
def Lq (g : TG) (tt : TT) (te : TE) (vs : List Nat) (J : It) (σ : L2.St) (H1 : Hp) (p : Addr) (Qd : Hp → Prop) : Prop := ∃ W : Nat → Nat → Hp → Prop, (∃ m, W 0 m (upd H1 p (.lst []))) ∧ ∀ i m H, W i m H →
  (J.stop i H ∧ Qd H) ∨ (J.go i H ∧ ∃ Nx : Hp → Prop, (∀ H', Nx H' → ∃ m', m' < m ∧ W (i + 1) m' H') ∧ ∀ x H', J.yld i H x H' → g x (wipe σ vs) H' fun σ2 H2 => wipe σ2 vs = wipe σ vs ∧ tt σ2 H2 fun b H3 =>
    if b = true then te σ2 H3 fun y H4 => ∃ acc, H4 p = some (.lst acc) ∧ acc.length < sizeLine ∧ Nx (upd H4 p (.lst (acc ++ [y]))) else Nx H3)
section
variable {J : It} {n : Nat} {G : Hp → Prop} {Y : Nat → Hp → V → Hp → Prop}
theorem lp_it (w : Walk J n G Y) {g : TG} {tb : TS} {D : Ends} {σ : L2.St} {H : Hp} (Pv : Nat → L2.St → Hp → Prop) (h0 : Pv 0 σ H) (hG : ∀ i σ H, i ≤ n → Pv i σ H → G H)
    (hs : ∀ i x σ H H', i < n → Pv i σ H → Y i H x H' → g x σ H' fun σ2 H2 => tb { D with nx := Pv (i + 1), ct := Pv (i + 1), bk := D.nx } σ2 H2) (hd : ∀ σ H, Pv n σ H → D.nx σ H) : Lp g tb D J σ H := for_it w Pv h0 hG hs hd
theorem lq_gr (w : Walk J n G Y) {g : TG} {tt : TT} {te : TE} {vs : List Nat} {σ : L2.St} {H1 : Hp} {p : Addr} {Qd : Hp → Prop} {m : Addr → Prop} (D1 : Hp)
    (R : Nat → List V → Hp → Prop) (hp : H1 p = none) (h1 : Same D1 H1) (r0 : R 0 [] D1) (hG : ∀ D2 H, Gr m D1 H1 D2 H → G H)
    (hs : ∀ i x acc D2 H H', i < n → Gr m D1 H1 D2 H → H p = some (.lst acc) → D2 p = none → R i acc D2 → Y i H x H' → g x (wipe σ vs) H' fun σ2 H2 => wipe σ2 vs = wipe σ vs ∧ tt σ2 H2 fun b H3 =>
      if b = true then te σ2 H3 fun y H4 => ∃ acc, H4 p = some (.lst acc) ∧ acc.length < sizeLine ∧ LcP m D1 H1 p (R (i + 1)) (upd H4 p (.lst (acc ++ [y]))) else LcP m D1 H1 p (R (i + 1)) H3)
    (hd : ∀ acc D2 H, Gr m D1 H1 D2 H → H p = some (.lst acc) → D2 p = none → R n acc D2 → Qd H) : Lq g tt te vs J σ H1 p Qd := by
  refine lc_it w (fun i H => LcP m D1 H1 p (R i) H) ⟨D1, [], (Gr.refl h1).lay hp, upd_same, (Gr.refl (m := m) h1).free hp, r0⟩ (fun i H _ q => ?_) (fun i x H H' hi q y => ?_) (fun H q => ?_)
  · obtain ⟨D2, acc, g, ha, hD, r⟩ := q
    exact hG D2 H g
  · obtain ⟨D2, acc, g, ha, hD, r⟩ := q
    exact hs i x acc D2 H H' hi g ha hD r y
  · obtain ⟨D2, acc, g, ha, hD, r⟩ := q
    exact hd acc D2 H g ha hD r
/-- .. each item a value that is told beforehand, the heap stays -/
theorem lq_map (w : Walk J n G Y) {g : TG} {tt : TT} {te : TE} {vs : List Nat} {σ : L2.St} {H1 : Hp} {p : Addr} {Qd : Hp → Prop} (ys : List V) (hn : ys.length = n) (hz : n ≤ sizeLine)
    (hp : H1 p = none) (hG : ∀ acc, G (upd H1 p (.lst acc)))
    (hs : ∀ i x acc H' (N : Hp → Prop), i < n → Y i (upd H1 p (.lst acc)) x H' → ((y : V) → ys[i]? = some y → N (upd H1 p (.lst (acc ++ [y])))) → (acc.length < sizeLine) → g x (wipe σ vs) H' fun σ2 H2 => wipe σ2 vs = wipe σ vs ∧ tt σ2 H2 fun b H3 =>
      if b = true then te σ2 H3 fun y H4 => ∃ acc, H4 p = some (.lst acc) ∧ acc.length < sizeLine ∧ N (upd H4 p (.lst (acc ++ [y]))) else N H3)
    (hd : Qd (upd H1 p (.lst ys))) : Lq g tt te vs J σ H1 p Qd := by
  refine lc_it w (fun i H => H = upd H1 p (.lst (ys.take i))) (by rw [List.take_zero]) (fun i H _ q => by rw [q]; exact hG _) (fun i x H H' hi q y => ?_) (fun H q => ?_)
  · subst q
    refine hs i x _ H' _ hi y (fun v e => ?_) ?_
    · rw [List.take_add_one, e]
      rfl
    · rw [List.length_take, hn]
      omega
  · rw [q, ← hn, List.take_length]
    exact hd
theorem lq_put {H1 : Hp} {p : Addr} {acc : List V} {y : V} {N : Hp → Prop} (hl : acc.length < sizeLine) (k : N (upd H1 p (.lst (acc ++ [y])))) :
    ∃ acc', (upd H1 p (.lst acc)) p = some (.lst acc') ∧ acc'.length < sizeLine ∧ N (upd (upd H1 p (.lst acc)) p (.lst (acc' ++ [y]))) := ⟨acc, upd_same, hl, by rw [upd_upd]; exact k⟩
end
/-! ### more steps -/
section
variable {K : PySem.W.Frag} {σ : L2.St} {H : Hp} {Q : VK} {v x y : V} {ta tb tc te : TE} {t u : TT} {a b : Addr} {D : Ends} {n m : Int} {s z : Str} {R : It → Hp → Prop}
theorem s_for {wi : TI} {g : TG} {tb : TS} (k : wi σ H fun J H1 => Lp g tb D J σ H1) : tFor wi g tb D σ H := k
theorem s_lc {wi : TI} {g : TG} {tt : TT} {vs : List Nat} (k : wi σ H fun J H1 => ∀ p, H1 p = none → Lq g tt te vs J σ H1 p (fun H2 => Q (.ref p) H2)) : tLc wi g tt te vs σ H Q := k
theorem s_iStr (k : te σ H fun v H1 => ∃ x, v = .str x ∧ R (Its x) H1) : iStr te σ H R := k
theorem s_iList (k : te σ H fun x H1 => ∃ a, x = .ref a ∧ (∃ xs, SqL K H1 a xs) ∧ R (Itl K a) H1) : iList K te σ H R := k
theorem s_iTup (k : te σ H fun x H1 => ∃ a, x = .ref a ∧ (∃ xs, SqT K H1 a xs) ∧ R (Itt K a) H1) : iTup K te σ H R := k
theorem s_iR1 {ta : TA} (k : ta σ H fun vs H1 => ∃ j : Int, vs = [.int j] ∧ -(2 ^ 62) ≤ j ∧ j < 2 ^ 62 ∧ R (Itr 0 j.toNat) H1) : iRng1 ta σ H R := k
theorem s_iR2 {ta : TA} (k : ta σ H fun vs H1 => ∃ i j : Int, vs = [.int i, .int j] ∧ (-(2 ^ 62) ≤ i ∧ i < 2 ^ 62 ∧ -(2 ^ 62) ≤ j ∧ j < 2 ^ 62) ∧ R (Itr i (j - i).toNat) H1) : iRng2 ta σ H R := k
theorem s_iE {ta : TA} (k : ta σ H fun vs H1 => ∃ a xs, vs = [.ref a] ∧ SqL K H1 a xs ∧ R (Ite K a) H1) : iEnum K ta σ H R := k
theorem s_iET {ta : TA} (k : ta σ H fun vs H1 => ∃ a xs, vs = [.ref a] ∧ SqT K H1 a xs ∧ R (Ity K a) H1) : iEnumT K ta σ H R := k
theorem s_iES {ta : TA} (k : ta σ H fun vs H1 => ∃ x, vs = [.str x] ∧ R (Itx x) H1) : iEnumS ta σ H R := k
theorem s_make {C : Addr} {sp : Sp} {dvs : List V} {E : XK} {t : TA} (k : t σ H fun vs H1 => ∀ x dx, H1 x = none → H1 dx = none → dx ≠ x →
  sp (.ref x :: (vs ++ dvs)) (upd (upd H1 dx (.own x)) x (.ins C dx [])) (fun v H2 => v = .non ∧ Q (.ref x) H2) E) : tMake C sp dvs E t σ H Q := k
theorem s_fld {f : Str} (k : ta σ H fun x H1 => ∃ a C dx fs v, x = .ref a ∧ H1 a = some (.ins C dx fs) ∧ Cls K C ∧ NoAttr K C f ∧ fs.lookup f = some v ∧ Q v H1) : tFld K ta f σ H Q := k
theorem s_sFld {f : Str} {tv : TE} (k : tv σ H fun y H1 => ta σ H1 fun x H2 => ∃ a C dx fs, x = .ref a ∧ H2 a = some (.ins C dx fs) ∧ Cls K C ∧ NoAttr K C f ∧ fs.length < 1000 ∧ D.nx σ (upd H2 a (.ins C dx (putF f y fs)))) : sFld K ta tv f D σ H := k
theorem s_rz {C : Addr} {fs : List Str} {ta : TA} {Q : XK} (k : ta σ H fun vs H1 => vs.length = fs.length ∧ vs.length ≤ 1000 ∧ ∀ d, H1 d = none → Q (.ref C) (some d) (upd H1 d (.xd (fs.zip vs).reverse))) : tRz C fs ta σ H Q := k
theorem s_po {Q : Option Int → Hp → Prop} (k : te σ H fun x H1 => ∃ i, x = .int i ∧ Q (some i) H1) : tPart te σ H Q := k
theorem s_xb {Q : Bool → Prop} {c : Bool} (k : Q c) : ∃ k, V.bl c = .bl k ∧ Q k := ⟨c, rfl, k⟩
theorem s_xi {Q : Int → Prop} {c : Int} (k : Q c) : ∃ k, V.int c = .int k ∧ Q k := ⟨c, rfl, k⟩
theorem s_xs {Q : Str → Prop} {c : Str} (k : Q c) : ∃ k, V.str c = .str k ∧ Q k := ⟨c, rfl, k⟩
theorem s_xr {Q : Addr → Prop} {c : Addr} (k : Q c) : ∃ k, V.ref c = .ref k ∧ Q k := ⟨c, rfl, k⟩
theorem jtT {A B : Prop} {i : Decidable (true = true)} (k : A) : @ite Prop (true = true) i A B := by
  rw [if_pos rfl]
  exact k
theorem jtF {A B : Prop} {i : Decidable (false = true)} (k : B) : @ite Prop (false = true) i A B := by
  rw [if_neg Bool.false_ne_true]
  exact k
theorem jtD {p A B : Prop} {j : Decidable p} {i : Decidable (@decide p j = true)} (h1 : p → A) (h2 : ¬ p → B) : @ite Prop (@decide p j = true) i A B := ite2 (fun e => h1 (of_decide_eq_true e)) fun e => h2 fun z => e (decide_eq_true z)
theorem jtN {p A B : Prop} {j : Decidable p} {i : Decidable ((!@decide p j) = true)} (h1 : ¬ p → A) (h2 : p → B) : @ite Prop ((!@decide p j) = true) i A B := by
  by_cases h : p
  · rw [if_neg (by simp [h])]; exact h2 h
  · rw [if_pos (by simp [h])]; exact h1 h
theorem jtB {b : Bool} {A B : Prop} {i : Decidable (b = true)} (h1 : b = true → A) (h2 : b = false → B) : @ite Prop (b = true) i A B := by
  cases b
  · exact jtF (h2 rfl)
  · exact jtT (h1 rfl)
theorem jtNB {b : Bool} {A B : Prop} {i : Decidable ((!b) = true)} (h1 : b = false → A) (h2 : b = true → B) : @ite Prop ((!b) = true) i A B := by
  cases b
  · exact jtT (h1 rfl)
  · exact jtF (h2 rfl)
end
end Y

namespace Y
open PySem PySem.Spec L2 He
/-- an own error class with fields, by its __init__'s rows behind super().__init__('..') -/
theorem rz_of {P : Program} {w : World} {K : PySem.W.Frag} {mg : Str → Option Value} {base : Heap} {x : Str} {C f : Addr} {name qual : Str} {params : Arguments} {scope : Scope} {N ps fs : List Str} {ar : Arg} {rest : List Stmt} {m : Str} {j : Nat} {p0 p1 ap cp p2 rp : Pos}
    (I : ∃ fd, IniF P K mg C f name qual params (.Expr (.Call (.Attribute (.Call (.Name "super" p0) [] [] p1) "__init__" ap) [.Constant (.str m) j p2] [] cp) rp :: rest) scope fd) (g : mg x = some (.ref C)) (T : OexC K C) (S : IniScope N ps scope)
    (hp : (params.posonlyargs ++ params.args).head? = some ar) (hN : N[0]? = some ar.arg) (hps : ar.arg ∈ ps)
    (hev : ∀ env : Env, ∃ pl : Sem Bool, eval (.Call (.Attribute (.Call (.Name "super" p0) [] [] p1) "__init__" ap) [.Constant (.str m) j p2] [] cp) env = (do
        let ov ← attributeBase (.Call (.Name "super" p0) [] [] p1) "__init__" env (eval (.Call (.Name "super" p0) [] [] p1) env)
        standAt ap.atName
        let (f, first) ← holding [ov] (getMethod ov "__init__" pl)
        callWith cp f first (backTo cp (starEach [.Constant (.str m) j p2] env)) []))
    (hl : ps.length = fs.length + 1)
    (hb : ∀ (kV doc pm : Value) (an : Option Addr) (cdv ct : Value) (cc : Addr) (us : List Value), us.length = ps.length → bindArgs (iniFd name qual params (.Expr (.Call (.Attribute (.Call (.Name "super" p0) [] [] p1) "__init__" ap) [.Constant (.str m) j p2] [] cp) rp :: rest) scope .none kV doc pm an cdv ct cc) ⟨us, []⟩ = pure (ps.zip us))
    (hbody : ∀ (kV doc pm : Value) (an : Option Addr) (cdv ct : Value) (cc : Addr) (A : Around) (outer : List Env) (s : Shared) (H : Hp) (a : Addr) (ws : List V) (Q : VK) (E : XK), ws.length = fs.length → H a = some (exo a C none) →
      (∀ dx, H dx = none → dx ≠ a → Q .non (upd (upd H dx (exd dx (fs.zip ws).reverse)) a (exo a C (some dx)))) →
      ∃ t, PSs (cxI CX0 P w K mg base N (iniFd name qual params (.Expr (.Call (.Attribute (.Call (.Name "super" p0) [] [] p1) "__init__" ap) [.Constant (.str m) j p2] [] cp) rp :: rest) scope .none kV doc pm an cdv ct cc) f A outer s H E) rest t ∧ t { nx := fun _ H' => Q .non H', rt := Q } (start N (.ref a :: ws)) H) :
    Rz P w K mg base x C fs := by
  obtain ⟨fd, F⟩ := I
  have F1 : FnOk P w K mg base CX0 (0 + 1) f fd ps (spIni C fs) := by
    refine fn_ini (x := "") F T S hp hN hps hev (fun vs H Q E h => ?_) (fun vs H Q E h => ?_) (fun A outer s H vs Q E hr h => ?_)
    · obtain ⟨a, ws, rfl, hw, _⟩ := h
      rw [List.length_cons, hw, hl]
    · obtain ⟨a, ws, rfl, hw, ha, _⟩ := h
      exact ⟨a, ws, rfl, ha⟩
    · obtain ⟨a, ws, rfl, hw, ha, q⟩ := h
      obtain ⟨oc, od, kV, doc, pm, an, cda, ct, osl, cc, ocl, oco, vs, tf, rfl, _⟩ := F.ex
      exact hbody kV doc pm an _ ct cc A outer s H a ws Q E hw ha q
  refine ⟨g, T, f, fd, ps, F1, ?_, F.init, F.typ⟩
  obtain ⟨oc, od, kV, doc, pm, an, cda, ct, osl, cc, ocl, oco, vs, tf, rfl, _⟩ := F.ex
  exact .all fun us hu => hb kV doc pm an _ ct cc us hu
end Y

namespace Y
open PySem PySem.Spec L2 He
/-! ### data: lists of ints, of texts, of rows -/
abbrev dIs (ns : List Int) : List PyData := ns.map PyData.int
abbrev dSs (zs : List Str) : List PyData := zs.map PyData.str
abbrev dL (ns : List Int) : PyData := .list (dIs ns)
abbrev dT (ns : List Int) : PyData := .tuple (dIs ns)
abbrev dLL (rows : List (List Int)) : PyData := .list (rows.map dL)
abbrev dTT (rows : List (List Int)) : PyData := .tuple (rows.map dT)
section
variable {K : PySem.W.Frag} {D H D' H' D1 H1 D2 H2 : Hp} {a b p : Addr} {xs ys : List V} {ds es : List PyData} {x y v : V} {d : PyData} {ns : List Int} {zs : List Str} {rows : List (List Int)} {m : Addr → Prop}
theorem dpl_len : ∀ {xs : List V} {ds : List PyData}, DpAll K D xs ds → xs.length = ds.length
  | _, _, .nil => rfl
  | _, _, .cons _ h => congrArg (· + 1) (dpl_len h)
theorem dpl_get : ∀ {xs : List V} {ds : List PyData} {i : Nat} {x : V}, DpAll K D xs ds → xs[i]? = some x → ∃ d, ds[i]? = some d ∧ Dp K D x d
  | _, _, 0, _, .cons h _, e => ⟨_, rfl, by cases e; exact h⟩
  | _, _, i + 1, _, .cons _ h, e => dpl_get (i := i) h e
theorem dpl_getR : ∀ {xs : List V} {ds : List PyData} {i : Nat} {d : PyData}, DpAll K D xs ds → ds[i]? = some d → ∃ x, xs[i]? = some x ∧ Dp K D x d
  | _, _, 0, _, .cons h _, e => ⟨_, rfl, by cases e; exact h⟩
  | _, _, i + 1, _, .cons _ h, e => dpl_getR (i := i) h e
theorem dpl_snoc : ∀ {xs : List V} {ds : List PyData}, DpAll K D xs ds → Dp K D x d → DpAll K D (xs ++ [x]) (ds ++ [d])
  | _, _, .nil, h => .cons h .nil
  | _, _, .cons h1 h2, h => .cons h1 (dpl_snoc h2 h)
theorem dpl_ints : ∀ {ns : List Int} {xs : List V}, DpAll K D xs (dIs ns) → xs = ns.map V.int
  | [], _, .nil => rfl
  | n :: ns, _, .cons h1 h2 => by
    cases h1
    rw [dpl_ints h2]
    rfl
theorem dpl_of_ints : ∀ {ns : List Int}, DpAll K D (ns.map V.int) (dIs ns)
  | [] => .nil
  | n :: ns => .cons (.int n) dpl_of_ints
theorem dpl_strs : ∀ {zs : List Str} {xs : List V}, DpAll K D xs (dSs zs) → xs = zs.map V.str
  | [], _, .nil => rfl
  | n :: ns, _, .cons h1 h2 => by
    cases h1
    rw [dpl_strs h2]
    rfl
theorem dpl_of_strs : ∀ {zs : List Str}, DpAll K D (zs.map V.str) (dSs zs)
  | [] => .nil
  | n :: ns => .cons (.str n) dpl_of_strs
theorem dp_list (h : Dp K D v (.list ds)) : ∃ a xs, v = .ref a ∧ SqL K D a xs ∧ DpAll K D xs ds := by
  cases h with
  | lst hs ha => exact ⟨_, _, rfl, hs, ha⟩
theorem dp_tuple (h : Dp K D v (.tuple ds)) : ∃ a xs, v = .ref a ∧ SqT K D a xs ∧ DpAll K D xs ds := by
  cases h with
  | tup hs ha => exact ⟨_, _, rfl, hs, ha⟩
theorem dp_L (h : Dp K D v (dL ns)) : ∃ a, v = .ref a ∧ SqL K D a (ns.map V.int) := by
  obtain ⟨a, xs, e, hs, ha⟩ := dp_list h
  rw [dpl_ints ha] at hs
  exact ⟨a, e, hs⟩
theorem dp_T (h : Dp K D v (dT ns)) : ∃ a, v = .ref a ∧ SqT K D a (ns.map V.int) := by
  obtain ⟨a, xs, e, hs, ha⟩ := dp_tuple h
  rw [dpl_ints ha] at hs
  exact ⟨a, e, hs⟩
theorem dp_ofL (h : SqL K D a (ns.map V.int)) : Dp K D (.ref a) (dL ns) := .lst h dpl_of_ints
theorem dp_ofT (h : SqT K D a (ns.map V.int)) : Dp K D (.ref a) (dT ns) := .tup h dpl_of_ints
theorem dp_S (h : Dp K D v (.list (dSs zs))) : ∃ a, v = .ref a ∧ SqL K D a (zs.map V.str) := by
  obtain ⟨a, xs, e, hs, ha⟩ := dp_list h
  rw [dpl_strs ha] at hs
  exact ⟨a, e, hs⟩
theorem dp_ofS (h : SqL K D a (zs.map V.str)) : Dp K D (.ref a) (.list (dSs zs)) := .lst h dpl_of_strs
theorem sql (h : H a = some (.lst xs)) : SqL K H a xs := .inl (.inl h)
theorem sqt (h : H a = some (.tup xs)) : SqT K H a xs := .inl (.inl h)
theorem dp_up (g : Gr m D1 H1 D2 H2) (h : Dp K D1 v d) : Dp K D2 v d := Y.Dp.mono g.dd h
theorem dp_heap (g : Gr m D1 H1 D2 H2) (h : Dp K D2 v d) : Dp K H2 v d := Y.Dp.mono g.sub h
theorem sql_up (g : Gr m D1 H1 D2 H2) (h : SqL K D1 a xs) : SqL K H2 a xs := (g.dd.trans g.sub).seq h
theorem sqt_up (g : Gr m D1 H1 D2 H2) (h : SqT K D1 a xs) : SqT K H2 a xs := same_seqT (g.dd.trans g.sub) h
theorem Gr.same' (g : Gr m D1 H1 D2 H2) : Same D1 H2 := g.dd.trans g.sub
/-- what a call does to its own new object -/
theorem Gr.transN {n : Addr → Prop} (a : Gr m D H D1 H1) (b : Gr n D1 H1 D2 H2) (hn : ∀ x, n x → H x = none) : Gr m D H D2 H2 where
  same := fun x u hm e => b.same x u (fun z => by rw [hn x z] at e; cases e) (a.same x u hm e)
  kept := fun x e => a.kept x (b.kept x e)
  dd := a.dd.trans b.dd
  sub := b.sub
  new := fun x u e => (b.new x u e).elim (a.new x u) fun z => .inr (a.kept x z)
/-! ### steps -/
variable {σ : L2.St} {Q : VK} {i j : Nat} {T : Addr} {ta tb te : TE} {n : Int} {s z : Str}
theorem s_pair {Q : L2.St → Hp → Prop} (h : H T = some (.tup [x, y])) (k : Q ((σ.set i (some x)).set j (some y)) H) : gTup K 2 (gCons (gName i) (gCons (gName j) gNil)) (.ref T) σ H Q :=
  ⟨T, [x, y], rfl, .inl (.inl h), rfl, x, [y], rfl, y, [], rfl, rfl, k⟩
def rJoin (K : PySem.W.Frag) : V → List V → Hp → VK → Prop := fun x xs H Q => ∃ a p, ∃ ys : List Str, x = .str a ∧ xs = [.ref p] ∧ (SqL K H p (ys.map V.str) ∨ SqT K H p (ys.map V.str)) ∧
      (ys.map (·.length)).sum + ys.length * a.length ≤ 16777216 ∧ Q (.str (Txt.join a ys)) H
theorem s_join_l (h : SqL K H p (zs.map V.str)) (hl : (zs.map (·.length)).sum + zs.length * s.length ≤ 16777216) (k : Q (.str (Txt.join s zs)) H) : rJoin K (.str s) [.ref p] H Q := ⟨s, p, zs, rfl, rfl, .inl h, hl, k⟩
theorem pe_joinK {X : Cx} {o e : Expr} {to te : TE} {apos pos : Pos} (ho : PE X o to) (he : PE X e te) (hs : starEach [e] X.env = [(false, eval e X.env)] := by rfl) (hbase : attributeBase o "join" X.env (eval o X.env) = eval o X.env := by rfl) (hline : (apos.endLine == pos.line) = true := by rfl) :
    PE X (.Call (.Attribute o "join" apos) [e] [] pos) (tM1 (rJoin X.K) to te) := pe_join ho he hs hbase hline
theorem atI_0 {α : Type} {v : α} {r : List α} : atI (v :: r) 0 = some v := atI_nat (j := 0) rfl
theorem atI_i {α : Type} {xs : List α} {k : Int} {j : Nat} {v : α} (e : k = (j : Int)) (h : xs[j]? = some v) : atI xs k = some v := by rw [e]; exact atI_nat h
theorem put_end {fs : List (Str × V)} {f : Str} (h : fs.lookup f = none) : putF f v fs = fs ++ [(f, v)] := by
  induction fs with
  | nil => rfl
  | cons p r ih =>
    obtain ⟨g, u⟩ := p
    have hg : ¬ g = f := fun e => by
      subst e
      rw [List.lookup_cons_self] at h
      cases h
    have hr : r.lookup f = none := by
      rw [List.lookup_cons, show (f == g) = false from beq_false_of_ne (Ne.symm hg)] at h
      exact h
    show (if g = f then _ else _) = _
    rw [if_neg hg, ih hr]
    rfl
theorem cut_tail (xs : List V) : cutV xs (some 1) none = xs.drop 1 := by
  unfold cutV
  rw [show HT.sIx xs.length 0 (some 1) = min 1 xs.length from HT.sIx_nat xs.length 0 1, HT.sIx_none]
  cases xs with
  | nil => rfl
  | cons x r =>
    rw [show min 1 (x :: r).length = 1 by
      rw [List.length_cons]
      omega]
    show (List.take ((x :: r).length - 1) r) = r
    rw [List.length_cons, Nat.add_sub_cancel]
    exact List.take_length
theorem cut_take (xs : List V) (k : Nat) (h : k ≤ xs.length) : cutV xs none (some (k : Int)) = xs.take k := by
  unfold cutV
  rw [HT.sIx_nat xs.length xs.length k, HT.sIx_none, Nat.min_eq_left h]
  simp
theorem cut_init (xs : List V) : cutV xs none (some (-1)) = xs.take (xs.length - 1) := by
  unfold cutV
  have e : HT.sIx xs.length xs.length (some (-1)) = xs.length - 1 := by
    show (if (-1 : Int) < 0 then ((-1 : Int) + (xs.length : Int)).toNat else min (-1 : Int).toNat xs.length) = _
    rw [if_pos (by decide)]
    omega
  rw [e]
  simp [HT.sIx_none]
end
end Y

namespace Y
open PySem PySem.Spec L2 He
/-! ### the rules with the frozen part told -/
section
variable {X : Cx} (K : PySem.W.Frag)
theorem bK_len (h : X.K = K := by rfl) : CallR X (.builtin "len") (rLens K) := h ▸ b_len
theorem bK_list (h : X.K = K := by rfl) : CallR X (.type "list") (rLst1 K) := h ▸ b_list
theorem bK_tuple (h : X.K = K := by rfl) : CallR X (.type "tuple") (rTup1 K) := h ▸ b_tuple
theorem crK_any (hc : X.calm = true) (h : X.K = K := by rfl) : CallR X (.builtin "any") (rAny K) := h ▸ cr_any hc
theorem crK_all (hc : X.calm = true) (h : X.K = K := by rfl) : CallR X (.builtin "all") (rAll K) := h ▸ cr_all hc
theorem crK_sum (hc : X.calm = true) (h : X.K = K := by rfl) : CallR X (.builtin "sum") (rSum K) := h ▸ cr_sum hc
theorem oK_add (h : X.K = K := by rfl) : OpR X (binaryOp .Add) (rPlus K) := h ▸ o_add
theorem cK_eq (hu : X.A.units + 64 < cLine) (h : X.K = K := by rfl) : OpR X (compareOp .Eq) (rEqs K) := h ▸ c_eq hu
theorem cK_ne (hu : X.A.units + 64 < cLine) (h : X.K = K := by rfl) : OpR X (compareOp .NotEq) (rNes K) := h ▸ c_ne hu
theorem cK_in (h : X.K = K := by rfl) : OpR X (compareOp .In) (rIns K) := h ▸ c_in
theorem cK_ni (h : X.K = K := by rfl) : OpR X (compareOp .NotIn) (rNis K) := h ▸ c_ni
theorem ixK_seq (h : X.K = K := by rfl) : IxR X (rIx K) := h ▸ ix_seq
theorem slK_any (h : X.K = K := by rfl) : SlR X (rSlAny K) := h ▸ sl_any
theorem piK_list {tg l : Expr} {tl : TE} (hl : PE X l tl) (h : X.K = K := by rfl) : PI X tg l (iList K tl) := h ▸ pi_list hl
theorem piK_tup {tg l : Expr} {tl : TE} (hl : PE X l tl) (h : X.K = K := by rfl) : PI X tg l (iTup K tl) := h ▸ pi_tup hl
theorem piK_enum {e : Expr} {ta : TA} {p pos tpos : Pos} {elts : List Expr} {kk : Nat} (hg : Gl X "enumerate") (hm : X.mg "enumerate" = none) (ha : PA X [e] ta) (h : X.K = K := by rfl) (hs : starEach [e] X.env = [(false, eval e X.env)] := by rfl) :
    PI X (.Tuple elts kk tpos) (.Call (.Name "enumerate" p) [e] [] pos) (iEnum K ta) := h ▸ pi_enum hg hm ha hs
theorem piK_enumT {e : Expr} {ta : TA} {p pos tpos : Pos} {elts : List Expr} {kk : Nat} (hg : Gl X "enumerate") (hm : X.mg "enumerate" = none) (ha : PA X [e] ta) (h : X.K = K := by rfl) (hs : starEach [e] X.env = [(false, eval e X.env)] := by rfl) :
    PI X (.Tuple elts kk tpos) (.Call (.Name "enumerate" p) [e] [] pos) (iEnumT K ta) := h ▸ pi_enumT hg hm ha hs
theorem piK_zip {e e2 : Expr} {ta : TA} {p pos tpos : Pos} {elts : List Expr} {kk : Nat} (hg : Gl X "zip") (hm : X.mg "zip" = none) (ha : PA X [e, e2] ta) (h : X.K = K := by rfl)
    (hs : starEach [e, e2] X.env = (false, eval e X.env) :: starEach [e2] X.env := by rfl) (hpl : (backTo pos (starEach [e2] X.env)).any (·.1) = false := by rfl) :
    PI X (.Tuple elts kk tpos) (.Call (.Name "zip" p) [e, e2] [] pos) (iZip K ta) := h ▸ pi_zip hg hm ha hs hpl
theorem peK_fld {e : Expr} {f : Str} {ta : TE} {pos : Pos} (he : PE X e ta) (hb : attributeBase e f X.env (eval e X.env) = eval e X.env) (h : X.K = K := by rfl) : PE X (.Attribute e f pos) (tFld K ta f) := h ▸ pe_fld he hb
theorem psK_fld {o value : Expr} {f : Str} {ta tv : TE} {pos pos' : Pos} (ha : PE X o ta) (hv : PE X value tv) (hs : swapsWith value (some (.Attribute o f pos')) pos.line X.env = pure false) (h : X.K = K := by rfl) :
    PS X (.Assign [.Attribute o f pos'] value pos) (sFld K ta tv f) := h ▸ ps_fld ha hv hs
theorem pK_join {o e : Expr} {to te : TE} {apos pos : Pos} (ho : PE X o to) (he : PE X e te) (h : X.K = K := by rfl) (hs : starEach [e] X.env = [(false, eval e X.env)] := by rfl) (hbase : attributeBase o "join" X.env (eval o X.env) = eval o X.env := by rfl) (hline : (apos.endLine == pos.line) = true := by rfl) :
    PE X (.Call (.Attribute o "join" apos) [e] [] pos) (tM1 (rJoin K) to te) := h ▸ pe_joinK ho he hs hbase hline
theorem peK_bm {T : String} {name : Str} {id : String} {r : V → List V → Hp → VK → Prop} {o e : Expr} {es : List Expr} {to : TE} {t : TA} {apos cpos : Pos} (pa : PlainAttrs T) (slot : Slot T name id) (hty : typeOf (.builtin id) = pure (.type "method_descriptor")) (hm : MtR X id r) (ho : PE X o to) (ha : PA X (e :: es) t) (h : X.K = K := by rfl)
    (hbase : attributeBase o name X.env (eval o X.env) = eval o X.env := by rfl)
    (hfew : ((backTo cpos (starEach (e :: es) X.env)).all (fun x => !x.1) && (backToKw cpos (keywordEach [] X.env)).all (fun x => x.1.isSome)
      && decide ((e :: es).length + ([] : List Keyword).length + (if ([] : List Keyword).isEmpty then 0 else 1) < 30)) = true := by rfl)
    (hline : (apos.endLine == cpos.line) = true := by rfl) (hs : starEach (e :: es) X.env = (false, eval e X.env) :: starEach es X.env := by rfl) (hplain : (backTo cpos (starEach es X.env)).any (·.1) = false := by rfl) :
    PE X (.Call (.Attribute o name apos) (e :: es) [] cpos) (tBM K T r to t) := h ▸ pe_bm pa slot hty hm ho ha hbase hfew hline hs hplain
theorem peK_bm0 {T : String} {name : Str} {id : String} {r : V → List V → Hp → VK → Prop} {o : Expr} {to : TE} {apos cpos : Pos} (pa : PlainAttrs T) (slot : Slot T name id) (hty : typeOf (.builtin id) = pure (.type "method_descriptor")) (hm : MtR X id r) (ho : PE X o to) (h : X.K = K := by rfl)
    (hbase : attributeBase o name X.env (eval o X.env) = eval o X.env := by rfl) (hline : (apos.endLine == cpos.line) = true := by rfl) : PE X (.Call (.Attribute o name apos) [] [] cpos) (tBM0 K T r to) := h ▸ pe_bm0 pa slot hty hm ho hbase hline
theorem peK_bmS {T : String} {name : Str} {id : String} {r : L2.St → V → List V → Hp → VK → Prop} {o e : Expr} {es : List Expr} {to : TE} {t : TA} {apos cpos : Pos} (pa : PlainAttrs T) (slot : Slot T name id) (hty : typeOf (.builtin id) = pure (.type "method_descriptor")) (hm : MtS X id r) (ho : PE X o to) (ha : PA X (e :: es) t) (h : X.K = K := by rfl)
    (hbase : attributeBase o name X.env (eval o X.env) = eval o X.env := by rfl)
    (hfew : ((backTo cpos (starEach (e :: es) X.env)).all (fun x => !x.1) && (backToKw cpos (keywordEach [] X.env)).all (fun x => x.1.isSome)
      && decide ((e :: es).length + ([] : List Keyword).length + (if ([] : List Keyword).isEmpty then 0 else 1) < 30)) = true := by rfl)
    (hline : (apos.endLine == cpos.line) = true := by rfl) (hs : starEach (e :: es) X.env = (false, eval e X.env) :: starEach es X.env := by rfl) (hplain : (backTo cpos (starEach es X.env)).any (·.1) = false := by rfl) :
    PE X (.Call (.Attribute o name apos) (e :: es) [] cpos) (tBMS K T r to t) := h ▸ pe_bmS pa slot hty hm ho ha hbase hfew hline hs hplain
theorem s_BMS {T : String} {r : L2.St → V → List V → Hp → VK → Prop} {ta : TE} {t : TA} {σ : L2.St} {H : Hp} {Q : VK} (k : ta σ H fun x H1 => tyV K T x H1 ∧ t σ H1 fun xs H2 => r σ x xs H2 Q) : tBMS K T r ta t σ H Q := k
theorem s_index {W : WX} {σ : L2.St} {H : Hp} {Q : VK} {a b : Str} {k : Nat} (h : Txt.index0 a b = some k) (q : Q (.int (k : Nat)) H) : rIndexX W σ (.str a) [.str b] H Q :=
  ⟨a, b, rfl, rfl, fun j hj => by rw [h] at hj; cases hj; exact q, fun z => by rw [h] at z; cases z⟩
theorem pgK_tup {es : List Expr} {k : Nat} {t : TGs} {n : Nat} {pos : Pos} (hc : X.calm = true) (h' : PGs X es t) (h : X.K = K := by rfl)
    (hn : (assignEach es X.env).length = n := by rfl) (hst : (assignEach es X.env).findIdx? (·.1) = none := by rfl) : PG X (.Tuple es k pos) (gTup K n t) := h ▸ pg_tup hc h' hn hst
end
end Y

namespace Y
open PySem PySem.Spec L2 He
/-- what stands behind t, told beforehand -/
theorem s_cut {t u : TS} {D : Ends} {σ : L2.St} {H : Hp} (R : L2.St → Hp → Prop) (h : ∀ σ' H', R σ' H' → u D σ' H') (k : ∀ N : L2.St → Hp → Prop, (∀ σ' H', R σ' H' → N σ' H') → t { D with nx := N } σ H) : tSeq t u D σ H := k _ h
theorem s_gSub {to ti : TE} {r : TSet} {v : V} {σ : L2.St} {H : Hp} {Q : L2.St → Hp → Prop} (k : to σ H fun o H2 => ti σ H2 fun i H3 => r o i v H3 fun H4 => Q σ H4) : gSub to ti r v σ H Q := k
theorem walk_r0 {n : Nat} : Walk (Itr 0 n) n (fun _ => True) (fun i H x H' => H' = H ∧ x = .int (i : Nat)) := walk_range.mono (fun _ h => h) fun i H x H' _ _ y => ⟨y.1, by have z := y.2; dsimp only at z; rw [z, Int.zero_add]⟩
theorem pe_gC {X : Cx} {x : Str} {a : Addr} {pos : Pos} (hg : Gl X x) (hm : X.mg x = some (.ref a)) (hd : (x == ("__debug__" : Str)) = false := by decide) : PE X (.Name x pos) (tC (.ref a)) := pe_glob hg hm rfl hd
/-! ### a text cut at one sign -/
def cutAt (s : Nat) : List Nat → List Nat → List (List Nat)
  | acc, [] => [acc]
  | acc, c :: r => if c = s then acc :: cutAt s [] r else cutAt s (acc ++ [c]) r
theorem spl_one (s : Nat) : ∀ (acc l : List Nat), TL.spl [s] 0 acc l = cutAt s acc l
  | acc, [] => rfl
  | acc, c :: r => by
    by_cases h : c = s
    · rw [TL.spl_hit (by rw [h]; exact TL.pre_self [s] r)]
      show _ = if c = s then _ else _
      rw [if_pos h]
      exact congrArg _ (spl_one s [] r)
    · rw [TL.spl_miss (TL.pre_of_head _ _ h)]
      show _ = if c = s then _ else _
      rw [if_neg h]
      exact spl_one s _ r
/-- the sign of code s as a text -/
theorem split_one {x y : Str} {s : Nat} (hy : TL.tl y = [s]) (hk : s < 256) : (Txt.split x y).map TL.tl = cutAt s [] (TL.tl x) := by
  rw [TL.split_spl x y (by rw [hy]; simp) (TL.kind_ok (by
    rw [← Array.all_toList, show y.cps.toList = [s] from hy]
    simpa using hk)), hy]
  exact spl_one s [] _
theorem cutAt_ne (s : Nat) : ∀ (acc l : List Nat), cutAt s acc l ≠ []
  | acc, [] => by simp [cutAt]
  | acc, c :: r => by
    unfold cutAt
    split
    · simp
    · exact cutAt_ne s _ r
theorem cutAt_len (s : Nat) : ∀ (acc l : List Nat), (cutAt s acc l).length ≤ l.length + 1
  | acc, [] => by simp [cutAt]
  | acc, c :: r => by
    unfold cutAt
    split
    · have := cutAt_len s [] r
      simp only [List.length_cons]
      omega
    · have := cutAt_len s (acc ++ [c]) r
      simp only [List.length_cons]
      omega
theorem cutAt_mem (s : Nat) : ∀ (acc l : List Nat), ∀ p ∈ cutAt s acc l, p.length ≤ acc.length + l.length
  | acc, [], p, h => by
    rw [cutAt, List.mem_singleton] at h
    rw [h]
    simp
  | acc, c :: r, p, h => by
    unfold cutAt at h
    split at h
    · rcases List.mem_cons.mp h with h | h
      · rw [h]
        simp
      · have := cutAt_mem s [] r p h
        simp at this ⊢
        omega
    · have := cutAt_mem s (acc ++ [c]) r p h
      simp at this ⊢
      omega
/-- the first part has no separator, nor has any -/
theorem cutAt_free (s : Nat) : ∀ (acc l : List Nat), s ∉ acc → ∀ p ∈ cutAt s acc l, s ∉ p
  | acc, [], ha, p, h => by
    rw [cutAt, List.mem_singleton] at h
    rw [h]
    exact ha
  | acc, c :: r, ha, p, h => by
    unfold cutAt at h
    split at h
    · rcases List.mem_cons.mp h with h | h
      · rw [h]
        exact ha
      · exact cutAt_free s [] r (by simp) p h
    · rename_i hc
      refine cutAt_free s (acc ++ [c]) r ?_ p h
      intro z
      rcases List.mem_append.mp z with z | z
      · exact ha z
      · exact hc (List.mem_singleton.mp z).symm
theorem cutAt_none {s : Nat} : ∀ {acc l : List Nat}, s ∉ l → cutAt s acc l = [acc ++ l]
  | acc, [], _ => by simp [cutAt]
  | acc, c :: r, h => by
    have hc : ¬ c = s := fun e => h (by rw [e]; exact List.mem_cons_self ..)
    rw [cutAt, if_neg hc, cutAt_none (fun z => h (List.mem_cons_of_mem _ z)), List.append_assoc]
    rfl
theorem cutAt_app {s : Nat} : ∀ {acc l r : List Nat}, s ∉ l → cutAt s acc (l ++ s :: r) = (acc ++ l) :: cutAt s [] r
  | acc, [], r, _ => by simp [cutAt]
  | acc, c :: l, r, h => by
    have hc : ¬ c = s := fun e => h (by rw [e]; exact List.mem_cons_self ..)
    show cutAt s acc (c :: (l ++ s :: r)) = _
    rw [cutAt, if_neg hc, cutAt_app (fun z => h (List.mem_cons_of_mem _ z)), List.append_assoc]
    rfl
/-- the text again -/
theorem cutAt_join {s : Nat} : ∀ {acc l : List Nat}, TL.joinL [s] (cutAt s acc l) = acc ++ l
  | acc, [] => by simp [cutAt, TL.joinL]
  | acc, c :: r => by
    unfold cutAt
    split
    · rename_i hc
      have ih := cutAt_join (s := s) (acc := []) (l := r)
      cases h : cutAt s [] r with
      | nil => exact absurd h (cutAt_ne s [] r)
      | cons p q =>
        rw [h] at ih
        show acc ++ ([s] ++ TL.joinL [s] (p :: q)) = acc ++ c :: r
        rw [ih, hc]
        rfl
    · rw [cutAt_join, List.append_assoc]
      rfl
section
variable {x y : Str} {s : Nat}
theorem split_ne (hy : TL.tl y = [s]) (hk : s < 256) : Txt.split x y ≠ [] := fun e => by
  have h := split_one (x := x) hy hk
  rw [e] at h
  exact cutAt_ne s [] _ h.symm
theorem split_count (hy : TL.tl y = [s]) (hk : s < 256) : (Txt.split x y).length ≤ x.length + 1 := by
  have h := congrArg List.length (split_one (x := x) hy hk)
  rw [List.length_map] at h
  rw [h, TL.len_tl]
  exact cutAt_len s [] _
theorem split_part (hy : TL.tl y = [s]) (hk : s < 256) : ∀ p ∈ Txt.split x y, p.length ≤ x.length := fun p hp => by
  have h : TL.tl p ∈ (Txt.split x y).map TL.tl := List.mem_map_of_mem hp
  rw [split_one hy hk] at h
  have := cutAt_mem s [] _ _ h
  rw [TL.len_tl, TL.len_tl x]
  simpa using this
end
end Y

namespace Y
open PySem PySem.Spec L2 He
theorem jtNT {A B : Prop} {i : Decidable ((!true) = true)} (k : B) : @ite Prop ((!true) = true) i A B := by
  rw [if_neg (show ¬ (!true) = true from Bool.false_ne_true)]
  exact k
theorem jtNF {A B : Prop} {i : Decidable ((!false) = true)} (k : A) : @ite Prop ((!false) = true) i A B := by
  rw [if_pos (show (!false) = true from rfl)]
  exact k
/-- what any call may let out -/
def CXany : CXT := fun outer H s E u s' => ∃ (P : Program) (w : World), L2N.CX P w outer H s E u s'
theorem fn_any {P : Program} {w : World} {K : PySem.W.Frag} {mg : Str → Option Value} {base : Heap} {k : Nat} {f : Addr} {fd : FuncData} {ps : List Str} {sp : Sp} (F : FnOk P w K mg base (L2N.CX P w) k f fd ps sp) : FnOk P w K mg base CXany k f fd ps sp :=
  ⟨F.len, fun A outer s H args us vs Q E hr he hb hv hs => codeAny_mono (F.run A outer s H args us vs Q E hr he hb hv hs) fun r s' h => by
    cases r with
    | ok fl => cases fl <;> exact h
    | error e => exact ⟨P, w, h⟩⟩
theorem any_none (H : Hp) (s : Shared) (e : Value) (s' : Shared) : CXany [] H s (fun _ _ _ => False) e s' → False := by
  rintro ⟨P, w, a, B, H', cls, d, _, _, _, _, _, _, _, z⟩
  exact z
end Y

namespace Y
open PySem PySem.Spec L2 He
/-! ### methods -/
/-- the method m of the class at C keeps sp, at level k -/
def HasM (P : Program) (w : World) (K : PySem.W.Frag) (mg : Str → Option Value) (base : Heap) (k : Nat) (C : Addr) (m : Str) (sp : Sp) : Prop :=
  ∃ (f : Addr) (fd : FuncData) (ps : List Str), Meth K C m f ∧ PySem.W.fnIn K f = true ∧ Cls K C ∧ Binds K fd ps [] ∧ FnOk P w K mg base (L2N.CX P w) k f fd ps sp
theorem HasM.mono {P : Program} {w : World} {K : PySem.W.Frag} {mg : Str → Option Value} {base : Heap} {j k : Nat} {C : Addr} {m : Str} {sp : Sp} (G : HasM P w K mg base j C m sp) (h : j ≤ k) : HasM P w K mg base k C m sp := by
  obtain ⟨f, fd, ps, h1, h2, h3, h4, h5⟩ := G
  exact ⟨f, fd, ps, h1, h2, h3, h4, h5.mono h⟩
theorem hasM_of {P : Program} {w : World} {K : PySem.W.Frag} {mg : Str → Option Value} {base : Heap} {x m qual : Str} {C : Addr} {params : Arguments} {body : List Stmt} {scope : Scope} {f : Addr} {N ps : List Str} {k : Nat} {sp : Sp}
    (F : ∃ fd, FunD K x qual params body scope [] [] f fd) (M : Meth K C m f) (c : Cls K C) (S : FnScope N ps scope)
    (hb : ∀ (kV doc pm : Value) (an : Option Addr) (cdv ct : Value) (us : List Value), us.length = ps.length → bindArgs (PySem.W.fnOf x qual params body scope .none kV doc pm an cdv ct) ⟨us, []⟩ = pure (ps.zip us))
    (len : ∀ vs H Q E, sp vs H Q E → vs.length = ps.length)
    (hbody : ∀ (f : Addr) (cdv : Value) (A : Around) (outer : List Env) (s : Shared) (H : Hp) (vs : List V) (Q : VK) (E : XK), Room k (A.deeper (PyProof.Rows.envOfC qual scope s.heap.objs.size f cdv)) → sp vs H Q E →
      ∃ t, PSs (cxOf (L2N.CX P w) P w K mg base N qual scope f cdv A outer s H E) body t ∧ t { nx := fun _ H' => Q .non H', rt := Q } (start N vs) H) : HasM P w K mg base (k + 1) C m sp := by
  obtain ⟨fd, F⟩ := F
  have hfn : PySem.W.fnIn K f = true := by
    obtain ⟨oc, od, dV, kV, doc, pm, an, cdv, ct, osl, rfl, lk, _⟩ := F.ex
    unfold PySem.W.fnIn
    rw [lk]
  exact ⟨f, fd, ps, M, hfn, c, F.bindsN hb, F.ok S len fun cdv A outer s H vs Q E hr h => hbody f cdv A outer s H vs Q E hr h⟩
/-- o.m(e, ..), the error told by the slots -/
def tMethS (C : Addr) (m : Str) (sp : Sp) (E : L2.St → XK) (ta : TE) (t : TA) : TE := fun σ H Q => ta σ H fun x H1 => ∃ a dx fs, x = .ref a ∧ H1 a = some (.ins C dx fs) ∧ fs.lookup m = none ∧ t σ H1 fun vs H2 => sp (x :: vs) H2 Q (E σ)
/-- v(e, ..), v an instance with __call__ -/
def tCallO (C : Addr) (sp : Sp) (E : L2.St → XK) (ta : TE) (t : TA) : TE := fun σ H Q => ta σ H fun x H1 => ∃ a dx fs, x = .ref a ∧ H1 a = some (.ins C dx fs) ∧ t σ H1 fun vs H2 => H2 a = some (.ins C dx fs) ∧ sp (x :: vs) H2 Q (E σ)
section
variable {X : Cx} {W : WX} {k : Nat} {C : Addr} {m x : Str} {sp : Sp} {o e : Expr} {es : List Expr} {ta : TE} {t : TA} {apos p pos : Pos}
theorem pe_meth' {pl : Sem Bool} (G : HasM X.prog X.w X.K X.mg X.base k C m sp) (hr : Room k X.A) (tk : L2N.Takes X W) (he : PE X o ta) (ha : PA X (e :: es) t)
    (hst : starEach (e :: es) X.env = (false, eval e X.env) :: starEach es X.env := by rfl) (hpl : (backTo pos (starEach es X.env)).any (·.1) = false := by rfl)
    (ht : eval (.Call (.Attribute o m apos) (e :: es) [] pos) X.env = (do
      let ov ← eval o X.env
      standAt apos.atName
      let (f, first) ← holding [ov] (getMethod ov m pl)
      callWith pos f first (backTo pos (starEach (e :: es) X.env)) (backToKw pos (keywordEach [] X.env))) := by rfl) :
    PE X (.Call (.Attribute o m apos) (e :: es) [] pos) (tMethS C m sp (WE W) ta t) := by
  obtain ⟨f, fd, ps, hm, _, c, hb, F⟩ := G
  refine ⟨fun pins s σ H Q I h => ?_⟩
  refine PySem.W.methodCall_KW (pl := pl) (thn (he.run pins s σ H _ I h) fun u s1 z => ?_) ht
  obtain ⟨x, H1, I1, rx, a, dx, fs, ex, ea, l, q⟩ := z
  subst ex
  obtain rfl : u = Value.ref a := rx
  refine getmeth_ok I1 ea c hm l ?_
  refine PySem.W.callWith_K (first := [.ref a]) (h₀ := X.base) I.ok.mod.kin hm.kp (thn (ha.run pos pins s1 σ H1 _ I1 q) fun us s2 z2 => ?_) hst hpl
  obtain ⟨vs, H2, I2, r, q2⟩ := z2
  exact ⟨I2.kIn, run_fnS (us := .ref a :: us) (vs := .ref a :: vs) F hr hb (L2N.passAt tk σ) I2 (.cons rfl r) q2⟩
/-- a call of an instance, its arguments from the left; what its dict holds may have changed by then -/
theorem callWith_O {M : Model} {A : Around} {E : Value → Shared → Prop} {s : Shared} {ip : Pos} {xa : Addr} {ob : Obj} {Q : Value → Shared → Prop} {env : Env} (plain : ob.data = .plain)
    (hh : wpAny M A (spliced (backTo ip (starEach (e :: es) env))) (fun vs s1 => (∃ C od, PySem.W.InstAt s1.heap xa ob C od) ∧ wpAny M A (call (.ref xa) vs) Q E s1) E s)
    (h1 : starEach (e :: es) env = (false, eval e env) :: starEach es env) (h2 : (backTo ip (starEach es env)).any (·.1) = false) :
    wpAny M A (callWith ip (.ref xa) [] (backTo ip (starEach (e :: es) env)) []) Q E s := by
  rw [h1] at hh ⊢
  have np : ((backTo ip ((false, eval e env) :: starEach es env)).any (·.1) || ([] : List (Option Str × Sem Value)).any (·.1.isNone)) = false := by
    show ((false || (backTo ip (starEach es env)).any (·.1)) || false) = false
    rw [h2] <;> rfl
  unfold callWith
  refine wpAny_bind (wpAny_holding (wpAny_mono (Calls.evalArgs_plain (Q := fun av s1 => (∃ C od, PySem.W.InstAt s1.heap xa ob C od) ∧ wpAny M A (call (.ref xa) av.pos av.kw) Q E s1) hh) (fun av s1 hv => ?_) fun _ _ z => z))
  obtain ⟨⟨C1, od1, hi⟩, hc⟩ := hv
  refine wpAny_bind (wpAny_standAt ?_)
  have lk := PySem.W.kco_keeper (M := M) hi plain
  simp only [np]
  refine wpAny_bind (lk.here ?_)
  refine wpAny_bind (wpAny_mono (wpAny_operateT hc) (fun r s2 hr => ?_) fun _ _ z => z)
  exact wpAny_bind (wpAny_holding (wpAny_point (wpAny_pure hr)))
theorem pe_callO (G : HasM X.prog X.w X.K X.mg X.base k C "__call__" sp) (hr : Room k X.A) (tk : L2N.Takes X W) (hx : PE X (.Name x p) ta) (ha : PA X (e :: es) t)
    (he : starEach (e :: es) X.env = (false, eval e X.env) :: starEach es X.env := by rfl) (hpl : (backTo pos (starEach es X.env)).any (·.1) = false := by rfl) :
    PE X (.Call (.Name x p) (e :: es) [] pos) (tCallO C sp (WE W) ta t) := by
  obtain ⟨f, fd, ps, hm, hfn, c, hb, F⟩ := G
  refine ⟨fun pins s σ H Q I h => ?_⟩
  refine wpAny_Call_Name_kw (thn (hx.run pins s σ H _ I h) fun u s1 z => ?_)
  obtain ⟨xv, H1, I1, rx, a, dx, fs, ex, ea, q⟩ := z
  subst ex
  obtain rfl : u = Value.ref a := rx
  obtain ⟨mA, O, _⟩ := ins_get I1.hok ea
  obtain ⟨od, IA, _⟩ := O.look
  refine callWith_O (ob := PySem.W.instObj C dx) rfl (thn (ha.run pos pins s1 σ H1 _ I1 q) fun us s2 z2 => ?_) he hpl
  obtain ⟨vs, H2, I2, r, ea2, q2⟩ := z2
  obtain ⟨mA2, O2, _⟩ := ins_get I2.hok ea2
  obtain ⟨od2, IA2, _⟩ := O2.look
  refine ⟨⟨C, _, IA2⟩, ?_⟩
  have hl : (Value.ref a :: us).length = ps.length := by
    rw [show (Value.ref a :: us).length = (V.ref a :: vs).length by rw [List.length_cons, List.length_cons, r.length]]
    exact F.len _ _ _ _ q2
  have b := hb s2 (Value.ref a :: us) I2.kIn (by rw [List.append_nil]; exact hl)
  rw [List.append_nil] at b
  show wpAny (model X.prog X.w) X.A (call (.ref a) us) (EP X pins σ Q) X.xe s2
  refine wpAny_call (PySem.W.kco_code (a := ⟨us, []⟩) I2.kIn IA2 rfl hm.at_ hm.fn hfn (codeAny_mono (F.run X.A X.stack s2 H2 ⟨.ref a :: us, []⟩ (.ref a :: us) (.ref a :: vs) Q (WE W σ) hr I2.env0 b (.cons rfl r) q2) fun rr s' hq => ?_))
  cases rr with
  | error e => exact L2N.passAt tk σ pins H2 s2 e s' I2 hq
  | ok fl =>
    cases fl with
    | ret u => exact I2.after hq
    | next => exact False.elim hq
    | brk => exact False.elim hq
    | cont => exact False.elim hq
end
end Y

namespace Y
open PySem PySem.Spec L2 He
/-! ### a def called within an except suite, the caught error handed to it -/
structure FnQ (P : Program) (w : World) (K : PySem.W.Frag) (mg : Str → Option Value) (base : Heap) (p : Addr × Obj) (k : Nat) (f : Addr) (fd : FuncData) (ps : List Str) (sp : Sp) : Prop where
  len : ∀ vs H Q E, sp vs H Q E → vs.length = ps.length
  run : ∀ (A : Around) (outer : List Env) (s : Shared) (H : Hp) (args : Args) (us : List Value) (vs : List V) (Q : VK) (E : XK), L2H.RoomH k A → L2H.Hot1 A p → L2H.PinOk outer H s p → Env0 P w K mg base A outer s H → BindsTo s fd args (ps.zip us) → Vals vs us → sp vs H Q E →
    codeAny (model P w) A (.call (.ref f) args) (CR (L2N.CX P w) outer P w H s Q E) s
/-- the def named x, so called -/
def HasQ (P : Program) (w : World) (K : PySem.W.Frag) (mg : Str → Option Value) (base : Heap) (p : Addr × Obj) (k : Nat) (x : Str) (sp : Sp) : Prop :=
  ∃ (f : Addr) (fd : FuncData) (ps : List Str), mg x = some (.ref f) ∧ PySem.W.keepIn K (.ref f) = true ∧ Binds K fd ps [] ∧ FnQ P w K mg base p k f fd ps sp
theorem hasQ_of {P : Program} {w : World} {K : PySem.W.Frag} {mg : Str → Option Value} {base : Heap} {p : Addr × Obj} {x qual : Str} {params : Arguments} {body : List Stmt} {scope : Scope} {f : Addr} {N ps : List Str} {k : Nat} {sp : Sp}
    (F : ∃ fd, FunD K x qual params body scope [] [] f fd) (g : mg x = some (.ref f)) (S : FnScope N ps scope)
    (hb : ∀ (kV doc pm : Value) (an : Option Addr) (cdv ct : Value) (us : List Value), us.length = ps.length → bindArgs (PySem.W.fnOf x qual params body scope .none kV doc pm an cdv ct) ⟨us, []⟩ = pure (ps.zip us))
    (len : ∀ vs H Q E, sp vs H Q E → vs.length = ps.length)
    (hbody : ∀ (f : Addr) (cdv : Value) (A : Around) (outer : List Env) (s : Shared) (H : Hp) (vs : List V) (Q : VK) (E : XK), L2H.Hot1 A p → L2H.RoomH k (A.deeper (PyProof.Rows.envOfC qual scope s.heap.objs.size f cdv)) → sp vs H Q E →
      ∃ t, PSs (L2H.cxH (L2N.CX P w) P w K mg base N qual scope f cdv A outer s H E p) body t ∧ t { nx := fun _ H' => Q .non H', rt := Q } (start N vs) H) : HasQ P w K mg base p (k + 1) x sp := by
  obtain ⟨fd, F⟩ := F
  refine ⟨f, fd, ps, g, F.kp, F.bindsN hb, len, fun A outer s H args us vs Q E hr hot hpin e0 hbd r hsp => ?_⟩
  obtain ⟨oc, od, dV, kV, doc, pm, an, cdv, ct, osl, rfl, lk, hcd, _, _⟩ := F.ex
  have hl := len _ _ _ _ hsp
  have KX : K.In s.heap := e0.mod.kin.keeps fun b o e => (e0.bs b o e).1
  have lim : s.heap.NoLimit := e0.mod.nolimit.keeps fun b o e => (e0.bs b o e).1
  have hkind : ∀ y ∈ ps.zip us, scope.names.lookup y.1 = some .local ∨ (scope.names.lookup y.1 = some .cell ∧ ((cellsFrom (s.heap.objs.size + 1) scope.names []).lookup y.1).isSome = true) := by
    intro y hy
    obtain ⟨n, v⟩ := y
    cases S.par n (List.of_mem_zip hy).1 with
    | inl q => exact .inl q
    | inr q => exact .inr ⟨q, PySem.W.cellsFrom_some _ _ _ (.inl q)⟩
  refine codeAny_call_function hr.depth (KX _ _ lk) rfl S.co S.gen rfl (PySem.W.codeRec_of KX hcd) (hbd _ _ _ _ ?_)
  refine wpAny_newFunctionEnv_cells S.kind hkind fun env he s1 x => ?_
  subst he
  refine ⟨lim.keeps x.toInCall.keep, codeAny_func ?_⟩
  obtain ⟨t, ht, hq⟩ := hbody f cdv A outer s H vs Q E hot (hr.deeper _) hsp
  have I : Inv (L2H.cxH (L2N.CX P w) P w K mg base N qual scope f cdv A outer s H E p) [] (L2.start N vs) H s1 := L2H.inv_startH S hpin e0 hl r x
  refine wpAny_mono (ht.run [] s1 (L2.start N vs) H _ I hq) (fun fl s' hs => ?_) fun e s' hs => hs
  cases fl with
  | ret u =>
    obtain ⟨v, σ', H', J, rv, q⟩ := hs
    exact ⟨v, H', J.os, J.bare, J.base, J.hok, rv, q⟩
  | next =>
    obtain ⟨σ', H', J, q⟩ := hs
    exact ⟨V.non, H', J.os, J.bare, J.base, J.hok, rfl, q⟩
  | brk =>
    obtain ⟨_, _, _, q⟩ := hs
    exact False.elim q
  | cont =>
    obtain ⟨_, _, _, q⟩ := hs
    exact False.elim q
section
variable {X : Cx} {W : WX} {k : Nat} {x : Str} {sp : Sp} {e : Expr} {es : List Expr} {t : TA} {q pos : Pos} {p : Addr × Obj}
theorem pe_hasQ (G : HasQ X.prog X.w X.K X.mg X.base p k x sp) (hot : L2H.Hot1 X.A p) (hp : p ∈ X.pn) (hr : L2H.RoomH k X.A) (tk : L2N.Takes X W) (hg : Gl X x) (ha : PA X (e :: es) t)
    (hdb : (x == ("__debug__" : Str)) = false := by decide) (he : starEach (e :: es) X.env = (false, eval e X.env) :: starEach es X.env := by rfl) (hpl : (backTo pos (starEach es X.env)).any (·.1) = false := by rfl) :
    PE X (.Call (.Name x q) (e :: es) [] pos) (tCallS sp (WE W) t) := by
  obtain ⟨f, fd, ps, h1, h2, h3, F⟩ := G
  refine ⟨fun pins s σ H Q I h => ?_⟩
  refine wpAny_Call_Name_kw (ld_glob I hg h1 ?_ hdb)
  refine PySem.W.callWith_K (h₀ := X.base) I.ok.mod.kin h2 (thn (ha.run pos pins s σ H _ I h) fun us s1 z => ?_) he hpl
  obtain ⟨vs, H1, I1, r, qq⟩ := z
  refine ⟨I1.kIn, ?_⟩
  have hl : us.length = ps.length := by rw [← r.length]; exact F.len _ _ _ _ qq
  have b := h3 s1 us I1.kIn (by rw [List.append_nil]; exact hl)
  rw [List.append_nil] at b
  have P1 := I1.pin p (List.mem_append_left _ hp)
  have hpin : L2H.PinOk X.stack H1 s1 p := ⟨P1.1, P1.2.1, fun hm => (List.mem_cons.mp (I1.stkSub p.1 hm)).elim P1.2.2.1 P1.2.2.2.1, P1.2.2.2.2⟩
  refine wpAny_call (codeAny_mono (F.run X.A X.stack s1 H1 ⟨us, []⟩ us vs Q (WE W σ) hr hot hpin I1.env0 b r qq) fun rr s' hq => ?_)
  cases rr with
  | error e => exact L2N.passAt tk σ pins H1 s1 e s' I1 hq
  | ok fl =>
    cases fl with
    | ret u => exact I1.after hq
    | next => exact False.elim hq
    | brk => exact False.elim hq
    | cont => exact False.elim hq
/-! ### the caught error, wherever it is pinned -/
theorem inst_ofG {a D : Addr} {oe : Obj} {d : Option Addr} {pins : List (Addr × Obj)} {σ : L2.St} {H : Hp} {s : Shared} (hp : (a, oe) ∈ X.pn) (I : Inv X pins σ H s) (hz : Zc (.ref D) d oe) (hf : ∃ vs, oe.data = .fields vs) (hd : DOk H d) : ∃ od, PySem.W.InstAt s.heap a oe D od := by
  obtain ⟨hget, _⟩ := I.pin (a, oe) (List.mem_append.mpr (.inl hp))
  obtain ⟨vs, hv⟩ := hf
  obtain ⟨oc, odd, oda, osl⟩ := oe
  obtain ⟨h1, h2⟩ := hz
  dsimp only at h1 h2 hv
  subst h1 h2 hv
  cases odd with
  | none => exact ⟨none, hget, rfl, rfl, trivial⟩
  | some dd =>
    obtain ⟨fs, hfs⟩ := hd
    obtain ⟨mA, ⟨o, es, ep, ho, _⟩, _⟩ := (show ObjOk X.prog X.w H s.heap dd (.xd fs) from I.hok dd _ hfs)
    exact ⟨some o, hget, rfl, rfl, ho⟩
theorem call_isG {a : Addr} {oe : Obj} {cls : Value} {d : Option Addr} (hp : (a, oe) ∈ X.pn) (hz : Zc cls d oe) (hf : ∃ vs, oe.data = .fields vs) : CallR X (.builtin "isinstance") (rIsX X.K a cls d) := by
  intro pins s σ H xs us Q I r h
  obtain ⟨D, c, cv, b, ec, C, rfl, hcv, e, hd, q⟩ := h
  subst ec
  obtain ⟨u1, u2, rfl, r1, r2⟩ := vals2 r
  have e2 := hcv.eq r2
  subst e2
  cases (show u1 = Value.ref a from r1)
  exact PySem.W.kia_one (kitx_excD (ox := oe) C) I.kIn (inst_ofG hp I hz hf hd) e (fun z => nomatch z) fun tk => ⟨.bl b, H, I.kept (t' := tk) fun _ _ z => z, rfl, q⟩
theorem call_isGT {a : Addr} {oe : Obj} {cls : Value} {d : Option Addr} (hp : (a, oe) ∈ X.pn) (hz : Zc cls d oe) (hf : ∃ vs, oe.data = .fields vs) : CallR X (.builtin "isinstance") (rIsXT X.K a cls d) := by
  intro pins s σ H xs us Q I r h
  obtain ⟨D, tp, cs, ws, b, ec, C, rfl, hT, k, e, hd, q⟩ := h
  subst ec
  obtain ⟨u1, u2, rfl, r1, r2⟩ := vals2 r
  cases (show u1 = Value.ref a from r1)
  cases (show u2 = Value.ref tp from r2)
  obtain ⟨_, its, rv, o, h1, h2, n, h3⟩ := (show ObjOk X.prog X.w H s.heap tp (.tup cs) from I.hok tp _ hT)
  have e3 := ClsV.all k rv
  subst e3
  obtain ⟨oc, od, dt, sl⟩ := o
  simp only at h2 h3
  subst h2 h3
  exact PySem.W.kia_tup (kitx_excD (ox := oe) C) I.kIn (inst_ofG hp I hz hf hd) h1 e (fun z => nomatch z) fun tk => ⟨.bl b, H, I.kept (t' := tk) fun _ _ z => z, rfl, q⟩
theorem pe_xfG {a : Addr} {oe : Obj} {cls : Value} {d : Option Addr} {te : TE} {n : Str} (hp : (a, oe) ∈ X.pn) (hz : Zc cls d oe) (hf : ∃ vs, oe.data = .fields vs) (he : PE X e te) (hb : attributeBase e n X.env (eval e X.env) = eval e X.env := by rfl) :
    PE X (.Attribute e n pos) (tXfE X.K a cls d n te) := by
  refine ⟨fun pins s σ H Q I h => ?_⟩
  refine attr_of hb (thn (he.run pins s σ H _ I h) fun u s1 hh => ?_)
  obtain ⟨x, H1, I1, rx, C, ec, T, hno, ex, dd, fs, v, ed, ea, l, q⟩ := hh
  subst ex ec ed
  obtain rfl : u = Value.ref a := rx
  obtain ⟨ha, _⟩ := I1.pin (a, oe) (List.mem_append_left _ hp)
  obtain ⟨vs, hd⟩ := hf
  have hx : ObjOk X.prog X.w H1 s1.heap dd (.xd fs) := I1.hok dd _ ea
  obtain ⟨mA, hns, hr⟩ := hx
  obtain ⟨od, ho, hl⟩ := lookIn_ns hns
  obtain ⟨u, hu, ru⟩ := RelO.some_of (v := v) (o := mA n) (by rw [← l]; exact hr n)
  have J : PySem.W.InstAt s1.heap a oe C (some od) := ⟨ha, hz.1, by unfold PySem.W.notCls; rw [hd] <;> rfl, by rw [hz.2]; exact ho⟩
  exact HandSPX.exc_get I1.kIn J T.ga T.gg T.exC (PySem.W.findObj_own T.hdC hno rfl (by rw [hl, hu])) (handed_of ru) ⟨v, H1, I1.tok _, ru, q⟩
end
end Y

namespace Y
open PySem PySem.Spec L2 He
/-! ### small facts -/
theorem le1000 {n : Nat} (h : n ≤ 1000) : n ≤ sizeLine := Nat.le_of_lt (small1000 h)
theorem leBig {n : Nat} (h : n ≤ 16000000) : n ≤ sizeLine := Nat.le_trans h (by decide)
theorem ltBig {n : Nat} (h : n ≤ 16000000) : n < sizeLine := Nat.lt_of_le_of_lt h (by decide)
theorem app_len (a b : Str) : (a ++ b).length = a.length + b.length := Array.size_append
theorem getD_at {l : List Nat} {i : Nat} (h : i < l.length) : l.getD i 0 = l[i] := by
  rw [List.getD_eq_getElem?_getD, List.getElem?_eq_getElem h]
  rfl
theorem str_ne {z : Str} (h : z ≠ "") : ∃ c r, z.cps.toList = c :: r := by
  cases e : z.cps.toList with
  | nil =>
    refine absurd ?_ h
    obtain ⟨⟨l⟩⟩ := z
    have : l = [] := e
    subst this
    rfl
  | cons c r => exact ⟨c, r, rfl⟩
theorem same_new {D : Hp} {p : Addr} {o : HO} (h : D p = none) : Same D (upd D p o) := fun b u e => by
  have : b ≠ p := fun z => by rw [z, h] at e; cases e
  exact (upd_ne this).trans e
theorem len_list (z : Str) : z.cps.toList.length = z.length := by simp [Str.length]
/-! ### dicts with text keys -/
section
variable {α : Type}
def getS (t : List (Str × α)) (k : Str) : Option α := (t.find? fun p => decide (p.1 = k)).map (·.2)
def putS (t : List (Str × α)) (k : Str) (v : α) : List (Str × α) := if (t.any fun p => decide (p.1 = k)) = true then t.map (fun p => if p.1 = k then (p.1, v) else p) else t ++ [(k, v)]
/-- the entries kvs stand for t, values by R -/
inductive KvR (R : V → α → Prop) : List (Key × V) → List (Str × α) → Prop where
  | nil : KvR R [] []
  | cons {k : Str} {v : V} {y : α} {kvs : List (Key × V)} {t : List (Str × α)} : R v y → KvR R kvs t → KvR R ((Sum.inr k, v) :: kvs) ((k, y) :: t)
variable {R R' : V → α → Prop}
theorem KvR.mono (h : ∀ v y, R v y → R' v y) : ∀ {kvs : List (Key × V)} {t : List (Str × α)}, KvR R kvs t → KvR R' kvs t
  | _, _, .nil => .nil
  | _, _, .cons r s => .cons (h _ _ r) (KvR.mono h s)
theorem KvR.len : ∀ {kvs : List (Key × V)} {t : List (Str × α)}, KvR R kvs t → kvs.length = t.length
  | _, _, .nil => rfl
  | _, _, .cons _ s => congrArg (· + 1) s.len
theorem inr_iff {a b : Str} : ((Sum.inr a : Key) = Sum.inr b) ↔ a = b := ⟨fun h => Sum.inr.inj h, fun h => by rw [h]⟩
theorem KvR.any (k : Str) : ∀ {kvs : List (Key × V)} {t : List (Str × α)}, KvR R kvs t → (kvs.any fun p => decide (p.1 = Sum.inr k)) = t.any fun p => decide (p.1 = k)
  | _, _, .nil => rfl
  | _, _, .cons (k := a) _ s => by
    rw [List.any_cons, List.any_cons, s.any k]
    congr 1
    exact decide_eq_decide.mpr inr_iff
theorem KvR.get (k : Str) : ∀ {kvs : List (Key × V)} {t : List (Str × α)}, KvR R kvs t → (valV kvs (Sum.inr k) = none ∧ getS t k = none) ∨ ∃ v y, valV kvs (Sum.inr k) = some v ∧ getS t k = some y ∧ R v y
  | _, _, .nil => .inl ⟨rfl, rfl⟩
  | _, _, .cons (k := a) (v := v) (y := y) (kvs := kvs) (t := t) r s => by
    by_cases h : a = k
    · refine .inr ⟨v, y, valV_pos (inr_iff.mpr h), ?_, r⟩
      unfold getS
      rw [List.find?_cons_of_pos (by simpa using h)]
      rfl
    · have e1 : valV ((Sum.inr a, v) :: kvs) (Sum.inr k) = valV kvs (Sum.inr k) := valV_neg fun z => h (inr_iff.mp z)
      have e2 : getS ((a, y) :: t) k = getS t k := by
        unfold getS
        rw [List.find?_cons_of_neg (by simpa using h)]
      rw [e1, e2]
      exact s.get k
theorem KvR.snoc {k : Str} {v : V} {y : α} (r : R v y) : ∀ {kvs : List (Key × V)} {t : List (Str × α)}, KvR R kvs t → KvR R (kvs ++ [(Sum.inr k, v)]) (t ++ [(k, y)])
  | _, _, .nil => .cons r .nil
  | _, _, .cons r1 s => .cons r1 (s.snoc r)
theorem KvR.map {k : Str} {v : V} {y : α} (r : R v y) : ∀ {kvs : List (Key × V)} {t : List (Str × α)}, KvR R kvs t → KvR R (kvs.map fun p => if p.1 = Sum.inr k then (p.1, v) else p) (t.map fun p => if p.1 = k then (p.1, y) else p)
  | _, _, .nil => .nil
  | _, _, .cons (k := a) r1 s => by
    rw [List.map_cons, List.map_cons]
    by_cases h : a = k
    · rw [if_pos (inr_iff.mpr h), if_pos h]
      exact .cons r (s.map r)
    · rw [if_neg fun z => h (inr_iff.mp z), if_neg h]
      exact .cons r1 (s.map r)
theorem KvR.put {k : Str} {v : V} {y : α} (r : R v y) {kvs : List (Key × V)} {t : List (Str × α)} (s : KvR R kvs t) : KvR R (putK kvs (Sum.inr k) v) (putS t k y) := by
  unfold putK putS
  rw [s.any k]
  split
  · exact s.map r
  · exact s.snoc r
theorem putS_len (t : List (Str × α)) (k : Str) (v : α) : (putS t k v).length ≤ t.length + 1 := by
  unfold putS
  split
  · rw [List.length_map]
    omega
  · simp
theorem getS_any (t : List (Str × α)) (k : Str) : (t.any fun p => decide (p.1 = k)) = (getS t k).isSome := by
  induction t with
  | nil => rfl
  | cons p r ih =>
    unfold getS at *
    rw [List.any_cons, ih, List.find?_cons]
    by_cases h : p.1 = k
    · simp [h]
    · simp [h]
theorem getS_cons (p : Str × α) (r : List (Str × α)) (k : Str) : getS (p :: r) k = if p.1 = k then some p.2 else getS r k := by
  unfold getS
  rw [List.find?_cons]
  by_cases h : p.1 = k
  · simp [h]
  · simp [h]
theorem getS_put (t : List (Str × α)) (k j : Str) (v : α) : getS (putS t k v) j = if j = k then some v else getS t j := by
  unfold putS
  rw [getS_any]
  split
  · rename_i h
    induction t with
    | nil => cases h
    | cons p r ih =>
      rw [List.map_cons, getS_cons, getS_cons]
      rw [getS_cons] at h
      by_cases hp : p.1 = k
      · rw [if_pos hp]
        dsimp only
        by_cases hj : j = k
        · rw [if_pos (hp.trans hj.symm), if_pos hj]
        · rw [if_neg fun z => hj (z.symm.trans hp), if_neg hj, if_neg fun z => hj (z.symm.trans hp)]
          have : ∀ l : List (Str × α), getS (l.map fun p => if p.1 = k then (p.1, v) else p) j = getS l j := by
            intro l
            induction l with
            | nil => rfl
            | cons q l ih2 =>
              rw [List.map_cons, getS_cons, getS_cons, ih2]
              by_cases hq : q.1 = k
              · rw [if_pos hq]
                dsimp only
                rw [if_neg fun z => hj (z.symm.trans hq), if_neg fun z => hj (z.symm.trans hq)]
              · rw [if_neg hq]
          exact this r
      · rw [if_neg hp] at h ⊢
        by_cases hj : p.1 = j
        · rw [if_pos hj, if_neg fun z => hp (hj.trans z), if_pos hj]
        · rw [if_neg hj, ih h, if_neg hj]
  · rename_i h
    have h0 : getS t k = none := by
      cases e : getS t k with
      | none => rfl
      | some y => rw [e] at h; exact absurd rfl h
    induction t with
    | nil =>
      rw [List.nil_append, getS_cons]
      by_cases hj : j = k
      · rw [if_pos hj.symm, if_pos hj]
      · rw [if_neg fun z => hj z.symm, if_neg hj]
    | cons p r ih =>
      rw [List.cons_append, getS_cons, getS_cons]
      rw [getS_cons] at h0
      by_cases hp : p.1 = k
      · rw [if_pos hp] at h0
        cases h0
      · rw [if_neg hp] at h0
        by_cases hj : p.1 = j
        · rw [if_pos hj, if_neg fun z => hp (hj.trans z), if_pos hj]
        · rw [if_neg hj, if_neg hj]
          exact ih (by rw [h0]; exact Bool.false_ne_true) h0
end
end Y

namespace Y
open PySem PySem.Spec L2 He
/-- C(e, ..), the error told by the slots -/
def tMakeS (C : Addr) (sp : Sp) (E : L2.St → XK) (t : TA) : TE := fun σ H Q => t σ H fun vs H1 => ∀ x dx, H1 x = none → H1 dx = none → dx ≠ x →
  sp (.ref x :: vs) (upd (upd H1 dx (.own x)) x (.ins C dx [])) (fun v H2 => v = .non ∧ Q (.ref x) H2) (E σ)
theorem s_makeS {C : Addr} {sp : Sp} {E : L2.St → XK} {t : TA} {σ : L2.St} {H : Hp} {Q : VK} (k : t σ H fun vs H1 => ∀ x dx, H1 x = none → H1 dx = none → dx ≠ x →
  sp (.ref x :: vs) (upd (upd H1 dx (.own x)) x (.ins C dx [])) (fun v H2 => v = .non ∧ Q (.ref x) H2) (E σ)) : tMakeS C sp E t σ H Q := k
section
variable {X : Cx} {W : WX} {k : Nat} {x : Str} {C : Addr} {sp : Sp} {e : Expr} {es : List Expr} {t : TA} {p pos : Pos}
theorem pe_mkS (G : HasC X.prog X.w X.K X.mg X.base k x C sp) (hr : Room (k + 1) X.A) (tk : L2N.Takes X W) (hg : Gl X x) (ha : PA X (e :: es) t)
    (hdb : (x == ("__debug__" : Str)) = false := by decide) (he : starEach (e :: es) X.env = (false, eval e X.env) :: starEach es X.env := by rfl) (hpl : (backTo pos (starEach es X.env)).any (·.1) = false := by rfl) :
    PE X (.Call (.Name x p) (e :: es) [] pos) (tMakeS C sp (WE W) t) := by
  obtain ⟨f, fd, ps, hm, M, hb, F⟩ := G
  refine ⟨fun pins s σ H Q I h => ?_⟩
  refine wpAny_Call_Name_kw (ld_glob I hg hm ?_ hdb)
  refine PySem.W.callWith_K (h₀ := X.base) I.ok.mod.kin M.kp (thn (ha.run pos pins s σ H _ I h) fun us s1 z => ?_) he hpl
  obtain ⟨vs, H1, I1, r, q⟩ := z
  refine ⟨I1.kIn, ?_⟩
  have hq := q (s1.heap.objs.size + 1) s1.heap.objs.size (I1.hok.fresh (Nat.le_succ _)) (I1.hok.fresh (Nat.le_refl _)) (Nat.ne_of_lt (Nat.lt_succ_self _))
  have J := Inv.made (C := C) I1
  have r2 : Vals (V.ref (s1.heap.objs.size + 1) :: vs) (Value.ref (s1.heap.objs.size + 1) :: us) := .cons rfl r
  have hl : (Value.ref (s1.heap.objs.size + 1) :: us).length = ps.length := r2.length.symm.trans (F.len _ _ _ _ hq)
  have bb := hb _ (Value.ref (s1.heap.objs.size + 1) :: us) J.kIn (by rw [List.append_nil]; exact hl)
  rw [List.append_nil] at bb
  refine wpAny_call (make_map (f := f) I1.kIn M.makes M.init (beq_iff_eq.mp M.fn) (codeAny_mono (F.run _ X.stack _ _ ⟨Value.ref (s1.heap.objs.size + 1) :: us, []⟩ _ _ _ (WE W σ) (hr.make C us []) (J.env0.make C us []) bb r2 hq) fun rr s' hq' => ?_))
  match rr, hq' with
  | .error e, hq' => exact L2N.passAt tk σ pins _ _ e s' J hq'
  | .ok (.ret u), hq' =>
    obtain ⟨v, H', I3, rv, ev, q3⟩ := J.after hq'
    subst ev
    exact ⟨rv, V.ref (s1.heap.objs.size + 1), H', I3, rfl, q3⟩
theorem s_methS {m : Str} {E : L2.St → XK} {ta : TE} {σ : L2.St} {H : Hp} {Q : VK} (k : ta σ H fun x H1 => ∃ a dx fs, x = .ref a ∧ H1 a = some (.ins C dx fs) ∧ fs.lookup m = none ∧ t σ H1 fun vs H2 => sp (x :: vs) H2 Q (E σ)) : tMethS C m sp E ta t σ H Q := k
theorem s_callO {E : L2.St → XK} {ta : TE} {σ : L2.St} {H : Hp} {Q : VK} (k : ta σ H fun x H1 => ∃ a dx fs, x = .ref a ∧ H1 a = some (.ins C dx fs) ∧ t σ H1 fun vs H2 => H2 a = some (.ins C dx fs) ∧ sp (x :: vs) H2 Q (E σ)) : tCallO C sp E ta t σ H Q := k
theorem pe_gT {T : String} (hg : Gl X x) (hm : X.mg x = none) (hv : bootBuiltins x = some (.type T)) (hn : x ≠ "__name__" := by decide) (hd : (x == ("__debug__" : Str)) = false := by decide) : PE X (.Name x p) (tC (.ty T)) := pe_bltn hg hm hv rfl hn hd
end
/-! dict steps -/
section
variable {α : Type} {R : V → α → Prop} {σ : L2.St} {H : Hp} {Q : VK} {a : Addr} {td ty tx : TE} {kvs : List (Key × V)} {t : List (Str × α)} {k : Str} {v : V} {y : α}
theorem s_dnew (q : ∀ p, H p = none → Q (.ref p) (upd H p (.dK []))) : tDNewK σ H Q := q
theorem s_dget (q : td σ H fun x H1 => ty σ H1 fun y H2 => ∃ a v, x = .ref a ∧ DGet H2 a y (some v) ∧ Q v H2) : tDGet td ty σ H Q := q
theorem s_din (q : ty σ H fun y H1 => td σ H1 fun x H2 => ∃ a o, x = .ref a ∧ DGet H2 a y o ∧ Q (.bl o.isSome) H2) : tDIn ty td σ H Q := q
theorem s_dnin (q : ty σ H fun y H1 => td σ H1 fun x H2 => ∃ a o, x = .ref a ∧ DGet H2 a y o ∧ Q (.bl (!o.isSome)) H2) : tDNotIn ty td σ H Q := q
theorem s_dput {D : Ends} {tv : TE} (q : tv σ H fun v H1 => td σ H1 fun x H2 => ty σ H2 fun y H3 => ∃ a H4, x = .ref a ∧ DPut H3 a y v H4 ∧ D.nx σ H4) : sDPut td ty tv D σ H := q
theorem s_dsetd (q : td σ H fun x H1 => ∃ a, x = .ref a ∧ IsD H1 a ∧ ty σ H1 fun y H2 => tx σ H2 fun z H3 => ∃ (kvs : List (Key × V)) (k : Key), H3 a = some (.dK kvs) ∧ y = kV k ∧ kvs.length < sizeLine ∧
  (∀ v, valV kvs k = some v → Q v H3) ∧ (valV kvs k = none → Q z (upd H3 a (.dK (putK kvs k z))))) : tDSetd td ty tx σ H Q := q
theorem s_dget2 (q : td σ H fun x H1 => ∃ a, x = .ref a ∧ IsD H1 a ∧ ty σ H1 fun y H2 => tx σ H2 fun z H3 => ∃ o, DGet H3 a y o ∧ Q (o.getD z) H3) : tDGet2 td ty tx σ H Q := q
/-- a look into a dict -/
theorem dgetS (h : H a = some (.dK kvs)) (r : KvR R kvs t) (k : Str) : (DGet H a (.str k) none ∧ getS t k = none) ∨ ∃ v y, DGet H a (.str k) (some v) ∧ getS t k = some y ∧ R v y := by
  have d : DGet H a (.str k) (valV kvs (Sum.inr k)) := DGet.k (k := Sum.inr k) h
  rcases r.get k with ⟨h1, h2⟩ | ⟨v, y, h1, h2, h3⟩
  · rw [h1] at d
    exact .inl ⟨d, h2⟩
  · rw [h1] at d
    exact .inr ⟨v, y, d, h2, h3⟩
theorem dputS (h : H a = some (.dK kvs)) (hl : kvs.length < sizeLine) : DPut H a (.str k) v (upd H a (.dK (putK kvs (Sum.inr k) v))) := DPut.k (k := Sum.inr k) h hl
theorem isDS (h : H a = some (.dK kvs)) : IsD H a := .inl ⟨kvs, .inl h⟩
end
end Y

namespace Y
open PySem PySem.Spec L2 He
/-! ### a text so many times -/
def rRepS : R2 := fun x y H Q => ∃ i n, x = .str i ∧ y = .int n ∧ MulOk i n ∧ Q (.str (Txt.mul i n)) H
theorem op_repS {X : Cx} : OpR X (binaryOp .Mult) rRepS := by
  intro pins s σ H x y v u Q I rx ry h
  obtain ⟨i, n, rfl, rfl, hok, q⟩ := h
  obtain ⟨t, rfl⟩ := rx
  obtain ⟨t', rfl⟩ := ry
  exact SB.mul hok fun t' tk => ⟨.str (Txt.mul i n), H, I.tok _, ⟨_, rfl⟩, q⟩
def rTimesX : R2 := fun x y H Q => rTimes x y H Q ∨ rRepS x y H Q
theorem oX_mul {X : Cx} : OpR X (binaryOp .Mult) rTimesX := OpR.or op_mul op_repS
theorem mulOk_one {c : Nat} {n : Int} (h0 : 0 ≤ n) (h1 : n ≤ 1000) : MulOk ⟨#[c]⟩ n := by
  have l : (⟨#[c]⟩ : Str).length = 1 := rfl
  refine ⟨?_, fun h2 _ => ?_, fun h2 _ => ?_⟩
  · rw [decide_eq_false (by omega), decide_eq_false (by omega)]
    rfl
  · rw [l]
    have : (1 : Int) ≤ (2 ^ 63 - 1) / n := (Int.le_ediv_iff_mul_le (by omega)).mpr (by omega)
    omega
  · rw [l]
    have := leBig (n := 1 * n.toNat) (by omega)
    exact decide_eq_false (by omega)
theorem mul_one_len {c : Nat} {n : Int} (h0 : 0 ≤ n) : (Txt.mul ⟨#[c]⟩ n).cps.toList = List.replicate n.toNat c := by
  unfold Txt.mul
  by_cases h1 : n < 1
  · have : n = 0 := by omega
    subst this
    rfl
  · rw [if_neg h1]
    by_cases h2 : n = 1
    · subst h2
      rfl
    · have e : (n == 1 || (⟨#[c]⟩ : Str).length == 0) = false := by
        rw [beq_false_of_ne h2]
        rfl
      rw [e, if_neg Bool.false_ne_true]
      show (List.foldl (· ++ ·) #[] (List.replicate n.toNat #[c])).toList = _
      have f : ∀ (m : Nat) (acc : Array Nat), (List.foldl (· ++ ·) acc (List.replicate m #[c])).toList = acc.toList ++ List.replicate m c := by
        intro m
        induction m with
        | zero => intro acc; simp
        | succ m ih =>
          intro acc
          rw [List.replicate_succ, List.foldl_cons, ih, List.replicate_succ]
          simp
      rw [f]
      simp
/-- the room of a suite -/
theorem roomS {k j : Nat} {A B : Around} (hr : Room j A) (h : k ≤ j) (hd : B.depth = A.depth) (hu : B.units = A.units) : L2H.RoomH k B := by
  have h1 := hr.dp
  have h2 := hr.un
  exact ⟨by rw [hd]; omega, by rw [hu]; omega⟩
end Y

namespace Y
open PySem PySem.Spec L2 He
theorem Gr.ofSame {D H H' : Hp} (h : Same D H) (e : Same H H') : Gr No D H D H' where
  same := fun b o _ x => e b o x
  kept := fun b x => by
    cases q : H b with
    | none => rfl
    | some o => rw [e b o q] at x; cases x
  dd := Same.refl D
  sub := h.trans e
  new := fun b o x => .inl x
/-! ### the order of pairs of an int and a text -/
abbrev IS := Int × Str
def ltIS (p q : IS) : Bool := if p.1 = q.1 then decide (p.2.cps.toList < q.2.cps.toList) else decide (p.1 < q.1)
theorem ltIS_iff {p q : IS} : ltIS p q = true ↔ p.1 < q.1 ∨ (p.1 = q.1 ∧ p.2.cps.toList < q.2.cps.toList) := by
  unfold ltIS
  by_cases e : p.1 = q.1
  · rw [if_pos e, decide_eq_true_eq]
    exact ⟨fun h => .inr ⟨e, h⟩, fun h => h.elim (fun z => absurd z (by omega)) (·.2)⟩
  · rw [if_neg e, decide_eq_true_eq]
    exact ⟨.inl, fun h => h.elim id fun z => absurd z.1 e⟩
theorem ltIS_no {p q : IS} : ltIS p q = false ↔ ¬ (p.1 < q.1 ∨ (p.1 = q.1 ∧ p.2.cps.toList < q.2.cps.toList)) := by
  rw [← ltIS_iff]
  cases ltIS p q <;> simp
theorem ltIS_asym {p q : IS} (h : ltIS p q = true) : ltIS q p = false := by
  rw [ltIS_iff] at h
  rw [ltIS_no]
  rintro (z | ⟨z1, z2⟩)
  · rcases h with h | ⟨h1, h2⟩ <;> omega
  · rcases h with h | ⟨h1, h2⟩
    · omega
    · exact List.lt_asymm h2 z2
theorem ltIS_tr {p q r : IS} (h1 : ltIS q p = false) (h2 : ltIS r q = false) : ltIS r p = false := by
  rw [ltIS_no] at *
  rintro (z | ⟨z1, z2⟩)
  · have a : ¬ q.1 < p.1 := fun x => h1 (.inl x)
    have b : ¬ r.1 < q.1 := fun x => h2 (.inl x)
    omega
  · have a : ¬ q.1 < p.1 := fun x => h1 (.inl x)
    have b : ¬ r.1 < q.1 := fun x => h2 (.inl x)
    have e1 : q.1 = p.1 := by omega
    have e2 : r.1 = q.1 := by omega
    have c : p.2.cps.toList ≤ q.2.cps.toList := List.not_lt.mp fun x => h1 (.inr ⟨e1, x⟩)
    have d : q.2.cps.toList ≤ r.2.cps.toList := List.not_lt.mp fun x => h2 (.inr ⟨e2, x⟩)
    exact List.not_lt.mpr (List.le_trans c d) z2
theorem ltIS_tot {p q : IS} (h1 : ltIS p q = false) (h2 : ltIS q p = false) : p = q := by
  rw [ltIS_no] at *
  have e : p.1 = q.1 := by
    have a : ¬ p.1 < q.1 := fun x => h1 (.inl x)
    have b : ¬ q.1 < p.1 := fun x => h2 (.inl x)
    omega
  have c : q.2.cps.toList ≤ p.2.cps.toList := List.not_lt.mp fun x => h1 (.inr ⟨e, x⟩)
  have d : p.2.cps.toList ≤ q.2.cps.toList := List.not_lt.mp fun x => h2 (.inr ⟨e.symm, x⟩)
  have f := List.le_antisymm c d
  exact Prod.ext e (TL.ext_tl f.symm)
theorem swo_IS : SrtO.Swo ltIS := ⟨fun _ _ h => ltIS_asym h, fun _ _ _ h1 h2 => ltIS_tr h1 h2⟩
/-- a tuple of an int and a text -/
def IsIS (h : Heap) (v : Value) (p : IS) : Prop := ∃ a o t u n, v = .ref a ∧ h.get? a = some o ∧ o.cls = .type "tuple" ∧ o.data = .seq #[.int p.1 t, .str p.2 u] n
theorem IsIS.keeps {h h' : Heap} {v : Value} {p : IS} (i : IsIS h v p) (k : ∀ b o, h.get? b = some o → o.cls = .type "tuple" → h'.get? b = some o) : IsIS h' v p := by
  obtain ⟨a, o, t, u, n, e, ho, hc, hd⟩ := i
  exact ⟨a, o, t, u, n, e, k _ _ ho hc, hc, hd⟩
theorem IsIS.one {h : Heap} {v : Value} {p q : IS} (i : IsIS h v p) (j : IsIS h v q) : p = q := by
  obtain ⟨a, o, t, u, n, e, ho, hc, hd⟩ := i
  obtain ⟨a', o', t', u', n', e', ho', hc', hd'⟩ := j
  subst e
  cases e'
  rw [ho] at ho'
  cases ho'
  rw [hd] at hd'
  simp only [Data.seq.injEq] at hd'
  obtain ⟨x, _⟩ := hd'
  have y := congrArg Array.toList x
  simp only [List.cons.injEq, Value.int.injEq, Value.str.injEq] at y
  exact Prod.ext y.1.1 y.2.1.1
open Classical in
noncomputable def kOf (h : Heap) (v : Value) : IS := if q : ∃ p : IS, IsIS h v p then q.choose else (0, "")
theorem kOf_is {h : Heap} {v : Value} {p : IS} (i : IsIS h v p) : kOf h v = p := by
  have q : ∃ p : IS, IsIS h v p := ⟨p, i⟩
  unfold kOf
  rw [dif_pos q]
  exact IsIS.one q.choose_spec i
section
open PyProof.Rows Srt SrtO
variable {prog : Program} {w : World} {A : Around} {E : Value → Shared → Prop} {s : Shared}
theorem is_cmp {vs : List Value} {k : Value → IS} (hp : ∀ v ∈ vs, IsIS s.heap v (k v)) : Cmp prog w A s (tuples' true) (fun p => p.1 ∈ vs) (lt2 fun v u => ltIS (k v) (k u)) := by
  intro p q hm hm'
  have h1 := hp _ hm
  have h2 := hp _ hm'
  show wpAny (model prog w) A (keyLt' (tuples' true) p.1 q.1) (fun r s' => s' = s ∧ r = ltIS (k p.1) (k q.1)) (fun _ _ => False) s
  unfold ltIS
  generalize (k p.1) = x at h1 ⊢
  generalize (k q.1) = x' at h2 ⊢
  obtain ⟨x, y⟩ := x
  obtain ⟨x', y'⟩ := x'
  obtain ⟨a, o, t, u, n, e, ho, hc, hd⟩ := h1
  obtain ⟨a', o', t', u', n', e', ho', hc', hd'⟩ := h2
  rw [e, e']
  dsimp only at hd hd' ⊢
  refine PySem.W.kat_lt ho hd ho' hd' ?_
  show PySem.W.KatLex prog w A true (decide (2 < 2)) _ [(.int x t, .int x' t'), (.str y u, .str y' u')] 0 s
  refine PySem.W.kat_cons (SeqAt.EqAt.int_int x t x' t' prog w _ _ ?_)
  refine PySem.W.kat_go (fun e1 => ?_) (fun e1 => ?_)
  · have ex : x = x' := by simpa using e1
    refine PySem.W.kat_yes (PySem.W.kat_cons (SeqAt.EqAt.str_str y u y' u' prog w _ _ ?_))
    refine PySem.W.kat_go (fun e2 => ?_) (fun e2 => ?_)
    · have ey : y = y' := by simpa using e2
      have e3 : (if x = x' then decide (y.cps.toList < y'.cps.toList) else decide (x < x')) = false := by
        rw [if_pos ex, ey]
        exact decide_eq_false (List.lt_irrefl _)
      exact PySem.W.kat_yes (PySem.W.kat_nil ⟨rfl, e3.symm⟩)
    · have e3 : (if x = x' then decide (y.cps.toList < y'.cps.toList) else decide (x < x')) = decide (y.cps.toList < y'.cps.toList) := if_pos ex
      refine PySem.W.kat_no (PySem.W.kat_one _ _ (lt_str ?_))
      exact (show s = s ∧ decide (y.cps.toList < y'.cps.toList) = (if x = x' then decide (y.cps.toList < y'.cps.toList) else decide (x < x')) from ⟨rfl, e3.symm⟩)
  · have ex : ¬ x = x' := by simpa using e1
    have e3 : (if x = x' then decide (y.cps.toList < y'.cps.toList) else decide (x < x')) = decide (x < x') := if_neg ex
    exact PySem.W.kat_no (oneLt_int ⟨rfl, e3.symm⟩)
theorem is_firsts {h : Heap} {k : Value → IS} : ∀ {vs : List Value}, (∀ v ∈ vs, IsIS h v (k v)) → ∃ fs : List Value, PySem.W.KatTups h vs fs ∧ fs.length = vs.length ∧ ∀ f ∈ fs, ∃ x t, f = Value.int x t
  | [], _ => ⟨[], PySem.W.KatTups.nil, rfl, fun _ hm => by simp at hm⟩
  | v :: vs, hp => by
    obtain ⟨fs, h1, h2, h3⟩ := is_firsts (vs := vs) fun v' hm => hp v' (List.mem_cons_of_mem _ hm)
    obtain ⟨a, o, t, u, n, e, ho, hc, hd⟩ := hp v (List.mem_cons_self ..)
    subst e
    refine ⟨_ :: fs, PySem.W.KatTups.cons ho hc hd rfl h1, by rw [List.length_cons, List.length_cons, h2], fun f hm => ?_⟩
    rcases List.mem_cons.mp hm with rfl | hm
    · exact ⟨_, t, rfl⟩
    · exact h3 f hm
theorem is_kind {vs : List Value} {k : Value → IS} {Q : SortKind → Shared → Prop} (h0 : 0 < vs.length) (hp : ∀ v ∈ vs, IsIS s.heap v (k v)) (h : Q (tuples' true) s) : wpAny (model prog w) A (keyKind' vs.toArray) Q E s := by
  obtain ⟨fs, h1, h2, h3⟩ := is_firsts hp
  refine PySem.W.kat_kind (T := .type "int") h1 (by omega) (fun f hm => ?_) (by rfl) ?_
  · obtain ⟨x, t, rfl⟩ := h3 f hm
    exact PySem.W.Looks.now
  · have e : (Value.type "int" != Value.type "tuple") = true := by first | decide +kernel | rfl | decide
    rw [e]
    exact h
theorem swo_k (k : Value → IS) : Swo fun v u => ltIS (k v) (k u) := ⟨fun _ _ h => ltIS_asym h, fun _ _ _ h1 h2 => ltIS_tr h1 h2⟩
theorem is_sortable {a : Addr} {vs : List Value} {k : Value → IS} (h0 : 0 < vs.length) (hp : ∀ v ∈ vs, IsIS s.heap v (k v)) (ha : ∀ o, s.heap.get? a = some o → o.cls ≠ .type "tuple") : SortableO prog w A s a vs fun v u => ltIS (k v) (k u) := by
  intro h' keep
  have hp' : ∀ v ∈ vs, IsIS h' v (k v) := fun v hm => (hp v hm).keeps fun b o e c => keep b o (fun z => by subst z; exact ha o e c) e
  exact ⟨tuples' true, fun Q E hq => is_kind (s := { s with heap := h' }) h0 hp' hq, is_cmp hp'⟩
/-- sorted(l) of pairs of an int and a text -/
theorem sorted_IS {l : Addr} {vs : List Value} {k : Value → IS} {Q : Value → Shared → Prop} (hl : s.heap.IsList l vs.toArray) (hz : vs.length ≤ sizeLine) (hp : ∀ v ∈ vs, IsIS s.heap v (k v))
    (h : ∀ (h' : Heap) (d : Addr) (out : List Value), Srtd (fun v u => ltIS (k v) (k u)) out → Stb (fun v u => ltIS (k v) (k u)) out vs → (∀ b o, s.heap.get? b = some o → h'.get? b = some o) → s.heap.objs.size ≤ d → (∃ n, h'.get? d = some (seqObj "list" out.toArray n)) → Q (.ref d) { s with heap := h' }) :
    wpAny (model prog w) A (call (.builtin "sorted") [.ref l]) Q E s := by
  refine sorted_ord (swo_k k) hl hz (fun h2 h₁ a ha kk => ?_) fun out hs hb => ?_
  · refine is_sortable (s := { s with heap := h₁ }) (by omega) (fun v hm => (hp v hm).keeps fun b o e _ => (kk b o e).2) fun o e => ?_
    have e' : some o = some (seqObj "list" vs.toArray 0) := e.symm.trans ha
    cases e'
    intro c
    exact absurd (Value.type.inj c) (by decide)
  · exact h _ _ out hs hb (fun b o e => sortedAll_old e) (Nat.le_succ _) (sortedAll_at s.heap vs out.toArray)
end
/-- sorted(xs), xs a list of pairs of an int and a text (k says which) -/
def rSortIS (K : PySem.W.Frag) : List V → Hp → VK → Prop := fun vs H Q => ∃ (a : Addr) (xs : List V) (k : V → IS), vs = [V.ref a] ∧ SqL K H a xs ∧ (∀ x ∈ xs, ∃ t, x = V.ref t ∧ H t = some (.tup [.int (k x).1, .str (k x).2])) ∧
  ∀ ys p, SrtO.Srtd (fun x y => ltIS (k x) (k y)) ys → SrtO.Stb (fun x y => ltIS (k x) (k y)) ys xs → H p = none → Q (.ref p) (upd H p (.lst ys))
section
variable {X : Cx}
open PyProof.Rows
theorem cr_sortIS : CallR X (.builtin "sorted") (rSortIS X.K) := by
  intro pins s σ H vs us Q I r h
  obtain ⟨a, xs, k, rfl, hs, hx, q⟩ := h
  obtain ⟨its, rv, hl, hz⟩ := I.list hs
  obtain ⟨u, rfl, ru⟩ := vals1 r
  obtain rfl : u = Value.ref a := ru
  obtain ⟨e1, e2⟩ := refs_back rv fun x m => by
    obtain ⟨t, e, _⟩ := hx x m
    exact ⟨t, e⟩
  refine sorted_IS (k := fun u => k (backV u)) hl.isList (by rw [← rv.length]; exact hz) (fun v hv => ?_) fun h' d out h1 h2 kp hd hn => ?_
  · obtain ⟨t, rfl⟩ := e2 v hv
    have hm : V.ref t ∈ xs := by rw [e1]; exact List.mem_map.mpr ⟨_, hv, rfl⟩
    obtain ⟨t', e, ht⟩ := hx _ hm
    cases e
    obtain ⟨_, its2, r2, o, ho, hc, n, hd⟩ := I.hok _ _ ht
    obtain ⟨u1, u2, rfl, ri, rj⟩ := vals2 r2
    obtain ⟨t1, rfl⟩ := ri
    obtain ⟨t2, rfl⟩ := rj
    exact ⟨t, o, t1, t2, n, rfl, ho, hc, hd⟩
  · have h3 : ∀ u ∈ out, ∃ a, u = Value.ref a := fun u hu => e2 u (h2.perm.mem_iff.mp hu)
    obtain ⟨n, hn⟩ := hn
    have hb : SrtO.Stb (fun x y => ltIS (k x) (k y)) (out.map backV) xs := by
      rw [e1]
      exact SrtO.Stb.map (lt := fun x y => ltIS (k x) (k y)) ⟨fun _ _ h => ltIS_asym h, fun _ _ _ h1 h2 => ltIS_tr h1 h2⟩ backV h2
    refine ⟨.ref d, upd H d (.lst (out.map backV)), I.laid (t' := s.toks) kp hd ⟨?_, out, n, vals_back h3, hn⟩, rfl, q _ d (SrtO.srtd_map h1) hb (I.hok.fresh hd)⟩
    rw [hb.len]
    exact hz
end
end Y

namespace Y
open PySem PySem.Spec L2 He
/-! ### sorted(texts, key=f), f a def of the head's that makes pairs of an int and a text -/
/-- the key of a text -/
def keyS (κ : Str → IS) : V → IS
  | .str z => κ z
  | _ => (0, "")
section
open PyProof.Rows Srt SrtO
/-- f makes of each text its pair -/
def MakesK (P : Program) (w : World) (K : PySem.W.Frag) (mg : Str → Option Value) (base : Heap) (k : Nat) (f : Addr) (κ : Str → IS) (ok : Str → Prop) : Prop :=
  ∃ (fd : FuncData) (ps : List Str) (sp : Sp), PySem.W.keepIn K (.ref f) = true ∧ Binds K fd ps [] ∧ FnOk P w K mg base (L2N.CX P w) k f fd ps sp ∧
    ∀ z H Q E, ok z → (∀ p, H p = none → Q (.ref p) (upd H p (.tup [.int (κ z).1, .str (κ z).2]))) → sp [.str z] H Q E
/-- the keys ks of the texts zs -/
structure KysOf (H : Hp) (κ : Str → IS) (zs : List Str) (ks : List V) : Prop where
  len : ks.length = zs.length
  is_ : ∀ (i : Nat) (z : Str), zs[i]? = some z → ∃ t, ks[i]? = some (V.ref t) ∧ H t = some (.tup [.int (κ z).1, .str (κ z).2])
theorem KysOf.snoc {H H' : Hp} {κ : Str → IS} {zs : List Str} {ks : List V} {z : Str} {t : Addr} (h : KysOf H κ zs ks) (s : ∀ b o, (∃ xs, o = .tup xs) → H b = some o → H' b = some o) (ht : H' t = some (.tup [.int (κ z).1, .str (κ z).2])) : KysOf H' κ (zs ++ [z]) (ks ++ [V.ref t]) := by
  refine ⟨by rw [List.length_append, List.length_append, h.len]; rfl, fun i y hy => ?_⟩
  by_cases hi : i < zs.length
  · rw [List.getElem?_append_left hi] at hy
    obtain ⟨u, h1, h2⟩ := h.is_ i y hy
    exact ⟨u, by rw [List.getElem?_append_left (by rw [h.len]; exact hi)]; exact h1, s _ _ ⟨_, rfl⟩ h2⟩
  · have hl := (List.getElem?_eq_some_iff.mp hy).1
    rw [List.length_append] at hl
    have : i = zs.length := by
      have : ([z] : List Str).length = 1 := rfl
      omega
    subst this
    rw [List.getElem?_append_right (Nat.le_refl _), Nat.sub_self] at hy
    cases hy
    refine ⟨t, ?_, ht⟩
    rw [← h.len, List.getElem?_append_right (Nat.le_refl _), Nat.sub_self]
    rfl
theorem fold_keys {M : Model} {A : Around} {E : Value → Shared → Prop} {body : Value → PUnit → Sem (ForInStep PUnit)} {Q : PUnit → Shared → Prop} (I : Nat → Shared → Prop) : ∀ (vs : List Value) (i : Nat) (s : Shared), I i s →
    (∀ j x s, vs[j]? = some x → I (i + j) s → wpAny M A (body x ⟨⟩) (fun r s' => r = .yield ⟨⟩ ∧ I (i + j + 1) s') E s) → (∀ s, I (i + vs.length) s → Q ⟨⟩ s) → wpAny M A (forIn vs PUnit.unit body) Q E s
  | [], i, s, h, _, hd => by
    rw [List.forIn_nil]
    exact wpAny_pure (hd s h)
  | v :: vs, i, s, h, hs, hd => by
    rw [List.forIn_cons]
    refine wpAny_bind (wpAny_mono (hs 0 v s rfl h) (fun r s' hr => ?_) fun _ _ z => z)
    obtain ⟨rfl, h1⟩ := hr
    refine fold_keys I vs (i + 1) s' h1 (fun j x s2 e q => ?_) fun s2 q => hd s2 ?_
    · have := hs (j + 1) x s2 e (by rw [show i + (j + 1) = i + 1 + j by omega]; exact q)
      rw [show i + (j + 1) + 1 = i + 1 + j + 1 by omega] at this
      exact this
    · rw [List.length_cons, show i + (vs.length + 1) = i + 1 + vs.length by omega]
      exact q
end
def backS : Value → Str
  | .str z _ => z
  | _ => ""
theorem back_vals {α : Type} {g : α → Value} : ∀ {l : List α}, (∀ p ∈ l, ∃ z t, g p = .str z t) → Vals ((l.map fun p => backS (g p)).map V.str) (l.map g)
  | [], _ => .nil
  | p :: l, h => by
    obtain ⟨z, t, e⟩ := h p (List.mem_cons_self ..)
    rw [List.map_cons, List.map_cons, List.map_cons]
    refine .cons ?_ (back_vals fun q hq => h q (List.mem_cons_of_mem _ hq))
    rw [e]
    exact ⟨t, rfl⟩
section
open PyProof.Rows Srt SrtO
variable {X : Cx}
def rSortK (K : PySem.W.Frag) (f : Addr) (κ : Str → IS) (ok : Str → Prop) : List V → List V → Hp → VK → Prop := fun vs ws H Q => ∃ (a : Addr) (zs : List Str), vs = [.ref a] ∧ ws = [.ref f] ∧ SqL K H a (zs.map V.str) ∧ (∀ z ∈ zs, ok z) ∧
  ∀ H' p ys, Same H H' → H p = none → H' p = some (.lst (ys.map V.str)) → Srtd (fun x y => ltIS (κ x) (κ y)) ys → ys.Perm zs → Q (.ref p) H'
theorem cr_sortK {k : Nat} {f : Addr} {κ : Str → IS} {ok : Str → Prop} (F : MakesK X.prog X.w X.K X.mg X.base k f κ ok) (hr : Room (k + 2) X.A) : CallRK X (.builtin "sorted") [Str.ofString "key"] (rSortK X.K f κ ok) := by
  intro pins s σ H vs ws us kws Q I r1 r2 h
  obtain ⟨a, zs, rfl, rfl, hs, hok, q⟩ := h
  obtain ⟨its, rv, pl, hz⟩ := I.list hs
  rw [List.length_map] at hz
  obtain ⟨u, rfl, ru⟩ := vals1 r1
  obtain rfl : u = Value.ref a := ru
  obtain ⟨u2, rfl, ru2⟩ := vals1 r2
  obtain rfl : u2 = Value.ref f := ru2
  have hil : its.length = zs.length := by rw [← rv.length, List.length_map]
  have hl := pl.isList
  show wpAny (model X.prog X.w) X.A (call (.builtin "sorted") [.ref a] [(Str.ofString "key", .ref f)]) (EP X pins σ Q) X.xe s
  refine call_function_entry_kw kind_sorted plain_sorted entry_sorted (ksk_s1 _ _) ?_
  unfold Builtin.«sorted»
  refine wpAny_bind (m := checkCount "sorted" 1 1 _) (wpAny_pure ?_)
  refine wpAny_bind (collect_list hl ?_ (by rw [hil]; exact hz))
  refine wpAny_bind (wpAny_newList ?_ (by rw [hil]; exact hz))
  have hsz : ((s.heap.push (seqObj "list" #[] 0)).update s.heap.objs.size (Obj.mapSeq (· ++ its.toArray))).objs.size = s.heap.objs.size + 1 := by
    rw [Heap.size_update, size_push']
  have hoL : (((s.heap.push (seqObj "list" #[] 0)).update s.heap.objs.size (Obj.mapSeq (· ++ its.toArray))).push (seqObj "list" its.toArray 0)).get? (s.heap.objs.size + 1) = some (seqObj "list" its.toArray 0) := by
    rw [← hsz]; exact Heap.get?_push_size _ rfl
  have keep : ∀ b o, s.heap.get? b = some o → (((s.heap.push (seqObj "list" #[] 0)).update s.heap.objs.size (Obj.mapSeq (· ++ its.toArray))).push (seqObj "list" its.toArray 0)).get? b = some o := fun b o q => by
    have hlt : b < s.heap.objs.size := Heap.lt_size q
    refine Heap.get?_push_of_some _ ?_
    rw [Heap.get?_update_ne _ _ _ _ (Nat.ne_of_lt hlt)]
    exact Heap.get?_push_of_some _ q
  show wpAny _ _ _ _ _ { s with heap := ((s.heap.push (seqObj "list" #[] 0)).update s.heap.objs.size (Obj.mapSeq (· ++ its.toArray))).push (seqObj "list" its.toArray 0) }
  rw [hsz]
  have hf1 : H (s.heap.objs.size + 1) = none := I.hok.fresh (Nat.le_succ _)
  have hle1 : s.heap.objs.size ≤ s.heap.objs.size + 1 := Nat.le_succ _
  revert hoL keep hf1 hle1
  generalize ((s.heap.push (seqObj "list" #[] 0)).update s.heap.objs.size (Obj.mapSeq (· ++ its.toArray))).push (seqObj "list" its.toArray 0) = h1
  generalize s.heap.objs.size + 1 = d
  intro hoL keep hf1 hle1
  refine wpAny_bind (wpAny_holding (wpAny_call_entry_kw slot_list_sort ⟨_, hoL, rfl⟩ entry_list_sort ?_ (ksk_l1 _ _)))
  rw [ksk_t1]
  unfold ksk_tree
  refine wpAny_bind (listItems_at hoL rfl ?_)
  refine wpAny_bind (listUpdate_at hoL rfl ?_ (by rw [List.size_toArray, hil]; exact hz) (Nat.zero_le _))
  obtain ⟨e1, ho2⟩ : ∃ e1, (h1.update d (Obj.mapSeq fun _ => #[])).get? d = some (seqObj "list" #[] e1) := ⟨_, get?_update_seq hoL fun _ => #[]⟩
  have keep2 : ∀ b o, s.heap.get? b = some o → (h1.update d (Obj.mapSeq fun _ => #[])).get? b = some o := fun b o q => by
    rw [Heap.get?_update_ne _ _ _ _ (Nat.ne_of_lt (Nat.lt_of_lt_of_le (Heap.lt_size q) hle1))]
    exact keep b o q
  revert ho2 keep2
  dsimp only
  generalize (h1.update d (Obj.mapSeq fun _ => #[])) = h2
  intro ho2 keep2
  refine wpAny_bind (seqEpoch_at ho2 rfl ?_)
  refine wpAny_bind (wpAny_newTuple ?_ (by show its.length ≤ _; rw [hil]; exact hz))
  refine wpAny_bind (wpAny_newList ?_ (Nat.zero_le _))
  refine wpAny_holding ?_
  -- the emptied list, its object told; the list of keys
  have I2 := I.laid (o := .ext fun h => h.get? d = some (seqObj "list" #[] e1)) (t' := s.toks) keep2 hle1 ⟨ho2, ⟨_, ho2⟩, fun _ _ p k => k _ p⟩
  have I3 := (I2.kept (t' := s.toks) (h' := h2.push (seqObj "tuple" its.toArray 0)) fun b o e => Heap.get?_push_of_some _ e).lnew (its := []) (ys := []) (t' := s.toks) .nil (Nat.zero_le _)
  have hfk : (upd H d (.ext fun h => h.get? d = some (seqObj "list" #[] e1))) (h2.push (seqObj "tuple" its.toArray 0)).objs.size = none := (I2.kept (t' := s.toks) (h' := h2.push (seqObj "tuple" its.toArray 0)) fun b o e => Heap.get?_push_of_some _ e).fresh
  revert I3 hfk
  generalize (h2.push (seqObj "tuple" its.toArray 0)).objs.size = kS
  show ∀ _ _, wpAny (model X.prog X.w) X.A.in1.in1 (ksk_rest d (.ref f) false its.toArray e1 (.ref kS)) _ X.xe { s with heap := (h2.push (seqObj "tuple" its.toArray 0)).push (seqObj "list" #[] 0) }
  have eq3 : ((h2.push (seqObj "tuple" its.toArray 0)).push (seqObj "list" #[] 0)) = (h2.push (seqObj "tuple" its.toArray 0)).push { cls := .type "list", data := .seq (List.toArray ([] : List Value)) } := rfl
  rw [eq3]
  generalize (h2.push (seqObj "tuple" its.toArray 0)).push { cls := .type "list", data := .seq (List.toArray ([] : List Value)) } = h3
  intro I3 hfk
  have hkd : kS ≠ d := fun e => by rw [e, upd_same] at hfk; cases hfk
  have hfk0 : H kS = none := by rw [upd_ne hkd] at hfk; exact hfk
  unfold ksk_rest
  refine wpAny_bind (wpAny_rule ?_)
  rw [List.forIn_toArray]
  obtain ⟨fd, ps, sp, hkp, hb, F1, hF⟩ := F
  have mem : ∀ (i : Nat) (v : Value), its[i]? = some v → ∃ z t, zs[i]? = some z ∧ v = .str z t := fun i v hv => by
    have hi := (List.getElem?_eq_some_iff.mp hv).1
    rw [hil] at hi
    obtain ⟨u, hu, ru⟩ := rv.get (i := i) (x := .str zs[i]) (by rw [List.getElem?_map, List.getElem?_eq_getElem hi]; rfl)
    rw [hv] at hu
    cases hu
    obtain ⟨t, rfl⟩ := ru
    exact ⟨zs[i], t, List.getElem?_eq_getElem hi, rfl⟩
  refine wpAny_bind (fold_keys (fun i s' => ∃ (Hk : Hp) (ks : List V), Inv X pins σ Hk s' ∧ Same H Hk ∧ Hk d = some (.ext fun h => h.get? d = some (seqObj "list" #[] e1)) ∧ Hk kS = some (.lst ks) ∧ KysOf Hk κ (zs.take i) ks) its 0 _
    ⟨_, [], I3, fun b o e => ?_, ?_, upd_same, ⟨rfl, fun i z e => by simp at e⟩⟩ ?step ?done)
  · rw [upd_ne (ne_of_none e hfk0), upd_ne (ne_of_none e hf1)]
    exact e
  · rw [upd_ne hkd.symm, upd_same]
  case step =>
    rintro j v s' hv ⟨Hk, ks, J, sm, hd, hk, ky⟩
    rw [Nat.zero_add] at ky ⊢
    obtain ⟨z, t, hzj, rfl⟩ := mem j v hv
    have hr2 : Room k X.A.in1.in1 := (Room.in1 (Room.in1 hr))
    have hsp := hF z Hk (fun v' H' => ∃ t, v' = .ref t ∧ Hk t = none ∧ H' = upd Hk t (.tup [.int (κ z).1, .str (κ z).2])) E0 (hok z (List.mem_of_getElem? hzj)) fun p hp => ⟨p, rfl, hp, rfl⟩
    have rr : Vals [V.str z] [Value.str z t] := .cons ⟨t, rfl⟩ .nil
    have hl2 : ([Value.str z t] : List Value).length = ps.length := by rw [← rr.length]; exact F1.len _ _ _ _ hsp
    have b2 := hb s' [Value.str z t] J.kIn (by rw [List.append_nil]; exact hl2)
    rw [List.append_nil] at b2
    have run : wpAny (model X.prog X.w) X.A.in1.in1 (call (.ref f) [.str z t]) (EP X pins σ fun v' H' => ∃ t, v' = .ref t ∧ Hk t = none ∧ H' = upd Hk t (.tup [.int (κ z).1, .str (κ z).2])) (fun _ _ => False) s' := by
      refine wpAny_call (codeAny_mono (F1.run X.A.in1.in1 X.stack s' Hk ⟨[.str z t], []⟩ _ _ _ E0 hr2 J.env0.in1.in1 b2 rr hsp) fun r s'' hq => ?_)
      cases r with
      | error e =>
        obtain ⟨_, _, _, _, _, _, _, _, _, _, _, _, z⟩ := (show L2N.CX X.prog X.w X.stack Hk s' E0 e s'' from hq)
        exact z.elim
      | ok fl =>
        cases fl with
        | ret u => exact J.after hq
        | next => exact False.elim hq
        | brk => exact False.elim hq
        | cont => exact False.elim hq
    refine wpAny_bind (wpAny_attempt (wpAny_mono run (fun v s'' he => ?_) fun _ _ x => x.elim))
    obtain ⟨v', H', J2, rv2, t2, rfl, nt2, rfl⟩ := he
    obtain rfl : v = Value.ref t2 := rv2
    dsimp only
    have nkt : kS ≠ t2 := fun e => by rw [← e, hk] at nt2; cases nt2
    have ndt : d ≠ t2 := fun e => by rw [← e, hd] at nt2; cases nt2
    have hk2 : (upd Hk t2 (.tup [.int (κ z).1, .str (κ z).2])) kS = some (.lst ks) := (upd_ne nkt).trans hk
    obtain ⟨z2, kits, n2, r2, hl3, ek⟩ := J2.lstM hk2
    have hkl : ks.length < sizeLine := by
      rw [ky.len, List.length_take]
      have := (List.getElem?_eq_some_iff.mp hzj).1
      omega
    refine wpAny_bind (listUpdate_at ek rfl ?_ (by rw [List.size_toArray]; omega) (by rw [Array.size_push, List.size_toArray]; omega))
    refine wpAny_pure ⟨rfl, _, ks ++ [.ref t2], J2.lset (t' := s''.toks) (its' := kits ++ [.ref t2]) (f := (·.push (.ref t2))) (ys := ks ++ [.ref t2]) hk2 ek (by simp) (r2.append (.cons (show RelV (V.ref t2) (Value.ref t2) from rfl) .nil)) (by rw [List.length_append]; simp only [List.length_singleton]; omega), fun b o e => ?_, ?_, upd_same, ?_⟩
    · have e1 := sm b o e
      rw [upd_ne (show b ≠ kS from ne_of_none e hfk0), upd_ne (ne_of_none e1 nt2)]
      exact e1
    · rw [upd_ne hkd.symm, upd_ne ndt]
      exact hd
    · rw [List.take_add_one, hzj]
      refine ky.snoc (fun b o ho e => ?_) ?_
      · obtain ⟨xs, rfl⟩ := ho
        rw [upd_ne (fun z => by rw [z, hk] at e; cases e), upd_ne (ne_of_none e nt2)]
        exact e
      · rw [upd_ne nkt.symm, upd_same]
  case done =>
    rintro s' ⟨Hk, ks, J, sm, hd, hk, ky⟩
    rw [Nat.zero_add, hil, List.take_length] at ky
    obtain ⟨z2, kits, n2, r2, hl3, ek⟩ := J.lstM hk
    have hkl : kits.length = its.length := by rw [← hl3, ky.len, hil]
    refine wpAny_bind (listItems_at ek rfl ?_)
    -- what the keys are
    have pr : ∀ (i : Nat) (v u : Value), kits[i]? = some v → its[i]? = some u → ∃ z t, zs[i]? = some z ∧ u = .str z t ∧ IsIS s'.heap v (κ z) := by
      intro i v u hv hu
      obtain ⟨z, t, hzi, rfl⟩ := mem i u hu
      obtain ⟨a2, hka, hta⟩ := ky.is_ i z hzi
      obtain ⟨v2, hv2, rv2⟩ := r2.get hka
      rw [hv] at hv2
      cases hv2
      obtain rfl : v = Value.ref a2 := rv2
      obtain ⟨_, its2, r3, o, ho, hc, n, hd2⟩ := J.hok _ _ hta
      obtain ⟨u1, u2, rfl, ri, rj⟩ := vals2 r3
      obtain ⟨t1, rfl⟩ := ri
      obtain ⟨t2, rfl⟩ := rj
      exact ⟨z, t, hzi, rfl, a2, o, t1, t2, n, rfl, ho, hc, hd2⟩
    have pz : ∀ p ∈ (kits.toArray.zip its.toArray).toList, ∃ z t, p.2 = .str z t ∧ IsIS s'.heap p.1 (κ z) := by
      intro p hp
      rw [ksk_zip] at hp
      obtain ⟨i, hi⟩ := List.mem_iff_getElem?.mp hp
      rw [List.getElem?_zip_eq_some] at hi
      obtain ⟨z, t, _, e, is⟩ := pr i p.1 p.2 (by simpa using hi.1) hi.2
      exact ⟨z, t, e, is⟩
    have hkis : ∀ v ∈ kits, IsIS s'.heap v (kOf s'.heap v) := by
      intro v hv
      obtain ⟨i, hi⟩ := List.mem_iff_getElem?.mp hv
      have hi2 := (List.getElem?_eq_some_iff.mp hi).1
      obtain ⟨z, t, _, _, is⟩ := pr i v its[i] hi (List.getElem?_eq_getElem (by omega))
      rw [kOf_is is]
      exact is
    have all : ∀ p ∈ (kits.toArray.zip its.toArray).toList, p.1 ∈ kits := fun p hp => by
      rw [ksk_zip] at hp
      have := (List.of_mem_zip (show (p.1, p.2) ∈ _ from hp)).1
      simpa using this
    have psz : (kits.toArray.zip its.toArray).toList.length = its.length := by
      rw [ksk_zip, List.length_zip]
      simp only [List.toList_toArray, List.size_toArray]
      omega
    have hsnd : (kits.toArray.zip its.toArray).toList.map (fun p => backS p.2) = zs := by
      refine List.ext_getElem? fun i => ?_
      rw [List.getElem?_map]
      by_cases hi : i < its.length
      · obtain ⟨z, t, hzi, eu, is⟩ := pr i kits[i] its[i] (List.getElem?_eq_getElem (by omega)) (List.getElem?_eq_getElem hi)
        have : (kits.toArray.zip its.toArray).toList[i]? = some (kits[i], its[i]) := by
          rw [ksk_zip, List.getElem?_zip_eq_some]
          exact ⟨by simp, by simp⟩
        rw [this, hzi]
        show some (backS its[i]) = some z
        rw [eu]
        rfl
      · rw [List.getElem?_eq_none (by omega), List.getElem?_eq_none (by omega)]
        rfl
    have tail : ∀ st' : SortSt, Srtd (lt2 fun v u => ltIS (kOf s'.heap v) (kOf s'.heap u)) (arrOf st').toList → (arrOf st').toList.Perm (kits.toArray.zip its.toArray).toList → failedOf st' = none →
        wpAny (model X.prog X.w) X.A.in1.in1 (ksk_tail d false e1 (.ref kS) st') (fun r s1 => ∃ H' ys, r = .done (.ret .none) ∧ Inv X pins σ H' s1 ∧ Same H H' ∧ H' d = some (.lst (ys.map V.str)) ∧ Srtd (fun x y => ltIS (κ x) (κ y)) ys ∧ ys.Perm zs) X.xe s' := by
      intro st' hs hp hf
      have asz : (arrOf st').size = its.length := by
        rw [← Array.length_toList, hp.length_eq, psz]
      unfold ksk_tail
      try dsimp only
      refine wpAny_bind (listUpdate_at ek rfl ?_ (by rw [List.size_toArray]; omega) (Nat.zero_le _))
      have J2 := J.lset (t' := s'.toks) (its' := []) (f := fun _ => #[]) (ys := []) hk ek rfl .nil (Nat.zero_le _)
      have hd2 : (upd Hk kS (.lst [])) d = some (.ext fun h => h.get? d = some (seqObj "list" #[] e1)) := (upd_ne hkd.symm).trans hd
      refine wpAny_bind (wpAny_letGo ?_)
      obtain ⟨hod, _, _⟩ := J2.hok d _ hd2
      refine wpAny_bind (seqEpoch_at hod rfl ?_)
      refine wpAny_bind (listUpdate_at hod rfl ?_ (Nat.zero_le _) (by simp only [Bool.false_eq_true, if_false, Array.size_map, asz, hil]; omega))
      rw [hf]
      simp only [bne_self_eq_false, Bool.false_eq_true, if_false]
      have pm : ∀ p ∈ (arrOf st').toList, ∃ z t, p.2 = .str z t ∧ IsIS s'.heap p.1 (κ z) := fun p m => pz p (hp.mem_iff.mp m)
      obtain ⟨n9, hn9⟩ : ∃ n, ((s'.heap.update kS (Obj.mapSeq fun _ => #[])).update d (Obj.mapSeq fun _ => (arrOf st').map (·.2))).get? d = some (seqObj "list" ((arrOf st').map (·.2)) n) := ⟨_, get?_update_seq hod fun _ => (arrOf st').map (·.2)⟩
      refine wpAny_pure ⟨upd (upd Hk kS (.lst [])) d (.lst (((arrOf st').toList.map fun p => backS p.2).map V.str)), (arrOf st').toList.map fun p => backS p.2, rfl, ?_, fun b o e => ?_, upd_same, ?_, ?_⟩
      · refine J2.write (t' := s'.toks) (x := d) (e := d) (by rw [hd2]; exact trivial) (.inl rfl) (fun b u hb hu => (Heap.get?_update_other _ _ (Ne.symm hb)).trans hu) ⟨_, hn9⟩ ⟨?_, (arrOf st').toList.map (·.2), n9, back_vals fun p m => ?_, ?_⟩
        · rw [List.length_map, List.length_map, Array.length_toList, asz, hil]
          exact hz
        · obtain ⟨z, t, e, _⟩ := pm p m
          exact ⟨z, t, e⟩
        · refine hn9.trans ?_
          have e2 : ((arrOf st').toList.map (·.2)).toArray = (arrOf st').map (·.2) := by
            apply Array.toList_inj.mp
            simp
          rw [e2]
      · rw [upd_ne (ne_of_none e hf1), upd_ne (ne_of_none e hfk0)]
        exact sm b o e
      · refine List.pairwise_map.mpr (List.Pairwise.imp_of_mem (fun {p q} m1 m2 h => ?_) hs)
        obtain ⟨z, t, e, is⟩ := pm p m1
        obtain ⟨z', t', e', is'⟩ := pm q m2
        rw [e, e']
        have h' : ltIS (kOf s'.heap q.1) (kOf s'.heap p.1) = false := h
        rw [kOf_is is, kOf_is is'] at h'
        exact h'
      · have := hp.map fun p => backS p.2
        rw [hsnd] at this
        exact this
    unfold ksk_end
    simp only [Bool.false_eq_true, if_false]
    refine wpAny_mono (Q := fun r s1 => ∃ H' ys, r = .done (.ret .none) ∧ Inv X pins σ H' s1 ∧ Same H H' ∧ H' d = some (.lst (ys.map V.str)) ∧ Srtd (fun x y => ltIS (κ x) (κ y)) ys ∧ ys.Perm zs) ?_ (fun r s1 h => ?_) fun _ _ z => z
    rotate_left
    · obtain ⟨H', ys, rfl, J3, s3, h3, h4, h5⟩ := h
      refine ⟨_, rfl, ?_⟩
      exact wpAny_pure ⟨_, rfl, .ref d, H', J3, rfl, q H' d ys s3 hf1 h3 h4 h5⟩
    by_cases h2 : its.toArray.size < 2
    · rw [if_pos h2, if_pos h2]
      refine wpAny_bind (wpAny_pure ?_)
      rw [StateT.run_pure]
      refine wpAny_bind (wpAny_pure ?_)
      try dsimp only
      refine tail (SortSt.mk' general' (kits.toArray.zip its.toArray) #[] 7 none) ?_ (List.Perm.refl _) rfl
      show Srtd _ (kits.toArray.zip its.toArray).toList
      rw [List.size_toArray] at h2
      generalize (kits.toArray.zip its.toArray).toList = l at psz
      match l, psz with
      | [], _ => exact List.Pairwise.nil
      | [x], _ => exact List.pairwise_singleton _ _
      | x :: y :: r, psz => simp only [List.length_cons] at psz; omega
    · rw [if_neg h2, if_neg h2]
      rw [List.size_toArray] at h2
      refine wpAny_bind (is_kind (by omega) hkis ?_)
      refine wpAny_bind (wpAny_mono (wpS_sortO (st0 := SortSt.mk' (tuples' true) (kits.toArray.zip its.toArray) #[] 7 none)
        (Q := fun _ st' => Srtd (lt2 fun v u => ltIS (kOf s'.heap v) (kOf s'.heap u)) (arrOf st').toList ∧ (arrOf st').toList.Perm (kits.toArray.zip its.toArray).toList ∧ failedOf st' = none) (swo2 (swo_k _)) (is_cmp hkis) rfl all rfl rfl fun st' a1 a2 a3 => ⟨a1, a2.perm, a3⟩) ?_ fun _ _ e => e)
      rintro ⟨⟨⟩, st'⟩ s2 ⟨rfl, hp1, hp2, hf⟩
      try dsimp only
      exact tail st' hp1 hp2 hf
end
end Y

namespace Y
open PySem PySem.Spec L2 He
/-! ### what the two readers compute -/
def SM : Str := "abcdefghijklmnopqrstuvwxyz"
def okFrom : List Nat → List Nat → Bool
  | _, [] => true
  | b, c :: r => if c ∉ SM.cps.toList ∨ ¬ b < [c] then false else okFrom [c] r
theorem okFrom_cons (b : List Nat) (c : Nat) (r : List Nat) : okFrom b (c :: r) = if c ∉ SM.cps.toList ∨ ¬ b < [c] then false else okFrom [c] r := rfl
def okLetters (s : Str) : Bool := decide (1 ≤ s.length) && decide (s.length ≤ 4) && okFrom [] s.cps.toList
theorem str_get {z : Str} {i : Nat} {c : Nat} (h : z.cps[i]? = some c) : z.cps.toList.drop i = c :: z.cps.toList.drop (i + 1) := by
  have h1 : z.cps.toList[i]? = some c := by simpa using h
  obtain ⟨hi, e⟩ := List.getElem?_eq_some_iff.mp h1
  rw [List.drop_eq_getElem_cons hi, e]
/-- the first place of a sign that is not of the letters -/
def badAt (ls : List Nat) : Nat → List Nat → Option Nat
  | _, [] => none
  | i, c :: r => if c ∈ ls then badAt ls (i + 1) r else some i
/-! ### the law's draws -/
/-- the draws' state: a list of four, the first one a list of ints -/
structure Stt (K : PySem.W.Frag) (D H : Hp) (st : Addr) : Prop where
  ex : ∃ (c : Addr) (a b e : Int) (cells : List Int), H st = some (.lst [.ref c, .int a, .int b, .int e]) ∧ SqL K D c (cells.map V.int) ∧ 1 ≤ cells.length
  free : D st = none
section
variable {K : PySem.W.Frag} {H : Hp} {st : Addr} {x0 x1 x2 x3 v : V} {Q : VK}
theorem s_u0 (k : Q x0 (upd H st (.lst [x0, x1, x2, x3]))) : rIx K (.ref st) (.int 0) (upd H st (.lst [x0, x1, x2, x3])) Q := s_ix_l (sql upd_same) atI_0 k
theorem s_u1 (k : Q x1 (upd H st (.lst [x0, x1, x2, x3]))) : rIx K (.ref st) (.int 1) (upd H st (.lst [x0, x1, x2, x3])) Q := s_ix_l (sql upd_same) (atI_i (j := 1) rfl rfl) k
theorem s_u2 (k : Q x2 (upd H st (.lst [x0, x1, x2, x3]))) : rIx K (.ref st) (.int 2) (upd H st (.lst [x0, x1, x2, x3])) Q := s_ix_l (sql upd_same) (atI_i (j := 2) rfl rfl) k
theorem s_u3 (k : Q x3 (upd H st (.lst [x0, x1, x2, x3]))) : rIx K (.ref st) (.int 3) (upd H st (.lst [x0, x1, x2, x3])) Q := s_ix_l (sql upd_same) (atI_i (j := 3) rfl rfl) k
theorem s_w1 {Q : Hp → Prop} (k : Q (upd H st (.lst [x0, v, x2, x3]))) : rSetL (.ref st) (.int 1) v (upd H st (.lst [x0, x1, x2, x3])) Q := s_setL upd_same (show ixN 4 1 = some 1 from rfl) (by rw [upd_upd]; exact k)
theorem s_w2 {Q : Hp → Prop} (k : Q (upd H st (.lst [x0, x1, v, x3]))) : rSetL (.ref st) (.int 2) v (upd H st (.lst [x0, x1, x2, x3])) Q := s_setL upd_same (show ixN 4 2 = some 2 from rfl) (by rw [upd_upd]; exact k)
theorem s_w3 {Q : Hp → Prop} (k : Q (upd H st (.lst [x0, x1, x2, v]))) : rSetL (.ref st) (.int 3) v (upd H st (.lst [x0, x1, x2, x3])) Q := s_setL upd_same (show ixN 4 3 = some 3 from rfl) (by rw [upd_upd]; exact k)
end
section
variable {K : PySem.W.Frag}
theorem Stt.up {D H D' H' : Hp} {st : Addr} (h : Stt K D H st) (g : Gr No D H D' H') : Stt K D' H' st := by
  obtain ⟨⟨c, a, b, e, cells, h1, h2, h3⟩, h4⟩ := h
  exact ⟨⟨c, a, b, e, cells, g.same _ _ (fun z => z) h1, g.dd.seq h2, h3⟩, g.stay h4 h1⟩
theorem Stt.is {D H : Hp} {st : Addr} (h : Stt K D H st) : H st ≠ none := by
  obtain ⟨⟨c, a, b, e, cells, h1, h2, h3⟩, h4⟩ := h
  rw [h1]
  simp
theorem Stt.put {D H : Hp} {st p : Addr} {o : HO} (h : Stt K D H st) (hp : p ≠ st) : Stt K D (upd H p o) st := by
  obtain ⟨⟨c, a, b, e, cells, h1, h2, h3⟩, h4⟩ := h
  exact ⟨⟨c, a, b, e, cells, (upd_ne hp.symm).trans h1, h2, h3⟩, h4⟩
theorem Stt.frz {D H : Hp} {st p : Addr} {o : HO} (h : Stt K D H st) (hp : p ≠ st) (hD : D p = none) : Stt K (upd D p o) H st := by
  obtain ⟨⟨c, a, b, e, cells, h1, h2, h3⟩, h4⟩ := h
  exact ⟨⟨c, a, b, e, cells, h1, (same_new hD).seq h2, h3⟩, (upd_ne hp.symm).trans h4⟩
theorem Stt.same {D H H' : Hp} {st : Addr} (h : Stt K D H st) (e : Same H H') : Stt K D H' st := by
  obtain ⟨⟨c, a, b, e1, cells, h1, h2, h3⟩, h4⟩ := h
  exact ⟨⟨c, a, b, e1, cells, e _ _ h1, h2, h3⟩, h4⟩
theorem dpl_set {D : Hp} : ∀ {xs : List V} {ds : List PyData} {i : Nat} {v : V} {d : PyData}, DpAll K D xs ds → Dp K D v d → DpAll K D (xs.set i v) (ds.set i d)
  | _, _, i, v, d, .nil, h => .nil
  | _, _, 0, v, d, .cons _ hr, h => .cons h hr
  | _, _, i + 1, v, d, .cons h1 hr, h => .cons h1 (dpl_set hr h)
end
/-- of no sign beyond the codes -/
def Okc (z : Str) : Prop := ∀ c ∈ z.cps.toList, c < 0x110000
theorem Okc.app {a b : Str} (ha : Okc a) (hb : Okc b) : Okc (a ++ b) := fun c hc => by
  have hc : c ∈ TL.tl (a ++ b) := hc
  rw [TL.tl_append] at hc
  rcases List.mem_append.mp hc with h | h
  · exact ha c h
  · exact hb c h
theorem Okc.cut {a : Str} (ha : Okc a) (lo hi : Option Int) : Okc (cutS a lo hi) := fun c hc => ha c (List.mem_of_mem_drop (List.mem_of_mem_take hc))
theorem Okc.chr {a : Str} (ha : Okc a) {i : Nat} (h : i < a.cps.toList.length) : Okc ⟨#[a.cps.toList[i]]⟩ := fun c hc => by
  have : c = a.cps.toList[i] := List.mem_singleton.mp hc
  rw [this]
  exact ha _ (List.getElem_mem h)
theorem okFrom_mem : ∀ {l b : List Nat}, okFrom b l = true → ∀ c ∈ l, c ∈ SM.cps.toList
  | [], _, _, c, z => nomatch z
  | d :: l, b, h, c, z => by
    rw [okFrom_cons] at h
    split at h
    · cases h
    · rename_i hd
      rcases List.mem_cons.mp z with z | z
      · rw [z]
        exact Classical.byContradiction fun y => hd (.inl y)
      · exact okFrom_mem h c z
theorem ok_free {s : Str} (h : okLetters s = true) {c : Nat} (hc : c ∉ SM.cps.toList) : c ∉ s.cps.toList := fun z => by
  unfold okLetters at h
  simp only [Bool.and_eq_true] at h
  exact hc (okFrom_mem h.2 c z)
theorem ok_len {s : Str} (h : okLetters s = true) : 1 ≤ s.length ∧ s.length ≤ 4 := by
  unfold okLetters at h
  simp only [Bool.and_eq_true, decide_eq_true_eq] at h
  exact h.1
theorem ok_okc {s : Str} (h : okLetters s = true) : Okc s := fun c hc => by
  unfold okLetters at h
  simp only [Bool.and_eq_true] at h
  have : ∀ c ∈ SM.cps.toList, c < 0x110000 := by decide +kernel
  exact this c (okFrom_mem h.2 c hc)
theorem strOk_of {z : Str} (h : Okc z) : PyData.strOk z = true := by
  unfold PyData.strOk
  rw [← Array.all_toList, List.all_eq_true]
  intro c hc
  exact decide_eq_true (h c hc)
theorem shaped_lay {d : PyData} (h : SeqAt.shaped d = true) : PyData.canLay0 d = true := by
  unfold SeqAt.shaped at h
  exact (Bool.and_eq_true_iff.mp h).1
section
variable {K : PySem.W.Frag} {H : Hp} {Q : VK} {x y : V} {d : PyData}
theorem s_ne_refl (hx : Dp K H x d) (hy : Dp K H y d) (sd : SeqAt.shaped d = true) (k : Q (.bl false) H) : rNes K x y H Q := s_ne_d hx hy sd sd (by rw [SeqAt.eqv_refl d (shaped_lay sd)]; exact k)
theorem s_eq_refl (hx : Dp K H x d) (hy : Dp K H y d) (sd : SeqAt.shaped d = true) (k : Q (.bl true) H) : rEqs K x y H Q := s_eq_d hx hy sd sd (by rw [SeqAt.eqv_refl d (shaped_lay sd)]; exact k)
end
theorem tyx_tup {K : PySem.W.Frag} {H : Hp} {a : Addr} {xs : List V} (h : SqT K H a xs) : TyX K H (.ref a) (.type "tuple") := by
  rcases h with (h | ⟨o, h⟩) | ⟨o, its, n, h, hc, _⟩
  · exact .base (.tup h)
  · exact .fTuple h
  · exact .kTuple h hc
end Y

namespace Y
open PySem PySem.Spec L2 He
/-! ### sorted with a key -/
def HasK (P : Program) (w : World) (K : PySem.W.Frag) (mg : Str → Option Value) (base : Heap) (k : Nat) (x : Str) (κ : Str → IS) (ok : Str → Prop) : Prop := ∃ f : Addr, mg x = some (.ref f) ∧ MakesK P w K mg base k f κ ok
def tSortK (K : PySem.W.Frag) (κ : Str → IS) (ok : Str → Prop) (t : TA) : TE := fun σ H Q => t σ H fun vs H1 => ∃ (a : Addr) (zs : List Str), vs = [.ref a] ∧ SqL K H1 a (zs.map V.str) ∧ (∀ z ∈ zs, ok z) ∧
  ∀ H' p ys, Same H1 H' → H1 p = none → H' p = some (.lst (ys.map V.str)) → SrtO.Srtd (fun x y => ltIS (κ x) (κ y)) ys → ys.Perm zs → Q (.ref p) H'
theorem has_key {P : Program} {w : World} {K : PySem.W.Frag} {mg : Str → Option Value} {base : Heap} {k : Nat} {x : Str} {sp : Sp} {κ : Str → IS} {ok : Str → Prop} (G : Has P w K mg base k x sp)
    (h : ∀ z H Q E, ok z → (∀ p, H p = none → Q (.ref p) (upd H p (.tup [.int (κ z).1, .str (κ z).2]))) → sp [.str z] H Q E) : HasK P w K mg base k x κ ok := by
  obtain ⟨f, fd, ps, h1, h2, h3, h4⟩ := G
  exact ⟨f, h1, fd, ps, sp, h2, h3, h4, h⟩
section
variable {X : Cx} {k : Nat} {y : Str} {κ : Str → IS} {ok : Str → Prop} {e : Expr} {t : TA} {p p2 pos kpos : Pos}
theorem pe_sortK (K : PySem.W.Frag) (G : HasK X.prog X.w X.K X.mg X.base k y κ ok) (hr : Room (k + 2) X.A) (hgs : Gl X "sorted") (hms : X.mg "sorted" = none) (hgy : Gl X y) (ha : PA X [e] t) (hK : X.K = K := by rfl) (hd : (y == ("__debug__" : Str)) = false := by decide)
    (he : backTo pos (starEach [e] X.env) = (false, eval e X.env) :: backTo pos (starEach [] X.env) := by rfl) (hpl : (backTo pos (starEach [e] X.env)).any (·.1) = false := by rfl)
    (hall : (backToKw pos (keywordEach [⟨some "key", .Name y p2, kpos⟩] X.env)).all (·.1.isSome) = true := by rfl) (hnone : (backToKw pos (keywordEach [⟨some "key", .Name y p2, kpos⟩] X.env)).any (·.1.isNone) = false := by rfl) (hks : (backToKw pos (keywordEach [⟨some "key", .Name y p2, kpos⟩] X.env)).filterMap (·.1) = [Str.ofString "key"] := by rfl) :
    PE X (.Call (.Name "sorted" p) [e] [⟨some "key", .Name y p2, kpos⟩] pos) (tSortK K κ ok t) := by
  subst hK
  obtain ⟨f, hm, F⟩ := G
  have key := pe_callBK (X := X) (p := p) (cr_sortK F hr) hgs hms PyProof.Rows.boot_sorted (pa_mon ha) (pk_cons (nm := some "key") (kpos := kpos) (pe_gC (pos := p2) hgy hm hd) pk_nil) (by decide) (by decide) he hpl hall hnone hks
  refine ⟨fun pins s σ H Q I h => key.run pins s σ H Q I ?_⟩
  have h' : t σ H fun vs H1 => ∃ (a : Addr) (zs : List Str), vs = [.ref a] ∧ SqL X.K H1 a (zs.map V.str) ∧ (∀ z ∈ zs, ok z) ∧
    ∀ H' p ys, Same H1 H' → H1 p = none → H' p = some (.lst (ys.map V.str)) → SrtO.Srtd (fun x y => ltIS (κ x) (κ y)) ys → ys.Perm zs → Q (.ref p) H' := h
  refine ⟨_, h', fun vs H1 z => ?_⟩
  obtain ⟨a, zs, rfl, h1, h2, h3⟩ := z
  exact ⟨a, zs, rfl, rfl, h1, h2, h3⟩
theorem s_sortK {K : PySem.W.Frag} {σ : L2.St} {H : Hp} {Q : VK} (q : t σ H fun vs H1 => ∃ (a : Addr) (zs : List Str), vs = [.ref a] ∧ SqL K H1 a (zs.map V.str) ∧ (∀ z ∈ zs, ok z) ∧
  ∀ H' p ys, Same H1 H' → H1 p = none → H' p = some (.lst (ys.map V.str)) → SrtO.Srtd (fun x y => ltIS (κ x) (κ y)) ys → ys.Perm zs → Q (.ref p) H') : tSortK K κ ok t σ H Q := q
theorem crK_sortIS (K : PySem.W.Frag) (h : X.K = K := by rfl) : CallR X (.builtin "sorted") (rSortIS K) := h ▸ cr_sortIS
end
/-! ### the order of words -/
abbrev kS (z : Str) : IS := ((z.length : Int), z)
def ordLt (x y : Str) : Bool := ltIS (kS x) (kS y)
theorem ordLt_iff {x y : Str} : ordLt x y = true ↔ x.length < y.length ∨ (x.length = y.length ∧ x.cps.toList < y.cps.toList) := by
  unfold ordLt
  rw [ltIS_iff]
  show (x.length : Int) < y.length ∨ ((x.length : Int) = y.length ∧ _) ↔ _
  exact ⟨fun h => h.elim (fun h => .inl (by omega)) fun h => .inr ⟨by omega, h.2⟩, fun h => h.elim (fun h => .inl (by omega)) fun h => .inr ⟨by omega, h.2⟩⟩
theorem ordLt_irr (x : Str) : ordLt x x = false := swo_IS.refl _
theorem ordLt_asym {x y : Str} (h : ordLt x y = true) : ordLt y x = false := ltIS_asym h
theorem ordLt_tot {x y : Str} (h1 : ordLt x y = false) (h2 : ordLt y x = false) : x = y := congrArg Prod.snd (ltIS_tot h1 h2)
theorem ordLe_tr {x y z : Str} (h1 : ordLt y x = false) (h2 : ordLt z y = false) : ordLt z x = false := ltIS_tr h1 h2
theorem ordLt_tr {x y z : Str} (h1 : ordLt x y = true) (h2 : ordLt y z = true) : ordLt x z = true := swo_IS.ltle h1 (ltIS_asym h2)
abbrev Up (l : List Str) : Prop := l.Pairwise fun x y => ordLt x y = true
abbrev UpE (l : List Str) : Prop := l.Pairwise fun x y => ordLt y x = false
theorem Up.e {l : List Str} (h : Up l) : UpE l := h.imp fun h => ordLt_asym h
theorem up_perm : ∀ {l m : List Str}, UpE l → UpE m → l.Perm m → l = m
  | [], m, _, _, h => (List.Perm.eq_nil h.symm).symm
  | x :: l, [], _, _, h => absurd h.length_eq (by simp)
  | x :: l, y :: m, hl, hm, h => by
    obtain ⟨a1, a2⟩ := List.pairwise_cons.mp hl
    obtain ⟨b1, b2⟩ := List.pairwise_cons.mp hm
    have h1 : ordLt x y = false := by
      rcases List.mem_cons.mp (h.mem_iff.mp (List.mem_cons_self (a := x) (l := l))) with e | hx
      · rw [e]
        exact ordLt_irr y
      · exact b1 x hx
    have h2 : ordLt y x = false := by
      rcases List.mem_cons.mp (h.mem_iff.mpr (List.mem_cons_self (a := y) (l := m))) with e | hy
      · rw [e]
        exact ordLt_irr x
      · exact a1 y hy
    have e := ordLt_tot h1 h2
    subst e
    rw [up_perm a2 b2 h.cons_inv]
/-- put in its place, once -/
def insO (z : Str) : List Str → List Str
  | [] => [z]
  | y :: r => if ordLt z y = true then z :: y :: r else if z = y then y :: r else y :: insO z r
theorem insO_cons (z y : Str) (r : List Str) : insO z (y :: r) = if ordLt z y = true then z :: y :: r else if z = y then y :: r else y :: insO z r := rfl
theorem insO_mem {z x : Str} : ∀ {l : List Str}, x ∈ insO z l ↔ x = z ∨ x ∈ l
  | [] => by simp [insO]
  | y :: r => by
    rw [insO_cons]
    split
    · simp
    · split
      · rename_i e
        subst e
        simp
      · simp only [List.mem_cons, insO_mem]
        constructor
        · rintro (h | h | h)
          · exact .inr (.inl h)
          · exact .inl h
          · exact .inr (.inr h)
        · rintro (h | h | h)
          · exact .inr (.inl h)
          · exact .inl h
          · exact .inr (.inr h)
theorem insO_up {z : Str} : ∀ {l : List Str}, Up l → Up (insO z l)
  | [], _ => List.pairwise_singleton _ _
  | y :: r, h => by
    obtain ⟨a1, a2⟩ := List.pairwise_cons.mp h
    rw [insO_cons]
    split
    · rename_i h1
      refine List.pairwise_cons.mpr ⟨fun x hx => ?_, h⟩
      rcases List.mem_cons.mp hx with e | hx
      · rw [e]
        exact h1
      · exact ordLt_tr h1 (a1 x hx)
    · split
      · exact h
      · rename_i h1 h2
        refine List.pairwise_cons.mpr ⟨fun x hx => ?_, insO_up a2⟩
        rcases insO_mem.mp hx with e | hx
        · rw [e]
          cases e1 : ordLt y z with
          | true => rfl
          | false => exact absurd (ordLt_tot (Bool.eq_false_iff.mpr h1) e1) h2
        · exact a1 x hx
/-- the different words in order -/
def inO (l : List Str) : List Str := l.foldr insO []
theorem inO_mem {x : Str} : ∀ {l : List Str}, x ∈ inO l ↔ x ∈ l
  | [] => Iff.rfl
  | y :: r => by
    show x ∈ insO y (inO r) ↔ _
    rw [insO_mem, inO_mem, List.mem_cons]
theorem inO_up : ∀ {l : List Str}, Up (inO l)
  | [] => List.Pairwise.nil
  | _ :: _ => insO_up inO_up
theorem up_nodup {l : List Str} (h : Up l) : l.Nodup := h.imp fun {a b} h e => by
  subst e
  rw [ordLt_irr] at h
  cases h
theorem perm_of_mem {α : Type} [DecidableEq α] {l m : List α} (hl : l.Nodup) (hm : m.Nodup) (h : ∀ x, x ∈ l ↔ x ∈ m) : l.Perm m := (List.perm_ext_iff_of_nodup hl hm).mpr h
/-- ascending, each once, the same words: it is that list -/
theorem inO_uniq {l m : List Str} (h : Up m) (e : ∀ x, x ∈ m ↔ x ∈ l) : m = inO l :=
  up_perm h.e inO_up.e (perm_of_mem (up_nodup h) (up_nodup inO_up) fun x => (e x).trans inO_mem.symm)
theorem inO_same {l : List Str} (h : Up l) : inO l = l := (inO_uniq h fun _ => Iff.rfl).symm
theorem srt_up {ys : List Str} (h : SrtO.Srtd (fun x y => ltIS (kS x) (kS y)) ys) : UpE ys := h
theorem upE_up {ys : List Str} (h : UpE ys) (n : ys.Nodup) : Up ys := by
  refine List.Pairwise.imp_of_mem (fun {a b} _ _ z => z) (List.Pairwise.imp₂ (fun a b (h1 : ordLt b a = false) (h2 : a ≠ b) => ?_) h n)
  cases e : ordLt a b with
  | true => rfl
  | false => exact absurd (ordLt_tot e h1) h2
/-! ### <= of pairs of an int and a text -/
def rLeIS (K : PySem.W.Frag) : R2 := fun x y H Q => ∃ (a b : Addr) (p q : IS), x = .ref a ∧ y = .ref b ∧ SqT K H a [.int p.1, .str p.2] ∧ SqT K H b [.int q.1, .str q.2] ∧ Q (.bl (!ltIS q p)) H
theorem leIS_eq (p q : IS) : (if decide (p.1 = q.1) = true then (if decide (p.2 = q.2) = true then true else !decide (q.2.cps.toList < p.2.cps.toList)) else decide (p.1 ≤ q.1)) = !ltIS q p := by
  unfold ltIS
  by_cases e : p.1 = q.1
  · rw [if_pos (decide_eq_true e), if_pos e.symm]
    by_cases f : p.2 = q.2
    · rw [if_pos (decide_eq_true f), f, decide_eq_false (List.lt_irrefl _)]
      rfl
    · rw [if_neg (by simpa using f)]
  · rw [if_neg (by simpa using e), if_neg fun z => e z.symm]
    by_cases f : p.1 ≤ q.1
    · rw [decide_eq_true f, decide_eq_false (by omega)]
      rfl
    · rw [decide_eq_false f, decide_eq_true (by omega)]
      rfl
theorem op_leIS {X : Cx} (hu : X.A.units < cLine) : OpR X (compareOp .LtE) (rLeIS X.K) := by
  intro pins s σ H x y v u Q I rx ry h
  obtain ⟨a, b, p, q, rfl, rfl, ha, hb, k⟩ := h
  cases rx
  cases ry
  obtain ⟨its, r1, p1, _⟩ := I.tuple ha
  obtain ⟨its2, r2, p2, _⟩ := I.tuple hb
  obtain ⟨u1, u2, rfl, ri, rj⟩ := vals2 r1
  obtain ⟨t1, rfl⟩ := ri
  obtain ⟨t2, rfl⟩ := rj
  obtain ⟨u3, u4, rfl, ri, rj⟩ := vals2 r2
  obtain ⟨t3, rfl⟩ := ri
  obtain ⟨t4, rfl⟩ := rj
  have R := Ob.RcOp.tuples_le (A := X.A) (s := s) (e := fun j => if j = 0 then decide (p.1 = q.1) else decide (p.2 = q.2)) (r := fun j => if j = 0 then decide (p.1 ≤ q.1) else !decide (q.2.cps.toList < p.2.cps.toList)) p1 p2 hu (fun j h1 h2 => by
    match j, h1, h2 with
    | 0, _, _ =>
      show SeqAt.EqAt _ _ (Value.int p.1 t1) (Value.int q.1 t3) _
      have z : (p.1 == q.1) = decide (p.1 = q.1) := by rw [Bool.eq_iff_iff]; simp
      rw [if_pos rfl, ← z]
      exact SeqAt.EqAt.int_int _ _ _ _
    | 1, _, _ =>
      show SeqAt.EqAt _ _ (Value.str p.2 t2) (Value.str q.2 t4) _
      have z : (p.2 == q.2) = decide (p.2 = q.2) := by rw [Bool.eq_iff_iff]; simp
      rw [if_neg (by decide), ← z]
      exact SeqAt.EqAt.str_str _ _ _ _
    | j + 2, h1, _ => exact absurd h1 (by simp)) (fun j h1 h2 _ => by
    match j, h1, h2 with
    | 0, _, _ =>
      show Ob.RcOp _ _ _ (Value.int p.1 t1) (Value.int q.1 t3) _
      rw [if_pos rfl]
      exact Ob.RcOp.le_int _ _ _ _
    | 1, _, _ =>
      show Ob.RcOp _ _ _ (Value.str p.2 t2) (Value.str q.2 t4) _
      rw [if_neg (by decide)]
      exact fun _ _ _ _ h => PySem.P.le_str h
    | j + 2, h1, _ => exact absurd h1 (by simp))
  have z : wpAny (model X.prog X.w) X.A (compareOp .LtE (.ref a) (.ref b)) (EP X pins σ Q) X.xe s := R X.prog X.w X.xe (EP X pins σ Q) ⟨.bl _, H, I, rfl, by
    rw [← leIS_eq] at k
    exact k⟩
  exact z
def rLesA (K : PySem.W.Frag) : R2 := fun x y H Q => rLes x y H Q ∨ rLeIS K x y H Q
theorem cK_leA {X : Cx} (K : PySem.W.Frag) (hu : X.A.units + 64 < cLine) (h : X.K = K := by rfl) : OpR X (compareOp .LtE) (rLesA K) := h ▸ OpR.or c_le (op_leIS (by omega))
section
variable {K : PySem.W.Frag} {H : Hp} {Q : VK} {a b : Addr} {x y v : V} {n : Int}
theorem s_leIS {p q : IS} (ha : SqT K H a [.int p.1, .str p.2]) (hb : SqT K H b [.int q.1, .str q.2]) (k : Q (.bl (!ltIS q p)) H) : rLesA K (.ref a) (.ref b) H Q := .inr ⟨a, b, p, q, rfl, rfl, ha, hb, k⟩
theorem s_popAt {xs : List V} {j : Nat} (h : H a = some (.lst xs)) (e : n = (j : Int)) (h2 : n < 2 ^ 63) (hv : xs[j]? = some v) (k : Q v (upd H a (.lst (xs.eraseIdx j)))) : rPopAt (.ref a) [.int n] H Q := by
  subst e
  refine ⟨a, xs, j, j, v, rfl, rfl, h, by omega, h2, ?_, hv, k⟩
  have := (List.getElem?_eq_some_iff.mp hv).1
  unfold seqIndex?
  have e : (if (j : Int) < 0 then (j : Int) + (xs.length : Int) else (j : Int)) = (j : Int) := if_neg (by omega)
  simp only [e]
  first
  | (rw [if_pos (by omega)]; simp)
  | simp [this]
def rInsert : V → List V → Hp → VK → Prop := fun x vs H Q => ∃ (l : Addr) (xs : List V) (i : Int) (y : V), x = .ref l ∧ vs = [.int i, y] ∧ H l = some (.lst xs) ∧ xs.length < sizeLine ∧ 0 ≤ i ∧ i < 2 ^ 63 ∧
    Q .non (upd H l (.lst (xs.take i.toNat ++ [y] ++ xs.drop i.toNat)))
theorem mt_ins {X : Cx} : MtR X "list.insert" rInsert := mt_insert
theorem s_insert {xs : List V} (h : H a = some (.lst xs)) (hz : xs.length < sizeLine) (h0 : 0 ≤ n) (h1 : n < 2 ^ 63) (k : Q .non (upd H a (.lst (xs.take n.toNat ++ [y] ++ xs.drop n.toNat)))) : rInsert (.ref a) [.int n, y] H Q :=
  ⟨a, xs, n, y, rfl, rfl, h, hz, h0, h1, k⟩
theorem s_listD {kvs : List (Key × V)} (h : H a = some (.dK kvs)) (k : ∀ q, H q = none → Q (.ref q) (upd H q (.lst (kvs.map fun kv => kV kv.1)))) : rListD [.ref a] H Q := ⟨a, kvs, rfl, h, k⟩
end
end Y

namespace Y
open PySem PySem.Spec L2 He
/-! ### keys of a dict with text keys -/
section
variable {α : Type} {R : V → α → Prop}
theorem KvR.keys : ∀ {kvs : List (Key × V)} {t : List (Str × α)}, KvR R kvs t → kvs.map (fun kv => kV kv.1) = (t.map (·.1)).map V.str
  | _, _, .nil => rfl
  | _, _, .cons r s => by
    rw [List.map_cons, List.map_cons, List.map_cons, s.keys]
    rfl
theorem putS_keys (t : List (Str × α)) (k : Str) (v : α) : (putS t k v).map (·.1) = if k ∈ t.map (·.1) then t.map (·.1) else t.map (·.1) ++ [k] := by
  have e : ((t.any fun p => decide (p.1 = k)) = true) ↔ k ∈ t.map (·.1) := by
    rw [List.any_eq_true]
    constructor
    · rintro ⟨p, hp, h⟩
      exact List.mem_map.mpr ⟨p, hp, of_decide_eq_true h⟩
    · intro h
      obtain ⟨p, hp, h⟩ := List.mem_map.mp h
      exact ⟨p, hp, decide_eq_true h⟩
  unfold putS
  by_cases h : (t.any fun p => decide (p.1 = k)) = true
  · rw [if_pos h, if_pos (e.mp h), List.map_map]
    refine List.map_congr_left fun p _ => ?_
    show (if p.1 = k then (p.1, v) else p).1 = p.1
    split <;> rfl
  · rw [if_neg h, if_neg fun z => h (e.mpr z), List.map_append]
    rfl
theorem putS_mem {t : List (Str × α)} {k x : Str} {v : α} : x ∈ (putS t k v).map (·.1) ↔ x = k ∨ x ∈ t.map (·.1) := by
  rw [putS_keys]
  split
  · rename_i h
    exact ⟨.inr, fun z => z.elim (fun e => e ▸ h) id⟩
  · rw [List.mem_append, List.mem_singleton]
    exact ⟨fun z => z.elim .inr .inl, fun z => z.elim .inr .inl⟩
theorem putS_nodup {t : List (Str × α)} {k : Str} {v : α} (h : (t.map (·.1)).Nodup) : ((putS t k v).map (·.1)).Nodup := by
  rw [putS_keys]
  split
  · exact h
  · rename_i hk
    rw [List.nodup_append]
    exact ⟨h, by simp, fun a ha b hb e => hk (by rw [← List.mem_singleton.mp hb, ← e]; exact ha)⟩
end
section
variable {K : PySem.W.Frag} {D : Hp} {v : V} {zs : List Str} {a : Addr}
theorem dp_ST (h : Dp K D v (.tuple (dSs zs))) : ∃ a, v = .ref a ∧ SqT K D a (zs.map V.str) := by
  obtain ⟨a, xs, e, hs, ha⟩ := dp_tuple h
  rw [dpl_strs ha] at hs
  exact ⟨a, e, hs⟩
theorem dp_ofST (h : SqT K D a (zs.map V.str)) : Dp K D (.ref a) (.tuple (dSs zs)) := .tup h dpl_of_strs
end
theorem flat_strs {zs : List Str} : (zs.map V.str).all flatV = true := by
  rw [List.all_map]
  exact List.all_eq_true.mpr fun _ _ => rfl
/-! ### {k: v, ..} -/
section
variable {σ : L2.St} {H : Hp}
theorem s_disp {trs : List (TE × TE)} {Q : VK} (q : ∀ p, H p = none → tPairs trs σ (upd H p (.dK [])) fun ps H2 => H2 p = some (.dK []) ∧ ∃ kvs : List (Key × V), ps = kvs.map (fun kv => (kV kv.1, kv.2)) ∧ kvs.length ≤ 15 ∧ Q (.ref p) (upd H2 p (.dK (mergeK [] kvs)))) : tDisp trs σ H Q := q
theorem s_pnil {Q : List (V × V) → Hp → Prop} (q : Q [] H) : tPairs [] σ H Q := q
theorem s_pcons {tk tv : TE} {r : List (TE × TE)} {Q : List (V × V) → Hp → Prop} (q : tk σ H fun x H1 => tv σ H1 fun y H2 => tPairs r σ H2 fun ps H3 => Q ((x, y) :: ps) H3) : tPairs ((tk, tv) :: r) σ H Q := q
end
/-! ### texts cut and joined -/
theorem sum_len {c : Nat} : ∀ {zs : List Str}, (∀ z ∈ zs, z.length ≤ c) → (zs.map (·.length)).sum ≤ zs.length * c
  | [], _ => by simp
  | z :: zs, h => by
    have h1 := h z (List.mem_cons_self ..)
    have h2 := sum_len fun y hy => h y (List.mem_cons_of_mem _ hy)
    rw [List.map_cons, List.sum_cons, List.length_cons, Nat.add_mul]
    omega
theorem join_len {c : Nat} {y : Str} {zs : List Str} (h : ∀ z ∈ zs, z.length ≤ c) : (Txt.join y zs).length ≤ zs.length * c + zs.length * y.length := by
  rw [TL.join_eq]
  exact Nat.le_trans (StrLaws.join_length_le y zs) (Nat.add_le_add_right (sum_len h) _)
/-! ### sorted pairs (len(word), word) -/
def kH (H : Hp) : V → IS
  | .ref a => match H a with
    | some (.tup [.int n, .str z]) => (n, z)
    | _ => (0, "")
  | _ => (0, "")
theorem kH_at {H : Hp} {t : Addr} {n : Int} {z : Str} (h : H t = some (.tup [.int n, .str z])) : kH H (.ref t) = (n, z) := by
  show (match H t with
    | some (.tup [.int n, .str z]) => (n, z)
    | _ => (0, "")) = (n, z)
  rw [h]
theorem KysOf.map {H : Hp} {zs : List Str} {xs : List V} (h : KysOf H kS zs xs) : xs.map (fun v => (kH H v).2) = zs := by
  refine List.ext_getElem? fun i => ?_
  rw [List.getElem?_map]
  by_cases hi : i < zs.length
  · obtain ⟨t, h1, h2⟩ := h.is_ i zs[i] (List.getElem?_eq_getElem hi)
    rw [h1, List.getElem?_eq_getElem hi]
    show some (kH H (.ref t)).2 = _
    rw [kH_at h2]
  · rw [List.getElem?_eq_none (by rw [h.len]; omega), List.getElem?_eq_none (by omega)]
    rfl
theorem KysOf.mem {H : Hp} {zs : List Str} {xs : List V} (h : KysOf H kS zs xs) : ∀ v ∈ xs, ∃ t z, v = .ref t ∧ H t = some (.tup [.int z.length, .str z]) := by
  intro v hv
  obtain ⟨i, hi⟩ := List.mem_iff_getElem?.mp hv
  have hl := (List.getElem?_eq_some_iff.mp hi).1
  rw [h.len] at hl
  obtain ⟨t, h1, h2⟩ := h.is_ i zs[i] (List.getElem?_eq_getElem hl)
  rw [h1] at hi
  cases hi
  exact ⟨t, _, rfl, h2⟩
theorem KysOf.of {H : Hp} : ∀ {xs : List V}, (∀ v ∈ xs, ∃ t z, v = .ref t ∧ H t = some (.tup [.int z.length, .str z])) → KysOf H kS (xs.map fun v => (kH H v).2) xs
  | xs, h => ⟨by rw [List.length_map], fun i z hz => by
    rw [List.getElem?_map] at hz
    obtain ⟨v, hv, e⟩ := Option.map_eq_some_iff.mp hz
    obtain ⟨t, z', rfl, ht⟩ := h v (List.mem_of_getElem? hv)
    rw [kH_at ht] at e
    dsimp only at e
    subst e
    exact ⟨t, hv, ht⟩⟩
theorem s_sortW {K : PySem.W.Frag} {H : Hp} {Q : VK} {a : Addr} {zs : List Str} {xs : List V} (h : SqL K H a xs) (ky : KysOf H kS zs xs)
    (k : ∀ ys ws p, ws.Perm zs → UpE ws → KysOf H kS ws ys → H p = none → Q (.ref p) (upd H p (.lst ys))) : rSortIS K [.ref a] H Q := by
  refine ⟨a, xs, kH H, rfl, h, fun x hx => ?_, fun ys p hs hb np => ?_⟩
  · obtain ⟨t, z, rfl, ht⟩ := ky.mem x hx
    refine ⟨t, rfl, ?_⟩
    rw [kH_at ht]
    exact ht
  · have hm : ∀ v ∈ ys, ∃ t z, v = .ref t ∧ H t = some (.tup [.int z.length, .str z]) := fun v hv => ky.mem v (hb.perm.mem_iff.mp hv)
    refine k ys (ys.map fun v => (kH H v).2) p ?_ ?_ (KysOf.of hm) np
    · rw [← ky.map]
      exact hb.perm.map _
    · refine List.pairwise_map.mpr (List.Pairwise.imp_of_mem (fun {x y} hx hy h => ?_) hs)
      obtain ⟨t, z, rfl, ht⟩ := hm x hx
      obtain ⟨t', z', rfl, ht'⟩ := hm y hy
      have h' : ltIS (kH H (.ref t')) (kH H (.ref t)) = false := h
      rw [kH_at ht, kH_at ht'] at h' ⊢
      exact h'
/-! ### the small letters -/
theorem SM_at : ∀ i : Nat, i < 26 → SM.cps.toList[i]? = some (97 + i) := by decide +kernel
theorem SM_mem {c : Nat} (h1 : 97 ≤ c) (h2 : c < 123) : c ∈ SM.cps.toList := by
  have := SM_at (c - 97) (by omega)
  rw [show 97 + (c - 97) = c by omega] at this
  exact List.mem_of_getElem? this
theorem lt_one {c d : Nat} (h : c < d) : ([c] : List Nat) < [d] := List.Lex.rel h
theorem okFrom_snoc {c d : Nat} (hd : d ∈ SM.cps.toList) (hc : c < d) : ∀ {l : List Nat} {b : List Nat}, okFrom b (l ++ [c]) = true → okFrom b (l ++ [c] ++ [d]) = true
  | [], b, h => by
    have h : okFrom b [c] = true := h
    show okFrom b (c :: [d]) = true
    rw [okFrom_cons] at h ⊢
    split at h
    · cases h
    · rename_i e
      rw [if_neg e, okFrom_cons, if_neg (fun z => z.elim (fun z => z hd) fun z => z (lt_one hc))]
      rfl
  | x :: l, b, h => by
    have h : okFrom b (x :: (l ++ [c])) = true := h
    show okFrom b (x :: (l ++ [c] ++ [d])) = true
    rw [okFrom_cons] at h ⊢
    split at h
    · cases h
    · rename_i e
      rw [if_neg e]
      exact okFrom_snoc hd hc h
theorem okFrom_one {c : Nat} (h : c ∈ SM.cps.toList) : okFrom [] [c] = true := by
  rw [okFrom_cons, if_neg (fun z => z.elim (fun z => z h) fun z => z (List.nil_lt_cons _ _))]
  rfl
end Y

namespace Y
open PySem PySem.Spec L2 He
section
variable {K : PySem.W.Frag}
theorem kitC {t a : Value} {r : List Value} {x y : Bool} (h1 : PySem.W.kitOne K t a = some x) (h2 : PySem.W.kitAny K t r = some y) : PySem.W.kitAny K t (a :: r) = some (x || y) := by
  unfold PySem.W.kitAny
  rw [h1]
  cases x
  · exact h2
  · rfl
theorem kit1 {t a : Value} {x : Bool} (h1 : PySem.W.kitOne K t a = some x) : PySem.W.kitAny K t [a] = some x := by
  unfold PySem.W.kitAny
  rw [h1]
  cases x <;> rfl
theorem DOk.up {H H' : Hp} {d : Option Addr} (s : Same H H') (h : DOk H d) : DOk H' d := by
  cases d with
  | none => trivial
  | some dd =>
    obtain ⟨fs, e⟩ := h
    exact ⟨fs, s _ _ e⟩
end
section
variable {X : Cx} (K : PySem.W.Frag)
theorem cK_isi (h : X.K = K := by rfl) : CallR X (.builtin "isinstance") (rIsi K) := h ▸ call_isi
theorem cK_isiT (h : X.K = K := by rfl) : CallR X (.builtin "isinstance") (rIsiT K) := h ▸ call_isiT
end
end Y

namespace Y
open PySem PySem.Spec L2 He
/-! ### comprehensions of two fors -/
/-- the inner for -/
def Lq1 (g1 : TG) (tt1 : TT) (te : TE) (vs1 : List Nat) (J1 : It) (σ2 : L2.St) (H4 : Hp) (D : Addr) (Nx : Hp → Prop) : Prop := ∃ W1 : Nat → Nat → Hp → Prop, (∃ m, W1 0 m H4) ∧ ∀ j k H, W1 j k H →
      (J1.stop j H ∧ Nx H) ∨ (J1.go j H ∧ ∃ Nx1 : Hp → Prop, (∀ H', Nx1 H' → ∃ k', k' < k ∧ W1 (j + 1) k' H') ∧ ∀ x H', J1.yld j H x H' → g1 x (wipe σ2 vs1) H' fun σ3 H5 => wipe σ3 vs1 = wipe σ2 vs1 ∧ tt1 σ3 H5 fun b H6 =>
        if b = true then te σ3 H6 fun y H7 => ∃ acc, H7 D = some (.lst acc) ∧ acc.length < sizeLine ∧ Nx1 (upd H7 D (.lst (acc ++ [y]))) else Nx1 H6)
def Lq2 (g : TG) (tt : TT) (wi1 : TI) (g1 : TG) (tt1 : TT) (te : TE) (vs vs1 : List Nat) (J : It) (σ : L2.St) (H1 : Hp) (D : Addr) (Qd : Hp → Prop) : Prop := ∃ W : Nat → Nat → Hp → Prop, (∃ m, W 0 m (upd H1 D (.lst []))) ∧ ∀ i m H, W i m H →
  (J.stop i H ∧ Qd H) ∨ (J.go i H ∧ ∃ Nx : Hp → Prop, (∀ H', Nx H' → ∃ m', m' < m ∧ W (i + 1) m' H') ∧ ∀ x H', J.yld i H x H' → g x (wipe σ vs) H' fun σ2 H2 => wipe σ2 vs = wipe σ vs ∧ tt σ2 H2 fun b H3 =>
    if b = true then wi1 σ2 H3 fun J1 H4 => Lq1 g1 tt1 te vs1 J1 σ2 H4 D Nx else Nx H3)
theorem s_lc2 {wi : TI} {g : TG} {tt : TT} {wi1 : TI} {g1 : TG} {tt1 : TT} {te : TE} {vs vs1 : List Nat} {σ : L2.St} {H : Hp} {Q : VK} (k : wi σ H fun J H1 => ∀ p, H1 p = none → Lq2 g tt wi1 g1 tt1 te vs vs1 J σ H1 p (fun H2 => Q (.ref p) H2)) : tLc2 wi g tt wi1 g1 tt1 te vs vs1 σ H Q := k
theorem lq1_it {J : It} {n : Nat} {G : Hp → Prop} {Y : Nat → Hp → V → Hp → Prop} (w : Walk J n G Y) {g : TG} {tt : TT} {te : TE} {vs : List Nat} {σ : L2.St} {H1 : Hp} {D : Addr} {Qd : Hp → Prop} (Pv : Nat → Hp → Prop) (h0 : Pv 0 H1) (hG : ∀ i H, i ≤ n → Pv i H → G H)
    (hs : ∀ i x H H', i < n → Pv i H → Y i H x H' → g x (wipe σ vs) H' fun σ2 H2 => wipe σ2 vs = wipe σ vs ∧ tt σ2 H2 fun b H3 =>
      if b = true then te σ2 H3 fun y H4 => ∃ acc, H4 D = some (.lst acc) ∧ acc.length < sizeLine ∧ Pv (i + 1) (upd H4 D (.lst (acc ++ [y]))) else Pv (i + 1) H3) (hd : ∀ H, Pv n H → Qd H) : Lq1 g tt te vs J σ H1 D Qd := by
  refine ⟨fun i m H => m = n - i ∧ i ≤ n ∧ Pv i H, ⟨n, by simp, Nat.zero_le _, h0⟩, ?_⟩
  rintro i m H ⟨rfl, hi, p⟩
  have q := hG i H hi p
  by_cases hlt : i < n
  · refine .inr ⟨w.goes i H hlt q, Pv (i + 1), fun H' p' => ⟨n - (i + 1), by omega, rfl, hlt, p'⟩, fun x H' y => hs i x H H' hlt p (w.yields i H x H' hlt q y)⟩
  · have e : i = n := by omega
    subst e
    exact .inl ⟨w.stops H q, hd H p⟩
theorem lq2_it {J : It} {n : Nat} {G : Hp → Prop} {Y : Nat → Hp → V → Hp → Prop} (w : Walk J n G Y) {g : TG} {tt : TT} {wi1 : TI} {g1 : TG} {tt1 : TT} {te : TE} {vs vs1 : List Nat} {σ : L2.St} {H1 : Hp} {D : Addr} {Qd : Hp → Prop} (Pv : Nat → Hp → Prop) (h0 : Pv 0 (upd H1 D (.lst []))) (hG : ∀ i H, i ≤ n → Pv i H → G H)
    (hs : ∀ i x H H', i < n → Pv i H → Y i H x H' → g x (wipe σ vs) H' fun σ2 H2 => wipe σ2 vs = wipe σ vs ∧ tt σ2 H2 fun b H3 =>
      if b = true then wi1 σ2 H3 fun J1 H4 => Lq1 g1 tt1 te vs1 J1 σ2 H4 D (Pv (i + 1)) else Pv (i + 1) H3) (hd : ∀ H, Pv n H → Qd H) : Lq2 g tt wi1 g1 tt1 te vs vs1 J σ H1 D Qd := by
  refine ⟨fun i m H => m = n - i ∧ i ≤ n ∧ Pv i H, ⟨n, by simp, Nat.zero_le _, h0⟩, ?_⟩
  rintro i m H ⟨rfl, hi, p⟩
  have q := hG i H hi p
  by_cases hlt : i < n
  · refine .inr ⟨w.goes i H hlt q, Pv (i + 1), fun H' p' => ⟨n - (i + 1), by omega, rfl, hlt, p'⟩, fun x H' y => hs i x H H' hlt p (w.yields i H x H' hlt q y)⟩
  · have e : i = n := by omega
    subst e
    exact .inl ⟨w.stops H q, hd H p⟩
/-! ### all words of so many letters -/
def growL (l : Str) (ws : List Str) : List Str := ws.flatMap fun w => l.cps.toList.map fun c => w ++ ⟨#[c]⟩
def layerM (l : Str) : Nat → List Str
  | 0 => [""]
  | n + 1 => growL l (layerM l n)
/-- of one to so many letters -/
def viewsM (l : Str) : Nat → List Str
  | 0 => []
  | n + 1 => viewsM l n ++ layerM l (n + 1)
def wordsM (l : Str) (n : Nat) : List Str := "" :: viewsM l n
theorem grow_take (l : Str) (ws : List Str) (i : Nat) (w : Str) (h : ws[i]? = some w) : growL l (ws.take (i + 1)) = growL l (ws.take i) ++ l.cps.toList.map fun c => w ++ ⟨#[c]⟩ := by
  unfold growL
  rw [List.take_add_one, h, List.flatMap_append]
  simp
theorem grow_len (l : Str) : ∀ (ws : List Str), (growL l ws).length = ws.length * l.length
  | [] => by simp [growL]
  | w :: r => by
    have := grow_len l r
    unfold growL at this ⊢
    rw [List.flatMap_cons, List.length_append, this, List.length_map, len_list, List.length_cons, Nat.add_mul]
    omega
theorem layer_len (l : Str) : ∀ n, (layerM l n).length = l.length ^ n
  | 0 => rfl
  | n + 1 => by
    show (growL l (layerM l n)).length = _
    rw [grow_len, layer_len, Nat.pow_succ]
theorem layer_mem {l : Str} : ∀ {n : Nat} {w : Str}, w ∈ layerM l n ↔ w.length = n ∧ ∀ c ∈ w.cps.toList, c ∈ l.cps.toList
  | 0, w => by
    constructor
    · intro h
      have : w = "" := List.mem_singleton.mp h
      rw [this]
      exact ⟨rfl, fun c z => nomatch z⟩
    · rintro ⟨h, _⟩
      refine List.mem_singleton.mpr ?_
      refine TL.ext_tl ?_
      show w.cps.toList = []
      exact List.eq_nil_of_length_eq_zero (by rw [len_list]; exact h)
  | n + 1, w => by
    show w ∈ growL l (layerM l n) ↔ _
    unfold growL
    rw [List.mem_flatMap]
    constructor
    · rintro ⟨v, hv, hw⟩
      obtain ⟨c, hc, rfl⟩ := List.mem_map.mp hw
      obtain ⟨h1, h2⟩ := layer_mem.mp hv
      refine ⟨by rw [app_len, h1]; rfl, fun d hd => ?_⟩
      have hd : d ∈ TL.tl (v ++ ⟨#[c]⟩) := hd
      rw [TL.tl_append] at hd
      rcases List.mem_append.mp hd with hd | hd
      · exact h2 d hd
      · rw [show d = c from List.mem_singleton.mp hd]
        exact hc
    · rintro ⟨h1, h2⟩
      have hne : w.cps.toList ≠ [] := fun e => by
        have := len_list w
        rw [e, h1] at this
        cases this
      obtain ⟨M, c, e⟩ := SrtO.snoc_of (l := w.cps.toList) (List.length_pos_iff.mpr hne)
      have hl : (⟨M.toArray⟩ : Str).length = n := by
        have := len_list w
        rw [e, h1, List.length_append] at this
        show M.toArray.size = n
        rw [List.size_toArray]
        simpa using this
      refine ⟨⟨M.toArray⟩, layer_mem.mpr ⟨hl, fun d hd => h2 d (by rw [e]; exact List.mem_append_left _ (by simpa using hd))⟩, List.mem_map.mpr ⟨c, h2 c (by rw [e]; simp), ?_⟩⟩
      refine TL.ext_tl ?_
      rw [TL.tl_append]
      show (M.toArray.toList ++ [c]) = w.cps.toList
      rw [e]
theorem views_mem {l : Str} {w : Str} : ∀ {n : Nat}, w ∈ viewsM l n ↔ 1 ≤ w.length ∧ w.length ≤ n ∧ ∀ c ∈ w.cps.toList, c ∈ l.cps.toList
  | 0 => ⟨fun z => (nomatch z), fun z => by omega⟩
  | n + 1 => by
    show w ∈ viewsM l n ++ layerM l (n + 1) ↔ _
    rw [List.mem_append, views_mem, layer_mem]
    constructor
    · rintro (⟨a, b, c⟩ | ⟨a, b⟩)
      · exact ⟨a, by omega, c⟩
      · exact ⟨by omega, by omega, b⟩
    · rintro ⟨a, b, c⟩
      by_cases h : w.length ≤ n
      · exact .inl ⟨a, h, c⟩
      · exact .inr ⟨by omega, c⟩
end Y
namespace Y
open PySem PySem.Spec L2 He
theorem s_aug1 {σ : L2.St} {H : Hp} {D : Ends} {i : Nat} {n m : Int} (h : σ[i]? = some (some (.int n))) (k : D.nx (σ.set i (some (.int (n + m)))) H) : tAug i (tC (.int m)) (ipI fun i j => i + j) D σ H := ⟨_, h, _, _, rfl, rfl, k⟩
def Ones (im : Str) (t : List (Str × Str)) : Prop := ∀ p ∈ t, ∃ c ∈ im.cps.toList, p.2 = ⟨#[c]⟩
theorem Ones.put {im : Str} {t : List (Str × Str)} {k : Str} {c : Nat} (h : Ones im t) (hc : c ∈ im.cps.toList) : Ones im (putS t k ⟨#[c]⟩) := by
  intro p hp
  unfold putS at hp
  split at hp
  · obtain ⟨q, hq, e⟩ := List.mem_map.mp hp
    split at e
    · rw [← e]
      exact ⟨c, hc, rfl⟩
    · rw [← e]
      exact h q hq
  · rcases List.mem_append.mp hp with hp | hp
    · exact h p hp
    · rw [List.mem_singleton.mp hp]
      exact ⟨c, hc, rfl⟩
end Y

namespace H89
open PySem PySem.Spec L2 He Y Hk89
local macro_rules | `(tactic| walk_at "rd1") => `(tactic| first
  | with_reducible refine s_seq ?_
  | with_reducible refine s_asg ?_
  | with_reducible refine s_gname ?_
  | ((with_reducible refine s_var (v := ?_) ?_ ?_); rotate_left; exact rfl)
  | with_reducible refine s_c ?_
  | with_reducible refine s_op ?_
  | with_reducible refine s_un ?_
  | with_reducible refine s_nil ?_
  | with_reducible refine s_cons ?_
  | with_reducible refine s_CB ?_
  | with_reducible refine s_ifS ?_
  | with_reducible refine s_test ?_
  | with_reducible refine s_B ?_
  | with_reducible refine s_xb ?_
  | with_reducible refine s_xi ?_
  | with_reducible refine s_xs ?_
  | with_reducible refine s_or ?_
  | with_reducible refine s_and ?_
  | with_reducible refine s_not ?_
  | with_reducible refine s_orV ?_
  | with_reducible refine s_andV ?_
  | with_reducible refine s_notV ?_
  | with_reducible refine s_ret ?_
  | with_reducible refine s_retN ?_
  | with_reducible refine s_next ?_
  | with_reducible refine s_drop ?_
  | with_reducible refine s_yes ?_
  | with_reducible refine s_for ?_
  | with_reducible refine s_lc ?_
  | with_reducible refine s_iStr ?_
  | with_reducible refine s_iList ?_
  | with_reducible refine s_iTup ?_
  | with_reducible refine s_iR1 ?_
  | with_reducible refine s_iR2 ?_
  | with_reducible refine s_iE ?_
  | with_reducible refine s_iET ?_
  | with_reducible refine s_iES ?_
  | with_reducible refine s_tup ?_
  | with_reducible refine s_lst ?_
  | with_reducible refine s_BM ?_
  | with_reducible refine s_BM0 ?_
  | with_reducible refine s_BMS _ ?_
  | with_reducible refine s_M1 ?_
  | with_reducible refine s_sl ?_
  | with_reducible refine s_noP ?_
  | with_reducible refine s_po ?_
  | with_reducible refine s_call ?_
  | with_reducible refine s_callS ?_
  | with_reducible refine s_make ?_
  | with_reducible refine s_makeS ?_
  | with_reducible refine s_methS ?_
  | with_reducible refine s_callO ?_
  | with_reducible refine s_dnew ?_
  | with_reducible refine s_dget ?_
  | with_reducible refine s_din ?_
  | with_reducible refine s_dnin ?_
  | with_reducible refine s_dput ?_
  | with_reducible refine s_dsetd ?_
  | with_reducible refine s_dget2 ?_
  | with_reducible refine s_fld ?_
  | with_reducible refine s_sFld ?_
  | with_reducible refine s_rz ?_
  | with_reducible refine s_asgS ?_
  | with_reducible refine s_gSub ?_
  | with_reducible refine s_ifE ?_
  | with_reducible refine s_add_i ?_
  | with_reducible refine s_sub ?_
  | with_reducible refine s_neg ?_
  | with_reducible refine s_eq_i ?_
  | with_reducible refine s_eq_s ?_
  | with_reducible refine s_ne_i ?_
  | with_reducible refine s_ne_s ?_
  | with_reducible refine s_lt_i ?_
  | with_reducible refine s_le_i ?_
  | with_reducible refine s_gt_i ?_
  | with_reducible refine s_ge_i ?_
  | with_reducible refine s_lt_s ?_
  | with_reducible refine s_le_s ?_
  | with_reducible refine s_gt_s ?_
  | with_reducible refine s_ge_s ?_
  | with_reducible refine s_in_c ?_
  | with_reducible refine s_ni_c ?_
  | with_reducible refine s_isN ?_
  | with_reducible refine s_noN ?_
  | with_reducible refine s_abs ?_
  | with_reducible refine s_min2 ?_
  | with_reducible refine s_max2 ?_
  | with_reducible refine s_int_i ?_
  | ((with_reducible refine s_len_s ?_ ?_); assumption)
  | ((with_reducible refine s_len_l (xs := ?_) ?_ ?_); rotate_left; assumption)
  | ((with_reducible refine s_len_t (xs := ?_) ?_ ?_); rotate_left; assumption)
  | with_reducible refine s_pair upd_same ?_
  | with_reducible refine s_callS ?_
  | with_reducible refine s_sortK ?_
  | with_reducible refine s_lc2 ?_
  | with_reducible refine s_disp ?_
  | with_reducible refine s_pcons ?_
  | with_reducible refine s_pnil ?_
  | ((with_reducible refine s_ix_t (by assumption) (by first | exact atI_0 | exact atI_i (j := 1) rfl rfl | exact atI_i (j := 2) rfl rfl | exact atI_i (j := 3) rfl rfl) ?_))
  | with_reducible refine jtT ?_
  | with_reducible refine jtF ?_
  | with_reducible refine jtNT ?_
  | with_reducible refine jtNF ?_
  | dsimp only)
local macro_rules | `(tactic| walk_at "rd") => `(tactic| repeat (walk_at "rd1"))

theorem pow_le {b n m : Nat} (hb : b ≤ 4) (hn : n ≤ m) : b ^ n ≤ 4 ^ m := Nat.le_trans (Nat.pow_le_pow_left hb n) (Nat.pow_le_pow_right (by decide) hn)
theorem layer_bd {l : Str} (h : l.length ≤ 4) {n : Nat} (hn : n ≤ 7) : (layerM l n).length ≤ 16384 := by
  rw [layer_len]
  exact pow_le h hn
theorem views_bd {l : Str} (h : l.length ≤ 4) : ∀ {n : Nat}, n ≤ 7 → (viewsM l n).length ≤ 16384 * n
  | 0, _ => Nat.le_refl _
  | n + 1, hn => by
    show (viewsM l n ++ layerM l (n + 1)).length ≤ _
    rw [List.length_append]
    have := views_bd h (n := n) (by omega)
    have := layer_bd h hn
    omega
theorem words_bd {l : Str} (h : l.length ≤ 4) {n : Nat} (hn : n ≤ 7) : (wordsM l n).length ≤ 200000 := by
  show (viewsM l n).length + 1 ≤ _
  have := views_bd h hn
  omega
theorem words_succ (l : Str) (n : Nat) : wordsM l (n + 1) = wordsM l n ++ layerM l (n + 1) := rfl
theorem words_mem {l : Str} {n : Nat} {w : Str} (h : w ∈ wordsM l n) : w.length ≤ n := by
  rcases List.mem_cons.mp h with e | h
  · rw [e]
    exact Nat.zero_le _
  · exact (views_mem.mp h).2.1
/-- the longest of the words, each with one letter more: the next layer -/
theorem grow_last (l : Str) (n : Nat) : ((wordsM l n).flatMap fun w => if w.length = n then l.cps.toList.map fun c => w ++ ⟨#[c]⟩ else []) = layerM l (n + 1) := by
  cases n with
  | zero =>
    show ((([""] : List Str)).flatMap _) = growL l [""]
    rfl
  | succ n =>
    rw [words_succ, List.flatMap_append]
    have e1 : ((wordsM l n).flatMap fun w => if w.length = n + 1 then l.cps.toList.map fun c => w ++ ⟨#[c]⟩ else []) = [] := by
      rw [List.flatMap_eq_nil_iff]
      intro w hw
      rw [if_neg]
      have := words_mem hw
      omega
    rw [e1, List.nil_append]
    show _ = growL l (layerM l (n + 1))
    unfold growL
    have : ∀ ws : List Str, (∀ w ∈ ws, w.length = n + 1) → (ws.flatMap fun w => if w.length = n + 1 then l.cps.toList.map fun c => w ++ ⟨#[c]⟩ else []) = ws.flatMap fun w => l.cps.toList.map fun c => w ++ ⟨#[c]⟩ := by
      intro ws h
      induction ws with
      | nil => rfl
      | cons x r ih =>
        rw [List.flatMap_cons, List.flatMap_cons, ih fun w hw => h w (List.mem_cons_of_mem _ hw), if_pos (h x (List.mem_cons_self ..))]
    exact this _ fun w hw => (layer_mem.mp hw).1
section
variable {P : Program} {w : World} {K : PySem.W.Frag} {mg : Str → Option Value} {base : Heap}
theorem S_BadText : IniScope ["self", "line"] ["self", "line"] (i_BadText).scope := ⟨rfl, rfl, rfl, by decide, rfl, by decide +kernel, by decide +kernel, by decide +kernel, by decide +kernel, by decide +kernel⟩
theorem z_BadText (T : Txt P w K mg) : Rz P w K mg base "BadText" (ga K "BadText") ["line"] := by
  refine rz_of T.i_BadText T.g_BadText T.e_BadText.o S_BadText rfl rfl (by decide) (fun env => ⟨_, rfl⟩) rfl (fun _ _ _ _ _ _ _ us hl => match us, hl with | [_, _], _ => rfl) ?_
  intro kV doc pm an cdv ct cc A outer s H a ws Q E hl ha q
  obtain ⟨w1, rfl⟩ : ∃ w1, ws = [w1] := by
    match ws, hl with
    | [w1], _ => exact ⟨w1, rfl⟩
  refine ⟨_, pss_one (ps_ost (pv 0) (pv 1)), ?_⟩
  exact ⟨_, rfl, _, rfl, a, _, rfl, T.e_BadText.o, T.no_BadText_line, .inl ⟨ha, fun dx h1 h2 => q dx h1 h2⟩⟩
theorem S_BadWord : IniScope ["self", "word", "place"] ["self", "word", "place"] (i_BadWord).scope := ⟨rfl, rfl, rfl, by decide, rfl, by decide +kernel, by decide +kernel, by decide +kernel, by decide +kernel, by decide +kernel⟩
theorem z_BadWord (T : Txt P w K mg) : Rz P w K mg base "BadWord" (ga K "BadWord") ["word", "place"] := by
  refine rz_of T.i_BadWord T.g_BadWord T.e_BadWord.o S_BadWord rfl rfl (by decide) (fun env => ⟨_, rfl⟩) rfl (fun _ _ _ _ _ _ _ us hl => match us, hl with | [_, _, _], _ => rfl) ?_
  intro kV doc pm an cdv ct cc A outer s H a ws Q E hl ha q
  obtain ⟨w1, w2, rfl⟩ : ∃ w1 w2, ws = [w1, w2] := by
    match ws, hl with
    | [w1, w2], _ => exact ⟨w1, w2, rfl⟩
  refine ⟨_, pss_cons (ps_ost (pv 0) (pv 1)) (pss_one (ps_ost (pv 0) (pv 2))), ?_⟩
  refine ⟨_, rfl, _, rfl, a, _, rfl, T.e_BadWord.o, T.no_BadWord_word, .inl ⟨ha, fun dx h1 h2 => ?_⟩⟩
  refine ⟨_, rfl, _, rfl, a, _, rfl, T.e_BadWord.o, T.no_BadWord_place, .inr ⟨dx, _, upd_same, (upd_ne h2).trans upd_same, by simp, ?_⟩⟩
  have e : upd (upd (upd H dx (exd dx [("word", w1)])) a (exo a (ga K "BadWord") (some dx))) dx (exd dx [("place", w2), ("word", w1)]) = upd (upd H dx (exd dx [("place", w2), ("word", w1)])) a (exo a (ga K "BadWord") (some dx)) := by
    funext b
    by_cases hb : b = dx
    · rw [hb, upd_same, upd_ne h2, upd_same]
    · rw [upd_ne hb]
      by_cases hc : b = a
      · rw [hc, upd_same, upd_same]
      · rw [upd_ne hc, upd_ne hc, upd_ne hb, upd_ne hb]
  show Q .non _
  rw [e]
  exact q dx h1 h2
theorem S_TooMany : IniScope ["self", "limit"] ["self", "limit"] (i_TooMany).scope := ⟨rfl, rfl, rfl, by decide, rfl, by decide +kernel, by decide +kernel, by decide +kernel, by decide +kernel, by decide +kernel⟩
theorem z_TooMany (T : Txt P w K mg) : Rz P w K mg base "TooMany" (ga K "TooMany") ["limit"] := by
  refine rz_of T.i_TooMany T.g_TooMany T.e_TooMany.o S_TooMany rfl rfl (by decide) (fun env => ⟨_, rfl⟩) rfl (fun _ _ _ _ _ _ _ us hl => match us, hl with | [_, _], _ => rfl) ?_
  intro kV doc pm an cdv ct cc A outer s H a ws Q E hl ha q
  obtain ⟨w1, rfl⟩ : ∃ w1, ws = [w1] := by
    match ws, hl with
    | [w1], _ => exact ⟨w1, rfl⟩
  refine ⟨_, pss_one (ps_ost (pv 0) (pv 1)), ?_⟩
  exact ⟨_, rfl, _, rfl, a, _, rfl, T.e_TooMany.o, T.no_TooMany_limit, .inl ⟨ha, fun dx h1 h2 => q dx h1 h2⟩⟩
theorem S_check_letters : FnScope ["letters", "before", "letter"] ["letters"] (d_check_letters).scope := ⟨rfl, rfl, rfl, by decide +kernel, rfl, by decide +kernel, by decide +kernel⟩
def sp_check_letters (K : PySem.W.Frag) : Sp := fun vs H Q E => ∃ s : Str, vs = [.str s] ∧ s.length ≤ sizeLine ∧ (okLetters s = true → Q .non H) ∧ (okLetters s = false → E (.ref (ga K "BadLetters")) none H)
theorem w_check_letters (T : Txt P w K mg) : Has P w K mg base 3 "check_letters" (sp_check_letters K) := by
  have S := S_check_letters
  refine has_of (k := 2) T.d_check_letters T.gd_check_letters S (fun _ _ _ _ _ _ us hl => match us, hl with | [_], _ => rfl) (fun vs H Q E h => ?_) (fun f cdv A outer s H vs Q E hr h => ?_)
  · obtain ⟨s, rfl, _⟩ := h
    rfl
  · obtain ⟨z, rfl, hz, q1, q2⟩ := h
    refine ⟨_, (pss_cons (ps_if (PW.pt (pw_or (pt_cmpR c_lt (pe_callB (bK_len K) (by rfl) T.b_len (by decide +kernel) (pa_cons (pv 0) pa_nil)) pe_int (nomark _)) (pw_or1 (pt_cmpR c_gt (pe_callB (bK_len K) (by rfl) T.b_len (by decide +kernel) (pa_cons (pv 0) pa_nil)) (pe_gI rfl T.c_MOST_KINDS_OF_LETTERS) (nomark _)))))
      (pss_one (L2N.ps_raise rfl (L2N.takes_of rfl rfl rfl rfl) (L2N.pmk_own PySem.F.excBase_ValueError T.x_BadLetters T.g_BadLetters T.k_BadLetters (raises_own T.s_BadLetters T.t_BadLetters) rfl)))
      pss_nil)
    (pss_cons (ps_set (i := 1) S.nd rfl (Or.inl rfl) pe_str)
    (pss_one (ps_for (passes_of rfl) rfl (pi_str (pv 0)) (pg_name (i := 2) S.nd rfl (Or.inl rfl))
      (pss_cons (ps_if (PW.pt (pw_or (pt_cmpR (cK_ni K) (pv 2) (pe_gS rfl T.c_SMALL) rfl) (pw_or1 (pt_cmpR c_le (pv 2) (pv 1) (nomark _)))))
      (pss_one (L2N.ps_raise rfl (L2N.takes_of rfl rfl rfl rfl) (L2N.pmk_own PySem.F.excBase_ValueError T.x_BadLetters T.g_BadLetters T.k_BadLetters (raises_own T.s_BadLetters T.t_BadLetters) rfl)))
      pss_nil)
    (pss_one (ps_set (i := 1) S.nd rfl (Or.inl rfl) (pv 2)))))))), ?_⟩
    walk_at "rd"
    refine jtD (fun e => q2 ?_) (fun e1 => ?_)
    · have e' : ¬ 1 ≤ z.length := by omega
      simp [okLetters, e']
    walk_at "rd"
    refine jtD (fun e => q2 ?_) (fun e2 => ?_)
    · have e' : ¬ z.length ≤ 4 := by omega
      simp [okLetters, e']
    have hk : okLetters z = okFrom [] z.cps.toList := by
      have a1 : 1 ≤ z.length := by omega
      have a2 : z.length ≤ 4 := by omega
      simp [okLetters, a1, a2]
    rw [hk] at q1 q2
    walk_at "rd"
    refine lp_it walk_str (fun i σ H' => H' = H ∧ ∃ b l, σ = [some (.str z), some (.str b), l] ∧ okFrom b.cps.toList (z.cps.toList.drop i) = okFrom [] z.cps.toList) ⟨rfl, "", none, rfl, rfl⟩ (fun _ _ _ _ _ => trivial) ?_ ?_
    · rintro i x σ H1 H2 hi ⟨rfl, b, l, rfl, eb⟩ ⟨rfl, c, hc, rfl⟩
      rw [str_get hc] at eb
      rw [okFrom_cons] at eb
      walk_at "rd"
      refine jtN (fun e => q2 ?_) (fun e1 => ?_)
      · rw [← eb, if_pos (.inl e)]
      walk_at "rd"
      refine jtN (fun e => q2 ?_) (fun e2 => ?_)
      · rw [← eb, if_pos (.inr e)]
      rw [if_neg (fun z => z.elim (fun z => z e1) fun z => z e2)] at eb
      walk_at "rd"
      exact ⟨rfl, _, _, rfl, eb⟩
    · rintro σ H1 ⟨rfl, b, l, rfl, eb⟩
      refine q1 ?_
      rw [← eb, List.drop_of_length_le (by simp)]
      rfl
theorem S_check_word : FnScope ["letters", "word", "place", "letter"] ["letters", "word"] (d_check_word).scope := ⟨rfl, rfl, rfl, by decide +kernel, rfl, by decide +kernel, by decide +kernel⟩
def sp_check_word (K : PySem.W.Frag) : Sp := fun vs H Q E => ∃ (D : Hp) (l s : Str), vs = [.str l, .str s] ∧ s.length ≤ sizeLine ∧ Same D H ∧ (badAt l.cps.toList 0 s.cps.toList = none → ∀ D' H', Gr No D H D' H' → Q .non H') ∧
  (∀ k, badAt l.cps.toList 0 s.cps.toList = some k → ∀ D' H' d, Gr No D H D' H' → H' d = none → E (.ref (ga K "BadWord")) (some d) (upd H' d (.xd [("place", .int (k : Nat)), ("word", .str s)])))
theorem w_check_word (T : Txt P w K mg) : Has P w K mg base 3 "check_word" (sp_check_word K) := by
  have S := S_check_word
  refine has_of (k := 2) T.d_check_word T.gd_check_word S (fun _ _ _ _ _ _ us hl => match us, hl with | [_, _], _ => rfl) (fun vs H Q E h => ?_) (fun f cdv A outer s H vs Q E hr h => ?_)
  · obtain ⟨D, l, s, rfl, _⟩ := h
    rfl
  · obtain ⟨D, l, z, rfl, hz, sm, q1, q2⟩ := h
    refine ⟨_, (pss_one (ps_for (passes_of rfl) rfl (pi_enumS (by rfl) T.b_enumerate (pa_cons (pv 1) pa_nil)) (pgK_tup K (n := 2) rfl (pgs_cons (pg_name (i := 2) S.nd rfl (Or.inl rfl)) (pgs_cons (pg_name (i := 3) S.nd rfl (Or.inl rfl)) pgs_nil)))
      (pss_one (ps_if (pt_cmpR (cK_ni K) (pv 3) (pv 0) rfl)
      (pss_one (L2N.ps_raise rfl (L2N.takes_of rfl rfl rfl rfl) (pmk_rz (z_BadWord T) (hr.mono (by decide)) rfl (pa_cons (pv 1) (pa_cons (pv 2) pa_nil)))))
      pss_nil)))), ?_⟩
    walk_at "rd"
    refine ⟨z, rfl, lp_it walk_enumS (fun i σ H' => ∃ D' o2 o3, Gr No D H D' H' ∧ σ = [some (.str l), some (.str z), o2, o3] ∧ badAt l.cps.toList i (z.cps.toList.drop i) = badAt l.cps.toList 0 z.cps.toList) ⟨D, _, _, Gr.refl sm, rfl, rfl⟩ (fun _ _ _ _ _ => trivial) ?_ ?_⟩
    · rintro i x σ H1 H2 hi ⟨D1, o2, o3, g, rfl, eb⟩ ⟨t, x1, x2, rfl, nt, rfl, e1, e2⟩
      cases e1
      have e2 : z.cps[i]?.map (fun c => V.str ⟨#[c]⟩) = some x2 := e2
      obtain ⟨c, hc, rfl⟩ := Option.map_eq_some_iff.mp e2
      rw [str_get hc] at eb
      have eb' : (if c ∈ l.cps.toList then badAt l.cps.toList (i + 1) (z.cps.toList.drop (i + 1)) else some i) = badAt l.cps.toList 0 z.cps.toList := eb
      have g2 := g.lay (o := .tup [.int i, .str ⟨#[c]⟩]) nt
      walk_at "rd"
      refine jtN (fun e => ?_) (fun e => ?_)
      · rw [if_neg e] at eb'
        walk_at "rd"
        exact ⟨rfl, by simp, fun d nd => q2 i eb'.symm D1 _ d g2 nd⟩
      · rw [if_pos e] at eb'
        walk_at "rd"
        exact ⟨D1, _, _, g2, rfl, eb'⟩
    · rintro σ H1 ⟨D1, o2, o3, g, rfl, eb⟩
      rw [List.drop_of_length_le (by simp)] at eb
      exact q1 eb.symm _ _ g
theorem S_words_to : FnScope ["letters", "most", "layer", "told", "_", "word", "letter"] ["letters", "most"] (d_words_to).scope := ⟨rfl, rfl, rfl, by decide +kernel, rfl, by decide +kernel, by decide +kernel⟩
def sp_words_to (K : PySem.W.Frag) : Sp := fun vs H Q E => ∃ (D : Hp) (l : Str) (n : Nat), vs = [.str l, .int (n : Nat)] ∧ okLetters l = true ∧ l.length ≤ 4 ∧ n ≤ 7 ∧ Same D H ∧
  ∀ H' p, Gr No D H D H' → H p = none → D p = none → H' p = some (.lst ((wordsM l n).map V.str)) → Q (.ref p) H'
theorem w_words_to (T : Txt P w K mg) : Has P w K mg base 4 "words_to" (sp_words_to K) := by
  have S := S_words_to
  have G_check_letters := w_check_letters (base := base) T
  refine has_of (k := 3) T.d_words_to T.gd_words_to S (fun _ _ _ _ _ _ us hl => match us, hl with | [_, _], _ => rfl) (fun vs H Q E h => ?_) (fun f cdv A outer s H vs Q E hr h => ?_)
  · obtain ⟨D, l, n, rfl, _⟩ := h
    rfl
  · obtain ⟨D, l, n, rfl, ok, hl4, hn, sm, q⟩ := h
    have hz := le1000 (Nat.le_trans hl4 (by decide) : l.length ≤ 1000)
    refine ⟨_, (pss_cons (ps_expr (pe_has G_check_letters (hr.mono (by decide)) (L2N.takes_of rfl rfl rfl rfl) rfl (pa_cons (pv 0) pa_nil)))
    (pss_cons (ps_set (i := 2) S.nd rfl (Or.inl rfl) (pe_lst (pa_cons pe_str pa_nil)))
    (pss_cons (ps_set (i := 3) S.nd rfl (Or.inl rfl) (pe_lst (pa_cons pe_str pa_nil)))
    (pss_cons (ps_for (passes_of rfl) rfl (pi_range1 (by rfl) T.b_range (pa_cons (pv 1) pa_nil)) (pg_name (i := 4) S.nd rfl (Or.inl rfl))
      (pss_cons (ps_setLc2 (i := 2) (own := [("word", 5), ("letter", 6)]) (vs1 := [6]) (by rfl) S.nd rfl rfl (sw_true rfl rfl rfl (by decide +kernel)) (piK_list K (pv 2)) (blkOk_by (by rfl)) (by decide) (fun _ _ _ _ _ => (pg_name (i := 5) S.nd rfl (Or.inl rfl))) (fun _ _ _ _ _ => pts_nil) (fun _ _ _ _ _ => (pi_str (pv 0))) (fun _ _ _ _ _ => (pg_name (i := 6) S.nd rfl (Or.inl rfl))) (fun _ _ _ _ _ => pts_nil) (fun _ _ _ _ _ => (pe_op (oK_add K) (pv 5) (pv 6))))
    (pss_one (ps_set (i := 3) S.nd rfl (Or.inl rfl) (pe_op (oK_add K) (pv 3) (pv 2))))))
    (pss_one (ps_ret (pv 3))))))), ?_⟩
    walk_at "rd"
    refine ⟨l, rfl, hz, fun _ => ?_, fun e => by rw [ok] at e; cases e⟩
    walk_at "rd"
    refine ⟨le1000 (by simp), fun la nla => ?_⟩
    have g1 := (Gr.refl (m := No) sm).lay (o := .lst [.str ""]) nla
    walk_at "rd"
    refine ⟨le1000 (by simp), fun ta nta => ?_⟩
    have g2 := g1.lay (o := .lst [.str ""]) nta
    have hla : (upd (upd H la (.lst [.str ""])) ta (.lst [.str ""])) la = some (.lst [.str ""]) := (upd_ne (fun e => by rw [← e, upd_same] at nta; cases nta)).trans upd_same
    have hta : (upd (upd H la (.lst [.str ""])) ta (.lst [.str ""])) ta = some (.lst [.str ""]) := upd_same
    walk_at "rd"
    refine ⟨_, rfl, by omega, by omega, lp_it walk_r0 (fun i σ H' => ∃ la ta o4, Gr No D H D H' ∧ H' la = some (.lst ((layerM l i).map V.str)) ∧ H' ta = some (.lst ((wordsM l i).map V.str)) ∧ H ta = none ∧ D ta = none ∧ σ = [some (.str l), some (.int (n : Nat)), some (.ref la), some (.ref ta), o4, none, none]) ⟨la, ta, none, g2, hla, hta, g1.kept _ nta, g1.free nta, rfl⟩ (fun _ _ _ _ _ => trivial) ?_ ?_⟩
    · rintro i x σ H1 H2 hi ⟨la, ta, o4, g, hla, hta, hH, hD, rfl⟩ ⟨rfl, rfl⟩
      have hi2 : i < n := by omega
      have b1 := layer_bd hl4 (n := i) (by omega)
      have b2 := layer_bd hl4 (n := i + 1) (by omega)
      have b3 := words_bd hl4 (n := i) (by omega)
      have b4 := words_bd hl4 (n := i + 1) (by omega)
      walk_at "rd"
      refine ⟨la, rfl, ⟨_, sql hla⟩, fun p np => ?_⟩
      have hp0 : ∀ (xs : List V), (upd H2 p (.lst xs)) la = some (.lst ((layerM l i).map V.str)) := fun xs => (upd_ne (ne_of_none hla np)).trans hla
      refine lq2_it walk_list (fun j H' => H' = upd H2 p (.lst ((growL l ((layerM l i).take j)).map V.str))) rfl (fun j H' _ e => by rw [e]; exact sql (hp0 _)) ?_ ?_
      · rintro j x H3 H4 hj rfl ⟨rfl, ex⟩
        rw [List.getElem?_map] at ex
        obtain ⟨wd, hw, rfl⟩ := Option.map_eq_some_iff.mp ex
        have hwl := (layer_mem.mp (List.mem_of_getElem? hw)).1
        walk_at "rd"
        refine ⟨rfl, ?_⟩
        walk_at "rd"
        refine lq1_it walk_str (fun k H' => H' = upd H2 p (.lst ((growL l ((layerM l i).take j) ++ (l.cps.toList.take k).map fun c => wd ++ ⟨#[c]⟩).map V.str))) (by rw [List.take_zero, List.map_nil, List.append_nil]) (fun _ _ _ _ => trivial) ?_ ?_
        · rintro k x H3 H4 hk rfl ⟨rfl, c, hc, rfl⟩
          have hc2 : l.cps.toList[k]? = some c := by simpa using hc
          walk_at "rd"
          refine ⟨rfl, ?_⟩
          walk_at "rd"
          have l1 : (⟨#[c]⟩ : Str).length = 1 := rfl
          refine s_add_s (by rw [l1]; exact le1000 (by omega)) ⟨_, upd_same, ?_, ?_⟩
          · rw [List.length_map, List.length_append, grow_len, List.length_map, List.length_take, List.length_take]
            have h1 : min j (layerM l i).length * l.length ≤ 16384 * 4 := Nat.mul_le_mul (by omega) hl4
            have h2 : min k l.cps.toList.length ≤ 4 := by rw [len_list]; omega
            exact ltBig (by omega)
          · rw [upd_upd, List.take_add_one, hc2]
            simp
        · rintro H3 rfl
          rw [grow_take l _ j wd hw, show l.cps.size = l.cps.toList.length by simp, List.take_length]
      · rintro H3 rfl
        rw [List.length_map, List.take_length]
        have g3 := g.lay (o := .lst ((layerM l (i + 1)).map V.str)) np
        have hp1 : (upd H2 p (.lst ((layerM l (i + 1)).map V.str))) p = some (.lst ((layerM l (i + 1)).map V.str)) := upd_same
        have hta1 : (upd H2 p (.lst ((layerM l (i + 1)).map V.str))) ta = some (.lst ((wordsM l i).map V.str)) := (upd_ne (ne_of_none hta np)).trans hta
        walk_at "rd"
        refine s_add_l hta1 hp1 (by rw [List.length_map, List.length_map]; exact leBig (by omega)) fun t2 nt2 => ?_
        walk_at "rd"
        refine ⟨p, t2, _, g3.lay nt2, (upd_ne (ne_of_none hp1 nt2)).trans hp1, ?_, g3.kept _ nt2, g3.free nt2, rfl⟩
        rw [upd_same, words_succ, List.map_append]
    · rintro σ H1 ⟨la, ta, o4, g, hla, hta, hH, hD, rfl⟩
      rw [show ((n : Nat) : Int).toNat = n from Int.toNat_natCast n] at hta
      walk_at "rd"
      exact q H1 ta g hH hD hta
theorem S_all_words : FnScope ["letters", "most", "shorter", "word", "letter"] ["letters", "most"] (d_all_words).scope := ⟨rfl, rfl, rfl, by decide +kernel, rfl, by decide +kernel, by decide +kernel⟩
theorem w_all_words (T : Txt P w K mg) : Has P w K mg base 5 "all_words" (sp_words_to K) := by
  have S := S_all_words
  have G_words_to := w_words_to (base := base) T
  refine has_of (k := 4) T.d_all_words T.gd_all_words S (fun _ _ _ _ _ _ us hl => match us, hl with | [_, _], _ => rfl) (fun vs H Q E h => ?_) (fun f cdv A outer s H vs Q E hr h => ?_)
  · obtain ⟨D, l, n, rfl, _⟩ := h
    rfl
  · obtain ⟨D, l, n, rfl, ok, hl4, hn, sm, q⟩ := h
    refine ⟨_, (pss_cons (ps_if (pt_cmpR c_lt (pv 1) (pe_gI rfl T.c_MOST_SIZE) (nomark _))
      (pss_one (ps_ret (pe_has G_words_to (hr.mono (by decide)) (L2N.takes_of rfl rfl rfl rfl) rfl (pa_cons (pv 0) (pa_cons (pv 1) pa_nil)))))
      pss_nil)
    (pss_cons (ps_set (i := 2) S.nd rfl (Or.inl rfl) (pe_has G_words_to (hr.mono (by decide)) (L2N.takes_of rfl rfl rfl rfl) rfl (pa_cons (pv 0) (pa_cons (pe_op o_sub (pv 1) pe_int) pa_nil))))
    (pss_one (ps_ret (pe_op (oK_add K) (pv 2) (pe_lc2 (own := [("word", 3), ("letter", 4)]) (vs1 := [4]) (by rfl) S.nd (piK_list K (pv 2)) (blkOk_by (by rfl)) (by decide) (fun _ _ _ _ _ => (pg_name (i := 3) S.nd rfl (Or.inl rfl))) (fun _ _ _ _ _ => pts_nil) (fun _ _ _ _ _ => (pi_str (pv 0))) (fun _ _ _ _ _ => (pg_name (i := 4) S.nd rfl (Or.inl rfl))) (fun _ _ _ _ _ => pts_one (pt_cmpR (cK_eq K hr.units) (pe_callB (bK_len K) (by rfl) T.b_len (by decide +kernel) (pa_cons (pv 3) pa_nil)) (pe_op o_sub (pv 1) pe_int) (nomark _))) (fun _ _ _ _ _ => (pe_op (oK_add K) (pv 3) (pv 4))))))))), ?_⟩
    walk_at "rd"
    refine jtD (fun e => ?_) (fun e => ?_)
    · walk_at "rd"
      exact ⟨D, l, n, rfl, ok, hl4, hn, sm, q⟩
    · have hn7 : n = 7 := by omega
      subst hn7
      walk_at "rd"
      refine ⟨D, l, 6, rfl, ok, hl4, by decide, sm, fun H1 sa g1 nsa nD hsa => ?_⟩
      walk_at "rd"
      refine ⟨sa, rfl, ⟨_, sql hsa⟩, fun p np => ?_⟩
      have b3 := words_bd hl4 (n := 6) (by decide)
      have b2 := layer_bd hl4 (n := 7) (by decide)
      have hp0 : ∀ (xs : List V), (upd H1 p (.lst xs)) sa = some (.lst ((wordsM l 6).map V.str)) := fun xs => (upd_ne (ne_of_none hsa np)).trans hsa
      let f : Str → List Str := fun w => if w.length = 6 then l.cps.toList.map fun c => w ++ ⟨#[c]⟩ else []
      have ftake : ∀ j w, (wordsM l 6)[j]? = some w → ((wordsM l 6).take (j + 1)).flatMap f = ((wordsM l 6).take j).flatMap f ++ f w := fun j w h => by
        rw [List.take_add_one, h, List.flatMap_append]
        simp
      have fbd : ∀ j, (((wordsM l 6).take j).flatMap f).length ≤ 16384 := fun j => by
        have h1 := congrArg List.length (grow_last l 6)
        have h2 : (wordsM l 6).flatMap f = ((wordsM l 6).take j).flatMap f ++ ((wordsM l 6).drop j).flatMap f := by rw [← List.flatMap_append, List.take_append_drop]
        have h3 : ((wordsM l 6).flatMap f).length = (layerM l 7).length := h1
        rw [h2, List.length_append] at h3
        omega
      refine lq2_it walk_list (fun j H' => H' = upd H1 p (.lst ((((wordsM l 6).take j).flatMap f).map V.str))) rfl (fun j H' _ e => by rw [e]; exact sql (hp0 _)) ?_ ?_
      · rintro j x H3 H4 hj rfl ⟨rfl, ex⟩
        rw [List.getElem?_map] at ex
        obtain ⟨wd, hw, rfl⟩ := Option.map_eq_some_iff.mp ex
        have hwl := words_mem (List.mem_of_getElem? hw)
        have hwz := le1000 (Nat.le_trans hwl (by decide) : wd.length ≤ 1000)
        walk_at "rd"
        refine ⟨rfl, ?_⟩
        walk_at "rd"
        by_cases h6 : wd.length = 6
        · refine lq1_it walk_str (fun k H' => H' = upd H1 p (.lst ((((wordsM l 6).take j).flatMap f ++ (l.cps.toList.take k).map fun c => wd ++ ⟨#[c]⟩).map V.str))) (by rw [List.take_zero, List.map_nil, List.append_nil]) (fun _ _ _ _ => trivial) ?_ ?_
          · rintro k x H3 H4 hk rfl ⟨rfl, c, hc, rfl⟩
            have hc2 : l.cps.toList[k]? = some c := by simpa using hc
            walk_at "rd"
            refine ⟨rfl, ?_⟩
            walk_at "rd"
            refine jtD (fun _ => ?_) (fun z => absurd (by rw [h6]; rfl) z)
            walk_at "rd"
            have l1 : (⟨#[c]⟩ : Str).length = 1 := rfl
            refine s_add_s (by rw [l1]; exact le1000 (by omega)) ⟨_, upd_same, ?_, ?_⟩
            · have := fbd j
              have h2 : min k l.cps.toList.length ≤ 4 := by rw [len_list]; omega
              rw [List.length_map, List.length_append, List.length_map, List.length_take]
              exact ltBig (by omega)
            · rw [upd_upd, List.take_add_one, hc2]
              simp
          · rintro H3 rfl
            rw [ftake j wd hw, show l.cps.size = l.cps.toList.length by simp, List.take_length]
            show _ = upd H1 p (.lst (List.map V.str (_ ++ if wd.length = 6 then _ else _)))
            rw [if_pos h6]
        · refine lq1_it walk_str (fun k H' => H' = upd H1 p (.lst ((((wordsM l 6).take j).flatMap f).map V.str))) rfl (fun _ _ _ _ => trivial) ?_ ?_
          · rintro k x H3 H4 hk rfl ⟨rfl, c, hc, rfl⟩
            walk_at "rd"
            refine ⟨rfl, ?_⟩
            walk_at "rd"
            refine jtD (fun z => absurd z (by omega)) (fun _ => ?_)
            rfl
          · rintro H3 rfl
            rw [ftake j wd hw]
            show _ = upd H1 p (.lst (List.map V.str (_ ++ if wd.length = 6 then _ else _)))
            rw [if_neg h6, List.append_nil]
      · rintro H3 rfl
        rw [List.length_map, List.take_length, show (wordsM l 6).flatMap f = layerM l 7 from grow_last l 6]
        have g3 := g1.lay (o := .lst ((layerM l 7).map V.str)) np
        have hsa1 : (upd H1 p (.lst ((layerM l 7).map V.str))) sa = some (.lst ((wordsM l 6).map V.str)) := (upd_ne (ne_of_none hsa np)).trans hsa
        refine s_add_l hsa1 upd_same (by rw [List.length_map, List.length_map]; exact leBig (by omega)) fun t2 nt2 => ?_
        refine q _ t2 (g3.lay nt2) (g3.kept _ nt2) (g3.free nt2) ?_
        rw [upd_same, show wordsM l 7 = wordsM l 6 ++ layerM l 7 from rfl, List.map_append]
end
end H89

namespace H89
open PySem PySem.Spec L2 He Y Hk89
local macro_rules | `(tactic| walk_at "rd1") => `(tactic| first
  | with_reducible refine s_seq ?_
  | with_reducible refine s_asg ?_
  | with_reducible refine s_gname ?_
  | ((with_reducible refine s_var (v := ?_) ?_ ?_); rotate_left; exact rfl)
  | with_reducible refine s_c ?_
  | with_reducible refine s_op ?_
  | with_reducible refine s_un ?_
  | with_reducible refine s_nil ?_
  | with_reducible refine s_cons ?_
  | with_reducible refine s_CB ?_
  | with_reducible refine s_ifS ?_
  | with_reducible refine s_test ?_
  | with_reducible refine s_B ?_
  | with_reducible refine s_xb ?_
  | with_reducible refine s_xi ?_
  | with_reducible refine s_xs ?_
  | with_reducible refine s_or ?_
  | with_reducible refine s_and ?_
  | with_reducible refine s_not ?_
  | with_reducible refine s_orV ?_
  | with_reducible refine s_andV ?_
  | with_reducible refine s_notV ?_
  | with_reducible refine s_ret ?_
  | with_reducible refine s_retN ?_
  | with_reducible refine s_next ?_
  | with_reducible refine s_drop ?_
  | with_reducible refine s_yes ?_
  | with_reducible refine s_for ?_
  | with_reducible refine s_lc ?_
  | with_reducible refine s_iStr ?_
  | with_reducible refine s_iList ?_
  | with_reducible refine s_iTup ?_
  | with_reducible refine s_iR1 ?_
  | with_reducible refine s_iR2 ?_
  | with_reducible refine s_iE ?_
  | with_reducible refine s_iET ?_
  | with_reducible refine s_iES ?_
  | with_reducible refine s_tup ?_
  | with_reducible refine s_lst ?_
  | with_reducible refine s_BM ?_
  | with_reducible refine s_BM0 ?_
  | with_reducible refine s_BMS _ ?_
  | with_reducible refine s_M1 ?_
  | with_reducible refine s_sl ?_
  | with_reducible refine s_noP ?_
  | with_reducible refine s_po ?_
  | with_reducible refine s_call ?_
  | with_reducible refine s_callS ?_
  | with_reducible refine s_make ?_
  | with_reducible refine s_makeS ?_
  | with_reducible refine s_methS ?_
  | with_reducible refine s_callO ?_
  | with_reducible refine s_dnew ?_
  | with_reducible refine s_dget ?_
  | with_reducible refine s_din ?_
  | with_reducible refine s_dnin ?_
  | with_reducible refine s_dput ?_
  | with_reducible refine s_dsetd ?_
  | with_reducible refine s_dget2 ?_
  | with_reducible refine s_fld ?_
  | with_reducible refine s_sFld ?_
  | with_reducible refine s_rz ?_
  | with_reducible refine s_asgS ?_
  | with_reducible refine s_gSub ?_
  | with_reducible refine s_ifE ?_
  | with_reducible refine s_add_i ?_
  | with_reducible refine s_sub ?_
  | with_reducible refine s_neg ?_
  | with_reducible refine s_eq_i ?_
  | with_reducible refine s_eq_s ?_
  | with_reducible refine s_ne_i ?_
  | with_reducible refine s_ne_s ?_
  | with_reducible refine s_lt_i ?_
  | with_reducible refine s_le_i ?_
  | with_reducible refine s_gt_i ?_
  | with_reducible refine s_ge_i ?_
  | with_reducible refine s_lt_s ?_
  | with_reducible refine s_le_s ?_
  | with_reducible refine s_gt_s ?_
  | with_reducible refine s_ge_s ?_
  | with_reducible refine s_in_c ?_
  | with_reducible refine s_ni_c ?_
  | with_reducible refine s_isN ?_
  | with_reducible refine s_noN ?_
  | with_reducible refine s_abs ?_
  | with_reducible refine s_min2 ?_
  | with_reducible refine s_max2 ?_
  | with_reducible refine s_int_i ?_
  | ((with_reducible refine s_len_s ?_ ?_); assumption)
  | ((with_reducible refine s_len_l (xs := ?_) ?_ ?_); rotate_left; assumption)
  | ((with_reducible refine s_len_t (xs := ?_) ?_ ?_); rotate_left; assumption)
  | with_reducible refine s_pair upd_same ?_
  | with_reducible refine s_callS ?_
  | with_reducible refine s_sortK ?_
  | with_reducible refine s_lc2 ?_
  | with_reducible refine s_disp ?_
  | with_reducible refine s_pcons ?_
  | with_reducible refine s_pnil ?_
  | ((with_reducible refine s_ix_t (by assumption) (by first | exact atI_0 | exact atI_i (j := 1) rfl rfl | exact atI_i (j := 2) rfl rfl | exact atI_i (j := 3) rfl rfl) ?_))
  | with_reducible refine jtT ?_
  | with_reducible refine jtF ?_
  | with_reducible refine jtNT ?_
  | with_reducible refine jtNF ?_
  | dsimp only)
local macro_rules | `(tactic| walk_at "rd") => `(tactic| repeat (walk_at "rd1"))

/-! ### views -/
def viewI (w : Str) (at_ size : Int) : Str := cutS w (some (if at_ - size + 1 > 0 then at_ - size + 1 else 0)) (some (at_ + 1))
theorem view_len (w : Str) (a s : Int) : (viewI w a s).length ≤ w.length := cutS_length _ _ _
abbrev Tb : Type := List (Str × Str)
abbrev IsS : V → Str → Prop := fun v y => v = .str y
/-- a turner -/
structure IsT (K : PySem.W.Frag) (D : Hp) (v : V) (l i : Str) (n : Int) (t : Tb) : Prop where
  ex : ∃ (a dx da : Addr) (kvs : List (Key × V)), v = .ref a ∧ D a = some (.ins (ga K "Turner") dx [("letters", .str l), ("images", .str i), ("size", .int n), ("table", .ref da)]) ∧ D da = some (.dK kvs) ∧ KvR IsS kvs t
theorem IsT.up {K : PySem.W.Frag} {D D' : Hp} {v : V} {l i : Str} {n : Int} {t : Tb} (e : Same D D') (h : IsT K D v l i n t) : IsT K D' v l i n t := by
  obtain ⟨a, dx, da, kvs, h1, h2, h3, h4⟩ := h
  exact ⟨a, dx, da, kvs, h1, e _ _ h2, e _ _ h3, h4⟩
/-- the image by a table from place j on, made so far: im -/
def imgM (t : Tb) (w : Str) (size : Int) : Nat → Nat → Str → Option Str
  | 0, _, im => some im
  | n + 1, j, im => match getS t (viewI w (j : Nat) size) with
    | none => none
    | some y => imgM t w size n (j + 1) (im ++ y)
theorem imgM_succ (t : Tb) (w : Str) (size : Int) (n j : Nat) (im : Str) : imgM t w size (n + 1) j im = match getS t (viewI w (j : Nat) size) with
    | none => none
    | some y => imgM t w size n (j + 1) (im ++ y) := rfl
section
variable {P : Program} {w : World} {K : PySem.W.Frag} {mg : Str → Option Value} {base : Heap}
theorem S_view_at : FnScope ["word", "at", "size"] ["word", "at", "size"] (d_view_at).scope := ⟨rfl, rfl, rfl, by decide +kernel, rfl, by decide +kernel, by decide +kernel⟩
def sp_view : Sp := fun vs H Q E => ∃ (z : Str) (a s : Int), vs = [.str z, .int a, .int s] ∧ z.length ≤ sizeLine ∧ Q (.str (viewI z a s)) H
theorem w_view_at (T : Txt P w K mg) : Has P w K mg base 3 "view_at" sp_view := by
  have S := S_view_at
  refine has_of (k := 2) T.d_view_at T.gd_view_at S (fun _ _ _ _ _ _ us hl => match us, hl with | [_, _, _], _ => rfl) (fun vs H Q E h => ?_) (fun f cdv A outer s H vs Q E hr h => ?_)
  · obtain ⟨z, a, s, rfl, _⟩ := h
    rfl
  · obtain ⟨z, a, s, rfl, hz, q⟩ := h
    refine ⟨_, (pss_one (ps_ret (pe_slice (slK_any K) (pv 0) (po_some (pe_callB (b_max rfl) (by rfl) T.b_max (by decide +kernel) (pa_cons pe_int (pa_cons (pe_op (oK_add K) (pe_op o_sub (pv 1) (pv 2)) pe_int) pa_nil)))) (po_some (pe_op (oK_add K) (pv 1) pe_int))))), ?_⟩
    walk_at "rd"
    exact s_sl_s hz q
theorem S_Turner_init : FnScope ["self", "letters", "images", "size", "table"] ["self", "letters", "images", "size", "table"] (d_Turner_init).scope := ⟨rfl, rfl, rfl, by decide +kernel, rfl, by decide +kernel, by decide +kernel⟩
def sp_Turner (K : PySem.W.Frag) : Sp := fun vs H Q E => ∃ (D : Hp) (x dx : Addr) (l i : Str) (n : Int) (td : Addr) (kvs : List (Key × V)) (t : Tb), vs = [.ref x, .str l, .str i, .int n, .ref td] ∧ l.length ≤ sizeLine ∧ i.length ≤ sizeLine ∧ Same D H ∧ D x = none ∧ H x = some (.ins (ga K "Turner") dx []) ∧
  H td = some (.dK kvs) ∧ KvR IsS kvs t ∧ (okLetters l = true → okLetters i = true → ∀ D' H' da kvs', Gr (· = x) D H D' H' → D' x = none → H' x = some (.ins (ga K "Turner") dx [("letters", .str l), ("images", .str i), ("size", .int n), ("table", .ref da)]) → D' da = some (.dK kvs') → KvR IsS kvs' t → Q .non H') ∧
  (¬ (okLetters l = true ∧ okLetters i = true) → E (.ref (ga K "BadLetters")) none H)
theorem w_Turner (T : Txt P w K mg) : HasC P w K mg base 4 "Turner" (ga K "Turner") (sp_Turner K) := by
  have S := S_Turner_init
  have G_check_letters := w_check_letters (base := base) T
  refine hasC_of (k := 3) T.d_Turner_init T.g_Turner T.mk_Turner S (fun _ _ _ _ _ _ us hl => match us, hl with | [_, _, _, _, _], _ => rfl) (fun vs H Q E h => ?_) (fun f cdv A outer s H vs Q E hr h => ?_)
  · obtain ⟨D, x, dx, l, i, n, td, kvs, t, rfl, _⟩ := h
    rfl
  · obtain ⟨D, x, dx, l, i, n, td, kvs, t, rfl, hl, hi, sm, hDx, hHx, htd, hkv, q1, q2⟩ := h
    refine ⟨_, (pss_cons (ps_expr (pe_has G_check_letters (hr.mono (by decide)) (L2N.takes_of rfl rfl rfl rfl) rfl (pa_cons (pv 1) pa_nil)))
    (pss_cons (ps_expr (pe_has G_check_letters (hr.mono (by decide)) (L2N.takes_of rfl rfl rfl rfl) rfl (pa_cons (pv 2) pa_nil)))
    (pss_cons (psK_fld K (pv 0) (pv 1) rfl)
    (pss_cons (psK_fld K (pv 0) (pv 2) rfl)
    (pss_cons (psK_fld K (pv 0) (pv 3) rfl)
    (pss_one (psK_fld K (pv 0) (pe_callTy call_dictD (by rfl) T.b_dict (by decide +kernel) (pa_cons (pv 4) pa_nil)) rfl))))))), ?_⟩
    walk_at "rd"
    refine ⟨l, rfl, hl, fun ok1 => ?_, fun e => q2 fun z => by rw [e] at z; cases z.1⟩
    walk_at "rd"
    refine ⟨i, rfl, hi, fun ok2 => ?_, fun e => q2 fun z => by rw [e] at z; cases z.2⟩
    walk_at "rd"
    have ntx : td ≠ x := fun e => by rw [e, hHx] at htd; cases htd
    refine ⟨x, _, _, _, rfl, hHx, T.cl_Turner, T.na_Turner_letters, of_decide_eq_true rfl, ?_⟩
    walk_at "rd"
    refine ⟨x, _, _, _, rfl, upd_same, T.cl_Turner, T.na_Turner_images, of_decide_eq_true rfl, ?_⟩
    rw [upd_upd]
    walk_at "rd"
    refine ⟨x, _, _, _, rfl, upd_same, T.cl_Turner, T.na_Turner_size, of_decide_eq_true rfl, ?_⟩
    rw [upd_upd]
    have g1 := (Gr.refl (m := (· = x)) sm).put (o := .ins (ga K "Turner") dx [("letters", .str l), ("images", .str i), ("size", .int n)]) hDx (.inr rfl)
    have htd1 : (upd H x (.ins (ga K "Turner") dx [("letters", .str l), ("images", .str i), ("size", .int n)])) td = some (.dK kvs) := (upd_ne ntx).trans htd
    have hx1 : (upd H x (.ins (ga K "Turner") dx [("letters", .str l), ("images", .str i), ("size", .int n)])) x = _ := upd_same
    walk_at "rd"
    refine ⟨td, kvs, rfl, .inl htd1, fun da nda => ?_⟩
    have g2 := g1.ice (o := .dK kvs) nda
    have nxd : x ≠ da := fun e => by rw [← e, upd_same] at nda; cases nda
    have hD2 : (upd D da (.dK kvs)) x = none := (upd_ne nxd).trans hDx
    walk_at "rd"
    refine ⟨x, _, _, _, rfl, (upd_ne nxd).trans hx1, T.cl_Turner, T.na_Turner_table, of_decide_eq_true rfl, ?_⟩
    exact q1 ok1 ok2 _ _ da kvs (g2.put (o := .ins (ga K "Turner") dx [("letters", .str l), ("images", .str i), ("size", .int n), ("table", .ref da)]) hD2 (.inr rfl)) hD2 upd_same upd_same hkv
theorem S_Turner_call : FnScope ["self", "word", "image", "at", "view"] ["self", "word"] (d_Turner_call).scope := ⟨rfl, rfl, rfl, by decide +kernel, rfl, by decide +kernel, by decide +kernel⟩
def sp_call (K : PySem.W.Frag) : Sp := fun vs H Q E => ∃ (D : Hp) (v : V) (l i : Str) (n : Int) (t : Tb) (z : Str), vs = [v, .str z] ∧ z.length ≤ 1000 ∧ Same D H ∧ IsT K D v l i n t ∧ (∀ p ∈ t, p.2.length ≤ 1000) ∧
  (badAt l.cps.toList 0 z.cps.toList = none → ∀ D' H', Gr No D H D' H' → Q (match imgM t z n z.length 0 "" with
    | none => .non
    | some y => .str y) H') ∧
  (∀ k, badAt l.cps.toList 0 z.cps.toList = some k → ∀ D' H' d, Gr No D H D' H' → H' d = none → E (.ref (ga K "BadWord")) (some d) (upd H' d (.xd [("place", .int (k : Nat)), ("word", .str z)])))
theorem getS_mem {α : Type} {t : List (Str × α)} {k : Str} {y : α} (h : getS t k = some y) : (k, y) ∈ t := by
  unfold getS at h
  obtain ⟨p, hp, e⟩ := Option.map_eq_some_iff.mp h
  have h1 := List.find?_some hp
  have h2 := List.mem_of_find?_eq_some hp
  have : p.1 = k := of_decide_eq_true h1
  rw [← this, ← e]
  exact h2
theorem w_call (T : Txt P w K mg) : HasM P w K mg base 4 (ga K "Turner") "__call__" (sp_call K) := by
  have S := S_Turner_call
  have G_check_word := w_check_word (base := base) T
  have G_view_at := w_view_at (base := base) T
  refine hasM_of (k := 3) T.d_Turner_call T.me_Turner_call T.cl_Turner S (fun _ _ _ _ _ _ us hl => match us, hl with | [_, _], _ => rfl) (fun vs H Q E h => ?_) (fun f cdv A outer s H vs Q E hr h => ?_)
  · obtain ⟨D, v, l, i, n, t, z, rfl, _⟩ := h
    rfl
  · obtain ⟨D, v, l, i, n, t, z, rfl, hz, sm, M, hty, q1, q2⟩ := h
    obtain ⟨a, dx, da, kvs, rfl, ha, hda, hkv⟩ := M
    have hzl := le1000 hz
    refine ⟨_, (pss_cons (ps_expr (pe_has G_check_word (hr.mono (by decide)) (L2N.takes_of rfl rfl rfl rfl) rfl (pa_cons (peK_fld K (pv 0) rfl) (pa_cons (pv 1) pa_nil))))
    (pss_cons (ps_set (i := 2) S.nd rfl (Or.inl rfl) pe_str)
    (pss_cons (ps_for (passes_of rfl) rfl (pi_range1 (by rfl) T.b_range (pa_cons (pe_callB (bK_len K) (by rfl) T.b_len (by decide +kernel) (pa_cons (pv 1) pa_nil)) pa_nil)) (pg_name (i := 3) S.nd rfl (Or.inl rfl))
      (pss_cons (ps_set (i := 4) S.nd rfl (Or.inl rfl) (pe_has G_view_at (hr.mono (by decide)) (L2N.takes_of rfl rfl rfl rfl) rfl (pa_cons (pv 1) (pa_cons (pv 3) (pa_cons (peK_fld K (pv 0) rfl) pa_nil)))))
    (pss_cons (ps_if (pt_cmp (pc_dnotin (hu_of hr) (pv 4) (peK_fld K (pv 0) rfl)))
      (pss_one (ps_ret pe_non))
      pss_nil)
    (pss_one (ps_set (i := 2) S.nd rfl (Or.inl rfl) (pe_op (oK_add K) (pv 2) (pe_dget (hu_of hr) (peK_fld K (pv 0) rfl) (pv 4) (fun _ _ => rfl))))))))
    (pss_one (ps_ret (pv 2)))))), ?_⟩
    walk_at "rd"
    refine ⟨a, _, _, _, _, rfl, sm _ _ ha, T.cl_Turner, T.na_Turner_letters, rfl, ?_⟩
    walk_at "rd"
    refine ⟨D, l, z, rfl, hzl, sm, fun ok D1 H1 g1 => ?_, q2⟩
    have q := q1 ok
    walk_at "rd"
    refine ⟨_, rfl, by omega, by omega, lp_it walk_r0 (fun i σ H' => H' = H1 ∧ ∃ im o3 o4, σ = [some (.ref a), some (.str z), some (.str im), o3, o4] ∧ im.length ≤ 1000 * i ∧ imgM t z n (z.length - i) i im = imgM t z n z.length 0 "") ⟨rfl, "", none, none, rfl, by decide, rfl⟩ (fun _ _ _ _ _ => trivial) ?_ ?_⟩
    · rintro i x σ H2 H3 hi ⟨rfl, im, o3, o4, rfl, him, en⟩ ⟨rfl, rfl⟩
      have hi1 : i < z.length := by omega
      rw [show z.length - i = (z.length - (i + 1)) + 1 by omega, imgM_succ] at en
      walk_at "rd"
      refine ⟨a, _, _, _, _, rfl, g1.same' _ _ ha, T.cl_Turner, T.na_Turner_size, rfl, ?_⟩
      walk_at "rd"
      refine ⟨z, _, _, rfl, hzl, ?_⟩
      walk_at "rd"
      refine ⟨a, _, _, _, _, rfl, g1.same' _ _ ha, T.cl_Turner, T.na_Turner_table, rfl, ?_⟩
      rcases dgetS (g1.same' _ _ hda) hkv (viewI z (i : Nat) n) with ⟨hd, hg⟩ | ⟨v, y, hd, hg, rfl⟩
      · rw [hg] at en
        refine ⟨da, _, rfl, hd, ?_⟩
        walk_at "rd"
        have := q D1 H3 g1
        rw [← en] at this
        exact this
      · rw [hg] at en
        refine ⟨da, _, rfl, hd, ?_⟩
        walk_at "rd"
        refine jtNT ?_
        walk_at "rd"
        refine ⟨a, _, _, _, _, rfl, g1.same' _ _ ha, T.cl_Turner, T.na_Turner_table, rfl, ?_⟩
        walk_at "rd"
        refine ⟨da, _, rfl, hd, ?_⟩
        have hyl := hty _ (getS_mem hg)
        refine s_add_s (leBig (by have : y.length ≤ 1000 := hyl; omega)) ?_
        walk_at "rd"
        refine ⟨rfl, _, _, _, rfl, ?_, en⟩
        rw [app_len]
        have : y.length ≤ 1000 := hyl
        omega
    · rintro σ H2 ⟨rfl, im, o3, o4, rfl, him, en⟩
      rw [show ((z.length : Int)).toNat = z.length from Int.toNat_natCast _, Nat.sub_self] at en
      walk_at "rd"
      have := q D1 H2 g1
      rw [← en] at this
      exact this
end
/-! ### pairs -/
abbrev Pr : Type := Str × Str
abbrev dP (p : Pr) : PyData := .tuple [.str p.1, .str p.2]
abbrev dPs (ps : List Pr) : PyData := .list (ps.map dP)
inductive Bad where
  | word (s : Str) (k : Nat) | text (n : Nat)
def badP (l i : Str) : Nat → List Pr → Option Bad
  | _, [] => none
  | n, p :: r => match badAt l.cps.toList 0 p.1.cps.toList with
    | some k => some (.word p.1 k)
    | none => match badAt i.cps.toList 0 p.2.cps.toList with
      | some k => some (.word p.2 k)
      | none => if p.1.length = p.2.length then badP l i (n + 1) r else some (.text n)
theorem badP_cons (l i : Str) (n : Nat) (p : Pr) (r : List Pr) : badP l i n (p :: r) = match badAt l.cps.toList 0 p.1.cps.toList with
    | some k => some (.word p.1 k)
    | none => match badAt i.cps.toList 0 p.2.cps.toList with
      | some k => some (.word p.2 k)
      | none => if p.1.length = p.2.length then badP l i (n + 1) r else some (.text n) := rfl
/-- the error that is wished for -/
def Er (K : PySem.W.Frag) (E : XK) (D H : Hp) : Bad → Prop
  | .word s k => ∀ D' H' d, Gr No D H D' H' → H' d = none → E (.ref (ga K "BadWord")) (some d) (upd H' d (.xd [("place", .int (k : Nat)), ("word", .str s)]))
  | .text n => ∀ D' H' d, Gr No D H D' H' → H' d = none → E (.ref (ga K "BadText")) (some d) (upd H' d (.xd [("line", .int (n : Nat))]))
structure Short (ps : List Pr) : Prop where
  few : ps.length ≤ 1000
  len : ∀ p ∈ ps, p.1.length ≤ 1000 ∧ p.2.length ≤ 1000
theorem dP_get {K : PySem.W.Frag} {D : Hp} {v : V} {p : Pr} (h : Dp K D v (dP p)) : ∃ a, v = .ref a ∧ SqT K D a [.str p.1, .str p.2] := by
  obtain ⟨a, xs, e, hs, ha⟩ := dp_tuple h
  have : xs = [p.1, p.2].map V.str := dpl_strs (zs := [p.1, p.2]) ha
  rw [this] at hs
  exact ⟨a, e, hs⟩
section
variable {P : Program} {w : World} {K : PySem.W.Frag} {mg : Str → Option Value} {base : Heap}
theorem S_check_pairs : FnScope ["letters", "images", "pairs", "number", "pair"] ["letters", "images", "pairs"] (d_check_pairs).scope := ⟨rfl, rfl, rfl, by decide +kernel, rfl, by decide +kernel, by decide +kernel⟩
def sp_check_pairs (K : PySem.W.Frag) : Sp := fun vs H Q E => ∃ (D : Hp) (l i : Str) (v : V) (ps : List Pr), vs = [.str l, .str i, v] ∧ l.length ≤ sizeLine ∧ i.length ≤ sizeLine ∧ Same D H ∧ Dp K D v (dPs ps) ∧ Short ps ∧
  (¬ (okLetters l = true ∧ okLetters i = true) → E (.ref (ga K "BadLetters")) none H) ∧
  (okLetters l = true → okLetters i = true → badP l i 0 ps = none → ∀ D' H', Gr No D H D' H' → Q .non H') ∧
  (okLetters l = true → okLetters i = true → ∀ b, badP l i 0 ps = some b → Er K E D H b)
theorem w_check_pairs (T : Txt P w K mg) : Has P w K mg base 4 "check_pairs" (sp_check_pairs K) := by
  have S := S_check_pairs
  have G_check_letters := w_check_letters (base := base) T
  have G_check_word := w_check_word (base := base) T
  refine has_of (k := 3) T.d_check_pairs T.gd_check_pairs S (fun _ _ _ _ _ _ us hl => match us, hl with | [_, _, _], _ => rfl) (fun vs H Q E h => ?_) (fun f cdv A outer s H vs Q E hr h => ?_)
  · obtain ⟨D, l, i, v, ps, rfl, _⟩ := h
    rfl
  · obtain ⟨D, l, im, v, ps, rfl, hl, hi, sm, dv, hsh, q0, q1, q2⟩ := h
    obtain ⟨a, xs, rfl, ha, hxs⟩ := dp_list dv
    refine ⟨_, (pss_cons (ps_expr (pe_has G_check_letters (hr.mono (by decide)) (L2N.takes_of rfl rfl rfl rfl) rfl (pa_cons (pv 0) pa_nil)))
    (pss_cons (ps_expr (pe_has G_check_letters (hr.mono (by decide)) (L2N.takes_of rfl rfl rfl rfl) rfl (pa_cons (pv 1) pa_nil)))
    (pss_one (ps_for (passes_of rfl) rfl (piK_enum K (by rfl) T.b_enumerate (pa_cons (pv 2) pa_nil)) (pgK_tup K (n := 2) rfl (pgs_cons (pg_name (i := 3) S.nd rfl (Or.inl rfl)) (pgs_cons (pg_name (i := 4) S.nd rfl (Or.inl rfl)) pgs_nil)))
      (pss_cons (ps_expr (pe_has G_check_word (hr.mono (by decide)) (L2N.takes_of rfl rfl rfl rfl) rfl (pa_cons (pv 0) (pa_cons (pe_ix (ixK_seq K) (pv 4) pe_int (fun _ _ => rfl)) pa_nil))))
    (pss_cons (ps_expr (pe_has G_check_word (hr.mono (by decide)) (L2N.takes_of rfl rfl rfl rfl) rfl (pa_cons (pv 1) (pa_cons (pe_ix (ixK_seq K) (pv 4) pe_int (fun _ _ => rfl)) pa_nil))))
    (pss_one (ps_if (pt_cmpR (cK_ne K hr.units) (pe_callB (bK_len K) (by rfl) T.b_len (by decide +kernel) (pa_cons (pe_ix (ixK_seq K) (pv 4) pe_int (fun _ _ => rfl)) pa_nil)) (pe_callB (bK_len K) (by rfl) T.b_len (by decide +kernel) (pa_cons (pe_ix (ixK_seq K) (pv 4) pe_int (fun _ _ => rfl)) pa_nil)) (nomark _))
      (pss_one (L2N.ps_raise rfl (L2N.takes_of rfl rfl rfl rfl) (pmk_rz (z_BadText T) (hr.mono (by decide)) rfl (pa_cons (pv 3) pa_nil))))
      pss_nil)))))))), ?_⟩
    walk_at "rd"
    refine ⟨l, rfl, hl, fun ok1 => ?_, fun e => q0 fun z => by rw [e] at z; cases z.1⟩
    walk_at "rd"
    refine ⟨im, rfl, hi, fun ok2 => ?_, fun e => q0 fun z => by rw [e] at z; cases z.2⟩
    have q1 := q1 ok1 ok2
    have q2 := q2 ok1 ok2
    have haH := sm.seq ha
    walk_at "rd"
    refine ⟨a, xs, rfl, haH, lp_it walk_enum (fun i σ H' => ∃ D' o3 o4, Gr No D H D' H' ∧ σ = [some (.str l), some (.str im), some (.ref a), o3, o4] ∧ badP l im i (ps.drop i) = badP l im 0 ps) ⟨D, _, _, Gr.refl sm, rfl, rfl⟩ (fun i σ H' _ ⟨D', _, _, g, _⟩ => sql_up g ha) ?_ ?_⟩
    · rintro i x σ H1 H2 hi ⟨D1, o3, o4, g, rfl, en⟩ ⟨t, x1, x2, rfl, nt, rfl, e1, e2⟩
      cases e1
      obtain ⟨d, hd, hx2⟩ := dpl_get hxs e2
      rw [List.getElem?_map] at hd
      obtain ⟨p, hp, rfl⟩ := Option.map_eq_some_iff.mp hd
      obtain ⟨b, rfl, hb⟩ := dP_get hx2
      obtain ⟨hi1, ep⟩ := List.getElem?_eq_some_iff.mp hp
      rw [List.drop_eq_getElem_cons hi1, ep, badP_cons] at en
      have hlen := hsh.len p (List.mem_of_getElem? hp)
      have g2 := g.lay (o := .tup [.int i, .ref b]) nt
      walk_at "rd"
      refine s_ix_t (sqt_up g2 hb) atI_0 ?_
      walk_at "rd"
      refine ⟨D1, l, p.1, rfl, le1000 hlen.1, g2.sub, fun e3 D3 H3 g3 => ?_, fun k e3 D3 H3 d g3 nd => ?_⟩
      · rw [e3] at en
        dsimp only at en
        have g4 := g2.trans g3
        walk_at "rd"
        refine s_ix_t (sqt_up g4 hb) (atI_i (j := 1) rfl rfl) ?_
        walk_at "rd"
        refine ⟨D3, im, p.2, rfl, le1000 hlen.2, g4.sub, fun e4 D5 H5 g5 => ?_, fun k e4 D5 H5 d g5 nd => ?_⟩
        · rw [e4] at en
          dsimp only at en
          have g6 := g4.trans g5
          have h1 := le1000 hlen.1
          have h2 := le1000 hlen.2
          walk_at "rd"
          refine s_ix_t (sqt_up g6 hb) atI_0 ?_
          walk_at "rd"
          refine s_ix_t (sqt_up g6 hb) (atI_i (j := 1) rfl rfl) ?_
          walk_at "rd"
          refine jtN (fun e5 => ?_) (fun e5 => ?_)
          · rw [if_neg fun z => e5 (by rw [z])] at en
            walk_at "rd"
            exact ⟨rfl, by simp, fun d nd => q2 _ en.symm D5 H5 d g6 nd⟩
          · rw [if_pos (by omega)] at en
            walk_at "rd"
            exact ⟨D5, _, _, g6, rfl, en⟩
        · rw [e4] at en
          exact q2 _ en.symm D5 H5 d (g4.trans g5) nd
      · rw [e3] at en
        exact q2 _ en.symm D3 H3 d (g2.trans g3) nd
    · rintro σ H1 ⟨D1, o3, o4, g, rfl, en⟩
      rw [List.drop_of_length_le (by rw [dpl_len hxs, List.length_map]; exact Nat.le_refl _)] at en
      exact q1 en.symm _ _ g
end
end H89

namespace H89
open PySem PySem.Spec L2 He Y Hk89
local macro_rules | `(tactic| walk_at "rd1") => `(tactic| first
  | with_reducible refine s_seq ?_
  | with_reducible refine s_asg ?_
  | with_reducible refine s_gname ?_
  | ((with_reducible refine s_var (v := ?_) ?_ ?_); rotate_left; exact rfl)
  | with_reducible refine s_c ?_
  | with_reducible refine s_op ?_
  | with_reducible refine s_un ?_
  | with_reducible refine s_nil ?_
  | with_reducible refine s_cons ?_
  | with_reducible refine s_CB ?_
  | with_reducible refine s_ifS ?_
  | with_reducible refine s_test ?_
  | with_reducible refine s_B ?_
  | with_reducible refine s_xb ?_
  | with_reducible refine s_xi ?_
  | with_reducible refine s_xs ?_
  | with_reducible refine s_or ?_
  | with_reducible refine s_and ?_
  | with_reducible refine s_not ?_
  | with_reducible refine s_orV ?_
  | with_reducible refine s_andV ?_
  | with_reducible refine s_notV ?_
  | with_reducible refine s_ret ?_
  | with_reducible refine s_retN ?_
  | with_reducible refine s_next ?_
  | with_reducible refine s_drop ?_
  | with_reducible refine s_yes ?_
  | with_reducible refine s_for ?_
  | with_reducible refine s_lc ?_
  | with_reducible refine s_iStr ?_
  | with_reducible refine s_iList ?_
  | with_reducible refine s_iTup ?_
  | with_reducible refine s_iR1 ?_
  | with_reducible refine s_iR2 ?_
  | with_reducible refine s_iE ?_
  | with_reducible refine s_iET ?_
  | with_reducible refine s_iES ?_
  | with_reducible refine s_tup ?_
  | with_reducible refine s_lst ?_
  | with_reducible refine s_BM ?_
  | with_reducible refine s_BM0 ?_
  | with_reducible refine s_BMS _ ?_
  | with_reducible refine s_M1 ?_
  | with_reducible refine s_sl ?_
  | with_reducible refine s_noP ?_
  | with_reducible refine s_po ?_
  | with_reducible refine s_call ?_
  | with_reducible refine s_callS ?_
  | with_reducible refine s_make ?_
  | with_reducible refine s_makeS ?_
  | with_reducible refine s_methS ?_
  | with_reducible refine s_callO ?_
  | with_reducible refine s_dnew ?_
  | with_reducible refine s_dget ?_
  | with_reducible refine s_din ?_
  | with_reducible refine s_dnin ?_
  | with_reducible refine s_dput ?_
  | with_reducible refine s_dsetd ?_
  | with_reducible refine s_dget2 ?_
  | with_reducible refine s_fld ?_
  | with_reducible refine s_sFld ?_
  | with_reducible refine s_rz ?_
  | with_reducible refine s_asgS ?_
  | with_reducible refine s_gSub ?_
  | with_reducible refine s_ifE ?_
  | with_reducible refine s_add_i ?_
  | with_reducible refine s_sub ?_
  | with_reducible refine s_neg ?_
  | with_reducible refine s_eq_i ?_
  | with_reducible refine s_eq_s ?_
  | with_reducible refine s_ne_i ?_
  | with_reducible refine s_ne_s ?_
  | with_reducible refine s_lt_i ?_
  | with_reducible refine s_le_i ?_
  | with_reducible refine s_gt_i ?_
  | with_reducible refine s_ge_i ?_
  | with_reducible refine s_lt_s ?_
  | with_reducible refine s_le_s ?_
  | with_reducible refine s_gt_s ?_
  | with_reducible refine s_ge_s ?_
  | with_reducible refine s_in_c ?_
  | with_reducible refine s_ni_c ?_
  | with_reducible refine s_isN ?_
  | with_reducible refine s_noN ?_
  | with_reducible refine s_abs ?_
  | with_reducible refine s_min2 ?_
  | with_reducible refine s_max2 ?_
  | with_reducible refine s_int_i ?_
  | ((with_reducible refine s_len_s ?_ ?_); assumption)
  | ((with_reducible refine s_len_l (xs := ?_) ?_ ?_); rotate_left; assumption)
  | ((with_reducible refine s_len_t (xs := ?_) ?_ ?_); rotate_left; assumption)
  | with_reducible refine s_pair upd_same ?_
  | with_reducible refine s_callS ?_
  | with_reducible refine s_sortK ?_
  | with_reducible refine s_lc2 ?_
  | with_reducible refine s_disp ?_
  | with_reducible refine s_pcons ?_
  | with_reducible refine s_pnil ?_
  | ((with_reducible refine s_ix_t (by assumption) (by first | exact atI_0 | exact atI_i (j := 1) rfl rfl | exact atI_i (j := 2) rfl rfl | exact atI_i (j := 3) rfl rfl) ?_))
  | with_reducible refine jtT ?_
  | with_reducible refine jtF ?_
  | with_reducible refine jtNT ?_
  | with_reducible refine jtNF ?_
  | dsimp only)
local macro_rules | `(tactic| walk_at "rd") => `(tactic| repeat (walk_at "rd1"))

/-! ### tables of views -/
def chr (im : Str) (j : Nat) : Str := ⟨#[im.cps.toList.getD j 0]⟩
def bW (size : Int) (w im : Str) : Nat → Nat → Tb → Option Tb
  | 0, _, t => some t
  | n + 1, j, t => match getS t (viewI w (j : Nat) size) with
    | some y => if y = chr im j then bW size w im n (j + 1) (putS t (viewI w (j : Nat) size) (chr im j)) else none
    | none => bW size w im n (j + 1) (putS t (viewI w (j : Nat) size) (chr im j))
theorem bW_succ (size : Int) (w im : Str) (n j : Nat) (t : Tb) : bW size w im (n + 1) j t = match getS t (viewI w (j : Nat) size) with
    | some y => if y = chr im j then bW size w im n (j + 1) (putS t (viewI w (j : Nat) size) (chr im j)) else none
    | none => bW size w im n (j + 1) (putS t (viewI w (j : Nat) size) (chr im j)) := rfl
def bP (size : Int) : List Pr → Tb → Option Tb
  | [], t => some t
  | p :: r, t => match bW size p.1 p.2 p.1.length 0 t with
    | none => none
    | some t' => bP size r t'
theorem bP_cons (size : Int) (p : Pr) (r : List Pr) (t : Tb) : bP size (p :: r) t = match bW size p.1 p.2 p.1.length 0 t with
    | none => none
    | some t' => bP size r t' := rfl
/-- the pairs are of one length each -/
structure Fine (ps : List Pr) : Prop extends Short ps where
  eq : ∀ p ∈ ps, p.1.length = p.2.length
/-- two places with one view and different letters -/
structure ClashAt (ps : List Pr) (size : Int) (x y : Nat × Nat) : Prop where
  ex : ∃ p q : Pr, ps[x.1]? = some p ∧ ps[y.1]? = some q ∧ x.2 < p.1.length ∧ y.2 < q.1.length ∧ viewI p.1 (x.2 : Nat) size = viewI q.1 (y.2 : Nat) size ∧ chr p.2 x.2 ≠ chr q.2 y.2
abbrev dN (x : Nat × Nat) : PyData := .tuple [.int (x.1 : Nat), .int (x.2 : Nat)]
/-- the first places t' of views stand beside their letters t -/
structure Lnk (ps : List Pr) (size : Int) (t' : List (Str × (Nat × Nat))) (t : Tb) : Prop where
  eq : ∀ k, (getS t' k).isSome = (getS t k).isSome
  at_ : ∀ k x, getS t' k = some x → ∃ p : Pr, ps[x.1]? = some p ∧ x.2 < p.1.length ∧ viewI p.1 (x.2 : Nat) size = k ∧ getS t k = some (chr p.2 x.2)
theorem Lnk.nil (ps : List Pr) (size : Int) : Lnk ps size [] [] := ⟨fun _ => rfl, fun k x h => nomatch h⟩
theorem Lnk.same {ps : List Pr} {size : Int} {t' : List (Str × (Nat × Nat))} {t : Tb} (L : Lnk ps size t' t) {k : Str} {y : Str} (h : getS t k = some y) : Lnk ps size t' (putS t k y) := by
  have e : ∀ j, getS (putS t k y) j = getS t j := fun j => by
    rw [getS_put]
    by_cases hj : j = k
    · rw [if_pos hj, hj, h]
    · rw [if_neg hj]
  exact ⟨fun j => by rw [e]; exact L.eq j, fun j x hx => by rw [e]; exact L.at_ j x hx⟩
theorem Lnk.new {ps : List Pr} {size : Int} {t' : List (Str × (Nat × Nat))} {t : Tb} (L : Lnk ps size t' t) {x : Nat × Nat} {p : Pr} (hp : ps[x.1]? = some p) (hx : x.2 < p.1.length) :
    Lnk ps size (putS t' (viewI p.1 (x.2 : Nat) size) x) (putS t (viewI p.1 (x.2 : Nat) size) (chr p.2 x.2)) := by
  refine ⟨fun j => ?_, fun j z hz => ?_⟩
  · rw [getS_put, getS_put]
    by_cases hj : j = viewI p.1 (x.2 : Nat) size
    · rw [if_pos hj, if_pos hj]
      rfl
    · rw [if_neg hj, if_neg hj]
      exact L.eq j
  · rw [getS_put] at hz ⊢
    by_cases hj : j = viewI p.1 (x.2 : Nat) size
    · rw [if_pos hj] at hz ⊢
      cases hz
      exact ⟨p, hp, hx, hj.symm, rfl⟩
    · rw [if_neg hj] at hz ⊢
      exact L.at_ j z hz
abbrev RelP (K : PySem.W.Frag) (D : Hp) : V → Nat × Nat → Prop := fun v x => Dp K D v (dN x)
theorem dN_get {K : PySem.W.Frag} {D : Hp} {v : V} {x : Nat × Nat} (h : Dp K D v (dN x)) : ∃ a, v = .ref a ∧ SqT K D a [.int (x.1 : Nat), .int (x.2 : Nat)] := by
  obtain ⟨a, xs, e, hs, ha⟩ := dp_tuple h
  have : xs = [(x.1 : Int), (x.2 : Int)].map V.int := dpl_ints (ns := [(x.1 : Int), (x.2 : Int)]) ha
  rw [this] at hs
  exact ⟨a, e, hs⟩
theorem dN_of {K : PySem.W.Frag} {D : Hp} {a : Addr} {x : Nat × Nat} (h : D a = some (.tup [.int (x.1 : Nat), .int (x.2 : Nat)])) : Dp K D (.ref a) (dN x) := .tup (sqt h) (dpl_of_ints (ns := [(x.1 : Int), (x.2 : Int)]))
/-- the state of first_clash: at word n, place j -/
structure FcI (K : PySem.W.Frag) (D H : Hp) (pl : Addr) (ps : List Pr) (size : Int) (t : Tb) (bd : Nat) (D' H' : Hp) : Prop where
  g : Gr No D H D' H'
  free : D' pl = none
  ex : ∃ (t' : List (Str × (Nat × Nat))) (kvs : List (Key × V)), H' pl = some (.dK kvs) ∧ KvR (RelP K D') kvs t' ∧ Lnk ps size t' t ∧ t'.length ≤ bd
theorem FcI.up {K : PySem.W.Frag} {D H : Hp} {pl : Addr} {ps : List Pr} {size : Int} {t : Tb} {bd : Nat} {D1 H1 D2 H2 : Hp} (h : FcI K D H pl ps size t bd D1 H1) (g : Gr No D1 H1 D2 H2) : FcI K D H pl ps size t bd D2 H2 := by
  obtain ⟨g0, hf, t', kvs, h1, h2, h3, h4⟩ := h
  exact ⟨g0.trans g, g.stay hf h1, t', kvs, g.same _ _ (fun z => z) h1, h2.mono fun v y r => dp_up g r, h3, h4⟩
theorem atI_chr {im : Str} {j : Nat} (h : j < im.length) : atI im.cps.toList (j : Int) = some (im.cps.toList.getD j 0) := by
  have h' : j < im.cps.toList.length := by rw [len_list]; exact h
  rw [getD_at h']
  exact atI_nat (List.getElem?_eq_getElem h')
section
variable {P : Program} {w : World} {K : PySem.W.Frag} {mg : Str → Option Value} {base : Heap}
theorem S_first_clash : FnScope ["pairs", "size", "places", "number", "at", "word", "image", "view", "earlier"] ["pairs", "size"] (d_first_clash).scope := ⟨rfl, rfl, rfl, by decide +kernel, rfl, by decide +kernel, by decide +kernel⟩
def sp_first_clash (K : PySem.W.Frag) : Sp := fun vs H Q E => ∃ (D : Hp) (v : V) (ps : List Pr) (size : Int), vs = [v, .int size] ∧ Same D H ∧ Dp K D v (dPs ps) ∧ Fine ps ∧
  (∀ t, bP size ps [] = some t → ∀ D' H', Gr No D H D' H' → Q .non H') ∧
  (bP size ps [] = none → ∀ x y D' H' u, ClashAt ps size x y → Gr No D H D' H' → Dp K D' u (.tuple [dN x, dN y]) → Q u H')
theorem w_first_clash (T : Txt P w K mg) : Has P w K mg base 4 "first_clash" (sp_first_clash K) := by
  have S := S_first_clash
  have G_view_at := w_view_at (base := base) T
  refine has_of (k := 3) T.d_first_clash T.gd_first_clash S (fun _ _ _ _ _ _ us hl => match us, hl with | [_, _], _ => rfl) (fun vs H Q E h => ?_) (fun f cdv A outer s H vs Q E hr h => ?_)
  · obtain ⟨D, v, ps, size, rfl, _⟩ := h
    rfl
  · obtain ⟨D, v, ps, size, rfl, sm, dv, fine, q1, q2⟩ := h
    obtain ⟨a, xs, rfl, ha, hxs⟩ := dp_list dv
    have hfew := fine.few
    refine ⟨_, (pss_cons (ps_set (i := 2) S.nd rfl (Or.inl rfl) pe_dnewK)
    (pss_cons (ps_for (passes_of rfl) rfl (piK_enum K (by rfl) T.b_enumerate (pa_cons (pv 0) pa_nil)) (pgK_tup K (n := 2) rfl (pgs_cons (pg_name (i := 3) S.nd rfl (Or.inl rfl)) (pgs_cons (pgK_tup K (n := 2) rfl (pgs_cons (pg_name (i := 5) S.nd rfl (Or.inl rfl)) (pgs_cons (pg_name (i := 6) S.nd rfl (Or.inl rfl)) pgs_nil))) pgs_nil)))
      (pss_one (ps_for (passes_of rfl) rfl (pi_range1 (by rfl) T.b_range (pa_cons (pe_callB (bK_len K) (by rfl) T.b_len (by decide +kernel) (pa_cons (pv 5) pa_nil)) pa_nil)) (pg_name (i := 4) S.nd rfl (Or.inl rfl))
      (pss_cons (ps_set (i := 7) S.nd rfl (Or.inl rfl) (pe_has G_view_at (hr.mono (by decide)) (L2N.takes_of rfl rfl rfl rfl) rfl (pa_cons (pv 5) (pa_cons (pv 4) (pa_cons (pv 1) pa_nil)))))
    (pss_cons (ps_set (i := 8) S.nd rfl (Or.inl rfl) (pe_dsetd (pv 2) (pv 7) (pe_tup (pa_cons (pv 3) (pa_cons (pv 4) pa_nil))) ⟨rfl, rfl, rfl, rfl⟩))
    (pss_one (ps_if (pt_cmpR (cK_ne K hr.units) (pe_ix (ixK_seq K) (pe_ix (ixK_seq K) (pe_ix (ixK_seq K) (pv 0) (pe_ix (ixK_seq K) (pv 8) pe_int (fun _ _ => rfl)) (fun _ _ => rfl)) pe_int (fun _ _ => rfl)) (pe_ix (ixK_seq K) (pv 8) pe_int (fun _ _ => rfl)) (fun _ _ => rfl)) (pe_ix (ixK_seq K) (pv 6) (pv 4) (fun _ _ => rfl)) (nomark _))
      (pss_one (ps_ret (pe_tup (pa_cons (pv 8) (pa_cons (pe_tup (pa_cons (pv 3) (pa_cons (pv 4) pa_nil))) pa_nil)))))
      pss_nil)))))))
    (pss_one (ps_ret pe_non)))), ?_⟩
    walk_at "rd"
    intro pl npl
    have hDpl : D pl = none := (Gr.refl (m := No) sm).free npl
    have gp := (Gr.refl (m := No) sm).lay (o := .dK []) npl
    have haH := sql_up gp ha
    walk_at "rd"
    refine ⟨a, xs, rfl, haH, lp_it walk_enum (fun i σ H' => ∃ D' t o3 o4 o5 o6 o7 o8, FcI K D H pl ps size t (1000 * i) D' H' ∧ σ = [some (.ref a), some (.int size), some (.ref pl), o3, o4, o5, o6, o7, o8] ∧ bP size (ps.drop i) t = bP size ps [])
      ⟨D, [], none, none, none, none, none, none, ⟨gp, hDpl, [], [], upd_same, .nil, Lnk.nil _ _, Nat.zero_le _⟩, rfl, rfl⟩ (fun i σ H' _ ⟨D', _, _, _, _, _, _, _, g, _⟩ => sql_up g.g ha) ?_ ?_⟩
    · rintro i x σ H1 H2 hi ⟨D1, t, o3, o4, o5, o6, o7, o8, I, rfl, en⟩ ⟨tt, x1, x2, rfl, nt, rfl, e1, e2⟩
      cases e1
      obtain ⟨d, hd, hx2⟩ := dpl_get hxs e2
      rw [List.getElem?_map] at hd
      obtain ⟨p, hp, rfl⟩ := Option.map_eq_some_iff.mp hd
      obtain ⟨b, rfl, hb⟩ := dP_get hx2
      obtain ⟨hi1, ep⟩ := List.getElem?_eq_some_iff.mp hp
      rw [List.drop_eq_getElem_cons hi1, ep, bP_cons] at en
      have hlen := fine.len p (List.mem_of_getElem? hp)
      have heq := fine.eq p (List.mem_of_getElem? hp)
      have hl1 := le1000 hlen.1
      have I2 := I.up ((Gr.refl (m := No) I.g.sub).lay (o := .tup [.int i, .ref b]) nt)
      have hbH := sqt_up I2.g hb
      refine ⟨tt, [.int i, .ref b], rfl, sqt upd_same, rfl, .int i, [.ref b], rfl, .ref b, [], rfl, ⟨b, [.str p.1, .str p.2], rfl, hbH, rfl, .str p.1, [.str p.2], rfl, .str p.2, [], rfl, rfl, rfl, ?_⟩⟩
      walk_at "rd"
      have hcol : ∀ (r : Option Tb), r = bP size ps [] → r = bP size ps [] := fun _ h => h
      refine ⟨_, rfl, by omega, by omega, lp_it walk_r0 (fun j σ H' => ∃ D' t o4 o7 o8, FcI K D H pl ps size t (1000 * i + j) D' H' ∧ σ = [some (.ref a), some (.int size), some (.ref pl), some (.int i), o4, some (.str p.1), some (.str p.2), o7, o8] ∧
        (match bW size p.1 p.2 (p.1.length - j) j t with
          | none => none
          | some t2 => bP size (ps.drop (i + 1)) t2) = bP size ps []) ⟨D1, t, _, _, _, I2, rfl, en⟩ (fun _ _ _ _ _ => trivial) ?_ ?_⟩
      · rintro j x σ H3 H4 hj ⟨D3, t, o4, o7, o8, I3, rfl, en⟩ ⟨rfl, rfl⟩
        have hj1 : j < p.1.length := by omega
        have hj2 : j < p.2.length := by omega
        rw [show p.1.length - j = (p.1.length - (j + 1)) + 1 by omega, bW_succ] at en
        walk_at "rd"
        refine ⟨p.1, _, _, rfl, hl1, ?_⟩
        with_reducible refine s_gname ?_
        obtain ⟨g3, hf3, t', kvs, hk, hkv, L, hb'⟩ := I3
        generalize ev : viewI p.1 (j : Nat) size = vw at *
        refine s_cut (fun σ' H' => ∃ (D' : Hp) (e : V) (x : Nat × Nat) (p' : Pr), Gr No D H D' H' ∧ Dp K D' e (dN x) ∧ ps[x.1]? = some p' ∧ x.2 < p'.1.length ∧ viewI p'.1 (x.2 : Nat) size = vw ∧
          σ' = [some (.ref a), some (.int size), some (.ref pl), some (.int i), some (.int (j : Nat)), some (.str p.1), some (.str p.2), some (.str vw), some e] ∧
          (chr p'.2 x.2 = chr p.2 j → FcI K D H pl ps size (putS t vw (chr p.2 j)) (1000 * i + (j + 1)) D' H' ∧ (match bW size p.1 p.2 (p.1.length - (j + 1)) (j + 1) (putS t vw (chr p.2 j)) with
            | none => none
            | some t2 => bP size (ps.drop (i + 1)) t2) = bP size ps []) ∧
          (chr p'.2 x.2 ≠ chr p.2 j → bP size ps [] = none)) ?_ (fun N rest => ?_)
        · rintro σ' H5 ⟨D5, e, x, p', g5, de, hpx, hx2, hvx, rfl, yes, no⟩
          obtain ⟨ea, rfl, he⟩ := dN_get de
          have heH := g5.sub |> fun s => same_seqT s he
          obtain ⟨bv, hbv, dbv⟩ := dpl_getR hxs (d := dP p') (i := x.1) (by rw [List.getElem?_map, hpx]; rfl)
          obtain ⟨b', rfl, hb2⟩ := dP_get dbv
          have hlen' := fine.len p' (List.mem_of_getElem? hpx)
          have heq' := fine.eq p' (List.mem_of_getElem? hpx)
          have haH5 := sql_up g5 ha
          walk_at "rd"
          try refine s_ix_t heH atI_0 ?_
          refine s_ix_l haH5 (atI_i (j := x.1) rfl hbv) ?_
          walk_at "rd"
          refine s_ix_t (sqt_up g5 hb2) (atI_i (j := 1) rfl rfl) ?_
          walk_at "rd"
          try refine s_ix_t heH (atI_i (j := 1) rfl rfl) ?_
          refine s_ix_s (le1000 hlen'.2) (atI_chr (by omega)) ?_
          walk_at "rd"
          refine s_ix_s (le1000 hlen.2) (atI_chr hj2) ?_
          walk_at "rd"
          refine jtN (fun e => ?_) (fun e => ?_)
          · have hn := no e
            walk_at "rd"
            refine ⟨le1000 (by simp), fun c1 nc1 => ?_⟩
            have g6 := g5.ice (o := .tup [.int i, .int (j : Nat)]) nc1
            walk_at "rd"
            refine ⟨le1000 (by simp), fun c2 nc2 => ?_⟩
            have g7 := g6.ice (o := .tup [.ref ea, .ref c1]) nc2
            walk_at "rd"
            have s6 := same_new (o := .tup [.int i, .int (j : Nat)]) (g5.free nc1)
            have s7 := same_new (o := .tup [.ref ea, .ref c1]) (g6.free nc2)
            refine q2 hn x (i, j) _ _ (.ref c2) ⟨p', p, hpx, hp, hx2, hj1, hvx.trans ev.symm, e⟩ g7 (.tup (sqt upd_same) (.cons (Y.Dp.mono s7 (Y.Dp.mono s6 de)) (.cons (Y.Dp.mono s7 (dN_of (x := (i, j)) upd_same)) .nil)))
          · obtain ⟨F, en2⟩ := yes e
            walk_at "rd"
            exact ⟨D5, _, _, _, _, F, rfl, en2⟩
        · walk_at "rd"
          refine ⟨pl, rfl, isDS hk, ?_⟩
          walk_at "rd"
          refine ⟨le1000 (by simp), fun c nc => ?_⟩
          have gl := (Gr.refl (m := No) g3.sub).ice (o := .tup [.int i, .int (j : Nat)]) nc
          have g4 := g3.trans gl
          have hk4 := gl.same _ _ (fun z => z) hk
          have hf4 := gl.stay hf3 hk
          have hkv4 := hkv.mono fun v y r => (dp_up gl r : RelP K _ v y)
          have dc : Dp K (upd D3 c (.tup [.int i, .int (j : Nat)])) (.ref c) (dN (i, j)) := dN_of upd_same
          have hkl := hkv.len
          refine ⟨kvs, Sum.inr vw, hk4, rfl, ltBig (by omega), fun v hv => ?_, fun hv => ?_⟩
          · rcases hkv4.get vw with ⟨h1, _⟩ | ⟨v', x, h1, h2, h3⟩
            · rw [h1] at hv
              cases hv
            · rw [h1] at hv
              cases hv
              obtain ⟨p', hpx, hx2, hvx, hgt⟩ := L.at_ vw x h2
              rw [hgt] at en
              dsimp only at en
              refine rest _ _ ⟨_, v, x, p', g4, h3, hpx, hx2, hvx, rfl, fun e => ?_, fun e => ?_⟩
              · rw [e] at hgt
                rw [if_pos e] at en
                exact ⟨⟨g4, hf4, t', kvs, hk4, hkv4, L.same hgt, by omega⟩, en⟩
              · rw [if_neg e] at en
                exact en.symm
          · rcases hkv4.get vw with ⟨h1, h2⟩ | ⟨v', x, h1, h2, h3⟩
            · have hgt : getS t vw = none := by
                have := L.eq vw
                rw [h2] at this
                cases e : getS t vw with
                | none => rfl
                | some y => rw [e] at this; cases this
              rw [hgt] at en
              have Ln := L.new (x := (i, j)) hp hj1
              rw [show viewI p.1 (((i, j) : Nat × Nat).2 : Nat) size = vw from ev] at Ln
              refine rest _ _ ⟨_, .ref c, (i, j), p, g4.put hf4 (.inl npl), dc, hp, hj1, ev, rfl, fun _ => ⟨⟨g4.put hf4 (.inl npl), hf4, putS t' vw (i, j), _, upd_same, KvR.put (R := RelP K _) dc hkv4, Ln, ?_⟩, en⟩, fun e => absurd rfl e⟩
              have := putS_len t' vw (i, j)
              omega
            · rw [h1] at hv
              cases hv
      · rintro σ H3 ⟨D3, t, o4, o7, o8, I3, rfl, en⟩
        rw [show ((p.1.length : Int)).toNat = p.1.length from Int.toNat_natCast _, Nat.sub_self] at en
        obtain ⟨g3, hf3, t', kvs, hk, hkv, L, hb'⟩ := I3
        exact ⟨D3, t, _, _, _, _, _, _, ⟨g3, hf3, t', kvs, hk, hkv, L, by omega⟩, rfl, en⟩
    · rintro σ H1 ⟨D1, t, o3, o4, o5, o6, o7, o8, I, rfl, en⟩
      rw [List.drop_of_length_le (by rw [dpl_len hxs, List.length_map]; exact Nat.le_refl _)] at en
      walk_at "rd"
      exact q1 t en.symm _ _ I.g
end
end H89

namespace H89
open PySem PySem.Spec L2 He Y Hk89
local macro_rules | `(tactic| walk_at "rd1") => `(tactic| first
  | with_reducible refine s_seq ?_
  | with_reducible refine s_asg ?_
  | with_reducible refine s_gname ?_
  | ((with_reducible refine s_var (v := ?_) ?_ ?_); rotate_left; exact rfl)
  | with_reducible refine s_c ?_
  | with_reducible refine s_op ?_
  | with_reducible refine s_un ?_
  | with_reducible refine s_nil ?_
  | with_reducible refine s_cons ?_
  | with_reducible refine s_CB ?_
  | with_reducible refine s_ifS ?_
  | with_reducible refine s_test ?_
  | with_reducible refine s_B ?_
  | with_reducible refine s_xb ?_
  | with_reducible refine s_xi ?_
  | with_reducible refine s_xs ?_
  | with_reducible refine s_or ?_
  | with_reducible refine s_and ?_
  | with_reducible refine s_not ?_
  | with_reducible refine s_orV ?_
  | with_reducible refine s_andV ?_
  | with_reducible refine s_notV ?_
  | with_reducible refine s_ret ?_
  | with_reducible refine s_retN ?_
  | with_reducible refine s_next ?_
  | with_reducible refine s_drop ?_
  | with_reducible refine s_yes ?_
  | with_reducible refine s_for ?_
  | with_reducible refine s_lc ?_
  | with_reducible refine s_iStr ?_
  | with_reducible refine s_iList ?_
  | with_reducible refine s_iTup ?_
  | with_reducible refine s_iR1 ?_
  | with_reducible refine s_iR2 ?_
  | with_reducible refine s_iE ?_
  | with_reducible refine s_iET ?_
  | with_reducible refine s_iES ?_
  | with_reducible refine s_tup ?_
  | with_reducible refine s_lst ?_
  | with_reducible refine s_BM ?_
  | with_reducible refine s_BM0 ?_
  | with_reducible refine s_BMS _ ?_
  | with_reducible refine s_M1 ?_
  | with_reducible refine s_sl ?_
  | with_reducible refine s_noP ?_
  | with_reducible refine s_po ?_
  | with_reducible refine s_call ?_
  | with_reducible refine s_callS ?_
  | with_reducible refine s_make ?_
  | with_reducible refine s_makeS ?_
  | with_reducible refine s_methS ?_
  | with_reducible refine s_callO ?_
  | with_reducible refine s_dnew ?_
  | with_reducible refine s_dget ?_
  | with_reducible refine s_din ?_
  | with_reducible refine s_dnin ?_
  | with_reducible refine s_dput ?_
  | with_reducible refine s_dsetd ?_
  | with_reducible refine s_dget2 ?_
  | with_reducible refine s_fld ?_
  | with_reducible refine s_sFld ?_
  | with_reducible refine s_rz ?_
  | with_reducible refine s_asgS ?_
  | with_reducible refine s_gSub ?_
  | with_reducible refine s_ifE ?_
  | with_reducible refine s_add_i ?_
  | with_reducible refine s_sub ?_
  | with_reducible refine s_neg ?_
  | with_reducible refine s_eq_i ?_
  | with_reducible refine s_eq_s ?_
  | with_reducible refine s_ne_i ?_
  | with_reducible refine s_ne_s ?_
  | with_reducible refine s_lt_i ?_
  | with_reducible refine s_le_i ?_
  | with_reducible refine s_gt_i ?_
  | with_reducible refine s_ge_i ?_
  | with_reducible refine s_lt_s ?_
  | with_reducible refine s_le_s ?_
  | with_reducible refine s_gt_s ?_
  | with_reducible refine s_ge_s ?_
  | with_reducible refine s_in_c ?_
  | with_reducible refine s_ni_c ?_
  | with_reducible refine s_isN ?_
  | with_reducible refine s_noN ?_
  | with_reducible refine s_abs ?_
  | with_reducible refine s_min2 ?_
  | with_reducible refine s_max2 ?_
  | with_reducible refine s_int_i ?_
  | ((with_reducible refine s_len_s ?_ ?_); assumption)
  | ((with_reducible refine s_len_l (xs := ?_) ?_ ?_); rotate_left; assumption)
  | ((with_reducible refine s_len_t (xs := ?_) ?_ ?_); rotate_left; assumption)
  | with_reducible refine s_pair upd_same ?_
  | with_reducible refine s_callS ?_
  | with_reducible refine s_sortK ?_
  | with_reducible refine s_lc2 ?_
  | with_reducible refine s_disp ?_
  | with_reducible refine s_pcons ?_
  | with_reducible refine s_pnil ?_
  | ((with_reducible refine s_ix_t (by assumption) (by first | exact atI_0 | exact atI_i (j := 1) rfl rfl | exact atI_i (j := 2) rfl rfl | exact atI_i (j := 3) rfl rfl) ?_))
  | with_reducible refine jtT ?_
  | with_reducible refine jtF ?_
  | with_reducible refine jtNT ?_
  | with_reducible refine jtNF ?_
  | dsimp only)
local macro_rules | `(tactic| walk_at "rd") => `(tactic| repeat (walk_at "rd1"))

theorem dp_two {K : PySem.W.Frag} {D : Hp} {v : V} {d1 d2 : PyData} (h : Dp K D v (.tuple [d1, d2])) : ∃ a v1 v2, v = .ref a ∧ SqT K D a [v1, v2] ∧ Dp K D v1 d1 ∧ Dp K D v2 d2 := by
  obtain ⟨a, ys, e, hs, hys⟩ := dp_tuple h
  cases hys with
  | cons h0 r0 =>
  cases r0 with
  | cons h1 r1 =>
  cases r1
  exact ⟨a, _, _, e, hs, h0, h1⟩
/-! ### the least size -/
def lgM (ps : List Pr) : Nat := ps.foldr (fun p a => max p.1.length a) 1
theorem lgM_pos (ps : List Pr) : 1 ≤ lgM ps := by
  induction ps with
  | nil => exact Nat.le_refl _
  | cons p r ih =>
    show 1 ≤ max p.1.length (lgM r)
    omega
theorem lgM_ge {ps : List Pr} : ∀ p ∈ ps, p.1.length ≤ lgM ps := by
  induction ps with
  | nil => exact fun p h => nomatch h
  | cons q r ih =>
    intro p hp
    show p.1.length ≤ max q.1.length (lgM r)
    rcases List.mem_cons.mp hp with e | hp
    · rw [e]
      omega
    · have := ih p hp
      omega
theorem lgM_mem (ps : List Pr) : lgM ps = 1 ∨ ∃ p ∈ ps, lgM ps = p.1.length := by
  induction ps with
  | nil => exact .inl rfl
  | cons q r ih =>
    show max q.1.length (lgM r) = 1 ∨ ∃ p ∈ q :: r, max q.1.length (lgM r) = p.1.length
    by_cases h : lgM r ≤ q.1.length
    · exact .inr ⟨q, List.mem_cons_self .., by omega⟩
    · rcases ih with e | ⟨p, hp, e⟩
      · left
        omega
      · exact .inr ⟨p, List.mem_cons_of_mem _ hp, by omega⟩
theorem lgM_max {ps : List Pr} {m : Int} (h1 : m ∈ (1 : Int) :: ps.map fun p => (p.1.length : Int)) (h2 : ∀ y ∈ (1 : Int) :: ps.map fun p => (p.1.length : Int), y ≤ m) : m = (lgM ps : Nat) := by
  have a : m ≤ (lgM ps : Nat) := by
    rcases List.mem_cons.mp h1 with e | h1
    · have := lgM_pos ps
      omega
    · obtain ⟨p, hp, rfl⟩ := List.mem_map.mp h1
      have := lgM_ge p hp
      omega
  have b : ((lgM ps : Nat) : Int) ≤ m := by
    rcases lgM_mem ps with e | ⟨p, hp, e⟩
    · rw [e]
      exact h2 1 (List.mem_cons_self ..)
    · rw [e]
      exact h2 _ (List.mem_cons_of_mem _ (List.mem_map.mpr ⟨p, hp, rfl⟩))
  omega
/-- the pairs fit with s and with no lesser size -/
structure LeastS (ps : List Pr) (s : Nat) : Prop where
  pos : 1 ≤ s
  fit : bP (s : Nat) ps [] ≠ none
  no : ∀ s', 1 ≤ s' → s' < s → bP (s' : Nat) ps [] = none
section
variable {P : Program} {w : World} {K : PySem.W.Frag} {mg : Str → Option Value} {base : Heap}
theorem badP_fine {l i : Str} : ∀ {ps : List Pr} {n : Nat}, badP l i n ps = none → ∀ p ∈ ps, p.1.length = p.2.length ∧ badAt l.cps.toList 0 p.1.cps.toList = none ∧ badAt i.cps.toList 0 p.2.cps.toList = none
  | [], n, _, p, hp => nomatch hp
  | q :: r, n, h, p, hp => by
    rw [badP_cons] at h
    split at h
    · cases h
    · rename_i h1
      split at h
      · cases h
      · rename_i h2
        split at h
        · rename_i h3
          rcases List.mem_cons.mp hp with e | hp
          · rw [e]
            exact ⟨h3, h1, h2⟩
          · exact badP_fine h p hp
        · cases h
theorem S_least_turner : FnScope ["letters", "images", "pairs", "longest", "clash", "size", "pair"] ["letters", "images", "pairs"] (d_least_turner).scope := ⟨rfl, rfl, rfl, by decide +kernel, rfl, by decide +kernel, by decide +kernel⟩
def sp_least (K : PySem.W.Frag) : Sp := fun vs H Q E => ∃ (D : Hp) (l i : Str) (v : V) (ps : List Pr), vs = [.str l, .str i, v] ∧ l.length ≤ sizeLine ∧ i.length ≤ sizeLine ∧ Same D H ∧ Dp K D v (dPs ps) ∧ Short ps ∧
  (¬ (okLetters l = true ∧ okLetters i = true) → E (.ref (ga K "BadLetters")) none H) ∧
  (okLetters l = true → okLetters i = true → ∀ b, badP l i 0 ps = some b → Er K E D H b) ∧
  (okLetters l = true → okLetters i = true → badP l i 0 ps = none →
    (bP (lgM ps : Nat) ps [] = none → ∀ x y D' H' u, ClashAt ps (lgM ps : Nat) x y → Gr No D H D' H' → Dp K D' u (.tuple [.str "never", dN x, dN y]) → Q u H') ∧
    (bP (lgM ps : Nat) ps [] ≠ none → ∀ s D' H' u, LeastS ps s → s ≤ lgM ps → Gr No D H D' H' → Dp K D' u (.tuple [.str "least", .int (s : Nat)]) → Q u H'))
theorem w_least_turner (T : Txt P w K mg) : Has P w K mg base 6 "least_turner" (sp_least K) := by
  have S := S_least_turner
  have G_check_pairs := w_check_pairs (base := base) T
  have G_first_clash := w_first_clash (base := base) T
  refine has_of (k := 5) T.d_least_turner T.gd_least_turner S (fun _ _ _ _ _ _ us hl => match us, hl with | [_, _, _], _ => rfl) (fun vs H Q E h => ?_) (fun f cdv A outer s H vs Q E hr h => ?_)
  · obtain ⟨D, l, i, v, ps, rfl, _⟩ := h
    rfl
  · obtain ⟨D, l, im, v, ps, rfl, hl, hi, sm, dv, hsh, q0, q1, q2⟩ := h
    refine ⟨_, (pss_cons (ps_expr (pe_has G_check_pairs (hr.mono (by decide)) (L2N.takes_of rfl rfl rfl rfl) rfl (pa_cons (pv 0) (pa_cons (pv 1) (pa_cons (pv 2) pa_nil)))))
    (pss_cons (ps_set (i := 3) S.nd rfl (Or.inl rfl) (pe_callB (cr_max rfl) (by rfl) T.b_max (by decide +kernel) (pa_cons (pe_op (oK_add K) (pe_lst (pa_cons pe_int pa_nil)) (pe_lc (own := [("pair", 6)]) (by rfl) S.nd (piK_list K (pv 2)) (blkOk_by (by rfl)) (fun _ _ _ _ _ => (pg_name (i := 6) S.nd rfl (Or.inl rfl))) (fun _ _ _ _ _ => pts_nil) (fun _ _ _ _ _ => (pe_callB (bK_len K) (by rfl) T.b_len (by decide +kernel) (pa_cons (pe_ix (ixK_seq K) (pv 6) pe_int (fun _ _ => rfl)) pa_nil))))) pa_nil)))
    (pss_cons (ps_set (i := 4) S.nd rfl (Or.inl rfl) (pe_has G_first_clash (hr.mono (by decide)) (L2N.takes_of rfl rfl rfl rfl) rfl (pa_cons (pv 2) (pa_cons (pv 3) pa_nil))))
    (pss_cons (ps_if (pt_cmpR c_ns (pv 4) pe_non (nomark _))
      (pss_one (ps_ret (pe_tup (pa_cons pe_str (pa_cons (pe_ix (ixK_seq K) (pv 4) pe_int (fun _ _ => rfl)) (pa_cons (pe_ix (ixK_seq K) (pv 4) pe_int (fun _ _ => rfl)) pa_nil))))))
      pss_nil)
    (pss_cons (ps_set (i := 5) S.nd rfl (Or.inl rfl) pe_int)
    (pss_cons (ps_while (passes_of rfl) (pt_cmpR c_ns (pe_has G_first_clash (hr.mono (by decide)) (L2N.takes_of rfl rfl rfl rfl) rfl (pa_cons (pv 2) (pa_cons (pv 5) pa_nil))) pe_non (nomark _))
      (pss_one (ps_aug (i := 5) S.nd rfl (Or.inl rfl) pe_int ip_add)))
    (pss_one (ps_ret (pe_tup (pa_cons pe_str (pa_cons (pv 5) pa_nil))))))))))), ?_⟩
    walk_at "rd"
    refine ⟨D, l, im, v, ps, rfl, hl, hi, sm, dv, hsh, q0, fun ok1 ok2 hb D1 H1 g1 => ?_, q1⟩
    have hbf := badP_fine hb
    have fine : Fine ps := { hsh with eq := fun p hp => (hbf p hp).1 }
    obtain ⟨qn, qs⟩ := q2 ok1 ok2 hb
    obtain ⟨a, xs, rfl, ha, hxs⟩ := dp_list dv
    have hxl : xs.length = ps.length := by rw [dpl_len hxs, List.length_map]
    have hfew := hsh.few
    walk_at "rd"
    refine ⟨le1000 (by simp), fun o1 no1 => ?_⟩
    have g2 := g1.lay (o := .lst [.int 1]) no1
    have ho1 : (upd H1 o1 (.lst [.int 1])) o1 = some (.lst [.int 1]) := upd_same
    walk_at "rd"
    refine ⟨a, rfl, ⟨_, sql_up g2 ha⟩, fun p np => lq_map walk_list (ps.map fun p => V.int (p.1.length : Nat)) (by rw [List.length_map, hxl]) (by rw [hxl]; exact le1000 hfew) np (fun acc => sql_up (g2.lay np) ha) ?_ ?_⟩
    · rintro i x acc H' N hi ⟨rfl, ex⟩ hN hlt
      obtain ⟨d, hd, hx2⟩ := dpl_get hxs ex
      rw [List.getElem?_map] at hd
      obtain ⟨pr, hp, rfl⟩ := Option.map_eq_some_iff.mp hd
      obtain ⟨b, rfl, hb⟩ := dP_get hx2
      have hlen := hsh.len pr (List.mem_of_getElem? hp)
      have hz := le1000 hlen.1
      walk_at "rd"
      refine ⟨rfl, ?_⟩
      walk_at "rd"
      refine s_ix_t (sqt_up (g2.lay np) hb) atI_0 ?_
      walk_at "rd"
      refine lq_put hlt (hN _ ?_)
      rw [List.getElem?_map, hp]
      rfl
    have g3 := g2.lay (o := .lst (ps.map fun p => V.int (p.1.length : Nat))) np
    have n1p : o1 ≠ p := fun e => by rw [← e, ho1] at np; cases np
    refine s_add_l ((upd_ne n1p).trans ho1) upd_same (leBig (by simp; omega)) fun c nc => ?_
    have g4 := g3.lay (o := .lst ([.int 1] ++ ps.map fun p => V.int (p.1.length : Nat))) nc
    walk_at "rd"
    refine ⟨c, 1 :: ps.map fun p => (p.1.length : Int), rfl, sql (by rw [upd_same, List.map_cons, List.map_map]; rfl), by simp, fun m hm1 hm2 => ?_⟩
    have em := lgM_max hm1 hm2
    subst em
    walk_at "rd"
    refine ⟨D1, .ref a, ps, (lgM ps : Nat), rfl, g4.sub, dp_up g4 (.lst ha hxs), fine, fun t ht D5 H5 g5 => ?_, fun hn x y D5 H5 u hc g5 du => ?_⟩
    · have gA := g4.trans g5
      have hfit : bP (lgM ps : Nat) ps [] ≠ none := fun z => by rw [ht] at z; cases z
      walk_at "rd"
      refine jtN (fun z => absurd rfl z) (fun _ => ?_)
      walk_at "rd"
      refine ⟨fun n σ H' => ∃ (D' : Hp) (sz : Nat), n = lgM ps - sz ∧ Gr No D H D' H' ∧ 1 ≤ sz ∧ sz ≤ lgM ps ∧ (∀ s', 1 ≤ s' → s' < sz → bP (s' : Nat) ps [] = none) ∧ σ = [some (.str l), some (.str im), some (.ref a), some (.int (lgM ps : Nat)), some .non, some (.int (sz : Nat)), none], ⟨_, D5, 1, rfl, gA, Nat.le_refl _, lgM_pos ps, fun s' h1 h2 => by omega, rfl⟩, ?_⟩
      rintro n σ H6 ⟨D6, sz, rfl, g6, h1, h2, hno, rfl⟩
      walk_at "rd"
      refine ⟨D6, .ref a, ps, (sz : Nat), rfl, g6.sub, dp_up g6 (.lst ha hxs), fine, fun t2 ht2 D7 H7 g7 => ?_, fun hn2 x y D7 H7 u hc g7 du => ?_⟩
      · walk_at "rd"
        refine jtN (fun z => absurd rfl z) (fun _ => ?_)
        walk_at "rd"
        refine ⟨le1000 (by simp), fun t3 nt3 => ?_⟩
        refine qs hfit sz _ _ _ ⟨h1, (fun z => by rw [ht2] at z; cases z), hno⟩ h2 ((g6.trans g7).ice nt3) (.tup (sqt upd_same) (.cons (.str _) (.cons (.int _) .nil)))
      · have hlt : sz < lgM ps := by
          rcases Nat.lt_or_ge sz (lgM ps) with h | h
          · exact h
          · have : sz = lgM ps := by omega
            rw [this] at hn2
            exact absurd hn2 hfit
        have hu : u ≠ .non := by
          obtain ⟨b, ys, e, _⟩ := dp_tuple du
          rw [e]
          exact fun z => nomatch z
        walk_at "rd"
        refine jtN (fun _ => ?_) (fun z => absurd z hu)
        refine ⟨fun σ' H' => ∃ m', m' < lgM ps - sz ∧ ∃ (D' : Hp) (sz : Nat), m' = lgM ps - sz ∧ Gr No D H D' H' ∧ 1 ≤ sz ∧ sz ≤ lgM ps ∧ (∀ s', 1 ≤ s' → s' < sz → bP (s' : Nat) ps [] = none) ∧ σ' = [some (.str l), some (.str im), some (.ref a), some (.int (lgM ps : Nat)), some .non, some (.int (sz : Nat)), none], fun σ' H' h => h, ?_⟩
        refine s_aug1 rfl ?_
        refine ⟨lgM ps - (sz + 1), by omega, D7, sz + 1, rfl, g6.trans g7, by omega, by omega, fun s' h3 h4 => ?_, rfl⟩
        by_cases e : s' = sz
        · rw [e]
          exact hn2
        · exact hno s' h3 (by omega)
    · obtain ⟨b, v1, v2, rfl, hbt, h0, h1⟩ := dp_two du
      have hbH := same_seqT g5.sub hbt
      walk_at "rd"
      refine jtN (fun _ => ?_) (fun z => nomatch z)
      walk_at "rd"
      refine ⟨le1000 (by simp), fun t3 nt3 => ?_⟩
      have g6 := (Gr.refl (m := No) g5.sub).ice (o := .tup [.str "never", v1, v2]) nt3
      exact qn hn x y _ _ _ hc ((g4.trans g5).trans g6) (.tup (sqt upd_same) (.cons (.str _) (.cons (Y.Dp.mono g6.dd h0) (.cons (Y.Dp.mono g6.dd h1) .nil))))
end
end H89

namespace H89
open PySem PySem.Spec L2 He Y Hk89
local macro_rules | `(tactic| walk_at "rd1") => `(tactic| first
  | with_reducible refine s_seq ?_
  | with_reducible refine s_asg ?_
  | with_reducible refine s_gname ?_
  | ((with_reducible refine s_var (v := ?_) ?_ ?_); rotate_left; exact rfl)
  | with_reducible refine s_c ?_
  | with_reducible refine s_op ?_
  | with_reducible refine s_un ?_
  | with_reducible refine s_nil ?_
  | with_reducible refine s_cons ?_
  | with_reducible refine s_CB ?_
  | with_reducible refine s_ifS ?_
  | with_reducible refine s_test ?_
  | with_reducible refine s_B ?_
  | with_reducible refine s_xb ?_
  | with_reducible refine s_xi ?_
  | with_reducible refine s_xs ?_
  | with_reducible refine s_or ?_
  | with_reducible refine s_and ?_
  | with_reducible refine s_not ?_
  | with_reducible refine s_orV ?_
  | with_reducible refine s_andV ?_
  | with_reducible refine s_notV ?_
  | with_reducible refine s_ret ?_
  | with_reducible refine s_retN ?_
  | with_reducible refine s_next ?_
  | with_reducible refine s_drop ?_
  | with_reducible refine s_yes ?_
  | with_reducible refine s_for ?_
  | with_reducible refine s_lc ?_
  | with_reducible refine s_iStr ?_
  | with_reducible refine s_iList ?_
  | with_reducible refine s_iTup ?_
  | with_reducible refine s_iR1 ?_
  | with_reducible refine s_iR2 ?_
  | with_reducible refine s_iE ?_
  | with_reducible refine s_iET ?_
  | with_reducible refine s_iES ?_
  | with_reducible refine s_tup ?_
  | with_reducible refine s_lst ?_
  | with_reducible refine s_BM ?_
  | with_reducible refine s_BM0 ?_
  | with_reducible refine s_BMS _ ?_
  | with_reducible refine s_M1 ?_
  | with_reducible refine s_sl ?_
  | with_reducible refine s_noP ?_
  | with_reducible refine s_po ?_
  | with_reducible refine s_call ?_
  | with_reducible refine s_callS ?_
  | with_reducible refine s_make ?_
  | with_reducible refine s_makeS ?_
  | with_reducible refine s_methS ?_
  | with_reducible refine s_callO ?_
  | with_reducible refine s_dnew ?_
  | with_reducible refine s_dget ?_
  | with_reducible refine s_din ?_
  | with_reducible refine s_dnin ?_
  | with_reducible refine s_dput ?_
  | with_reducible refine s_dsetd ?_
  | with_reducible refine s_dget2 ?_
  | with_reducible refine s_fld ?_
  | with_reducible refine s_sFld ?_
  | with_reducible refine s_rz ?_
  | with_reducible refine s_asgS ?_
  | with_reducible refine s_gSub ?_
  | with_reducible refine s_ifE ?_
  | with_reducible refine s_add_i ?_
  | with_reducible refine s_sub ?_
  | with_reducible refine s_neg ?_
  | with_reducible refine s_eq_i ?_
  | with_reducible refine s_eq_s ?_
  | with_reducible refine s_ne_i ?_
  | with_reducible refine s_ne_s ?_
  | with_reducible refine s_lt_i ?_
  | with_reducible refine s_le_i ?_
  | with_reducible refine s_gt_i ?_
  | with_reducible refine s_ge_i ?_
  | with_reducible refine s_lt_s ?_
  | with_reducible refine s_le_s ?_
  | with_reducible refine s_gt_s ?_
  | with_reducible refine s_ge_s ?_
  | with_reducible refine s_in_c ?_
  | with_reducible refine s_ni_c ?_
  | with_reducible refine s_isN ?_
  | with_reducible refine s_noN ?_
  | with_reducible refine s_abs ?_
  | with_reducible refine s_min2 ?_
  | with_reducible refine s_max2 ?_
  | with_reducible refine s_int_i ?_
  | ((with_reducible refine s_len_s ?_ ?_); assumption)
  | ((with_reducible refine s_len_l (xs := ?_) ?_ ?_); rotate_left; assumption)
  | ((with_reducible refine s_len_t (xs := ?_) ?_ ?_); rotate_left; assumption)
  | with_reducible refine s_pair upd_same ?_
  | with_reducible refine s_callS ?_
  | with_reducible refine s_sortK ?_
  | with_reducible refine s_lc2 ?_
  | with_reducible refine s_disp ?_
  | with_reducible refine s_pcons ?_
  | with_reducible refine s_pnil ?_
  | ((with_reducible refine s_ix_t (by assumption) (by first | exact atI_0 | exact atI_i (j := 1) rfl rfl | exact atI_i (j := 2) rfl rfl | exact atI_i (j := 3) rfl rfl) ?_))
  | with_reducible refine jtT ?_
  | with_reducible refine jtF ?_
  | with_reducible refine jtNT ?_
  | with_reducible refine jtNF ?_
  | dsimp only)
local macro_rules | `(tactic| walk_at "rd") => `(tactic| repeat (walk_at "rd1"))

/-! ### one turner behind the other -/
def innM (gap : Str) (t1 : Tb) (s1 : Nat) (v : Str) : Nat → Nat → Str → Str
  | 0, _, acc => acc
  | n + 1, j, acc => innM gap t1 s1 v n (j + 1) (acc ++ (getS t1 (viewI v (j : Nat) (s1 : Nat))).getD gap)
theorem innM_succ (gap : Str) (t1 : Tb) (s1 : Nat) (v : Str) (n j : Nat) (acc : Str) : innM gap t1 s1 v (n + 1) j acc = innM gap t1 s1 v n (j + 1) (acc ++ (getS t1 (viewI v (j : Nat) (s1 : Nat))).getD gap) := rfl
def inn (gap : Str) (t1 : Tb) (s1 s2 : Nat) (v : Str) : Str := innM gap t1 s1 v (v.length - (v.length - s2)) (v.length - s2) ""
def cmpF (gap : Str) (s1 s2 : Nat) (t1 t2 : Tb) (t : Tb) (v : Str) : Tb := match getS t2 (inn gap t1 s1 s2 v) with
  | none => t
  | some y => putS t v y
def compT (gap : Str) (l : Str) (s1 s2 : Nat) (t1 t2 : Tb) : Tb := (viewsM l (s1 + s2 - 1)).foldl (cmpF gap s1 s2 t1 t2) []
/-- the signs of a view -/
theorem view_tl {w : Str} {j s : Nat} (hj : j < w.length) : (viewI w (j : Nat) (s : Nat)).cps.toList = (w.cps.toList.take (j + 1)).drop (j + 1 - s) := by
  have e : (if (j : Int) - (s : Int) + 1 > 0 then (j : Int) - (s : Int) + 1 else 0) = ((j + 1 - s : Nat) : Int) := by
    split <;> omega
  unfold viewI
  rw [e]
  show ((w.cps.toList.drop (HT.sIx w.length 0 (some ((j + 1 - s : Nat) : Int)))).take (HT.sIx w.length w.length (some ((j : Int) + 1)) - HT.sIx w.length 0 (some ((j + 1 - s : Nat) : Int)))).toArray.toList = _
  rw [HT.sIx_nat, show (j : Int) + 1 = ((j + 1 : Nat) : Int) by omega, HT.sIx_nat, Nat.min_eq_left (by omega), Nat.min_eq_left (by omega), List.drop_take]
theorem view_lenE {w : Str} {j s : Nat} (hj : j < w.length) : (viewI w (j : Nat) (s : Nat)).length = j + 1 - (j + 1 - s) := by
  rw [← len_list, view_tl hj, List.length_drop, List.length_take, len_list]
  omega
/-- a view within a view -/
theorem view_view {w : Str} {a j s1 s2 : Nat} (h1 : 1 ≤ s1) (h2 : 1 ≤ s2) (ha : a < w.length) (hlo : (viewI w (a : Nat) ((s1 + s2 - 1 : Nat) : Int)).length - s2 ≤ j) (hj : j < (viewI w (a : Nat) ((s1 + s2 - 1 : Nat) : Int)).length) :
    viewI (viewI w (a : Nat) ((s1 + s2 - 1 : Nat) : Int)) (j : Nat) (s1 : Nat) = viewI w ((a + 1 - (s1 + s2 - 1) + j : Nat) : Int) (s1 : Nat) := by
  have hl := view_lenE (s := s1 + s2 - 1) ha
  have hp : a + 1 - (s1 + s2 - 1) + j < w.length := by omega
  refine TL.ext_tl ?_
  show (viewI _ _ _).cps.toList = (viewI _ _ _).cps.toList
  rw [view_tl hj, view_tl hp, view_tl ha]
  rw [List.take_drop, List.drop_drop, List.take_take]
  rw [show min (a + 1 - (s1 + s2 - 1) + (j + 1)) (a + 1) = a + 1 - (s1 + s2 - 1) + j + 1 by omega]
  congr 1
  omega
theorem innM_one {gap : Str} {t1 : Tb} {s1 : Nat} {v : Str} {f : Nat → Nat} : ∀ {n j : Nat} {acc : Str}, (∀ p, j ≤ p → p < j + n → (getS t1 (viewI v (p : Nat) (s1 : Nat))).getD gap = ⟨#[f p]⟩) →
    (innM gap t1 s1 v n j acc).cps.toList = acc.cps.toList ++ (List.range' j n).map f
  | 0, j, acc, h => by
    show acc.cps.toList = _
    simp
  | n + 1, j, acc, h => by
    rw [innM_succ, h j (Nat.le_refl _) (by omega), innM_one fun p h1 h2 => h p (by omega) (by omega)]
    have e : (acc ++ (⟨#[f j]⟩ : Str)).cps.toList = acc.cps.toList ++ [f j] := TL.tl_append ..
    rw [e, List.range'_succ, List.map_cons, List.append_assoc]
    rfl
theorem innM_acc {gap : Str} {t1 : Tb} {s1 : Nat} {v : Str} {c : Nat} : ∀ {n j : Nat} {acc : Str}, c ∈ acc.cps.toList → c ∈ (innM gap t1 s1 v n j acc).cps.toList
  | 0, j, acc, h => h
  | n + 1, j, acc, h => by
    rw [innM_succ]
    refine innM_acc ?_
    have e : (acc ++ (getS t1 (viewI v (j : Nat) (s1 : Nat))).getD gap).cps.toList = acc.cps.toList ++ ((getS t1 (viewI v (j : Nat) (s1 : Nat))).getD gap).cps.toList := TL.tl_append ..
    rw [e]
    exact List.mem_append_left _ h
theorem innM_gap {gap : Str} {t1 : Tb} {s1 : Nat} {v : Str} {c : Nat} (hc : c ∈ gap.cps.toList) : ∀ {n j : Nat} {acc : Str} (p : Nat), j ≤ p → p < j + n → getS t1 (viewI v (p : Nat) (s1 : Nat)) = none → c ∈ (innM gap t1 s1 v n j acc).cps.toList
  | 0, j, acc, p, h1, h2, _ => by omega
  | n + 1, j, acc, p, h1, h2, hn => by
    rw [innM_succ]
    by_cases e : p = j
    · refine innM_acc ?_
      have e2 : (acc ++ (getS t1 (viewI v (j : Nat) (s1 : Nat))).getD gap).cps.toList = acc.cps.toList ++ ((getS t1 (viewI v (j : Nat) (s1 : Nat))).getD gap).cps.toList := TL.tl_append ..
      rw [e2]
      rw [e] at hn
      rw [hn]
      exact List.mem_append_right _ hc
    · exact innM_gap hc p (by omega) (by omega) hn
/-- no key of the table has the sign -/
def NoKey (c : Nat) (t : Tb) : Prop := ∀ p ∈ t, c ∉ p.1.cps.toList
theorem NoKey.get {c : Nat} {t : Tb} {k : Str} (h : NoKey c t) (hc : c ∈ k.cps.toList) : getS t k = none := by
  cases e : getS t k with
  | none => rfl
  | some y => exact absurd hc (h _ (getS_mem e))
/-- a look into the composed table -/
theorem foldl_get {gap : Str} {s1 s2 : Nat} {t1 t2 : Tb} {k : Str} : ∀ {vs : List Str} {t : Tb}, getS (vs.foldl (cmpF gap s1 s2 t1 t2) t) k = if k ∈ vs then (match getS t2 (inn gap t1 s1 s2 k) with
    | some y => some y
    | none => getS t k) else getS t k
  | [], t => rfl
  | v :: vs, t => by
    rw [List.foldl_cons, foldl_get]
    have hc : ∀ j, getS (cmpF gap s1 s2 t1 t2 t v) j = if j = v then (match getS t2 (inn gap t1 s1 s2 v) with
        | some y => some y
        | none => getS t j) else getS t j := by
      intro j
      unfold cmpF
      cases e : getS t2 (inn gap t1 s1 s2 v) with
      | none =>
        dsimp only
        split <;> rfl
      | some y =>
        dsimp only
        rw [getS_put]
    rw [hc]
    by_cases h1 : k = v
    · subst h1
      rw [if_pos (List.mem_cons_self ..), if_pos rfl]
      by_cases h2 : k ∈ vs
      · rw [if_pos h2]
        cases getS t2 (inn gap t1 s1 s2 k) <;> rfl
      · rw [if_neg h2]
    · rw [if_neg h1]
      by_cases h2 : k ∈ vs
      · rw [if_pos h2, if_pos (List.mem_cons_of_mem _ h2)]
      · rw [if_neg h2, if_neg fun z => (List.mem_cons.mp z).elim h1 h2]
theorem comp_get {gap l : Str} {s1 s2 : Nat} {t1 t2 : Tb} {k : Str} (h : k ∈ viewsM l (s1 + s2 - 1)) : getS (compT gap l s1 s2 t1 t2) k = getS t2 (inn gap t1 s1 s2 k) := by
  unfold compT
  rw [foldl_get, if_pos h]
  cases getS t2 (inn gap t1 s1 s2 k) <;> rfl
theorem comp_get_no {gap l : Str} {s1 s2 : Nat} {t1 t2 : Tb} {k : Str} (h : k ∉ viewsM l (s1 + s2 - 1)) : getS (compT gap l s1 s2 t1 t2) k = none := by
  unfold compT
  rw [foldl_get, if_neg h]
  rfl
/-- the letters of a table of ones -/
theorem ones_get {m : Str} {t : Tb} {k y : Str} (h : Ones m t) (e : getS t k = some y) : ∃ c ∈ m.cps.toList, y = ⟨#[c]⟩ := h _ (getS_mem e)
/-- the sign that gaps get makes no difference -/
theorem inn_gap {g1 g2 : Str} {c1 c2 : Nat} (h1 : g1 = ⟨#[c1]⟩) (h2 : g2 = ⟨#[c2]⟩) {m : Str} {t1 t2 : Tb} {s1 s2 : Nat} {v : Str} (o : Ones m t1) (n1 : NoKey c1 t2) (n2 : NoKey c2 t2) : getS t2 (inn g1 t1 s1 s2 v) = getS t2 (inn g2 t1 s1 s2 v) := by
  by_cases h : ∃ p, v.length - s2 ≤ p ∧ p < v.length - s2 + (v.length - (v.length - s2)) ∧ getS t1 (viewI v (p : Nat) (s1 : Nat)) = none
  · obtain ⟨p, a, b, c⟩ := h
    unfold inn
    rw [n1.get (innM_gap (c := c1) (by rw [h1]; exact List.mem_singleton.mpr rfl) p a b c), n2.get (innM_gap (c := c2) (by rw [h2]; exact List.mem_singleton.mpr rfl) p a b c)]
  · have all : ∀ p, v.length - s2 ≤ p → p < v.length - s2 + (v.length - (v.length - s2)) → ∃ y, getS t1 (viewI v (p : Nat) (s1 : Nat)) = some y := fun p a b => by
      cases e : getS t1 (viewI v (p : Nat) (s1 : Nat)) with
      | none => exact absurd ⟨p, a, b, e⟩ h
      | some y => exact ⟨y, rfl⟩
    let f : Nat → Nat := fun p => match getS t1 (viewI v (p : Nat) (s1 : Nat)) with
      | some y => y.cps.toList.getD 0 0
      | none => 0
    have hf : ∀ g : Str, ∀ p, v.length - s2 ≤ p → p < v.length - s2 + (v.length - (v.length - s2)) → (getS t1 (viewI v (p : Nat) (s1 : Nat))).getD g = ⟨#[f p]⟩ := fun g p a b => by
      obtain ⟨y, hy⟩ := all p a b
      obtain ⟨c, _, e⟩ := ones_get o hy
      have : f p = c := by
        show (match getS t1 (viewI v (p : Nat) (s1 : Nat)) with
          | some y => y.cps.toList.getD 0 0
          | none => 0) = c
        rw [hy, e]
        rfl
      rw [this, hy, ← e]
      rfl
    have e : inn g1 t1 s1 s2 v = inn g2 t1 s1 s2 v := by
      refine TL.ext_tl ?_
      show (inn g1 t1 s1 s2 v).cps.toList = (inn g2 t1 s1 s2 v).cps.toList
      unfold inn
      rw [innM_one (hf g1), innM_one (hf g2)]
    rw [e]
/-! ### images -/
theorem imgM_none {t : Tb} {w : Str} {s : Int} : ∀ {n j : Nat} {acc : Str} (p : Nat), j ≤ p → p < j + n → getS t (viewI w (p : Nat) s) = none → imgM t w s n j acc = none
  | 0, j, acc, p, h1, h2, _ => by omega
  | n + 1, j, acc, p, h1, h2, hn => by
    rw [imgM_succ]
    by_cases e : p = j
    · rw [e] at hn
      rw [hn]
    · cases getS t (viewI w (j : Nat) s) with
      | none => rfl
      | some y => exact imgM_none p (by omega) (by omega) hn
theorem imgM_same {t t' : Tb} {w w' : Str} {s s' : Int} : ∀ {n j : Nat} {acc : Str}, (∀ p, j ≤ p → p < j + n → getS t (viewI w (p : Nat) s) = getS t' (viewI w' (p : Nat) s')) → imgM t w s n j acc = imgM t' w' s' n j acc
  | 0, j, acc, h => rfl
  | n + 1, j, acc, h => by
    rw [imgM_succ, imgM_succ, h j (Nat.le_refl _) (by omega)]
    cases getS t' (viewI w' (j : Nat) s') with
    | none => rfl
    | some y => exact imgM_same fun p h1 h2 => h p (by omega) (by omega)
theorem imgM_some {t : Tb} {w m : Str} {s : Int} (o : Ones m t) : ∀ {n j : Nat} {acc r : Str}, imgM t w s n j acc = some r → acc.length = j → r.length = j + n ∧ (∀ p, p < j → r.cps.toList.getD p 0 = acc.cps.toList.getD p 0) ∧ (∀ p, j ≤ p → p < j + n → getS t (viewI w (p : Nat) s) = some ⟨#[r.cps.toList.getD p 0]⟩) ∧ (∀ c ∈ r.cps.toList, c ∈ acc.cps.toList ∨ c ∈ m.cps.toList)
  | 0, j, acc, r, h, hl => by
    have h : some acc = some r := h
    cases h
    exact ⟨hl, fun _ _ => rfl, fun p a b => by omega, fun c hc => .inl hc⟩
  | n + 1, j, acc, r, h, hl => by
    rw [imgM_succ] at h
    cases e : getS t (viewI w (j : Nat) s) with
    | none =>
      rw [e] at h
      cases h
    | some y =>
      rw [e] at h
      obtain ⟨c, hc, rfl⟩ := ones_get o e
      have e1 : (acc ++ (⟨#[c]⟩ : Str)).cps.toList = acc.cps.toList ++ [c] := TL.tl_append ..
      have hal : acc.cps.toList.length = j := by rw [len_list]; exact hl
      obtain ⟨k1, k2, k3, k4⟩ := imgM_some o h (by rw [app_len, hl]; rfl)
      refine ⟨by omega, fun p hp => ?_, fun p a b => ?_, fun d hd => ?_⟩
      · rw [k2 p (by omega), e1, List.getD_eq_getElem?_getD, List.getElem?_append_left (by omega), ← List.getD_eq_getElem?_getD]
      · by_cases hp : p = j
        · subst hp
          rw [e, k2 p (by omega), e1, List.getD_eq_getElem?_getD, List.getElem?_append_right (by omega), hal, Nat.sub_self]
          rfl
        · exact k3 p (by omega) (by omega)
      · rcases k4 d hd with k | k
        · rw [e1] at k
          rcases List.mem_append.mp k with k | k
          · exact .inl k
          · rw [List.mem_singleton.mp k]
            exact .inr hc
        · exact .inr k
/-- the composed table maps as the one behind the other -/
theorem comp_img {l m : Str} {s1 s2 : Nat} {t1 t2 : Tb} {gap : Str} {c : Nat} {w : Str} (hg : gap = ⟨#[c]⟩) (h1 : 1 ≤ s1) (h2 : 1 ≤ s2) (o : Ones m t1) (hn : NoKey c t2) (hw : ∀ d ∈ w.cps.toList, d ∈ l.cps.toList) :
    imgM (compT gap l s1 s2 t1 t2) w ((s1 + s2 - 1 : Nat) : Int) w.length 0 "" = match imgM t1 w (s1 : Nat) w.length 0 "" with
      | none => none
      | some im => imgM t2 im (s2 : Nat) im.length 0 "" := by
  have inV : ∀ a, a < w.length → viewI w (a : Nat) ((s1 + s2 - 1 : Nat) : Int) ∈ viewsM l (s1 + s2 - 1) := fun a ha => by
    have hl := view_lenE (s := s1 + s2 - 1) ha
    refine views_mem.mpr ⟨by omega, by omega, fun d hd => hw d ?_⟩
    rw [view_tl ha] at hd
    exact List.mem_of_mem_take (List.mem_of_mem_drop hd)
  cases e : imgM t1 w (s1 : Nat) w.length 0 "" with
  | none =>
    have : ∃ p, p < w.length ∧ getS t1 (viewI w (p : Nat) (s1 : Nat)) = none := by
      refine Classical.byContradiction fun z => ?_
      have all : ∀ n j acc, j + n = w.length → imgM t1 w (s1 : Nat) n j acc ≠ none := by
        intro n
        induction n with
        | zero => exact fun j acc _ h => nomatch h
        | succ n ih =>
          intro j acc hjn
          rw [imgM_succ]
          cases e2 : getS t1 (viewI w (j : Nat) (s1 : Nat)) with
          | none => exact absurd ⟨j, by omega, e2⟩ z
          | some y => exact ih (j + 1) _ (by omega)
      exact all _ 0 "" (by omega) e
    obtain ⟨p, hp, hpn⟩ := this
    have hl := view_lenE (s := s1 + s2 - 1) hp
    refine imgM_none p (Nat.zero_le _) (by omega) ?_
    rw [comp_get (inV p hp)]
    refine hn.get ?_
    unfold inn
    refine innM_gap (c := c) (by rw [hg]; exact List.mem_singleton.mpr rfl) ((viewI w (p : Nat) ((s1 + s2 - 1 : Nat) : Int)).length - 1) (by omega) (by omega) ?_
    rw [view_view h1 h2 hp (by omega) (by omega)]
    rw [show p + 1 - (s1 + s2 - 1) + ((viewI w (p : Nat) ((s1 + s2 - 1 : Nat) : Int)).length - 1) = p by omega]
    exact hpn
  | some im =>
    obtain ⟨k1, _, k3, _⟩ := imgM_some o e rfl
    dsimp only
    rw [show im.length = w.length by omega]
    refine imgM_same fun a _ ha => ?_
    have ha : a < w.length := by omega
    rw [comp_get (inV a ha)]
    congr 1
    refine TL.ext_tl ?_
    have hl := view_lenE (s := s1 + s2 - 1) ha
    show (inn gap t1 s1 s2 _).cps.toList = (viewI im (a : Nat) (s2 : Nat)).cps.toList
    rw [view_tl (by omega)]
    unfold inn
    rw [innM_one (f := fun j => im.cps.toList.getD (a + 1 - (s1 + s2 - 1) + j) 0) fun j a1 a2 => ?_]
    · have e0 : ("" : Str).cps.toList = [] := rfl
      rw [e0, List.nil_append]
      have hil : im.cps.toList.length = w.length := by rw [len_list]; omega
      refine List.ext_getElem? fun i => ?_
      rw [List.getElem?_map, List.getElem?_drop]
      by_cases hi : i < (viewI w (a : Nat) ((s1 + s2 - 1 : Nat) : Int)).length - ((viewI w (a : Nat) ((s1 + s2 - 1 : Nat) : Int)).length - s2)
      · rw [List.getElem?_range' hi]
        have hx : a + 1 - s2 + i < a + 1 := by omega
        rw [List.getElem?_take_of_lt hx, List.getElem?_eq_getElem (by omega)]
        show some (im.cps.toList.getD _ 0) = some _
        congr 1
        rw [List.getD_eq_getElem?_getD, List.getElem?_eq_getElem (by omega)]
        show im.cps.toList[_] = im.cps.toList[_]
        congr 1
        omega
      · rw [List.getElem?_eq_none (by simp; omega), List.getElem?_eq_none (by rw [List.length_take]; omega)]
        rfl
    · have hj : a + 1 - (s1 + s2 - 1) + j < w.length := by omega
      rw [view_view h1 h2 ha a1 (by omega), k3 _ (Nat.zero_le _) (by omega)]
      rfl
end H89

namespace H89
open PySem PySem.Spec L2 He Y Hk89
local macro_rules | `(tactic| walk_at "rd1") => `(tactic| first
  | with_reducible refine s_seq ?_
  | with_reducible refine s_asg ?_
  | with_reducible refine s_gname ?_
  | ((with_reducible refine s_var (v := ?_) ?_ ?_); rotate_left; exact rfl)
  | with_reducible refine s_c ?_
  | with_reducible refine s_op ?_
  | with_reducible refine s_un ?_
  | with_reducible refine s_nil ?_
  | with_reducible refine s_cons ?_
  | with_reducible refine s_CB ?_
  | with_reducible refine s_ifS ?_
  | with_reducible refine s_test ?_
  | with_reducible refine s_B ?_
  | with_reducible refine s_xb ?_
  | with_reducible refine s_xi ?_
  | with_reducible refine s_xs ?_
  | with_reducible refine s_or ?_
  | with_reducible refine s_and ?_
  | with_reducible refine s_not ?_
  | with_reducible refine s_orV ?_
  | with_reducible refine s_andV ?_
  | with_reducible refine s_notV ?_
  | with_reducible refine s_ret ?_
  | with_reducible refine s_retN ?_
  | with_reducible refine s_next ?_
  | with_reducible refine s_drop ?_
  | with_reducible refine s_yes ?_
  | with_reducible refine s_for ?_
  | with_reducible refine s_lc ?_
  | with_reducible refine s_iStr ?_
  | with_reducible refine s_iList ?_
  | with_reducible refine s_iTup ?_
  | with_reducible refine s_iR1 ?_
  | with_reducible refine s_iR2 ?_
  | with_reducible refine s_iE ?_
  | with_reducible refine s_iET ?_
  | with_reducible refine s_iES ?_
  | with_reducible refine s_tup ?_
  | with_reducible refine s_lst ?_
  | with_reducible refine s_BM ?_
  | with_reducible refine s_BM0 ?_
  | with_reducible refine s_BMS _ ?_
  | with_reducible refine s_M1 ?_
  | with_reducible refine s_sl ?_
  | with_reducible refine s_noP ?_
  | with_reducible refine s_po ?_
  | with_reducible refine s_call ?_
  | with_reducible refine s_callS ?_
  | with_reducible refine s_make ?_
  | with_reducible refine s_makeS ?_
  | with_reducible refine s_methS ?_
  | with_reducible refine s_callO ?_
  | with_reducible refine s_dnew ?_
  | with_reducible refine s_dget ?_
  | with_reducible refine s_din ?_
  | with_reducible refine s_dnin ?_
  | with_reducible refine s_dput ?_
  | with_reducible refine s_dsetd ?_
  | with_reducible refine s_dget2 ?_
  | with_reducible refine s_fld ?_
  | with_reducible refine s_sFld ?_
  | with_reducible refine s_rz ?_
  | with_reducible refine s_asgS ?_
  | with_reducible refine s_gSub ?_
  | with_reducible refine s_ifE ?_
  | with_reducible refine s_add_i ?_
  | with_reducible refine s_sub ?_
  | with_reducible refine s_neg ?_
  | with_reducible refine s_eq_i ?_
  | with_reducible refine s_eq_s ?_
  | with_reducible refine s_ne_i ?_
  | with_reducible refine s_ne_s ?_
  | with_reducible refine s_lt_i ?_
  | with_reducible refine s_le_i ?_
  | with_reducible refine s_gt_i ?_
  | with_reducible refine s_ge_i ?_
  | with_reducible refine s_lt_s ?_
  | with_reducible refine s_le_s ?_
  | with_reducible refine s_gt_s ?_
  | with_reducible refine s_ge_s ?_
  | with_reducible refine s_in_c ?_
  | with_reducible refine s_ni_c ?_
  | with_reducible refine s_isN ?_
  | with_reducible refine s_noN ?_
  | with_reducible refine s_abs ?_
  | with_reducible refine s_min2 ?_
  | with_reducible refine s_max2 ?_
  | with_reducible refine s_int_i ?_
  | ((with_reducible refine s_len_s ?_ ?_); assumption)
  | ((with_reducible refine s_len_l (xs := ?_) ?_ ?_); rotate_left; assumption)
  | ((with_reducible refine s_len_t (xs := ?_) ?_ ?_); rotate_left; assumption)
  | with_reducible refine s_pair upd_same ?_
  | with_reducible refine s_callS ?_
  | with_reducible refine s_sortK ?_
  | with_reducible refine s_lc2 ?_
  | with_reducible refine s_disp ?_
  | with_reducible refine s_pcons ?_
  | with_reducible refine s_pnil ?_
  | ((with_reducible refine s_ix_t (by assumption) (by first | exact atI_0 | exact atI_i (j := 1) rfl rfl | exact atI_i (j := 2) rfl rfl | exact atI_i (j := 3) rfl rfl) ?_))
  | with_reducible refine jtT ?_
  | with_reducible refine jtF ?_
  | with_reducible refine jtNT ?_
  | with_reducible refine jtNF ?_
  | dsimp only)
local macro_rules | `(tactic| walk_at "rd") => `(tactic| repeat (walk_at "rd1"))

section
variable {P : Program} {w : World} {K : PySem.W.Frag} {mg : Str → Option Value} {base : Heap}
theorem S_one_behind_other : FnScope ["first", "second", "size", "table", "view", "inner", "at", "told"] ["first", "second"] (d_one_behind_other).scope := ⟨rfl, rfl, rfl, by decide +kernel, rfl, by decide +kernel, by decide +kernel⟩
def sp_one_behind (K : PySem.W.Frag) : Sp := fun vs H Q E => ∃ (D : Hp) (v1 v2 : V) (l m m2 i : Str) (s1 s2 : Nat) (t1 t2 : Tb), vs = [v1, v2] ∧ Same D H ∧ IsT K D v1 l m (s1 : Nat) t1 ∧ IsT K D v2 m2 i (s2 : Nat) t2 ∧ okLetters l = true ∧ okLetters i = true ∧ 1 ≤ s1 ∧ 1 ≤ s2 ∧ s1 ≤ 7 ∧ s2 ≤ 7 ∧ Ones m t1 ∧ t1.length ≤ 200000 ∧ t2.length ≤ 200000 ∧
  (m ≠ m2 → E (.ref (ga K "BadLetters")) none H) ∧
  (m = m2 → 8 ≤ s1 + s2 - 1 → ∀ D' H' d, Gr No D H D' H' → H' d = none → E (.ref (ga K "TooMany")) (some d) (upd H' d (.xd [("limit", .int 7)]))) ∧
  (m = m2 → s1 + s2 - 1 ≤ 7 → ∀ D' H' v, Gr No D H D' H' → IsT K D' v l i ((s1 + s2 - 1 : Nat) : Int) (compT " " l s1 s2 t1 t2) → Q v H')
theorem w_one_behind (T : Txt P w K mg) : Has P w K mg base 6 "one_behind_other" (sp_one_behind K) := by
  have S := S_one_behind_other
  have G_all_words := w_all_words (base := base) T
  have G_view_at := w_view_at (base := base) T
  have G_Turner := w_Turner (base := base) T
  refine has_of (k := 5) T.d_one_behind_other T.gd_one_behind_other S (fun _ _ _ _ _ _ us hl => match us, hl with | [_, _], _ => rfl) (fun vs H Q E h => ?_) (fun f cdv A outer s H vs Q E hr h => ?_)
  · obtain ⟨D, v1, v2, l, m, m2, i, s1, s2, t1, t2, rfl, _⟩ := h
    rfl
  · obtain ⟨D, v1, v2, l, m, m2, i, s1, s2, t1, t2, rfl, sm, M1, M2, okl, oki, hs1, hs2, hs17, hs27, o1, hl1, hl2, q0, q1, q2⟩ := h
    obtain ⟨a, dx, da, kvs, rfl, ha, hda, hkv⟩ := M1
    obtain ⟨b, dy, db, kvs2, rfl, hb, hdb, hkv2⟩ := M2
    have hl4 := (ok_len okl).2
    have hi4 := (ok_len oki).2
    have hlz := le1000 (Nat.le_trans hl4 (by decide) : l.length ≤ 1000)
    have hiz := le1000 (Nat.le_trans hi4 (by decide) : i.length ≤ 1000)
    refine ⟨_, (pss_cons (ps_if (pt_cmpR (cK_ne K hr.units) (peK_fld K (pv 0) rfl) (peK_fld K (pv 1) rfl) (nomark _))
      (pss_one (L2N.ps_raise rfl (L2N.takes_of rfl rfl rfl rfl) (L2N.pmk_own PySem.F.excBase_ValueError T.x_BadLetters T.g_BadLetters T.k_BadLetters (raises_own T.s_BadLetters T.t_BadLetters) rfl)))
      pss_nil)
    (pss_cons (ps_set (i := 2) S.nd rfl (Or.inl rfl) (pe_op o_sub (pe_op (oK_add K) (peK_fld K (pv 0) rfl) (peK_fld K (pv 1) rfl)) pe_int))
    (pss_cons (ps_if (pt_cmpR c_gt (pv 2) (pe_gI rfl T.c_MOST_SIZE) (nomark _))
      (pss_one (L2N.ps_raise rfl (L2N.takes_of rfl rfl rfl rfl) (pmk_rz (z_TooMany T) (hr.mono (by decide)) rfl (pa_cons (pe_gI rfl T.c_MOST_SIZE) pa_nil))))
      pss_nil)
    (pss_cons (ps_set (i := 3) S.nd rfl (Or.inl rfl) pe_dnewK)
    (pss_cons (ps_for (passes_of rfl) rfl (piK_list K (pe_lc (own := [("told", 7)]) (by rfl) S.nd (piK_list K (pe_has G_all_words (hr.mono (by decide)) (L2N.takes_of rfl rfl rfl rfl) rfl (pa_cons (peK_fld K (pv 0) rfl) (pa_cons (pv 2) pa_nil)))) (blkOk_by (by rfl)) (fun _ _ _ _ _ => (pg_name (i := 7) S.nd rfl (Or.inl rfl))) (fun _ _ _ _ _ => pts_one (pt_cmpR (cK_ne K hr.units) (pv 7) pe_str (nomark _))) (fun _ _ _ _ _ => (pv 7)))) (pg_name (i := 4) S.nd rfl (Or.inl rfl))
      (pss_cons (ps_set (i := 5) S.nd rfl (Or.inl rfl) pe_str)
    (pss_cons (ps_for (passes_of rfl) rfl (pi_range2 (by rfl) T.b_range (pa_cons (pe_callB (b_max rfl) (by rfl) T.b_max (by decide +kernel) (pa_cons pe_int (pa_cons (pe_op o_sub (pe_callB (bK_len K) (by rfl) T.b_len (by decide +kernel) (pa_cons (pv 4) pa_nil)) (peK_fld K (pv 1) rfl)) pa_nil))) (pa_cons (pe_callB (bK_len K) (by rfl) T.b_len (by decide +kernel) (pa_cons (pv 4) pa_nil)) pa_nil))) (pg_name (i := 6) S.nd rfl (Or.inl rfl))
      (pss_one (ps_set (i := 5) S.nd rfl (Or.inl rfl) (pe_op (oK_add K) (pv 5) (pe_dget2 (hu_of hr) (peK_fld K (pv 0) rfl) (pe_has G_view_at (hr.mono (by decide)) (L2N.takes_of rfl rfl rfl rfl) rfl (pa_cons (pv 4) (pa_cons (pv 6) (pa_cons (peK_fld K (pv 0) rfl) pa_nil)))) pe_str ⟨rfl, rfl, rfl, rfl⟩)))))
    (pss_one (ps_if (pt_cmp (pc_din (hu_of hr) (pv 5) (peK_fld K (pv 1) rfl)))
      (pss_one (ps_dput (hu_of hr) (pv 3) (pv 4) (pe_dget (hu_of hr) (peK_fld K (pv 1) rfl) (pv 5) (fun _ _ => rfl)) rfl))
      pss_nil)))))
    (pss_one (ps_ret (pe_mkS G_Turner (hr.mono (by decide)) (L2N.takes_of rfl rfl rfl rfl) rfl (pa_cons (peK_fld K (pv 0) rfl) (pa_cons (peK_fld K (pv 1) rfl) (pa_cons (pv 2) (pa_cons (pv 3) pa_nil)))))))))))), ?_⟩
    walk_at "rd"
    refine ⟨a, _, _, _, _, rfl, sm _ _ ha, T.cl_Turner, T.na_Turner_images, rfl, ?_⟩
    walk_at "rd"
    refine ⟨b, _, _, _, _, rfl, sm _ _ hb, T.cl_Turner, T.na_Turner_letters, rfl, ?_⟩
    walk_at "rd"
    refine jtN (fun e => ?_) (fun e => ?_)
    · walk_at "rd"
      exact q0 e
    subst e
    have q1 := q1 rfl
    have q2 := q2 rfl
    walk_at "rd"
    refine ⟨a, _, _, _, _, rfl, sm _ _ ha, T.cl_Turner, T.na_Turner_size, rfl, ?_⟩
    walk_at "rd"
    refine ⟨b, _, _, _, _, rfl, sm _ _ hb, T.cl_Turner, T.na_Turner_size, rfl, ?_⟩
    walk_at "rd"
    have eS : (s1 : Int) + (s2 : Int) - 1 = ((s1 + s2 - 1 : Nat) : Int) := by omega
    rw [eS]
    refine jtD (fun e => ?_) (fun e => ?_)
    · walk_at "rd"
      exact ⟨rfl, by simp, fun d nd => q1 (by omega) D H d (Gr.refl sm) nd⟩
    have hS7 : s1 + s2 - 1 ≤ 7 := by omega
    have q2 := q2 hS7
    walk_at "rd"
    intro td ntd
    have g1 := (Gr.refl (m := No) sm).lay (o := .dK []) ntd
    have htd : (upd H td (.dK [])) td = some (.dK []) := upd_same
    have hDtd := (Gr.refl (m := No) sm).free ntd
    walk_at "rd"
    refine ⟨a, _, _, _, _, rfl, g1.same' _ _ ha, T.cl_Turner, T.na_Turner_letters, rfl, ?_⟩
    walk_at "rd"
    refine ⟨D, l, s1 + s2 - 1, rfl, okl, hl4, hS7, g1.sub, fun H2 wa g2 nwa nDwa hwa => ?_⟩
    have htd2 := g2.same td _ (fun z => z) htd
    have hvb := views_bd hl4 hS7
    walk_at "rd"
    refine ⟨wa, rfl, ⟨_, sql hwa⟩, fun p np => ?_⟩
    have hp0 : ∀ (xs : List V), (upd H2 p (.lst xs)) wa = some (.lst ((wordsM l (s1 + s2 - 1)).map V.str)) := fun xs => (upd_ne (ne_of_none hwa np)).trans hwa
    refine lc_it walk_list (fun j H' => H' = upd H2 p (.lst (((viewsM l (s1 + s2 - 1)).take (j - 1)).map V.str))) rfl (fun j H' _ e => by rw [e]; exact sql (hp0 _)) ?_ ?_
    · rintro j x H3 H4 hj rfl ⟨rfl, ex⟩
      rw [List.getElem?_map] at ex
      obtain ⟨wd, hw, rfl⟩ := Option.map_eq_some_iff.mp ex
      walk_at "rd"
      refine ⟨rfl, ?_⟩
      walk_at "rd"
      cases j with
      | zero =>
        have e0 : wd = "" := by
          have : (wordsM l (s1 + s2 - 1))[0]? = some ("" : Str) := rfl
          rw [this] at hw
          exact (Option.some.inj hw).symm
        refine jtN (fun z => absurd e0 z) (fun _ => ?_)
        rfl
      | succ j =>
        have hv : (viewsM l (s1 + s2 - 1))[j]? = some wd := hw
        have hvm := views_mem.mp (List.mem_of_getElem? hv)
        have hjl := (List.getElem?_eq_some_iff.mp hv).1
        refine jtN (fun z => ?_) (fun z => ?_)
        · walk_at "rd"
          refine ⟨_, upd_same, ?_, ?_⟩
          · rw [List.length_map, List.length_take]
            exact ltBig (by omega)
          · rw [upd_upd, show j + 1 + 1 - 1 = j + 1 from rfl, List.take_add_one, hv, List.map_append]
            rfl
        · rw [z] at hvm
          exact absurd hvm.1 (by decide)
    rintro H3 rfl
    have hwl : ((wordsM l (s1 + s2 - 1)).map V.str).length - 1 = (viewsM l (s1 + s2 - 1)).length := by
      rw [List.length_map]
      rfl
    rw [hwl, List.take_length]
    have g3 := (g1.trans g2).lay (o := .lst ((viewsM l (s1 + s2 - 1)).map V.str)) np
    have htd3 : (upd H2 p (.lst ((viewsM l (s1 + s2 - 1)).map V.str))) td = some (.dK []) := (upd_ne (ne_of_none htd2 np)).trans htd2
    have hp3 : (upd H2 p (.lst ((viewsM l (s1 + s2 - 1)).map V.str))) p = some (.lst ((viewsM l (s1 + s2 - 1)).map V.str)) := upd_same
    revert g3 htd3 hp3
    generalize (upd H2 p (.lst ((viewsM l (s1 + s2 - 1)).map V.str))) = H3
    intro g3 htd3 hp3
    have npt : p ≠ td := fun e => by rw [e, htd3] at hp3; cases hp3
    refine ⟨p, rfl, ⟨_, sql hp3⟩, lp_it walk_list (fun j σ H' => ∃ kvs' o4 o5 o6, Gr No D H D H' ∧ H' p = some (.lst ((viewsM l (s1 + s2 - 1)).map V.str)) ∧ H' td = some (.dK kvs') ∧ KvR IsS kvs' (((viewsM l (s1 + s2 - 1)).take j).foldl (cmpF " " s1 s2 t1 t2) []) ∧ kvs'.length ≤ j ∧ σ = [some (.ref a), some (.ref b), some (.int ((s1 + s2 - 1 : Nat) : Int)), some (.ref td), o4, o5, o6, none]) ⟨[], none, none, none, g3, hp3, htd3, .nil, Nat.zero_le _, rfl⟩ (fun j σ H' _ ⟨_, _, _, _, _, h, _⟩ => sql h) ?_ ?_⟩
    · rintro j x σ H4 H5 hj ⟨kvs', o4, o5, o6, g, hp, htd, hkv', hkl, rfl⟩ ⟨rfl, ex⟩
      rw [List.getElem?_map] at ex
      obtain ⟨v, hv, rfl⟩ := Option.map_eq_some_iff.mp ex
      have hvm := views_mem.mp (List.mem_of_getElem? hv)
      have hvz := le1000 (Nat.le_trans hvm.2.1 (by omega) : v.length ≤ 1000)
      have hjl := (List.getElem?_eq_some_iff.mp hv).1
      have haH := g.same' _ _ ha
      have hbH := g.same' _ _ hb
      have hdaH := g.same' _ _ hda
      have hdbH := g.same' _ _ hdb
      walk_at "rd"
      refine ⟨b, _, _, _, _, rfl, hbH, T.cl_Turner, T.na_Turner_size, rfl, ?_⟩
      walk_at "rd"
      have elo : (if (v.length : Int) - (s2 : Int) > 0 then (v.length : Int) - (s2 : Int) else 0) = ((v.length - s2 : Nat) : Int) := by split <;> omega
      rw [elo]
      refine ⟨_, _, rfl, ⟨by omega, by omega, by omega, by omega⟩, ?_⟩
      rw [show ((v.length : Int) - ((v.length - s2 : Nat) : Int)).toNat = v.length - (v.length - s2) by omega]
      refine lp_it walk_range (fun k σ H' => H' = H5 ∧ ∃ acc o6, acc.length ≤ k ∧ innM " " t1 s1 v (v.length - (v.length - s2) - k) (v.length - s2 + k) acc = inn " " t1 s1 s2 v ∧ σ = [some (.ref a), some (.ref b), some (.int ((s1 + s2 - 1 : Nat) : Int)), some (.ref td), some (.str v), some (.str acc), o6, none]) ⟨rfl, "", _, Nat.zero_le _, rfl, rfl⟩ (fun _ _ _ _ _ => trivial) ?_ ?_
      · rintro k x σ H6 H7 hk ⟨rfl, acc, o6, hal, hacc, rfl⟩ ⟨rfl, ex⟩
        dsimp only at ex
        subst ex
        rw [show v.length - (v.length - s2) - k = (v.length - (v.length - s2) - (k + 1)) + 1 by omega, innM_succ] at hacc
        have ej : ((v.length - s2 : Nat) : Int) + (k : Int) = ((v.length - s2 + k : Nat) : Int) := by omega
        rw [ej]
        walk_at "rd"
        refine ⟨a, _, _, _, _, rfl, haH, T.cl_Turner, T.na_Turner_table, rfl, ?_⟩
        refine ⟨da, rfl, isDS hdaH, ?_⟩
        walk_at "rd"
        refine ⟨a, _, _, _, _, rfl, haH, T.cl_Turner, T.na_Turner_size, rfl, ?_⟩
        walk_at "rd"
        refine ⟨v, _, _, rfl, hvz, ?_⟩
        walk_at "rd"
        have fin : ∀ u : Str, u.length = 1 → (getS t1 (viewI v ((v.length - s2 + k : Nat) : Int) (s1 : Nat))).getD " " = u → ∀ o, (H7 = H7 ∧ ∃ acc' o6, acc'.length ≤ k + 1 ∧ innM " " t1 s1 v (v.length - (v.length - s2) - (k + 1)) (v.length - s2 + (k + 1)) acc' = inn " " t1 s1 s2 v ∧ ([some (.ref a), some (.ref b), some (.int ((s1 + s2 - 1 : Nat) : Int)), some (.ref td), some (.str v), some (.str (acc ++ u)), o, none] : L2.St) = [some (.ref a), some (.ref b), some (.int ((s1 + s2 - 1 : Nat) : Int)), some (.ref td), some (.str v), some (.str acc'), o6, none]) := by
          intro u hu e o
          rw [e] at hacc
          exact ⟨rfl, _, _, by rw [app_len]; omega, hacc, rfl⟩
        rcases dgetS hdaH hkv (viewI v ((v.length - s2 + k : Nat) : Int) (s1 : Nat)) with ⟨hd, hg⟩ | ⟨u, y, hd, hg, rfl⟩
        · refine ⟨none, hd, ?_⟩
          have e1 : (" " : Str).length = 1 := rfl
          refine s_add_s (by rw [e1]; exact le1000 (by omega)) ?_
          walk_at "rd"
          exact fin " " rfl (by rw [hg]; rfl) _
        · refine ⟨some (.str y), hd, ?_⟩
          obtain ⟨c, _, ey⟩ := ones_get o1 hg
          have e1 : y.length = 1 := by rw [ey]; rfl
          refine s_add_s (by rw [e1]; exact le1000 (by omega)) ?_
          walk_at "rd"
          exact fin y e1 (by rw [hg]; rfl) _
      · rintro σ H6 ⟨rfl, acc, o6, hal, hacc, rfl⟩
        rw [Nat.sub_self] at hacc
        have hacc : acc = inn " " t1 s1 s2 v := hacc
        subst hacc
        have ft : ((viewsM l (s1 + s2 - 1)).take (j + 1)).foldl (cmpF " " s1 s2 t1 t2) [] = cmpF " " s1 s2 t1 t2 (((viewsM l (s1 + s2 - 1)).take j).foldl (cmpF " " s1 s2 t1 t2) []) v := by
          rw [List.take_add_one, hv, List.foldl_append]
          rfl
        walk_at "rd"
        refine ⟨b, _, _, _, _, rfl, hbH, T.cl_Turner, T.na_Turner_table, rfl, ?_⟩
        rcases dgetS hdbH hkv2 (inn " " t1 s1 s2 v) with ⟨hd, hg⟩ | ⟨u, y, hd, hg, rfl⟩
        · refine ⟨db, _, rfl, hd, ?_⟩
          walk_at "rd"
          refine ⟨kvs', _, _, _, g, hp, htd, ?_, by omega, rfl⟩
          rw [ft]
          unfold cmpF
          rw [hg]
          exact hkv'
        · refine ⟨db, _, rfl, hd, ?_⟩
          walk_at "rd"
          refine jtT ?_
          walk_at "rd"
          refine ⟨b, _, _, _, _, rfl, hbH, T.cl_Turner, T.na_Turner_table, rfl, ?_⟩
          walk_at "rd"
          refine ⟨db, _, rfl, hd, ?_⟩
          walk_at "rd"
          refine ⟨td, _, rfl, dputS htd (ltBig (by omega)), ?_⟩
          refine ⟨_, _, _, _, g.put hDtd (.inl ntd), (upd_ne npt).trans hp, upd_same, ?_, ?_, rfl⟩
          · rw [ft]
            unfold cmpF
            rw [hg]
            exact KvR.put (R := IsS) rfl hkv'
          · have h1 := (KvR.put (R := IsS) (k := v) (v := .str y) (y := y) rfl hkv').len
            have h2 := putS_len (((viewsM l (s1 + s2 - 1)).take j).foldl (cmpF " " s1 s2 t1 t2) []) v y
            have h3 := hkv'.len
            omega
    · rintro σ H4 ⟨kvs', o4, o5, o6, g, hp, htd, hkv', hkl, rfl⟩
      rw [List.length_map, List.take_length] at hkv'
      have haH := g.same' _ _ ha
      have hbH := g.same' _ _ hb
      walk_at "rd"
      refine ⟨a, _, _, _, _, rfl, haH, T.cl_Turner, T.na_Turner_letters, rfl, ?_⟩
      walk_at "rd"
      refine ⟨b, _, _, _, _, rfl, hbH, T.cl_Turner, T.na_Turner_images, rfl, ?_⟩
      walk_at "rd"
      intro x dx' nx ndx ne
      have nx' : (upd H4 dx' (.own x)) x = none := (upd_ne (Ne.symm ne)).trans nx
      have gM := (g.lay (o := .own x) ndx).lay (o := .ins (ga K "Turner") dx' []) nx'
      have htdM : (upd (upd H4 dx' (.own x)) x (.ins (ga K "Turner") dx' [])) td = some (.dK kvs') := by
        rw [upd_ne (ne_of_none htd nx), upd_ne (ne_of_none htd ndx)]
        exact htd
      refine ⟨D, x, dx', l, i, _, td, kvs', _, rfl, hlz, hiz, gM.sub, g.free nx, upd_same, htdM, hkv', fun _ _ D' H' da' kvs'' gF hDx hHx hda' hkv'' => ⟨rfl, ?_⟩, fun z => absurd ⟨okl, oki⟩ z⟩
      have sX : Same D' (upd D' x (.ins (ga K "Turner") dx' [("letters", .str l), ("images", .str i), ("size", .int ((s1 + s2 - 1 : Nat) : Int)), ("table", .ref da')])) := same_new hDx
      exact q2 _ _ _ ((gM.transN gF fun y hy => hy ▸ g.kept x nx).cold hHx (g.kept x nx)) ⟨x, dx', da', kvs'', rfl, upd_same, sX _ _ hda', hkv''⟩
end
end H89

namespace Y
open PySem PySem.Spec L2 He
/-! ### letters.index(sign) -/
def ixOf (c : Nat) : List Nat → Nat
  | [] => 0
  | d :: r => if d = c then 0 else ixOf c r + 1
theorem ixOf_spec {c : Nat} : ∀ {l : List Nat}, c ∈ l → l[ixOf c l]? = some c ∧ ixOf c l < l.length ∧ ∀ k, k < ixOf c l → l[k]? ≠ some c
  | d :: r, h => by
    unfold ixOf
    by_cases e : d = c
    · rw [if_pos e, e]
      exact ⟨rfl, by simp, fun k z => by omega⟩
    · rw [if_neg e]
      have hc : c ∈ r := (List.mem_cons.mp h).resolve_left fun z => e z.symm
      obtain ⟨h1, h2, h3⟩ := ixOf_spec hc
      refine ⟨h1, by simp; omega, fun k hk => ?_⟩
      cases k with
      | zero => exact fun z => e (Option.some.inj z)
      | succ k => exact h3 k (by omega)
theorem subAt_one {s : Str} {c i : Nat} : Builtin.Str.subAt s ⟨#[c]⟩ i = true ↔ s.cps.toList[i]? = some c := by
  rw [StrLaws.subAt_eq]
  show ((s.cps.toList.drop i).take 1 == [c]) = true ↔ _
  rw [beq_iff_eq]
  cases h : s.cps.toList.drop i with
  | nil =>
    have : s.cps.toList[i]? = none := by
      rw [List.getElem?_eq_none]
      have := congrArg List.length h
      rw [List.length_drop] at this
      simp only [List.length_nil] at this
      omega
    rw [this]
    simp
  | cons d r =>
    have : s.cps.toList[i]? = some d := by
      have h2 := congrArg (fun l => l[0]?) h
      simpa [List.getElem?_drop] using h2
    rw [this]
    simp
theorem idx_one {s : Str} {c : Nat} (h : c ∈ s.cps.toList) : Txt.index0 s ⟨#[c]⟩ = some (ixOf c s.cps.toList) := by
  obtain ⟨h1, h2, h3⟩ := ixOf_spec h
  have hl : s.cps.toList.length = s.length := len_list s
  have l1 : (⟨#[c]⟩ : Str).length = 1 := rfl
  rcases StrLaws.occ_head s ⟨#[c]⟩ 1 (Nat.le_refl _) with ⟨_, hn⟩ | ⟨i, r, e, ha, hk⟩
  · exact absurd ⟨by rw [l1]; omega, subAt_one.mpr h1⟩ (hn (ixOf c s.cps.toList))
  · have hi : s.cps.toList[i]? = some c := subAt_one.mp ha.2
    have : i = ixOf c s.cps.toList := by
      rcases Nat.lt_trichotomy i (ixOf c s.cps.toList) with h | h | h
      · exact absurd hi (h3 i h)
      · exact h
      · exact absurd ⟨by rw [l1]; omega, subAt_one.mpr h1⟩ (hk _ h)
    unfold Txt.index0
    rw [e, this]
    rfl
theorem isDictV {K : PySem.W.Frag} {H : Hp} {a : Addr} {kvs : List (Key × V)} (h : H a = some (.dK kvs)) : tyV K "dict" (.ref a) H := by
  show _ ∨ _
  exact .inr (.inr (.inl ⟨rfl, .inl ⟨_, h⟩⟩))
end Y

namespace H89
open PySem PySem.Spec L2 He Y Hk89
local macro_rules | `(tactic| walk_at "rd1") => `(tactic| first
  | with_reducible refine s_seq ?_
  | with_reducible refine s_asg ?_
  | with_reducible refine s_gname ?_
  | ((with_reducible refine s_var (v := ?_) ?_ ?_); rotate_left; exact rfl)
  | with_reducible refine s_c ?_
  | with_reducible refine s_op ?_
  | with_reducible refine s_un ?_
  | with_reducible refine s_nil ?_
  | with_reducible refine s_cons ?_
  | with_reducible refine s_CB ?_
  | with_reducible refine s_ifS ?_
  | with_reducible refine s_test ?_
  | with_reducible refine s_B ?_
  | with_reducible refine s_xb ?_
  | with_reducible refine s_xi ?_
  | with_reducible refine s_xs ?_
  | with_reducible refine s_or ?_
  | with_reducible refine s_and ?_
  | with_reducible refine s_not ?_
  | with_reducible refine s_orV ?_
  | with_reducible refine s_andV ?_
  | with_reducible refine s_notV ?_
  | with_reducible refine s_ret ?_
  | with_reducible refine s_retN ?_
  | with_reducible refine s_next ?_
  | with_reducible refine s_drop ?_
  | with_reducible refine s_yes ?_
  | with_reducible refine s_for ?_
  | with_reducible refine s_lc ?_
  | with_reducible refine s_iStr ?_
  | with_reducible refine s_iList ?_
  | with_reducible refine s_iTup ?_
  | with_reducible refine s_iR1 ?_
  | with_reducible refine s_iR2 ?_
  | with_reducible refine s_iE ?_
  | with_reducible refine s_iET ?_
  | with_reducible refine s_iES ?_
  | with_reducible refine s_tup ?_
  | with_reducible refine s_lst ?_
  | with_reducible refine s_BM ?_
  | with_reducible refine s_BM0 ?_
  | with_reducible refine s_BMS _ ?_
  | with_reducible refine s_M1 ?_
  | with_reducible refine s_sl ?_
  | with_reducible refine s_noP ?_
  | with_reducible refine s_po ?_
  | with_reducible refine s_call ?_
  | with_reducible refine s_callS ?_
  | with_reducible refine s_make ?_
  | with_reducible refine s_makeS ?_
  | with_reducible refine s_methS ?_
  | with_reducible refine s_callO ?_
  | with_reducible refine s_dnew ?_
  | with_reducible refine s_dget ?_
  | with_reducible refine s_din ?_
  | with_reducible refine s_dnin ?_
  | with_reducible refine s_dput ?_
  | with_reducible refine s_dsetd ?_
  | with_reducible refine s_dget2 ?_
  | with_reducible refine s_fld ?_
  | with_reducible refine s_sFld ?_
  | with_reducible refine s_rz ?_
  | with_reducible refine s_asgS ?_
  | with_reducible refine s_gSub ?_
  | with_reducible refine s_ifE ?_
  | with_reducible refine s_add_i ?_
  | with_reducible refine s_sub ?_
  | with_reducible refine s_neg ?_
  | with_reducible refine s_eq_i ?_
  | with_reducible refine s_eq_s ?_
  | with_reducible refine s_ne_i ?_
  | with_reducible refine s_ne_s ?_
  | with_reducible refine s_lt_i ?_
  | with_reducible refine s_le_i ?_
  | with_reducible refine s_gt_i ?_
  | with_reducible refine s_ge_i ?_
  | with_reducible refine s_lt_s ?_
  | with_reducible refine s_le_s ?_
  | with_reducible refine s_gt_s ?_
  | with_reducible refine s_ge_s ?_
  | with_reducible refine s_in_c ?_
  | with_reducible refine s_ni_c ?_
  | with_reducible refine s_isN ?_
  | with_reducible refine s_noN ?_
  | with_reducible refine s_abs ?_
  | with_reducible refine s_min2 ?_
  | with_reducible refine s_max2 ?_
  | with_reducible refine s_int_i ?_
  | ((with_reducible refine s_len_s ?_ ?_); assumption)
  | ((with_reducible refine s_len_l (xs := ?_) ?_ ?_); rotate_left; assumption)
  | ((with_reducible refine s_len_t (xs := ?_) ?_ ?_); rotate_left; assumption)
  | with_reducible refine s_pair upd_same ?_
  | with_reducible refine s_callS ?_
  | with_reducible refine s_sortK ?_
  | with_reducible refine s_lc2 ?_
  | with_reducible refine s_disp ?_
  | with_reducible refine s_pcons ?_
  | with_reducible refine s_pnil ?_
  | ((with_reducible refine s_ix_t (by assumption) (by first | exact atI_0 | exact atI_i (j := 1) rfl rfl | exact atI_i (j := 2) rfl rfl | exact atI_i (j := 3) rfl rfl) ?_))
  | with_reducible refine jtT ?_
  | with_reducible refine jtF ?_
  | with_reducible refine jtNT ?_
  | with_reducible refine jtNF ?_
  | dsimp only)
local macro_rules | `(tactic| walk_at "rd") => `(tactic| repeat (walk_at "rd1"))

local macro_rules | `(tactic| walk_at "nx") => `(tactic| repeat (first
  | walk_at "rd1"
  | with_reducible refine s_u0 ?_
  | with_reducible refine s_u1 ?_
  | with_reducible refine s_u2 ?_
  | with_reducible refine s_u3 ?_
  | with_reducible refine s_w1 ?_
  | with_reducible refine s_w2 ?_
  | with_reducible refine s_w3 ?_))
section
variable {P : Program} {w : World} {K : PySem.W.Frag} {mg : Str → Option Value} {base : Heap}
theorem S_law_start : FnScope ["script", "cells", "cell"] ["script"] (d_law_start).scope := ⟨rfl, rfl, rfl, by decide +kernel, rfl, by decide +kernel, by decide +kernel⟩
def sp_law_start (K : PySem.W.Frag) : Sp := fun vs H Q E => ∃ (a : Addr) (ns : List Int), vs = [.ref a] ∧ SqL K H a (ns.map V.int) ∧ ns.length ≤ 63 ∧ ∀ D' H' st, Gr No H H D' H' → Stt K D' H' st → H st = none → Q (.ref st) H'
theorem w_law_start (T : Txt P w K mg) : Has P w K mg base 3 "_law_start" (sp_law_start K) := by
  have S := S_law_start
  refine has_of (k := 2) T.d_law_start T.gd_law_start S (fun _ _ _ _ _ _ us hl => match us, hl with | [_], _ => rfl) (fun vs H Q E h => ?_) (fun f cdv A outer s H vs Q E hr h => ?_)
  · obtain ⟨a, ns, rfl, _⟩ := h
    rfl
  · obtain ⟨a, ns, rfl, ha, hl, q⟩ := h
    refine ⟨_, (pss_cons (ps_setLc (i := 1) (own := [("cell", 2)]) rfl S.nd rfl rfl (sw_true rfl rfl rfl (by decide +kernel)) (piK_list K (pv 0)) (blkOk_by (by rfl)) (fun _ _ _ _ _ => (pg_name (i := 2) S.nd rfl (Or.inl rfl))) (fun _ _ _ _ _ => pts_nil) (fun _ _ _ _ _ => (pe_callB b_abs (by rfl) T.b_abs (by decide +kernel) (pa_cons (pv 2) pa_nil))))
    (pss_cons (ps_if (pt_cmpR (cK_eq K hr.units) (pe_callB (bK_len K) (by rfl) T.b_len (by decide +kernel) (pa_cons (pv 1) pa_nil)) pe_int (nomark _))
      (pss_one (ps_set (i := 1) S.nd rfl (Or.inl rfl) (pe_lst (pa_cons pe_int pa_nil))))
      pss_nil)
    (pss_one (ps_ret (pe_lst (pa_cons (pv 1) (pa_cons pe_int (pa_cons pe_int (pa_cons pe_int pa_nil))))))))), ?_⟩
    have fin : ∀ (H1 : Hp) (D1 : Hp) (p : Addr) (xs : List V) (cells : List Int), xs = cells.map V.int → Gr No H H D1 H1 → H p = none → SqL K D1 p xs → 1 ≤ cells.length → ∀ st, H1 st = none → Q (.ref st) (upd H1 st (.lst [.ref p, .int 0, .int 0, .int 0])) := by
      intro H1 D1 p xs cells e g np hp h1 st nst
      exact q D1 _ st (g.lay nst) ⟨⟨p, 0, 0, 0, cells, upd_same, e ▸ hp, h1⟩, g.free nst⟩ (g.kept _ nst)
    walk_at "rd"
    refine ⟨a, rfl, ⟨_, ha⟩, fun p np => lq_map walk_list (ns.map fun n => V.int (if n < 0 then -n else n)) (by simp) (by rw [List.length_map]; exact le1000 (by omega)) np (fun acc => ((Gr.refl (m := No) (Same.refl H)).lay np).all.seq ha) ?_ ?_⟩
    · rintro i x acc H' N hi ⟨rfl, ex⟩ hN hlt
      rw [List.getElem?_map] at ex
      obtain ⟨n, hn, rfl⟩ := Option.map_eq_some_iff.mp ex
      walk_at "rd"
      refine ⟨rfl, ?_⟩
      walk_at "rd"
      refine lq_put hlt (hN _ ?_)
      rw [List.getElem?_map, hn]
      rfl
    · have g1 := (Gr.refl (m := No) (Same.refl H)).ice (o := .lst (ns.map fun n => V.int (if n < 0 then -n else n))) np
      have hp1 : SqL K (upd H p (.lst (ns.map fun n => V.int (if n < 0 then -n else n)))) p (ns.map fun n => V.int (if n < 0 then -n else n)) := sql upd_same
      walk_at "rd"
      refine jtD (fun e => ?_) (fun e => ?_)
      · walk_at "rd"
        refine ⟨le1000 (by simp), fun p2 np2 => ?_⟩
        have g2 := g1.ice (o := .lst [.int 0]) np2
        walk_at "rd"
        refine ⟨le1000 (by simp), fun st nst => ?_⟩
        walk_at "rd"
        exact fin _ _ p2 [.int 0] [0] rfl g2 (g1.kept _ np2) (sql upd_same) (by simp) st nst
      · walk_at "rd"
        refine ⟨le1000 (by simp), fun st nst => ?_⟩
        walk_at "rd"
        refine fin _ _ p _ (ns.map fun n => if n < 0 then -n else n) (by rw [List.map_map]; rfl) g1 np hp1 ?_ st nst
        rw [List.length_map] at e ⊢
        omega
theorem S_law_next : FnScope ["state", "many", "cells", "cell", "turn", "mixed", "told"] ["state", "many"] (d_law_next).scope := ⟨rfl, rfl, rfl, by decide +kernel, rfl, by decide +kernel, by decide +kernel⟩
def sp_law_next (K : PySem.W.Frag) : Sp := fun vs H Q E => ∃ (D : Hp) (st : Addr) (many : Int), vs = [.ref st, .int many] ∧ 0 < many ∧ many ≤ 2 ^ 62 ∧ Same D H ∧ Stt K D H st ∧ ∀ D' H' r, Gr (· = st) D H D' H' → Stt K D' H' st → 0 ≤ r → r < many → Q (.int r) H'
theorem w_law_next (T : Txt P w K mg) : Has P w K mg base 3 "_law_next" (sp_law_next K) := by
  have S := S_law_next
  refine has_of (k := 2) T.d_law_next T.gd_law_next S (fun _ _ _ _ _ _ us hl => match us, hl with | [_, _], _ => rfl) (fun vs H Q E h => ?_) (fun f cdv A outer s H vs Q E hr h => ?_)
  · obtain ⟨D, st, many, rfl, _⟩ := h
    rfl
  · obtain ⟨D, st, many, rfl, hm, hm2, sm, X, q⟩ := h
    obtain ⟨⟨c, a, b, e, cells, hst, hc, h1⟩, hD⟩ := X
    refine ⟨_, (pss_cons (ps_set (i := 2) S.nd rfl (Or.inl rfl) (pe_ix (ixK_seq K) (pv 0) pe_int (fun _ _ => rfl)))
    (pss_cons (ps_set (i := 3) S.nd rfl (Or.inl rfl) (pe_ix (ixK_seq K) (pv 2) (pe_op o_mod (pe_callTy b_int (by rfl) T.b_int (by decide +kernel) (pa_cons (pe_ix (ixK_seq K) (pv 0) pe_int (fun _ _ => rfl)) pa_nil)) (pe_callB (bK_len K) (by rfl) T.b_len (by decide +kernel) (pa_cons (pv 2) pa_nil))) (fun _ _ => rfl)))
    (pss_cons (ps_if (PW.pt (pw_and (pt_cmpR c_ge (pv 3) (pe_op o_pow pe_int pe_int) (nomark _)) (pw_and1 (pt_cmpR c_lt (pe_ix (ixK_seq K) (pv 0) pe_int (fun _ _ => rfl)) (pe_callB (bK_len K) (by rfl) T.b_len (by decide +kernel) (pa_cons (pv 2) pa_nil)) (nomark _)))))
      (pss_cons (ps_if (pt_cmpR (cK_eq K hr.units) (pe_ix (ixK_seq K) (pv 0) pe_int (fun _ _ => rfl)) pe_int (nomark _))
      (pss_one (ps_asg (pv 3) (pg_sub (pv 0) pe_int set_list)))
      pss_nil)
    (pss_cons (ps_set (i := 6) S.nd rfl (Or.inl rfl) (pe_op o_mod (pe_callTy b_int (by rfl) T.b_int (by decide +kernel) (pa_cons (pe_ix (ixK_seq K) (pv 0) pe_int (fun _ _ => rfl)) pa_nil)) (pv 1)))
    (pss_cons (ps_asg (pe_op o_fdiv (pe_callTy b_int (by rfl) T.b_int (by decide +kernel) (pa_cons (pe_ix (ixK_seq K) (pv 0) pe_int (fun _ _ => rfl)) pa_nil)) (pv 1)) (pg_sub (pv 0) pe_int set_list))
    (pss_cons (ps_asg (pe_op (oK_add K) (pe_ix (ixK_seq K) (pv 0) pe_int (fun _ _ => rfl)) pe_int) (pg_sub (pv 0) pe_int set_list))
    (pss_cons (ps_if (PW.pt (pw_or (pt_cmpR (cK_eq K hr.units) (pe_ix (ixK_seq K) (pv 0) pe_int (fun _ _ => rfl)) pe_int (nomark _)) (pw_or1 (pt_cmpR c_ge (pe_ix (ixK_seq K) (pv 0) pe_int (fun _ _ => rfl)) pe_int (nomark _)))))
      (pss_cons (ps_asg (pe_op (oK_add K) (pe_ix (ixK_seq K) (pv 0) pe_int (fun _ _ => rfl)) pe_int) (pg_sub (pv 0) pe_int set_list))
    (pss_one (ps_asg pe_int (pg_sub (pv 0) pe_int set_list))))
      pss_nil)
    (pss_one (ps_ret (pv 6))))))))
      pss_nil)
    (pss_cons (ps_set (i := 4) S.nd rfl (Or.inl rfl) (pe_op (oK_add K) (pe_ix (ixK_seq K) (pv 0) pe_int (fun _ _ => rfl)) (pe_op o_mul pe_int (pe_ix (ixK_seq K) (pv 0) pe_int (fun _ _ => rfl)))))
    (pss_cons (ps_set (i := 5) S.nd rfl (Or.inl rfl) (pe_op o_mul (pe_op (oK_add K) (pe_op o_mod (pe_callTy b_int (by rfl) T.b_int (by decide +kernel) (pa_cons (pv 3) pa_nil)) pe_int) pe_int) (pe_op (oK_add K) pe_int (pe_op o_mul pe_int (pv 4)))))
    (pss_cons (ps_set (i := 5) S.nd rfl (Or.inl rfl) (pe_op o_mod (pe_callTy b_int (by rfl) T.b_int (by decide +kernel) (pa_cons (pv 5) pa_nil)) pe_int))
    (pss_cons (ps_set (i := 5) S.nd rfl (Or.inl rfl) (pe_op o_mod (pe_callTy b_int (by rfl) T.b_int (by decide +kernel) (pa_cons (pe_op (oK_add K) (pe_op (oK_add K) (pe_op o_mul (pv 5) (pv 5)) (pe_op o_mul pe_int (pv 4))) pe_int) pa_nil)) pe_int))
    (pss_cons (ps_asg (pe_op (oK_add K) (pe_ix (ixK_seq K) (pv 0) pe_int (fun _ _ => rfl)) pe_int) (pg_sub (pv 0) pe_int set_list))
    (pss_cons (ps_if (pt_cmpR c_ge (pe_ix (ixK_seq K) (pv 0) pe_int (fun _ _ => rfl)) pe_int (nomark _))
      (pss_cons (ps_asg (pe_op (oK_add K) (pe_ix (ixK_seq K) (pv 0) pe_int (fun _ _ => rfl)) pe_int) (pg_sub (pv 0) pe_int set_list))
    (pss_one (ps_asg pe_int (pg_sub (pv 0) pe_int set_list))))
      pss_nil)
    (pss_one (ps_ret (pe_op o_mod (pe_callTy b_int (by rfl) T.b_int (by decide +kernel) (pa_cons (pe_op o_fdiv (pv 5) pe_int) pa_nil)) (pv 1))))))))))))), ?_⟩
    have hcH := sm.seq hc
    have fin : ∀ (a b e r : Int), 0 ≤ r → r < many → Q (.int r) (upd H st (.lst [.ref c, .int a, .int b, .int e])) := fun a b e r h0 h2 =>
      q D _ r ((Gr.refl sm).put hD (.inr rfl)) ⟨⟨c, a, b, e, cells, upd_same, hc, h1⟩, hD⟩ h0 h2
    have hs : ∀ (xs : List V), SqL K (upd H st (.lst xs)) c (cells.map V.int) := fun xs => ((Gr.refl (m := (· = st)) sm).put (o := .lst xs) hD (.inr rfl)).same'.seq hc
    have hlc : (0 : Int) < ((cells.map V.int).length : Int) := by
      rw [List.length_map]
      omega
    have eH : upd H st (.lst [.ref c, .int a, .int b, .int e]) = H := by
      funext y
      by_cases hy : y = st
      · rw [hy, upd_same, hst]
      · rw [upd_ne hy]
    have hcU := hs [.ref c, .int a, .int b, .int e]
    rw [← eH]
    walk_at "nx"
    refine s_mod hlc ?_
    have hr0 := Int.emod_nonneg a (Int.ne_of_gt hlc)
    have hr1 := Int.emod_lt_of_pos a hlc
    obtain ⟨cell, hcell⟩ : ∃ cell, cells[(a % ((cells.map V.int).length : Int)).toNat]? = some cell := by
      refine ⟨cells[(a % ((cells.map V.int).length : Int)).toNat]'?_, List.getElem?_eq_getElem ?_⟩ <;> · rw [List.length_map] at hr0 hr1 ⊢; omega
    refine s_ix_l hcU (v := .int cell) (atI_i (j := (a % ((cells.map V.int).length : Int)).toNat) (by omega) (by rw [List.getElem?_map, hcell]; rfl)) ?_
    have hdv : ∀ n : Int, CDivW n many := fun n => ⟨hm, (Nat.log2_lt (by omega)).mpr (Nat.lt_of_le_of_lt (show many.natAbs ≤ 2 ^ 62 by omega) (Nat.pow_lt_pow_right (by decide) (by decide)))⟩
    have big : ∀ r : Int, 0 ≤ r % many ∧ r % many < many := fun r => ⟨Int.emod_nonneg r (Int.ne_of_gt hm), Int.emod_lt_of_pos r hm⟩
    with_reducible refine s_gname ?_
    refine s_cut (fun σ' H' => σ' = [some (.ref st), some (.int many), some (.ref c), some (.int cell), none, none, none] ∧ H' = upd H st (.lst [.ref c, .int a, .int b, .int e])) ?_ (fun N rest => ?_)
    · rintro σ' H' ⟨rfl, rfl⟩
      have m29 : (0 : Int) < 2147483629 := by decide
      have m47 : (0 : Int) < 2147483647 := by decide
      have b29 : ∀ x : Int, 0 ≤ x % 2147483629 ∧ x % 2147483629 < 2147483629 := fun x => ⟨Int.emod_nonneg x (by decide), Int.emod_lt_of_pos x m29⟩
      have b47 : ∀ x : Int, 0 ≤ x % 2147483647 ∧ x % 2147483647 < 2147483647 := fun x => ⟨Int.emod_nonneg x (by decide), Int.emod_lt_of_pos x m47⟩
      walk_at "nx"
      refine s_mul (.inl (by decide)) ?_
      walk_at "nx"
      refine s_mod m29 ?_
      walk_at "nx"
      refine s_mul (.inl (by decide)) ?_
      walk_at "nx"
      refine s_mul (.inl (by have := b29 cell; omega)) ?_
      walk_at "nx"
      refine s_mod m47 ?_
      walk_at "nx"
      refine s_mul (.inl (by have := b47 ((cell % 2147483629 + 1) * (48271 + 2 * (e + 7 * a))); omega)) ?_
      walk_at "nx"
      refine s_mul (.inl (by decide)) ?_
      walk_at "nx"
      refine s_mod m29 ?_
      walk_at "nx"
      refine jtD (fun e3 => ?_) (fun e3 => ?_)
      · walk_at "nx"
        refine s_div ⟨by decide, by decide⟩ ?_
        walk_at "nx"
        refine s_mod hm ?_
        exact fin _ _ _ _ (big _).1 (big _).2
      · walk_at "nx"
        refine s_div ⟨by decide, by decide⟩ ?_
        walk_at "nx"
        refine s_mod hm ?_
        exact fin _ _ _ _ (big _).1 (big _).2
    walk_at "nx"
    refine s_pow ⟨by decide, by decide, by decide⟩ ?_
    walk_at "nx"
    refine jtD (fun e1 => ?_) (fun e1 => ?_)
    · walk_at "nx"
      refine jtD (fun e2 => ?_) (fun e2 => ?_)
      · refine s_cut (fun σ' H' => ∃ b', σ' = [some (.ref st), some (.int many), some (.ref c), some (.int cell), none, none, none] ∧ H' = upd H st (.lst [.ref c, .int a, .int b', .int e])) ?_ (fun N rest => ?_)
        · rintro σ' H' ⟨b', rfl, rfl⟩
          walk_at "nx"
          refine s_mod hm ?_
          walk_at "nx"
          refine s_div (hdv _) ?_
          walk_at "nx"
          refine jtD (fun e3 => ?_) (fun e3 => ?_)
          · walk_at "nx"
            exact fin _ _ _ _ (big _).1 (big _).2
          · walk_at "nx"
            refine jtD (fun e4 => ?_) (fun e4 => ?_)
            · walk_at "nx"
              exact fin _ _ _ _ (big _).1 (big _).2
            · walk_at "nx"
              exact fin _ _ _ _ (big _).1 (big _).2
        · walk_at "nx"
          refine jtD (fun e3 => ?_) (fun e3 => ?_)
          · walk_at "nx"
            exact rest _ _ ⟨_, rfl, rfl⟩
          · walk_at "nx"
            exact rest _ _ ⟨_, rfl, rfl⟩
      · walk_at "nx"
        exact rest _ _ ⟨rfl, rfl⟩
    · walk_at "nx"
      exact rest _ _ ⟨rfl, rfl⟩
theorem S_law_integer : FnScope ["actual"] ["actual"] (d_law_integer).scope := ⟨rfl, rfl, rfl, by decide +kernel, rfl, by decide +kernel, by decide +kernel⟩
def sp_integer : Sp := fun vs H Q E => ∃ n : Int, vs = [.int n] ∧ Q (.bl true) H
theorem w_law_integer (T : Txt P w K mg) : Has P w K mg base 3 "_law_integer" sp_integer := by
  have S := S_law_integer
  refine has_of (k := 2) T.d_law_integer T.gd_law_integer S (fun _ _ _ _ _ _ us hl => match us, hl with | [_], _ => rfl) (fun vs H Q E h => ?_) (fun f cdv A outer s H vs Q E hr h => ?_)
  · obtain ⟨n, rfl, _⟩ := h
    rfl
  · obtain ⟨n, rfl, q⟩ := h
    refine ⟨_, (pss_one (ps_ret (pe_and (pe_callB call_isi (by rfl) T.b_isinstance (by decide +kernel) (pa_cons (pv 0) (pa_cons (pe_gT (T := "int") (by rfl) T.b_int (by decide +kernel)) pa_nil))) (pe_one (pe_not (pe_callB call_isi (by rfl) T.b_isinstance (by decide +kernel) (pa_cons (pv 0) (pa_cons (pe_gT (T := "bool") (by rfl) T.b_bool (by decide +kernel)) pa_nil)))))))), ?_⟩
    walk_at "rd"
    refine ⟨.int n, .ty "int", .type "int", .type "int", true, rfl, .ty _, .base (.int n), rfl, ?_⟩
    walk_at "rd"
    refine ⟨.int n, .ty "bool", .type "int", .type "bool", false, rfl, .ty _, .base (.int n), rfl, ?_⟩
    walk_at "rd"
    exact q
theorem q_law_integer (T : Txt P w K mg) (p : Addr × Obj) : HasQ P w K mg base p 1 "_law_integer" sp_integer := by
  have S := S_law_integer
  refine hasQ_of (k := 0) T.d_law_integer T.gd_law_integer S (fun _ _ _ _ _ _ us hl => match us, hl with | [_], _ => rfl) (fun vs H Q E h => ?_) (fun f cdv A outer s H vs Q E hot hr h => ?_)
  · obtain ⟨n, rfl, _⟩ := h
    rfl
  · obtain ⟨n, rfl, q⟩ := h
    refine ⟨_, (pss_one (ps_ret (pe_and (pe_callB call_isi (by rfl) T.b_isinstance (by decide +kernel) (pa_cons (pv 0) (pa_cons (pe_gT (T := "int") (by rfl) T.b_int (by decide +kernel)) pa_nil))) (pe_one (pe_not (pe_callB call_isi (by rfl) T.b_isinstance (by decide +kernel) (pa_cons (pv 0) (pa_cons (pe_gT (T := "bool") (by rfl) T.b_bool (by decide +kernel)) pa_nil)))))))), ?_⟩
    walk_at "rd"
    refine ⟨.int n, .ty "int", .type "int", .type "int", true, rfl, .ty _, .base (.int n), rfl, ?_⟩
    walk_at "rd"
    refine ⟨.int n, .ty "bool", .type "int", .type "bool", false, rfl, .ty _, .base (.int n), rfl, ?_⟩
    walk_at "rd"
    exact q
theorem S_law_word : FnScope ["state", "letters", "size", "word", "k"] ["state", "letters", "size"] (d_law_word).scope := ⟨rfl, rfl, rfl, by decide +kernel, rfl, by decide +kernel, by decide +kernel⟩
def sp_word (K : PySem.W.Frag) : Sp := fun vs H Q E => ∃ (D : Hp) (st : Addr) (l : Str) (n : Nat), vs = [.ref st, .str l, .int (n : Nat)] ∧ 1 ≤ l.length ∧ l.length ≤ 1000 ∧ n ≤ 1000 ∧ Same D H ∧ Stt K D H st ∧
  ∀ D' H' z, Gr (· = st) D H D' H' → Stt K D' H' st → z.length = n → (∀ c ∈ z.cps.toList, c ∈ l.cps.toList) → Q (.str z) H'
theorem w_law_word (T : Txt P w K mg) : Has P w K mg base 4 "_law_word" (sp_word K) := by
  have S := S_law_word
  have G_law_next := w_law_next (base := base) T
  refine has_of (k := 3) T.d_law_word T.gd_law_word S (fun _ _ _ _ _ _ us hl => match us, hl with | [_, _, _], _ => rfl) (fun vs H Q E h => ?_) (fun f cdv A outer s H vs Q E hr h => ?_)
  · obtain ⟨D, st, l, n, rfl, _⟩ := h
    rfl
  · obtain ⟨D, st, l, n, rfl, hl1, hl2, hn, sm, X, q⟩ := h
    have hlz := le1000 hl2
    refine ⟨_, (pss_cons (ps_set (i := 3) S.nd rfl (Or.inl rfl) pe_str)
    (pss_cons (ps_for (passes_of rfl) rfl (pi_range1 (by rfl) T.b_range (pa_cons (pv 2) pa_nil)) (pg_name (i := 4) S.nd rfl (Or.inl rfl))
      (pss_one (ps_set (i := 3) S.nd rfl (Or.inl rfl) (pe_op (oK_add K) (pv 3) (pe_ix (ixK_seq K) (pv 1) (pe_has G_law_next (hr.mono (by decide)) (L2N.takes_of rfl rfl rfl rfl) rfl (pa_cons (pv 0) (pa_cons (pe_callB (bK_len K) (by rfl) T.b_len (by decide +kernel) (pa_cons (pv 1) pa_nil)) pa_nil))) (fun _ _ => rfl))))))
    (pss_one (ps_ret (pv 3))))), ?_⟩
    walk_at "rd"
    refine ⟨_, rfl, by omega, by omega, lp_it walk_r0 (fun i σ H' => ∃ D' z o4, Gr (· = st) D H D' H' ∧ Stt K D' H' st ∧ z.length = i ∧ (∀ c ∈ z.cps.toList, c ∈ l.cps.toList) ∧ σ = [some (.ref st), some (.str l), some (.int (n : Nat)), some (.str z), o4]) ⟨D, "", none, Gr.refl sm, X, rfl, fun c z => (nomatch z), rfl⟩ (fun _ _ _ _ _ => trivial) ?_ ?_⟩
    · rintro i x σ H1 H2 hi ⟨D1, z, o4, g, X1, hz, hc, rfl⟩ ⟨rfl, rfl⟩
      have hi2 : i < n := by omega
      walk_at "rd"
      refine ⟨D1, st, _, rfl, by omega, by omega, g.sub, X1, fun D3 H3 r g3 X3 r0 r1 => ?_⟩
      have hr : r.toNat < l.length := by omega
      refine s_ix_s hlz (atI_i (j := r.toNat) (by omega) (List.getElem?_eq_getElem (by rw [len_list]; exact hr))) ?_
      refine s_add_s (leBig (by have : (⟨#[l.cps.toList[r.toNat]'(by rw [len_list]; exact hr)]⟩ : Str).length = 1 := rfl; omega)) ?_
      walk_at "rd"
      refine ⟨D3, _, _, g.trans g3, X3, ?_, ?_, rfl⟩
      · rw [app_len, hz]
        rfl
      · intro c hcm
        have hcm : c ∈ TL.tl (z ++ _) := hcm
        rw [TL.tl_append] at hcm
        rcases List.mem_append.mp hcm with hcm | hcm
        · exact hc c hcm
        · have : c = l.cps.toList[r.toNat]'(by rw [len_list]; exact hr) := List.mem_singleton.mp hcm
          rw [this]
          exact List.getElem_mem _
    · rintro σ H1 ⟨D1, z, o4, g, X1, hz, hc, rfl⟩
      walk_at "rd"
      exact q D1 H1 z g X1 (by rw [hz]; exact Int.toNat_natCast n) hc
theorem S_law_alphabet : FnScope ["state", "many", "signs", "at", "told", "k"] ["state", "many"] (d_law_alphabet).scope := ⟨rfl, rfl, rfl, by decide +kernel, rfl, by decide +kernel, by decide +kernel⟩
def sp_alphabet (K : PySem.W.Frag) : Sp := fun vs H Q E => ∃ (D : Hp) (st : Addr) (n : Nat), vs = [.ref st, .int (n : Nat)] ∧ 1 ≤ n ∧ n ≤ 4 ∧ Same D H ∧ Stt K D H st ∧
  ∀ D' H' z, Gr (· = st) D H D' H' → Stt K D' H' st → z.length = n → okLetters z = true → Q (.str z) H'
theorem w_law_alphabet (T : Txt P w K mg) : Has P w K mg base 4 "_law_alphabet" (sp_alphabet K) := by
  have S := S_law_alphabet
  have G_law_next := w_law_next (base := base) T
  refine has_of (k := 3) T.d_law_alphabet T.gd_law_alphabet S (fun _ _ _ _ _ _ us hl => match us, hl with | [_, _], _ => rfl) (fun vs H Q E h => ?_) (fun f cdv A outer s H vs Q E hr h => ?_)
  · obtain ⟨D, st, n, rfl, _⟩ := h
    rfl
  · obtain ⟨D, st, n, rfl, hn1, hn4, sm, X, q⟩ := h
    have hSM : SM.length ≤ sizeLine := by decide
    refine ⟨_, (pss_cons (ps_set (i := 2) S.nd rfl (Or.inl rfl) pe_str)
    (pss_cons (ps_set (i := 3) S.nd rfl (Or.inl rfl) (pe_has G_law_next (hr.mono (by decide)) (L2N.takes_of rfl rfl rfl rfl) rfl (pa_cons (pv 0) (pa_cons (pe_op o_sub pe_int (pe_op o_mul pe_int (pe_op o_sub (pv 1) pe_int))) pa_nil))))
    (pss_cons (ps_set (i := 4) S.nd rfl (Or.inl rfl) (pe_ix (ixK_seq K) (pv 2) (pv 3) (fun _ _ => rfl)))
    (pss_cons (ps_for (passes_of rfl) rfl (pi_range1 (by rfl) T.b_range (pa_cons (pe_op o_sub (pv 1) pe_int) pa_nil)) (pg_name (i := 5) S.nd rfl (Or.inl rfl))
      (pss_cons (ps_set (i := 3) S.nd rfl (Or.inl rfl) (pe_op (oK_add K) (pe_op (oK_add K) (pv 3) pe_int) (pe_has G_law_next (hr.mono (by decide)) (L2N.takes_of rfl rfl rfl rfl) rfl (pa_cons (pv 0) (pa_cons pe_int pa_nil)))))
    (pss_one (ps_set (i := 4) S.nd rfl (Or.inl rfl) (pe_op (oK_add K) (pv 4) (pe_ix (ixK_seq K) (pv 2) (pv 3) (fun _ _ => rfl)))))))
    (pss_one (ps_ret (pv 4))))))), ?_⟩
    walk_at "rd"
    refine s_mul (.inl (by decide)) ?_
    walk_at "rd"
    refine ⟨D, st, _, rfl, by omega, by omega, sm, X, fun D1 H1 r g1 X1 r0 r1 => ?_⟩
    walk_at "rd"
    have hr := SM_at r.toNat (by omega)
    refine s_ix_s (s := SM) hSM (atI_i (j := r.toNat) (by omega) hr) ?_
    walk_at "rd"
    refine ⟨_, rfl, by omega, by omega, lp_it walk_r0 (fun i σ H' => ∃ D' a z l o4, Gr (· = st) D H D' H' ∧ Stt K D' H' st ∧ z.cps.toList = l ++ [97 + a] ∧ okFrom [] z.cps.toList = true ∧ z.length = i + 1 ∧ a + 6 * (n - 1 - i) < 26 ∧ σ = [some (.ref st), some (.int (n : Nat)), some (.str SM), some (.int (a : Nat)), some (.str z), o4]) ⟨D1, r.toNat, ⟨#[97 + r.toNat]⟩, [], none, g1, X1, rfl, okFrom_one (SM_mem (by omega) (by omega)), rfl, by omega, ?_⟩ (fun _ _ _ _ _ => trivial) ?_ ?_⟩
    · rw [Int.toNat_of_nonneg r0]
      rfl
    · rintro i x σ H2 H3 hi ⟨D2, a, z, l, o4, g, X2, hz, hok, hl, ha, rfl⟩ ⟨rfl, rfl⟩
      have hi2 : i < n - 1 := by omega
      walk_at "rd"
      refine ⟨D2, st, _, rfl, by decide, by decide, g.sub, X2, fun D4 H4 r4 g4 X4 r40 r41 => ?_⟩
      walk_at "rd"
      have hr4 := SM_at (a + 1 + r4.toNat) (by omega)
      refine s_ix_s (s := SM) hSM (atI_i (j := a + 1 + r4.toNat) (by omega) hr4) ?_
      have l1 : (⟨#[97 + (a + 1 + r4.toNat)]⟩ : Str).length = 1 := rfl
      refine s_add_s (by rw [l1]; exact le1000 (by omega)) ?_
      walk_at "rd"
      have e : TL.tl (z ++ ⟨#[97 + (a + 1 + r4.toNat)]⟩) = l ++ [97 + a] ++ [97 + (a + 1 + r4.toNat)] := by
        rw [TL.tl_append]
        show z.cps.toList ++ [97 + (a + 1 + r4.toNat)] = _
        rw [hz]
      refine ⟨D4, a + 1 + r4.toNat, _, l ++ [97 + a], some (.int (i : Nat)), g.trans g4, X4, e, ?_, by rw [app_len, l1, hl], by omega, ?_⟩
      · show okFrom [] (TL.tl (z ++ _)) = true
        rw [e]
        rw [hz] at hok
        exact okFrom_snoc (SM_mem (by omega) (by omega)) (by omega) hok
      · have : (a : Int) + 1 + r4 = ((a + 1 + r4.toNat : Nat) : Int) := by omega
        rw [this]
        rfl
    · rintro σ H2 ⟨D2, a, z, l, o4, g, X2, hz, hok, hl, ha, rfl⟩
      walk_at "rd"
      have hl' : z.length = n := by omega
      refine q D2 H2 z g X2 hl' ?_
      have a1 : 1 ≤ z.length := by omega
      have a2 : z.length ≤ 4 := by omega
      simp [okLetters, a1, a2, hok]
theorem S_law_same_text : FnScope ["actual", "due"] ["actual", "due"] (d_law_same_text).scope := ⟨rfl, rfl, rfl, by decide +kernel, rfl, by decide +kernel, by decide +kernel⟩
def sp_same_text : Sp := fun vs H Q E => ∃ o : Option Str, vs = [(match o with | none => V.non | some z => .str z), (match o with | none => V.non | some z => .str z)] ∧ Q (.bl true) H
theorem w_law_same_text (T : Txt P w K mg) : Has P w K mg base 3 "_law_same_text" sp_same_text := by
  have S := S_law_same_text
  refine has_of (k := 2) T.d_law_same_text T.gd_law_same_text S (fun _ _ _ _ _ _ us hl => match us, hl with | [_, _], _ => rfl) (fun vs H Q E h => ?_) (fun f cdv A outer s H vs Q E hr h => ?_)
  · obtain ⟨o, rfl, _⟩ := h
    rfl
  · obtain ⟨o, rfl, q⟩ := h
    refine ⟨_, (pss_cons (ps_if (pt_cmpR c_is (pv 1) pe_non (nomark _))
      (pss_one (ps_ret (pe_cmpR c_is (pv 0) pe_non (nomark _))))
      pss_nil)
    (pss_one (ps_ret (pe_and (pe_callB call_isi (by rfl) T.b_isinstance (by decide +kernel) (pa_cons (pv 0) (pa_cons (pe_gT (T := "str") (by rfl) T.b_str (by decide +kernel)) pa_nil))) (pe_one (pe_cmpR (cK_eq K hr.units) (pv 0) (pv 1) (nomark _))))))), ?_⟩
    cases o with
    | none =>
      walk_at "rd"
      refine jtD (fun _ => ?_) (fun e => absurd rfl e)
      walk_at "rd"
      exact q
    | some z =>
      walk_at "rd"
      refine jtD (fun e => nomatch e) (fun _ => ?_)
      walk_at "rd"
      refine ⟨.str z, .ty "str", .type "str", .type "str", true, rfl, .ty _, .base (.str _), rfl, ?_⟩
      walk_at "rd"
      rw [decide_eq_true rfl]
      exact q
theorem S_law_views : FnScope ["letters", "most", "told", "layer", "k", "longer", "word", "letter"] ["letters", "most"] (d_law_views).scope := ⟨rfl, rfl, rfl, by decide +kernel, rfl, by decide +kernel, by decide +kernel⟩
def sp_views (K : PySem.W.Frag) : Sp := fun vs H Q E => ∃ (D : Hp) (l : Str) (n : Nat), vs = [.str l, .int (n : Nat)] ∧ l.length ≤ 4 ∧ n ≤ 7 ∧ Same D H ∧
  ∀ H' p, Gr No D H D H' → H p = none → D p = none → H' p = some (.lst ((viewsM l n).map V.str)) → Q (.ref p) H'
theorem w_law_views (T : Txt P w K mg) : Has P w K mg base 3 "_law_views" (sp_views K) := by
  have S := S_law_views
  refine has_of (k := 2) T.d_law_views T.gd_law_views S (fun _ _ _ _ _ _ us hl => match us, hl with | [_, _], _ => rfl) (fun vs H Q E h => ?_) (fun f cdv A outer s H vs Q E hr h => ?_)
  · obtain ⟨D, l, n, rfl, _⟩ := h
    rfl
  · obtain ⟨D, l, n, rfl, hl4, hn, sm, q⟩ := h
    refine ⟨_, (pss_cons (ps_set (i := 2) S.nd rfl (Or.inl rfl) (pe_lst pa_nil))
    (pss_cons (ps_set (i := 3) S.nd rfl (Or.inl rfl) (pe_lst (pa_cons pe_str pa_nil)))
    (pss_cons (ps_for (passes_of rfl) rfl (pi_range1 (by rfl) T.b_range (pa_cons (pv 1) pa_nil)) (pg_name (i := 4) S.nd rfl (Or.inl rfl))
      (pss_cons (ps_set (i := 5) S.nd rfl (Or.inl rfl) (pe_lst pa_nil))
    (pss_cons (ps_for (passes_of rfl) rfl (piK_list K (pv 3)) (pg_name (i := 6) S.nd rfl (Or.inl rfl))
      (pss_one (ps_for (passes_of rfl) rfl (pi_str (pv 0)) (pg_name (i := 7) S.nd rfl (Or.inl rfl))
      (pss_one (ps_expr (peK_bm K PySem.F.plainAttrs_list PySem.F.slot_list_append PySem.F.type_list_append mt_append (pv 5) (pa_cons (pe_op (oK_add K) (pv 6) (pv 7)) pa_nil)))))))
    (pss_cons (ps_set (i := 3) S.nd rfl (Or.inl rfl) (pe_callTy (bK_list K) (by rfl) T.b_list (by decide +kernel) (pa_cons (pv 5) pa_nil)))
    (pss_one (ps_set (i := 2) S.nd rfl (Or.inl rfl) (pe_op (oK_add K) (pv 2) (pv 3))))))))
    (pss_one (ps_ret (pv 2)))))), ?_⟩
    walk_at "rd"
    refine ⟨Nat.zero_le _, fun ta nta => ?_⟩
    have g1 := (Gr.refl (m := No) sm).lay (o := .lst []) nta
    walk_at "rd"
    refine ⟨le1000 (by simp), fun la nla => ?_⟩
    have g2 := g1.lay (o := .lst [.str ""]) nla
    have hta : (upd (upd H ta (.lst [])) la (.lst [.str ""])) ta = some (.lst []) := (upd_ne (fun e => by rw [← e, upd_same] at nla; cases nla)).trans upd_same
    have hla : (upd (upd H ta (.lst [])) la (.lst [.str ""])) la = some (.lst [.str ""]) := upd_same
    walk_at "rd"
    refine ⟨_, rfl, by omega, by omega, lp_it walk_r0 (fun i σ H' => ∃ la ta o4 o5 o6 o7, Gr No D H D H' ∧ H' la = some (.lst ((layerM l i).map V.str)) ∧ H' ta = some (.lst ((viewsM l i).map V.str)) ∧ H ta = none ∧ D ta = none ∧ σ = [some (.str l), some (.int (n : Nat)), some (.ref ta), some (.ref la), o4, o5, o6, o7]) ⟨la, ta, none, none, none, none, g2, hla, hta, nta, (Gr.refl (m := No) sm).free nta, rfl⟩ (fun _ _ _ _ _ => trivial) ?_ ?_⟩
    · rintro i x σ H1 H2 hi ⟨la, ta, o4, o5, o6, o7, g, hla, hta, hH, hD, rfl⟩ ⟨rfl, rfl⟩
      have hi2 : i < n := by omega
      have b1 := layer_bd hl4 (n := i) (by omega)
      have b2 := layer_bd hl4 (n := i + 1) (by omega)
      have b3 := views_bd hl4 (n := i) (by omega)
      walk_at "rd"
      refine ⟨Nat.zero_le _, fun p np => ?_⟩
      have gp := g.lay (o := .lst []) np
      have hDp := g.free np
      have hla1 : ∀ xs : List V, (upd H2 p (.lst xs)) la = some (.lst ((layerM l i).map V.str)) := fun xs => (upd_ne (ne_of_none hla np)).trans hla
      have hta1 : ∀ xs : List V, (upd H2 p (.lst xs)) ta = some (.lst ((viewsM l i).map V.str)) := fun xs => (upd_ne (ne_of_none hta np)).trans hta
      walk_at "rd"
      refine ⟨la, rfl, ⟨_, sql (hla1 _)⟩, lp_it walk_list (fun j σ H' => ∃ o6 o7, H' = upd H2 p (.lst ((growL l ((layerM l i).take j)).map V.str)) ∧ σ = [some (.str l), some (.int (n : Nat)), some (.ref ta), some (.ref la), some (.int (i : Nat)), some (.ref p), o6, o7]) ⟨_, _, rfl, rfl⟩ (fun j σ H' _ ⟨_, _, e, _⟩ => by rw [e]; exact sql (hla1 _)) ?_ ?_⟩
      · rintro j x σ H3 H4 hj ⟨o6, o7, rfl, rfl⟩ ⟨rfl, ex⟩
        rw [List.getElem?_map] at ex
        obtain ⟨wd, hw, rfl⟩ := Option.map_eq_some_iff.mp ex
        have hwl := (layer_mem.mp (List.mem_of_getElem? hw)).1
        walk_at "rd"
        refine lp_it walk_str (fun k σ H' => ∃ o7, H' = upd H2 p (.lst ((growL l ((layerM l i).take j) ++ (l.cps.toList.take k).map fun c => wd ++ ⟨#[c]⟩).map V.str)) ∧ σ = [some (.str l), some (.int (n : Nat)), some (.ref ta), some (.ref la), some (.int (i : Nat)), some (.ref p), some (.str wd), o7]) ⟨_, by rw [List.take_zero, List.map_nil, List.append_nil], rfl⟩ (fun _ _ _ _ _ => trivial) ?_ ?_
        · rintro k x σ H3 H4 hk ⟨o7, rfl, rfl⟩ ⟨rfl, c, hc, rfl⟩
          have hc2 : l.cps.toList[k]? = some c := by simpa using hc
          walk_at "rd"
          refine ⟨ty_l upd_same, ?_⟩
          walk_at "rd"
          have l1 : (⟨#[c]⟩ : Str).length = 1 := rfl
          refine s_add_s (by rw [l1]; exact le1000 (by omega)) ?_
          walk_at "rd"
          refine s_append upd_same ?_ ?_
          · rw [List.length_map, List.length_append, grow_len, List.length_map, List.length_take, List.length_take]
            have h1 : min j (layerM l i).length * l.length ≤ 16384 * 4 := Nat.mul_le_mul (by omega) hl4
            have h2 : min k l.cps.toList.length ≤ 4 := by rw [len_list]; omega
            exact ltBig (by omega)
          · walk_at "rd"
            refine ⟨_, ?_, rfl⟩
            rw [upd_upd, List.take_add_one, hc2]
            simp
        · rintro σ H3 ⟨o7, rfl, rfl⟩
          refine ⟨_, _, ?_, rfl⟩
          rw [grow_take l _ j wd hw, show l.cps.size = l.cps.toList.length by simp, List.take_length]
      · rintro σ H3 ⟨o6, o7, rfl, rfl⟩
        rw [List.length_map, List.take_length]
        have g3 := g.lay (o := .lst ((layerM l (i + 1)).map V.str)) np
        walk_at "rd"
        refine s_lst_l (sql (K := K) (xs := (layerM l (i + 1)).map V.str) upd_same) fun c nc => ?_
        have g4 := g3.lay (o := .lst ((layerM l (i + 1)).map V.str)) nc
        have hc : (upd (upd H2 p (.lst ((layerM l (i + 1)).map V.str))) c (.lst ((layerM l (i + 1)).map V.str))) c = some (.lst ((layerM l (i + 1)).map V.str)) := upd_same
        have hta2 : (upd (upd H2 p (.lst ((layerM l (i + 1)).map V.str))) c (.lst ((layerM l (i + 1)).map V.str))) ta = some (.lst ((viewsM l i).map V.str)) := (upd_ne (ne_of_none (hta1 _) nc)).trans (hta1 _)
        walk_at "rd"
        refine s_add_l hta2 hc (by rw [List.length_map, List.length_map]; exact leBig (by omega)) fun t2 nt2 => ?_
        walk_at "rd"
        refine ⟨c, t2, _, _, _, _, g4.lay nt2, (upd_ne (ne_of_none hc nt2)).trans hc, ?_, g4.kept _ nt2, g4.free nt2, rfl⟩
        rw [upd_same, show viewsM l (i + 1) = viewsM l i ++ layerM l (i + 1) from rfl, List.map_append]
    · rintro σ H1 ⟨la, ta, o4, o5, o6, o7, g, hla, hta, hH, hD, rfl⟩
      rw [show ((n : Nat) : Int).toNat = n from Int.toNat_natCast n] at hta
      walk_at "rd"
      exact q H1 ta g hH hD hta
end
end H89

namespace Y
open PySem PySem.Spec L2 He
theorem getS_in {α : Type} {t : List (Str × α)} {k : Str} {y : α} (h : (k, y) ∈ t) : ∃ z, getS t k = some z := by
  induction t with
  | nil => cases h
  | cons p r ih =>
    rw [getS_cons]
    by_cases hp : p.1 = k
    · rw [if_pos hp]
      exact ⟨_, rfl⟩
    · rw [if_neg hp]
      rcases List.mem_cons.mp h with e | e
      · rw [← e] at hp
        exact absurd rfl hp
      · exact ih e
theorem KvR.nth {α : Type} {R : V → α → Prop} : ∀ {kvs : List (Key × V)} {t : List (Str × α)} {i : Nat} {k : Key} {v : V}, KvR R kvs t → kvs[i]? = some (k, v) → ∃ z y, k = Sum.inr z ∧ (z, y) ∈ t ∧ R v y
  | _, _, 0, k, v, .cons (k := z) (y := y) r s, e => by
    cases e
    exact ⟨z, y, rfl, List.mem_cons_self .., r⟩
  | _, _, i + 1, k, v, .cons r s, e => by
    obtain ⟨z, y, h1, h2, h3⟩ := KvR.nth (i := i) s e
    exact ⟨z, y, h1, List.mem_cons_of_mem _ h2, h3⟩
theorem tl_cutL (z : Str) (k : Nat) : TL.tl (cutS z none (some (k : Int))) = (TL.tl z).take k := by
  show (((z.cps.toList.drop (HT.sIx z.length 0 none)).take (HT.sIx z.length z.length (some (k : Int)) - HT.sIx z.length 0 none)).toArray).toList = _
  rw [HT.sIx_nat, HT.sIx_none, List.drop_zero, Nat.sub_zero]
  show z.cps.toList.take (min k z.length) = _
  have e : z.length = z.cps.toList.length := by simp [Str.length]
  rw [e, ← List.take_take, List.take_length]
theorem tl_cutR (z : Str) (k : Nat) : TL.tl (cutS z (some (k : Int)) none) = (TL.tl z).drop k := by
  show (((z.cps.toList.drop (HT.sIx z.length 0 (some (k : Int)))).take (HT.sIx z.length z.length none - HT.sIx z.length 0 (some (k : Int)))).toArray).toList = _
  rw [HT.sIx_nat, HT.sIx_none]
  show (z.cps.toList.drop (min k z.length)).take (z.length - min k z.length) = _
  have e : z.length = z.cps.toList.length := by simp [Str.length]
  rw [e]
  by_cases h : k ≤ z.cps.toList.length
  · rw [Nat.min_eq_left h]
    exact List.take_of_length_le (by rw [List.length_drop]; exact Nat.le_refl _)
  · rw [Nat.min_eq_right (by omega), Nat.sub_self, List.take_zero]
    exact (List.drop_of_length_le (by show z.cps.toList.length ≤ k; omega)).symm
end Y

namespace Y
open PySem PySem.Spec PyProof.Rows L2 He
theorem s_brk {D : Ends} {σ : L2.St} {H : Hp} (k : D.bk σ H) : tBreak D σ H := k
theorem ruH {k : Nat} {A : Around} (r : L2H.RoomH k A) : A.units + 64 < cLine := by
  have := r.un
  omega
theorem mt_indexN {X : Cx} {W : WX} (hc : X.calm = true) (tk : L2N.Takes X W) : MtS X "str.index" (rIndexX W) := by
  intro pins s σ H x xs v us Q I rx rs h
  obtain ⟨a, b, rfl, rfl, hy, hn⟩ := h
  obtain ⟨t, rfl⟩ := rx
  cases rs with
  | cons r1 rs =>
    cases rs
    obtain ⟨u, rfl⟩ := r1
    cases q : Builtin.Str.occurrences a b 0 a.length 1 with
    | nil =>
      have w := hn (by unfold Txt.index0; rw [q] <;> rfl)
      exact call_meets PySem.F.slot_str_index (typeIs_str _ _ _) PySem.F.entry_str_index (PySem.F.args_str_index_2 _ _) (raises_str_index a b t u q) ⟨I.ok.hd hc, fun h' tk' e hx => L2N.takes_newN (t' := tk') tk I hx w⟩
    | cons k rest =>
      have w := hy k (by unfold Txt.index0; rw [q] <;> rfl)
      exact PySem.SC.index q ⟨.int (k : Nat), H, I.tok _, ⟨_, rfl⟩, w⟩
/-! ### a list walked while an exception is handled -/
section
variable {prog : Program} {w : World} {A : Around} {E : Value → Shared → Prop} {s : Shared}
theorem list_end_hot {it l x1 : Addr} {i : Nat} {items : Array Value} {Q : Option Value → Shared → Prop} (hot : HotX.HotAt A x1 s.heap) (hne : x1 ≠ it)
    (hit : s.heap.IsListIter it l i) (hl : s.heap.IsList l items) (hx : items[i]? = none)
    (hQ : ∀ h', Heap.ExtBut it s.heap h' → Q none { s with heap := h' }) : wpAny (model prog w) A (pyNext (.ref it)) Q E s := by
  obtain ⟨o, ho, hc, hd⟩ := id hit
  obtain ⟨ol, hol, _, nl, hdl⟩ := hl
  obtain ⟨hh, o1, vs1, h1, d1, c1⟩ := hot
  unfold pyNext
  refine wpAny_bind (wpAny_attempt (wpAny_callSpecial?_slot (name := Str.ofString "__next__") hit.typeIs slot_listiter_next
    (wpAny_call_entry slot_listiter_next hit.typeIs entry_listiter_next ?_ (args_listiter_next _))))
  show wpAny _ _ (field (.ref it) 0 >>= _) _ _ s
  refine wpAny_bind (wpAny_field ho hd (x := .ref l) rfl ?_)
  show wpAny _ _ (if (Value.ref l == Value.none) = true then _ else _) _ _ s
  rw [if_neg (show ¬ ((Value.ref l == Value.none) = true) from Bool.false_ne_true)]
  show wpAny _ _ (field (.ref it) 1 >>= _) _ _ s
  refine wpAny_bind (wpAny_field ho hd (x := .int i 0) rfl ?_)
  show wpAny _ _ (seqItems? (.ref l) >>= _) _ _ s
  refine wpAny_bind (wpAny_seqItems hol hdl ?_)
  simp only [Int.toNat_natCast, hx]
  refine wpAny_bind (wpAny_rule (wpAny_bind (wpAny_setField ho hd (by simp) ?_)))
  show wpAny _ _ (newExc (.type "StopIteration") [] >>= _) _ _ _
  refine wpAny_bind ?_
  simp only [newExc, newTuple]
  refine wpAny_bind (wpAny_newObj_type ?_ (by size_fits))
  refine wpAny_bind (m := firstArgMember _ _) (wpAny_of_eq (a := Value.none) (by first | rfl | (simp only [firstArgMember]; rfl)) ?_)
  refine wpAny_newObj_type ?_ (by size_fits)
  have hget := ((Heap.SameBut.update (h := s.heap) (a := it) (f := Obj.mapFields (·.setIfInBounds 0 .none))).2 x1 hne).trans h1
  refine HotX.raiseNew_hot ⟨hh, o1, vs1, Heap.get?_push_of_some _ (Heap.get?_push_of_some _ hget), d1, c1⟩ (Nat.ne_of_lt (Heap.lt_size (Heap.get?_push_of_some _ hget))) (Heap.get?_push_size _ rfl) rfl (by first | (simp; done) | (simp; omega) | (simp only [Array.size_append]; simp; omega)) ?_
  refine wpAny_bind (wpAny_isInstance (T := "StopIteration") (b := true) ⟨_, Heap.get?_update_self _ (Heap.get?_push_size _ rfl) rfl, rfl⟩ isSubtype_stop ?_)
  refine wpAny_pure (hQ _ fun b o hb e => ?_)
  have e2 := ((Heap.SameBut.update (h := s.heap) (a := it) (f := Obj.mapFields (·.setIfInBounds 0 .none))).2 b hb).trans e
  rw [Heap.get?_update_other _ _ (Nat.ne_of_gt (Heap.lt_size (Heap.get?_push_of_some _ e2)))]
  exact Heap.get?_push_of_some _ (Heap.get?_push_of_some _ e2)
end
structure TurnH (P : Program) (w : World) (K : PySem.W.Frag) (tg : Expr) (J : It) (fp : List Addr) (it : Addr) (tn : Nat → Heap → Prop) : Prop where
  mem : it ∈ fp
  obj : ∀ i h, tn i h → ∀ b ∈ fp, ∃ o, h.get? b = some o ∧ ∀ v, o.data ≠ .cell v
  keep : ∀ i h h', tn i h → (∀ b ∈ fp, ∀ o, h.get? b = some o → h'.get? b = some o) → tn i h'
  item : ∀ (X : Cx), X.prog = P → X.w = w → X.K = K → ∀ (i : Nat) (pins : List (Addr × Obj)) (s : Shared) (σ : L2.St) (H : Hp) (E : Value → Shared → Prop), Inv X pins σ H s → (∀ b ∈ fp, FpOk X pins H b) → tn i s.heap → J.go i H →
    wpAny (model P w) X.A (pyNext (.ref it)) (fun r s1 => ∃ u, r = some u ∧
      wpAny (model P w) X.A (letOwnedTupleGo tg (.ref it) u) (fun _ s2 => ∃ x H', Inv X pins σ H' s2 ∧ RelV x u ∧ J.yld i H x H' ∧ tn (i + 1) s2.heap ∧ ∀ b ∈ fp, H' b = none) E s1) E s
  done : ∀ (X : Cx), X.prog = P → X.w = w → X.K = K → ∀ (x1 : Addr) (s : Shared), HotX.HotAt X.A x1 s.heap → x1 ∉ fp → ∀ (i : Nat) (pins : List (Addr × Obj)) (σ : L2.St) (H : Hp) (E : Value → Shared → Prop), Inv X pins σ H s → (∀ b ∈ fp, FpOk X pins H b) → tn i s.heap → J.stop i H →
    wpAny (model P w) X.A (pyNext (.ref it)) (fun r s1 => r = none ∧ Inv X pins σ H s1) E s
  self : ∀ (A : Around) (i : Nat) (s : Shared) (Q : Value → Shared → Prop) (E : Value → Shared → Prop), tn i s.heap → Q (.ref it) s → wpAny (model P w) A (pyIter (.ref it)) Q E s
def PIEH (X : Cx) (pins : List (Addr × Obj)) (σ : L2.St) (tg : Expr) (R : It → Hp → Prop) (itv : Value) (s2 : Shared) : Prop :=
  ∃ (it : Addr) (fp : List Addr) (tn : Nat → Heap → Prop) (J : It) (H' : Hp), itv = .ref it ∧ Inv X pins σ H' s2 ∧ TurnH X.prog X.w X.K tg J fp it tn ∧ tn 0 s2.heap ∧ (∀ b ∈ fp, FpOk X pins H' b) ∧ R J H'
structure PIH (X : Cx) (tg iter : Expr) (wi : TI) : Prop where
  run : ∀ (pins : List (Addr × Obj)) (s : Shared) (σ : L2.St) (H : Hp) (R : It → Hp → Prop), Inv X pins σ H s → wi σ H R →
    wpAny (model X.prog X.w) X.A (eval iter X.env) (fun v s1 => wpAny (model X.prog X.w) X.A (pyIter v) (PIEH X pins σ tg R) X.xe s1) X.xe s
theorem turnH_list {P : Program} {w : World} {K : PySem.W.Frag} {tg : Expr} (a it : Addr) : TurnH P w K tg (Itl K a) [it] it (fun i h => h.IsListIter it a i) where
  mem := by simp
  obj := (turn_list (P := P) (w := w) (K := K) (tg := tg) a it).obj
  keep := (turn_list (P := P) (w := w) (K := K) (tg := tg) a it).keep
  item := by
    intro X hP hw hK i pins s σ H E I hf st hg
    subst hP hw hK
    obtain ⟨xs, x, hq, hx⟩ := hg
    obtain ⟨its, rv, p, hz⟩ := I.list hq
    obtain ⟨u, hu, ru⟩ := rv.get hx
    obtain ⟨f0, f1, f2, f3, f4, f5⟩ := hf it (by simp)
    refine wpAny_pyNext_list_item st p.isList (x := u) (by simpa using hu) fun h' st' sb => ?_
    have I1 : Inv X pins σ H { s with heap := h' } := I.turned (t' := s.toks) (fun b o hb e => (sb.2 b hb).trans e) f0 f1 f3 f4 f5
    obtain ⟨o, e, c, d⟩ := id st'
    exact ⟨u, rfl, go_of (s := { s with heap := h' }) e c d (by decide) ⟨x, H, I1, ru, ⟨rfl, fun ys hy => by rw [I.list_inj hy hq]; exact hx⟩, st', fun b hb => (hf b hb).1⟩⟩
  done := by
    intro X hP hw hK x1 s hot hx1 i pins σ H E I hf st hg
    subst hP hw hK
    obtain ⟨xs, hq, hx⟩ := hg
    obtain ⟨its, rv, p, hz⟩ := I.list hq
    obtain ⟨f0, f1, f2, f3, f4, f5⟩ := hf it (by simp)
    have hl := rv.length
    exact list_end_hot hot (fun e => hx1 (by simp [e])) st p.isList (by simp; omega) fun h' eb => ⟨rfl, I.turned (t' := s.toks) (fun b o hb e => eb b o hb e) f0 f1 f3 f4 f5⟩
  self := fun _ _ _ _ _ st h => wpAny_pyIter_listiter st h
theorem piH_list {X : Cx} {K : PySem.W.Frag} {tg : Expr} {l : Expr} {tl : TE} (hl : PE X l tl) (h : X.K = K := by rfl) : PIH X tg l (iList K tl) := by
  subst h
  refine ⟨fun pins s σ H R I h => ?_⟩
  refine thn (hl.run pins s σ H _ I h) fun v s1 ⟨x, H1, I1, r1, q1⟩ => ?_
  obtain ⟨a, e, ⟨xs, hq⟩, q⟩ := q1
  subst e
  cases r1
  obtain ⟨its, rv, p, hz⟩ := I1.list hq
  refine wpAny_pyIter_list p.isList ?_
  refine ⟨s1.heap.objs.size, [s1.heap.objs.size], _, _, H1, rfl, I1.kept (t' := s1.toks) fun b o e => Heap.get?_push_of_some _ e, turnH_list a _, ⟨_, Heap.get?_push_size _ rfl, rfl, rfl⟩, fun b hb => ?_, q⟩
  have e : b = s1.heap.objs.size := by simpa using hb
  subst e
  exact I1.fpOk (Nat.le_refl _) (I1.hok.fresh (Nat.le_refl _))
theorem hot1_of {A : Around} {a : Addr} {oe : Obj} {cls : Value} {d : Option Addr} (hn : L2N.Zn cls d oe) (hf : ∃ vs, oe.data = .fields vs) : L2H.Hot1 (A.mark (some (.ref a))) (a, oe) := by
  obtain ⟨vs, e⟩ := hf
  exact ⟨rfl, vs, e, hn.2.2 vs e⟩
/-! ### a comprehension there -/
section
variable {X : Cx}
theorem lc_coreH {pins : List (Addr × Obj)} {s : Shared} {σ : L2.St} {H : Hp} {Q : VK} {elt tg iter : Expr} {ifs : List Expr} {scope : Scope} {own : List (Str × Nat)} {pos pos' : Pos} {wi : TI} {g : TG} {tt : TT} {te : TE} {use : Option (Value → Sem Unit)} {Qf : Value → Shared → Prop}
    (hot : L2H.HotC X) (hN : X.N.Nodup) (I : Inv X pins σ H s) (hi : PIH X tg iter wi) (ok : BlkOk X.N X.env.scope scope own)
    (hg : ∀ (s : Shared) (H : Hp) (C : Addr) (cl : List (Str × Addr)) (fp : List Addr), PG (X.blk s H scope (compEnvC scope cl C X.env) fp) tg g) (ht : ∀ (s : Shared) (H : Hp) (C : Addr) (cl : List (Str × Addr)) (fp : List Addr), PTs (X.blk s H scope (compEnvC scope cl C X.env) fp) ifs tt)
    (he : ∀ (s : Shared) (H : Hp) (C : Addr) (cl : List (Str × Addr)) (fp : List Addr), PE (X.blk s H scope (compEnvC scope cl C X.env) fp) elt te) (hs : ∀ x, foldedSetIterable iter X.env x = pure x)
    (h : tLc wi g tt te (own.map (·.2)) σ H Q)
    (hRR : ∀ D C s' m H', Inv X pins σ H' s' → Q (.ref D) H' → s'.heap.Ns C m → FpOk X pins H' C → compPost (model X.prog X.w) X.A X.xe use Qf (.ref D) C (.ok .next) s') :
    wpAny (model X.prog X.w) X.A (comprehension (.ListComp elt [⟨tg, iter, ifs, 0⟩] scope pos) scope X.env pos' (newList []) false (eval iter X.env) use) Qf X.xe s := by
  have hfree : ∀ y ∈ scope.names, y.2 = .free → ∃ c, X.env.cells.lookup y.1 = some c := fun y hy e => by
    rcases ok.free y hy e with k | k
    · exact I.ok.has _ (.inl k)
    · exact I.ok.has _ (.inr k)
  refine wpAny_comprehension_free (use := use) rfl hs (closure_ok hfree) ok.kind (fun y hy e => by rw [ok.uniq y hy, e])
    (thn (hi.run pins s σ H _ I h) fun xv s1 hx => thn hx fun itv s2 h2 => ?_)
  obtain ⟨it, fp, tn, J, H2, e, I2, T, st2, f2, q⟩ := h2
  subst e
  refine wpAny_newObj_type (newEnv_comp ?_) (by show 0 ≤ sizeLine; decide)
  generalize hD : s2.heap.objs.size = D
  have hDn : H2 D = none := I2.hok.fresh (Nat.le_of_eq hD)
  obtain ⟨W, ⟨m0, w0⟩, turn⟩ := q D hDn
  obtain ⟨⟨x1, oe⟩, ⟨hh, vx, hvx, hcx⟩, hpx⟩ := hot
  have PX := I2.pin (x1, oe) (List.mem_append_left _ hpx)
  have hxfp : x1 ∉ fp := fun hm => (f2 x1 hm).2.2.2.2.2 (x1, oe) (List.mem_append_left _ hpx) rfl
  -- the new list
  generalize hs3 : ({ s2 with heap := s2.heap.push { cls := .type "list", data := .seq ([] : List Value).toArray } } : Shared) = s3
  have I3 : Inv X pins σ (upd H2 D (.lst [])) s3 := by
    rw [← hs3]
    refine I2.laid (t' := s2.toks) (fun b o e => Heap.get?_push_of_some _ e) (Nat.le_of_eq hD) ⟨Nat.zero_le _, [], 0, .nil, ?_⟩
    rw [← hD]
    exact Heap.get?_push_size _ rfl
  have h3 : s3.heap = s2.heap.push { cls := .type "list", data := .seq ([] : List Value).toArray } := by rw [← hs3]
  have sz : ∀ b ∈ fp, b < s2.heap.objs.size := fun b hb => by
    obtain ⟨o, e, _⟩ := T.obj _ _ st2 b hb
    exact Heap.lt_size e
  have f3 : ∀ b ∈ fp, FpOk X pins (upd H2 D (.lst [])) b ∧ b < s3.heap.objs.size := fun b hb => by
    have hlt := sz b hb
    refine ⟨⟨?_, (f2 b hb).2⟩, by rw [h3, Heap.size_push]; exact Nat.lt_succ_of_lt hlt⟩
    rw [upd_ne (by rw [← hD]; exact Nat.ne_of_lt hlt)]
    exact (f2 b hb).1
  have st3 : tn 0 s3.heap := T.keep _ _ _ st2 fun b _ o e => by rw [h3]; exact Heap.get?_push_of_some _ e
  have I4 := block_start I3 ok hN f3
  have pg := hg s3 (upd H2 D (.lst [])) s3.heap.objs.size (cellsFrom (s3.heap.objs.size + 1) scope.names (cloFrom X.env.cells scope.names [])) fp
  have pt := ht s3 (upd H2 D (.lst [])) s3.heap.objs.size (cellsFrom (s3.heap.objs.size + 1) scope.names (cloFrom X.env.cells scope.names [])) fp
  have pe := he s3 (upd H2 D (.lst [])) s3.heap.objs.size (cellsFrom (s3.heap.objs.size + 1) scope.names (cloFrom X.env.cells scope.names [])) fp
  show codeAny _ _ (.compStart (.ListComp elt [⟨tg, iter, ifs, 0⟩] scope pos) 0 (.ref it) (.ref D) (compEnvC scope (cellsFrom (s3.heap.objs.size + 1) scope.names (cloFrom X.env.cells scope.names [])) s3.heap.objs.size X.env)) (compPost (model X.prog X.w) X.A X.xe use Qf (.ref D) s3.heap.objs.size) { s3 with heap := pushCells (s3.heap.push { cls := .type "dict", data := .dict #[] }) scope.names }
  have nfp : ∀ b ∈ fp, (upd H2 D (.lst [])) b = none := fun b hb => (f3 b hb).1.1
  generalize hce : compEnvC scope (cellsFrom (s3.heap.objs.size + 1) scope.names (cloFrom X.env.cells scope.names [])) s3.heap.objs.size X.env = ce at I4 pg pt pe ⊢
  have cL : ce.locals = s3.heap.objs.size := by subst hce; rfl
  generalize hH3 : upd H2 D (.lst []) = H3 at I3 I4 pg pt pe w0 nfp f3
  generalize hs4 : ({ s3 with heap := pushCells (s3.heap.push { cls := .type "dict", data := .dict #[] }) scope.names } : Shared) = s4 at I4 ⊢
  have st4 : tn 0 s4.heap := T.keep _ _ _ st3 fun b _ o e => by rw [← hs4]; exact pushCells_keeps _ _ _ _ (Heap.get?_push_of_some _ e)
  have stat : ∀ {σ' : L2.St} {H' : Hp} {s' : Shared}, Inv (X.blk s3 H3 scope ce fp) [] σ' H' s' → (∀ b ∈ fp, H' b = none) → ∀ b ∈ fp, FpOk (X.blk s3 H3 scope ce fp) [] H' b := fun {σ' H' s'} I' hn b hb =>
    ⟨hn b hb, (I'.ok.exf b hb).1, I'.ok.exfs b hb, .inl hb, fun x c e => (I'.ok.exf b hb).2 x c e, fun p hp => absurd (show p ∈ ([] : List (Addr × Obj)) ++ [] from hp) (by simp)⟩
  have PX3 := I3.pin (x1, oe) (List.mem_append_left _ hpx)
  have hotAt : ∀ {σ' : L2.St} {H' : Hp} {s' : Shared}, Inv (X.blk s3 H3 scope ce fp) [] σ' H' s' → HotX.HotAt X.A x1 s'.heap := fun {σ' H' s'} I' =>
    ⟨hh, oe, vx, I'.base.keep x1 oe PX3.1 PX3.2.1 (fun z => (List.mem_cons.mp (I3.stkSub x1 z)).elim PX3.2.2.1 PX3.2.2.2.1) hxfp, hvx, hcx⟩
  have loop : codeAny (model X.prog X.w) X.A (.compLoop (.ListComp elt [⟨tg, iter, ifs, 0⟩] scope pos) 0 (.ref it) (.ref D) ce) (compPost (model X.prog X.w) X.A X.xe use Qf (.ref D) s3.heap.objs.size) s4 := by
    refine compLoop_any (fun n s' => ∃ i H', Inv (X.blk s3 H3 scope ce fp) [] (wipe σ (own.map (·.2))) H' s' ∧ tn i s'.heap ∧ (∀ b ∈ fp, H' b = none) ∧ W i n H') ?_ m0 ⟨0, H3, I4, st4, nfp, w0⟩
    rintro n s5 ⟨i, H5, I5, st5, n5, w5⟩
    rcases turn i n H5 w5 with ⟨stop, qq⟩ | ⟨go, Nx, hNx, step⟩
    · have td := T.done (X.blk s3 H3 scope ce fp) rfl rfl rfl x1 s5 (hotAt I5) hxfp i [] _ H5 (fun _ _ => False) I5 (stat I5 n5) st5 stop
      refine thnF td fun r s6 ⟨hr, I6⟩ => ?_
      subst hr
      -- back in the def's context
      have I7 : Inv X pins σ H5 s6 := I3.call' (ch := fp) I6.os I6.base I6.hok I6.bare fun b hb => ⟨(f3 b hb).1.2.2.2.1, (f3 b hb).1.2.1, (f3 b hb).1.2.2.2.2.1, (f3 b hb).1.2.2.2.2.2⟩
      have nC : H5 s3.heap.objs.size = none := by
        have z : H5 ce.locals = none := I6.free
        rw [cL] at z
        exact z
      obtain ⟨m, hn, _⟩ := I6.loc
      have hn : s6.heap.Ns ce.locals m := hn
      rw [cL] at hn
      exact hRR D s3.heap.objs.size s6 m H5 I7 qq hn (I3.fpOk (Nat.le_refl _) nC)
    · have ti := T.item (X.blk s3 H3 scope ce fp) rfl rfl rfl i [] s5 _ H5 (fun _ _ => False) I5 (stat I5 n5) st5 go
      refine thnF ti fun r s6 ⟨u, hr, h6⟩ => ?_
      subst hr
      refine thnF h6 fun _ s7 ⟨x, H7, I7, r7, y7, st7, n7⟩ => ?_
      have I7' := I7.pinned (stat I7 n7) (T.obj _ _ st7)
      refine thnF (pg.run _ s7 _ H7 x u _ I7' r7 (step x H7 y7)) fun _ s8 ⟨σ8, H8, I8, hw8, q8⟩ => ?_
      refine thnF (pt.run _ s8 σ8 H8 _ I8 q8) fun b s9 ⟨H9, I9, q9⟩ => ?_
      -- the turn's end
      have fin : ∀ {s' : Shared} {H' : Hp}, Inv (X.blk s3 H3 scope ce fp) ([] ++ pinsAt fp s7.heap) σ8 H' s' → Nx H' → ∃ m, m < n ∧ ∃ i H', Inv (X.blk s3 H3 scope ce fp) [] (wipe σ (own.map (·.2))) H' s' ∧ tn i s'.heap ∧ (∀ b ∈ fp, H' b = none) ∧ W i m H' := fun {s' H'} I' nx => by
        obtain ⟨m', hm, w'⟩ := hNx H' nx
        have pin' : ∀ b ∈ fp, ∀ o, s7.heap.get? b = some o → s'.heap.get? b = some o ∧ H' b = none := fun b hb o e =>
          let z := I'.pin (b, o) (List.mem_append_right _ (List.mem_append_right _ (mem_pinsAt hb e)))
          ⟨z.1, z.2.1⟩
        have hl : (wipe σ (own.map (·.2))).length = σ8.length := by rw [← hw8, wipe_length]
        refine ⟨m', hm, i + 1, H', (I'.unpinned (pins := [])).weak hl (fun j v e => ?_), T.keep _ _ _ st7 fun b hb o e => (pin' b hb o e).1, fun b hb => ?_, w'⟩
        · rw [← hw8] at e
          exact (wipe_some e).1
        · obtain ⟨o, e, _⟩ := T.obj _ _ st7 b hb
          exact (pin' b hb o e).2
      cases b with
      | false =>
        simp only [Bool.false_eq_true, if_false] at q9 ⊢
        exact fin I9 q9
      | true =>
        simp only [if_true] at q9 ⊢
        refine thnF (pe.run _ s9 σ8 H9 _ I9 q9) fun z s10 ⟨yv, H10, I10, r10, acc, hD10, hz10, nx⟩ => ?_
        exact app_ok (X := X.blk s3 H3 scope ce fp) I10 hD10 hz10 r10 fun s11 I11 => fin I11 nx
  exact codeAny_compStart_list loop (T.self X.A 0 _ _ _ st4 loop)
/-- as a value -/
theorem pe_lcH {elt tg iter : Expr} {ifs : List Expr} {scope : Scope} {own : List (Str × Nat)} {pos : Pos} {wi : TI} {g : TG} {tt : TT} {te : TE} (hot : L2H.HotC X) (hN : X.N.Nodup) (hi : PIH X tg iter wi) (ok : BlkOk X.N X.env.scope scope own)
    (hg : ∀ (s : Shared) (H : Hp) (C : Addr) (cl : List (Str × Addr)) (fp : List Addr), PG (X.blk s H scope (compEnvC scope cl C X.env) fp) tg g) (ht : ∀ (s : Shared) (H : Hp) (C : Addr) (cl : List (Str × Addr)) (fp : List Addr), PTs (X.blk s H scope (compEnvC scope cl C X.env) fp) ifs tt)
    (he : ∀ (s : Shared) (H : Hp) (C : Addr) (cl : List (Str × Addr)) (fp : List Addr), PE (X.blk s H scope (compEnvC scope cl C X.env) fp) elt te) (hs : ∀ x, foldedSetIterable iter X.env x = pure x := by intro _; rfl) :
    PE X (.ListComp elt [⟨tg, iter, ifs, 0⟩] scope pos) (tLc wi g tt te (own.map (·.2))) := by
  refine ⟨fun pins s σ H Q I h => ?_⟩
  rw [eval_ListComp]
  refine lc_coreH hot hN I hi ok hg ht he hs h fun D C s' m H' I' q hn f => ⟨m, hn, fun h'' sb => ?_⟩
  obtain ⟨f0, f1, f2, f3, f4, f5⟩ := f
  exact ⟨.ref D, H', I'.turned (t' := s'.toks) (fun b o hb e => (sb.2 b hb).trans e) f0 f1 f3 f4 f5, rfl, q⟩
end
end Y

namespace H89
open PySem PySem.Spec L2 He Y Hk89
local macro_rules | `(tactic| walk_at "rd1") => `(tactic| first
  | with_reducible refine s_seq ?_
  | with_reducible refine s_asg ?_
  | with_reducible refine s_gname ?_
  | ((with_reducible refine s_var (v := ?_) ?_ ?_); rotate_left; exact rfl)
  | with_reducible refine s_c ?_
  | with_reducible refine s_op ?_
  | with_reducible refine s_un ?_
  | with_reducible refine s_nil ?_
  | with_reducible refine s_cons ?_
  | with_reducible refine s_CB ?_
  | with_reducible refine s_ifS ?_
  | with_reducible refine s_test ?_
  | with_reducible refine s_B ?_
  | with_reducible refine s_xb ?_
  | with_reducible refine s_xi ?_
  | with_reducible refine s_xs ?_
  | with_reducible refine s_or ?_
  | with_reducible refine s_and ?_
  | with_reducible refine s_not ?_
  | with_reducible refine s_orV ?_
  | with_reducible refine s_andV ?_
  | with_reducible refine s_notV ?_
  | with_reducible refine s_ret ?_
  | with_reducible refine s_retN ?_
  | with_reducible refine s_next ?_
  | with_reducible refine s_drop ?_
  | with_reducible refine s_yes ?_
  | with_reducible refine s_for ?_
  | with_reducible refine s_lc ?_
  | with_reducible refine s_iStr ?_
  | with_reducible refine s_iList ?_
  | with_reducible refine s_iTup ?_
  | with_reducible refine s_iR1 ?_
  | with_reducible refine s_iR2 ?_
  | with_reducible refine s_iE ?_
  | with_reducible refine s_iET ?_
  | with_reducible refine s_iES ?_
  | with_reducible refine s_tup ?_
  | with_reducible refine s_lst ?_
  | with_reducible refine s_BM ?_
  | with_reducible refine s_BM0 ?_
  | with_reducible refine s_BMS _ ?_
  | with_reducible refine s_M1 ?_
  | with_reducible refine s_sl ?_
  | with_reducible refine s_noP ?_
  | with_reducible refine s_po ?_
  | with_reducible refine s_call ?_
  | with_reducible refine s_callS ?_
  | with_reducible refine s_make ?_
  | with_reducible refine s_makeS ?_
  | with_reducible refine s_methS ?_
  | with_reducible refine s_callO ?_
  | with_reducible refine s_dnew ?_
  | with_reducible refine s_dget ?_
  | with_reducible refine s_din ?_
  | with_reducible refine s_dnin ?_
  | with_reducible refine s_dput ?_
  | with_reducible refine s_dsetd ?_
  | with_reducible refine s_dget2 ?_
  | with_reducible refine s_fld ?_
  | with_reducible refine s_sFld ?_
  | with_reducible refine s_rz ?_
  | with_reducible refine s_asgS ?_
  | with_reducible refine s_gSub ?_
  | with_reducible refine s_ifE ?_
  | with_reducible refine s_add_i ?_
  | with_reducible refine s_sub ?_
  | with_reducible refine s_neg ?_
  | with_reducible refine s_eq_i ?_
  | with_reducible refine s_eq_s ?_
  | with_reducible refine s_ne_i ?_
  | with_reducible refine s_ne_s ?_
  | with_reducible refine s_lt_i ?_
  | with_reducible refine s_le_i ?_
  | with_reducible refine s_gt_i ?_
  | with_reducible refine s_ge_i ?_
  | with_reducible refine s_lt_s ?_
  | with_reducible refine s_le_s ?_
  | with_reducible refine s_gt_s ?_
  | with_reducible refine s_ge_s ?_
  | with_reducible refine s_in_c ?_
  | with_reducible refine s_ni_c ?_
  | with_reducible refine s_isN ?_
  | with_reducible refine s_noN ?_
  | with_reducible refine s_abs ?_
  | with_reducible refine s_min2 ?_
  | with_reducible refine s_max2 ?_
  | with_reducible refine s_int_i ?_
  | ((with_reducible refine s_len_s ?_ ?_); assumption)
  | ((with_reducible refine s_len_l (xs := ?_) ?_ ?_); rotate_left; assumption)
  | ((with_reducible refine s_len_t (xs := ?_) ?_ ?_); rotate_left; assumption)
  | with_reducible refine s_pair upd_same ?_
  | with_reducible refine s_callS ?_
  | with_reducible refine s_sortK ?_
  | with_reducible refine s_lc2 ?_
  | with_reducible refine s_disp ?_
  | with_reducible refine s_pcons ?_
  | with_reducible refine s_pnil ?_
  | ((with_reducible refine s_ix_t (by assumption) (by first | exact atI_0 | exact atI_i (j := 1) rfl rfl | exact atI_i (j := 2) rfl rfl | exact atI_i (j := 3) rfl rfl) ?_))
  | with_reducible refine jtT ?_
  | with_reducible refine jtF ?_
  | with_reducible refine jtNT ?_
  | with_reducible refine jtNF ?_
  | dsimp only)
local macro_rules | `(tactic| walk_at "rd") => `(tactic| repeat (walk_at "rd1"))

theorem ones_one {m : Str} {t : Tb} (o : Ones m t) : ∀ p ∈ t, p.2.length = 1 := fun p hp => by
  obtain ⟨c, _, e⟩ := o p hp
  rw [e]
  rfl
section
variable {P : Program} {w : World} {K : PySem.W.Frag} {mg : Str → Option Value} {base : Heap}
theorem S_law_table : FnScope ["state", "letters", "size", "images", "gaps", "table", "view", "told"] ["state", "letters", "size", "images", "gaps"] (d_law_table).scope := ⟨rfl, rfl, rfl, by decide +kernel, rfl, by decide +kernel, by decide +kernel⟩
def sp_table (K : PySem.W.Frag) : Sp := fun vs H Q E => ∃ (D : Hp) (st : Addr) (l im : Str) (n : Nat) (gaps : Bool), vs = [.ref st, .str l, .int (n : Nat), .str im, .bl gaps] ∧ l.length ≤ 4 ∧ 1 ≤ im.length ∧ im.length ≤ 4 ∧ n ≤ 7 ∧ Same D H ∧ Stt K D H st ∧
  ∀ D' H' p kvs t, Gr (· = st) D H D' H' → Stt K D' H' st → H p = none → D' p = none → H' p = some (.dK kvs) → KvR IsS kvs t → Ones im t → (∀ q ∈ t, q.1 ∈ viewsM l n) → t.length ≤ 114688 → Q (.ref p) H'
theorem w_law_table (T : Txt P w K mg) : Has P w K mg base 4 "_law_table" (sp_table K) := by
  have S := S_law_table
  have G_law_next := w_law_next (base := base) T
  have G_law_views := w_law_views (base := base) T
  refine has_of (k := 3) T.d_law_table T.gd_law_table S (fun _ _ _ _ _ _ us hl => match us, hl with | [_, _, _, _, _], _ => rfl) (fun vs H Q E h => ?_) (fun f cdv A outer s H vs Q E hr h => ?_)
  · obtain ⟨D, st, l, im, n, gaps, rfl, _⟩ := h
    rfl
  · obtain ⟨D, st, l, im, n, gaps, rfl, hl, hi1, hi2, hn, sm, X, q⟩ := h
    have hiz := le1000 (Nat.le_trans hi2 (by decide) : im.length ≤ 1000)
    refine ⟨_, (pss_cons (ps_set (i := 5) S.nd rfl (Or.inl rfl) pe_dnewK)
    (pss_cons (ps_for (passes_of rfl) rfl (piK_list K (pe_has G_law_views (hr.mono (by decide)) (L2N.takes_of rfl rfl rfl rfl) rfl (pa_cons (pv 1) (pa_cons (pv 2) pa_nil)))) (pg_name (i := 6) S.nd rfl (Or.inl rfl))
      (pss_cons (ps_set (i := 7) S.nd rfl (Or.inl rfl) (pe_has G_law_next (hr.mono (by decide)) (L2N.takes_of rfl rfl rfl rfl) rfl (pa_cons (pv 0) (pa_cons (pe_op o_mul pe_int (pe_callB (bK_len K) (by rfl) T.b_len (by decide +kernel) (pa_cons (pv 3) pa_nil))) pa_nil))))
    (pss_one (ps_if (PW.pt (pw_or (pt_not (pt_val (pv 4))) (pw_or1 (pt_cmpR c_gt (pe_op o_mod (pe_callTy b_int (by rfl) T.b_int (by decide +kernel) (pa_cons (pv 7) pa_nil)) pe_int) pe_int (nomark _)))))
      (pss_one (ps_dput (hu_of hr) (pv 5) (pv 6) (pe_ix (ixK_seq K) (pv 3) (pe_op o_fdiv (pv 7) pe_int) (fun _ _ => rfl)) rfl))
      pss_nil))))
    (pss_one (ps_ret (pv 5))))), ?_⟩
    walk_at "rd"
    intro td ntd
    have ntst : td ≠ st := fun e => X.is (e ▸ ntd)
    have g1 := (Gr.refl (m := (· = st)) sm).lay (o := .dK []) ntd
    have hDt : D td = none := (Gr.refl (m := No) sm).free ntd
    walk_at "rd"
    refine ⟨D, l, n, rfl, hl, hn, g1.sub, fun H2 p gv np hDp hp => ?_⟩
    have g2 := g1.trans gv.no
    have bv := views_bd hl hn
    have nps : p ≠ st := fun e => (X.put (o := .dK []) ntst).is (e ▸ np)
    have npt : td ≠ p := fun e => by rw [← e, upd_same] at np; cases np
    walk_at "rd"
    refine ⟨p, rfl, ⟨_, sql hp⟩, lp_it walk_list (fun i σ H' => ∃ D' kvs t o6 o7, Gr (· = st) D H D' H' ∧ Stt K D' H' st ∧ D' td = none ∧ H' p = some (.lst ((viewsM l n).map V.str)) ∧ H' td = some (.dK kvs) ∧ KvR IsS kvs t ∧ Ones im t ∧ (∀ q ∈ t, q.1 ∈ viewsM l n) ∧ t.length ≤ i ∧ σ = [some (.ref st), some (.str l), some (.int (n : Nat)), some (.str im), some (.bl gaps), some (.ref td), o6, o7]) ⟨D, [], [], none, none, g2, (X.put ntst).up gv.no, hDt, hp, gv.same _ _ (fun z => z) upd_same, .nil, (fun _ z => nomatch z), (fun _ z => nomatch z), Nat.le_refl _, rfl⟩ (fun i σ H' _ ⟨D', _, _, _, _, g, _, _, hp, _⟩ => sql hp) ?_ ?_⟩
    · rintro i x σ H1 H3 hi ⟨D1, kvs, t, o6, o7, g, X1, hDt1, hp1, htd, hkv, ho, hk, htl, rfl⟩ ⟨rfl, ex⟩
      rw [List.length_map] at hi
      rw [List.getElem?_map] at ex
      obtain ⟨v, hv, rfl⟩ := Option.map_eq_some_iff.mp ex
      have hvm := List.mem_of_getElem? hv
      walk_at "rd"
      refine s_mul (.inl (by decide)) ?_
      walk_at "rd"
      refine ⟨D1, st, _, rfl, by omega, by omega, g.sub, X1, fun D3 H4 r g4 X4 r0 r1 => ?_⟩
      have gA := g.trans g4
      have htd4 := g4.same td _ ntst htd
      have hp4 := g4.same p _ nps hp1
      have hDt3 := g4.stay hDt1 htd
      obtain ⟨c, hc⟩ : ∃ c, im.cps.toList[(r / 8).toNat]? = some c := ⟨_, List.getElem?_eq_getElem (by rw [len_list]; omega)⟩
      have hkl := hkv.len
      have fin : ∃ D' kvs2 t o6 o7, Gr (· = st) D H D' (upd H4 td (.dK (putK kvs (Sum.inr v) (.str ⟨#[c]⟩)))) ∧ Stt K D' (upd H4 td (.dK (putK kvs (Sum.inr v) (.str ⟨#[c]⟩)))) st ∧ D' td = none ∧ (upd H4 td (.dK (putK kvs (Sum.inr v) (.str ⟨#[c]⟩)))) p = some (.lst ((viewsM l n).map V.str)) ∧ (upd H4 td (.dK (putK kvs (Sum.inr v) (.str ⟨#[c]⟩)))) td = some (.dK kvs2) ∧ KvR IsS kvs2 t ∧ Ones im t ∧ (∀ q ∈ t, q.1 ∈ viewsM l n) ∧ t.length ≤ i + 1 ∧ ([some (.ref st), some (.str l), some (.int (n : Nat)), some (.str im), some (.bl gaps), some (.ref td), some (.str v), some (.int r)] : L2.St) = [some (.ref st), some (.str l), some (.int (n : Nat)), some (.str im), some (.bl gaps), some (.ref td), o6, o7] := by
        refine ⟨D3, _, _, _, _, gA.put hDt3 (.inl ntd), X4.put ntst, hDt3, (upd_ne (Ne.symm npt)).trans hp4, upd_same, KvR.put (R := IsS) rfl hkv, ho.put (List.mem_of_getElem? hc), ?_, Nat.le_trans (putS_len _ _ _) (by omega), rfl⟩
        intro q hq
        have : q.1 ∈ (putS t v ⟨#[c]⟩).map (·.1) := List.mem_map.mpr ⟨q, hq, rfl⟩
        rcases putS_mem.mp this with e | e
        · rw [e]
          exact hvm
        · obtain ⟨q2, hq2, e2⟩ := List.mem_map.mp e
          rw [← e2]
          exact hk q2 hq2
      cases gaps
      · walk_at "rd"
        refine s_div ⟨by decide, by decide⟩ ?_
        refine s_ix_s hiz (atI_i (j := (r / 8).toNat) (by omega) hc) ?_
        walk_at "rd"
        refine ⟨td, _, rfl, dputS htd4 (ltBig (by omega)), fin⟩
      · walk_at "rd"
        refine s_mod (by decide) ?_
        walk_at "rd"
        refine jtD (fun _ => ?_) (fun _ => ?_)
        · walk_at "rd"
          refine s_div ⟨by decide, by decide⟩ ?_
          refine s_ix_s hiz (atI_i (j := (r / 8).toNat) (by omega) hc) ?_
          walk_at "rd"
          refine ⟨td, _, rfl, dputS htd4 (ltBig (by omega)), fin⟩
        · walk_at "rd"
          exact ⟨D3, _, _, _, _, gA, X4, hDt3, hp4, htd4, hkv, ho, hk, by omega, rfl⟩
    · rintro σ H1 ⟨D1, kvs, t, o6, o7, g, X1, hDt1, hp1, htd, hkv, ho, hk, htl, rfl⟩
      rw [List.length_map] at htl
      walk_at "rd"
      exact q D1 H1 td kvs t g X1 ntd hDt1 htd hkv ho hk (by omega)
theorem S_law_sizes : FnScope ["state", "many", "most", "total", "one"] ["state", "many"] (d_law_sizes).scope := ⟨rfl, rfl, rfl, by decide +kernel, rfl, by decide +kernel, by decide +kernel⟩
def sp_sizes (K : PySem.W.Frag) : Sp := fun vs H Q E => ∃ (D : Hp) (st : Addr) (n : Nat), vs = [.ref st, .int (n : Nat)] ∧ 1 ≤ n ∧ n ≤ 4 ∧ Same D H ∧ Stt K D H st ∧
  ∀ (D' H' : Hp) (p : Addr) (a b : Nat), Gr (· = st) D H D' H' → Stt K D' H' st → D' p = some (.tup [.int (a : Nat), .int (b : Nat)]) → 1 ≤ a → 1 ≤ b → a + b ≤ 8 → Q (.ref p) H'
theorem w_law_sizes (T : Txt P w K mg) : Has P w K mg base 4 "_law_sizes" (sp_sizes K) := by
  have S := S_law_sizes
  have G_law_next := w_law_next (base := base) T
  refine has_of (k := 3) T.d_law_sizes T.gd_law_sizes S (fun _ _ _ _ _ _ us hl => match us, hl with | [_, _], _ => rfl) (fun vs H Q E h => ?_) (fun f cdv A outer s H vs Q E hr h => ?_)
  · obtain ⟨D, st, n, rfl, _⟩ := h
    rfl
  · obtain ⟨D, st, n, rfl, hn1, hn4, sm, X, q⟩ := h
    refine ⟨_, (pss_cons (ps_set (i := 2) S.nd rfl (Or.inl rfl) (pe_ix (ixK_seq K) (pe_lst (pa_cons pe_int (pa_cons pe_int (pa_cons pe_int (pa_cons pe_int pa_nil))))) (pe_op o_sub (pv 1) pe_int) (fun _ _ => rfl)))
    (pss_cons (ps_if (pt_cmpR (cK_eq K hr.units) (pe_has G_law_next (hr.mono (by decide)) (L2N.takes_of rfl rfl rfl rfl) rfl (pa_cons (pv 0) (pa_cons pe_int pa_nil))) pe_int (nomark _))
      (pss_one (ps_set (i := 2) S.nd rfl (Or.inl rfl) (pe_ix (ixK_seq K) (pe_lst (pa_cons pe_int (pa_cons pe_int (pa_cons pe_int (pa_cons pe_int pa_nil))))) (pe_op o_sub (pv 1) pe_int) (fun _ _ => rfl))))
      pss_nil)
    (pss_cons (ps_set (i := 3) S.nd rfl (Or.inl rfl) (pe_op (oK_add K) pe_int (pe_has G_law_next (hr.mono (by decide)) (L2N.takes_of rfl rfl rfl rfl) rfl (pa_cons (pv 0) (pa_cons (pv 2) pa_nil)))))
    (pss_cons (ps_set (i := 4) S.nd rfl (Or.inl rfl) (pe_op (oK_add K) pe_int (pe_has G_law_next (hr.mono (by decide)) (L2N.takes_of rfl rfl rfl rfl) rfl (pa_cons (pv 0) (pa_cons (pv 3) pa_nil)))))
    (pss_one (ps_ret (pe_tup (pa_cons (pv 4) (pa_cons (pe_op o_sub (pe_op (oK_add K) (pv 3) pe_int) (pv 4)) pa_nil))))))))), ?_⟩
    walk_at "rd"
    refine ⟨le1000 (by simp), fun p np => ?_⟩
    have nps : p ≠ st := fun e => X.is (e ▸ np)
    have g2 := (Gr.refl (m := (· = st)) sm).lay (o := .lst [.int 7, .int 7, .int 4, .int 3]) np
    walk_at "rd"
    obtain ⟨mo, e1, m1, m2⟩ : ∃ mo : Int, atI [V.int 7, .int 7, .int 4, .int 3] ((n : Int) - 1) = some (.int mo) ∧ 1 ≤ mo ∧ mo ≤ 7 := by
      have : n = 1 ∨ n = 2 ∨ n = 3 ∨ n = 4 := by omega
      rcases this with rfl | rfl | rfl | rfl <;> exact ⟨_, rfl, by decide, by decide⟩
    refine s_ix_l (sql upd_same) e1 ?_
    with_reducible refine s_gname ?_
    refine s_cut (fun σ' H' => ∃ (D' : Hp) (mo' : Int), Gr (· = st) D H D' H' ∧ Stt K D' H' st ∧ 1 ≤ mo' ∧ mo' ≤ 7 ∧ σ' = [some (.ref st), some (.int (n : Nat)), some (.int mo'), none, none]) ?_ (fun N rest => ?_)
    · rintro σ' H' ⟨D1, mo', g, X1, h1, h7, rfl⟩
      walk_at "rd"
      refine ⟨D1, st, _, rfl, by omega, by omega, g.sub, X1, fun D3 H3 r3 g3 X3 a0 a1 => ?_⟩
      walk_at "rd"
      refine ⟨D3, st, _, rfl, by omega, by omega, g3.sub, X3, fun D4 H4 r4 g4 X4 b0 b1 => ?_⟩
      walk_at "rd"
      refine ⟨le1000 (by simp), fun p2 np2 => ?_⟩
      have np2s : p2 ≠ st := fun e => X4.is (e ▸ np2)
      have g5 := ((g.trans g3).trans g4).ice (o := .tup [.int (1 + r4), .int (1 + r3 + 1 - (1 + r4))]) np2
      refine q _ _ p2 (1 + r4).toNat (1 + r3 + 1 - (1 + r4)).toNat g5 ((X4.put np2s).frz np2s (((g.trans g3).trans g4).free np2)) ?_ (by omega) (by omega) (by omega)
      rw [upd_same, Int.toNat_of_nonneg (by omega), Int.toNat_of_nonneg (by omega)]
    · walk_at "rd"
      refine ⟨D, st, _, rfl, by decide, by decide, g2.sub, X.put nps, fun D3 H3 r g3 X3 r0 r1 => ?_⟩
      walk_at "rd"
      refine jtD (fun _ => ?_) (fun _ => ?_)
      · walk_at "rd"
        refine ⟨le1000 (by simp), fun p2 np2 => ?_⟩
        have np2s : p2 ≠ st := fun e => X3.is (e ▸ np2)
        walk_at "rd"
        obtain ⟨mo, e1, m1, m2⟩ : ∃ mo : Int, atI [V.int 7, .int 7, .int 7, .int 6] ((n : Int) - 1) = some (.int mo) ∧ 1 ≤ mo ∧ mo ≤ 7 := by
          have : n = 1 ∨ n = 2 ∨ n = 3 ∨ n = 4 := by omega
          rcases this with rfl | rfl | rfl | rfl <;> exact ⟨_, rfl, by decide, by decide⟩
        refine s_ix_l (sql upd_same) e1 ?_
        walk_at "rd"
        exact rest _ _ ⟨D3, mo, (g2.trans g3).lay np2, X3.put np2s, m1, m2, rfl⟩
      · walk_at "rd"
        exact rest _ _ ⟨D3, mo, g2.trans g3, X3, m1, m2, rfl⟩
theorem S_law_image : FnScope ["table", "size", "word", "image", "at", "view"] ["table", "size", "word"] (d_law_image).scope := ⟨rfl, rfl, rfl, by decide +kernel, rfl, by decide +kernel, by decide +kernel⟩
def sp_image (K : PySem.W.Frag) : Sp := fun vs H Q E => ∃ (a : Addr) (kvs : List (Key × V)) (t : Tb) (z : Str) (n : Nat), vs = [.ref a, .int (n : Nat), .str z] ∧ z.length ≤ 1000 ∧ H a = some (.dK kvs) ∧ KvR IsS kvs t ∧ (∀ p ∈ t, p.2.length ≤ 1000) ∧ Q (match imgM t z (n : Nat) z.length 0 "" with
    | none => .non
    | some y => .str y) H
theorem w_law_image (T : Txt P w K mg) : Has P w K mg base 4 "_law_image" (sp_image K) := by
  have S := S_law_image
  refine has_of (k := 3) T.d_law_image T.gd_law_image S (fun _ _ _ _ _ _ us hl => match us, hl with | [_, _, _], _ => rfl) (fun vs H Q E h => ?_) (fun f cdv A outer s H vs Q E hr h => ?_)
  · obtain ⟨a, kvs, t, z, n, rfl, _⟩ := h
    rfl
  · obtain ⟨a, kvs, t, z, n, rfl, hz, hda, hkv, hty, q⟩ := h
    have hzl := le1000 hz
    refine ⟨_, (pss_cons (ps_set (i := 3) S.nd rfl (Or.inl rfl) pe_str)
    (pss_cons (ps_for (passes_of rfl) rfl (pi_range1 (by rfl) T.b_range (pa_cons (pe_callB (bK_len K) (by rfl) T.b_len (by decide +kernel) (pa_cons (pv 2) pa_nil)) pa_nil)) (pg_name (i := 4) S.nd rfl (Or.inl rfl))
      (pss_cons (ps_set (i := 5) S.nd rfl (Or.inl rfl) (pe_slice (slK_any K) (pv 2) (po_some (pe_callB (b_max rfl) (by rfl) T.b_max (by decide +kernel) (pa_cons pe_int (pa_cons (pe_op (oK_add K) (pe_op o_sub (pv 4) (pv 1)) pe_int) pa_nil)))) (po_some (pe_op (oK_add K) (pv 4) pe_int))))
    (pss_cons (ps_if (pt_cmp (pc_dnotin (hu_of hr) (pv 5) (pv 0)))
      (pss_one (ps_ret pe_non))
      pss_nil)
    (pss_one (ps_set (i := 3) S.nd rfl (Or.inl rfl) (pe_op (oK_add K) (pv 3) (pe_dget (hu_of hr) (pv 0) (pv 5) (fun _ _ => rfl))))))))
    (pss_one (ps_ret (pv 3))))), ?_⟩
    walk_at "rd"
    refine ⟨_, rfl, by omega, by omega, lp_it walk_r0 (fun i σ H' => H' = H ∧ ∃ im o3 o4, σ = [some (.ref a), some (.int (n : Nat)), some (.str z), some (.str im), o3, o4] ∧ im.length ≤ 1000 * i ∧ imgM t z (n : Nat) (z.length - i) i im = imgM t z (n : Nat) z.length 0 "") ⟨rfl, "", none, none, rfl, by decide, rfl⟩ (fun _ _ _ _ _ => trivial) ?_ ?_⟩
    · rintro i x σ H2 H3 hi ⟨rfl, im, o3, o4, rfl, him, en⟩ ⟨rfl, rfl⟩
      have hi1 : i < z.length := by omega
      rw [show z.length - i = (z.length - (i + 1)) + 1 by omega, imgM_succ] at en
      walk_at "rd"
      refine s_sl_s hzl ?_
      walk_at "rd"
      rcases dgetS hda hkv (viewI z (i : Nat) (n : Nat)) with ⟨hd, hg⟩ | ⟨v, y, hd, hg, rfl⟩
      · rw [hg] at en
        refine ⟨a, _, rfl, hd, ?_⟩
        walk_at "rd"
        rw [← en] at q
        exact q
      · rw [hg] at en
        refine ⟨a, _, rfl, hd, ?_⟩
        walk_at "rd"
        refine jtNT ?_
        walk_at "rd"
        refine ⟨a, _, rfl, hd, ?_⟩
        have hyl : y.length ≤ 1000 := hty _ (getS_mem hg)
        refine s_add_s (leBig (by omega)) ?_
        walk_at "rd"
        refine ⟨rfl, _, _, _, rfl, ?_, en⟩
        rw [app_len]
        omega
    · rintro σ H2 ⟨rfl, im, o3, o4, rfl, him, en⟩
      rw [show ((z.length : Int)).toNat = z.length from Int.toNat_natCast _, Nat.sub_self] at en
      walk_at "rd"
      rw [← en] at q
      exact q
theorem S_law_composed : FnScope ["letters", "sizes", "one", "two", "table", "view", "inner", "at"] ["letters", "sizes", "one", "two"] (d_law_composed).scope := ⟨rfl, rfl, rfl, by decide +kernel, rfl, by decide +kernel, by decide +kernel⟩
def sp_composed (K : PySem.W.Frag) : Sp := fun vs H Q E => ∃ (D : Hp) (l : Str) (sa da db : Addr) (s1 s2 : Nat) (m : Str) (ka kb : List (Key × V)) (t1 t2 : Tb), vs = [.str l, .ref sa, .ref da, .ref db] ∧ Same D H ∧ SqT K D sa [.int (s1 : Nat), .int (s2 : Nat)] ∧ 1 ≤ s1 ∧ 1 ≤ s2 ∧ s1 + s2 ≤ 8 ∧ l.length ≤ 4 ∧ H da = some (.dK ka) ∧ H db = some (.dK kb) ∧ KvR IsS ka t1 ∧ KvR IsS kb t2 ∧ Ones m t1 ∧
  ∀ H' p kvs, Gr No D H D H' → H p = none → D p = none → H' p = some (.dK kvs) → KvR IsS kvs (compT "?" l s1 s2 t1 t2) → Q (.ref p) H'
theorem w_law_composed (T : Txt P w K mg) : Has P w K mg base 4 "_law_composed" (sp_composed K) := by
  have S := S_law_composed
  have G_law_views := w_law_views (base := base) T
  refine has_of (k := 3) T.d_law_composed T.gd_law_composed S (fun _ _ _ _ _ _ us hl => match us, hl with | [_, _, _, _], _ => rfl) (fun vs H Q E h => ?_) (fun f cdv A outer s H vs Q E hr h => ?_)
  · obtain ⟨D, l, sa, da, db, s1, s2, m, ka, kb, t1, t2, rfl, _⟩ := h
    rfl
  · obtain ⟨D, l, sa, da, db, s1, s2, m, ka, kb, t1, t2, rfl, sm, hsa, h1, h2, h8, hl4, hda, hdb, hkv, hkv2, o1, q⟩ := h
    refine ⟨_, (pss_cons (ps_set (i := 4) S.nd rfl (Or.inl rfl) pe_dnewK)
    (pss_cons (ps_for (passes_of rfl) rfl (piK_list K (pe_has G_law_views (hr.mono (by decide)) (L2N.takes_of rfl rfl rfl rfl) rfl (pa_cons (pv 0) (pa_cons (pe_op o_sub (pe_op (oK_add K) (pe_ix (ixK_seq K) (pv 1) pe_int (fun _ _ => rfl)) (pe_ix (ixK_seq K) (pv 1) pe_int (fun _ _ => rfl))) pe_int) pa_nil)))) (pg_name (i := 5) S.nd rfl (Or.inl rfl))
      (pss_cons (ps_set (i := 6) S.nd rfl (Or.inl rfl) pe_str)
    (pss_cons (ps_for (passes_of rfl) rfl (pi_range2 (by rfl) T.b_range (pa_cons (pe_callB (b_max rfl) (by rfl) T.b_max (by decide +kernel) (pa_cons pe_int (pa_cons (pe_op o_sub (pe_callB (bK_len K) (by rfl) T.b_len (by decide +kernel) (pa_cons (pv 5) pa_nil)) (pe_ix (ixK_seq K) (pv 1) pe_int (fun _ _ => rfl))) pa_nil))) (pa_cons (pe_callB (bK_len K) (by rfl) T.b_len (by decide +kernel) (pa_cons (pv 5) pa_nil)) pa_nil))) (pg_name (i := 7) S.nd rfl (Or.inl rfl))
      (pss_one (ps_set (i := 6) S.nd rfl (Or.inl rfl) (pe_op (oK_add K) (pv 6) (pe_dget2 (hu_of hr) (pv 2) (pe_slice (slK_any K) (pv 5) (po_some (pe_callB (b_max rfl) (by rfl) T.b_max (by decide +kernel) (pa_cons pe_int (pa_cons (pe_op (oK_add K) (pe_op o_sub (pv 7) (pe_ix (ixK_seq K) (pv 1) pe_int (fun _ _ => rfl))) pe_int) pa_nil)))) (po_some (pe_op (oK_add K) (pv 7) pe_int))) pe_str ⟨rfl, rfl, rfl, rfl⟩)))))
    (pss_one (ps_if (pt_cmp (pc_din (hu_of hr) (pv 6) (pv 3)))
      (pss_one (ps_dput (hu_of hr) (pv 4) (pv 5) (pe_dget (hu_of hr) (pv 3) (pv 6) (fun _ _ => rfl)) rfl))
      pss_nil)))))
    (pss_one (ps_ret (pv 4))))), ?_⟩
    walk_at "rd"
    intro td ntd
    have g1 := (Gr.refl (m := No) sm).lay (o := .dK []) ntd
    have hDtd : D td = none := (Gr.refl (m := No) sm).free ntd
    walk_at "rd"
    refine s_ix_t (sqt_up g1 hsa) atI_0 ?_
    walk_at "rd"
    refine s_ix_t (sqt_up g1 hsa) (atI_i (j := 1) rfl rfl) ?_
    walk_at "rd"
    have es : ((s1 : Nat) : Int) + ((s2 : Nat) : Int) - 1 = ((s1 + s2 - 1 : Nat) : Int) := by omega
    rw [es]
    refine ⟨D, l, _, rfl, hl4, by omega, g1.sub, fun H2 p gv np hDp hp => ?_⟩
    have g2 := g1.trans gv
    have bv := views_bd hl4 (n := s1 + s2 - 1) (by omega)
    have htd2 : H2 td = some (.dK []) := gv.same _ _ (fun z => z) upd_same
    have npt : p ≠ td := fun e => by rw [e, upd_same] at np; cases np
    walk_at "rd"
    refine ⟨p, rfl, ⟨_, sql hp⟩, lp_it walk_list (fun j σ H' => ∃ kvs' o4 o5 o6, Gr No D H D H' ∧ H' p = some (.lst ((viewsM l (s1 + s2 - 1)).map V.str)) ∧ H' td = some (.dK kvs') ∧ KvR IsS kvs' (((viewsM l (s1 + s2 - 1)).take j).foldl (cmpF "?" s1 s2 t1 t2) []) ∧ kvs'.length ≤ j ∧ σ = [some (.str l), some (.ref sa), some (.ref da), some (.ref db), some (.ref td), o4, o5, o6]) ⟨[], none, none, none, g2, hp, htd2, .nil, Nat.zero_le _, rfl⟩ (fun j σ H' _ ⟨_, _, _, _, _, h, _⟩ => sql h) ?_ ?_⟩
    · rintro j x σ H4 H5 hj ⟨kvs', o4, o5, o6, g, hp, htd, hkv', hkl, rfl⟩ ⟨rfl, ex⟩
      rw [List.getElem?_map] at ex
      obtain ⟨v, hv, rfl⟩ := Option.map_eq_some_iff.mp ex
      have hvm := views_mem.mp (List.mem_of_getElem? hv)
      have hvz := le1000 (Nat.le_trans hvm.2.1 (by omega) : v.length ≤ 1000)
      have hjl := (List.getElem?_eq_some_iff.mp hv).1
      have hdaH := g.same _ _ (fun z => z) hda
      have hdbH := g.same _ _ (fun z => z) hdb
      have hsaH := sqt_up g hsa
      walk_at "rd"
      have elo : (if (v.length : Int) - (s2 : Int) > 0 then (v.length : Int) - (s2 : Int) else 0) = ((v.length - s2 : Nat) : Int) := by split <;> omega
      rw [elo]
      refine ⟨_, _, rfl, ⟨by omega, by omega, by omega, by omega⟩, ?_⟩
      rw [show ((v.length : Int) - ((v.length - s2 : Nat) : Int)).toNat = v.length - (v.length - s2) by omega]
      refine lp_it walk_range (fun k σ H' => H' = H5 ∧ ∃ acc o6, acc.length ≤ k ∧ innM "?" t1 s1 v (v.length - (v.length - s2) - k) (v.length - s2 + k) acc = inn "?" t1 s1 s2 v ∧ σ = [some (.str l), some (.ref sa), some (.ref da), some (.ref db), some (.ref td), some (.str v), some (.str acc), o6]) ⟨rfl, "", _, Nat.zero_le _, rfl, rfl⟩ (fun _ _ _ _ _ => trivial) ?_ ?_
      · rintro k x σ H6 H7 hk ⟨rfl, acc, o6, hal, hacc, rfl⟩ ⟨rfl, ex⟩
        dsimp only at ex
        subst ex
        rw [show v.length - (v.length - s2) - k = (v.length - (v.length - s2) - (k + 1)) + 1 by omega, innM_succ] at hacc
        have ej : ((v.length - s2 : Nat) : Int) + (k : Int) = ((v.length - s2 + k : Nat) : Int) := by omega
        rw [ej]
        walk_at "rd"
        refine ⟨da, rfl, isDS hdaH, ?_⟩
        walk_at "rd"
        refine s_sl_s hvz ?_
        walk_at "rd"
        have fin : ∀ u : Str, u.length = 1 → (getS t1 (viewI v ((v.length - s2 + k : Nat) : Int) (s1 : Nat))).getD "?" = u → ∀ o, (H7 = H7 ∧ ∃ acc' o6, acc'.length ≤ k + 1 ∧ innM "?" t1 s1 v (v.length - (v.length - s2) - (k + 1)) (v.length - s2 + (k + 1)) acc' = inn "?" t1 s1 s2 v ∧ ([some (.str l), some (.ref sa), some (.ref da), some (.ref db), some (.ref td), some (.str v), some (.str (acc ++ u)), o] : L2.St) = [some (.str l), some (.ref sa), some (.ref da), some (.ref db), some (.ref td), some (.str v), some (.str acc'), o6]) := by
          intro u hu e o
          rw [e] at hacc
          exact ⟨rfl, _, _, by rw [app_len]; omega, hacc, rfl⟩
        rcases dgetS hdaH hkv (viewI v ((v.length - s2 + k : Nat) : Int) (s1 : Nat)) with ⟨hd, hg⟩ | ⟨u, y, hd, hg, rfl⟩
        · refine ⟨none, hd, ?_⟩
          have e1 : ("?" : Str).length = 1 := rfl
          refine s_add_s (by rw [e1]; exact le1000 (by omega)) ?_
          walk_at "rd"
          exact fin "?" rfl (by rw [hg]; rfl) _
        · refine ⟨some (.str y), hd, ?_⟩
          obtain ⟨c, _, ey⟩ := ones_get o1 hg
          have e1 : y.length = 1 := by rw [ey]; rfl
          refine s_add_s (by rw [e1]; exact le1000 (by omega)) ?_
          walk_at "rd"
          exact fin y e1 (by rw [hg]; rfl) _
      · rintro σ H6 ⟨rfl, acc, o6, hal, hacc, rfl⟩
        rw [Nat.sub_self] at hacc
        have hacc : acc = inn "?" t1 s1 s2 v := hacc
        subst hacc
        have ft : ((viewsM l (s1 + s2 - 1)).take (j + 1)).foldl (cmpF "?" s1 s2 t1 t2) [] = cmpF "?" s1 s2 t1 t2 (((viewsM l (s1 + s2 - 1)).take j).foldl (cmpF "?" s1 s2 t1 t2) []) v := by
          rw [List.take_add_one, hv, List.foldl_append]
          rfl
        walk_at "rd"
        rcases dgetS hdbH hkv2 (inn "?" t1 s1 s2 v) with ⟨hd, hg⟩ | ⟨u, y, hd, hg, rfl⟩
        · refine ⟨db, _, rfl, hd, ?_⟩
          walk_at "rd"
          refine ⟨kvs', _, _, _, g, hp, htd, ?_, by omega, rfl⟩
          rw [ft]
          unfold cmpF
          rw [hg]
          exact hkv'
        · refine ⟨db, _, rfl, hd, ?_⟩
          walk_at "rd"
          refine jtT ?_
          walk_at "rd"
          refine ⟨db, _, rfl, hd, ?_⟩
          walk_at "rd"
          refine ⟨td, _, rfl, dputS htd (ltBig (by omega)), ?_⟩
          refine ⟨_, _, _, _, g.put hDtd (.inl ntd), (upd_ne npt).trans hp, upd_same, ?_, ?_, rfl⟩
          · rw [ft]
            unfold cmpF
            rw [hg]
            exact KvR.put (R := IsS) rfl hkv'
          · have h1 := (KvR.put (R := IsS) (k := v) (v := .str y) (y := y) rfl hkv').len
            have h2 := putS_len (((viewsM l (s1 + s2 - 1)).take j).foldl (cmpF "?" s1 s2 t1 t2) []) v y
            have h3 := hkv'.len
            omega
    · rintro σ H4 ⟨kvs', o4, o5, o6, g, hp, htd, hkv', hkl, rfl⟩
      rw [List.length_map, List.take_length] at hkv'
      walk_at "rd"
      exact q H4 td kvs' g ntd hDtd htd hkv'
theorem S_law_same_table : FnScope ["actual", "due", "view"] ["actual", "due"] (d_law_same_table).scope := ⟨rfl, rfl, rfl, by decide +kernel, rfl, by decide +kernel, by decide +kernel⟩
def sp_same_table : Sp := fun vs H Q E => ∃ (aa da : Addr) (ka kd : List (Key × V)) (t : Tb), vs = [.ref aa, .ref da] ∧ aa ≠ da ∧ H aa = some (.dK ka) ∧ H da = some (.dK kd) ∧ KvR IsS ka t ∧ KvR IsS kd t ∧ Q (.bl true) H
theorem w_law_same_table (T : Txt P w K mg) : Has P w K mg base 4 "_law_same_table" sp_same_table := by
  have S := S_law_same_table
  refine has_of (k := 3) T.d_law_same_table T.gd_law_same_table S (fun _ _ _ _ _ _ us hl => match us, hl with | [_, _], _ => rfl) (fun vs H Q E h => ?_) (fun f cdv A outer s H vs Q E hr h => ?_)
  · obtain ⟨aa, da, ka, kd, t, rfl, _⟩ := h
    rfl
  · obtain ⟨aa, da, ka, kd, t, rfl, ne, haa, hda, ra, rd, q⟩ := h
    have hl1 := ra.len
    have hl2 := rd.len
    refine ⟨_, (pss_cons (ps_if (PW.pt (pw_or (pt_not (pt_val (pe_callB call_isi (by rfl) T.b_isinstance (by decide +kernel) (pa_cons (pv 0) (pa_cons (pe_gT (T := "dict") (by rfl) T.b_dict (by decide +kernel)) pa_nil))))) (pw_or1 (pt_cmpR (cK_ne K hr.units) (pe_callB call_lenD (by rfl) T.b_len (by decide +kernel) (pa_cons (pv 0) pa_nil)) (pe_callB call_lenD (by rfl) T.b_len (by decide +kernel) (pa_cons (pv 1) pa_nil)) (nomark _)))))
      (pss_one (ps_ret pe_bl))
      pss_nil)
    (pss_cons (ps_lock (ps_for (passes_of rfl) rfl (pi_keys (pv 1)) (pg_name (i := 2) S.nd rfl (Or.inl rfl))
      (pss_one (ps_if (PW.pt (pw_or (pt_cmp (pc_dnotin (hu_of hr) (pv 2) (pv 0))) (pw_or (pt_not (pt_val (pe_callB call_isi (by rfl) T.b_isinstance (by decide +kernel) (pa_cons (pe_dget (hu_of hr) (pv 0) (pv 2) (fun _ _ => rfl)) (pa_cons (pe_gT (T := "str") (by rfl) T.b_str (by decide +kernel)) pa_nil))))) (pw_or1 (pt_cmpR (cK_ne K hr.units) (pe_dget (hu_of hr) (pv 0) (pv 2) (fun _ _ => rfl)) (pe_dget (hu_of hr) (pv 1) (pv 2) (fun _ _ => rfl)) (nomark _))))))
      (pss_one (ps_ret pe_bl))
      pss_nil))))
    (pss_one (ps_ret pe_bl)))), ?_⟩
    walk_at "rd"
    refine ⟨.ref aa, .ty "dict", .type "dict", .type "dict", true, rfl, .ty _, .base (.dK haa), rfl, ?_⟩
    walk_at "rd"
    refine ⟨aa, _, rfl, haa, ?_⟩
    walk_at "rd"
    refine ⟨da, _, rfl, hda, ?_⟩
    walk_at "rd"
    refine jtN (fun e => absurd (by rw [hl1, hl2]) e) (fun _ => ?_)
    walk_at "rd"
    refine ⟨da, .dK kd, hda, trivial, fun od => ?_⟩
    have hF : (upd H da (.frz od (.dK kd))) da = some (.frz od (.dK kd)) := upd_same
    have haF : (upd H da (.frz od (.dK kd))) aa = some (.dK ka) := (upd_ne ne).trans haa
    walk_at "rd"
    refine ⟨.ref da, rfl, da, od, rfl, .inl ⟨kd, hF, lp_it walk_keys (fun i σ H' => H' = upd H da (.frz od (.dK kd)) ∧ ∃ o7, σ = [some (.ref aa), some (.ref da), o7]) ⟨rfl, none, rfl⟩ (fun i σ H' _ ⟨e, _⟩ => by rw [e]; exact hF) ?_ ?_⟩⟩
    · rintro i x σ H1 H2 hi ⟨rfl, o7, rfl⟩ ⟨rfl, k, v, ek, rfl⟩
      obtain ⟨z, y, rfl, hm, rfl⟩ := KvR.nth rd ek
      obtain ⟨y2, hy2⟩ := getS_in hm
      have d1 : DGet (upd H da (.frz od (.dK kd))) aa (.str z) (some (.str y2)) := by
        rcases dgetS haF ra z with ⟨_, h2⟩ | ⟨v, y, h1, h2, rfl⟩
        · rw [h2] at hy2
          cases hy2
        · rw [h2] at hy2
          cases hy2
          exact h1
      have d2 : DGet (upd H da (.frz od (.dK kd))) da (.str z) (some (.str y2)) := by
        rcases rd.get z with ⟨_, h2⟩ | ⟨v, y, h1, h2, rfl⟩
        · rw [h2] at hy2
          cases hy2
        · rw [h2] at hy2
          cases hy2
          exact .inl ⟨kd, Sum.inr z, .inr ⟨od, hF⟩, rfl, h1.symm⟩
      walk_at "rd"
      refine ⟨aa, _, rfl, d1, ?_⟩
      walk_at "rd"
      refine jtNT ?_
      walk_at "rd"
      refine ⟨aa, _, rfl, d1, ?_⟩
      walk_at "rd"
      refine ⟨.str y2, .ty "str", .type "str", .type "str", true, rfl, .ty _, .base (.str _), rfl, ?_⟩
      walk_at "rd"
      refine ⟨aa, _, rfl, d1, ?_⟩
      walk_at "rd"
      refine ⟨da, _, rfl, d2, ?_⟩
      walk_at "rd"
      refine jtN (fun e => absurd rfl e) (fun _ => ?_)
      walk_at "rd"
      exact ⟨rfl, _, rfl⟩
    · rintro σ H1 ⟨rfl, o7, rfl⟩
      refine ⟨hF, ?_⟩
      rw [upd_upd, show upd H da (.dK kd) = H by
        funext b
        by_cases hb : b = da
        · rw [hb, upd_same, hda]
        · rw [upd_ne hb]]
      walk_at "rd"
      exact q
theorem S_law_asked_words : FnScope ["state", "letters", "words", "k"] ["state", "letters"] (d_law_asked_words).scope := ⟨rfl, rfl, rfl, by decide +kernel, rfl, by decide +kernel, by decide +kernel⟩
def sp_asked (K : PySem.W.Frag) : Sp := fun vs H Q E => ∃ (D : Hp) (st : Addr) (l : Str), vs = [.ref st, .str l] ∧ 1 ≤ l.length ∧ l.length ≤ 4 ∧ Same D H ∧ Stt K D H st ∧
  ∀ (D' H' : Hp) (p : Addr) (zs : List Str), Gr (· = st) D H D' H' → Stt K D' H' st → H p = none → H' p = some (.lst (zs.map V.str)) → (∀ z ∈ zs, z.length ≤ 200 ∧ ∀ c ∈ z.cps.toList, c ∈ l.cps.toList) → Q (.ref p) H'
theorem w_law_asked (T : Txt P w K mg) : Has P w K mg base 5 "_law_asked_words" (sp_asked K) := by
  have S := S_law_asked_words
  have G_law_next := w_law_next (base := base) T
  have G_law_word := w_law_word (base := base) T
  have G_law_views := w_law_views (base := base) T
  refine has_of (k := 4) T.d_law_asked_words T.gd_law_asked_words S (fun _ _ _ _ _ _ us hl => match us, hl with | [_, _], _ => rfl) (fun vs H Q E h => ?_) (fun f cdv A outer s H vs Q E hr h => ?_)
  · obtain ⟨D, st, l, rfl, _⟩ := h
    rfl
  · obtain ⟨D, st, l, rfl, hl1, hl4, sm, X, q⟩ := h
    refine ⟨_, (pss_cons (ps_set (i := 2) S.nd rfl (Or.inl rfl) (pe_op (oK_add K) (pe_lst (pa_cons pe_str pa_nil)) (pe_has G_law_views (hr.mono (by decide)) (L2N.takes_of rfl rfl rfl rfl) rfl (pa_cons (pv 1) (pa_cons pe_int pa_nil)))))
    (pss_cons (ps_for (passes_of rfl) rfl (pi_range1 (by rfl) T.b_range (pa_cons pe_int pa_nil)) (pg_name (i := 3) S.nd rfl (Or.inl rfl))
      (pss_one (ps_expr (peK_bm K PySem.F.plainAttrs_list PySem.F.slot_list_append PySem.F.type_list_append mt_append (pv 2) (pa_cons (pe_has G_law_word (hr.mono (by decide)) (L2N.takes_of rfl rfl rfl rfl) rfl (pa_cons (pv 0) (pa_cons (pv 1) (pa_cons (pe_op (oK_add K) pe_int (pe_has G_law_next (hr.mono (by decide)) (L2N.takes_of rfl rfl rfl rfl) rfl (pa_cons (pv 0) (pa_cons pe_int pa_nil)))) pa_nil)))) pa_nil)))))
    (pss_cons (ps_if (pt_cmpR (cK_eq K hr.units) (pe_has G_law_next (hr.mono (by decide)) (L2N.takes_of rfl rfl rfl rfl) rfl (pa_cons (pv 0) (pa_cons pe_int pa_nil))) pe_int (nomark _))
      (pss_one (ps_expr (peK_bm K PySem.F.plainAttrs_list PySem.F.slot_list_append PySem.F.type_list_append mt_append (pv 2) (pa_cons (pe_has G_law_word (hr.mono (by decide)) (L2N.takes_of rfl rfl rfl rfl) rfl (pa_cons (pv 0) (pa_cons (pv 1) (pa_cons (pe_op (oK_add K) pe_int (pe_has G_law_next (hr.mono (by decide)) (L2N.takes_of rfl rfl rfl rfl) rfl (pa_cons (pv 0) (pa_cons pe_int pa_nil)))) pa_nil)))) pa_nil))))
      pss_nil)
    (pss_one (ps_ret (pv 2)))))), ?_⟩
    walk_at "rd"
    refine ⟨le1000 (by simp), fun p0 np0 => ?_⟩
    have np0s : p0 ≠ st := fun e => X.is (e ▸ np0)
    have g1 := (Gr.refl (m := (· = st)) sm).lay (o := .lst [.str ""]) np0
    walk_at "rd"
    refine ⟨D, l, 2, rfl, hl4, by decide, g1.sub, fun H2 p1 gv np1 hDp1 hp1 => ?_⟩
    have g2 := g1.trans gv.no
    have bv := views_bd hl4 (n := 2) (by decide)
    have hp0 : H2 p0 = some (.lst [.str ""]) := gv.same _ _ (fun z => z) upd_same
    refine s_add_l hp0 hp1 (by rw [List.length_map]; exact leBig (by simp; omega)) fun wa nwa => ?_
    have X2 := (X.put (o := .lst [.str ""]) np0s).up gv.no
    have nws : wa ≠ st := fun e => X2.is (e ▸ nwa)
    have hDw := g2.free nwa
    have g3 := g2.lay (o := .lst ([V.str ""] ++ (viewsM l 2).map V.str)) nwa
    have nw0 : H wa = none := g2.kept _ nwa
    have good0 : ∀ z ∈ ("" : Str) :: viewsM l 2, z.length ≤ 200 ∧ ∀ c ∈ z.cps.toList, c ∈ l.cps.toList := by
      intro z hz
      rcases List.mem_cons.mp hz with e | hz
      · rw [e]
        exact ⟨by decide, fun c hc => nomatch hc⟩
      · have := views_mem.mp hz
        exact ⟨by omega, this.2.2⟩
    walk_at "rd"
    refine ⟨_, rfl, by decide, by decide, lp_it walk_r0 (n := 5) (fun i σ H' => ∃ D' zs o4, Gr (· = st) D H D' H' ∧ Stt K D' H' st ∧ D' wa = none ∧ H' wa = some (.lst (zs.map V.str)) ∧ zs.length ≤ 32769 + i ∧ (∀ z ∈ zs, z.length ≤ 200 ∧ ∀ c ∈ z.cps.toList, c ∈ l.cps.toList) ∧ σ = [some (.ref st), some (.str l), some (.ref wa), o4]) ⟨D, ("" : Str) :: viewsM l 2, none, g3, X2.put nws, hDw, by rw [upd_same]; rfl, by simp; omega, good0, rfl⟩ (fun _ _ _ _ _ => trivial) ?_ ?_⟩
    · rintro i x σ H3 H4 hi ⟨D3, zs, o4, g, X3, hD3, hwa, hzl, hgd, rfl⟩ ⟨rfl, rfl⟩
      walk_at "rd"
      refine ⟨ty_l hwa, ?_⟩
      walk_at "rd"
      refine ⟨D3, st, _, rfl, by decide, by decide, g.sub, X3, fun D5 H5 r g5 X5 r0 r1 => ?_⟩
      walk_at "rd"
      refine ⟨D5, st, l, (1 + r).toNat, by rw [Int.toNat_of_nonneg (by omega)], hl1, by omega, by omega, g5.sub, X5, fun D6 H6 z g6 X6 hz hzc => ?_⟩
      have hwa6 := g6.same _ _ nws (g5.same _ _ nws hwa)
      have hD6 := g6.stay (g5.stay hD3 hwa) (g5.same _ _ nws hwa)
      walk_at "rd"
      refine s_append hwa6 (by rw [List.length_map]; exact ltBig (by omega)) ?_
      walk_at "rd"
      refine ⟨D6, zs ++ [z], _, ((g.trans g5).trans g6).put hD6 (.inl nw0), X6.put nws, hD6, by rw [upd_same, List.map_append]; rfl, by simp; omega, fun y hy => ?_, rfl⟩
      rcases List.mem_append.mp hy with hy | hy
      · exact hgd y hy
      · rw [List.mem_singleton.mp hy]
        exact ⟨by omega, hzc⟩
    · rintro σ H3 ⟨D3, zs, o4, g, X3, hD3, hwa, hzl, hgd, rfl⟩
      walk_at "rd"
      refine ⟨D3, st, _, rfl, by decide, by decide, g.sub, X3, fun D5 H5 r g5 X5 r0 r1 => ?_⟩
      have hwa5 := g5.same _ _ nws hwa
      walk_at "rd"
      refine jtD (fun _ => ?_) (fun _ => ?_)
      · walk_at "rd"
        refine ⟨ty_l hwa5, ?_⟩
        walk_at "rd"
        refine ⟨D5, st, _, rfl, by decide, by decide, g5.sub, X5, fun D6 H6 r6 g6 X6 r60 r61 => ?_⟩
        walk_at "rd"
        refine ⟨D6, st, l, (100 + r6).toNat, by rw [Int.toNat_of_nonneg (by omega)], hl1, by omega, by omega, g6.sub, X6, fun D7 H7 z g7 X7 hz hzc => ?_⟩
        have hwa7 := g7.same _ _ nws (g6.same _ _ nws hwa5)
        have hD7 := g7.stay (g6.stay (g5.stay hD3 hwa) hwa5) (g6.same _ _ nws hwa5)
        walk_at "rd"
        refine s_append hwa7 (by rw [List.length_map]; exact ltBig (by omega)) ?_
        walk_at "rd"
        refine q D7 _ wa (zs ++ [z]) ((((g.trans g5).trans g6).trans g7).put hD7 (.inl nw0)) (X7.put nws) nw0 (by rw [upd_same, List.map_append]; rfl) fun y hy => ?_
        rcases List.mem_append.mp hy with hy | hy
        · exact hgd y hy
        · rw [List.mem_singleton.mp hy]
          exact ⟨by omega, hzc⟩
      · walk_at "rd"
        exact q D5 H5 wa zs (g.trans g5) X5 nw0 hwa5 hgd
end
end H89

namespace H89
open PySem PySem.Spec L2 He Y Hk89
local macro_rules | `(tactic| walk_at "rd1") => `(tactic| first
  | with_reducible refine s_seq ?_
  | with_reducible refine s_asg ?_
  | with_reducible refine s_gname ?_
  | ((with_reducible refine s_var (v := ?_) ?_ ?_); rotate_left; exact rfl)
  | with_reducible refine s_c ?_
  | with_reducible refine s_op ?_
  | with_reducible refine s_un ?_
  | with_reducible refine s_nil ?_
  | with_reducible refine s_cons ?_
  | with_reducible refine s_CB ?_
  | with_reducible refine s_ifS ?_
  | with_reducible refine s_test ?_
  | with_reducible refine s_B ?_
  | with_reducible refine s_xb ?_
  | with_reducible refine s_xi ?_
  | with_reducible refine s_xs ?_
  | with_reducible refine s_or ?_
  | with_reducible refine s_and ?_
  | with_reducible refine s_not ?_
  | with_reducible refine s_orV ?_
  | with_reducible refine s_andV ?_
  | with_reducible refine s_notV ?_
  | with_reducible refine s_ret ?_
  | with_reducible refine s_retN ?_
  | with_reducible refine s_next ?_
  | with_reducible refine s_drop ?_
  | with_reducible refine s_yes ?_
  | with_reducible refine s_for ?_
  | with_reducible refine s_lc ?_
  | with_reducible refine s_iStr ?_
  | with_reducible refine s_iList ?_
  | with_reducible refine s_iTup ?_
  | with_reducible refine s_iR1 ?_
  | with_reducible refine s_iR2 ?_
  | with_reducible refine s_iE ?_
  | with_reducible refine s_iET ?_
  | with_reducible refine s_iES ?_
  | with_reducible refine s_tup ?_
  | with_reducible refine s_lst ?_
  | with_reducible refine s_BM ?_
  | with_reducible refine s_BM0 ?_
  | with_reducible refine s_BMS _ ?_
  | with_reducible refine s_M1 ?_
  | with_reducible refine s_sl ?_
  | with_reducible refine s_noP ?_
  | with_reducible refine s_po ?_
  | with_reducible refine s_call ?_
  | with_reducible refine s_callS ?_
  | with_reducible refine s_make ?_
  | with_reducible refine s_makeS ?_
  | with_reducible refine s_methS ?_
  | with_reducible refine s_callO ?_
  | with_reducible refine s_dnew ?_
  | with_reducible refine s_dget ?_
  | with_reducible refine s_din ?_
  | with_reducible refine s_dnin ?_
  | with_reducible refine s_dput ?_
  | with_reducible refine s_dsetd ?_
  | with_reducible refine s_dget2 ?_
  | with_reducible refine s_fld ?_
  | with_reducible refine s_sFld ?_
  | with_reducible refine s_rz ?_
  | with_reducible refine s_asgS ?_
  | with_reducible refine s_gSub ?_
  | with_reducible refine s_ifE ?_
  | with_reducible refine s_add_i ?_
  | with_reducible refine s_sub ?_
  | with_reducible refine s_neg ?_
  | with_reducible refine s_eq_i ?_
  | with_reducible refine s_eq_s ?_
  | with_reducible refine s_ne_i ?_
  | with_reducible refine s_ne_s ?_
  | with_reducible refine s_lt_i ?_
  | with_reducible refine s_le_i ?_
  | with_reducible refine s_gt_i ?_
  | with_reducible refine s_ge_i ?_
  | with_reducible refine s_lt_s ?_
  | with_reducible refine s_le_s ?_
  | with_reducible refine s_gt_s ?_
  | with_reducible refine s_ge_s ?_
  | with_reducible refine s_in_c ?_
  | with_reducible refine s_ni_c ?_
  | with_reducible refine s_isN ?_
  | with_reducible refine s_noN ?_
  | with_reducible refine s_abs ?_
  | with_reducible refine s_min2 ?_
  | with_reducible refine s_max2 ?_
  | with_reducible refine s_int_i ?_
  | ((with_reducible refine s_len_s ?_ ?_); assumption)
  | ((with_reducible refine s_len_l (xs := ?_) ?_ ?_); rotate_left; assumption)
  | ((with_reducible refine s_len_t (xs := ?_) ?_ ?_); rotate_left; assumption)
  | with_reducible refine s_pair upd_same ?_
  | with_reducible refine s_callS ?_
  | with_reducible refine s_sortK ?_
  | with_reducible refine s_lc2 ?_
  | with_reducible refine s_disp ?_
  | with_reducible refine s_pcons ?_
  | with_reducible refine s_pnil ?_
  | ((with_reducible refine s_ix_t (by assumption) (by first | exact atI_0 | exact atI_i (j := 1) rfl rfl | exact atI_i (j := 2) rfl rfl | exact atI_i (j := 3) rfl rfl) ?_))
  | with_reducible refine jtT ?_
  | with_reducible refine jtF ?_
  | with_reducible refine jtNT ?_
  | with_reducible refine jtNF ?_
  | dsimp only)
local macro_rules | `(tactic| walk_at "rd") => `(tactic| repeat (walk_at "rd1"))

section
variable {P : Program} {w : World} {K : PySem.W.Frag} {mg : Str → Option Value} {base : Heap}
theorem S_law_error : FnScope ["e", "named", "flag"] ["e"] (d_law_error).scope := ⟨rfl, rfl, rfl, by decide +kernel, rfl, by decide +kernel, by decide +kernel⟩
/-- what _law_error tells of the caught error -/
def sp_error (K : PySem.W.Frag) (a : Addr) (cls : Value) (d : Option Addr) : Sp := fun vs H Q E => vs = [.ref a] ∧
  ((cls = .ref (ga K "BadLetters") ∧ DOk H d ∧ ∀ H' q, Same H H' → H' q = some (.tup [.str "letters"]) → Q (.ref q) H') ∨
   (cls = .ref (ga K "BadWord") ∧ ∃ (dd : Addr) (s : Str) (k : Nat), d = some dd ∧ H dd = some (.xd [("place", .int (k : Nat)), ("word", .str s)]) ∧ ∀ H' q, Same H H' → H' q = some (.tup [.str "word", .str s, .int (k : Nat)]) → Q (.ref q) H') ∨
   (cls = .ref (ga K "BadText") ∧ ∃ (dd : Addr) (k : Nat), d = some dd ∧ H dd = some (.xd [("line", .int (k : Nat))]) ∧ ∀ H' q, Same H H' → H' q = some (.tup [.str "text", .int (k : Nat)]) → Q (.ref q) H') ∨
   (cls = .ref (ga K "TooMany") ∧ ∃ (dd : Addr) (k : Int), d = some dd ∧ H dd = some (.xd [("limit", .int k)]) ∧ ∀ H' q, Same H H' → H' q = some (.tup [.str "many", .int k]) → Q (.ref q) H'))
theorem w_law_error (T : Txt P w K mg) (a : Addr) (oe : Obj) (cls : Value) (d : Option Addr) (hz : Zc cls d oe) (hf : ∃ vs, oe.data = .fields vs) : HasQ P w K mg base (a, oe) 3 "_law_error" (sp_error K a cls d) := by
  have S := S_law_error
  have GQ_law_integer := fun p => q_law_integer (base := base) T p
  refine hasQ_of (k := 2) T.d_law_error T.gd_law_error S (fun _ _ _ _ _ _ us hl => match us, hl with | [_], _ => rfl) (fun vs H Q E h => ?_) (fun f cdv A outer s H vs Q E hot hr h => ?_)
  · obtain ⟨rfl, _⟩ := h
    rfl
  · obtain ⟨rfl, h⟩ := h
    refine ⟨_, (pss_cons (ps_set (i := 1) S.nd rfl (Or.inl rfl) (pe_lst (pa_cons (pe_callB (call_isG List.mem_cons_self hz hf) (by rfl) T.b_isinstance (by decide +kernel) (pa_cons (pv 0) (pa_cons (pe_gC rfl T.g_TooMany) pa_nil))) (pa_cons (pe_callB (call_isG List.mem_cons_self hz hf) (by rfl) T.b_isinstance (by decide +kernel) (pa_cons (pv 0) (pa_cons (pe_gC rfl T.g_BadWord) pa_nil))) (pa_cons (pe_callB (call_isG List.mem_cons_self hz hf) (by rfl) T.b_isinstance (by decide +kernel) (pa_cons (pv 0) (pa_cons (pe_gC rfl T.g_BadLetters) pa_nil))) (pa_cons (pe_callB (call_isG List.mem_cons_self hz hf) (by rfl) T.b_isinstance (by decide +kernel) (pa_cons (pv 0) (pa_cons (pe_gC rfl T.g_BadText) pa_nil))) pa_nil))))))
    (pss_cons (ps_if (pt_cmpR (cK_ne K (ruH hr)) (pe_callB (bK_len K) (by rfl) T.b_len (by decide +kernel) (pa_cons (pe_lcH (own := [("flag", 2)]) ⟨_, ⟨hot.1, hot.2⟩, List.mem_cons_self⟩ S.nd (piH_list (pv 1)) (blkOk_by (by rfl)) (fun _ _ _ _ _ => (pg_name (i := 2) S.nd rfl (Or.inl rfl))) (fun _ _ _ _ _ => pts_one (pt_val (pv 2))) (fun _ _ _ _ _ => (pv 2))) pa_nil)) pe_int (nomark _))
      (pss_one (ps_ret (pe_tup (pa_cons pe_str pa_nil))))
      pss_nil)
    (pss_cons (ps_if (PW.pt (pw_and (pt_val (pe_callB (call_isG List.mem_cons_self hz hf) (by rfl) T.b_isinstance (by decide +kernel) (pa_cons (pv 0) (pa_cons (pe_gC rfl T.g_TooMany) pa_nil)))) (pw_and1 (pt_val (pe_hasQ (GQ_law_integer (a, oe)) ⟨hot.1, hot.2⟩ List.mem_cons_self (hr.mono (by decide)) (L2N.takes_of rfl rfl rfl rfl) rfl (pa_cons (pe_xfG List.mem_cons_self hz hf (pv 0)) pa_nil))))))
      (pss_one (ps_ret (pe_tup (pa_cons pe_str (pa_cons (pe_xfG List.mem_cons_self hz hf (pv 0)) pa_nil)))))
      pss_nil)
    (pss_cons (ps_if (PW.pt (pw_and (pt_val (pe_callB (call_isG List.mem_cons_self hz hf) (by rfl) T.b_isinstance (by decide +kernel) (pa_cons (pv 0) (pa_cons (pe_gC rfl T.g_BadWord) pa_nil)))) (pw_and (pt_val (pe_callB call_isi (by rfl) T.b_isinstance (by decide +kernel) (pa_cons (pe_xfG List.mem_cons_self hz hf (pv 0)) (pa_cons (pe_gT (T := "str") (by rfl) T.b_str (by decide +kernel)) pa_nil)))) (pw_and1 (pt_val (pe_hasQ (GQ_law_integer (a, oe)) ⟨hot.1, hot.2⟩ List.mem_cons_self (hr.mono (by decide)) (L2N.takes_of rfl rfl rfl rfl) rfl (pa_cons (pe_xfG List.mem_cons_self hz hf (pv 0)) pa_nil)))))))
      (pss_one (ps_ret (pe_tup (pa_cons pe_str (pa_cons (pe_xfG List.mem_cons_self hz hf (pv 0)) (pa_cons (pe_xfG List.mem_cons_self hz hf (pv 0)) pa_nil))))))
      pss_nil)
    (pss_cons (ps_if (PW.pt (pw_and (pt_val (pe_callB (call_isG List.mem_cons_self hz hf) (by rfl) T.b_isinstance (by decide +kernel) (pa_cons (pv 0) (pa_cons (pe_gC rfl T.g_BadText) pa_nil)))) (pw_and1 (pt_val (pe_hasQ (GQ_law_integer (a, oe)) ⟨hot.1, hot.2⟩ List.mem_cons_self (hr.mono (by decide)) (L2N.takes_of rfl rfl rfl rfl) rfl (pa_cons (pe_xfG List.mem_cons_self hz hf (pv 0)) pa_nil))))))
      (pss_one (ps_ret (pe_tup (pa_cons pe_str (pa_cons (pe_xfG List.mem_cons_self hz hf (pv 0)) pa_nil)))))
      pss_nil)
    (pss_cons (ps_if (pt_val (pe_callB (call_isG List.mem_cons_self hz hf) (by rfl) T.b_isinstance (by decide +kernel) (pa_cons (pv 0) (pa_cons (pe_gC rfl T.g_BadLetters) pa_nil))))
      (pss_one (ps_ret (pe_tup (pa_cons pe_str pa_nil))))
      pss_nil)
    (pss_one (ps_ret (pe_tup (pa_cons pe_str pa_nil)))))))))), ?_⟩
    rcases h with ⟨rfl, hd, q⟩ | ⟨rfl, dd, z, k, rfl, hdd, q⟩ | ⟨rfl, dd, k, rfl, hdd, q⟩ | ⟨rfl, dd, k, rfl, hdd, q⟩
    · skip
      walk_at "rd"
      refine ⟨ga K "BadLetters", _, .ref (ga K "TooMany"), false, rfl, T.e_BadLetters.e, rfl, .own _, T.kit_BadLetters_TooMany, hd, ?_⟩
      walk_at "rd"
      refine ⟨ga K "BadLetters", _, .ref (ga K "BadWord"), false, rfl, T.e_BadLetters.e, rfl, .own _, T.kit_BadLetters_BadWord, hd, ?_⟩
      walk_at "rd"
      refine ⟨ga K "BadLetters", _, .ref (ga K "BadLetters"), true, rfl, T.e_BadLetters.e, rfl, .own _, T.kit_BadLetters_BadLetters, hd, ?_⟩
      walk_at "rd"
      refine ⟨ga K "BadLetters", _, .ref (ga K "BadText"), false, rfl, T.e_BadLetters.e, rfl, .own _, T.kit_BadLetters_BadText, hd, ?_⟩
      walk_at "rd"
      refine ⟨le1000 (by simp), fun p np => ?_⟩
      walk_at "rd"
      refine ⟨p, rfl, ⟨_, sql upd_same⟩, fun c nc => lc_it walk_list (fun j H' => H' = (upd (upd H p (.lst [V.bl false, V.bl false, V.bl true, V.bl false])) c (.lst (if 2 < j then [V.bl true] else [])))) rfl (fun j H' _ e => by rw [e]; exact sql ((upd_ne (ne_of_none upd_same nc)).trans upd_same)) ?_ ?_⟩
      · rintro j x H3 H4 hj rfl ⟨rfl, ex⟩
        have hj4 : j = 0 ∨ j = 1 ∨ j = 2 ∨ j = 3 := by
          have : j < 4 := hj
          omega
        rcases hj4 with rfl | rfl | rfl | rfl <;> cases ex <;> walk_at "rd" <;> refine ⟨rfl, ?_⟩ <;> walk_at "rd"
        all_goals first
        | rfl
        | exact ⟨_, upd_same, ltBig (by decide), upd_upd⟩
      · rintro H3 rfl
        have sH : Same H (upd (upd H p (.lst [V.bl false, V.bl false, V.bl true, V.bl false])) c (.lst [V.bl true])) := (same_new np).trans (same_new nc)
        have hc : (upd (upd H p (.lst [V.bl false, V.bl false, V.bl true, V.bl false])) c (.lst [V.bl true])) c = some (.lst [V.bl true]) := upd_same
        show tNil _ (upd (upd H p (.lst [V.bl false, V.bl false, V.bl true, V.bl false])) c (.lst [V.bl true])) _
        revert sH hc
        generalize (upd (upd H p (.lst [V.bl false, V.bl false, V.bl true, V.bl false])) c (.lst [V.bl true])) = H3
        intro sH hc
        walk_at "rd"
        refine s_len_l (sql hc) ?_
        walk_at "rd"
        refine jtN (fun e => absurd rfl e) (fun _ => ?_)
        walk_at "rd"
        refine ⟨ga K "BadLetters", _, .ref (ga K "TooMany"), false, rfl, T.e_BadLetters.e, rfl, .own _, T.kit_BadLetters_TooMany, hd.up sH, ?_⟩
        walk_at "rd"
        refine ⟨ga K "BadLetters", _, .ref (ga K "BadWord"), false, rfl, T.e_BadLetters.e, rfl, .own _, T.kit_BadLetters_BadWord, hd.up sH, ?_⟩
        walk_at "rd"
        refine ⟨ga K "BadLetters", _, .ref (ga K "BadText"), false, rfl, T.e_BadLetters.e, rfl, .own _, T.kit_BadLetters_BadText, hd.up sH, ?_⟩
        walk_at "rd"
        refine ⟨ga K "BadLetters", _, .ref (ga K "BadLetters"), true, rfl, T.e_BadLetters.e, rfl, .own _, T.kit_BadLetters_BadLetters, hd.up sH, ?_⟩
        walk_at "rd"
        refine ⟨le1000 (by simp), fun c2 nc2 => ?_⟩
        exact q _ c2 (sH.trans (same_new nc2)) upd_same
    · skip
      walk_at "rd"
      refine ⟨ga K "BadWord", _, .ref (ga K "TooMany"), false, rfl, T.e_BadWord.e, rfl, .own _, T.kit_BadWord_TooMany, ⟨_, hdd⟩, ?_⟩
      walk_at "rd"
      refine ⟨ga K "BadWord", _, .ref (ga K "BadWord"), true, rfl, T.e_BadWord.e, rfl, .own _, T.kit_BadWord_BadWord, ⟨_, hdd⟩, ?_⟩
      walk_at "rd"
      refine ⟨ga K "BadWord", _, .ref (ga K "BadLetters"), false, rfl, T.e_BadWord.e, rfl, .own _, T.kit_BadWord_BadLetters, ⟨_, hdd⟩, ?_⟩
      walk_at "rd"
      refine ⟨ga K "BadWord", _, .ref (ga K "BadText"), false, rfl, T.e_BadWord.e, rfl, .own _, T.kit_BadWord_BadText, ⟨_, hdd⟩, ?_⟩
      walk_at "rd"
      refine ⟨le1000 (by simp), fun p np => ?_⟩
      walk_at "rd"
      refine ⟨p, rfl, ⟨_, sql upd_same⟩, fun c nc => lc_it walk_list (fun j H' => H' = (upd (upd H p (.lst [V.bl false, V.bl true, V.bl false, V.bl false])) c (.lst (if 1 < j then [V.bl true] else [])))) rfl (fun j H' _ e => by rw [e]; exact sql ((upd_ne (ne_of_none upd_same nc)).trans upd_same)) ?_ ?_⟩
      · rintro j x H3 H4 hj rfl ⟨rfl, ex⟩
        have hj4 : j = 0 ∨ j = 1 ∨ j = 2 ∨ j = 3 := by
          have : j < 4 := hj
          omega
        rcases hj4 with rfl | rfl | rfl | rfl <;> cases ex <;> walk_at "rd" <;> refine ⟨rfl, ?_⟩ <;> walk_at "rd"
        all_goals first
        | rfl
        | exact ⟨_, upd_same, ltBig (by decide), upd_upd⟩
      · rintro H3 rfl
        have sH : Same H (upd (upd H p (.lst [V.bl false, V.bl true, V.bl false, V.bl false])) c (.lst [V.bl true])) := (same_new np).trans (same_new nc)
        have hc : (upd (upd H p (.lst [V.bl false, V.bl true, V.bl false, V.bl false])) c (.lst [V.bl true])) c = some (.lst [V.bl true]) := upd_same
        show tNil _ (upd (upd H p (.lst [V.bl false, V.bl true, V.bl false, V.bl false])) c (.lst [V.bl true])) _
        revert sH hc
        generalize (upd (upd H p (.lst [V.bl false, V.bl true, V.bl false, V.bl false])) c (.lst [V.bl true])) = H3
        intro sH hc
        walk_at "rd"
        refine s_len_l (sql hc) ?_
        walk_at "rd"
        refine jtN (fun e => absurd rfl e) (fun _ => ?_)
        walk_at "rd"
        refine ⟨ga K "BadWord", _, .ref (ga K "TooMany"), false, rfl, T.e_BadWord.e, rfl, .own _, T.kit_BadWord_TooMany, ⟨_, sH _ _ hdd⟩, ?_⟩
        walk_at "rd"
        refine ⟨ga K "BadWord", _, .ref (ga K "BadWord"), true, rfl, T.e_BadWord.e, rfl, .own _, T.kit_BadWord_BadWord, ⟨_, sH _ _ hdd⟩, ?_⟩
        walk_at "rd"
        refine ⟨_, rfl, ga K "BadWord", rfl, T.e_BadWord.x, T.no_BadWord_word, rfl, dd, _, _, rfl, sH _ _ hdd, rfl, ?_⟩
        walk_at "rd"
        refine ⟨.str z, .ty "str", .type "str", .type "str", true, rfl, .ty _, .base (.str z), rfl, ?_⟩
        walk_at "rd"
        refine ⟨_, rfl, ga K "BadWord", rfl, T.e_BadWord.x, T.no_BadWord_place, rfl, dd, _, _, rfl, sH _ _ hdd, rfl, ?_⟩
        walk_at "rd"
        refine ⟨_, rfl, ?_⟩
        walk_at "rd"
        refine ⟨_, rfl, ga K "BadWord", rfl, T.e_BadWord.x, T.no_BadWord_word, rfl, dd, _, _, rfl, sH _ _ hdd, rfl, ?_⟩
        walk_at "rd"
        refine ⟨_, rfl, ga K "BadWord", rfl, T.e_BadWord.x, T.no_BadWord_place, rfl, dd, _, _, rfl, sH _ _ hdd, rfl, ?_⟩
        walk_at "rd"
        refine ⟨le1000 (by simp), fun c2 nc2 => ?_⟩
        exact q _ c2 (sH.trans (same_new nc2)) upd_same
    · skip
      walk_at "rd"
      refine ⟨ga K "BadText", _, .ref (ga K "TooMany"), false, rfl, T.e_BadText.e, rfl, .own _, T.kit_BadText_TooMany, ⟨_, hdd⟩, ?_⟩
      walk_at "rd"
      refine ⟨ga K "BadText", _, .ref (ga K "BadWord"), false, rfl, T.e_BadText.e, rfl, .own _, T.kit_BadText_BadWord, ⟨_, hdd⟩, ?_⟩
      walk_at "rd"
      refine ⟨ga K "BadText", _, .ref (ga K "BadLetters"), false, rfl, T.e_BadText.e, rfl, .own _, T.kit_BadText_BadLetters, ⟨_, hdd⟩, ?_⟩
      walk_at "rd"
      refine ⟨ga K "BadText", _, .ref (ga K "BadText"), true, rfl, T.e_BadText.e, rfl, .own _, T.kit_BadText_BadText, ⟨_, hdd⟩, ?_⟩
      walk_at "rd"
      refine ⟨le1000 (by simp), fun p np => ?_⟩
      walk_at "rd"
      refine ⟨p, rfl, ⟨_, sql upd_same⟩, fun c nc => lc_it walk_list (fun j H' => H' = (upd (upd H p (.lst [V.bl false, V.bl false, V.bl false, V.bl true])) c (.lst (if 3 < j then [V.bl true] else [])))) rfl (fun j H' _ e => by rw [e]; exact sql ((upd_ne (ne_of_none upd_same nc)).trans upd_same)) ?_ ?_⟩
      · rintro j x H3 H4 hj rfl ⟨rfl, ex⟩
        have hj4 : j = 0 ∨ j = 1 ∨ j = 2 ∨ j = 3 := by
          have : j < 4 := hj
          omega
        rcases hj4 with rfl | rfl | rfl | rfl <;> cases ex <;> walk_at "rd" <;> refine ⟨rfl, ?_⟩ <;> walk_at "rd"
        all_goals first
        | rfl
        | exact ⟨_, upd_same, ltBig (by decide), upd_upd⟩
      · rintro H3 rfl
        have sH : Same H (upd (upd H p (.lst [V.bl false, V.bl false, V.bl false, V.bl true])) c (.lst [V.bl true])) := (same_new np).trans (same_new nc)
        have hc : (upd (upd H p (.lst [V.bl false, V.bl false, V.bl false, V.bl true])) c (.lst [V.bl true])) c = some (.lst [V.bl true]) := upd_same
        show tNil _ (upd (upd H p (.lst [V.bl false, V.bl false, V.bl false, V.bl true])) c (.lst [V.bl true])) _
        revert sH hc
        generalize (upd (upd H p (.lst [V.bl false, V.bl false, V.bl false, V.bl true])) c (.lst [V.bl true])) = H3
        intro sH hc
        walk_at "rd"
        refine s_len_l (sql hc) ?_
        walk_at "rd"
        refine jtN (fun e => absurd rfl e) (fun _ => ?_)
        walk_at "rd"
        refine ⟨ga K "BadText", _, .ref (ga K "TooMany"), false, rfl, T.e_BadText.e, rfl, .own _, T.kit_BadText_TooMany, ⟨_, sH _ _ hdd⟩, ?_⟩
        walk_at "rd"
        refine ⟨ga K "BadText", _, .ref (ga K "BadWord"), false, rfl, T.e_BadText.e, rfl, .own _, T.kit_BadText_BadWord, ⟨_, sH _ _ hdd⟩, ?_⟩
        walk_at "rd"
        refine ⟨ga K "BadText", _, .ref (ga K "BadText"), true, rfl, T.e_BadText.e, rfl, .own _, T.kit_BadText_BadText, ⟨_, sH _ _ hdd⟩, ?_⟩
        walk_at "rd"
        refine ⟨_, rfl, ga K "BadText", rfl, T.e_BadText.x, T.no_BadText_line, rfl, dd, _, _, rfl, sH _ _ hdd, rfl, ?_⟩
        walk_at "rd"
        refine ⟨_, rfl, ?_⟩
        walk_at "rd"
        refine ⟨_, rfl, ga K "BadText", rfl, T.e_BadText.x, T.no_BadText_line, rfl, dd, _, _, rfl, sH _ _ hdd, rfl, ?_⟩
        walk_at "rd"
        refine ⟨le1000 (by simp), fun c2 nc2 => ?_⟩
        exact q _ c2 (sH.trans (same_new nc2)) upd_same
    · skip
      walk_at "rd"
      refine ⟨ga K "TooMany", _, .ref (ga K "TooMany"), true, rfl, T.e_TooMany.e, rfl, .own _, T.kit_TooMany_TooMany, ⟨_, hdd⟩, ?_⟩
      walk_at "rd"
      refine ⟨ga K "TooMany", _, .ref (ga K "BadWord"), false, rfl, T.e_TooMany.e, rfl, .own _, T.kit_TooMany_BadWord, ⟨_, hdd⟩, ?_⟩
      walk_at "rd"
      refine ⟨ga K "TooMany", _, .ref (ga K "BadLetters"), false, rfl, T.e_TooMany.e, rfl, .own _, T.kit_TooMany_BadLetters, ⟨_, hdd⟩, ?_⟩
      walk_at "rd"
      refine ⟨ga K "TooMany", _, .ref (ga K "BadText"), false, rfl, T.e_TooMany.e, rfl, .own _, T.kit_TooMany_BadText, ⟨_, hdd⟩, ?_⟩
      walk_at "rd"
      refine ⟨le1000 (by simp), fun p np => ?_⟩
      walk_at "rd"
      refine ⟨p, rfl, ⟨_, sql upd_same⟩, fun c nc => lc_it walk_list (fun j H' => H' = (upd (upd H p (.lst [V.bl true, V.bl false, V.bl false, V.bl false])) c (.lst (if 0 < j then [V.bl true] else [])))) rfl (fun j H' _ e => by rw [e]; exact sql ((upd_ne (ne_of_none upd_same nc)).trans upd_same)) ?_ ?_⟩
      · rintro j x H3 H4 hj rfl ⟨rfl, ex⟩
        have hj4 : j = 0 ∨ j = 1 ∨ j = 2 ∨ j = 3 := by
          have : j < 4 := hj
          omega
        rcases hj4 with rfl | rfl | rfl | rfl <;> cases ex <;> walk_at "rd" <;> refine ⟨rfl, ?_⟩ <;> walk_at "rd"
        all_goals first
        | rfl
        | exact ⟨_, upd_same, ltBig (by decide), upd_upd⟩
      · rintro H3 rfl
        have sH : Same H (upd (upd H p (.lst [V.bl true, V.bl false, V.bl false, V.bl false])) c (.lst [V.bl true])) := (same_new np).trans (same_new nc)
        have hc : (upd (upd H p (.lst [V.bl true, V.bl false, V.bl false, V.bl false])) c (.lst [V.bl true])) c = some (.lst [V.bl true]) := upd_same
        show tNil _ (upd (upd H p (.lst [V.bl true, V.bl false, V.bl false, V.bl false])) c (.lst [V.bl true])) _
        revert sH hc
        generalize (upd (upd H p (.lst [V.bl true, V.bl false, V.bl false, V.bl false])) c (.lst [V.bl true])) = H3
        intro sH hc
        walk_at "rd"
        refine s_len_l (sql hc) ?_
        walk_at "rd"
        refine jtN (fun e => absurd rfl e) (fun _ => ?_)
        walk_at "rd"
        refine ⟨ga K "TooMany", _, .ref (ga K "TooMany"), true, rfl, T.e_TooMany.e, rfl, .own _, T.kit_TooMany_TooMany, ⟨_, sH _ _ hdd⟩, ?_⟩
        walk_at "rd"
        refine ⟨_, rfl, ga K "TooMany", rfl, T.e_TooMany.x, T.no_TooMany_limit, rfl, dd, _, _, rfl, sH _ _ hdd, rfl, ?_⟩
        walk_at "rd"
        refine ⟨_, rfl, ?_⟩
        walk_at "rd"
        refine ⟨_, rfl, ga K "TooMany", rfl, T.e_TooMany.x, T.no_TooMany_limit, rfl, dd, _, _, rfl, sH _ _ hdd, rfl, ?_⟩
        walk_at "rd"
        refine ⟨le1000 (by simp), fun c2 nc2 => ?_⟩
        exact q _ c2 (sH.trans (same_new nc2)) upd_same
end
end H89

namespace H89
open PySem PySem.Spec L2 He Y Hk89
local macro_rules | `(tactic| walk_at "rd1") => `(tactic| first
  | with_reducible refine s_seq ?_
  | with_reducible refine s_asg ?_
  | with_reducible refine s_gname ?_
  | ((with_reducible refine s_var (v := ?_) ?_ ?_); rotate_left; exact rfl)
  | with_reducible refine s_c ?_
  | with_reducible refine s_op ?_
  | with_reducible refine s_un ?_
  | with_reducible refine s_nil ?_
  | with_reducible refine s_cons ?_
  | with_reducible refine s_CB ?_
  | with_reducible refine s_ifS ?_
  | with_reducible refine s_test ?_
  | with_reducible refine s_B ?_
  | with_reducible refine s_xb ?_
  | with_reducible refine s_xi ?_
  | with_reducible refine s_xs ?_
  | with_reducible refine s_or ?_
  | with_reducible refine s_and ?_
  | with_reducible refine s_not ?_
  | with_reducible refine s_orV ?_
  | with_reducible refine s_andV ?_
  | with_reducible refine s_notV ?_
  | with_reducible refine s_ret ?_
  | with_reducible refine s_retN ?_
  | with_reducible refine s_next ?_
  | with_reducible refine s_drop ?_
  | with_reducible refine s_yes ?_
  | with_reducible refine s_for ?_
  | with_reducible refine s_lc ?_
  | with_reducible refine s_iStr ?_
  | with_reducible refine s_iList ?_
  | with_reducible refine s_iTup ?_
  | with_reducible refine s_iR1 ?_
  | with_reducible refine s_iR2 ?_
  | with_reducible refine s_iE ?_
  | with_reducible refine s_iET ?_
  | with_reducible refine s_iES ?_
  | with_reducible refine s_tup ?_
  | with_reducible refine s_lst ?_
  | with_reducible refine s_BM ?_
  | with_reducible refine s_BM0 ?_
  | with_reducible refine s_BMS _ ?_
  | with_reducible refine s_M1 ?_
  | with_reducible refine s_sl ?_
  | with_reducible refine s_noP ?_
  | with_reducible refine s_po ?_
  | with_reducible refine s_call ?_
  | with_reducible refine s_callS ?_
  | with_reducible refine s_make ?_
  | with_reducible refine s_makeS ?_
  | with_reducible refine s_methS ?_
  | with_reducible refine s_callO ?_
  | with_reducible refine s_dnew ?_
  | with_reducible refine s_dget ?_
  | with_reducible refine s_din ?_
  | with_reducible refine s_dnin ?_
  | with_reducible refine s_dput ?_
  | with_reducible refine s_dsetd ?_
  | with_reducible refine s_dget2 ?_
  | with_reducible refine s_fld ?_
  | with_reducible refine s_sFld ?_
  | with_reducible refine s_rz ?_
  | with_reducible refine s_asgS ?_
  | with_reducible refine s_gSub ?_
  | with_reducible refine s_ifE ?_
  | with_reducible refine s_add_i ?_
  | with_reducible refine s_sub ?_
  | with_reducible refine s_neg ?_
  | with_reducible refine s_eq_i ?_
  | with_reducible refine s_eq_s ?_
  | with_reducible refine s_ne_i ?_
  | with_reducible refine s_ne_s ?_
  | with_reducible refine s_lt_i ?_
  | with_reducible refine s_le_i ?_
  | with_reducible refine s_gt_i ?_
  | with_reducible refine s_ge_i ?_
  | with_reducible refine s_lt_s ?_
  | with_reducible refine s_le_s ?_
  | with_reducible refine s_gt_s ?_
  | with_reducible refine s_ge_s ?_
  | with_reducible refine s_in_c ?_
  | with_reducible refine s_ni_c ?_
  | with_reducible refine s_isN ?_
  | with_reducible refine s_noN ?_
  | with_reducible refine s_abs ?_
  | with_reducible refine s_min2 ?_
  | with_reducible refine s_max2 ?_
  | with_reducible refine s_int_i ?_
  | ((with_reducible refine s_len_s ?_ ?_); assumption)
  | ((with_reducible refine s_len_l (xs := ?_) ?_ ?_); rotate_left; assumption)
  | ((with_reducible refine s_len_t (xs := ?_) ?_ ?_); rotate_left; assumption)
  | with_reducible refine s_pair upd_same ?_
  | with_reducible refine s_callS ?_
  | with_reducible refine s_sortK ?_
  | with_reducible refine s_lc2 ?_
  | with_reducible refine s_disp ?_
  | with_reducible refine s_pcons ?_
  | with_reducible refine s_pnil ?_
  | ((with_reducible refine s_ix_t (by assumption) (by first | exact atI_0 | exact atI_i (j := 1) rfl rfl | exact atI_i (j := 2) rfl rfl | exact atI_i (j := 3) rfl rfl) ?_))
  | with_reducible refine jtT ?_
  | with_reducible refine jtF ?_
  | with_reducible refine jtNT ?_
  | with_reducible refine jtNF ?_
  | dsimp only)
local macro_rules | `(tactic| walk_at "rd") => `(tactic| repeat (walk_at "rd1"))

section
variable {P : Program} {w : World} {K : PySem.W.Frag} {mg : Str → Option Value} {base : Heap}
theorem mkT {D H : Hp} {l i : Str} {n : Int} {td x dx : Addr} {kvs : List (Key × V)} {t : Tb} {Qx : Hp → Prop} {E : XK} (sm : Same D H) (okl : okLetters l = true) (oki : okLetters i = true) (htd : H td = some (.dK kvs)) (hkv : KvR IsS kvs t) (nx : H x = none) (ndx : H dx = none) (ne : dx ≠ x)
    (q : ∀ D' H', Gr No D H D' H' → IsT K D' (.ref x) l i n t → Qx H') : sp_Turner K [.ref x, .str l, .str i, .int n, .ref td] (upd (upd H dx (.own x)) x (.ins (ga K "Turner") dx [])) (fun v H' => v = V.non ∧ Qx H') E := by
  have g1 := Gr.refl (m := No) sm
  have nx' : (upd H dx (.own x)) x = none := (upd_ne (Ne.symm ne)).trans nx
  have gM := (g1.lay (o := .own x) ndx).lay (o := .ins (ga K "Turner") dx []) nx'
  have htd' : (upd (upd H dx (.own x)) x (.ins (ga K "Turner") dx [])) td = some (.dK kvs) := by
    rw [upd_ne (ne_of_none htd nx), upd_ne (ne_of_none htd ndx)]
    exact htd
  have l1 := ok_len okl
  have l2 := ok_len oki
  refine ⟨D, x, dx, l, i, n, td, kvs, t, rfl, le1000 (by omega), le1000 (by omega), gM.sub, g1.free nx, upd_same, htd', hkv, fun _ _ D' H' da kvs' gF hDx hHx hda hkv' => ⟨rfl, ?_⟩, fun z => absurd ⟨okl, oki⟩ z⟩
  have gG := (gM.transN gF fun y hy => hy ▸ g1.kept x nx).cold hHx (g1.kept x nx)
  have sX : Same D' (upd D' x (.ins (ga K "Turner") dx [("letters", .str l), ("images", .str i), ("size", .int n), ("table", .ref da)])) := same_new hDx
  exact q _ _ gG ⟨x, dx, da, kvs', rfl, upd_same, sX _ _ hda, hkv'⟩
theorem S_law_row_raised : FnScope ["letters", "middle", "other", "images", "sizes", "first", "second", "e"] ["letters", "middle", "other", "images", "sizes"] (d_law_row_raised).scope := ⟨rfl, rfl, rfl, by decide +kernel, rfl, by decide +kernel, by decide +kernel⟩
def sp_row_raised (K : PySem.W.Frag) : Sp := fun vs H Q E => ∃ (D : Hp) (l m o i : Str) (sa : Addr) (s1 s2 : Nat), vs = [.str l, .str m, .str o, .str i, .ref sa] ∧ Same D H ∧ SqT K D sa [.int (s1 : Nat), .int (s2 : Nat)] ∧ okLetters l = true ∧ okLetters m = true ∧ okLetters o = true ∧ okLetters i = true ∧ 1 ≤ s1 ∧ s1 ≤ 7 ∧ 1 ≤ s2 ∧ s2 ≤ 7 ∧
  (m ≠ o → ∀ H' q, Same H H' → H' q = some (.tup [.str "letters"]) → Q (.ref q) H') ∧
  (m = o → 8 ≤ s1 + s2 - 1 → ∀ H' q, Same H H' → H' q = some (.tup [.str "many", .int 7]) → Q (.ref q) H') ∧ (m ≠ o ∨ 8 ≤ s1 + s2 - 1)
theorem w_law_row_raised (T : Txt P w K mg) : Has P w K mg base 7 "_law_row_raised" (sp_row_raised K) := by
  have S := S_law_row_raised
  have G_Turner := w_Turner (base := base) T
  have G_one_behind_other := w_one_behind (base := base) T
  have G_law_error := fun a oe cls d hz hf => w_law_error (base := base) T a oe cls d hz hf
  refine has_of (k := 6) T.d_law_row_raised T.gd_law_row_raised S (fun _ _ _ _ _ _ us hl => match us, hl with | [_, _, _, _, _], _ => rfl) (fun vs H Q E h => ?_) (fun f cdv A outer s H vs Q E hr h => ?_)
  · obtain ⟨D, l, m, o, i, sa, s1, s2, rfl, _⟩ := h
    rfl
  · obtain ⟨D, l, m, o, i, sa, s1, s2, rfl, sm, hsa, ok1, ok2, ok3, ok4, a1, a2, b1, b2, q1, q2, hor⟩ := h
    have i0 : ∀ z : Str, okLetters z = true → ∃ c, z.cps.toList[0]? = some c := fun z hz => ⟨_, List.getElem?_eq_getElem (by have := ok_len hz; rw [len_list]; omega)⟩
    have zz : ∀ z : Str, okLetters z = true → z.length ≤ sizeLine := fun z hz => le1000 (by have := ok_len hz; omega)
    obtain ⟨c1, e1⟩ := i0 l ok1
    obtain ⟨c2, e2⟩ := i0 m ok2
    obtain ⟨c3, e3⟩ := i0 o ok3
    obtain ⟨c4, e4⟩ := i0 i ok4
    refine ⟨_, (pss_cons (ps_set (i := 5) S.nd rfl (Or.inl rfl) (pe_mkS G_Turner (hr.mono (by decide)) (L2N.takes_of rfl rfl rfl rfl) rfl (pa_cons (pv 0) (pa_cons (pv 1) (pa_cons (pe_ix (ixK_seq K) (pv 4) pe_int (fun _ _ => rfl)) (pa_cons (pe_disp (pps_cons (pe_ix (ixK_seq K) (pv 0) pe_int (fun _ _ => rfl)) (pe_ix (ixK_seq K) (pv 1) pe_int (fun _ _ => rfl)) pps_nil) (by rfl) (by rfl) (fun z => by cases z) (by decide)) pa_nil))))))
    (pss_cons (ps_set (i := 6) S.nd rfl (Or.inl rfl) (pe_mkS G_Turner (hr.mono (by decide)) (L2N.takes_of rfl rfl rfl rfl) rfl (pa_cons (pv 2) (pa_cons (pv 3) (pa_cons (pe_ix (ixK_seq K) (pv 4) pe_int (fun _ _ => rfl)) (pa_cons (pe_disp (pps_cons (pe_ix (ixK_seq K) (pv 2) pe_int (fun _ _ => rfl)) (pe_ix (ixK_seq K) (pv 3) pe_int (fun _ _ => rfl)) pps_nil) (by rfl) (by rfl) (fun z => by cases z) (by decide)) pa_nil))))))
    (pss_cons (L2N.ps_try_as (i := 7) rfl rfl S.nd rfl rfl ⟨rfl, by decide, Or.inl T.g_LanguageError⟩ (L2N.takes_of rfl rfl rfl rfl)
      (fun W pn xe tk po => (pss_one (ps_expr (pe_has G_one_behind_other (hr.mono (by decide)) tk rfl (pa_cons (pv 5) (pa_cons (pv 6) pa_nil))))))
      (fun a oe cls d pn hn hf => have hz := L2N.Zn.zc hn; (pss_one (ps_ret (pe_hasQ (G_law_error a oe cls d hz hf) (hot1_of hn hf) (List.mem_cons_self) (roomS hr (by decide) rfl rfl) takesN0 rfl (pa_cons (pv 7) pa_nil))))))
    (pss_one (ps_ret (pe_tup (pa_cons pe_str pa_nil))))))), ?_⟩
    have hsaH := sqt_up (Gr.refl (m := No) sm) hsa
    walk_at "rd"
    intro td ntd
    have g1 := (Gr.refl (m := No) sm).lay (o := .dK [(Sum.inr ⟨#[c1]⟩, .str ⟨#[c2]⟩)]) ntd
    walk_at "rd"
    refine s_ix_s (zz l ok1) (atI_i (j := 0) rfl e1) ?_
    walk_at "rd"
    refine s_ix_s (zz m ok2) (atI_i (j := 0) rfl e2) ?_
    walk_at "rd"
    refine ⟨upd_same, [(Sum.inr ⟨#[c1]⟩, .str ⟨#[c2]⟩)], rfl, (by show 1 ≤ 15; decide), ?_⟩
    rw [upd_upd]
    walk_at "rd"
    intro x dx nx ndx ne
    refine mkT g1.sub ok1 ok2 upd_same (.cons (y := ⟨#[c2]⟩) rfl .nil) nx ndx ne fun D1 H1 g2 M1 => ?_
    have gA := g1.trans g2
    have hsaA := sqt_up gA hsa
    walk_at "rd"
    intro td2 ntd2
    have g3 := gA.lay (o := .dK [(Sum.inr ⟨#[c3]⟩, .str ⟨#[c4]⟩)]) ntd2
    walk_at "rd"
    refine s_ix_s (zz o ok3) (atI_i (j := 0) rfl e3) ?_
    walk_at "rd"
    refine s_ix_s (zz i ok4) (atI_i (j := 0) rfl e4) ?_
    walk_at "rd"
    refine ⟨upd_same, [(Sum.inr ⟨#[c3]⟩, .str ⟨#[c4]⟩)], rfl, (by show 1 ≤ 15; decide), ?_⟩
    rw [upd_upd]
    walk_at "rd"
    intro x2 dx2 nx2 ndx2 ne2
    refine mkT g3.sub ok3 ok4 upd_same (.cons (y := ⟨#[c4]⟩) rfl .nil) nx2 ndx2 ne2 fun D2 H2 g4 M2 => ?_
    have gB := g3.trans g4
    walk_at "rd"
    have o1 : Ones m [(⟨#[c1]⟩, ⟨#[c2]⟩)] := fun p hp => by
      rw [List.mem_singleton.mp hp]
      exact ⟨c2, List.mem_of_getElem? e2, rfl⟩
    refine ⟨D2, _, _, l, m, o, i, s1, s2, _, _, rfl, gB.sub, M1.up g4.dd, M2, ok1, ok4, a1, b1, a2, b2, o1, (by show 1 ≤ 200000; decide), (by show 1 ≤ 200000; decide), fun e => ?_, fun e e8 D3 H3 d g5 nd => ?_, fun e e7 => ?_⟩
    · refine ⟨true, T.exm_BadLetters_LanguageError, fun _ a na => ?_, fun z => nomatch z⟩
      walk_at "rd"
      exact ⟨rfl, .inl ⟨rfl, trivial, fun H' qq s e' => q1 e H' qq (gB.all.trans s) e'⟩⟩
    · refine ⟨true, T.exm_TooMany_LanguageError, fun _ a na => ?_, fun z => nomatch z⟩
      walk_at "rd"
      exact ⟨rfl, .inr (.inr (.inr ⟨rfl, d, 7, rfl, upd_same, fun H' qq s e' => q2 e e8 H' qq (((gB.trans g5).all.trans (same_new nd)).trans s) e'⟩))⟩
    · rcases hor with h | h
      · exact absurd e h
      · omega
theorem S_law_rows_refused : FnScope ["state", "letters", "middle", "images", "one", "other", "sizes"] ["state", "letters", "middle", "images"] (d_law_rows_refused).scope := ⟨rfl, rfl, rfl, by decide +kernel, rfl, by decide +kernel, by decide +kernel⟩
def sp_rows_refused (K : PySem.W.Frag) : Sp := fun vs H Q E => ∃ (D : Hp) (st : Addr) (l m i : Str), vs = [.ref st, .str l, .str m, .str i] ∧ Same D H ∧ Stt K D H st ∧ okLetters l = true ∧ okLetters m = true ∧ okLetters i = true ∧
  ∀ D' H', Gr (· = st) D H D' H' → Stt K D' H' st → Q (.bl true) H'
theorem w_law_rows_refused (T : Txt P w K mg) : Has P w K mg base 8 "_law_rows_refused" (sp_rows_refused K) := by
  have S := S_law_rows_refused
  have G_law_next := w_law_next (base := base) T
  have G_law_alphabet := w_law_alphabet (base := base) T
  have G_law_row_raised := w_law_row_raised (base := base) T
  refine has_of (k := 7) T.d_law_rows_refused T.gd_law_rows_refused S (fun _ _ _ _ _ _ us hl => match us, hl with | [_, _, _, _], _ => rfl) (fun vs H Q E h => ?_) (fun f cdv A outer s H vs Q E hr h => ?_)
  · obtain ⟨D, st, l, m, i, rfl, _⟩ := h
    rfl
  · obtain ⟨D, st, l, m, i, rfl, sm, X, ok1, ok2, ok4, q⟩ := h
    refine ⟨_, (pss_cons (ps_set (i := 4) S.nd rfl (Or.inl rfl) (pe_op (oK_add K) pe_int (pe_has G_law_next (hr.mono (by decide)) (L2N.takes_of rfl rfl rfl rfl) rfl (pa_cons (pv 0) (pa_cons pe_int pa_nil)))))
    (pss_cons (ps_if (pt_cmpR (cK_ne K hr.units) (pe_has G_law_row_raised (hr.mono (by decide)) (L2N.takes_of rfl rfl rfl rfl) rfl (pa_cons (pv 1) (pa_cons (pv 2) (pa_cons (pv 2) (pa_cons (pv 3) (pa_cons (pe_tup (pa_cons (pv 4) (pa_cons (pe_op o_sub pe_int (pv 4)) pa_nil))) pa_nil)))))) (pe_tup (pa_cons pe_str (pa_cons pe_int pa_nil))) (nomark _))
      (pss_one (ps_ret pe_bl))
      pss_nil)
    (pss_cons (ps_set (i := 5) S.nd rfl (Or.inl rfl) (pe_has G_law_alphabet (hr.mono (by decide)) (L2N.takes_of rfl rfl rfl rfl) rfl (pa_cons (pv 0) (pa_cons (pe_op (oK_add K) pe_int (pe_has G_law_next (hr.mono (by decide)) (L2N.takes_of rfl rfl rfl rfl) rfl (pa_cons (pv 0) (pa_cons pe_int pa_nil)))) pa_nil))))
    (pss_cons (ps_if (pt_cmpR (cK_eq K hr.units) (pv 5) (pv 2) (nomark _))
      (pss_one (ps_set (i := 5) S.nd rfl (Or.inl rfl) pe_str))
      pss_nil)
    (pss_cons (ps_if (pt_cmpR (cK_eq K hr.units) (pv 5) (pv 2) (nomark _))
      (pss_one (ps_set (i := 5) S.nd rfl (Or.inl rfl) pe_str))
      pss_nil)
    (pss_cons (ps_set (i := 6) S.nd rfl (Or.inl rfl) (pe_tup (pa_cons (pe_op (oK_add K) pe_int (pe_has G_law_next (hr.mono (by decide)) (L2N.takes_of rfl rfl rfl rfl) rfl (pa_cons (pv 0) (pa_cons pe_int pa_nil)))) (pa_cons (pe_op (oK_add K) pe_int (pe_has G_law_next (hr.mono (by decide)) (L2N.takes_of rfl rfl rfl rfl) rfl (pa_cons (pv 0) (pa_cons pe_int pa_nil)))) pa_nil))))
    (pss_one (ps_ret (pe_cmpR (cK_eq K hr.units) (pe_has G_law_row_raised (hr.mono (by decide)) (L2N.takes_of rfl rfl rfl rfl) rfl (pa_cons (pv 1) (pa_cons (pv 2) (pa_cons (pv 5) (pa_cons (pv 3) (pa_cons (pv 6) pa_nil)))))) (pe_tup (pa_cons pe_str pa_nil)) (nomark _)))))))))), ?_⟩
    walk_at "rd"
    refine ⟨D, st, _, rfl, by decide, by decide, sm, X, fun D1 H1 r1 g1 X1 a0 a1 => ?_⟩
    walk_at "rd"
    refine ⟨le1000 (by simp), fun p np => ?_⟩
    have nps : p ≠ st := fun e => X1.is (e ▸ np)
    have e1 : (2 + r1 : Int) = (((2 + r1).toNat : Nat) : Int) := by omega
    have e2 : (9 - (2 + r1) : Int) = (((9 - (2 + r1)).toNat : Nat) : Int) := by omega
    rw [e2, e1]
    have g2 := g1.ice (o := .tup [.int ((2 + r1).toNat : Nat), .int ((9 - (((2 + r1).toNat : Nat) : Int)).toNat : Nat)]) np
    have X2 := (X1.put (o := .tup [.int ((2 + r1).toNat : Nat), .int ((9 - (((2 + r1).toNat : Nat) : Int)).toNat : Nat)]) nps).frz nps (o := .tup [.int ((2 + r1).toNat : Nat), .int ((9 - (((2 + r1).toNat : Nat) : Int)).toNat : Nat)]) (g1.free np)
    walk_at "rd"
    refine ⟨_, l, m, m, i, p, (2 + r1).toNat, (9 - (((2 + r1).toNat : Nat) : Int)).toNat, rfl, g2.sub, sqt upd_same, ok1, ok2, ok2, ok4, by omega, by omega, by omega, by omega, fun e => absurd rfl e, fun _ _ H3 q3 s3 e3 => ?_, .inr (by omega)⟩
    walk_at "rd"
    refine ⟨le1000 (by simp), fun c nc => ?_⟩
    have s4 := s3.trans (same_new (o := .tup [.str "many", .int 7]) nc)
    have gA := g2.trans (Gr.ofSame g2.sub s4).no
    have XA := X2.same s4
    refine s_ne_refl (d := .tuple [.str "many", .int 7]) (.tup (sqt ((same_new nc) _ _ e3)) (.cons (.str _) (.cons (.int _) .nil))) (.tup (sqt upd_same) (.cons (.str _) (.cons (.int _) .nil))) (by decide +kernel) ?_
    walk_at "rd"
    refine ⟨_, st, _, rfl, by decide, by decide, gA.sub, XA, fun D4 H4 r4 g4 X4 b0 b1 => ?_⟩
    walk_at "rd"
    refine ⟨D4, st, (1 + r4).toNat, by rw [Int.toNat_of_nonneg (by omega)], by omega, by omega, g4.sub, X4, fun D5 H5 z g5 X5 zl zok => ?_⟩
    have gB := (gA.trans g4).trans g5
    with_reducible refine s_gname ?_
    refine s_cut (fun σ' H' => ∃ o, H' = H5 ∧ okLetters o = true ∧ (o = m → o = "az") ∧ σ' = [some (.ref st), some (.str l), some (.str m), some (.str i), some (.int ((2 + r1).toNat : Nat)), some (.str o), none]) ?_ (fun N rest => ?_)
    · rintro σ' H7 ⟨o, rfl, oko, hoz, rfl⟩
      refine s_cut (fun σ' H' => ∃ o, H' = H7 ∧ okLetters o = true ∧ m ≠ o ∧ σ' = [some (.ref st), some (.str l), some (.str m), some (.str i), some (.int ((2 + r1).toNat : Nat)), some (.str o), none]) ?_ (fun N rest => ?_)
      · rintro σ' H' ⟨o, rfl, oko, hne, rfl⟩
        walk_at "rd"
        refine ⟨D5, st, _, rfl, by decide, by decide, gB.sub, X5, fun D6 H6 r6 g6 X6 b0 b1 => ?_⟩
        walk_at "rd"
        refine ⟨D6, st, _, rfl, by decide, by decide, g6.sub, X6, fun D7 H7 r7 g7 X7 b70 b71 => ?_⟩
        walk_at "rd"
        refine ⟨le1000 (by simp), fun p2 np2 => ?_⟩
        have np2s : p2 ≠ st := fun e => X7.is (e ▸ np2)
        have e6 : (1 + r6 : Int) = (((1 + r6).toNat : Nat) : Int) := by omega
        have e7 : (1 + r7 : Int) = (((1 + r7).toNat : Nat) : Int) := by omega
        rw [e6, e7]
        have g8 := ((gB.trans g6).trans g7).ice (o := .tup [.int ((1 + r6).toNat : Nat), .int ((1 + r7).toNat : Nat)]) np2
        have X8 := (X7.put (o := .tup [.int ((1 + r6).toNat : Nat), .int ((1 + r7).toNat : Nat)]) np2s).frz np2s (o := .tup [.int ((1 + r6).toNat : Nat), .int ((1 + r7).toNat : Nat)]) (((gB.trans g6).trans g7).free np2)
        walk_at "rd"
        refine ⟨_, l, m, o, i, p2, (1 + r6).toNat, (1 + r7).toNat, rfl, g8.sub, sqt upd_same, ok1, ok2, oko, ok4, by omega, by omega, by omega, by omega, fun _ H9 q9 s9 e9 => ?_, fun e => absurd e hne, .inl hne⟩
        walk_at "rd"
        refine ⟨le1000 (by simp), fun c nc => ?_⟩
        have s10 := s9.trans (same_new (o := .tup [.str "letters"]) nc)
        refine s_eq_refl (d := .tuple [.str "letters"]) (.tup (sqt ((same_new nc) _ _ e9)) (.cons (.str _) .nil)) (.tup (sqt upd_same) (.cons (.str _) .nil)) (by decide +kernel) ?_
        exact q _ _ (g8.trans (Gr.ofSame g8.sub s10).no) (X8.same s10)
      · walk_at "rd"
        refine jtD (fun e => ?_) (fun e => ?_)
        · walk_at "rd"
          exact rest _ _ ⟨"z", rfl, by decide +kernel, fun y => by rw [← e, hoz e] at y; exact absurd y (by decide +kernel), rfl⟩
        · walk_at "rd"
          exact rest _ _ ⟨o, rfl, oko, fun y => e y.symm, rfl⟩
    · walk_at "rd"
      refine jtD (fun e => ?_) (fun e => ?_)
      · walk_at "rd"
        exact rest _ _ ⟨"az", rfl, by decide +kernel, fun _ => rfl, rfl⟩
      · walk_at "rd"
        exact rest _ _ ⟨z, rfl, zok, fun y => absurd y e, rfl⟩
end
end H89

namespace H89
open PySem PySem.Spec L2 He Y Hk89
local macro_rules | `(tactic| walk_at "rd1") => `(tactic| first
  | with_reducible refine s_seq ?_
  | with_reducible refine s_asg ?_
  | with_reducible refine s_gname ?_
  | ((with_reducible refine s_var (v := ?_) ?_ ?_); rotate_left; exact rfl)
  | with_reducible refine s_c ?_
  | with_reducible refine s_op ?_
  | with_reducible refine s_un ?_
  | with_reducible refine s_nil ?_
  | with_reducible refine s_cons ?_
  | with_reducible refine s_CB ?_
  | with_reducible refine s_ifS ?_
  | with_reducible refine s_test ?_
  | with_reducible refine s_B ?_
  | with_reducible refine s_xb ?_
  | with_reducible refine s_xi ?_
  | with_reducible refine s_xs ?_
  | with_reducible refine s_or ?_
  | with_reducible refine s_and ?_
  | with_reducible refine s_not ?_
  | with_reducible refine s_orV ?_
  | with_reducible refine s_andV ?_
  | with_reducible refine s_notV ?_
  | with_reducible refine s_ret ?_
  | with_reducible refine s_retN ?_
  | with_reducible refine s_next ?_
  | with_reducible refine s_drop ?_
  | with_reducible refine s_yes ?_
  | with_reducible refine s_for ?_
  | with_reducible refine s_lc ?_
  | with_reducible refine s_iStr ?_
  | with_reducible refine s_iList ?_
  | with_reducible refine s_iTup ?_
  | with_reducible refine s_iR1 ?_
  | with_reducible refine s_iR2 ?_
  | with_reducible refine s_iE ?_
  | with_reducible refine s_iET ?_
  | with_reducible refine s_iES ?_
  | with_reducible refine s_tup ?_
  | with_reducible refine s_lst ?_
  | with_reducible refine s_BM ?_
  | with_reducible refine s_BM0 ?_
  | with_reducible refine s_BMS _ ?_
  | with_reducible refine s_M1 ?_
  | with_reducible refine s_sl ?_
  | with_reducible refine s_noP ?_
  | with_reducible refine s_po ?_
  | with_reducible refine s_call ?_
  | with_reducible refine s_callS ?_
  | with_reducible refine s_make ?_
  | with_reducible refine s_makeS ?_
  | with_reducible refine s_methS ?_
  | with_reducible refine s_callO ?_
  | with_reducible refine s_dnew ?_
  | with_reducible refine s_dget ?_
  | with_reducible refine s_din ?_
  | with_reducible refine s_dnin ?_
  | with_reducible refine s_dput ?_
  | with_reducible refine s_dsetd ?_
  | with_reducible refine s_dget2 ?_
  | with_reducible refine s_fld ?_
  | with_reducible refine s_sFld ?_
  | with_reducible refine s_rz ?_
  | with_reducible refine s_asgS ?_
  | with_reducible refine s_gSub ?_
  | with_reducible refine s_ifE ?_
  | with_reducible refine s_add_i ?_
  | with_reducible refine s_sub ?_
  | with_reducible refine s_neg ?_
  | with_reducible refine s_eq_i ?_
  | with_reducible refine s_eq_s ?_
  | with_reducible refine s_ne_i ?_
  | with_reducible refine s_ne_s ?_
  | with_reducible refine s_lt_i ?_
  | with_reducible refine s_le_i ?_
  | with_reducible refine s_gt_i ?_
  | with_reducible refine s_ge_i ?_
  | with_reducible refine s_lt_s ?_
  | with_reducible refine s_le_s ?_
  | with_reducible refine s_gt_s ?_
  | with_reducible refine s_ge_s ?_
  | with_reducible refine s_in_c ?_
  | with_reducible refine s_ni_c ?_
  | with_reducible refine s_isN ?_
  | with_reducible refine s_noN ?_
  | with_reducible refine s_abs ?_
  | with_reducible refine s_min2 ?_
  | with_reducible refine s_max2 ?_
  | with_reducible refine s_int_i ?_
  | ((with_reducible refine s_len_s ?_ ?_); assumption)
  | ((with_reducible refine s_len_l (xs := ?_) ?_ ?_); rotate_left; assumption)
  | ((with_reducible refine s_len_t (xs := ?_) ?_ ?_); rotate_left; assumption)
  | with_reducible refine s_pair upd_same ?_
  | with_reducible refine s_callS ?_
  | with_reducible refine s_sortK ?_
  | with_reducible refine s_lc2 ?_
  | with_reducible refine s_disp ?_
  | with_reducible refine s_pcons ?_
  | with_reducible refine s_pnil ?_
  | ((with_reducible refine s_ix_t (by assumption) (by first | exact atI_0 | exact atI_i (j := 1) rfl rfl | exact atI_i (j := 2) rfl rfl | exact atI_i (j := 3) rfl rfl) ?_))
  | with_reducible refine jtT ?_
  | with_reducible refine jtF ?_
  | with_reducible refine jtNT ?_
  | with_reducible refine jtNF ?_
  | dsimp only)
local macro_rules | `(tactic| walk_at "rd") => `(tactic| repeat (walk_at "rd1"))

structure PokW (l i : Str) (n : Nat) (p : Pr) : Prop where
  eq : p.1.length = p.2.length
  le : p.1.length ≤ n
  wd : ∀ c ∈ p.1.cps.toList, c ∈ l.cps.toList
  im : ∀ c ∈ p.2.cps.toList, c ∈ i.cps.toList
section
variable {P : Program} {w : World} {K : PySem.W.Frag} {mg : Str → Option Value} {base : Heap}
theorem S_law_pairs : FnScope ["state", "letters", "images", "reach", "plan", "most", "pairs", "k", "word", "image", "at", "pair", "cut", "told", "changed"] ["state", "letters", "images"] (d_law_pairs).scope := ⟨rfl, rfl, rfl, by decide +kernel, rfl, by decide +kernel, by decide +kernel⟩
def sp_pairs (K : PySem.W.Frag) : Sp := fun vs H Q E => ∃ (D : Hp) (st : Addr) (l i : Str), vs = [.ref st, .str l, .str i] ∧ Same D H ∧ Stt K D H st ∧ okLetters l = true ∧ okLetters i = true ∧
  ∀ (D' H' : Hp) (a : Addr) (xs : List V) (ps : List Pr), Gr (· = st) D H D' H' → Stt K D' H' st → D' a = some (.lst xs) → DpAll K D' xs (ps.map dP) → ps.length ≤ 6 → (∀ p ∈ ps, PokW l i 200 p) → Q (.ref a) H'
theorem w_law_pairs (T : Txt P w K mg) : Has P w K mg base 5 "_law_pairs" (sp_pairs K) := by
  have S := S_law_pairs
  have G_law_next := w_law_next (base := base) T
  have G_law_word := w_law_word (base := base) T
  refine has_of (k := 4) T.d_law_pairs T.gd_law_pairs S (fun _ _ _ _ _ _ us hl => match us, hl with | [_, _, _], _ => rfl) (fun vs H Q E h => ?_) (fun f cdv A outer s H vs Q E hr h => ?_)
  · obtain ⟨D, st, l, i, rfl, _⟩ := h
    rfl
  · obtain ⟨D, st, l, im, rfl, sm, X, ok1, ok2, q⟩ := h
    have hl := ok_len ok1
    have hi := ok_len ok2
    have hlz := le1000 (by omega : l.length ≤ 1000)
    have hiz := le1000 (by omega : im.length ≤ 1000)
    refine ⟨_, (pss_cons (ps_set (i := 3) S.nd rfl (Or.inl rfl) (pe_has G_law_next (hr.mono (by decide)) (L2N.takes_of rfl rfl rfl rfl) rfl (pa_cons (pv 0) (pa_cons pe_int pa_nil))))
    (pss_cons (ps_setLc (i := 4) (own := [("k", 7)]) rfl S.nd rfl rfl (sw_true rfl rfl rfl (by decide +kernel)) (pi_range1 (by rfl) T.b_range (pa_cons pe_int pa_nil)) (blkOk_by (by rfl)) (fun _ _ _ _ _ => (pg_name (i := 7) S.nd rfl (Or.inl rfl))) (fun _ _ _ _ _ => pts_nil) (fun _ _ _ _ _ => (pe_has G_law_next (hr.mono (by decide)) takesN0 rfl (pa_cons (pv 0) (pa_cons pe_int pa_nil)))))
    (pss_cons (ps_set (i := 5) S.nd rfl (Or.inl rfl) pe_int)
    (pss_cons (ps_if (pt_cmpR (cK_eq K hr.units) (pe_has G_law_next (hr.mono (by decide)) (L2N.takes_of rfl rfl rfl rfl) rfl (pa_cons (pv 0) (pa_cons pe_int pa_nil))) pe_int (nomark _))
      (pss_cons (ps_set (i := 5) S.nd rfl (Or.inl rfl) pe_int)
    (pss_one (ps_set (i := 3) S.nd rfl (Or.inl rfl) (pe_op (oK_add K) (pe_op o_mul pe_int (pv 3)) (pe_has G_law_next (hr.mono (by decide)) (L2N.takes_of rfl rfl rfl rfl) rfl (pa_cons (pv 0) (pa_cons pe_int pa_nil)))))))
      pss_nil)
    (pss_cons (ps_set (i := 6) S.nd rfl (Or.inl rfl) (pe_lst pa_nil))
    (pss_cons (ps_for (passes_of rfl) rfl (pi_range1 (by rfl) T.b_range (pa_cons (pe_has G_law_next (hr.mono (by decide)) (L2N.takes_of rfl rfl rfl rfl) rfl (pa_cons (pv 0) (pa_cons pe_int pa_nil))) pa_nil)) (pg_name (i := 7) S.nd rfl (Or.inl rfl))
      (pss_cons (ps_set (i := 8) S.nd rfl (Or.inl rfl) (pe_has G_law_word (hr.mono (by decide)) (L2N.takes_of rfl rfl rfl rfl) rfl (pa_cons (pv 0) (pa_cons (pv 1) (pa_cons (pe_has G_law_next (hr.mono (by decide)) (L2N.takes_of rfl rfl rfl rfl) rfl (pa_cons (pv 0) (pa_cons (pe_op (oK_add K) (pv 5) pe_int) pa_nil))) pa_nil)))))
    (pss_cons (ps_set (i := 9) S.nd rfl (Or.inl rfl) pe_str)
    (pss_cons (ps_for (passes_of rfl) rfl (pi_range1 (by rfl) T.b_range (pa_cons (pe_callB (bK_len K) (by rfl) T.b_len (by decide +kernel) (pa_cons (pv 8) pa_nil)) pa_nil)) (pg_name (i := 10) S.nd rfl (Or.inl rfl))
      (pss_cons (ps_set (i := 13) S.nd rfl (Or.inl rfl) (pe_op (oK_add K) (pe_op o_mul (pe_ix (ixK_seq K) (pv 4) pe_int (fun _ _ => rfl)) (peK_bmS K PySem.F.plainAttrs_str PySem.F.slot_str_index PySem.F.type_str_index (mt_indexN rfl (L2N.takes_of rfl rfl rfl rfl)) (pv 1) (pa_cons (pe_ix (ixK_seq K) (pv 8) (pv 10) (fun _ _ => rfl)) pa_nil))) (pe_ix (ixK_seq K) (pv 4) pe_int (fun _ _ => rfl))))
    (pss_cons (ps_if (pt_cmpR c_ge (pv 10) (pv 3) (nomark _))
      (pss_one (ps_set (i := 13) S.nd rfl (Or.inl rfl) (pe_op (oK_add K) (pv 13) (pe_op o_mul (pe_ix (ixK_seq K) (pv 4) pe_int (fun _ _ => rfl)) (peK_bmS K PySem.F.plainAttrs_str PySem.F.slot_str_index PySem.F.type_str_index (mt_indexN rfl (L2N.takes_of rfl rfl rfl rfl)) (pv 1) (pa_cons (pe_ix (ixK_seq K) (pv 8) (pe_op o_sub (pv 10) (pv 3)) (fun _ _ => rfl)) pa_nil))))))
      (pss_one (ps_set (i := 13) S.nd rfl (Or.inl rfl) (pe_op (oK_add K) (pv 13) (pe_ix (ixK_seq K) (pv 4) pe_int (fun _ _ => rfl))))))
    (pss_one (ps_set (i := 9) S.nd rfl (Or.inl rfl) (pe_op (oK_add K) (pv 9) (pe_ix (ixK_seq K) (pv 2) (pe_op o_mod (pe_callTy b_int (by rfl) T.b_int (by decide +kernel) (pa_cons (pv 13) pa_nil)) (pe_callB (bK_len K) (by rfl) T.b_len (by decide +kernel) (pa_cons (pv 2) pa_nil))) (fun _ _ => rfl))))))))
    (pss_one (ps_expr (peK_bm K PySem.F.plainAttrs_list PySem.F.slot_list_append PySem.F.type_list_append mt_append (pv 6) (pa_cons (pe_tup (pa_cons (pv 8) (pa_cons (pv 9) pa_nil))) pa_nil))))))))
    (pss_cons (ps_if (PW.pt (pw_and (pt_cmpR c_gt (pe_callB (bK_len K) (by rfl) T.b_len (by decide +kernel) (pa_cons (pv 6) pa_nil)) pe_int (nomark _)) (pw_and1 (pt_cmpR (cK_eq K hr.units) (pe_has G_law_next (hr.mono (by decide)) (L2N.takes_of rfl rfl rfl rfl) rfl (pa_cons (pv 0) (pa_cons pe_int pa_nil))) pe_int (nomark _)))))
      (pss_cons (ps_set (i := 11) S.nd rfl (Or.inl rfl) (pe_ix (ixK_seq K) (pv 6) (pe_has G_law_next (hr.mono (by decide)) (L2N.takes_of rfl rfl rfl rfl) rfl (pa_cons (pv 0) (pa_cons (pe_callB (bK_len K) (by rfl) T.b_len (by decide +kernel) (pa_cons (pv 6) pa_nil)) pa_nil))) (fun _ _ => rfl)))
    (pss_cons (ps_set (i := 12) S.nd rfl (Or.inl rfl) (pe_has G_law_next (hr.mono (by decide)) (L2N.takes_of rfl rfl rfl rfl) rfl (pa_cons (pv 0) (pa_cons (pe_op (oK_add K) (pe_callB (bK_len K) (by rfl) T.b_len (by decide +kernel) (pa_cons (pe_ix (ixK_seq K) (pv 11) pe_int (fun _ _ => rfl)) pa_nil)) pe_int) pa_nil))))
    (pss_one (ps_if (pt_cmpR c_lt (pv 12) (pe_callB (bK_len K) (by rfl) T.b_len (by decide +kernel) (pa_cons (pe_ix (ixK_seq K) (pv 11) pe_int (fun _ _ => rfl)) pa_nil)) (nomark _))
      (pss_cons (ps_set (i := 14) S.nd rfl (Or.inl rfl) (pe_op (oK_add K) (pe_op (oK_add K) (pe_slice (slK_any K) (pe_ix (ixK_seq K) (pv 11) pe_int (fun _ _ => rfl)) po_none (po_some (pv 12))) (pe_ix (ixK_seq K) (pv 2) (pe_has G_law_next (hr.mono (by decide)) (L2N.takes_of rfl rfl rfl rfl) rfl (pa_cons (pv 0) (pa_cons (pe_callB (bK_len K) (by rfl) T.b_len (by decide +kernel) (pa_cons (pv 2) pa_nil)) pa_nil))) (fun _ _ => rfl))) (pe_slice (slK_any K) (pe_ix (ixK_seq K) (pv 11) pe_int (fun _ _ => rfl)) (po_some (pe_op (oK_add K) (pv 12) pe_int)) po_none)))
    (pss_one (ps_expr (peK_bm K PySem.F.plainAttrs_list PySem.F.slot_list_append PySem.F.type_list_append mt_append (pv 6) (pa_cons (pe_tup (pa_cons (pe_slice (slK_any K) (pe_ix (ixK_seq K) (pv 11) pe_int (fun _ _ => rfl)) po_none (po_some (pe_op (oK_add K) (pv 12) pe_int))) (pa_cons (pe_slice (slK_any K) (pv 14) po_none (po_some (pe_op (oK_add K) (pv 12) pe_int))) pa_nil))) pa_nil)))))
      pss_nil))))
      pss_nil)
    (pss_one (ps_ret (pv 6)))))))))), ?_⟩
    walk_at "rd"
    refine ⟨D, st, _, rfl, by decide, by decide, sm, X, fun D1 H1 re g1 X1 a0 a1 => ?_⟩
    refine ⟨4, rfl, by decide, by decide, fun pn npn => lc_it walk_r0 (n := 4) (fun j H' => ∃ (D' : Hp) (ns : List Int), Gr (· = st) D H D' H' ∧ Stt K D' H' st ∧ D' pn = none ∧ H' pn = some (.lst (ns.map V.int)) ∧ ns.length = j ∧ ∀ n ∈ ns, 0 ≤ n ∧ n < 7) ?_ (fun _ _ _ _ => trivial) ?_ ?_⟩
    · have nps : pn ≠ st := fun e => X1.is (e ▸ npn)
      exact ⟨D1, [], g1.lay npn, X1.put nps, g1.free npn, upd_same, rfl, fun _ z => nomatch z⟩
    · rintro j x H3 H4 hj ⟨D3, ns, g3, X3, hD3, hp3, hns, hnn⟩ ⟨rfl, rfl⟩
      have nps : pn ≠ st := fun e => X1.is (e ▸ npn)
      walk_at "rd"
      refine ⟨rfl, ?_⟩
      walk_at "rd"
      refine ⟨D3, st, _, rfl, by decide, by decide, g3.sub, X3, fun D5 H5 r g5 X5 r0 r1 => ?_⟩
      have hp5 := g5.same _ _ nps hp3
      have hD5 := g5.stay hD3 hp3
      refine ⟨_, hp5, by rw [List.length_map, hns]; exact ltBig (by omega), D5, ns ++ [r], ((g3.trans g5).put hD5 (.inl (g1.kept _ npn))), X5.put nps, hD5, by rw [upd_same, List.map_append]; rfl, by simp [hns], fun n hn => ?_⟩
      rcases List.mem_append.mp hn with hn | hn
      · exact hnn n hn
      · rw [List.mem_singleton.mp hn]
        exact ⟨r0, r1⟩
    rintro H2 ⟨D2, ns, g2, X2, hDn, hpn, hns, hnn⟩
    have nps : pn ≠ st := fun e => X1.is (e ▸ npn)
    have hns : ns.length = 4 := hns
    have pn0 : H pn = none := g1.kept _ npn
    obtain ⟨n0, n1, n2, n3, rfl⟩ : ∃ n0 n1 n2 n3, ns = [n0, n1, n2, n3] := by
      match ns, hns with
      | [a, b, c, d], _ => exact ⟨a, b, c, d, rfl⟩
    have p0 := hnn n0 (by simp)
    have p1 := hnn n1 (by simp)
    have p2 := hnn n2 (by simp)
    have p3 := hnn n3 (by simp)
    have hDH : ∀ {D' H'}, Gr (· = st) D2 H2 D' H' → H' pn = some (.lst [.int n0, .int n1, .int n2, .int n3]) := fun g => g.same _ _ nps hpn
    with_reducible refine s_gname ?_
    dsimp only
    with_reducible refine s_seq ?_
    with_reducible refine s_asg ?_
    with_reducible refine s_c ?_
    with_reducible refine s_gname ?_
    dsimp only
    refine s_cut (fun σ' H' => ∃ (D' : Hp) (re mo : Int), Gr (· = st) D2 H2 D' H' ∧ Stt K D' H' st ∧ 0 ≤ re ∧ 0 ≤ mo ∧ mo ≤ 200 ∧ σ' = [some (.ref st), some (.str l), some (.str im), some (.int re), some (.ref pn), some (.int mo), none, none, none, none, none, none, none, none, none]) ?_ (fun N rest => ?_)
    · rintro σ' H3 ⟨D3, re, mo, g3, X3, hre, hmo, hmo2, rfl⟩
      walk_at "rd"
      refine ⟨Nat.zero_le _, fun pl npl => ?_⟩
      have npls : pl ≠ st := fun e => X3.is (e ▸ npl)
      have gL := g2.trans g3
      have pl0 : H pl = none := gL.kept _ npl
      have hDl := gL.free npl
      have g4 := gL.lay (o := .lst []) npl
      walk_at "rd"
      refine ⟨D3, st, _, rfl, by decide, by decide, g4.sub, X3.put npls, fun D5 H5 cnt g5 X5 c0 c1 => ?_⟩
      have hpl5 := g5.same pl _ npls upd_same
      have hDl5 := g5.stay hDl upd_same
      have gB := g4.trans g5
      have hpn5 : H5 pn = some (.lst [.int n0, .int n1, .int n2, .int n3]) := hDH ((g3.lay (o := .lst []) npl).trans g5)
      have nlp : pl ≠ pn := fun e => by rw [e, hDH g3] at npl; cases npl
      walk_at "rd"
      refine ⟨cnt, rfl, by omega, by omega, lp_it walk_r0 (fun i σ H' => ∃ (D' : Hp) (xs : List V) (ps : List Pr) (o7 o8 o9 o10 o13 : Option V), Gr (· = st) D H D' H' ∧ Stt K D' H' st ∧ D' pl = none ∧ H' pl = some (.lst xs) ∧ H' pn = some (.lst [.int n0, .int n1, .int n2, .int n3]) ∧ DpAll K D' xs (ps.map dP) ∧ ps.length = i ∧ (∀ p ∈ ps, PokW l im 200 p) ∧ σ = [some (.ref st), some (.str l), some (.str im), some (.int re), some (.ref pn), some (.int mo), some (.ref pl), o7, o8, o9, o10, none, none, o13, none])
        ⟨D5, [], [], none, none, none, none, none, gB, X5, hDl5, hpl5, hpn5, .nil, rfl, (fun _ z => nomatch z), rfl⟩ (fun _ _ _ _ _ => trivial) ?_ ?_⟩
      · rintro i x σ H6 H7 hi7 ⟨D6, xs, ps, o7, o8, o9, o10, o13, g6, X6, hD6, hpl6, hpn6, hxs, hpsl, hpok, rfl⟩ ⟨rfl, rfl⟩
        have hi6 : i < 6 := by omega
        walk_at "rd"
        refine ⟨D6, st, _, rfl, by omega, by omega, g6.sub, X6, fun D8 H8 r g8 X8 r0 r1 => ?_⟩
        walk_at "rd"
        refine ⟨D8, st, l, r.toNat, by rw [Int.toNat_of_nonneg r0], hl.1, by omega, by omega, g8.sub, X8, fun D9 H9 z g9 X9 zl zc => ?_⟩
        have hz200 : z.length ≤ 200 := by omega
        have hzz := le1000 (by omega : z.length ≤ 1000)
        have hpl9 := g9.same _ _ npls (g8.same _ _ npls hpl6)
        have hpn9 := g9.same _ _ nps (g8.same _ _ nps hpn6)
        have hD9 := g9.stay (g8.stay hD6 hpl6) (g8.same _ _ npls hpl6)
        have hxs9 := Y.Dp.monoAll (g8.trans g9).dd hxs
        have gC := (g6.trans g8).trans g9
        have hSn : SqL K H9 pn [.int n0, .int n1, .int n2, .int n3] := sql hpn9
        walk_at "rd"
        refine ⟨_, rfl, by omega, by omega, lp_it walk_r0 (fun j σ H' => ∃ (y : Str) (o10 o13 : Option V), H' = H9 ∧ y.length = j ∧ (∀ c ∈ y.cps.toList, c ∈ im.cps.toList) ∧ σ = [some (.ref st), some (.str l), some (.str im), some (.int re), some (.ref pn), some (.int mo), some (.ref pl), some (.int (i : Nat)), some (.str z), some (.str y), o10, none, none, o13, none]) ⟨"", _, _, rfl, rfl, (fun _ z => nomatch z), rfl⟩ (fun _ _ _ _ _ => trivial) ?_ ?_⟩
        · rintro j x σ H10 H11 hj ⟨y, o10, o13, rfl, hyl, hyc, rfl⟩ ⟨rfl, rfl⟩
          have hj2 : j < z.cps.toList.length := by rw [len_list]; omega
          have ixz : ∀ (a : Int) (Q : VK), 0 ≤ a → a < z.length → (∀ c, c ∈ l.cps.toList → Q (.str ⟨#[c]⟩) H11) → rIx K (.str z) (.int a) H11 Q := fun a Q h0 h1 k => by
            have ha : a.toNat < z.cps.toList.length := by
              rw [len_list]
              omega
            exact s_ix_s hzz (atI_i (j := a.toNat) (by omega) (List.getElem?_eq_getElem ha)) (k _ (zc _ (List.getElem_mem ha)))
          have ixl : ∀ {W : WX} {σ : L2.St} {Q : VK} {c : Nat}, c ∈ l.cps.toList → (∀ k : Nat, k < 4 → Q (.int (k : Nat)) H11) → rIndexX W σ (.str l) [.str ⟨#[c]⟩] H11 Q := fun {W σ Q c} hc k => s_index (idx_one hc) (k _ (by
            have := (ixOf_spec hc).2.1
            rw [len_list] at this
            omega))
          walk_at "rd"
          refine s_ix_l hSn atI_0 ?_
          walk_at "rd"
          refine ⟨rfl, ?_⟩
          walk_at "rd"
          refine ixz _ _ (by omega) ?_ fun c hc => ?_
          · omega
          walk_at "rd"
          refine ixl hc fun k0 hk0 => ?_
          walk_at "rd"
          refine s_mul (.inl ⟨by omega, by omega⟩) ?_
          walk_at "rd"
          refine s_ix_l hSn (atI_i (j := 1) rfl rfl) ?_
          refine s_add_i ?_
          with_reducible refine s_gname ?_
          refine s_cut (fun σ' H' => ∃ told : Int, H' = H11 ∧ σ' = [some (.ref st), some (.str l), some (.str im), some (.int re), some (.ref pn), some (.int mo), some (.ref pl), some (.int (i : Nat)), some (.str z), some (.str y), some (.int (j : Nat)), none, none, some (.int told), none]) ?_ (fun N rest => ?_)
          · rintro σ' H' ⟨told, rfl, rfl⟩
            walk_at "rd"
            refine s_mod (by omega) ?_
            have m0 := Int.emod_nonneg told (by omega : (im.length : Int) ≠ 0)
            have m1 := Int.emod_lt_of_pos told (by omega : (0 : Int) < im.length)
            have hm : (told % (im.length : Int)).toNat < im.cps.toList.length := by rw [len_list]; omega
            refine s_ix_s hiz (atI_i (j := (told % (im.length : Int)).toNat) (by omega) (List.getElem?_eq_getElem hm)) ?_
            have l1 : (⟨#[im.cps.toList[(told % (im.length : Int)).toNat]'hm]⟩ : Str).length = 1 := rfl
            refine s_add_s (by rw [l1]; exact le1000 (by omega)) ?_
            walk_at "rd"
            refine ⟨_, _, _, rfl, by rw [app_len, l1, hyl], fun c hc => ?_, rfl⟩
            have hcm : c ∈ TL.tl (y ++ _) := hc
            rw [TL.tl_append] at hcm
            rcases List.mem_append.mp hcm with hcm | hcm
            · exact hyc c hcm
            · rw [show c = im.cps.toList[(told % (im.length : Int)).toNat]'hm from List.mem_singleton.mp hcm]
              exact List.getElem_mem _
          · walk_at "rd"
            refine jtD (fun e => ?_) (fun e => ?_)
            · walk_at "rd"
              refine s_ix_l hSn (atI_i (j := 2) rfl rfl) ?_
              walk_at "rd"
              refine ⟨rfl, ?_⟩
              walk_at "rd"
              refine ixz _ _ (by omega) ?_ fun c hc => ?_
              · omega
              walk_at "rd"
              refine ixl hc fun k2 hk2 => ?_
              walk_at "rd"
              refine s_mul (.inl ⟨by omega, by omega⟩) ?_
              walk_at "rd"
              exact rest _ _ ⟨_, rfl, rfl⟩
            · walk_at "rd"
              refine s_ix_l hSn (atI_i (j := 3) rfl rfl) ?_
              walk_at "rd"
              exact rest _ _ ⟨_, rfl, rfl⟩
        · rintro σ H10 ⟨y, o10, o13, eH, hyl, hyc, rfl⟩
          subst eH
          have hyl : y.length = z.length := by rw [hyl]; exact Int.toNat_natCast _
          walk_at "rd"
          refine ⟨ty_l hpl9, ?_⟩
          walk_at "rd"
          refine ⟨le1000 (by simp), fun t nt => ?_⟩
          have nts : t ≠ st := fun e => X9.is (e ▸ nt)
          have npt : pl ≠ t := fun e => by rw [← e, hpl9] at nt; cases nt
          have nnt : pn ≠ t := fun e => by rw [← e, hpn9] at nt; cases nt
          have gT := gC.ice (o := .tup [.str z, .str y]) nt
          have dT : Dp K (upd D9 t (.tup [.str z, .str y])) (.ref t) (dP (z, y)) := .tup (sqt upd_same) (.cons (.str _) (.cons (.str _) .nil))
          have hplT : (upd H10 t (.tup [.str z, .str y])) pl = some (.lst xs) := (upd_ne npt).trans hpl9
          walk_at "rd"
          refine s_append hplT (by rw [dpl_len hxs, List.length_map]; exact ltBig (by omega)) ?_
          refine ⟨_, xs ++ [.ref t], ps ++ [(z, y)], _, _, _, _, _, gT.put (by rw [upd_ne npt]; exact hD9) (.inl pl0), ((X9.put nts).frz nts (gC.free nt)).put npls, by rw [upd_ne npt]; exact hD9, upd_same, (upd_ne (Ne.symm nlp)).trans ((upd_ne nnt).trans hpn9), ?_, by simp [hpsl], fun p hp => ?_, rfl⟩
          · rw [List.map_append]
            exact dpl_snoc (Y.Dp.monoAll (same_new (gC.free nt)) hxs9) dT
          · rcases List.mem_append.mp hp with hp | hp
            · exact hpok p hp
            · rw [List.mem_singleton.mp hp]
              exact ⟨hyl.symm, hz200, zc, hyc⟩
      · rintro σ H6 ⟨D6, xs, ps, o7, o8, o9, o10, o13, g6, X6, hD6, hpl6, hpn6, hxs, hpsl, hpok, rfl⟩
        have fin : ∀ (D' H' : Hp) (xs : List V) (ps : List Pr), Gr (· = st) D H D' H' → Stt K D' H' st → D' pl = none → H' pl = some (.lst xs) → DpAll K D' xs (ps.map dP) → ps.length ≤ 6 → (∀ p ∈ ps, PokW l im 200 p) → Q (.ref pl) H' := fun D' H' xs ps g X h1 h2 h3 h4 h5 =>
          q _ H' pl xs ps (g.cold h2 pl0) (X.frz npls h1) upd_same (Y.Dp.monoAll (same_new h1) h3) h4 h5
        have hxl : xs.length = ps.length := by rw [dpl_len hxs, List.length_map]
        have hp5 : ps.length < 6 := by omega
        walk_at "rd"
        refine s_len_l (sql hpl6) ?_
        walk_at "rd"
        refine jtD (fun e1 => ?_) (fun e1 => ?_)
        · walk_at "rd"
          refine ⟨D6, st, _, rfl, by decide, by decide, g6.sub, X6, fun D8 H8 r8 g8 X8 r80 r81 => ?_⟩
          have hpl8 := g8.same _ _ npls hpl6
          have hD8 := g8.stay hD6 hpl6
          have hxs8 := Y.Dp.monoAll g8.dd hxs
          walk_at "rd"
          refine jtD (fun e2 => ?_) (fun e2 => ?_)
          · walk_at "rd"
            refine s_len_l (sql hpl8) ?_
            walk_at "rd"
            refine ⟨D8, st, _, rfl, by omega, by omega, g8.sub, X8, fun D9 H9 r9 g9 X9 r90 r91 => ?_⟩
            have hpl9 := g9.same _ _ npls hpl8
            have hD9 := g9.stay hD8 hpl8
            have hxs9 := Y.Dp.monoAll g9.dd hxs8
            have gC := (g6.trans g8).trans g9
            have hr9 : r9.toNat < ps.length := by omega
            obtain ⟨p, hp⟩ : ∃ p, ps[r9.toNat]? = some p := ⟨_, List.getElem?_eq_getElem hr9⟩
            have hpk := hpok p (List.mem_of_getElem? hp)
            obtain ⟨x, hx⟩ : ∃ x, xs[r9.toNat]? = some x := ⟨_, List.getElem?_eq_getElem (by omega)⟩
            obtain ⟨d, hd, hx2⟩ := dpl_get hxs9 hx
            rw [List.getElem?_map, hp] at hd
            cases hd
            obtain ⟨b, rfl, hb⟩ := dP_get hx2
            refine s_ix_l (sql hpl9) (atI_i (j := r9.toNat) (by omega) hx) ?_
            have hb9 := sqt_up (Gr.refl (m := (· = st)) gC.sub) hb
            have z1 := le1000 (Nat.le_trans hpk.le (by decide) : p.1.length ≤ 1000)
            have z2 := le1000 (by have := hpk.le; have := hpk.eq; omega : p.2.length ≤ 1000)
            have hpe := hpk.eq
            have hpl := hpk.le
            walk_at "rd"
            refine ⟨D9, st, _, rfl, by omega, by omega, g9.sub, X9, fun D10 H10 c g10 X10 c0 c1 => ?_⟩
            have hb10 := sqt_up g10 hb
            walk_at "rd"
            refine jtD (fun e3 => ?_) (fun e3 => ?_)
            · have ec : ((c.toNat : Nat) : Int) = c := Int.toNat_of_nonneg c0
              rw [← ec]
              rw [← ec] at e3
              generalize c.toNat = cn at *
              walk_at "rd"
              refine s_sl_s z2 ?_
              walk_at "rd"
              refine ⟨D10, st, _, rfl, by omega, by omega, g10.sub, X10, fun D11 H11 r11 g11 X11 a0 a1 => ?_⟩
              have hb11 := sqt_up (g10.trans g11) hb
              have hm : r11.toNat < im.cps.toList.length := by rw [len_list]; omega
              walk_at "rd"
              refine s_ix_s hiz (atI_i (j := r11.toNat) (by omega) (List.getElem?_eq_getElem hm)) ?_
              have ln1 : (cutS p.2 none (some (cn : Int))).length = cn := by
                rw [← len_list]
                show (TL.tl _).length = _
                rw [tl_cutL, List.length_take]
                show min cn p.2.cps.toList.length = cn
                rw [len_list]
                omega
              have ln2 : (cutS p.2 (some ((cn : Int) + 1)) none).length = p.2.length - (cn + 1) := by
                rw [← len_list]
                show (TL.tl _).length = _
                rw [show ((cn : Int) + 1) = ((cn + 1 : Nat) : Int) by omega, tl_cutR, List.length_drop]
                show p.2.cps.toList.length - (cn + 1) = _
                rw [len_list]
              have l1 : (⟨#[im.cps.toList[r11.toNat]'hm]⟩ : Str).length = 1 := rfl
              refine s_add_s (by rw [l1, ln1]; exact le1000 (by omega)) ?_
              walk_at "rd"
              refine s_sl_s z2 ?_
              refine s_add_s (by rw [app_len, l1, ln1, ln2]; exact le1000 (by omega)) ?_
              have chl : (cutS p.2 none (some (cn : Int)) ++ ⟨#[im.cps.toList[r11.toNat]'hm]⟩ ++ cutS p.2 (some ((cn : Int) + 1)) none).length = p.2.length := by
                rw [app_len, app_len, l1, ln1, ln2]
                omega
              have chc : ∀ c ∈ (cutS p.2 none (some (cn : Int)) ++ ⟨#[im.cps.toList[r11.toNat]'hm]⟩ ++ cutS p.2 (some ((cn : Int) + 1)) none).cps.toList, c ∈ im.cps.toList := fun c hc => by
                have hcm : c ∈ TL.tl (_ ++ _) := hc
                rw [TL.tl_append, TL.tl_append] at hcm
                rcases List.mem_append.mp hcm with hcm | hcm
                · rcases List.mem_append.mp hcm with hcm | hcm
                  · exact hpk.im c (List.mem_of_mem_drop (List.mem_of_mem_take hcm))
                  · rw [show c = im.cps.toList[r11.toNat]'hm from List.mem_singleton.mp hcm]
                    exact List.getElem_mem _
                · exact hpk.im c (List.mem_of_mem_drop (List.mem_of_mem_take hcm))
              generalize (cutS p.2 none (some (cn : Int)) ++ ⟨#[im.cps.toList[r11.toNat]'hm]⟩ ++ cutS p.2 (some ((cn : Int) + 1)) none) = ch at *
              have z3 := le1000 (by omega : ch.length ≤ 1000)
              have hpl11 := g11.same _ _ npls (g10.same _ _ npls hpl9)
              have hD11 := g11.stay (g10.stay hD9 hpl9) (g10.same _ _ npls hpl9)
              have gE := (gC.trans g10).trans g11
              walk_at "rd"
              refine ⟨ty_l hpl11, ?_⟩
              walk_at "rd"
              refine s_sl_s z1 ?_
              walk_at "rd"
              refine s_sl_s z3 ?_
              walk_at "rd"
              refine ⟨le1000 (by simp), fun t nt => ?_⟩
              have nts : t ≠ st := fun e => X11.is (e ▸ nt)
              have npt : pl ≠ t := fun e => by rw [← e, hpl11] at nt; cases nt
              walk_at "rd"
              refine s_append ((upd_ne npt).trans hpl11) (by rw [hxl]; exact ltBig (by omega)) ?_
              walk_at "rd"
              have cutl : ∀ y : Str, cn < y.length → (cutS y none (some ((cn : Int) + 1))).length = cn + 1 := fun y hy => by
                rw [← len_list]
                show (TL.tl _).length = _
                rw [show ((cn : Int) + 1) = ((cn + 1 : Nat) : Int) by omega, tl_cutL, List.length_take]
                show min (cn + 1) y.cps.toList.length = cn + 1
                rw [len_list]
                omega
              have cutc : ∀ y : Str, ∀ c ∈ (cutS y none (some ((cn : Int) + 1))).cps.toList, c ∈ y.cps.toList := fun y c hc => List.mem_of_mem_drop (List.mem_of_mem_take hc)
              have gT := gE.ice (o := .tup [.str (cutS p.1 none (some ((cn : Int) + 1))), .str (cutS ch none (some ((cn : Int) + 1)))]) nt
              have dT : Dp K (upd D11 t (.tup [.str (cutS p.1 none (some ((cn : Int) + 1))), .str (cutS ch none (some ((cn : Int) + 1)))])) (.ref t) (dP (cutS p.1 none (some ((cn : Int) + 1)), cutS ch none (some ((cn : Int) + 1)))) := .tup (sqt upd_same) (.cons (.str _) (.cons (.str _) .nil))
              refine fin _ _ (xs ++ [.ref t]) (ps ++ [(cutS p.1 none (some ((cn : Int) + 1)), cutS ch none (some ((cn : Int) + 1)))]) (gT.put (by rw [upd_ne npt]; exact hD11) (.inl pl0)) (((X11.put nts).frz nts (gE.free nt)).put npls) (by rw [upd_ne npt]; exact hD11) upd_same ?_ (by simp; omega) fun u hu => ?_
              · rw [List.map_append]
                exact dpl_snoc (Y.Dp.monoAll (same_new (gE.free nt)) (Y.Dp.monoAll (g10.trans g11).dd hxs9)) dT
              · rcases List.mem_append.mp hu with hu | hu
                · exact hpok u hu
                · rw [List.mem_singleton.mp hu]
                  have q1 := cutl p.1 (by omega)
                  have q2 := cutl ch (by omega)
                  exact ⟨q1.trans q2.symm, by rw [q1]; omega, fun c hc => hpk.wd c (cutc _ c hc), fun c hc => chc c (cutc _ c hc)⟩
            · walk_at "rd"
              exact fin D10 H10 xs ps (gC.trans g10) X10 (g10.stay hD9 hpl9) (g10.same _ _ npls hpl9) (Y.Dp.monoAll g10.dd hxs9) (by omega) hpok
          · walk_at "rd"
            exact fin D8 H8 xs ps (g6.trans g8) X8 hD8 hpl8 hxs8 (by omega) hpok
        · walk_at "rd"
          exact fin D6 H6 xs ps g6 X6 hD6 hpl6 hxs (by omega) hpok
    · walk_at "rd"
      refine ⟨D2, st, _, rfl, by decide, by decide, g2.sub, X2, fun D3 H3 r3 g3 X3 b0 b1 => ?_⟩
      walk_at "rd"
      refine jtD (fun e => ?_) (fun e => ?_)
      · walk_at "rd"
        refine s_mul (.inl ⟨by decide, by decide⟩) ?_
        walk_at "rd"
        refine ⟨D3, st, _, rfl, by decide, by decide, g3.sub, X3, fun D4 H4 r4 g4 X4 d0 d1 => ?_⟩
        walk_at "rd"
        exact rest _ _ ⟨D4, _, 200, ((Gr.refl (m := (· = st)) g2.sub).trans g3).trans g4, X4, by omega, by decide, by decide, rfl⟩
      · walk_at "rd"
        exact rest _ _ ⟨D3, _, 12, (Gr.refl (m := (· = st)) g2.sub).trans g3, X3, a0, by decide, by decide, rfl⟩
end
end H89

namespace H89
open PySem PySem.Spec L2 He Y Hk89
local macro_rules | `(tactic| walk_at "rd1") => `(tactic| first
  | with_reducible refine s_seq ?_
  | with_reducible refine s_asg ?_
  | with_reducible refine s_gname ?_
  | ((with_reducible refine s_var (v := ?_) ?_ ?_); rotate_left; exact rfl)
  | with_reducible refine s_c ?_
  | with_reducible refine s_op ?_
  | with_reducible refine s_un ?_
  | with_reducible refine s_nil ?_
  | with_reducible refine s_cons ?_
  | with_reducible refine s_CB ?_
  | with_reducible refine s_ifS ?_
  | with_reducible refine s_test ?_
  | with_reducible refine s_B ?_
  | with_reducible refine s_xb ?_
  | with_reducible refine s_xi ?_
  | with_reducible refine s_xs ?_
  | with_reducible refine s_or ?_
  | with_reducible refine s_and ?_
  | with_reducible refine s_not ?_
  | with_reducible refine s_orV ?_
  | with_reducible refine s_andV ?_
  | with_reducible refine s_notV ?_
  | with_reducible refine s_ret ?_
  | with_reducible refine s_retN ?_
  | with_reducible refine s_next ?_
  | with_reducible refine s_drop ?_
  | with_reducible refine s_yes ?_
  | with_reducible refine s_for ?_
  | with_reducible refine s_lc ?_
  | with_reducible refine s_iStr ?_
  | with_reducible refine s_iList ?_
  | with_reducible refine s_iTup ?_
  | with_reducible refine s_iR1 ?_
  | with_reducible refine s_iR2 ?_
  | with_reducible refine s_iE ?_
  | with_reducible refine s_iET ?_
  | with_reducible refine s_iES ?_
  | with_reducible refine s_tup ?_
  | with_reducible refine s_lst ?_
  | with_reducible refine s_BM ?_
  | with_reducible refine s_BM0 ?_
  | with_reducible refine s_BMS _ ?_
  | with_reducible refine s_M1 ?_
  | with_reducible refine s_sl ?_
  | with_reducible refine s_noP ?_
  | with_reducible refine s_po ?_
  | with_reducible refine s_call ?_
  | with_reducible refine s_callS ?_
  | with_reducible refine s_make ?_
  | with_reducible refine s_makeS ?_
  | with_reducible refine s_methS ?_
  | with_reducible refine s_callO ?_
  | with_reducible refine s_dnew ?_
  | with_reducible refine s_dget ?_
  | with_reducible refine s_din ?_
  | with_reducible refine s_dnin ?_
  | with_reducible refine s_dput ?_
  | with_reducible refine s_dsetd ?_
  | with_reducible refine s_dget2 ?_
  | with_reducible refine s_fld ?_
  | with_reducible refine s_sFld ?_
  | with_reducible refine s_rz ?_
  | with_reducible refine s_asgS ?_
  | with_reducible refine s_gSub ?_
  | with_reducible refine s_ifE ?_
  | with_reducible refine s_add_i ?_
  | with_reducible refine s_sub ?_
  | with_reducible refine s_neg ?_
  | with_reducible refine s_eq_i ?_
  | with_reducible refine s_eq_s ?_
  | with_reducible refine s_ne_i ?_
  | with_reducible refine s_ne_s ?_
  | with_reducible refine s_lt_i ?_
  | with_reducible refine s_le_i ?_
  | with_reducible refine s_gt_i ?_
  | with_reducible refine s_ge_i ?_
  | with_reducible refine s_lt_s ?_
  | with_reducible refine s_le_s ?_
  | with_reducible refine s_gt_s ?_
  | with_reducible refine s_ge_s ?_
  | with_reducible refine s_in_c ?_
  | with_reducible refine s_ni_c ?_
  | with_reducible refine s_isN ?_
  | with_reducible refine s_noN ?_
  | with_reducible refine s_abs ?_
  | with_reducible refine s_min2 ?_
  | with_reducible refine s_max2 ?_
  | with_reducible refine s_int_i ?_
  | ((with_reducible refine s_len_s ?_ ?_); assumption)
  | ((with_reducible refine s_len_l (xs := ?_) ?_ ?_); rotate_left; assumption)
  | ((with_reducible refine s_len_t (xs := ?_) ?_ ?_); rotate_left; assumption)
  | with_reducible refine s_pair upd_same ?_
  | with_reducible refine s_callS ?_
  | with_reducible refine s_sortK ?_
  | with_reducible refine s_lc2 ?_
  | with_reducible refine s_disp ?_
  | with_reducible refine s_pcons ?_
  | with_reducible refine s_pnil ?_
  | ((with_reducible refine s_ix_t (by assumption) (by first | exact atI_0 | exact atI_i (j := 1) rfl rfl | exact atI_i (j := 2) rfl rfl | exact atI_i (j := 3) rfl rfl) ?_))
  | with_reducible refine jtT ?_
  | with_reducible refine jtF ?_
  | with_reducible refine jtNT ?_
  | with_reducible refine jtNF ?_
  | dsimp only)
local macro_rules | `(tactic| walk_at "rd") => `(tactic| repeat (walk_at "rd1"))

section
variable {P : Program} {w : World} {K : PySem.W.Frag} {mg : Str → Option Value} {base : Heap}
theorem S_law_clashes : FnScope ["pairs", "size", "seen", "pair", "at", "view"] ["pairs", "size"] (d_law_clashes).scope := ⟨rfl, rfl, rfl, by decide +kernel, rfl, by decide +kernel, by decide +kernel⟩
def sp_clashes (K : PySem.W.Frag) : Sp := fun vs H Q E => ∃ (D : Hp) (v : V) (ps : List Pr) (size : Int), vs = [v, .int size] ∧ Same D H ∧ Dp K D v (dPs ps) ∧ Fine ps ∧
  (bP size ps [] = none → ∀ H', Gr No D H D H' → Q (.bl true) H') ∧ (bP size ps [] ≠ none → ∀ H', Gr No D H D H' → Q (.bl false) H')
theorem w_law_clashes (T : Txt P w K mg) : Has P w K mg base 4 "_law_clashes" (sp_clashes K) := by
  have S := S_law_clashes
  refine has_of (k := 3) T.d_law_clashes T.gd_law_clashes S (fun _ _ _ _ _ _ us hl => match us, hl with | [_, _], _ => rfl) (fun vs H Q E h => ?_) (fun f cdv A outer s H vs Q E hr h => ?_)
  · obtain ⟨D, v, ps, size, rfl, _⟩ := h
    rfl
  · obtain ⟨D, v, ps, size, rfl, sm, dv, fine, q1, q2⟩ := h
    obtain ⟨a, xs, rfl, ha, hxs⟩ := dp_list dv
    have hfew := fine.few
    refine ⟨_, (pss_cons (ps_set (i := 2) S.nd rfl (Or.inl rfl) pe_dnewK)
    (pss_cons (ps_for (passes_of rfl) rfl (piK_list K (pv 0)) (pg_name (i := 3) S.nd rfl (Or.inl rfl))
      (pss_one (ps_for (passes_of rfl) rfl (pi_range1 (by rfl) T.b_range (pa_cons (pe_callB (bK_len K) (by rfl) T.b_len (by decide +kernel) (pa_cons (pe_ix (ixK_seq K) (pv 3) pe_int (fun _ _ => rfl)) pa_nil)) pa_nil)) (pg_name (i := 4) S.nd rfl (Or.inl rfl))
      (pss_cons (ps_set (i := 5) S.nd rfl (Or.inl rfl) (pe_slice (slK_any K) (pe_ix (ixK_seq K) (pv 3) pe_int (fun _ _ => rfl)) (po_some (pe_callB (b_max rfl) (by rfl) T.b_max (by decide +kernel) (pa_cons pe_int (pa_cons (pe_op (oK_add K) (pe_op o_sub (pv 4) (pv 1)) pe_int) pa_nil)))) (po_some (pe_op (oK_add K) (pv 4) pe_int))))
    (pss_cons (ps_if (PW.pt (pw_and (pt_cmp (pc_din (hu_of hr) (pv 5) (pv 2))) (pw_and1 (pt_cmpR (cK_ne K hr.units) (pe_dget (hu_of hr) (pv 2) (pv 5) (fun _ _ => rfl)) (pe_ix (ixK_seq K) (pe_ix (ixK_seq K) (pv 3) pe_int (fun _ _ => rfl)) (pv 4) (fun _ _ => rfl)) (nomark _)))))
      (pss_one (ps_ret pe_bl))
      pss_nil)
    (pss_one (ps_dput (hu_of hr) (pv 2) (pv 5) (pe_ix (ixK_seq K) (pe_ix (ixK_seq K) (pv 3) pe_int (fun _ _ => rfl)) (pv 4) (fun _ _ => rfl)) rfl)))))))
    (pss_one (ps_ret pe_bl)))), ?_⟩
    walk_at "rd"
    intro td ntd
    have gt := (Gr.refl (m := No) sm).lay (o := .dK []) ntd
    have hDt : D td = none := (Gr.refl (m := No) sm).free ntd
    have haH := sql_up gt ha
    walk_at "rd"
    refine ⟨a, rfl, ⟨_, haH⟩, lp_it walk_list (fun i σ H' => ∃ t1 kvs o3 o4 o5, Gr No D H D H' ∧ H' td = some (.dK kvs) ∧ KvR IsS kvs t1 ∧ t1.length ≤ 1000 * i ∧ σ = [some (.ref a), some (.int size), some (.ref td), o3, o4, o5] ∧ bP size (ps.drop i) t1 = bP size ps [])
      ⟨[], [], none, none, none, gt, upd_same, .nil, Nat.zero_le _, rfl, rfl⟩ (fun i σ H' _ ⟨_, _, _, _, _, g, _⟩ => g.sub.seq ha) ?_ ?_⟩
    · rintro i x σ H3 H4 hi ⟨t1, kvs, o3, o4, o5, g3, hk, hkv, hlt, rfl, en⟩ ⟨rfl, ex⟩
      obtain ⟨d, hd, hx2⟩ := dpl_get hxs ex
      rw [List.getElem?_map] at hd
      obtain ⟨p, hp, rfl⟩ := Option.map_eq_some_iff.mp hd
      obtain ⟨b, rfl, hb2⟩ := dP_get hx2
      obtain ⟨hi1, ep⟩ := List.getElem?_eq_some_iff.mp hp
      rw [List.drop_eq_getElem_cons hi1, ep, bP_cons] at en
      have hlen := fine.len p (List.mem_of_getElem? hp)
      have heq := fine.eq p (List.mem_of_getElem? hp)
      have hl1 := le1000 hlen.1
      have hbH := same_seqT g3.sub hb2
      walk_at "rd"
      refine ⟨_, rfl, by omega, by omega, lp_it walk_r0 (fun j σ H' => ∃ t1 kvs o4 o5, Gr No D H D H' ∧ H' td = some (.dK kvs) ∧ KvR IsS kvs t1 ∧ t1.length ≤ 1000 * i + j ∧ σ = [some (.ref a), some (.int size), some (.ref td), some (.ref b), o4, o5] ∧
        (match bW size p.1 p.2 (p.1.length - j) j t1 with
          | none => none
          | some t2 => bP size (ps.drop (i + 1)) t2) = bP size ps []) ⟨t1, kvs, _, _, g3, hk, hkv, hlt, rfl, en⟩ (fun _ _ _ _ _ => trivial) ?_ ?_⟩
      · rintro j x σ H5 H6 hj ⟨t1, kvs, o4, o5, g5, hk, hkv, hlt, rfl, en⟩ ⟨rfl, rfl⟩
        have hj1 : j < p.1.length := by omega
        have hj2 : j < p.2.length := by omega
        rw [show p.1.length - j = (p.1.length - (j + 1)) + 1 by omega, bW_succ] at en
        have hkl := hkv.len
        have hbH5 := same_seqT g5.sub hb2
        have evc : cutS p.1 (some (if (j : Int) - size + 1 > 0 then (j : Int) - size + 1 else 0)) (some ((j : Int) + 1)) = viewI p.1 (j : Nat) size := rfl
        generalize viewI p.1 (j : Nat) size = vw at *
        have put : ∀ (en2 : (match bW size p.1 p.2 (p.1.length - (j + 1)) (j + 1) (putS t1 vw (chr p.2 j)) with
            | none => none
            | some t2 => bP size (ps.drop (i + 1)) t2) = bP size ps []), ∃ t1' kvs' o4 o5, Gr No D H D (upd H6 td (.dK (putK kvs (Sum.inr vw) (.str (chr p.2 j))))) ∧ (upd H6 td (.dK (putK kvs (Sum.inr vw) (.str (chr p.2 j))))) td = some (.dK kvs') ∧ KvR IsS kvs' t1' ∧ t1'.length ≤ 1000 * i + (j + 1) ∧
            ([some (V.ref a), some (V.int size), some (V.ref td), some (V.ref b), some (V.int (j : Nat)), some (V.str vw)] : L2.St) = [some (.ref a), some (.int size), some (.ref td), some (.ref b), o4, o5] ∧
            (match bW size p.1 p.2 (p.1.length - (j + 1)) (j + 1) t1' with
              | none => none
              | some t2 => bP size (ps.drop (i + 1)) t2) = bP size ps [] := fun en2 =>
          ⟨_, _, _, _, g5.put hDt (.inl ntd), upd_same, KvR.put (R := IsS) rfl hkv, Nat.le_trans (putS_len _ _ _) (by omega), rfl, en2⟩
        walk_at "rd"
        refine s_sl_s hl1 ?_
        rw [evc]
        have hch : ∀ Q : VK, Q (.str (chr p.2 j)) H6 → rIx K (.str p.2) (.int (j : Nat)) H6 Q := fun Q q => s_ix_s (le1000 hlen.2) (atI_chr hj2) q
        rcases dgetS hk hkv vw with ⟨hd, hg⟩ | ⟨v, y, hd, hg, rfl⟩
        · rw [hg] at en
          walk_at "rd"
          refine ⟨td, _, rfl, hd, ?_⟩
          walk_at "rd"
          refine jtF ?_
          walk_at "rd"
          refine hch _ ?_
          walk_at "rd"
          exact ⟨td, _, rfl, dputS hk (ltBig (by omega)), put en⟩
        · rw [hg] at en
          dsimp only at en
          walk_at "rd"
          refine ⟨td, _, rfl, hd, ?_⟩
          walk_at "rd"
          refine jtT ?_
          walk_at "rd"
          refine ⟨td, _, rfl, hd, ?_⟩
          walk_at "rd"
          refine hch _ ?_
          walk_at "rd"
          refine jtN (fun e => ?_) (fun e => ?_)
          · rw [if_neg e] at en
            walk_at "rd"
            exact q1 en.symm _ g5
          · rw [if_pos e] at en
            walk_at "rd"
            refine hch _ ?_
            walk_at "rd"
            exact ⟨td, _, rfl, dputS hk (ltBig (by omega)), put en⟩
      · rintro σ H5 ⟨t1, kvs, o4, o5, g5, hk, hkv, hlt, rfl, en⟩
        rw [show ((p.1.length : Int)).toNat = p.1.length from Int.toNat_natCast _, Nat.sub_self] at en
        exact ⟨t1, kvs, _, _, _, g5, hk, hkv, by omega, rfl, en⟩
    · rintro σ H3 ⟨t1, kvs, o3, o4, o5, g3, hk, hkv, hlt, rfl, en⟩
      rw [List.drop_of_length_le (by rw [dpl_len hxs, List.length_map]; exact Nat.le_refl _)] at en
      walk_at "rd"
      exact q2 (fun z => by rw [z] at en; cases en) _ g3
theorem S_law_clash_shown : FnScope ["pairs", "one", "two", "place", "left", "right"] ["pairs", "one", "two"] (d_law_clash_shown).scope := ⟨rfl, rfl, rfl, by decide +kernel, rfl, by decide +kernel, by decide +kernel⟩
def sp_shown (K : PySem.W.Frag) : Sp := fun vs H Q E => ∃ (D : Hp) (v u1 u2 : V) (ps : List Pr) (size : Int) (x y : Nat × Nat), vs = [v, u1, u2] ∧ Same D H ∧ Dp K D v (dPs ps) ∧ Dp K D u1 (dN x) ∧ Dp K D u2 (dN y) ∧ Fine ps ∧ (∀ p ∈ ps, (p.1.length : Int) ≤ size) ∧ ClashAt ps size x y ∧ ∀ H', Gr No D H D H' → Q (.bl true) H'
theorem w_law_shown (T : Txt P w K mg) : Has P w K mg base 4 "_law_clash_shown" (sp_shown K) := by
  have S := S_law_clash_shown
  have G_law_integer := w_law_integer (base := base) T
  refine has_of (k := 3) T.d_law_clash_shown T.gd_law_clash_shown S (fun _ _ _ _ _ _ us hl => match us, hl with | [_, _, _], _ => rfl) (fun vs H Q E h => ?_) (fun f cdv A outer s H vs Q E hr h => ?_)
  · obtain ⟨D, v, u1, u2, ps, size, x, y, rfl, _⟩ := h
    rfl
  · obtain ⟨D, v, u1, u2, ps, size, x, y, rfl, sm, dv, d1, d2, fine, hsz, C, q⟩ := h
    obtain ⟨a, xs, rfl, ha, hxs⟩ := dp_list dv
    obtain ⟨b1, rfl, hb1⟩ := dN_get d1
    obtain ⟨b2, rfl, hb2⟩ := dN_get d2
    have haH := sm.seq ha
    obtain ⟨p, pq, hp, hpq, hx, hy, hv, hne⟩ := C.ex
    have hl : xs.length = ps.length := by rw [dpl_len hxs, List.length_map]
    refine ⟨_, (pss_cons (ps_for (passes_of rfl) rfl (piK_list K (pe_lst (pa_cons (pv 1) (pa_cons (pv 2) pa_nil)))) (pg_name (i := 3) S.nd rfl (Or.inl rfl))
      (pss_cons (ps_if (PW.pt (pw_or (pt_not (pt_val (pe_callB call_isi (by rfl) T.b_isinstance (by decide +kernel) (pa_cons (pv 3) (pa_cons (pe_gT (T := "tuple") (by rfl) T.b_tuple (by decide +kernel)) pa_nil))))) (pw_or1 (pt_cmpR (cK_ne K hr.units) (pe_callB (bK_len K) (by rfl) T.b_len (by decide +kernel) (pa_cons (pv 3) pa_nil)) pe_int (nomark _)))))
      (pss_one (ps_ret pe_bl))
      pss_nil)
    (pss_cons (ps_if (PW.pt (pw_or (pt_not (pt_val (pe_has G_law_integer (hr.mono (by decide)) (L2N.takes_of rfl rfl rfl rfl) rfl (pa_cons (pe_ix (ixK_seq K) (pv 3) pe_int (fun _ _ => rfl)) pa_nil)))) (pw_or (pt_not (pt_val (pe_has G_law_integer (hr.mono (by decide)) (L2N.takes_of rfl rfl rfl rfl) rfl (pa_cons (pe_ix (ixK_seq K) (pv 3) pe_int (fun _ _ => rfl)) pa_nil)))) (pw_or (pt_cmpR c_lt (pe_ix (ixK_seq K) (pv 3) pe_int (fun _ _ => rfl)) pe_int (nomark _)) (pw_or1 (pt_cmpR c_ge (pe_ix (ixK_seq K) (pv 3) pe_int (fun _ _ => rfl)) (pe_callB (bK_len K) (by rfl) T.b_len (by decide +kernel) (pa_cons (pv 0) pa_nil)) (nomark _)))))))
      (pss_one (ps_ret pe_bl))
      pss_nil)
    (pss_one (ps_if (PW.pt (pw_or (pt_cmpR c_lt (pe_ix (ixK_seq K) (pv 3) pe_int (fun _ _ => rfl)) pe_int (nomark _)) (pw_or1 (pt_cmpR c_ge (pe_ix (ixK_seq K) (pv 3) pe_int (fun _ _ => rfl)) (pe_callB (bK_len K) (by rfl) T.b_len (by decide +kernel) (pa_cons (pe_ix (ixK_seq K) (pe_ix (ixK_seq K) (pv 0) (pe_ix (ixK_seq K) (pv 3) pe_int (fun _ _ => rfl)) (fun _ _ => rfl)) pe_int (fun _ _ => rfl)) pa_nil)) (nomark _)))))
      (pss_one (ps_ret pe_bl))
      pss_nil)))))
    (pss_cons (ps_set (i := 4) S.nd rfl (Or.inl rfl) (pe_ix (ixK_seq K) (pv 0) (pe_ix (ixK_seq K) (pv 1) pe_int (fun _ _ => rfl)) (fun _ _ => rfl)))
    (pss_cons (ps_set (i := 5) S.nd rfl (Or.inl rfl) (pe_ix (ixK_seq K) (pv 0) (pe_ix (ixK_seq K) (pv 2) pe_int (fun _ _ => rfl)) (fun _ _ => rfl)))
    (pss_one (ps_ret (pe_and (pe_cmpR (cK_eq K hr.units) (pe_slice (slK_any K) (pe_ix (ixK_seq K) (pv 4) pe_int (fun _ _ => rfl)) po_none (po_some (pe_op (oK_add K) (pe_ix (ixK_seq K) (pv 1) pe_int (fun _ _ => rfl)) pe_int))) (pe_slice (slK_any K) (pe_ix (ixK_seq K) (pv 5) pe_int (fun _ _ => rfl)) po_none (po_some (pe_op (oK_add K) (pe_ix (ixK_seq K) (pv 2) pe_int (fun _ _ => rfl)) pe_int))) (nomark _)) (pe_one (pe_cmpR (cK_ne K hr.units) (pe_ix (ixK_seq K) (pe_ix (ixK_seq K) (pv 4) pe_int (fun _ _ => rfl)) (pe_ix (ixK_seq K) (pv 1) pe_int (fun _ _ => rfl)) (fun _ _ => rfl)) (pe_ix (ixK_seq K) (pe_ix (ixK_seq K) (pv 5) pe_int (fun _ _ => rfl)) (pe_ix (ixK_seq K) (pv 2) pe_int (fun _ _ => rfl)) (fun _ _ => rfl)) (nomark _))))))))), ?_⟩
    walk_at "rd"
    refine ⟨le1000 (by simp), fun c nc => ?_⟩
    have g1 := (Gr.refl (m := No) sm).lay (o := .lst [.ref b1, .ref b2]) nc
    have haC := sql_up g1 ha
    have row : ∀ (z : Nat × Nat) (pr : Pr), ps[z.1]? = some pr → z.2 < pr.1.length → z.1 < ps.length ∧ ∃ bb, xs[z.1]? = some (.ref bb) ∧ SqT K D bb [.str pr.1, .str pr.2] := fun z pr h1 h2 => by
      obtain ⟨bv, hbv, dbv⟩ := dpl_getR hxs (d := dP pr) (i := z.1) (by rw [List.getElem?_map, h1]; rfl)
      obtain ⟨b', rfl, hb2⟩ := dP_get dbv
      exact ⟨(List.getElem?_eq_some_iff.mp h1).1, b', hbv, hb2⟩
    walk_at "rd"
    refine ⟨c, rfl, ⟨_, sql upd_same⟩, lp_it walk_list (fun i σ H' => H' = upd H c (.lst [.ref b1, .ref b2]) ∧ ∃ o3, σ = [some (.ref a), some (.ref b1), some (.ref b2), o3, none, none]) ⟨rfl, _, rfl⟩ (fun i σ H' _ ⟨e, _⟩ => by rw [e]; exact sql upd_same) ?_ ?_⟩
    · rintro i u σ H3 H4 hi ⟨rfl, o3, rfl⟩ ⟨rfl, ex⟩
      obtain ⟨b, z, pr, rfl, hb, hpr, hz⟩ : ∃ (b : Addr) (z : Nat × Nat) (pr : Pr), u = .ref b ∧ SqT K D b [.int (z.1 : Nat), .int (z.2 : Nat)] ∧ ps[z.1]? = some pr ∧ z.2 < pr.1.length := by
        have hi2 : i = 0 ∨ i = 1 := by
          have : i < 2 := hi
          omega
        rcases hi2 with rfl | rfl
        · cases ex
          exact ⟨b1, x, p, rfl, hb1, hp, hx⟩
        · cases ex
          exact ⟨b2, y, pq, rfl, hb2, hpq, hy⟩
      obtain ⟨hz1, bb, hbb, sbb⟩ := row z pr hpr hz
      have hbH := sqt_up g1 hb
      have sbbH := sqt_up g1 sbb
      have hpl := le1000 (fine.len pr (List.mem_of_getElem? hpr)).1
      walk_at "rd"
      refine ⟨.ref b, .ty "tuple", .type "tuple", .type "tuple", true, rfl, .ty _, tyx_tup hbH, rfl, ?_⟩
      walk_at "rd"
      refine jtN (fun e => absurd rfl e) (fun _ => ?_)
      walk_at "rd"
      refine ⟨_, rfl, ?_⟩
      walk_at "rd"
      refine ⟨_, rfl, ?_⟩
      walk_at "rd"
      refine jtD (fun e => ?_) (fun _ => ?_)
      · omega
      walk_at "rd"
      refine jtD (fun e => ?_) (fun _ => ?_)
      · omega
      walk_at "rd"
      refine jtD (fun e => ?_) (fun _ => ?_)
      · omega
      walk_at "rd"
      refine s_ix_l haC (atI_i (j := z.1) rfl hbb) ?_
      walk_at "rd"
      refine jtD (fun e => ?_) (fun _ => ?_)
      · omega
      walk_at "rd"
      exact ⟨rfl, _, rfl⟩
    · rintro σ H3 ⟨rfl, o3, rfl⟩
      obtain ⟨hx1, bx, hbx, sbx⟩ := row x p hp hx
      obtain ⟨hy1, by_, hby, sby⟩ := row y pq hpq hy
      have sbxH := sqt_up g1 sbx
      have sbyH := sqt_up g1 sby
      have hb1H := sqt_up g1 hb1
      have hb2H := sqt_up g1 hb2
      have fx := fine.len p (List.mem_of_getElem? hp)
      have fy := fine.len pq (List.mem_of_getElem? hpq)
      have ex := fine.eq p (List.mem_of_getElem? hp)
      have ey := fine.eq pq (List.mem_of_getElem? hpq)
      walk_at "rd"
      refine s_ix_l haC (atI_i (j := x.1) rfl hbx) ?_
      walk_at "rd"
      refine s_ix_l haC (atI_i (j := y.1) rfl hby) ?_
      walk_at "rd"
      refine s_sl_s (le1000 fx.1) ?_
      walk_at "rd"
      refine s_sl_s (le1000 fy.1) ?_
      have vw : ∀ (z : Str) (k : Nat), (z.length : Int) ≤ size → k < z.length → cutS z none (some ((k : Int) + 1)) = viewI z (k : Nat) size := fun z k h1 h2 => by
        unfold viewI
        rw [if_neg (by omega)]
        unfold cutS
        rw [show HT.sIx z.length 0 (some 0) = 0 from by
          have := HT.sIx_nat z.length 0 0
          simpa using this, HT.sIx_none]
      rw [vw p.1 x.2 (hsz p (List.mem_of_getElem? hp)) hx, vw pq.1 y.2 (hsz pq (List.mem_of_getElem? hpq)) hy]
      walk_at "rd"
      refine jtD (fun _ => ?_) (fun e => absurd hv e)
      walk_at "rd"
      refine s_ix_s (le1000 fx.2) (atI_chr (by omega)) ?_
      walk_at "rd"
      refine s_ix_s (le1000 fy.2) (atI_chr (by omega)) ?_
      walk_at "rd"
      unfold chr at hne
      rw [decide_eq_false hne]
      exact q _ g1
end
end H89

namespace H89
open PySem PySem.Spec L2 He Y Hk89
local macro_rules | `(tactic| walk_at "rd1") => `(tactic| first
  | with_reducible refine s_seq ?_
  | with_reducible refine s_asg ?_
  | with_reducible refine s_gname ?_
  | ((with_reducible refine s_var (v := ?_) ?_ ?_); rotate_left; exact rfl)
  | with_reducible refine s_c ?_
  | with_reducible refine s_op ?_
  | with_reducible refine s_un ?_
  | with_reducible refine s_nil ?_
  | with_reducible refine s_cons ?_
  | with_reducible refine s_CB ?_
  | with_reducible refine s_ifS ?_
  | with_reducible refine s_test ?_
  | with_reducible refine s_B ?_
  | with_reducible refine s_xb ?_
  | with_reducible refine s_xi ?_
  | with_reducible refine s_xs ?_
  | with_reducible refine s_or ?_
  | with_reducible refine s_and ?_
  | with_reducible refine s_not ?_
  | with_reducible refine s_orV ?_
  | with_reducible refine s_andV ?_
  | with_reducible refine s_notV ?_
  | with_reducible refine s_ret ?_
  | with_reducible refine s_retN ?_
  | with_reducible refine s_next ?_
  | with_reducible refine s_drop ?_
  | with_reducible refine s_yes ?_
  | with_reducible refine s_for ?_
  | with_reducible refine s_lc ?_
  | with_reducible refine s_iStr ?_
  | with_reducible refine s_iList ?_
  | with_reducible refine s_iTup ?_
  | with_reducible refine s_iR1 ?_
  | with_reducible refine s_iR2 ?_
  | with_reducible refine s_iE ?_
  | with_reducible refine s_iET ?_
  | with_reducible refine s_iES ?_
  | with_reducible refine s_tup ?_
  | with_reducible refine s_lst ?_
  | with_reducible refine s_BM ?_
  | with_reducible refine s_BM0 ?_
  | with_reducible refine s_BMS _ ?_
  | with_reducible refine s_M1 ?_
  | with_reducible refine s_sl ?_
  | with_reducible refine s_noP ?_
  | with_reducible refine s_po ?_
  | with_reducible refine s_call ?_
  | with_reducible refine s_callS ?_
  | with_reducible refine s_make ?_
  | with_reducible refine s_makeS ?_
  | with_reducible refine s_methS ?_
  | with_reducible refine s_callO ?_
  | with_reducible refine s_dnew ?_
  | with_reducible refine s_dget ?_
  | with_reducible refine s_din ?_
  | with_reducible refine s_dnin ?_
  | with_reducible refine s_dput ?_
  | with_reducible refine s_dsetd ?_
  | with_reducible refine s_dget2 ?_
  | with_reducible refine s_fld ?_
  | with_reducible refine s_sFld ?_
  | with_reducible refine s_rz ?_
  | with_reducible refine s_asgS ?_
  | with_reducible refine s_gSub ?_
  | with_reducible refine s_ifE ?_
  | with_reducible refine s_add_i ?_
  | with_reducible refine s_sub ?_
  | with_reducible refine s_neg ?_
  | with_reducible refine s_eq_i ?_
  | with_reducible refine s_eq_s ?_
  | with_reducible refine s_ne_i ?_
  | with_reducible refine s_ne_s ?_
  | with_reducible refine s_lt_i ?_
  | with_reducible refine s_le_i ?_
  | with_reducible refine s_gt_i ?_
  | with_reducible refine s_ge_i ?_
  | with_reducible refine s_lt_s ?_
  | with_reducible refine s_le_s ?_
  | with_reducible refine s_gt_s ?_
  | with_reducible refine s_ge_s ?_
  | with_reducible refine s_in_c ?_
  | with_reducible refine s_ni_c ?_
  | with_reducible refine s_isN ?_
  | with_reducible refine s_noN ?_
  | with_reducible refine s_abs ?_
  | with_reducible refine s_min2 ?_
  | with_reducible refine s_max2 ?_
  | with_reducible refine s_int_i ?_
  | ((with_reducible refine s_len_s ?_ ?_); assumption)
  | ((with_reducible refine s_len_l (xs := ?_) ?_ ?_); rotate_left; assumption)
  | ((with_reducible refine s_len_t (xs := ?_) ?_ ?_); rotate_left; assumption)
  | with_reducible refine s_pair upd_same ?_
  | with_reducible refine s_callS ?_
  | with_reducible refine s_sortK ?_
  | with_reducible refine s_lc2 ?_
  | with_reducible refine s_disp ?_
  | with_reducible refine s_pcons ?_
  | with_reducible refine s_pnil ?_
  | ((with_reducible refine s_ix_t (by assumption) (by first | exact atI_0 | exact atI_i (j := 1) rfl rfl | exact atI_i (j := 2) rfl rfl | exact atI_i (j := 3) rfl rfl) ?_))
  | with_reducible refine jtT ?_
  | with_reducible refine jtF ?_
  | with_reducible refine jtNT ?_
  | with_reducible refine jtNF ?_
  | dsimp only)
local macro_rules | `(tactic| walk_at "rd") => `(tactic| repeat (walk_at "rd1"))

theorem badAt_none {ls : List Nat} : ∀ {w : List Nat} {k : Nat}, (∀ c ∈ w, c ∈ ls) → badAt ls k w = none
  | [], k, _ => rfl
  | c :: r, k, h => by
    show (if c ∈ ls then badAt ls (k + 1) r else some k) = none
    rw [if_pos (h c (List.mem_cons_self ..))]
    exact badAt_none fun d hd => h d (List.mem_cons_of_mem _ hd)
theorem PokW.bad {l i : Str} {n : Nat} : ∀ {ps : List Pr} {k : Nat}, (∀ p ∈ ps, PokW l i n p) → badP l i k ps = none
  | [], k, _ => rfl
  | p :: r, k, h => by
    have hp := h p (List.mem_cons_self ..)
    rw [badP_cons, badAt_none hp.wd, badAt_none hp.im]
    dsimp only
    rw [if_pos hp.eq]
    exact PokW.bad fun q hq => h q (List.mem_cons_of_mem _ hq)
theorem PokW.fine {l i : Str} {n : Nat} {ps : List Pr} (hn : n ≤ 1000) (hf : ps.length ≤ 1000) (h : ∀ p ∈ ps, PokW l i n p) : Fine ps where
  few := hf
  len := fun p hp => by
    have := h p hp
    have e := this.eq
    have l := this.le
    omega
  eq := fun p hp => (h p hp).eq
theorem LeastS.uniq {ps : List Pr} {a b : Nat} (x : LeastS ps a) (y : LeastS ps b) : a = b := by
  rcases Nat.lt_trichotomy a b with h | h | h
  · exact absurd (y.no a x.pos h) x.fit
  · exact h
  · exact absurd (x.no b y.pos h) y.fit
theorem lay_Ps : ∀ {ps : List Pr}, (∀ p ∈ ps, Okc p.1 ∧ Okc p.2) → PyData.canLayAll0 (ps.map dP) = true ∧ PyData.depthAll (ps.map dP) ≤ 1
  | [], _ => ⟨rfl, Nat.zero_le _⟩
  | p :: r, h => by
    obtain ⟨h1, h2⟩ := lay_Ps fun q hq => h q (List.mem_cons_of_mem _ hq)
    obtain ⟨a, b⟩ := h p (List.mem_cons_self ..)
    refine ⟨?_, ?_⟩
    · show ((PyData.strOk p.1 && (PyData.strOk p.2 && true)) && PyData.canLayAll0 (r.map dP)) = true
      rw [strOk_of a, strOk_of b, h1]
      rfl
    · show max 1 (PyData.depthAll (r.map dP)) ≤ 1
      omega
theorem shaped_Ps {ps : List Pr} (h : ∀ p ∈ ps, Okc p.1 ∧ Okc p.2) : SeqAt.shaped (dPs ps) = true := by
  obtain ⟨h1, h2⟩ := lay_Ps h
  unfold SeqAt.shaped
  rw [show PyData.canLay0 (dPs ps) = true from h1, Bool.true_and, decide_eq_true_eq]
  show PyData.depthAll (ps.map dP) + 1 ≤ 64
  omega
section
variable {P : Program} {w : World} {K : PySem.W.Frag} {mg : Str → Option Value} {base : Heap}
theorem S_law_least_right : FnScope ["letters", "images", "pairs", "given", "answer", "longest", "size", "turn", "pair"] ["letters", "images", "pairs"] (d_law_least_right).scope := ⟨rfl, rfl, rfl, by decide +kernel, rfl, by decide +kernel, by decide +kernel⟩
def sp_least_right (K : PySem.W.Frag) : Sp := fun vs H Q E => ∃ (D : Hp) (l i : Str) (v : V) (ps : List Pr), vs = [.str l, .str i, v] ∧ Same D H ∧ Dp K D v (dPs ps) ∧ okLetters l = true ∧ okLetters i = true ∧ ps.length ≤ 6 ∧ (∀ p ∈ ps, PokW l i 200 p) ∧ ∀ H', Same H H' → Q (.bl true) H'
theorem w_law_least_right (T : Txt P w K mg) : Has P w K mg base 7 "_law_least_right" (sp_least_right K) := by
  have S := S_law_least_right
  have G_least_turner := w_least_turner (base := base) T
  have G_law_clashes := w_law_clashes (base := base) T
  have G_law_clash_shown := w_law_shown (base := base) T
  have G_law_integer := w_law_integer (base := base) T
  refine has_of (k := 6) T.d_law_least_right T.gd_law_least_right S (fun _ _ _ _ _ _ us hl => match us, hl with | [_, _, _], _ => rfl) (fun vs H Q E h => ?_) (fun f cdv A outer s H vs Q E hr h => ?_)
  · obtain ⟨D, l, i, v, ps, rfl, _⟩ := h
    rfl
  · obtain ⟨D, l, im, v, ps, rfl, sm, dv, ok1, ok2, hf6, hok, q⟩ := h
    obtain ⟨a, xs, rfl, ha, hxs⟩ := dp_list dv
    have fine := PokW.fine (by decide) (by omega) hok
    have hok2 := PokW.bad (k := 0) hok
    have hxl : xs.length = ps.length := by rw [dpl_len hxs, List.length_map]
    have shaped : SeqAt.shaped (dPs ps) = true := shaped_Ps fun p hp => ⟨fun c hc => ok_okc ok1 c ((hok p hp).wd c hc), fun c hc => ok_okc ok2 c ((hok p hp).im c hc)⟩
    refine ⟨_, (pss_cons (ps_set (i := 3) S.nd rfl (Or.inl rfl) (pe_callTy (bK_list K) (by rfl) T.b_list (by decide +kernel) (pa_cons (pv 2) pa_nil)))
    (pss_cons (ps_set (i := 4) S.nd rfl (Or.inl rfl) (pe_has G_least_turner (hr.mono (by decide)) (L2N.takes_of rfl rfl rfl rfl) rfl (pa_cons (pv 0) (pa_cons (pv 1) (pa_cons (pv 3) pa_nil)))))
    (pss_cons (ps_if (PW.pt (pw_or (pt_cmpR (cK_ne K hr.units) (pv 3) (pv 2) (nomark _)) (pw_or (pt_not (pt_val (pe_callB call_isi (by rfl) T.b_isinstance (by decide +kernel) (pa_cons (pv 4) (pa_cons (pe_gT (T := "tuple") (by rfl) T.b_tuple (by decide +kernel)) pa_nil))))) (pw_or (pt_cmpR c_lt (pe_callB (bK_len K) (by rfl) T.b_len (by decide +kernel) (pa_cons (pv 4) pa_nil)) pe_int (nomark _)) (pw_or1 (pt_not (pt_val (pe_callB call_isi (by rfl) T.b_isinstance (by decide +kernel) (pa_cons (pe_ix (ixK_seq K) (pv 4) pe_int (fun _ _ => rfl)) (pa_cons (pe_gT (T := "str") (by rfl) T.b_str (by decide +kernel)) pa_nil))))))))))
      (pss_one (ps_ret pe_bl))
      pss_nil)
    (pss_cons (ps_set (i := 5) S.nd rfl (Or.inl rfl) (pe_callB (cr_max rfl) (by rfl) T.b_max (by decide +kernel) (pa_cons (pe_op (oK_add K) (pe_lst (pa_cons pe_int pa_nil)) (pe_lc (own := [("pair", 8)]) (by rfl) S.nd (piK_list K (pv 2)) (blkOk_by (by rfl)) (fun _ _ _ _ _ => (pg_name (i := 8) S.nd rfl (Or.inl rfl))) (fun _ _ _ _ _ => pts_nil) (fun _ _ _ _ _ => (pe_callB (bK_len K) (by rfl) T.b_len (by decide +kernel) (pa_cons (pe_ix (ixK_seq K) (pv 8) pe_int (fun _ _ => rfl)) pa_nil))))) pa_nil)))
    (pss_cons (ps_if (pt_val (pe_has G_law_clashes (hr.mono (by decide)) (L2N.takes_of rfl rfl rfl rfl) rfl (pa_cons (pv 2) (pa_cons (pv 5) pa_nil))))
      (pss_one (ps_ret (pe_and (pe_cmpR (cK_eq K hr.units) (pe_ix (ixK_seq K) (pv 4) pe_int (fun _ _ => rfl)) pe_str (nomark _)) (pe_and (pe_cmpR (cK_eq K hr.units) (pe_callB (bK_len K) (by rfl) T.b_len (by decide +kernel) (pa_cons (pv 4) pa_nil)) pe_int (nomark _)) (pe_one (pe_has G_law_clash_shown (hr.mono (by decide)) (L2N.takes_of rfl rfl rfl rfl) rfl (pa_cons (pv 2) (pa_cons (pe_ix (ixK_seq K) (pv 4) pe_int (fun _ _ => rfl)) (pa_cons (pe_ix (ixK_seq K) (pv 4) pe_int (fun _ _ => rfl)) pa_nil)))))))))
      pss_nil)
    (pss_cons (ps_set (i := 6) S.nd rfl (Or.inl rfl) pe_int)
    (pss_cons (ps_for (passes_of rfl) rfl (pi_range1 (by rfl) T.b_range (pa_cons (pv 5) pa_nil)) (pg_name (i := 7) S.nd rfl (Or.inl rfl))
      (pss_cons (ps_if (pt_not (pt_val (pe_has G_law_clashes (hr.mono (by decide)) (L2N.takes_of rfl rfl rfl rfl) rfl (pa_cons (pv 2) (pa_cons (pv 6) pa_nil)))))
      (pss_one ps_break)
      pss_nil)
    (pss_one (ps_set (i := 6) S.nd rfl (Or.inl rfl) (pe_op (oK_add K) (pv 6) pe_int)))))
    (pss_one (ps_ret (pe_and (pe_cmpR (cK_eq K hr.units) (pe_ix (ixK_seq K) (pv 4) pe_int (fun _ _ => rfl)) pe_str (nomark _)) (pe_and (pe_cmpR (cK_eq K hr.units) (pe_callB (bK_len K) (by rfl) T.b_len (by decide +kernel) (pa_cons (pv 4) pa_nil)) pe_int (nomark _)) (pe_and (pe_has G_law_integer (hr.mono (by decide)) (L2N.takes_of rfl rfl rfl rfl) rfl (pa_cons (pe_ix (ixK_seq K) (pv 4) pe_int (fun _ _ => rfl)) pa_nil)) (pe_one (pe_cmpR (cK_eq K hr.units) (pe_ix (ixK_seq K) (pv 4) pe_int (fun _ _ => rfl)) (pv 6) (nomark _))))))))))))))), ?_⟩
    walk_at "rd"
    refine s_lst_l (sm.seq ha) fun gv ngv => ?_
    have g1 := (Gr.refl (m := No) sm).ice (o := .lst xs) ngv
    have s1 := same_new (o := .lst xs) (Gr.free (Gr.refl (m := No) sm) ngv)
    have dg : Dp K (upd D gv (.lst xs)) (.ref gv) (dPs ps) := .lst (sql upd_same) (Y.Dp.monoAll s1 hxs)
    have da : Dp K (upd D gv (.lst xs)) (.ref a) (dPs ps) := Y.Dp.mono s1 (.lst ha hxs)
    walk_at "rd"
    have hl := ok_len ok1
    have hi := ok_len ok2
    refine ⟨_, l, im, .ref gv, ps, rfl, le1000 (by omega), le1000 (by omega), g1.sub, dg, fine.toShort, fun z => absurd ⟨ok1, ok2⟩ z, (fun _ _ b hb => by rw [hok2] at hb; cases hb), fun _ _ _ => ⟨fun hn x y D2 H2 u C g2 du => ?_, fun hn s D2 H2 u L hs g2 du => ?_⟩⟩
    · skip
      obtain ⟨ua, ys, rfl, hu, hys⟩ := dp_tuple du
      have gA := g1.trans g2
      have dg2 := Y.Dp.mono g2.sub (Y.Dp.mono g2.dd dg)
      have da2D := Y.Dp.mono g2.dd da
      have da2 := Y.Dp.mono g2.sub da2D
      have ha2 : SqL K D2 a xs := (s1.trans g2.dd).seq ha
      have huH := sqt_up (Gr.refl (m := No) gA.sub) hu
      cases hys with
      | cons h0 r0 =>
      cases r0 with
      | cons h1 r1 =>
      cases r1 with
      | cons h2 r2 =>
      cases r2
      cases h0
      walk_at "rd"
      refine s_ne_refl dg2 da2 shaped ?_
      walk_at "rd"
      refine ⟨.ref ua, .ty "tuple", .type "tuple", .type "tuple", true, rfl, .ty _, tyx_tup huH, rfl, ?_⟩
      walk_at "rd"
      refine jtD (fun e => absurd e (by show ¬ ((3 : Int) < 2); decide)) (fun _ => ?_)
      walk_at "rd"
      refine ⟨.str "never", .ty "str", .type "str", .type "str", true, rfl, .ty _, .base (.str _), rfl, ?_⟩
      walk_at "rd"
      refine ⟨le1000 (by simp), fun o1 no1 => ?_⟩
      have g3 := gA.lay (o := .lst [.int 1]) no1
      have ho1 : (upd H2 o1 (.lst [.int 1])) o1 = some (.lst [.int 1]) := upd_same
      walk_at "rd"
      refine ⟨a, rfl, ⟨_, g3.sub.seq ha2⟩, fun p np => lq_map walk_list (ps.map fun p => V.int (p.1.length : Nat)) (by rw [List.length_map, hxl]) (by rw [hxl]; exact le1000 (by omega)) np (fun acc => (g3.lay np).sub.seq ha2) ?_ ?_⟩
      · rintro i x acc H' N hi ⟨rfl, ex⟩ hN hlt
        obtain ⟨d, hd, hx2⟩ := dpl_get hxs ex
        rw [List.getElem?_map] at hd
        obtain ⟨pr, hp, rfl⟩ := Option.map_eq_some_iff.mp hd
        obtain ⟨b, rfl, hb⟩ := dP_get hx2
        have hlen := fine.len pr (List.mem_of_getElem? hp)
        have hz := le1000 hlen.1
        have hbX := sqt_up (g3.lay (o := .lst acc) np) hb
        walk_at "rd"
        refine ⟨rfl, ?_⟩
        walk_at "rd"
        refine lq_put hlt (hN _ ?_)
        rw [List.getElem?_map, hp]
        rfl
      have g4 := g3.lay (o := .lst (ps.map fun p => V.int (p.1.length : Nat))) np
      have n1p : o1 ≠ p := fun e => by rw [← e, ho1] at np; cases np
      refine s_add_l ((upd_ne n1p).trans ho1) upd_same (leBig (by simp; omega)) fun c nc => ?_
      have g5 := g4.lay (o := .lst ([.int 1] ++ ps.map fun p => V.int (p.1.length : Nat))) nc
      have da5 : Dp K D2 (.ref a) (dPs ps) := da2D
      walk_at "rd"
      refine ⟨c, 1 :: ps.map fun p => (p.1.length : Int), rfl, sql (by rw [upd_same, List.map_cons, List.map_map]; rfl), by simp, fun m hm1 hm2 => ?_⟩
      have em := lgM_max hm1 hm2
      subst em
      have sH5 : Same H _ := g5.all
      revert g5 sH5
      generalize (upd (upd (upd H2 o1 (.lst [.int 1])) p (.lst (ps.map fun p => V.int (p.1.length : Nat)))) c (.lst ([.int 1] ++ ps.map fun p => V.int (p.1.length : Nat)))) = H5
      intro g5 sH5
      have huH5 := sqt_up (Gr.refl (m := No) g5.sub) hu
      walk_at "rd"
      refine ⟨D2, .ref a, ps, (lgM ps : Nat), rfl, g5.sub, da5, fine, fun _ H6 g6 => ?_, fun z => absurd hn z⟩
      have huH6 := sqt_up g6 hu
      walk_at "rd"
      refine jtD (fun _ => ?_) (fun e => absurd rfl e)
      walk_at "rd"
      refine jtD (fun _ => ?_) (fun e => absurd rfl e)
      walk_at "rd"
      refine ⟨D2, .ref a, _, _, ps, (lgM ps : Nat), x, y, rfl, g6.sub, da5, h1, h2, fine, (fun p hp => by have := lgM_ge p hp; omega), C, fun H7 g7 => ?_⟩
      exact q H7 (sH5.trans (g6.all.trans g7.all))
    · skip
      obtain ⟨ua, ys, rfl, hu, hys⟩ := dp_tuple du
      have gA := g1.trans g2
      have dg2 := Y.Dp.mono g2.sub (Y.Dp.mono g2.dd dg)
      have da2D := Y.Dp.mono g2.dd da
      have da2 := Y.Dp.mono g2.sub da2D
      have ha2 : SqL K D2 a xs := (s1.trans g2.dd).seq ha
      have huH := sqt_up (Gr.refl (m := No) gA.sub) hu
      cases hys with
      | cons h0 r0 =>
      cases r0 with
      | cons h1 r1 =>
      cases r1
      cases h0
      cases h1
      walk_at "rd"
      refine s_ne_refl dg2 da2 shaped ?_
      walk_at "rd"
      refine ⟨.ref ua, .ty "tuple", .type "tuple", .type "tuple", true, rfl, .ty _, tyx_tup huH, rfl, ?_⟩
      walk_at "rd"
      refine jtD (fun e => absurd e (by show ¬ ((2 : Int) < 2); decide)) (fun _ => ?_)
      walk_at "rd"
      refine ⟨.str "least", .ty "str", .type "str", .type "str", true, rfl, .ty _, .base (.str _), rfl, ?_⟩
      walk_at "rd"
      refine ⟨le1000 (by simp), fun o1 no1 => ?_⟩
      have g3 := gA.lay (o := .lst [.int 1]) no1
      have ho1 : (upd H2 o1 (.lst [.int 1])) o1 = some (.lst [.int 1]) := upd_same
      walk_at "rd"
      refine ⟨a, rfl, ⟨_, g3.sub.seq ha2⟩, fun p np => lq_map walk_list (ps.map fun p => V.int (p.1.length : Nat)) (by rw [List.length_map, hxl]) (by rw [hxl]; exact le1000 (by omega)) np (fun acc => (g3.lay np).sub.seq ha2) ?_ ?_⟩
      · rintro i x acc H' N hi ⟨rfl, ex⟩ hN hlt
        obtain ⟨d, hd, hx2⟩ := dpl_get hxs ex
        rw [List.getElem?_map] at hd
        obtain ⟨pr, hp, rfl⟩ := Option.map_eq_some_iff.mp hd
        obtain ⟨b, rfl, hb⟩ := dP_get hx2
        have hlen := fine.len pr (List.mem_of_getElem? hp)
        have hz := le1000 hlen.1
        have hbX := sqt_up (g3.lay (o := .lst acc) np) hb
        walk_at "rd"
        refine ⟨rfl, ?_⟩
        walk_at "rd"
        refine lq_put hlt (hN _ ?_)
        rw [List.getElem?_map, hp]
        rfl
      have g4 := g3.lay (o := .lst (ps.map fun p => V.int (p.1.length : Nat))) np
      have n1p : o1 ≠ p := fun e => by rw [← e, ho1] at np; cases np
      refine s_add_l ((upd_ne n1p).trans ho1) upd_same (leBig (by simp; omega)) fun c nc => ?_
      have g5 := g4.lay (o := .lst ([.int 1] ++ ps.map fun p => V.int (p.1.length : Nat))) nc
      have da5 : Dp K D2 (.ref a) (dPs ps) := da2D
      walk_at "rd"
      refine ⟨c, 1 :: ps.map fun p => (p.1.length : Int), rfl, sql (by rw [upd_same, List.map_cons, List.map_map]; rfl), by simp, fun m hm1 hm2 => ?_⟩
      have em := lgM_max hm1 hm2
      subst em
      have sH5 : Same H _ := g5.all
      revert g5 sH5
      generalize (upd (upd (upd H2 o1 (.lst [.int 1])) p (.lst (ps.map fun p => V.int (p.1.length : Nat)))) c (.lst ([.int 1] ++ ps.map fun p => V.int (p.1.length : Nat)))) = H5
      intro g5 sH5
      have huH5 := sqt_up (Gr.refl (m := No) g5.sub) hu
      walk_at "rd"
      have hlg : lgM ps ≤ 200 := by
        rcases lgM_mem ps with e | ⟨p, hp, e⟩
        · omega
        · have := (hok p hp).le
          omega
      refine ⟨D2, .ref a, ps, (lgM ps : Nat), rfl, g5.sub, da5, fine, fun z => absurd z hn, fun _ H6 g6 => ?_⟩
      walk_at "rd"
      refine ⟨_, rfl, by omega, by omega, lp_it walk_r0 (fun i σ H' => ∃ o7, Gr No D2 H5 D2 H' ∧ (∀ s', 1 ≤ s' → s' ≤ i → bP (s' : Nat) ps [] = none) ∧ σ = [some (.str l), some (.str im), some (.ref a), some (.ref gv), some (.ref ua), some (.int (lgM ps : Nat)), some (.int ((i + 1 : Nat) : Int)), o7, none]) ⟨_, g6, (fun s' h1 h2 => by omega), rfl⟩ (fun _ _ _ _ _ => trivial) ?_ ?_⟩
      · rintro i x σ H7 H8 hi ⟨o7, g7, hno, rfl⟩ ⟨rfl, rfl⟩
        have hi2 : i < lgM ps := by omega
        walk_at "rd"
        refine ⟨D2, .ref a, ps, ((i + 1 : Nat) : Int), rfl, g7.sub, da5, fine, fun hb H9 g9 => ?_, fun hb H9 g9 => ?_⟩
        · walk_at "rd"
          refine ⟨_, g7.trans g9, fun s' h1 h2 => ?_, rfl⟩
          rcases Nat.lt_or_ge s' (i + 1) with h | h
          · exact hno s' h1 (by omega)
          · rw [show s' = i + 1 by omega]
            exact hb
        · have es : s = i + 1 := L.uniq ⟨by omega, hb, fun s' h1 h2 => hno s' h1 (by omega)⟩
          have huH9 := sqt_up (g7.trans g9) hu
          walk_at "rd"
          refine s_brk ?_
          walk_at "rd"
          refine jtD (fun _ => ?_) (fun e => absurd rfl e)
          walk_at "rd"
          refine jtD (fun _ => ?_) (fun e => absurd rfl e)
          walk_at "rd"
          refine ⟨_, rfl, ?_⟩
          walk_at "rd"
          rw [es, decide_eq_true rfl]
          exact q H9 (sH5.trans (g7.trans g9).all)
      · rintro σ H7 ⟨o7, g7, hno, rfl⟩
        exact absurd (hno (lgM ps) (lgM_pos ps) (by omega)) hn
end
end H89

namespace H89
open PySem PySem.Spec L2 He Y Hk89
local macro_rules | `(tactic| walk_at "rd1") => `(tactic| first
  | with_reducible refine s_seq ?_
  | with_reducible refine s_asg ?_
  | with_reducible refine s_gname ?_
  | ((with_reducible refine s_var (v := ?_) ?_ ?_); rotate_left; exact rfl)
  | with_reducible refine s_c ?_
  | with_reducible refine s_op ?_
  | with_reducible refine s_un ?_
  | with_reducible refine s_nil ?_
  | with_reducible refine s_cons ?_
  | with_reducible refine s_CB ?_
  | with_reducible refine s_ifS ?_
  | with_reducible refine s_test ?_
  | with_reducible refine s_B ?_
  | with_reducible refine s_xb ?_
  | with_reducible refine s_xi ?_
  | with_reducible refine s_xs ?_
  | with_reducible refine s_or ?_
  | with_reducible refine s_and ?_
  | with_reducible refine s_not ?_
  | with_reducible refine s_orV ?_
  | with_reducible refine s_andV ?_
  | with_reducible refine s_notV ?_
  | with_reducible refine s_ret ?_
  | with_reducible refine s_retN ?_
  | with_reducible refine s_next ?_
  | with_reducible refine s_drop ?_
  | with_reducible refine s_yes ?_
  | with_reducible refine s_for ?_
  | with_reducible refine s_lc ?_
  | with_reducible refine s_iStr ?_
  | with_reducible refine s_iList ?_
  | with_reducible refine s_iTup ?_
  | with_reducible refine s_iR1 ?_
  | with_reducible refine s_iR2 ?_
  | with_reducible refine s_iE ?_
  | with_reducible refine s_iET ?_
  | with_reducible refine s_iES ?_
  | with_reducible refine s_tup ?_
  | with_reducible refine s_lst ?_
  | with_reducible refine s_BM ?_
  | with_reducible refine s_BM0 ?_
  | with_reducible refine s_BMS _ ?_
  | with_reducible refine s_M1 ?_
  | with_reducible refine s_sl ?_
  | with_reducible refine s_noP ?_
  | with_reducible refine s_po ?_
  | with_reducible refine s_call ?_
  | with_reducible refine s_callS ?_
  | with_reducible refine s_make ?_
  | with_reducible refine s_makeS ?_
  | with_reducible refine s_methS ?_
  | with_reducible refine s_callO ?_
  | with_reducible refine s_dnew ?_
  | with_reducible refine s_dget ?_
  | with_reducible refine s_din ?_
  | with_reducible refine s_dnin ?_
  | with_reducible refine s_dput ?_
  | with_reducible refine s_dsetd ?_
  | with_reducible refine s_dget2 ?_
  | with_reducible refine s_fld ?_
  | with_reducible refine s_sFld ?_
  | with_reducible refine s_rz ?_
  | with_reducible refine s_asgS ?_
  | with_reducible refine s_gSub ?_
  | with_reducible refine s_ifE ?_
  | with_reducible refine s_add_i ?_
  | with_reducible refine s_sub ?_
  | with_reducible refine s_neg ?_
  | with_reducible refine s_eq_i ?_
  | with_reducible refine s_eq_s ?_
  | with_reducible refine s_ne_i ?_
  | with_reducible refine s_ne_s ?_
  | with_reducible refine s_lt_i ?_
  | with_reducible refine s_le_i ?_
  | with_reducible refine s_gt_i ?_
  | with_reducible refine s_ge_i ?_
  | with_reducible refine s_lt_s ?_
  | with_reducible refine s_le_s ?_
  | with_reducible refine s_gt_s ?_
  | with_reducible refine s_ge_s ?_
  | with_reducible refine s_in_c ?_
  | with_reducible refine s_ni_c ?_
  | with_reducible refine s_isN ?_
  | with_reducible refine s_noN ?_
  | with_reducible refine s_abs ?_
  | with_reducible refine s_min2 ?_
  | with_reducible refine s_max2 ?_
  | with_reducible refine s_int_i ?_
  | ((with_reducible refine s_len_s ?_ ?_); assumption)
  | ((with_reducible refine s_len_l (xs := ?_) ?_ ?_); rotate_left; assumption)
  | ((with_reducible refine s_len_t (xs := ?_) ?_ ?_); rotate_left; assumption)
  | with_reducible refine s_pair upd_same ?_
  | with_reducible refine s_callS ?_
  | with_reducible refine s_sortK ?_
  | with_reducible refine s_lc2 ?_
  | with_reducible refine s_disp ?_
  | with_reducible refine s_pcons ?_
  | with_reducible refine s_pnil ?_
  | ((with_reducible refine s_ix_t (by assumption) (by first | exact atI_0 | exact atI_i (j := 1) rfl rfl | exact atI_i (j := 2) rfl rfl | exact atI_i (j := 3) rfl rfl) ?_))
  | with_reducible refine jtT ?_
  | with_reducible refine jtF ?_
  | with_reducible refine jtNT ?_
  | with_reducible refine jtNF ?_
  | dsimp only)
local macro_rules | `(tactic| walk_at "rd") => `(tactic| repeat (walk_at "rd1"))

def SG : Str := " !#$&*+-./0123456789:;<=>?@ABCDEFGHIJKLMNOPQRSTUVWXYZ[]^_abcdefghijklmnopqrstuvwxyz|~"
theorem SG_ok : ∀ c ∈ SG.cps.toList, c < 0x110000 := by decide +kernel
theorem SG_sp : (32 : Nat) ∈ SG.cps.toList := by decide +kernel
theorem SG_len : SG.length ≤ 1000 := by decide +kernel
theorem SG_ll : SG.cps.toList.length ≤ 1000 := by decide +kernel
def othM (l : Str) (cs : List Nat) : List V := (cs.filter fun c => decide (c ∉ l.cps.toList)).map fun c => V.str ⟨#[c]⟩
theorem oth_snoc {l : Str} {j c : Nat} (h : SG.cps.toList[j]? = some c) : othM l (SG.cps.toList.take (j + 1)) = if c ∈ l.cps.toList then othM l (SG.cps.toList.take j) else othM l (SG.cps.toList.take j) ++ [V.str ⟨#[c]⟩] := by
  unfold othM
  rw [List.take_add_one, h]
  by_cases hc : c ∈ l.cps.toList
  · rw [if_pos hc]
    have hc' : c ∈ l.cps := by simpa using hc
    simp [hc']
  · rw [if_neg hc]
    have hc' : ¬ c ∈ l.cps := by simpa using hc
    simp [hc']
theorem oth_len (l : Str) (cs : List Nat) : (othM l cs).length ≤ cs.length := by
  unfold othM
  rw [List.length_map]
  exact List.length_filter_le ..
theorem oth_get {l : Str} {cs : List Nat} {k : Nat} (h : k < (othM l cs).length) : ∃ c, (othM l cs)[k]? = some (.str ⟨#[c]⟩) ∧ c ∈ cs ∧ c ∉ l.cps.toList := by
  have e := List.getElem?_eq_getElem h
  have hm := List.getElem_mem h
  unfold othM at hm
  obtain ⟨c, hc, e2⟩ := List.mem_map.mp hm
  have hc := List.mem_filter.mp hc
  exact ⟨c, by rw [e]; congr 1; exact e2.symm, hc.1, of_decide_eq_true hc.2⟩
theorem oth_pos {l : Str} (ok : okLetters l = true) : 0 < (othM l SG.cps.toList).length := by
  unfold othM
  rw [List.length_map]
  exact List.length_pos_of_mem (List.mem_filter.mpr ⟨SG_sp, decide_eq_true (ok_free ok (by decide +kernel))⟩)
section
variable {P : Program} {w : World} {K : PySem.W.Frag} {mg : Str → Option Value} {base : Heap}
theorem S_law_foreign : FnScope ["state", "letters", "word", "signs", "others", "cut", "sign"] ["state", "letters", "word"] (d_law_foreign).scope := ⟨rfl, rfl, rfl, by decide +kernel, rfl, by decide +kernel, by decide +kernel⟩
def sp_foreign (K : PySem.W.Frag) : Sp := fun vs H Q E => ∃ (D : Hp) (st : Addr) (l z : Str), vs = [.ref st, .str l, .str z] ∧ okLetters l = true ∧ z.length ≤ 900 ∧ Okc z ∧ Same D H ∧ Stt K D H st ∧
  ∀ D' H' y, Gr (· = st) D H D' H' → Stt K D' H' st → Okc y → y.length ≤ z.length + 1 → Q (.str y) H'
theorem w_law_foreign (T : Txt P w K mg) : Has P w K mg base 4 "_law_foreign" (sp_foreign K) := by
  have S := S_law_foreign
  have G_law_next := w_law_next (base := base) T
  refine has_of (k := 3) T.d_law_foreign T.gd_law_foreign S (fun _ _ _ _ _ _ us hl => match us, hl with | [_, _, _], _ => rfl) (fun vs H Q E h => ?_) (fun f cdv A outer s H vs Q E hr h => ?_)
  · obtain ⟨D, st, l, z, rfl, _⟩ := h
    rfl
  · obtain ⟨D, st, l, z, rfl, ok, hz, hoz, sm, X, q⟩ := h
    have hl := ok_len ok
    have hlz := le1000 (by omega : l.length ≤ 1000)
    have hzz := le1000 (by omega : z.length ≤ 1000)
    have hSG := le1000 SG_len
    refine ⟨_, (pss_cons (ps_set (i := 3) S.nd rfl (Or.inl rfl) pe_str)
    (pss_cons (ps_setLc (i := 4) (own := [("sign", 6)]) rfl S.nd rfl rfl (sw_true rfl rfl rfl (by decide +kernel)) (pi_str (pv 3)) (blkOk_by (by rfl)) (fun _ _ _ _ _ => (pg_name (i := 6) S.nd rfl (Or.inl rfl))) (fun _ _ _ _ _ => pts_one (pt_cmpR (cK_ni K) (pv 6) (pv 1) rfl)) (fun _ _ _ _ _ => (pv 6)))
    (pss_cons (ps_set (i := 5) S.nd rfl (Or.inl rfl) (pe_has G_law_next (hr.mono (by decide)) (L2N.takes_of rfl rfl rfl rfl) rfl (pa_cons (pv 0) (pa_cons (pe_op (oK_add K) (pe_callB (bK_len K) (by rfl) T.b_len (by decide +kernel) (pa_cons (pv 2) pa_nil)) pe_int) pa_nil))))
    (pss_one (ps_ret (pe_op (oK_add K) (pe_op (oK_add K) (pe_slice (slK_any K) (pv 2) po_none (po_some (pv 5))) (pe_ix (ixK_seq K) (pv 4) (pe_has G_law_next (hr.mono (by decide)) (L2N.takes_of rfl rfl rfl rfl) rfl (pa_cons (pv 0) (pa_cons (pe_callB (bK_len K) (by rfl) T.b_len (by decide +kernel) (pa_cons (pv 4) pa_nil)) pa_nil))) (fun _ _ => rfl))) (pe_slice (slK_any K) (pv 2) (po_some (pe_op (oK_add K) (pv 5) pe_int)) po_none))))))), ?_⟩
    walk_at "rd"
    refine fun p np => lc_it walk_str (fun j H' => H' = upd H p (.lst (othM l (SG.cps.toList.take j)))) rfl (fun _ _ _ _ => trivial) ?_ ?_
    · rintro j x H3 H4 hj rfl ⟨rfl, c, hc, rfl⟩
      have hc2 : SG.cps.toList[j]? = some c := by
        have hc : SG.cps[j]? = some c := hc
        simpa using hc
      walk_at "rd"
      refine ⟨rfl, ?_⟩
      walk_at "rd"
      rw [oth_snoc hc2]
      refine jtN (fun e => ?_) (fun e => ?_)
      · rw [if_neg e]
        walk_at "rd"
        refine ⟨_, upd_same, ltBig (Nat.le_trans (oth_len _ _) ?_), upd_upd⟩
        rw [List.length_take]
        have := SG_ll
        omega
      · rw [if_pos e]
    · rintro H3 rfl
      rw [show List.take _ SG.cps.toList = SG.cps.toList from List.take_of_length_le (by rw [Array.length_toList]; exact Nat.le_refl _)]
      have nps : p ≠ st := fun e => X.is (e ▸ np)
      have g1 := (Gr.refl (m := (· = st)) sm).lay (o := .lst (othM l SG.cps.toList)) np
      have X1 := X.put (o := .lst (othM l SG.cps.toList)) nps
      have lo := oth_len l SG.cps.toList
      have lp := oth_pos ok
      have ll := SG_ll
      walk_at "rd"
      refine ⟨D, st, _, rfl, by omega, by omega, g1.sub, X1, fun D2 H2 c g2 X2 c0 c1 => ?_⟩
      have ec : ((c.toNat : Nat) : Int) = c := Int.toNat_of_nonneg c0
      rw [← ec]
      rw [← ec] at c1
      generalize c.toNat = cn at *
      have hp2 := g2.same p _ nps upd_same
      walk_at "rd"
      refine s_sl_s hzz ?_
      walk_at "rd"
      refine s_len_l (sql hp2) ?_
      walk_at "rd"
      refine ⟨D2, st, _, rfl, by omega, by omega, g2.sub, X2, fun D3 H3 r g3 X3 r0 r1 => ?_⟩
      have hp3 := g3.same p _ nps hp2
      obtain ⟨oc, eo, om, _⟩ := oth_get (l := l) (cs := SG.cps.toList) (k := r.toNat) (by omega)
      refine s_ix_l (sql hp3) (atI_i (j := r.toNat) (by omega) eo) ?_
      have ln1 : (cutS z none (some (cn : Int))).length ≤ cn := by
        rw [← len_list]
        show (TL.tl _).length ≤ _
        rw [tl_cutL, List.length_take]
        exact Nat.min_le_left _ _
      have ln2 : (cutS z (some ((cn : Int) + 1)) none).length = z.length - (cn + 1) := by
        rw [← len_list]
        show (TL.tl _).length = _
        rw [show ((cn : Int) + 1) = ((cn + 1 : Nat) : Int) by omega, tl_cutR, List.length_drop]
        show z.cps.toList.length - (cn + 1) = _
        rw [len_list]
      have l1 : (⟨#[oc]⟩ : Str).length = 1 := rfl
      refine s_add_s (by rw [l1]; exact le1000 (by omega)) ?_
      walk_at "rd"
      refine s_sl_s hzz ?_
      refine s_add_s (by rw [app_len, l1, ln2]; exact le1000 (by omega)) ?_
      have ho1 : Okc ⟨#[oc]⟩ := fun d hd => by
        rw [show d = oc from List.mem_singleton.mp hd]
        exact SG_ok oc om
      exact q _ _ _ ((g1.trans g2).trans g3) X3 (((hoz.cut _ _).app ho1).app (hoz.cut _ _)) (by rw [app_len, app_len, l1, ln2]; omega)
structure PokB (n : Nat) (p : Pr) : Prop where
  o1 : Okc p.1
  o2 : Okc p.2
  l1 : p.1.length ≤ n
  l2 : p.2.length ≤ n
theorem PokB.mono {m n : Nat} {p : Pr} (h : PokB m p) (e : m ≤ n) : PokB n p := ⟨h.o1, h.o2, Nat.le_trans h.l1 e, Nat.le_trans h.l2 e⟩
theorem S_law_bent : FnScope ["state", "letters", "images", "pairs", "bent", "turn", "k", "flaw", "word", "image"] ["state", "letters", "images", "pairs"] (d_law_bent).scope := ⟨rfl, rfl, rfl, by decide +kernel, rfl, by decide +kernel, by decide +kernel⟩
def sp_bent (K : PySem.W.Frag) : Sp := fun vs H Q E => ∃ (D : Hp) (st : Addr) (l i : Str) (a : Addr) (xs : List V) (ps : List Pr), vs = [.ref st, .str l, .str i, .ref a] ∧ okLetters l = true ∧ okLetters i = true ∧ Same D H ∧ Stt K D H st ∧ D a = some (.lst xs) ∧ DpAll K D xs (ps.map dP) ∧ ps.length ≤ 6 ∧ (∀ p ∈ ps, PokW l i 200 p) ∧
  ∀ (D' H' : Hp) (u : V) (qs : List Pr), Gr (· = st) D H D' H' → Stt K D' H' st → Dp K D' u (dPs qs) → qs.length ≤ 8 → (∀ p ∈ qs, PokB 210 p) → Q u H'
theorem w_law_bent (T : Txt P w K mg) : Has P w K mg base 5 "_law_bent" (sp_bent K) := by
  have S := S_law_bent
  have G_law_next := w_law_next (base := base) T
  have G_law_foreign := w_law_foreign (base := base) T
  refine has_of (k := 4) T.d_law_bent T.gd_law_bent S (fun _ _ _ _ _ _ us hl => match us, hl with | [_, _, _, _], _ => rfl) (fun vs H Q E h => ?_) (fun f cdv A outer s H vs Q E hr h => ?_)
  · obtain ⟨D, st, l, i, a, xs, ps, rfl, _⟩ := h
    rfl
  · obtain ⟨D, st, l, im, a, xs, ps, rfl, ok1, ok2, sm, X, ha, hxs, hf6, hok, q⟩ := h
    have hl := ok_len ok1
    have hi := ok_len ok2
    have hlz := le1000 (by omega : l.length ≤ 1000)
    have hiz := le1000 (by omega : im.length ≤ 1000)
    have hxl : xs.length = ps.length := by rw [dpl_len hxs, List.length_map]
    obtain ⟨lc, elc⟩ : ∃ c, l.cps.toList[0]? = some c := ⟨_, List.getElem?_eq_getElem (by rw [len_list]; omega)⟩
    obtain ⟨ic, eic⟩ : ∃ c, im.cps.toList[0]? = some c := ⟨_, List.getElem?_eq_getElem (by rw [len_list]; omega)⟩
    refine ⟨_, (pss_cons (ps_set (i := 4) S.nd rfl (Or.inl rfl) (pe_op (oK_add K) (pv 3) (pe_lst (pa_cons (pe_tup (pa_cons pe_str (pa_cons pe_str pa_nil))) (pa_cons (pe_tup (pa_cons (pe_ix (ixK_seq K) (pv 1) pe_int (fun _ _ => rfl)) (pa_cons (pe_ix (ixK_seq K) (pv 2) pe_int (fun _ _ => rfl)) pa_nil))) pa_nil)))))
    (pss_cons (ps_for (passes_of rfl) rfl (pi_range1 (by rfl) T.b_range (pa_cons (pe_op (oK_add K) pe_int (pe_has G_law_next (hr.mono (by decide)) (L2N.takes_of rfl rfl rfl rfl) rfl (pa_cons (pv 0) (pa_cons pe_int pa_nil)))) pa_nil)) (pg_name (i := 5) S.nd rfl (Or.inl rfl))
      (pss_cons (ps_set (i := 6) S.nd rfl (Or.inl rfl) (pe_has G_law_next (hr.mono (by decide)) (L2N.takes_of rfl rfl rfl rfl) rfl (pa_cons (pv 0) (pa_cons (pe_callB (bK_len K) (by rfl) T.b_len (by decide +kernel) (pa_cons (pv 4) pa_nil)) pa_nil))))
    (pss_cons (ps_set (i := 7) S.nd rfl (Or.inl rfl) (pe_has G_law_next (hr.mono (by decide)) (L2N.takes_of rfl rfl rfl rfl) rfl (pa_cons (pv 0) (pa_cons pe_int pa_nil))))
    (pss_cons (ps_set (i := 8) S.nd rfl (Or.inl rfl) (pe_ix (ixK_seq K) (pe_ix (ixK_seq K) (pv 4) (pv 6) (fun _ _ => rfl)) pe_int (fun _ _ => rfl)))
    (pss_cons (ps_set (i := 9) S.nd rfl (Or.inl rfl) (pe_ix (ixK_seq K) (pe_ix (ixK_seq K) (pv 4) (pv 6) (fun _ _ => rfl)) pe_int (fun _ _ => rfl)))
    (pss_cons (ps_if (PW.pt (pw_or (pt_cmpR (cK_eq K hr.units) (pv 7) pe_int (nomark _)) (pw_or1 (pt_cmpR (cK_eq K hr.units) (pv 7) pe_int (nomark _)))))
      (pss_one (ps_set (i := 8) S.nd rfl (Or.inl rfl) (pe_has G_law_foreign (hr.mono (by decide)) (L2N.takes_of rfl rfl rfl rfl) rfl (pa_cons (pv 0) (pa_cons (pv 1) (pa_cons (pv 8) pa_nil))))))
      pss_nil)
    (pss_cons (ps_if (PW.pt (pw_or (pt_cmpR (cK_eq K hr.units) (pv 7) pe_int (nomark _)) (pw_or1 (pt_cmpR (cK_eq K hr.units) (pv 7) pe_int (nomark _)))))
      (pss_one (ps_set (i := 9) S.nd rfl (Or.inl rfl) (pe_has G_law_foreign (hr.mono (by decide)) (L2N.takes_of rfl rfl rfl rfl) rfl (pa_cons (pv 0) (pa_cons (pv 2) (pa_cons (pv 9) pa_nil))))))
      pss_nil)
    (pss_cons (ps_if (pt_cmpR (cK_eq K hr.units) (pv 7) pe_int (nomark _))
      (pss_one (ps_set (i := 9) S.nd rfl (Or.inl rfl) (pe_op (oK_add K) (pv 9) (pe_ix (ixK_seq K) (pv 2) (pe_has G_law_next (hr.mono (by decide)) (L2N.takes_of rfl rfl rfl rfl) rfl (pa_cons (pv 0) (pa_cons (pe_callB (bK_len K) (by rfl) T.b_len (by decide +kernel) (pa_cons (pv 2) pa_nil)) pa_nil))) (fun _ _ => rfl)))))
      pss_nil)
    (pss_one (ps_asg (pe_tup (pa_cons (pv 8) (pa_cons (pv 9) pa_nil))) (pg_sub (pv 4) (pv 6) set_list)))))))))))
    (pss_one (ps_ret (pv 4))))), ?_⟩
    walk_at "rd"
    refine ⟨le1000 (by simp), fun t1 nt1 => ?_⟩
    have n1s : t1 ≠ st := fun e => X.is (e ▸ nt1)
    have g1 := (Gr.refl (m := (· = st)) sm).ice (o := .tup [.str "", .str ""]) nt1
    have X1 := (X.put (o := .tup [.str "", .str ""]) n1s).frz n1s (o := .tup [.str "", .str ""]) ((Gr.refl (m := No) sm).free nt1)
    walk_at "rd"
    refine s_ix_s hlz (atI_i (j := 0) rfl elc) ?_
    walk_at "rd"
    refine s_ix_s hiz (atI_i (j := 0) rfl eic) ?_
    walk_at "rd"
    refine ⟨le1000 (by simp), fun t2 nt2 => ?_⟩
    have n2s : t2 ≠ st := fun e => X1.is (e ▸ nt2)
    have g2 := g1.ice (o := .tup [.str ⟨#[lc]⟩, .str ⟨#[ic]⟩]) nt2
    have X2 := (X1.put (o := .tup [.str ⟨#[lc]⟩, .str ⟨#[ic]⟩]) n2s).frz n2s (o := .tup [.str ⟨#[lc]⟩, .str ⟨#[ic]⟩]) (g1.free nt2)
    refine ⟨le1000 (by simp), fun t3 nt3 => ?_⟩
    have n3s : t3 ≠ st := fun e => X2.is (e ▸ nt3)
    have g3 := g2.lay (o := .lst [.ref t1, .ref t2]) nt3
    have X3 := X2.put (o := .lst [.ref t1, .ref t2]) n3s
    have d1 : Dp K (upd (upd D t1 (.tup [.str "", .str ""])) t2 (.tup [.str ⟨#[lc]⟩, .str ⟨#[ic]⟩])) (.ref t1) (dP ("", "")) := Y.Dp.mono (same_new (g1.free nt2)) (.tup (sqt upd_same) (.cons (.str _) (.cons (.str _) .nil)))
    have d2 : Dp K (upd (upd D t1 (.tup [.str "", .str ""])) t2 (.tup [.str ⟨#[lc]⟩, .str ⟨#[ic]⟩])) (.ref t2) (dP (⟨#[lc]⟩, ⟨#[ic]⟩)) := .tup (sqt upd_same) (.cons (.str _) (.cons (.str _) .nil))
    have haU := g3.same' _ _ ha
    have ht3 : (upd (upd (upd H t1 (.tup [.str "", .str ""])) t2 (.tup [.str ⟨#[lc]⟩, .str ⟨#[ic]⟩])) t3 (.lst [.ref t1, .ref t2])) t3 = some (.lst [.ref t1, .ref t2]) := upd_same
    have hxs2 := Y.Dp.monoAll g2.dd hxs
    generalize (upd (upd (upd H t1 (.tup [.str "", .str ""])) t2 (.tup [.str ⟨#[lc]⟩, .str ⟨#[ic]⟩])) t3 (.lst [.ref t1, .ref t2])) = H3 at *
    generalize (upd (upd D t1 (.tup [.str "", .str ""])) t2 (.tup [.str ⟨#[lc]⟩, .str ⟨#[ic]⟩])) = D2 at *
    refine s_add_l haU ht3 (leBig (by simp; omega)) fun bl nbl => ?_
    have nbs : bl ≠ st := fun e => X3.is (e ▸ nbl)
    have g4 := g3.lay (o := .lst (xs ++ [.ref t1, .ref t2])) nbl
    have X4 := X3.put (o := .lst (xs ++ [.ref t1, .ref t2])) nbs
    have bl0 : H bl = none := g3.kept _ nbl
    have hDb := g3.free nbl
    have hq0 : DpAll K D2 (xs ++ [.ref t1, .ref t2]) ((ps ++ [(("", "") : Pr), (⟨#[lc]⟩, ⟨#[ic]⟩)]).map dP) := by
      rw [List.map_append]
      have := dpl_snoc (dpl_snoc hxs2 d1) d2
      simpa using this
    have okE : Okc "" := fun c z => nomatch z
    have okq0 : ∀ p ∈ ps ++ [(("", "") : Pr), (⟨#[lc]⟩, ⟨#[ic]⟩)], PokB (200 + 2 * 0) p := fun p hp => by
      rcases List.mem_append.mp hp with hp | hp
      · have h := hok p hp
        exact ⟨fun c hc => ok_okc ok1 c (h.wd c hc), fun c hc => ok_okc ok2 c (h.im c hc), h.le, by have := h.le; have := h.eq; omega⟩
      · rcases List.mem_cons.mp hp with e | hp
        · rw [e]
          exact ⟨okE, okE, by decide, by decide⟩
        · rw [List.mem_singleton.mp hp]
          exact ⟨fun d hd => by rw [show d = lc from List.mem_singleton.mp hd]; exact ok_okc ok1 _ (List.mem_of_getElem? elc), fun d hd => by rw [show d = ic from List.mem_singleton.mp hd]; exact ok_okc ok2 _ (List.mem_of_getElem? eic), (by show 1 ≤ 200; decide), (by show 1 ≤ 200; decide)⟩
    have hlen0 : (ps ++ [(("", "") : Pr), (⟨#[lc]⟩, ⟨#[ic]⟩)]).length ≤ 8 := by simp; omega
    have hlen1 : 1 ≤ (ps ++ [(("", "") : Pr), (⟨#[lc]⟩, ⟨#[ic]⟩)]).length := by simp
    walk_at "rd"
    refine ⟨D2, st, _, rfl, by decide, by decide, g4.sub, X4, fun D5 H5 r5 g5 X5 r50 r51 => ?_⟩
    have gA := g4.trans g5
    have hb5 := g5.same bl _ nbs upd_same
    have hDb5 := g5.stay hDb upd_same
    walk_at "rd"
    refine ⟨_, rfl, by omega, by omega, lp_it walk_r0 (fun i σ H' => ∃ (D' : Hp) (ys : List V) (qs : List Pr) (o5 o6 o7 o8 o9 : Option V), Gr (· = st) D H D' H' ∧ Stt K D' H' st ∧ D' bl = none ∧ H' bl = some (.lst ys) ∧ DpAll K D' ys (qs.map dP) ∧ 1 ≤ qs.length ∧ qs.length ≤ 8 ∧ (∀ p ∈ qs, PokB (200 + 2 * i) p) ∧ σ = [some (.ref st), some (.str l), some (.str im), some (.ref a), some (.ref bl), o5, o6, o7, o8, o9])
      ⟨D5, _, _, none, none, none, none, none, gA, X5, hDb5, hb5, Y.Dp.monoAll g5.dd hq0, hlen1, hlen0, okq0, rfl⟩ (fun _ _ _ _ _ => trivial) ?_ ?_⟩
    · rintro i x σ H6 H7 hi7 ⟨D6, ys, qs, o5, o6, o7, o8, o9, g6, X6, hDb6, hb6, hys, hq1, hq8, hqok, rfl⟩ ⟨rfl, rfl⟩
      have hi2 : i < 2 := by omega
      have hyl : ys.length = qs.length := by rw [dpl_len hys, List.length_map]
      walk_at "rd"
      refine s_len_l (sql hb6) ?_
      walk_at "rd"
      refine ⟨D6, st, _, rfl, by omega, by omega, g6.sub, X6, fun D8 H8 k g8 X8 k0 k1 => ?_⟩
      have hb8 := g8.same bl _ nbs hb6
      have hDb8 := g8.stay hDb6 hb6
      walk_at "rd"
      refine ⟨D8, st, _, rfl, by omega, by omega, g8.sub, X8, fun D9 H9 fl g9 X9 f0 f1 => ?_⟩
      have hb9 := g9.same bl _ nbs hb8
      have hDb9 := g9.stay hDb8 hb8
      have gB := (g6.trans g8).trans g9
      have hys9 := Y.Dp.monoAll (g8.trans g9).dd hys
      have hk : k.toNat < qs.length := by omega
      obtain ⟨p, hp⟩ : ∃ p, qs[k.toNat]? = some p := ⟨_, List.getElem?_eq_getElem hk⟩
      have hpk := hqok p (List.mem_of_getElem? hp)
      obtain ⟨y, hy⟩ : ∃ y, ys[k.toNat]? = some y := ⟨_, List.getElem?_eq_getElem (by omega)⟩
      obtain ⟨d, hd, hy2⟩ := dpl_get hys9 hy
      rw [List.getElem?_map, hp] at hd
      cases hd
      obtain ⟨b, rfl, hb⟩ := dP_get hy2
      have ixk : ∀ Q : VK, Q (.ref b) H9 → rIx K (.ref bl) (.int k) H9 Q := fun Q q => s_ix_l (sql hb9) (atI_i (j := k.toNat) (by omega) hy) q
      have l1 := hpk.l1
      have l2 := hpk.l2
      walk_at "rd"
      refine ixk _ ?_
      walk_at "rd"
      refine s_ix_t (sqt_up (Gr.refl (m := No) gB.sub) hb) atI_0 ?_
      walk_at "rd"
      refine ixk _ ?_
      walk_at "rd"
      refine s_ix_t (sqt_up (Gr.refl (m := No) gB.sub) hb) (atI_i (j := 1) rfl rfl) ?_
      with_reducible refine s_gname ?_
      refine s_cut (fun σ' H' => ∃ (D' : Hp) (w : Str), Gr (· = st) D9 H9 D' H' ∧ Stt K D' H' st ∧ Okc w ∧ w.length ≤ 200 + 2 * i + 1 ∧ σ' = [some (.ref st), some (.str l), some (.str im), some (.ref a), some (.ref bl), some (.int (i : Nat)), some (.int k), some (.int fl), some (.str w), some (.str p.2)]) ?_ (fun N rest => ?_)
      · rintro σ' H10 ⟨D10, wd, g10, X10, ow, lw, rfl⟩
        refine s_cut (fun σ' H' => ∃ (D' : Hp) (z : Str), Gr (· = st) D9 H9 D' H' ∧ Stt K D' H' st ∧ Okc z ∧ z.length ≤ 200 + 2 * i + 1 ∧ σ' = [some (.ref st), some (.str l), some (.str im), some (.ref a), some (.ref bl), some (.int (i : Nat)), some (.int k), some (.int fl), some (.str wd), some (.str z)]) ?_ (fun N rest => ?_)
        · rintro σ' H11 ⟨D11, z, g11, X11, oz, lz, rfl⟩
          refine s_cut (fun σ' H' => ∃ (D' : Hp) (z : Str), Gr (· = st) D9 H9 D' H' ∧ Stt K D' H' st ∧ Okc z ∧ z.length ≤ 200 + 2 * i + 2 ∧ σ' = [some (.ref st), some (.str l), some (.str im), some (.ref a), some (.ref bl), some (.int (i : Nat)), some (.int k), some (.int fl), some (.str wd), some (.str z)]) ?_ (fun N rest => ?_)
          · rintro σ' H12 ⟨D12, z, g12, X12, oz, lz, rfl⟩
            have hb12 := g12.same bl _ nbs hb9
            have hDb12 := g12.stay hDb9 hb9
            walk_at "rd"
            refine ⟨le1000 (by simp), fun t nt => ?_⟩
            have nts : t ≠ st := fun e => X12.is (e ▸ nt)
            have nbt : bl ≠ t := fun e => by rw [← e, hb12] at nt; cases nt
            have gT := (gB.trans g12).ice (o := .tup [.str wd, .str z]) nt
            have dT : Dp K (upd D12 t (.tup [.str wd, .str z])) (.ref t) (dP (wd, z)) := .tup (sqt upd_same) (.cons (.str _) (.cons (.str _) .nil))
            walk_at "rd"
            refine s_setL ((upd_ne nbt).trans hb12) (l := k.toNat) ?_ ?_
            · unfold ixN
              rw [if_pos k0, if_pos (by omega)]
            · refine ⟨_, ys.set k.toNat (.ref t), qs.set k.toNat (wd, z), _, _, _, _, _, gT.put (by rw [upd_ne nbt]; exact hDb12) (.inl bl0), ((X12.put nts).frz nts ((gB.trans g12).free nt)).put nbs, by rw [upd_ne nbt]; exact hDb12, upd_same, ?_, by rw [List.length_set]; exact hq1, by rw [List.length_set]; exact hq8, fun u hu => ?_, rfl⟩
              · rw [List.map_set]
                exact dpl_set (Y.Dp.monoAll (same_new ((gB.trans g12).free nt)) (Y.Dp.monoAll g12.dd hys9)) dT
              · rcases List.mem_or_eq_of_mem_set hu with hu | hu
                · exact (hqok u hu).mono (by omega)
                · rw [hu]
                  exact ⟨ow, oz, by show wd.length ≤ _; omega, by show z.length ≤ _; omega⟩
          · walk_at "rd"
            refine jtD (fun e => ?_) (fun e => ?_)
            · walk_at "rd"
              refine ⟨D11, st, _, rfl, by omega, by omega, (gB.trans g11).sub, X11, fun D12 H12 r g12 X12 r0 r1 => ?_⟩
              have hm : r.toNat < im.cps.toList.length := by rw [len_list]; omega
              walk_at "rd"
              refine s_ix_s hiz (atI_i (j := r.toNat) (by omega) (List.getElem?_eq_getElem hm)) ?_
              have e1 : (⟨#[im.cps.toList[r.toNat]'hm]⟩ : Str).length = 1 := rfl
              refine s_add_s (by rw [e1]; exact le1000 (by omega)) ?_
              walk_at "rd"
              exact rest _ _ ⟨D12, _, g11.trans g12, X12, oz.app fun d hd => by rw [show d = _ from List.mem_singleton.mp hd]; exact ok_okc ok2 _ (List.getElem_mem hm), by rw [app_len, e1]; omega, rfl⟩
            · walk_at "rd"
              exact rest _ _ ⟨D11, z, g11, X11, oz, by omega, rfl⟩
        · walk_at "rd"
          refine jtD (fun e => ?_) (fun e => ?_)
          · walk_at "rd"
            refine ⟨D10, st, im, p.2, rfl, ok2, by omega, hpk.o2, (gB.trans g10).sub, X10, fun D11 H11 z g11 X11 oz lz => ?_⟩
            walk_at "rd"
            exact rest _ _ ⟨D11, z, g10.trans g11, X11, oz, by omega, rfl⟩
          · walk_at "rd"
            refine jtD (fun e2 => ?_) (fun e2 => ?_)
            · walk_at "rd"
              refine ⟨D10, st, im, p.2, rfl, ok2, by omega, hpk.o2, (gB.trans g10).sub, X10, fun D11 H11 z g11 X11 oz lz => ?_⟩
              walk_at "rd"
              exact rest _ _ ⟨D11, z, g10.trans g11, X11, oz, by omega, rfl⟩
            · walk_at "rd"
              exact rest _ _ ⟨D10, p.2, g10, X10, hpk.o2, by omega, rfl⟩
      · walk_at "rd"
        refine jtD (fun e => ?_) (fun e => ?_)
        · walk_at "rd"
          refine ⟨D9, st, l, p.1, rfl, ok1, by omega, hpk.o1, gB.sub, X9, fun D11 H11 z g11 X11 oz lz => ?_⟩
          walk_at "rd"
          exact rest _ _ ⟨D11, z, g11, X11, oz, by omega, rfl⟩
        · walk_at "rd"
          refine jtD (fun e2 => ?_) (fun e2 => ?_)
          · walk_at "rd"
            refine ⟨D9, st, l, p.1, rfl, ok1, by omega, hpk.o1, gB.sub, X9, fun D11 H11 z g11 X11 oz lz => ?_⟩
            walk_at "rd"
            exact rest _ _ ⟨D11, z, g11, X11, oz, by omega, rfl⟩
          · walk_at "rd"
            exact rest _ _ ⟨D9, p.1, Gr.refl gB.sub, X9, hpk.o1, by omega, rfl⟩
    · rintro σ H6 ⟨D6, ys, qs, o5, o6, o7, o8, o9, g6, X6, hDb6, hb6, hys, hq1, hq8, hqok, rfl⟩
      have hr5 : (1 + r5).toNat ≤ 2 := by omega
      walk_at "rd"
      exact q _ H6 (.ref bl) qs (g6.cold hb6 bl0) (X6.frz nbs hDb6) (.lst (sql upd_same) (Y.Dp.monoAll (same_new hDb6) hys)) hq8 fun p hp => (hqok p hp).mono (by omega)
end
end H89

namespace H89
open PySem PySem.Spec L2 He Y Hk89
local macro_rules | `(tactic| walk_at "rd1") => `(tactic| first
  | with_reducible refine s_seq ?_
  | with_reducible refine s_asg ?_
  | with_reducible refine s_gname ?_
  | ((with_reducible refine s_var (v := ?_) ?_ ?_); rotate_left; exact rfl)
  | with_reducible refine s_c ?_
  | with_reducible refine s_op ?_
  | with_reducible refine s_un ?_
  | with_reducible refine s_nil ?_
  | with_reducible refine s_cons ?_
  | with_reducible refine s_CB ?_
  | with_reducible refine s_ifS ?_
  | with_reducible refine s_test ?_
  | with_reducible refine s_B ?_
  | with_reducible refine s_xb ?_
  | with_reducible refine s_xi ?_
  | with_reducible refine s_xs ?_
  | with_reducible refine s_or ?_
  | with_reducible refine s_and ?_
  | with_reducible refine s_not ?_
  | with_reducible refine s_orV ?_
  | with_reducible refine s_andV ?_
  | with_reducible refine s_notV ?_
  | with_reducible refine s_ret ?_
  | with_reducible refine s_retN ?_
  | with_reducible refine s_next ?_
  | with_reducible refine s_drop ?_
  | with_reducible refine s_yes ?_
  | with_reducible refine s_for ?_
  | with_reducible refine s_lc ?_
  | with_reducible refine s_iStr ?_
  | with_reducible refine s_iList ?_
  | with_reducible refine s_iTup ?_
  | with_reducible refine s_iR1 ?_
  | with_reducible refine s_iR2 ?_
  | with_reducible refine s_iE ?_
  | with_reducible refine s_iET ?_
  | with_reducible refine s_iES ?_
  | with_reducible refine s_tup ?_
  | with_reducible refine s_lst ?_
  | with_reducible refine s_BM ?_
  | with_reducible refine s_BM0 ?_
  | with_reducible refine s_BMS _ ?_
  | with_reducible refine s_M1 ?_
  | with_reducible refine s_sl ?_
  | with_reducible refine s_noP ?_
  | with_reducible refine s_po ?_
  | with_reducible refine s_call ?_
  | with_reducible refine s_callS ?_
  | with_reducible refine s_make ?_
  | with_reducible refine s_makeS ?_
  | with_reducible refine s_methS ?_
  | with_reducible refine s_callO ?_
  | with_reducible refine s_dnew ?_
  | with_reducible refine s_dget ?_
  | with_reducible refine s_din ?_
  | with_reducible refine s_dnin ?_
  | with_reducible refine s_dput ?_
  | with_reducible refine s_dsetd ?_
  | with_reducible refine s_dget2 ?_
  | with_reducible refine s_fld ?_
  | with_reducible refine s_sFld ?_
  | with_reducible refine s_rz ?_
  | with_reducible refine s_asgS ?_
  | with_reducible refine s_gSub ?_
  | with_reducible refine s_ifE ?_
  | with_reducible refine s_add_i ?_
  | with_reducible refine s_sub ?_
  | with_reducible refine s_neg ?_
  | with_reducible refine s_eq_i ?_
  | with_reducible refine s_eq_s ?_
  | with_reducible refine s_ne_i ?_
  | with_reducible refine s_ne_s ?_
  | with_reducible refine s_lt_i ?_
  | with_reducible refine s_le_i ?_
  | with_reducible refine s_gt_i ?_
  | with_reducible refine s_ge_i ?_
  | with_reducible refine s_lt_s ?_
  | with_reducible refine s_le_s ?_
  | with_reducible refine s_gt_s ?_
  | with_reducible refine s_ge_s ?_
  | with_reducible refine s_in_c ?_
  | with_reducible refine s_ni_c ?_
  | with_reducible refine s_isN ?_
  | with_reducible refine s_noN ?_
  | with_reducible refine s_abs ?_
  | with_reducible refine s_min2 ?_
  | with_reducible refine s_max2 ?_
  | with_reducible refine s_int_i ?_
  | ((with_reducible refine s_len_s ?_ ?_); assumption)
  | ((with_reducible refine s_len_l (xs := ?_) ?_ ?_); rotate_left; assumption)
  | ((with_reducible refine s_len_t (xs := ?_) ?_ ?_); rotate_left; assumption)
  | with_reducible refine s_pair upd_same ?_
  | with_reducible refine s_callS ?_
  | with_reducible refine s_sortK ?_
  | with_reducible refine s_lc2 ?_
  | with_reducible refine s_disp ?_
  | with_reducible refine s_pcons ?_
  | with_reducible refine s_pnil ?_
  | ((with_reducible refine s_ix_t (by assumption) (by first | exact atI_0 | exact atI_i (j := 1) rfl rfl | exact atI_i (j := 2) rfl rfl | exact atI_i (j := 3) rfl rfl) ?_))
  | with_reducible refine jtT ?_
  | with_reducible refine jtF ?_
  | with_reducible refine jtNT ?_
  | with_reducible refine jtNF ?_
  | dsimp only)
local macro_rules | `(tactic| walk_at "rd") => `(tactic| repeat (walk_at "rd1"))

def outV : Option Bad → List V
  | none => [.str "none"]
  | some (.word s k) => [.str "word", .str s, .int (k : Nat)]
  | some (.text n) => [.str "text", .int (n : Nat)]
section
variable {P : Program} {w : World} {K : PySem.W.Frag} {mg : Str → Option Value} {base : Heap}
theorem S_law_pair_error : FnScope ["letters", "images", "pairs", "i", "k"] ["letters", "images", "pairs"] (d_law_pair_error).scope := ⟨rfl, rfl, rfl, by decide +kernel, rfl, by decide +kernel, by decide +kernel⟩
def sp_pair_error (K : PySem.W.Frag) : Sp := fun vs H Q E => ∃ (D : Hp) (l i : Str) (v : V) (ps : List Pr), vs = [.str l, .str i, v] ∧ l.length ≤ 1000 ∧ i.length ≤ 1000 ∧ Same D H ∧ Dp K D v (dPs ps) ∧ Short ps ∧ ∀ H' q, Same H H' → H' q = some (.tup (outV (badP l i 0 ps))) → Q (.ref q) H'
theorem w_law_pair_error (T : Txt P w K mg) : Has P w K mg base 3 "_law_pair_error" (sp_pair_error K) := by
  have S := S_law_pair_error
  refine has_of (k := 2) T.d_law_pair_error T.gd_law_pair_error S (fun _ _ _ _ _ _ us hl => match us, hl with | [_, _, _], _ => rfl) (fun vs H Q E h => ?_) (fun f cdv A outer s H vs Q E hr h => ?_)
  · obtain ⟨D, l, i, v, ps, rfl, _⟩ := h
    rfl
  · obtain ⟨D, l, im, v, ps, rfl, hl, hi, sm, dv, sh, q⟩ := h
    obtain ⟨a, xs, rfl, ha, hxs⟩ := dp_list dv
    have hlz := le1000 hl
    have hiz := le1000 hi
    have hxl : xs.length = ps.length := by rw [dpl_len hxs, List.length_map]
    have haH := sm.seq ha
    have hf := sh.few
    refine ⟨_, (pss_cons (ps_for (passes_of rfl) rfl (pi_range1 (by rfl) T.b_range (pa_cons (pe_callB (bK_len K) (by rfl) T.b_len (by decide +kernel) (pa_cons (pv 2) pa_nil)) pa_nil)) (pg_name (i := 3) S.nd rfl (Or.inl rfl))
      (pss_cons (ps_for (passes_of rfl) rfl (pi_range1 (by rfl) T.b_range (pa_cons (pe_callB (bK_len K) (by rfl) T.b_len (by decide +kernel) (pa_cons (pe_ix (ixK_seq K) (pe_ix (ixK_seq K) (pv 2) (pv 3) (fun _ _ => rfl)) pe_int (fun _ _ => rfl)) pa_nil)) pa_nil)) (pg_name (i := 4) S.nd rfl (Or.inl rfl))
      (pss_one (ps_if (pt_cmpR (cK_ni K) (pe_ix (ixK_seq K) (pe_ix (ixK_seq K) (pe_ix (ixK_seq K) (pv 2) (pv 3) (fun _ _ => rfl)) pe_int (fun _ _ => rfl)) (pv 4) (fun _ _ => rfl)) (pv 0) rfl)
      (pss_one (ps_ret (pe_tup (pa_cons pe_str (pa_cons (pe_ix (ixK_seq K) (pe_ix (ixK_seq K) (pv 2) (pv 3) (fun _ _ => rfl)) pe_int (fun _ _ => rfl)) (pa_cons (pv 4) pa_nil))))))
      pss_nil)))
    (pss_cons (ps_for (passes_of rfl) rfl (pi_range1 (by rfl) T.b_range (pa_cons (pe_callB (bK_len K) (by rfl) T.b_len (by decide +kernel) (pa_cons (pe_ix (ixK_seq K) (pe_ix (ixK_seq K) (pv 2) (pv 3) (fun _ _ => rfl)) pe_int (fun _ _ => rfl)) pa_nil)) pa_nil)) (pg_name (i := 4) S.nd rfl (Or.inl rfl))
      (pss_one (ps_if (pt_cmpR (cK_ni K) (pe_ix (ixK_seq K) (pe_ix (ixK_seq K) (pe_ix (ixK_seq K) (pv 2) (pv 3) (fun _ _ => rfl)) pe_int (fun _ _ => rfl)) (pv 4) (fun _ _ => rfl)) (pv 1) rfl)
      (pss_one (ps_ret (pe_tup (pa_cons pe_str (pa_cons (pe_ix (ixK_seq K) (pe_ix (ixK_seq K) (pv 2) (pv 3) (fun _ _ => rfl)) pe_int (fun _ _ => rfl)) (pa_cons (pv 4) pa_nil))))))
      pss_nil)))
    (pss_one (ps_if (pt_cmpR (cK_ne K hr.units) (pe_callB (bK_len K) (by rfl) T.b_len (by decide +kernel) (pa_cons (pe_ix (ixK_seq K) (pe_ix (ixK_seq K) (pv 2) (pv 3) (fun _ _ => rfl)) pe_int (fun _ _ => rfl)) pa_nil)) (pe_callB (bK_len K) (by rfl) T.b_len (by decide +kernel) (pa_cons (pe_ix (ixK_seq K) (pe_ix (ixK_seq K) (pv 2) (pv 3) (fun _ _ => rfl)) pe_int (fun _ _ => rfl)) pa_nil)) (nomark _))
      (pss_one (ps_ret (pe_tup (pa_cons pe_str (pa_cons (pv 3) pa_nil)))))
      pss_nil)))))
    (pss_one (ps_ret (pe_tup (pa_cons pe_str pa_nil))))), ?_⟩
    walk_at "rd"
    refine ⟨_, rfl, by omega, by omega, lp_it walk_r0 (fun i σ H' => ∃ o4 o5, H' = H ∧ σ = [some (.str l), some (.str im), some (.ref a), o4, o5] ∧ badP l im i (ps.drop i) = badP l im 0 ps) ⟨none, none, rfl, rfl, rfl⟩ (fun _ _ _ _ _ => trivial) ?_ ?_⟩
    · rintro i x σ H1 H2 hi7 ⟨o4, o5, rfl, rfl, en⟩ ⟨rfl, rfl⟩
      have hi2 : i < ps.length := by omega
      obtain ⟨p, hp⟩ : ∃ p, ps[i]? = some p := ⟨_, List.getElem?_eq_getElem hi2⟩
      obtain ⟨hi1, ep⟩ := List.getElem?_eq_some_iff.mp hp
      rw [List.drop_eq_getElem_cons hi1, ep, badP_cons] at en
      obtain ⟨y, hy⟩ : ∃ y, xs[i]? = some y := ⟨_, List.getElem?_eq_getElem (by omega)⟩
      obtain ⟨d, hd, hy2⟩ := dpl_get hxs hy
      rw [List.getElem?_map, hp] at hd
      cases hd
      obtain ⟨b, rfl, hb⟩ := dP_get hy2
      have ixk : ∀ Q : VK, Q (.ref b) H2 → rIx K (.ref a) (.int (i : Nat)) H2 Q := fun Q q => s_ix_l haH (atI_i (j := i) rfl hy) q
      have hbH := sqt_up (Gr.refl (m := No) sm) hb
      have hlen := sh.len p (List.mem_of_getElem? hp)
      have z1 := le1000 hlen.1
      have z2 := le1000 hlen.2
      walk_at "rd"
      refine ixk _ ?_
      walk_at "rd"
      refine ⟨_, rfl, by omega, by omega, lp_it walk_r0 (fun j σ H' => ∃ o5, H' = H2 ∧ σ = [some (.str l), some (.str im), some (.ref a), some (.int (i : Nat)), o5] ∧ badAt l.cps.toList j (p.1.cps.toList.drop j) = badAt l.cps.toList 0 p.1.cps.toList) ⟨_, rfl, rfl, rfl⟩ (fun _ _ _ _ _ => trivial) ?_ ?_⟩
      · rintro j x σ H3 H4 hj ⟨o5, rfl, rfl, en1⟩ ⟨rfl, rfl⟩
        have hj2 : j < p.1.cps.toList.length := by rw [len_list]; omega
        rw [List.drop_eq_getElem_cons hj2] at en1
        have en1 : (if p.1.cps.toList[j] ∈ l.cps.toList then badAt l.cps.toList (j + 1) (p.1.cps.toList.drop (j + 1)) else some j) = badAt l.cps.toList 0 p.1.cps.toList := en1
        walk_at "rd"
        refine ixk _ ?_
        walk_at "rd"
        refine s_ix_s z1 (atI_i (j := j) rfl (List.getElem?_eq_getElem hj2)) ?_
        walk_at "rd"
        refine jtN (fun e => ?_) (fun e => ?_)
        · rw [if_neg e] at en1
          rw [← en1] at en
          dsimp only at en
          walk_at "rd"
          refine ixk _ ?_
          walk_at "rd"
          refine ⟨le1000 (by simp), fun c nc => ?_⟩
          exact q _ c (same_new nc) (by rw [upd_same, ← en]; rfl)
        · rw [if_pos e] at en1
          walk_at "rd"
          exact ⟨_, rfl, rfl, en1⟩
      · rintro σ H3 ⟨o5, rfl, rfl, en1⟩
        rw [List.drop_of_length_le (by rw [len_list]; omega)] at en1
        have en1 : none = badAt l.cps.toList 0 p.1.cps.toList := en1
        rw [← en1] at en
        dsimp only at en
        walk_at "rd"
        refine ixk _ ?_
        walk_at "rd"
        refine ⟨_, rfl, by omega, by omega, lp_it walk_r0 (fun j σ H' => ∃ o5, H' = H3 ∧ σ = [some (.str l), some (.str im), some (.ref a), some (.int (i : Nat)), o5] ∧ badAt im.cps.toList j (p.2.cps.toList.drop j) = badAt im.cps.toList 0 p.2.cps.toList) ⟨_, rfl, rfl, rfl⟩ (fun _ _ _ _ _ => trivial) ?_ ?_⟩
        · rintro j x σ H4 H5 hj ⟨o5, rfl, rfl, en1⟩ ⟨rfl, rfl⟩
          have hj2 : j < p.2.cps.toList.length := by rw [len_list]; omega
          rw [List.drop_eq_getElem_cons hj2] at en1
          have en1 : (if p.2.cps.toList[j] ∈ im.cps.toList then badAt im.cps.toList (j + 1) (p.2.cps.toList.drop (j + 1)) else some j) = badAt im.cps.toList 0 p.2.cps.toList := en1
          walk_at "rd"
          refine ixk _ ?_
          walk_at "rd"
          refine s_ix_s z2 (atI_i (j := j) rfl (List.getElem?_eq_getElem hj2)) ?_
          walk_at "rd"
          refine jtN (fun e => ?_) (fun e => ?_)
          · rw [if_neg e] at en1
            rw [← en1] at en
            dsimp only at en
            walk_at "rd"
            refine ixk _ ?_
            walk_at "rd"
            refine ⟨le1000 (by simp), fun c nc => ?_⟩
            exact q _ c (same_new nc) (by rw [upd_same, ← en]; rfl)
          · rw [if_pos e] at en1
            walk_at "rd"
            exact ⟨_, rfl, rfl, en1⟩
        · rintro σ H4 ⟨o5, rfl, rfl, en1⟩
          rw [List.drop_of_length_le (by rw [len_list]; omega)] at en1
          have en1 : none = badAt im.cps.toList 0 p.2.cps.toList := en1
          rw [← en1] at en
          dsimp only at en
          walk_at "rd"
          refine ixk _ ?_
          walk_at "rd"
          refine ixk _ ?_
          walk_at "rd"
          refine jtN (fun e => ?_) (fun e => ?_)
          · rw [if_neg (by omega)] at en
            walk_at "rd"
            refine ⟨le1000 (by simp), fun c nc => ?_⟩
            exact q _ c (same_new nc) (by rw [upd_same, ← en]; rfl)
          · rw [if_pos (by omega)] at en
            walk_at "rd"
            exact ⟨_, _, rfl, rfl, en⟩
    · rintro σ H1 ⟨o4, o5, rfl, rfl, en⟩
      rw [List.drop_of_length_le (by omega)] at en
      walk_at "rd"
      refine ⟨le1000 (by simp), fun c nc => ?_⟩
      exact q _ c (same_new nc) (by rw [upd_same, ← en]; rfl)
theorem S_law_least_raised : FnScope ["letters", "images", "pairs", "e"] ["letters", "images", "pairs"] (d_law_least_raised).scope := ⟨rfl, rfl, rfl, by decide +kernel, rfl, by decide +kernel, by decide +kernel⟩
def sp_least_raised (K : PySem.W.Frag) : Sp := fun vs H Q E => ∃ (D : Hp) (l i : Str) (v : V) (ps : List Pr), vs = [.str l, .str i, v] ∧ l.length ≤ 1000 ∧ i.length ≤ 1000 ∧ Same D H ∧ Dp K D v (dPs ps) ∧ Short ps ∧
  (¬ (okLetters l = true ∧ okLetters i = true) → ∀ H' q, Same H H' → H' q = some (.tup [.str "letters"]) → Q (.ref q) H') ∧
  (okLetters l = true → okLetters i = true → ∀ H' q, Same H H' → H' q = some (.tup (outV (badP l i 0 ps))) → Q (.ref q) H')
theorem w_law_least_raised (T : Txt P w K mg) : Has P w K mg base 7 "_law_least_raised" (sp_least_raised K) := by
  have S := S_law_least_raised
  have G_least_turner := w_least_turner (base := base) T
  have G_law_error := fun a oe cls d hz hf => w_law_error (base := base) T a oe cls d hz hf
  refine has_of (k := 6) T.d_law_least_raised T.gd_law_least_raised S (fun _ _ _ _ _ _ us hl => match us, hl with | [_, _, _], _ => rfl) (fun vs H Q E h => ?_) (fun f cdv A outer s H vs Q E hr h => ?_)
  · obtain ⟨D, l, i, v, ps, rfl, _⟩ := h
    rfl
  · obtain ⟨D, l, im, v, ps, rfl, hl, hi, sm, dv, sh, q1, q2⟩ := h
    refine ⟨_, (pss_cons (L2N.ps_try_as (i := 3) rfl rfl S.nd rfl rfl ⟨rfl, by decide, Or.inl T.g_LanguageError⟩ (L2N.takes_of rfl rfl rfl rfl)
      (fun W pn xe tk po => (pss_one (ps_expr (pe_has G_least_turner (hr.mono (by decide)) tk rfl (pa_cons (pv 0) (pa_cons (pv 1) (pa_cons (pv 2) pa_nil)))))))
      (fun a oe cls d pn hn hf => have hz := L2N.Zn.zc hn; (pss_one (ps_ret (pe_hasQ (G_law_error a oe cls d hz hf) (hot1_of hn hf) (List.mem_cons_self) (roomS hr (by decide) rfl rfl) takesN0 rfl (pa_cons (pv 3) pa_nil))))))
    (pss_one (ps_ret (pe_tup (pa_cons pe_str pa_nil))))), ?_⟩
    have fin : ∀ (H' : Hp), Same H H' → okLetters l = true → okLetters im = true → badP l im 0 ps = none → ∀ c, H' c = none → Q (.ref c) (upd H' c (.tup [.str "none"])) := fun H' s o1 o2 hb c nc => q2 o1 o2 _ c (s.trans (same_new nc)) (by rw [upd_same, hb]; rfl)
    walk_at "rd"
    refine ⟨D, l, im, v, ps, rfl, le1000 hl, le1000 hi, sm, dv, sh, fun nok => ?_, fun o1 o2 b hb => ?_, fun o1 o2 hb => ⟨fun hn x y D2 H2 u C g2 du => ?_, fun hn s D2 H2 u L hs g2 du => ?_⟩⟩
    · refine ⟨true, T.exm_BadLetters_LanguageError, fun _ a na => ?_, fun z => nomatch z⟩
      walk_at "rd"
      exact ⟨rfl, .inl ⟨rfl, trivial, fun H' qq s e' => q1 nok H' qq s e'⟩⟩
    · cases b with
      | word z k =>
        intro D' H' d g nd
        refine ⟨true, T.exm_BadWord_LanguageError, fun _ a na => ?_, fun z => nomatch z⟩
        walk_at "rd"
        exact ⟨rfl, .inr (.inl ⟨rfl, d, z, k, rfl, upd_same, fun H' qq s e' => q2 o1 o2 H' qq ((g.all.trans (same_new nd)).trans s) (by rw [e', hb]; rfl)⟩)⟩
      | text n =>
        intro D' H' d g nd
        refine ⟨true, T.exm_BadText_LanguageError, fun _ a na => ?_, fun z => nomatch z⟩
        walk_at "rd"
        exact ⟨rfl, .inr (.inr (.inl ⟨rfl, d, n, rfl, upd_same, fun H' qq s e' => q2 o1 o2 H' qq ((g.all.trans (same_new nd)).trans s) (by rw [e', hb]; rfl)⟩))⟩
    · walk_at "rd"
      refine ⟨le1000 (by simp), fun c nc => ?_⟩
      exact fin _ g2.all o1 o2 hb c nc
    · walk_at "rd"
      refine ⟨le1000 (by simp), fun c nc => ?_⟩
      exact fin _ g2.all o1 o2 hb c nc
end
end H89

namespace H89
open PySem PySem.Spec L2 He Y Hk89
local macro_rules | `(tactic| walk_at "rd1") => `(tactic| first
  | with_reducible refine s_seq ?_
  | with_reducible refine s_asg ?_
  | with_reducible refine s_gname ?_
  | ((with_reducible refine s_var (v := ?_) ?_ ?_); rotate_left; exact rfl)
  | with_reducible refine s_c ?_
  | with_reducible refine s_op ?_
  | with_reducible refine s_un ?_
  | with_reducible refine s_nil ?_
  | with_reducible refine s_cons ?_
  | with_reducible refine s_CB ?_
  | with_reducible refine s_ifS ?_
  | with_reducible refine s_test ?_
  | with_reducible refine s_B ?_
  | with_reducible refine s_xb ?_
  | with_reducible refine s_xi ?_
  | with_reducible refine s_xs ?_
  | with_reducible refine s_or ?_
  | with_reducible refine s_and ?_
  | with_reducible refine s_not ?_
  | with_reducible refine s_orV ?_
  | with_reducible refine s_andV ?_
  | with_reducible refine s_notV ?_
  | with_reducible refine s_ret ?_
  | with_reducible refine s_retN ?_
  | with_reducible refine s_next ?_
  | with_reducible refine s_drop ?_
  | with_reducible refine s_yes ?_
  | with_reducible refine s_for ?_
  | with_reducible refine s_lc ?_
  | with_reducible refine s_iStr ?_
  | with_reducible refine s_iList ?_
  | with_reducible refine s_iTup ?_
  | with_reducible refine s_iR1 ?_
  | with_reducible refine s_iR2 ?_
  | with_reducible refine s_iE ?_
  | with_reducible refine s_iET ?_
  | with_reducible refine s_iES ?_
  | with_reducible refine s_tup ?_
  | with_reducible refine s_lst ?_
  | with_reducible refine s_BM ?_
  | with_reducible refine s_BM0 ?_
  | with_reducible refine s_BMS _ ?_
  | with_reducible refine s_M1 ?_
  | with_reducible refine s_sl ?_
  | with_reducible refine s_noP ?_
  | with_reducible refine s_po ?_
  | with_reducible refine s_call ?_
  | with_reducible refine s_callS ?_
  | with_reducible refine s_make ?_
  | with_reducible refine s_makeS ?_
  | with_reducible refine s_methS ?_
  | with_reducible refine s_callO ?_
  | with_reducible refine s_dnew ?_
  | with_reducible refine s_dget ?_
  | with_reducible refine s_din ?_
  | with_reducible refine s_dnin ?_
  | with_reducible refine s_dput ?_
  | with_reducible refine s_dsetd ?_
  | with_reducible refine s_dget2 ?_
  | with_reducible refine s_fld ?_
  | with_reducible refine s_sFld ?_
  | with_reducible refine s_rz ?_
  | with_reducible refine s_asgS ?_
  | with_reducible refine s_gSub ?_
  | with_reducible refine s_ifE ?_
  | with_reducible refine s_add_i ?_
  | with_reducible refine s_sub ?_
  | with_reducible refine s_neg ?_
  | with_reducible refine s_eq_i ?_
  | with_reducible refine s_eq_s ?_
  | with_reducible refine s_ne_i ?_
  | with_reducible refine s_ne_s ?_
  | with_reducible refine s_lt_i ?_
  | with_reducible refine s_le_i ?_
  | with_reducible refine s_gt_i ?_
  | with_reducible refine s_ge_i ?_
  | with_reducible refine s_lt_s ?_
  | with_reducible refine s_le_s ?_
  | with_reducible refine s_gt_s ?_
  | with_reducible refine s_ge_s ?_
  | with_reducible refine s_in_c ?_
  | with_reducible refine s_ni_c ?_
  | with_reducible refine s_isN ?_
  | with_reducible refine s_noN ?_
  | with_reducible refine s_abs ?_
  | with_reducible refine s_min2 ?_
  | with_reducible refine s_max2 ?_
  | with_reducible refine s_int_i ?_
  | ((with_reducible refine s_len_s ?_ ?_); assumption)
  | ((with_reducible refine s_len_l (xs := ?_) ?_ ?_); rotate_left; assumption)
  | ((with_reducible refine s_len_t (xs := ?_) ?_ ?_); rotate_left; assumption)
  | with_reducible refine s_pair upd_same ?_
  | with_reducible refine s_callS ?_
  | with_reducible refine s_sortK ?_
  | with_reducible refine s_lc2 ?_
  | with_reducible refine s_disp ?_
  | with_reducible refine s_pcons ?_
  | with_reducible refine s_pnil ?_
  | ((with_reducible refine s_ix_t (by assumption) (by first | exact atI_0 | exact atI_i (j := 1) rfl rfl | exact atI_i (j := 2) rfl rfl | exact atI_i (j := 3) rfl rfl) ?_))
  | with_reducible refine jtT ?_
  | with_reducible refine jtF ?_
  | with_reducible refine jtNT ?_
  | with_reducible refine jtNF ?_
  | dsimp only)
local macro_rules | `(tactic| walk_at "rd") => `(tactic| repeat (walk_at "rd1"))

theorem comp_gap {l m : Str} {s1 s2 : Nat} {t1 t2 : Tb} (o : Ones m t1) (n1 : NoKey 32 t2) (n2 : NoKey 63 t2) : compT " " l s1 s2 t1 t2 = compT "?" l s1 s2 t1 t2 := by
  unfold compT
  congr 1
  funext t v
  unfold cmpF
  rw [inn_gap (g1 := " ") (g2 := "?") (c1 := 32) (c2 := 63) rfl rfl o n1 n2]
theorem comp_ones {gap l i : Str} {s1 s2 : Nat} {t1 t2 : Tb} (o : Ones i t2) : Ones i (compT gap l s1 s2 t1 t2) := by
  unfold compT
  have key : ∀ (vs : List Str) (t : Tb), Ones i t → Ones i (vs.foldl (cmpF gap s1 s2 t1 t2) t) := by
    intro vs
    induction vs with
    | nil => exact fun t h => h
    | cons v r ih =>
      intro t h
      refine ih _ ?_
      unfold cmpF
      cases e : getS t2 (inn gap t1 s1 s2 v) with
      | none => exact h
      | some y =>
        obtain ⟨c, hc, rfl⟩ := ones_get o e
        exact h.put hc
  exact key _ _ fun p z => nomatch z
theorem nokey_views {m : Str} {s : Nat} {t : Tb} {c : Nat} (hm : okLetters m = true) (hc : c ∉ SM.cps.toList) (h : ∀ q ∈ t, q.1 ∈ viewsM m s) : NoKey c t := fun p hp z => ok_free hm hc ((views_mem.mp (h p hp)).2.2 c z)
section
variable {P : Program} {w : World} {K : PySem.W.Frag} {mg : Str → Option Value} {base : Heap}
theorem S_law_row_right : FnScope ["state", "letters", "middle", "images", "sizes", "gaps", "one", "two", "given", "first", "second", "due", "answer", "word", "image"] ["state", "letters", "middle", "images", "sizes"] (d_law_row_right).scope := ⟨rfl, rfl, rfl, by decide +kernel, rfl, by decide +kernel, by decide +kernel⟩
def sp_row_right (K : PySem.W.Frag) : Sp := fun vs H Q E => ∃ (D : Hp) (st : Addr) (l m i : Str) (sa : Addr) (s1 s2 : Nat), vs = [.ref st, .str l, .str m, .str i, .ref sa] ∧ Same D H ∧ Stt K D H st ∧ SqT K D sa [.int (s1 : Nat), .int (s2 : Nat)] ∧ okLetters l = true ∧ okLetters m = true ∧ okLetters i = true ∧ 1 ≤ s1 ∧ 1 ≤ s2 ∧ s1 + s2 ≤ 8 ∧
  ∀ D' H', Gr (· = st) D H D' H' → Stt K D' H' st → Q (.bl true) H'
theorem w_law_row_right (T : Txt P w K mg) : Has P w K mg base 7 "_law_row_right" (sp_row_right K) := by
  have S := S_law_row_right
  have G_law_next := w_law_next (base := base) T
  have G_law_table := w_law_table (base := base) T
  have G_Turner := w_Turner (base := base) T
  have G_turner_call := w_call (base := base) T
  have G_law_composed := w_law_composed (base := base) T
  have G_one_behind_other := w_one_behind (base := base) T
  have G_law_integer := w_law_integer (base := base) T
  have G_law_same_text := w_law_same_text (base := base) T
  have G_law_same_table := w_law_same_table (base := base) T
  have G_law_asked_words := w_law_asked (base := base) T
  have G_law_image := w_law_image (base := base) T
  refine has_of (k := 6) T.d_law_row_right T.gd_law_row_right S (fun _ _ _ _ _ _ us hl => match us, hl with | [_, _, _, _, _], _ => rfl) (fun vs H Q E h => ?_) (fun f cdv A outer s H vs Q E hr h => ?_)
  · obtain ⟨D, st, l, m, i, sa, s1, s2, rfl, _⟩ := h
    rfl
  · obtain ⟨D, st, l, m, i, sa, s1, s2, rfl, sm, X, hsa, ok1, ok2, ok4, h1, h2, h8, q⟩ := h
    have hl := ok_len ok1
    have hm := ok_len ok2
    have hi := ok_len ok4
    refine ⟨_, (pss_cons (ps_set (i := 5) S.nd rfl (Or.inl rfl) (pe_cmpR (cK_eq K hr.units) (pe_has G_law_next (hr.mono (by decide)) (L2N.takes_of rfl rfl rfl rfl) rfl (pa_cons (pv 0) (pa_cons pe_int pa_nil))) pe_int (nomark _)))
    (pss_cons (ps_set (i := 6) S.nd rfl (Or.inl rfl) (pe_has G_law_table (hr.mono (by decide)) (L2N.takes_of rfl rfl rfl rfl) rfl (pa_cons (pv 0) (pa_cons (pv 1) (pa_cons (pe_ix (ixK_seq K) (pv 4) pe_int (fun _ _ => rfl)) (pa_cons (pv 2) (pa_cons (pv 5) pa_nil)))))))
    (pss_cons (ps_set (i := 7) S.nd rfl (Or.inl rfl) (pe_has G_law_table (hr.mono (by decide)) (L2N.takes_of rfl rfl rfl rfl) rfl (pa_cons (pv 0) (pa_cons (pv 2) (pa_cons (pe_ix (ixK_seq K) (pv 4) pe_int (fun _ _ => rfl)) (pa_cons (pv 3) (pa_cons (pv 5) pa_nil)))))))
    (pss_cons (ps_set (i := 8) S.nd rfl (Or.inl rfl) (pe_callTy call_dictD (by rfl) T.b_dict (by decide +kernel) (pa_cons (pv 6) pa_nil)))
    (pss_cons (ps_set (i := 9) S.nd rfl (Or.inl rfl) (pe_mkS G_Turner (hr.mono (by decide)) (L2N.takes_of rfl rfl rfl rfl) rfl (pa_cons (pv 1) (pa_cons (pv 2) (pa_cons (pe_ix (ixK_seq K) (pv 4) pe_int (fun _ _ => rfl)) (pa_cons (pv 8) pa_nil))))))
    (pss_cons (ps_expr (pe_dclear (pv 8)))
    (pss_cons (ps_set (i := 10) S.nd rfl (Or.inl rfl) (pe_mkS G_Turner (hr.mono (by decide)) (L2N.takes_of rfl rfl rfl rfl) rfl (pa_cons (pv 2) (pa_cons (pv 3) (pa_cons (pe_ix (ixK_seq K) (pv 4) pe_int (fun _ _ => rfl)) (pa_cons (pe_callTy call_dictD (by rfl) T.b_dict (by decide +kernel) (pa_cons (pv 7) pa_nil)) pa_nil))))))
    (pss_cons (ps_set (i := 11) S.nd rfl (Or.inl rfl) (pe_has G_law_composed (hr.mono (by decide)) (L2N.takes_of rfl rfl rfl rfl) rfl (pa_cons (pv 1) (pa_cons (pv 4) (pa_cons (pv 6) (pa_cons (pv 7) pa_nil))))))
    (pss_cons (ps_set (i := 12) S.nd rfl (Or.inl rfl) (pe_has G_one_behind_other (hr.mono (by decide)) (L2N.takes_of rfl rfl rfl rfl) rfl (pa_cons (pv 9) (pa_cons (pv 10) pa_nil))))
    (pss_cons (ps_if (PW.pt (pw_or (pt_not (pt_val (pe_callB call_isi (by rfl) T.b_isinstance (by decide +kernel) (pa_cons (pv 12) (pa_cons (pe_gC rfl T.g_Turner) pa_nil))))) (pw_or (pt_not (pt_val (pe_has G_law_integer (hr.mono (by decide)) (L2N.takes_of rfl rfl rfl rfl) rfl (pa_cons (peK_fld K (pv 12) rfl) pa_nil)))) (pw_or1 (pt_cmpR (cK_ne K hr.units) (peK_fld K (pv 12) rfl) (pe_op o_sub (pe_op (oK_add K) (pe_ix (ixK_seq K) (pv 4) pe_int (fun _ _ => rfl)) (pe_ix (ixK_seq K) (pv 4) pe_int (fun _ _ => rfl))) pe_int) (nomark _))))))
      (pss_one (ps_ret pe_bl))
      pss_nil)
    (pss_cons (ps_if (PW.pt (pw_or (pt_not (pt_val (pe_has G_law_same_text (hr.mono (by decide)) (L2N.takes_of rfl rfl rfl rfl) rfl (pa_cons (peK_fld K (pv 12) rfl) (pa_cons (pv 1) pa_nil))))) (pw_or1 (pt_not (pt_val (pe_has G_law_same_text (hr.mono (by decide)) (L2N.takes_of rfl rfl rfl rfl) rfl (pa_cons (peK_fld K (pv 12) rfl) (pa_cons (pv 3) pa_nil))))))))
      (pss_one (ps_ret pe_bl))
      pss_nil)
    (pss_cons (ps_if (pt_not (pt_val (pe_has G_law_same_table (hr.mono (by decide)) (L2N.takes_of rfl rfl rfl rfl) rfl (pa_cons (peK_fld K (pv 12) rfl) (pa_cons (pv 11) pa_nil)))))
      (pss_one (ps_ret pe_bl))
      pss_nil)
    (pss_cons (ps_for (passes_of rfl) rfl (piK_list K (pe_has G_law_asked_words (hr.mono (by decide)) (L2N.takes_of rfl rfl rfl rfl) rfl (pa_cons (pv 0) (pa_cons (pv 1) pa_nil)))) (pg_name (i := 13) S.nd rfl (Or.inl rfl))
      (pss_cons (ps_set (i := 14) S.nd rfl (Or.inl rfl) (pe_has G_law_image (hr.mono (by decide)) (L2N.takes_of rfl rfl rfl rfl) rfl (pa_cons (pv 6) (pa_cons (pe_ix (ixK_seq K) (pv 4) pe_int (fun _ _ => rfl)) (pa_cons (pv 13) pa_nil)))))
    (pss_cons (ps_if (pt_cmpR c_ns (pv 14) pe_non (nomark _))
      (pss_one (ps_set (i := 14) S.nd rfl (Or.inl rfl) (pe_has G_law_image (hr.mono (by decide)) (L2N.takes_of rfl rfl rfl rfl) rfl (pa_cons (pv 7) (pa_cons (pe_ix (ixK_seq K) (pv 4) pe_int (fun _ _ => rfl)) (pa_cons (pv 14) pa_nil))))))
      pss_nil)
    (pss_one (ps_if (pt_not (pt_val (pe_has G_law_same_text (hr.mono (by decide)) (L2N.takes_of rfl rfl rfl rfl) rfl (pa_cons (pe_callO G_turner_call (hr.mono (by decide)) (L2N.takes_of rfl rfl rfl rfl) (pv 12) (pa_cons (pv 13) pa_nil)) (pa_cons (pv 14) pa_nil)))))
      (pss_one (ps_ret pe_bl))
      pss_nil)))))
    (pss_one (ps_ret (pe_and (pe_has G_law_same_table (hr.mono (by decide)) (L2N.takes_of rfl rfl rfl rfl) rfl (pa_cons (peK_fld K (pv 9) rfl) (pa_cons (pv 6) pa_nil))) (pe_one (pe_has G_law_same_table (hr.mono (by decide)) (L2N.takes_of rfl rfl rfl rfl) rfl (pa_cons (peK_fld K (pv 10) rfl) (pa_cons (pv 7) pa_nil)))))))))))))))))))), ?_⟩
    walk_at "rd"
    refine ⟨D, st, _, rfl, by decide, by decide, sm, X, fun D1 H1 r1 g1 X1 a0 a1 => ?_⟩
    have hsa1 := sqt_up g1 hsa
    walk_at "rd"
    refine ⟨D1, st, l, m, s1, _, rfl, hl.2, hm.1, hm.2, by omega, g1.sub, X1, fun D2 H2 p1 k1 t1 g2 X2 np1 hD1 hp1 kv1 on1 ky1 tl1 => ?_⟩
    have n1s : p1 ≠ st := fun e => X1.is (e ▸ np1)
    have gA := g1.trans g2
    have hsa2 := sqt_up gA hsa
    walk_at "rd"
    refine ⟨D2, st, m, i, s2, _, rfl, hm.2, hi.1, hi.2, by omega, g2.sub, X2, fun D3 H3 p2 k2 t2 g3 X3 np2 hD2 hp2 kv2 on2 ky2 tl2 => ?_⟩
    have n2s : p2 ≠ st := fun e => X2.is (e ▸ np2)
    have gB := gA.trans g3
    have hp1 := g3.same _ _ n1s hp1
    have hD1 := g3.stay hD1 ‹_›
    have hsa3 := sqt_up gB hsa
    walk_at "rd"
    refine ⟨p1, k1, rfl, .inl hp1, fun p3 np3 => ?_⟩
    have n3s : p3 ≠ st := fun e => X3.is (e ▸ np3)
    have gB3 := gB.lay (o := .dK k1) np3
    have hsa3 := sqt_up gB3 hsa
    walk_at "rd"
    intro x dx nx ndx ne
    refine mkT gB3.sub ok1 ok2 upd_same kv1 nx ndx ne fun D4 H4 g4 M1 => ?_
    have gC := gB3.trans g4.no
    have X4 := (X3.put (o := .dK k1) n3s).up g4.no
    have hp3 := g4.same p3 _ (fun z => z) upd_same
    have hD3 : D4 p3 = none := g4.stay (gB.free np3) upd_same
    have hD1 := g4.stay hD1 ((upd_ne (ne_of_none hp1 np3)).trans hp1)
    have hD2 := g4.stay hD2 ((upd_ne (ne_of_none hp2 np3)).trans hp2)
    have hp1 := g4.same p1 _ (fun z => z) ((upd_ne (ne_of_none hp1 np3)).trans hp1)
    have hp2 := g4.same p2 _ (fun z => z) ((upd_ne (ne_of_none hp2 np3)).trans hp2)
    have n13 : p1 ≠ p3 := ne_of_none ‹H3 p1 = _› np3
    have n23 : p2 ≠ p3 := ne_of_none ‹H3 p2 = _› np3
    have hsa4 := sqt_up gC hsa
    walk_at "rd"
    refine ⟨isDictV hp3, ?_⟩
    have p30 : H p3 = none := gB.kept _ np3
    have gD := gC.put (o := .dK []) hD3 (.inl p30)
    have X5 := X4.put (o := .dK []) n3s
    refine ⟨p3, k1, rfl, rfl, hp3, ?_⟩
    have hp1 : (upd H4 p3 (.dK [])) p1 = some (.dK k1) := (upd_ne n13).trans hp1
    have hp2 : (upd H4 p3 (.dK [])) p2 = some (.dK k2) := (upd_ne n23).trans hp2
    have hsa5 := sqt_up gD hsa
    generalize upd H4 p3 (.dK []) = H5 at *
    walk_at "rd"
    refine ⟨p2, k2, rfl, .inl hp2, fun p4 np4 => ?_⟩
    have n4s : p4 ≠ st := fun e => X5.is (e ▸ np4)
    have gD4 := gD.lay (o := .dK k2) np4
    have hsa6 := sqt_up gD4 hsa
    walk_at "rd"
    intro x2 dx2 nx2 ndx2 ne2
    refine mkT gD4.sub ok2 ok4 upd_same kv2 nx2 ndx2 ne2 fun D6 H6 g6 M2 => ?_
    have gE := gD4.trans g6.no
    have X6 := (X5.put (o := .dK k2) n4s).up g6.no
    have hD1 := g6.stay hD1 ((upd_ne (ne_of_none hp1 np4)).trans hp1)
    have hD2 := g6.stay hD2 ((upd_ne (ne_of_none hp2 np4)).trans hp2)
    have hp1 := g6.same p1 _ (fun z => z) ((upd_ne (ne_of_none hp1 np4)).trans hp1)
    have hp2 := g6.same p2 _ (fun z => z) ((upd_ne (ne_of_none hp2 np4)).trans hp2)
    have M1 := M1.up g6.dd
    have hsaD := same_seqT gE.dd hsa
    walk_at "rd"
    refine ⟨D6, l, sa, p1, p2, s1, s2, m, k1, k2, t1, t2, rfl, gE.sub, hsaD, h1, h2, h8, hl.2, hp1, hp2, kv1, kv2, on1, fun H7 p5 k5 g7 np5 hD5 hp5 kv5 => ?_⟩
    walk_at "rd"
    refine ⟨D6, _, _, l, m, m, i, s1, s2, t1, t2, rfl, g7.sub, M1, M2, ok1, ok4, h1, h2, by omega, by omega, on1, by omega, by omega, fun e => absurd rfl e, fun _ e8 => by omega, fun _ _ D8 H8 av g8 MA => ?_⟩
    have c32 : (32 : Nat) ∉ SM.cps.toList := by decide +kernel
    have c63 : (63 : Nat) ∉ SM.cps.toList := by decide +kernel
    have nk := nokey_views (c := 63) ok2 c63 ky2
    rw [comp_gap on1 (nokey_views ok2 c32 ky2) nk] at MA
    have MA0 := MA
    obtain ⟨aa, dxa, da, ka, rfl, haa, hda, hkva⟩ := MA
    have gF := (gE.trans g7.no).trans g8.no
    have X8 := (X6.up g7.no).up g8.no
    have haH := gF.sub _ _ haa
    have hdaH := gF.sub _ _ hda
    have hD1 := g8.stay hD1 (g7.same _ _ (fun z => z) hp1)
    have hD2 := g8.stay hD2 (g7.same _ _ (fun z => z) hp2)
    have hp1 := g8.same _ _ (fun z => z) (g7.same _ _ (fun z => z) hp1)
    have hp2 := g8.same _ _ (fun z => z) (g7.same _ _ (fun z => z) hp2)
    have hp5 := g8.same _ _ (fun z => z) hp5
    have hsa8 := sqt_up gF hsa
    have M1 := M1.up g8.dd
    have M2 := M2.up g8.dd
    have nD5 : D8 p5 = none := g8.stay hD5 ‹_›
    have nda5 : da ≠ p5 := fun e => by rw [e, nD5] at hda; cases hda
    walk_at "rd"
    refine ⟨.ref aa, .ref (ga K "Turner"), .ref (ga K "Turner"), .ref (ga K "Turner"), true, rfl, .own _, .base (.ins haH T.cl_Turner T.o_Turner.ha T.o_Turner.hn T.o_Turner.ht T.o_Turner.hm), T.kit_Turner_Turner, ?_⟩
    walk_at "rd"
    refine ⟨aa, _, _, _, _, rfl, haH, T.cl_Turner, T.na_Turner_size, rfl, ?_⟩
    walk_at "rd"
    refine ⟨_, rfl, ?_⟩
    walk_at "rd"
    refine ⟨aa, _, _, _, _, rfl, haH, T.cl_Turner, T.na_Turner_size, rfl, ?_⟩
    walk_at "rd"
    refine jtN (fun e => absurd (by omega) e) (fun _ => ?_)
    walk_at "rd"
    refine ⟨aa, _, _, _, _, rfl, haH, T.cl_Turner, T.na_Turner_letters, rfl, ?_⟩
    walk_at "rd"
    refine ⟨some l, rfl, ?_⟩
    walk_at "rd"
    refine ⟨aa, _, _, _, _, rfl, haH, T.cl_Turner, T.na_Turner_images, rfl, ?_⟩
    walk_at "rd"
    refine ⟨some i, rfl, ?_⟩
    walk_at "rd"
    refine ⟨aa, _, _, _, _, rfl, haH, T.cl_Turner, T.na_Turner_table, rfl, ?_⟩
    walk_at "rd"
    refine ⟨da, p5, ka, k5, _, rfl, nda5, hdaH, hp5, hkva, kv5, ?_⟩
    walk_at "rd"
    refine ⟨D8, st, l, rfl, hl.1, hl.2, gF.sub, X8, fun D9 H9 p6 zs g9 X9 np6 hp6 hzs => ?_⟩
    have hD1 := g9.stay hD1 hp1
    have hD2 := g9.stay hD2 hp2
    have hp1 := g9.same _ _ n1s hp1
    have hp2 := g9.same _ _ n2s hp2
    have gG := gF.trans g9
    have tc : ∀ p ∈ compT "?" l s1 s2 t1 t2, p.2.length ≤ 1000 := fun p hp => by
      have := ones_one (comp_ones (gap := "?") (l := l) (s1 := s1) (s2 := s2) (t1 := t1) on2) p hp
      omega
    have ty1 : ∀ p ∈ t1, p.2.length ≤ 1000 := fun p hp => by have := ones_one on1 p hp; omega
    have ty2 : ∀ p ∈ t2, p.2.length ≤ 1000 := fun p hp => by have := ones_one on2 p hp; omega
    walk_at "rd"
    refine ⟨p6, rfl, ⟨_, sql hp6⟩, lp_it walk_list (fun j σ H' => ∃ D' o13 o14, Gr No D9 H9 D' H' ∧ σ = [some (.ref st), some (.str l), some (.str m), some (.str i), some (.ref sa), some (.bl (decide (r1 = 0))), some (.ref p1), some (.ref p2), some (.ref p3), some (.ref x), some (.ref x2), some (.ref p5), some (.ref aa), o13, o14]) ⟨D9, _, _, Gr.refl gG.sub, rfl⟩ (fun j σ H' _ ⟨D', _, _, g, _⟩ => sql (g.same _ _ (fun z => z) hp6)) ?_ ?_⟩
    · rintro j u σ H10 H11 hj ⟨D10, o13, o14, g10, rfl⟩ ⟨rfl, ex⟩
      rw [List.getElem?_map] at ex
      obtain ⟨z, hz, rfl⟩ := Option.map_eq_some_iff.mp ex
      obtain ⟨hz200, hzl⟩ := hzs z (List.mem_of_getElem? hz)
      have hp1 := g10.same _ _ (fun z => z) hp1
      have hp2 := g10.same _ _ (fun z => z) hp2
      have gH := gG.trans g10.no
      have hsa10 := sqt_up gH hsa
      have haa10 := (g9.dd.trans g10.dd) _ _ haa
      have haH10 := gH.sub _ _ haa10
      have MA10 := MA0.up (g9.dd.trans g10.dd)
      have law := comp_img (gap := "?") (l := l) (w := z) rfl h1 h2 on1 nk hzl
      walk_at "rd"
      refine ⟨p1, k1, t1, z, s1, rfl, by omega, hp1, kv1, ty1, ?_⟩
      have call : ∀ (Q : VK) (E : XK) (o : Option Str), imgM (compT "?" l s1 s2 t1 t2) z ((s1 + s2 - 1 : Nat) : Int) z.length 0 "" = o → (∀ D' H', Gr No D10 H11 D' H' → Q (match o with | none => .non | some y => .str y) H') → sp_call K [.ref aa, .str z] H11 Q E := fun Q E o ho k =>
        ⟨D10, _, l, i, _, _, z, rfl, by omega, g10.sub, MA10, tc, fun _ D' H' g => by rw [ho]; exact k D' H' g, fun k' e => by rw [badAt_none hzl] at e; cases e⟩
      cases e1 : imgM t1 z (s1 : Nat) z.length 0 "" with
      | none =>
        rw [e1] at law
        dsimp only at law ⊢
        walk_at "rd"
        refine jtN (fun e => absurd rfl e) (fun _ => ?_)
        walk_at "rd"
        refine ⟨aa, _, _, rfl, haH10, ?_⟩
        walk_at "rd"
        refine ⟨haH10, call _ _ none law fun D11 H12 g11 => ?_⟩
        walk_at "rd"
        refine ⟨none, rfl, ?_⟩
        walk_at "rd"
        exact ⟨D11, _, _, g10.trans g11, rfl⟩
      | some y =>
        rw [e1] at law
        dsimp only at law ⊢
        have hyl := (imgM_some on1 e1 rfl).1
        walk_at "rd"
        refine jtN (fun _ => ?_) (fun e => nomatch e)
        walk_at "rd"
        refine ⟨p2, k2, t2, y, s2, rfl, by omega, hp2, kv2, ty2, ?_⟩
        cases e2 : imgM t2 y (s2 : Nat) y.length 0 "" with
        | none =>
          rw [e2] at law
          dsimp only
          walk_at "rd"
          refine ⟨aa, _, _, rfl, haH10, ?_⟩
          walk_at "rd"
          refine ⟨haH10, call _ _ none law fun D11 H12 g11 => ?_⟩
          walk_at "rd"
          refine ⟨none, rfl, ?_⟩
          walk_at "rd"
          exact ⟨D11, _, _, g10.trans g11, rfl⟩
        | some y2 =>
          rw [e2] at law
          dsimp only
          walk_at "rd"
          refine ⟨aa, _, _, rfl, haH10, ?_⟩
          walk_at "rd"
          refine ⟨haH10, call _ _ (some y2) law fun D11 H12 g11 => ?_⟩
          walk_at "rd"
          refine ⟨some y2, rfl, ?_⟩
          walk_at "rd"
          exact ⟨D11, _, _, g10.trans g11, rfl⟩
    · rintro σ H10 ⟨D10, o13, o14, g10, rfl⟩
      have gH := gG.trans g10.no
      have nD1 := g10.stay hD1 hp1
      have nD2 := g10.stay hD2 hp2
      have hp1 := g10.same _ _ (fun z => z) hp1
      have hp2 := g10.same _ _ (fun z => z) hp2
      have M1 := M1.up (g9.dd.trans g10.dd)
      have M2 := M2.up (g9.dd.trans g10.dd)
      obtain ⟨b1, dx1, db1, kb1, eb1, hb1, hdb1, hkb1⟩ := M1
      obtain ⟨b2, dx2, db2, kb2, eb2, hb2, hdb2, hkb2⟩ := M2
      cases eb1
      cases eb2
      walk_at "rd"
      refine ⟨x, _, _, _, _, rfl, gH.sub _ _ hb1, T.cl_Turner, T.na_Turner_table, rfl, ?_⟩
      walk_at "rd"
      refine ⟨db1, p1, kb1, k1, t1, rfl, (fun e => by rw [e, nD1] at hdb1; cases hdb1), gH.sub _ _ hdb1, hp1, hkb1, kv1, ?_⟩
      walk_at "rd"
      refine ⟨x2, _, _, _, _, rfl, gH.sub _ _ hb2, T.cl_Turner, T.na_Turner_table, rfl, ?_⟩
      walk_at "rd"
      refine ⟨db2, p2, kb2, k2, t2, rfl, (fun e => by rw [e, nD2] at hdb2; cases hdb2), gH.sub _ _ hdb2, hp2, hkb2, kv2, ?_⟩
      exact q _ _ gH ((X9.up g10.no))
end
end H89

namespace H89
open PySem PySem.Spec L2 He Y Hk89
local macro_rules | `(tactic| walk_at "rd1") => `(tactic| first
  | with_reducible refine s_seq ?_
  | with_reducible refine s_asg ?_
  | with_reducible refine s_gname ?_
  | ((with_reducible refine s_var (v := ?_) ?_ ?_); rotate_left; exact rfl)
  | with_reducible refine s_c ?_
  | with_reducible refine s_op ?_
  | with_reducible refine s_un ?_
  | with_reducible refine s_nil ?_
  | with_reducible refine s_cons ?_
  | with_reducible refine s_CB ?_
  | with_reducible refine s_ifS ?_
  | with_reducible refine s_test ?_
  | with_reducible refine s_B ?_
  | with_reducible refine s_xb ?_
  | with_reducible refine s_xi ?_
  | with_reducible refine s_xs ?_
  | with_reducible refine s_or ?_
  | with_reducible refine s_and ?_
  | with_reducible refine s_not ?_
  | with_reducible refine s_orV ?_
  | with_reducible refine s_andV ?_
  | with_reducible refine s_notV ?_
  | with_reducible refine s_ret ?_
  | with_reducible refine s_retN ?_
  | with_reducible refine s_next ?_
  | with_reducible refine s_drop ?_
  | with_reducible refine s_yes ?_
  | with_reducible refine s_for ?_
  | with_reducible refine s_lc ?_
  | with_reducible refine s_iStr ?_
  | with_reducible refine s_iList ?_
  | with_reducible refine s_iTup ?_
  | with_reducible refine s_iR1 ?_
  | with_reducible refine s_iR2 ?_
  | with_reducible refine s_iE ?_
  | with_reducible refine s_iET ?_
  | with_reducible refine s_iES ?_
  | with_reducible refine s_tup ?_
  | with_reducible refine s_lst ?_
  | with_reducible refine s_BM ?_
  | with_reducible refine s_BM0 ?_
  | with_reducible refine s_BMS _ ?_
  | with_reducible refine s_M1 ?_
  | with_reducible refine s_sl ?_
  | with_reducible refine s_noP ?_
  | with_reducible refine s_po ?_
  | with_reducible refine s_call ?_
  | with_reducible refine s_callS ?_
  | with_reducible refine s_make ?_
  | with_reducible refine s_makeS ?_
  | with_reducible refine s_methS ?_
  | with_reducible refine s_callO ?_
  | with_reducible refine s_dnew ?_
  | with_reducible refine s_dget ?_
  | with_reducible refine s_din ?_
  | with_reducible refine s_dnin ?_
  | with_reducible refine s_dput ?_
  | with_reducible refine s_dsetd ?_
  | with_reducible refine s_dget2 ?_
  | with_reducible refine s_fld ?_
  | with_reducible refine s_sFld ?_
  | with_reducible refine s_rz ?_
  | with_reducible refine s_asgS ?_
  | with_reducible refine s_gSub ?_
  | with_reducible refine s_ifE ?_
  | with_reducible refine s_add_i ?_
  | with_reducible refine s_sub ?_
  | with_reducible refine s_neg ?_
  | with_reducible refine s_eq_i ?_
  | with_reducible refine s_eq_s ?_
  | with_reducible refine s_ne_i ?_
  | with_reducible refine s_ne_s ?_
  | with_reducible refine s_lt_i ?_
  | with_reducible refine s_le_i ?_
  | with_reducible refine s_gt_i ?_
  | with_reducible refine s_ge_i ?_
  | with_reducible refine s_lt_s ?_
  | with_reducible refine s_le_s ?_
  | with_reducible refine s_gt_s ?_
  | with_reducible refine s_ge_s ?_
  | with_reducible refine s_in_c ?_
  | with_reducible refine s_ni_c ?_
  | with_reducible refine s_isN ?_
  | with_reducible refine s_noN ?_
  | with_reducible refine s_abs ?_
  | with_reducible refine s_min2 ?_
  | with_reducible refine s_max2 ?_
  | with_reducible refine s_int_i ?_
  | ((with_reducible refine s_len_s ?_ ?_); assumption)
  | ((with_reducible refine s_len_l (xs := ?_) ?_ ?_); rotate_left; assumption)
  | ((with_reducible refine s_len_t (xs := ?_) ?_ ?_); rotate_left; assumption)
  | with_reducible refine s_pair upd_same ?_
  | with_reducible refine s_callS ?_
  | with_reducible refine s_sortK ?_
  | with_reducible refine s_lc2 ?_
  | with_reducible refine s_disp ?_
  | with_reducible refine s_pcons ?_
  | with_reducible refine s_pnil ?_
  | ((with_reducible refine s_ix_t (by assumption) (by first | exact atI_0 | exact atI_i (j := 1) rfl rfl | exact atI_i (j := 2) rfl rfl | exact atI_i (j := 3) rfl rfl) ?_))
  | with_reducible refine jtT ?_
  | with_reducible refine jtF ?_
  | with_reducible refine jtNT ?_
  | with_reducible refine jtNF ?_
  | dsimp only)
local macro_rules | `(tactic| walk_at "rd") => `(tactic| repeat (walk_at "rd1"))

theorem okFrom_lt {c : Nat} {ys : List Nat} : ∀ {xs : List Nat} {e : Nat}, okFrom [e] (xs ++ c :: ys) = true → e < c ∧ ∀ d ∈ xs, d < c
  | [], e, h => by
    rw [List.nil_append, okFrom_cons] at h
    split at h
    · cases h
    · rename_i hh
      have hlt : ([e] : List Nat) < [c] := Classical.byContradiction fun z => hh (.inr z)
      refine ⟨?_, fun d z => nomatch z⟩
      cases hlt with
      | rel h => exact h
      | cons h => cases h
  | f :: xs, e, h => by
    rw [List.cons_append, okFrom_cons] at h
    split at h
    · cases h
    · rename_i hh
      have hlt : ([e] : List Nat) < [f] := Classical.byContradiction fun z => hh (.inr z)
      obtain ⟨h1, h2⟩ := okFrom_lt h
      have hef : e < f := by
        cases hlt with
        | rel h => exact h
        | cons h => cases h
      exact ⟨Nat.lt_trans hef h1, fun d hd => by
        rcases List.mem_cons.mp hd with e | hd
        · rw [e]
          exact h1
        · exact h2 d hd⟩
theorem bad_twice {l : Str} (ok : okLetters l = true) : okLetters (l ++ l) = false := by
  cases h : okLetters (l ++ l) with
  | false => rfl
  | true =>
    have hl := ok_len ok
    unfold okLetters at h
    simp only [Bool.and_eq_true] at h
    have h3 := h.2
    have e : (l ++ l).cps.toList = l.cps.toList ++ l.cps.toList := TL.tl_append l l
    rw [e] at h3
    cases hc : l.cps.toList with
    | nil =>
      have := len_list l
      rw [hc] at this
      have : (0 : Nat) = l.length := this
      omega
    | cons c r =>
      rw [hc, List.cons_append, okFrom_cons] at h3
      split at h3
      · cases h3
      · exact absurd (okFrom_lt h3).1 (Nat.lt_irrefl _)
theorem bad_A {l : Str} : okLetters (l ++ "A") = false := by
  cases h : okLetters (l ++ "A") with
  | false => rfl
  | true =>
    have e : (l ++ ("A" : Str)).cps.toList = l.cps.toList ++ ("A" : Str).cps.toList := TL.tl_append l "A"
    exact absurd (by rw [e]; exact List.mem_append_right _ (by decide +kernel)) (ok_free h (c := 65) (by decide +kernel))
def outD : Option Bad → PyData
  | none => .tuple [.str "none"]
  | some (.word s k) => .tuple [.str "word", .str s, .int (k : Nat)]
  | some (.text n) => .tuple [.str "text", .int (n : Nat)]
theorem out_dp {K : PySem.W.Frag} {H : Hp} {q : Addr} {o : Option Bad} (h : H q = some (.tup (outV o))) : Dp K H (.ref q) (outD o) := by
  cases o with
  | none => exact .tup (sqt h) (.cons (.str _) .nil)
  | some b =>
    cases b with
    | word s k => exact .tup (sqt h) (.cons (.str _) (.cons (.str _) (.cons (.int _) .nil)))
    | text n => exact .tup (sqt h) (.cons (.str _) (.cons (.int _) .nil))
theorem badP_word {l i z : Str} {k : Nat} : ∀ {ps : List Pr} {n : Nat}, badP l i n ps = some (.word z k) → ∃ p ∈ ps, z = p.1 ∨ z = p.2
  | [], n, h => nomatch h
  | p :: r, n, h => by
    rw [badP_cons] at h
    split at h
    · cases h
      exact ⟨p, List.mem_cons_self .., .inl rfl⟩
    · split at h
      · cases h
        exact ⟨p, List.mem_cons_self .., .inr rfl⟩
      · split at h
        · obtain ⟨q, hq, e⟩ := badP_word h
          exact ⟨q, List.mem_cons_of_mem _ hq, e⟩
        · cases h
section
variable {P : Program} {w : World} {K : PySem.W.Frag} {mg : Str → Option Value} {base : Heap}
theorem out_shaped {l i : Str} {ps : List Pr} {n m : Nat} (h : ∀ p ∈ ps, PokB n p) : SeqAt.shaped (outD (badP l i m ps)) = true := by
  cases e : badP l i m ps with
  | none => decide +kernel
  | some b =>
    cases b with
    | word z k =>
      have oz : Okc z := by
        obtain ⟨p, hp, e2⟩ := badP_word e
        rcases e2 with e2 | e2
        · rw [e2]
          exact (h p hp).o1
        · rw [e2]
          exact (h p hp).o2
      unfold SeqAt.shaped
      rw [Bool.and_eq_true]
      refine ⟨?_, ?_⟩
      · show (PyData.strOk "word" && (PyData.strOk z && (true && true))) = true
        rw [strOk_of oz]
        decide +kernel
      · exact decide_eq_true (by show 1 ≤ 64; decide)
    | text n =>
      unfold SeqAt.shaped
      rw [Bool.and_eq_true]
      refine ⟨?_, ?_⟩
      · show (PyData.strOk "text" && (true && true)) = true
        decide +kernel
      · exact decide_eq_true (by show 1 ≤ 64; decide)
theorem PokB.short {n : Nat} {ps : List Pr} (hn : n ≤ 1000) (hf : ps.length ≤ 1000) (h : ∀ p ∈ ps, PokB n p) : Short ps := ⟨hf, fun p hp => ⟨Nat.le_trans (h p hp).l1 hn, Nat.le_trans (h p hp).l2 hn⟩⟩
theorem S_law : FnScope ["script", "state", "many", "letters", "sizes", "between", "middle", "images", "pairs", "bent", "due", "wrong"] ["script"] (d_law).scope := ⟨rfl, rfl, rfl, by decide +kernel, rfl, by decide +kernel, by decide +kernel⟩
def sp_law (K : PySem.W.Frag) : Sp := fun vs H Q _ => ∃ (a : Addr) (ns : List Int), vs = [.ref a] ∧ SqL K H a (ns.map V.int) ∧ ns.length ≤ 63 ∧ ∀ H', Q (.bl true) H'
theorem w_law (T : Txt P w K mg) {fd : FuncData} (F : FunD K Hk89.d_law.name Hk89.d_law.qual Hk89.d_law.params Hk89.d_law.body Hk89.d_law.scope [] [] (fAd K Hk89.d_law.at_) fd) : FnOk P w K mg base (L2N.CX P w) 9 (fAd K Hk89.d_law.at_) fd ["script"] (sp_law K) := by
  have S := S_law
  have G_law_start := w_law_start (base := base) T
  have G_law_next := w_law_next (base := base) T
  have G_law_alphabet := w_law_alphabet (base := base) T
  have G_law_sizes := w_law_sizes (base := base) T
  have G_law_row_right := w_law_row_right (base := base) T
  have G_law_rows_refused := w_law_rows_refused (base := base) T
  have G_law_pairs := w_law_pairs (base := base) T
  have G_law_least_right := w_law_least_right (base := base) T
  have G_law_bent := w_law_bent (base := base) T
  have G_law_pair_error := w_law_pair_error (base := base) T
  have G_law_least_raised := w_law_least_raised (base := base) T
  refine F.ok (k := 8) S (fun vs H Q E h => ?_) (fun cdv A outer s H vs Q E hr h => ?_)
  · obtain ⟨a, ns, rfl, _⟩ := h
    rfl
  · obtain ⟨a, ns, rfl, ha, hns, q⟩ := h
    refine ⟨_, (pss_cons (ps_set (i := 1) S.nd rfl (Or.inl rfl) (pe_has G_law_start (hr.mono (by decide)) (L2N.takes_of rfl rfl rfl rfl) rfl (pa_cons (pv 0) pa_nil)))
    (pss_cons (ps_set (i := 2) S.nd rfl (Or.inl rfl) (pe_ix (ixK_seq K) (pe_lst (pa_cons pe_int (pa_cons pe_int (pa_cons pe_int (pa_cons pe_int (pa_cons pe_int (pa_cons pe_int (pa_cons pe_int (pa_cons pe_int pa_nil))))))))) (pe_has G_law_next (hr.mono (by decide)) (L2N.takes_of rfl rfl rfl rfl) rfl (pa_cons (pv 1) (pa_cons pe_int pa_nil))) (fun _ _ => rfl)))
    (pss_cons (ps_set (i := 3) S.nd rfl (Or.inl rfl) (pe_has G_law_alphabet (hr.mono (by decide)) (L2N.takes_of rfl rfl rfl rfl) rfl (pa_cons (pv 1) (pa_cons (pv 2) pa_nil))))
    (pss_cons (ps_set (i := 4) S.nd rfl (Or.inl rfl) (pe_has G_law_sizes (hr.mono (by decide)) (L2N.takes_of rfl rfl rfl rfl) rfl (pa_cons (pv 1) (pa_cons (pv 2) pa_nil))))
    (pss_cons (ps_set (i := 5) S.nd rfl (Or.inl rfl) (pe_ix (ixK_seq K) (pe_lst (pa_cons pe_int (pa_cons pe_int (pa_cons pe_int (pa_cons pe_int (pa_cons pe_int (pa_cons pe_int pa_nil))))))) (pe_has G_law_next (hr.mono (by decide)) (L2N.takes_of rfl rfl rfl rfl) rfl (pa_cons (pv 1) (pa_cons pe_int pa_nil))) (fun _ _ => rfl)))
    (pss_cons (ps_if (pt_cmpR c_gt (pe_ix (ixK_seq K) (pv 4) pe_int (fun _ _ => rfl)) pe_int (nomark _))
      (pss_one (ps_set (i := 5) S.nd rfl (Or.inl rfl) (pe_callB (b_min rfl) (by rfl) T.b_min (by decide +kernel) (pa_cons (pv 5) (pa_cons pe_int pa_nil)))))
      pss_nil)
    (pss_cons (ps_set (i := 6) S.nd rfl (Or.inl rfl) (pe_has G_law_alphabet (hr.mono (by decide)) (L2N.takes_of rfl rfl rfl rfl) rfl (pa_cons (pv 1) (pa_cons (pv 5) pa_nil))))
    (pss_cons (ps_set (i := 7) S.nd rfl (Or.inl rfl) (pe_has G_law_alphabet (hr.mono (by decide)) (L2N.takes_of rfl rfl rfl rfl) rfl (pa_cons (pv 1) (pa_cons (pe_op (oK_add K) pe_int (pe_has G_law_next (hr.mono (by decide)) (L2N.takes_of rfl rfl rfl rfl) rfl (pa_cons (pv 1) (pa_cons pe_int pa_nil)))) pa_nil))))
    (pss_cons (ps_if (pt_not (pt_val (pe_has G_law_row_right (hr.mono (by decide)) (L2N.takes_of rfl rfl rfl rfl) rfl (pa_cons (pv 1) (pa_cons (pv 3) (pa_cons (pv 6) (pa_cons (pv 7) (pa_cons (pv 4) pa_nil))))))))
      (pss_one (ps_ret pe_bl))
      pss_nil)
    (pss_cons (ps_if (pt_not (pt_val (pe_has G_law_rows_refused (hr.mono (by decide)) (L2N.takes_of rfl rfl rfl rfl) rfl (pa_cons (pv 1) (pa_cons (pv 3) (pa_cons (pv 6) (pa_cons (pv 7) pa_nil)))))))
      (pss_one (ps_ret pe_bl))
      pss_nil)
    (pss_cons (ps_set (i := 8) S.nd rfl (Or.inl rfl) (pe_has G_law_pairs (hr.mono (by decide)) (L2N.takes_of rfl rfl rfl rfl) rfl (pa_cons (pv 1) (pa_cons (pv 3) (pa_cons (pv 7) pa_nil)))))
    (pss_cons (ps_if (pt_not (pt_val (pe_has G_law_least_right (hr.mono (by decide)) (L2N.takes_of rfl rfl rfl rfl) rfl (pa_cons (pv 3) (pa_cons (pv 7) (pa_cons (pv 8) pa_nil))))))
      (pss_one (ps_ret pe_bl))
      pss_nil)
    (pss_cons (ps_set (i := 9) S.nd rfl (Or.inl rfl) (pe_has G_law_bent (hr.mono (by decide)) (L2N.takes_of rfl rfl rfl rfl) rfl (pa_cons (pv 1) (pa_cons (pv 3) (pa_cons (pv 7) (pa_cons (pv 8) pa_nil))))))
    (pss_cons (ps_set (i := 10) S.nd rfl (Or.inl rfl) (pe_has G_law_pair_error (hr.mono (by decide)) (L2N.takes_of rfl rfl rfl rfl) rfl (pa_cons (pv 3) (pa_cons (pv 7) (pa_cons (pv 9) pa_nil)))))
    (pss_cons (ps_if (pt_cmpR (cK_ne K hr.units) (pe_has G_law_least_raised (hr.mono (by decide)) (L2N.takes_of rfl rfl rfl rfl) rfl (pa_cons (pv 3) (pa_cons (pv 7) (pa_cons (pe_callTy (bK_list K) (by rfl) T.b_list (by decide +kernel) (pa_cons (pv 9) pa_nil)) pa_nil)))) (pv 10) (nomark _))
      (pss_one (ps_ret pe_bl))
      pss_nil)
    (pss_cons (ps_set (i := 11) S.nd rfl (Or.inl rfl) (pe_ix (ixK_seq K) (pe_lst (pa_cons pe_str (pa_cons (pe_op (oK_add K) (pv 3) (pv 3)) (pa_cons (pe_op (oK_add K) (pv 3) pe_str) (pa_cons pe_str pa_nil))))) (pe_has G_law_next (hr.mono (by decide)) (L2N.takes_of rfl rfl rfl rfl) rfl (pa_cons (pv 1) (pa_cons pe_int pa_nil))) (fun _ _ => rfl)))
    (pss_cons (ps_if (pt_cmpR (cK_ne K hr.units) (pe_has G_law_least_raised (hr.mono (by decide)) (L2N.takes_of rfl rfl rfl rfl) rfl (pa_cons (pv 11) (pa_cons (pv 7) (pa_cons (pe_callTy (bK_list K) (by rfl) T.b_list (by decide +kernel) (pa_cons (pv 9) pa_nil)) pa_nil)))) (pe_tup (pa_cons pe_str pa_nil)) (nomark _))
      (pss_one (ps_ret pe_bl))
      pss_nil)
    (pss_one (ps_ret (pe_cmpR (cK_eq K hr.units) (pe_has G_law_least_raised (hr.mono (by decide)) (L2N.takes_of rfl rfl rfl rfl) rfl (pa_cons (pv 3) (pa_cons (pv 11) (pa_cons (pe_callTy (bK_list K) (by rfl) T.b_list (by decide +kernel) (pa_cons (pv 9) pa_nil)) pa_nil)))) (pe_tup (pa_cons pe_str pa_nil)) (nomark _))))))))))))))))))))), ?_⟩
    walk_at "rd"
    refine ⟨a, ns, rfl, ha, hns, fun D1 H1 st g1 X1 nst => ?_⟩
    walk_at "rd"
    refine ⟨le1000 (by simp), fun p np => ?_⟩
    have nps : p ≠ st := fun e => X1.is (e ▸ np)
    have g2 := (Gr.refl (m := (· = st)) g1.sub).lay (o := .lst [.int 2, .int 2, .int 2, .int 2, .int 1, .int 3, .int 3, .int 4]) np
    have hp2 : (upd H1 p (.lst [.int 2, .int 2, .int 2, .int 2, .int 1, .int 3, .int 3, .int 4])) p = some _ := upd_same
    walk_at "rd"
    refine ⟨D1, st, _, rfl, by decide, by decide, g2.sub, X1.put nps, fun D3 H3 r g3 X3 r0 r1 => ?_⟩
    obtain ⟨n, hn, hn1, hn4⟩ : ∃ n : Nat, atI [V.int 2, .int 2, .int 2, .int 2, .int 1, .int 3, .int 3, .int 4] r = some (.int (n : Nat)) ∧ 1 ≤ n ∧ n ≤ 4 := by
      have hr : r = 0 ∨ r = 1 ∨ r = 2 ∨ r = 3 ∨ r = 4 ∨ r = 5 ∨ r = 6 ∨ r = 7 := by omega
      rcases hr with rfl | rfl | rfl | rfl | rfl | rfl | rfl | rfl
      · exact ⟨2, rfl, by decide, by decide⟩
      · exact ⟨2, rfl, by decide, by decide⟩
      · exact ⟨2, rfl, by decide, by decide⟩
      · exact ⟨2, rfl, by decide, by decide⟩
      · exact ⟨1, rfl, by decide, by decide⟩
      · exact ⟨3, rfl, by decide, by decide⟩
      · exact ⟨3, rfl, by decide, by decide⟩
      · exact ⟨4, rfl, by decide, by decide⟩
    refine s_ix_l (sql (g3.same p _ nps hp2)) hn ?_
    walk_at "rd"
    refine ⟨D3, st, n, rfl, hn1, hn4, g3.sub, X3, fun D4 H4 l g4 X4 hll okl => ?_⟩
    have hl := ok_len okl
    walk_at "rd"
    refine ⟨D4, st, n, rfl, hn1, hn4, g4.sub, X4, fun D5 H5 sa s1 s2 g5 X5 hsa h1 h2 h8 => ?_⟩
    have hsaH := sqt (K := K) (g5.sub _ _ hsa)
    walk_at "rd"
    refine ⟨le1000 (by simp), fun p2 np2 => ?_⟩
    have np2s : p2 ≠ st := fun e => X5.is (e ▸ np2)
    have g6 := (Gr.refl (m := (· = st)) g5.sub).lay (o := .lst [.int 2, .int 2, .int 2, .int 1, .int 3, .int 4]) np2
    have hp3 : (upd H5 p2 (.lst [.int 2, .int 2, .int 2, .int 1, .int 3, .int 4])) p2 = some _ := upd_same
    walk_at "rd"
    refine ⟨D5, st, _, rfl, by decide, by decide, g6.sub, X5.put np2s, fun D7 H7 r7 g7 X7 r70 r71 => ?_⟩
    obtain ⟨n7, hn7, hn71, hn74⟩ : ∃ n : Nat, atI [V.int 2, .int 2, .int 2, .int 1, .int 3, .int 4] r7 = some (.int (n : Nat)) ∧ 1 ≤ n ∧ n ≤ 4 := by
      have hr : r7 = 0 ∨ r7 = 1 ∨ r7 = 2 ∨ r7 = 3 ∨ r7 = 4 ∨ r7 = 5 := by omega
      rcases hr with rfl | rfl | rfl | rfl | rfl | rfl
      · exact ⟨2, rfl, by decide, by decide⟩
      · exact ⟨2, rfl, by decide, by decide⟩
      · exact ⟨2, rfl, by decide, by decide⟩
      · exact ⟨1, rfl, by decide, by decide⟩
      · exact ⟨3, rfl, by decide, by decide⟩
      · exact ⟨4, rfl, by decide, by decide⟩
    refine s_ix_l (sql (g7.same p2 _ np2s hp3)) hn7 ?_
    have gA := g6.trans g7
    have hsa7 : D7 sa = some (.tup [.int (s1 : Nat), .int (s2 : Nat)]) := gA.dd _ _ hsa
    have hsaH7 := sqt (K := K) (gA.sub _ _ hsa7)
    with_reducible refine s_gname ?_
    refine s_cut (fun σ' H' => ∃ b : Nat, H' = H7 ∧ 1 ≤ b ∧ b ≤ 4 ∧ σ' = [some (.ref a), some (.ref st), some (.int (n : Nat)), some (.str l), some (.ref sa), some (.int (b : Nat)), none, none, none, none, none, none]) ?_ (fun N rest => ?_)
    · rintro σ' H8 ⟨b, rfl, b1, b4, rfl⟩
      walk_at "rd"
      refine ⟨D7, st, b, rfl, b1, b4, gA.sub, X7, fun D9 H9 m g9 X9 hml okm => ?_⟩
      walk_at "rd"
      refine ⟨D9, st, _, rfl, by decide, by decide, g9.sub, X9, fun D10 H10 r10 g10 X10 r100 r101 => ?_⟩
      walk_at "rd"
      refine ⟨D10, st, (1 + r10).toNat, by rw [Int.toNat_of_nonneg (by omega)], by omega, by omega, g10.sub, X10, fun D11 H11 im g11 X11 hil oki => ?_⟩
      have gB := (g9.trans g10).trans g11
      have hi := ok_len oki
      walk_at "rd"
      refine ⟨D11, st, l, m, im, sa, s1, s2, rfl, gB.sub, X11, sqt (gB.dd _ _ hsa7), okl, okm, oki, h1, h2, h8, fun D12 H12 g12 X12 => ?_⟩
      walk_at "rd"
      refine ⟨D12, st, l, m, im, rfl, g12.sub, X12, okl, okm, oki, fun D13 H13 g13 X13 => ?_⟩
      walk_at "rd"
      refine ⟨D13, st, l, im, rfl, g13.sub, X13, okl, oki, fun D14 H14 pa xs ps g14 X14 hpa hxs hf6 hok => ?_⟩
      walk_at "rd"
      refine ⟨D14, l, im, .ref pa, ps, rfl, g14.sub, .lst (sql hpa) hxs, okl, oki, hf6, hok, fun H15 s15 => ?_⟩
      have X15 := X14.same s15
      have sm15 := g14.sub.trans s15
      walk_at "rd"
      refine ⟨D14, st, l, im, pa, xs, ps, rfl, okl, oki, sm15, X15, hpa, hxs, hf6, hok, fun D16 H16 bv qs g16 X16 db hq8 hqk => ?_⟩
      obtain ⟨ba, ys, rfl, hba, hys⟩ := dp_list db
      have sh := PokB.short (by decide) (by omega) hqk
      walk_at "rd"
      refine ⟨D16, l, im, .ref ba, qs, rfl, by omega, by omega, g16.sub, .lst hba hys, sh, fun H17 du s17 hdu => ?_⟩
      have sm17 := g16.sub.trans s17
      walk_at "rd"
      refine s_lst_l (sm17.seq hba) fun c1 nc1 => ?_
      have gC := (Gr.refl (m := No) sm17).ice (o := .lst ys) nc1
      have fr1 := (Gr.refl (m := No) sm17).free nc1
      have dc1 : Dp K (upd D16 c1 (.lst ys)) (.ref c1) (dPs qs) := .lst (sql upd_same) (Y.Dp.monoAll (same_new fr1) hys)
      walk_at "rd"
      refine ⟨_, l, im, .ref c1, qs, rfl, by omega, by omega, gC.sub, dc1, sh, fun z => absurd ⟨okl, oki⟩ z, fun _ _ H18 q18 s18 e18 => ?_⟩
      have sA : Same H17 H18 := (same_new nc1).trans s18
      walk_at "rd"
      refine s_ne_refl (out_dp e18) (out_dp (sA _ _ hdu)) (out_shaped hqk) ?_
      have X18 := X16.same (s17.trans sA)
      have sm18 := sm17.trans sA
      have zA : ("A" : Str).length = 1 := rfl
      walk_at "rd"
      refine s_add_s (le1000 (by omega)) ?_
      walk_at "rd"
      refine s_add_s (by rw [zA]; exact le1000 (by omega)) ?_
      walk_at "rd"
      refine ⟨le1000 (by simp), fun p3 np3 => ?_⟩
      have np3s : p3 ≠ st := fun e => X18.is (e ▸ np3)
      have gw := (Gr.refl (m := (· = st)) sm18).lay (o := .lst [.str "", .str (l ++ l), .str (l ++ "A"), .str "abcde"]) np3
      have hp4 : (upd H18 p3 (.lst [.str "", .str (l ++ l), .str (l ++ "A"), .str "abcde"])) p3 = some _ := upd_same
      walk_at "rd"
      refine ⟨D16, st, _, rfl, by decide, by decide, gw.sub, X18.put np3s, fun D20 H20 r20 g20 X20 r200 r201 => ?_⟩
      obtain ⟨wr, ewr, lwr, nwr⟩ : ∃ wr : Str, atI [V.str "", .str (l ++ l), .str (l ++ "A"), .str "abcde"] r20 = some (.str wr) ∧ wr.length ≤ 1000 ∧ okLetters wr = false := by
        have hr : r20 = 0 ∨ r20 = 1 ∨ r20 = 2 ∨ r20 = 3 := by omega
        rcases hr with rfl | rfl | rfl | rfl
        · exact ⟨_, rfl, by decide, by decide +kernel⟩
        · exact ⟨_, rfl, by rw [app_len]; omega, bad_twice okl⟩
        · exact ⟨_, rfl, by rw [app_len, zA]; omega, bad_A⟩
        · exact ⟨_, rfl, by decide, by decide +kernel⟩
      refine s_ix_l (sql (g20.same p3 _ np3s hp4)) ewr ?_
      have hba20 := g20.dd.seq hba
      have hys20 := Y.Dp.monoAll g20.dd hys
      have sm20 := g20.sub
      walk_at "rd"
      refine s_lst_l (sm20.seq hba20) fun c2 nc2 => ?_
      have gC2 := (Gr.refl (m := No) sm20).ice (o := .lst ys) nc2
      have dc2 : Dp K (upd D20 c2 (.lst ys)) (.ref c2) (dPs qs) := .lst (sql upd_same) (Y.Dp.monoAll (same_new ((Gr.refl (m := No) sm20).free nc2)) hys20)
      walk_at "rd"
      refine ⟨_, wr, im, .ref c2, qs, rfl, lwr, by omega, gC2.sub, dc2, sh, fun _ H21 q21 s21 e21 => ?_, fun z => by rw [nwr] at z; cases z⟩
      walk_at "rd"
      refine ⟨le1000 (by simp), fun t nt => ?_⟩
      have s22 : Same H20 _ := ((same_new nc2).trans s21).trans (same_new (o := .tup [.str "letters"]) nt)
      refine s_ne_refl (d := .tuple [.str "letters"]) (.tup (sqt ((same_new nt) _ _ e21)) (.cons (.str _) .nil)) (.tup (sqt upd_same) (.cons (.str _) .nil)) (by decide +kernel) ?_
      have sm22 := sm20.trans s22
      walk_at "rd"
      refine s_lst_l (sm22.seq hba20) fun c3 nc3 => ?_
      have gC3 := (Gr.refl (m := No) sm22).ice (o := .lst ys) nc3
      have dc3 : Dp K (upd D20 c3 (.lst ys)) (.ref c3) (dPs qs) := .lst (sql upd_same) (Y.Dp.monoAll (same_new ((Gr.refl (m := No) sm22).free nc3)) hys20)
      walk_at "rd"
      refine ⟨_, l, wr, .ref c3, qs, rfl, by omega, lwr, gC3.sub, dc3, sh, fun _ H23 q23 s23 e23 => ?_, fun _ z => by rw [nwr] at z; cases z⟩
      walk_at "rd"
      refine ⟨le1000 (by simp), fun t2 nt2 => ?_⟩
      refine s_eq_refl (d := .tuple [.str "letters"]) (.tup (sqt ((same_new nt2) _ _ e23)) (.cons (.str _) .nil)) (.tup (sqt upd_same) (.cons (.str _) .nil)) (by decide +kernel) ?_
      exact q _
    · walk_at "rd"
      refine jtD (fun e => ?_) (fun e => ?_)
      · walk_at "rd"
        refine rest _ _ ⟨min n7 2, rfl, by omega, by omega, ?_⟩
        rw [show (if (2 : Int) < (n7 : Int) then (2 : Int) else (n7 : Int)) = ((min n7 2 : Nat) : Int) by split <;> omega]
        rfl
      · walk_at "rd"
        exact rest _ _ ⟨n7, rfl, hn71, hn74, rfl⟩
end
end H89

namespace H89
open PySem PySem.Spec L2 He Y Hk89
theorem facts {w : World} {K : PySem.W.Frag} {h : Heap} {mg : Str → Option Value} {f : Addr} (X : K.In h) (G : h.Ns mainGlobals mg) (hfa : mg ("law" : Str) = some (.ref f)) (c : SaysI fa fn fb fi file K) :
    ∃ fd : FuncData, (∀ (s : Shared) (v : Value), BindsTo s fd ⟨[v], []⟩ [("script", v)]) ∧ ∀ base : Heap, K.In base → base.Ns mainGlobals mg → FnOk (PySem.Challenge.rw_fromyesalone_k89_turners_in_a_row).prog w K mg base CXany 9 f fd ["script"] (sp_law K) := by
  have T : Txt (PySem.Challenge.rw_fromyesalone_k89_turners_in_a_row).prog w K mg := txt X G rfl rfl c
  obtain ⟨fd, F⟩ := T.d_law
  have e := hfa.symm.trans T.gd_law
  cases e
  have b := FunD.bindsA (ps := ["script"]) F fun _ _ _ _ _ _ us hl => match us, hl with | [_], _ => rfl
  exact ⟨fd, fun s v => b s [v] rfl, fun base _ _ => fn_any (w_law T F)⟩
end H89
open PySem PySem.W PySem.Calls PyProof.Rows
theorem PySem.Challenge.cw_fromyesalone_k89_turners_in_a_row_holds : PySem.Challenge.rw_fromyesalone_k89_turners_in_a_row.Holds := by
  w_on; o_law
  refine HandSHeadRun.head_any (r := Hk89.R) (q := view Hk89.R.prog [47]) (H := Hk89.hk) (ob := Hk89.ob) (M := 3000) (loose := Hk89.names) (d := HandSHeadRun.topDef Hk89.R.prog 47) (kwd := []) Hk89.ob_eq
    (by kernel_rfl) (fun s => by kernel_rfl) Hk89.run (by kernel_rfl) (by kernel_rfl) (by kernel_rfl) (by rfl) (by first | assumption | decide +kernel) (by decide +kernel) ⟨rfl, rfl, rfl, rfl, rfl, by decide +kernel⟩ ?hw ?hc
  case hw => w_witness2
  case hc =>
    refine L2.walk_ofE (l := PySem.Challenge.rw_fromyesalone_k89_turners_in_a_row) (n := 63) (k := 9) (x := "script") (CX := Y.CXany) rfl (by decide) (by kernel_rfl) ⟨rfl, by decide, by decide⟩ ?F Y.any_none
    intro w mg fa h Y G hmg0
    obtain ⟨K, KX, c⟩ := Y
    have hmg : mg ("law" : PySem.Str) = some (.ref fa) := by
      have e : (HandSHeadRun.topDef Hk89.R.prog 47).name = ("law" : PySem.Str) := by kernel_rfl
      rw [← e]
      exact hmg0
    obtain ⟨fd, hb, hF⟩ := H89.facts (w := w) KX G hmg c
    exact ⟨K, fd, H89.sp_law K, KX, hb, fun H a ns hl _ hS => ⟨a, ns, rfl, hS, hl, fun _ => rfl⟩, hF⟩
