import PyProof.Rows.All
import Wide.All
import OpenK.AllK
import Wide.FinOn
import HandS.Base
import HandS.Call
import HandS.List
import HandS.Comp
import HandS.Ends
import HandS.Dict
import HandS.Iter
import HandS.Text
import HandS.Words
import HandS.Exc
import HandS.TryOnly
import HandS.ExcOwn
import HandS.Wide
import KE.KStateDown
import KE.KFromBytes
import KE.KExcSuper
import KE.KIsAll
import KE.KTryMore
import HandS.ExcInit
import HandS.ExcField
import HandS.ExcIs
import HandS.Defaults
import HandS.Head0
import HandS.Head1
import HandS.Head2
import HandS.HeadEnd
import HandS.HeadHook1
import HandS.HeadHook2
import HandS.ExcSuper
import HandS.TryMany
import HandS.HotCalls
import HandS.IsInst
import KE.GoesMore
import KE.GoesEnum
import PyProof.EnumMake
import HandS.StrMore
import HandS.SetKeys
import HandS.Walk
import KE.IntTextLaws
import HandS.WordsExc
import PyProof.P3Eq
import PySem.Challenge.RW_fromyesalone_k90_texts_of_machines
set_option Elab.async false
set_option linter.all false
set_option maxRecDepth 100000
set_option maxHeartbeats 0
/-! Our own layer over HandS: rules that serve a construct whatever its operands are, step lemmas, heaps. -/
namespace Y
open PySem PySem.Spec PyProof.Rows L2

/-! ### either of two rules -/
section
variable {X : Cx}
theorem OpR.or {f : Value → Value → Sem Value} {r1 r2 : R2} (h1 : OpR X f r1) (h2 : OpR X f r2) : OpR X f (fun x y H Q => r1 x y H Q ∨ r2 x y H Q) :=
  fun pins s σ H x y v u Q I rx ry h => h.elim (h1 pins s σ H x y v u Q I rx ry) (h2 pins s σ H x y v u Q I rx ry)
theorem CallR.or {f : Value} {r1 r2 : List V → Hp → VK → Prop} (h1 : CallR X f r1) (h2 : CallR X f r2) : CallR X f (fun xs H Q => r1 xs H Q ∨ r2 xs H Q) :=
  fun pins s σ H xs us Q I r h => h.elim (h1 pins s σ H xs us Q I r) (h2 pins s σ H xs us Q I r)
theorem SlR.or {r1 r2 : V → Option Int → Option Int → Hp → VK → Prop} (h1 : SlR X r1) (h2 : SlR X r2) : SlR X (fun x lo hi H Q => r1 x lo hi H Q ∨ r2 x lo hi H Q) :=
  fun pins s σ H x v vl vu lo hi sl Q I rx hs pl pu h => h.elim (h1 pins s σ H x v vl vu lo hi sl Q I rx hs pl pu) (h2 pins s σ H x v vl vu lo hi sl Q I rx hs pl pu)
theorem PE.or {e : Expr} {t u : TE} (h1 : PE X e t) (h2 : PE X e u) : PE X e (fun σ H Q => t σ H Q ∨ u σ H Q) :=
  ⟨fun pins s σ H Q I h => h.elim (h1.run pins s σ H Q I) (h2.run pins s σ H Q I)⟩
theorem PT.or {e : Expr} {t u : TT} (h1 : PT X e t) (h2 : PT X e u) : PT X e (fun σ H Q => t σ H Q ∨ u σ H Q) :=
  ⟨fun pins s σ H Q I h => h.elim (h1.run pins s σ H Q I) (h2.run pins s σ H Q I)⟩
theorem PI.or {tg e : Expr} {t u : TI} (h1 : PI X tg e t) (h2 : PI X tg e u) : PI X tg e (fun σ H R => t σ H R ∨ u σ H R) :=
  ⟨fun pins s σ H R I h => h.elim (h1.run pins s σ H R I) (h2.run pins s σ H R I)⟩
end

/-! ### operators by values -/
def rPlus (K : PySem.W.Frag) : R2 := fun x y H Q => (rI0 fun i j => .int (i + j)) x y H Q ∨ (∃ i j, x = .str i ∧ y = .str j ∧ i.length + j.length ≤ sizeLine ∧ Q (.str (i ++ j)) H) ∨ rCat x y H Q
def rMinus : R2 := rI0 fun i j => .int (i - j)
def rTimes : R2 := rI CMul fun i j => .int (i * j)
def rMod : R2 := rI (fun _ j => 0 < j) fun i j => .int (i % j)
def rDiv : R2 := rI CDivW fun i j => .int (i / j)
def rPow : R2 := rI CPow fun i j => .int (i ^ j.toNat)
def rEqs (K : PySem.W.Frag) : R2 := fun x y H Q => rEq x y H Q ∨ rEqD K x y H Q
def rNes (K : PySem.W.Frag) : R2 := fun x y H Q => rNe x y H Q ∨ rNeD K x y H Q
def rLts : R2 := fun x y H Q => (rI0 fun i j => .bl (decide (i < j))) x y H Q ∨ ∃ i j, x = .str i ∧ y = .str j ∧ Q (.bl (decide (i.cps.toList < j.cps.toList))) H
def rLes : R2 := fun x y H Q => (rI0 fun i j => .bl (decide (i ≤ j))) x y H Q ∨ ∃ i j, x = .str i ∧ y = .str j ∧ Q (.bl (!decide (j.cps.toList < i.cps.toList))) H
def rGts : R2 := fun x y H Q => (rI0 fun i j => .bl (decide (j < i))) x y H Q ∨ ∃ i j, x = .str i ∧ y = .str j ∧ Q (.bl (decide (j.cps.toList < i.cps.toList))) H
def rGes : R2 := fun x y H Q => (rI0 fun i j => .bl (decide (j ≤ i))) x y H Q ∨ ∃ i j, x = .str i ∧ y = .str j ∧ Q (.bl (!decide (i.cps.toList < j.cps.toList))) H
def rIns (K : PySem.W.Frag) : R2 := fun x y H Q => (∃ (c : Nat) (z : Str), x = .str ⟨#[c]⟩ ∧ y = .str z ∧ Q (.bl (decide (c ∈ z.cps.toList))) H) ∨ rIn K false x y H Q
def rNis (K : PySem.W.Frag) : R2 := fun x y H Q => (∃ (c : Nat) (z : Str), x = .str ⟨#[c]⟩ ∧ y = .str z ∧ Q (.bl (!decide (c ∈ z.cps.toList))) H) ∨ rIn K true x y H Q
def rIsN : R2 := fun x y H Q => y = .non ∧ Q (.bl (decide (x = .non))) H
def rNoN : R2 := fun x y H Q => y = .non ∧ Q (.bl (!decide (x = .non))) H
def rNeg : V → Hp → VK → Prop := rU fun i => .int (-i)
section
variable {X : Cx}
theorem o_add : OpR X (binaryOp .Add) (rPlus X.K) := OpR.or op_add (OpR.or op_add_str op_cat)
theorem o_sub : OpR X (binaryOp .Sub) rMinus := op_sub
theorem o_mul : OpR X (binaryOp .Mult) rTimes := op_mul
theorem o_mod : OpR X (binaryOp .Mod) rMod := op_mod
theorem o_fdiv : OpR X (binaryOp .FloorDiv) rDiv := op_fdivW
theorem o_pow : OpR X (binaryOp .Pow) rPow := op_pow
theorem o_neg : UnR X (unaryOp .USub) rNeg := un_neg
theorem c_eq (hu : X.A.units + 64 < cLine) : OpR X (compareOp .Eq) (rEqs X.K) := OpR.or op_eq (op_eqD hu)
theorem c_ne (hu : X.A.units + 64 < cLine) : OpR X (compareOp .NotEq) (rNes X.K) := OpR.or op_ne (op_neD hu)
theorem c_lt : OpR X (compareOp .Lt) rLts := OpR.or op_lt op_lt_str
theorem c_le : OpR X (compareOp .LtE) rLes := OpR.or op_le op_le_str
theorem c_gt : OpR X (compareOp .Gt) rGts := OpR.or op_gt op_gt_str
theorem c_ge : OpR X (compareOp .GtE) rGes := OpR.or op_ge op_ge_str
theorem c_in : OpR X (compareOp .In) (rIns X.K) := OpR.or op_in_sign op_in_seq
theorem c_ni : OpR X (compareOp .NotIn) (rNis X.K) := OpR.or op_notIn_sign op_notIn_seq
theorem c_is : OpR X (compareOp .Is) rIsN := op_isN
theorem c_ns : OpR X (compareOp .IsNot) rNoN := op_notN
end
end Y

namespace Y
open PySem PySem.Spec PyProof.Rows L2
/-! ### steps of a reading -/
section
variable {K : PySem.W.Frag} {σ : L2.St} {H : Hp} {Q : VK} {i : Nat} {v x y : V} {ta tb tc te tr : TE} {t u : TT} {a b : Addr} {D : Ends} {n m : Int} {s z : Str}
theorem s_var (h : σ[i]? = some (some v)) (k : Q v H) : tVar i σ H Q := ⟨v, h, k⟩
theorem s_c (k : Q v H) : tC v σ H Q := k
theorem s_op {r : R2} (k : ta σ H fun x H1 => tb σ H1 fun y H2 => r x y H2 Q) : tOp r ta tb σ H Q := k
theorem s_un {r : V → Hp → VK → Prop} (k : ta σ H fun x H1 => r x H1 Q) : tUn r ta σ H Q := k
theorem s_nil {Q : List V → Hp → Prop} (k : Q [] H) : tNil σ H Q := k
theorem s_cons {tr : TA} {Q : List V → Hp → Prop} (k : ta σ H fun x H1 => tr σ H1 fun xs H2 => Q (x :: xs) H2) : tCons ta tr σ H Q := k
theorem s_tup {t : TA} (k : t σ H fun xs H1 => xs.length ≤ sizeLine ∧ ∀ p, H1 p = none → Q (.ref p) (upd H1 p (.tup xs))) : tTup t σ H Q := k
theorem s_lst {t : TA} (k : t σ H fun xs H1 => xs.length ≤ sizeLine ∧ ∀ p, H1 p = none → Q (.ref p) (upd H1 p (.lst xs))) : tLst t σ H Q := k
theorem s_CB {r : List V → Hp → VK → Prop} {t : TA} (k : t σ H fun vs H1 => r vs H1 Q) : tCB r t σ H Q := k
theorem s_BM {T : String} {r : V → List V → Hp → VK → Prop} {t : TA} (k : ta σ H fun x H1 => tyV K T x H1 ∧ t σ H1 fun xs H2 => r x xs H2 Q) : tBM K T r ta t σ H Q := k
theorem s_BM0 {T : String} {r : V → List V → Hp → VK → Prop} (k : ta σ H fun x H1 => tyV K T x H1 ∧ r x [] H1 Q) : tBM0 K T r ta σ H Q := k
theorem s_M0 {r : V → List V → Hp → VK → Prop} (k : ta σ H fun x H1 => (∃ a, x = .str a) ∧ r x [] H1 Q) : tM0 r ta σ H Q := k
theorem s_M1 {r : V → List V → Hp → VK → Prop} (k : ta σ H fun x H1 => (∃ a, x = .str a) ∧ tb σ H1 fun y H2 => r x [y] H2 Q) : tM1 r ta tb σ H Q := k
theorem s_sl {r : V → Option Int → Option Int → Hp → VK → Prop} {tl th : TO} (k : ta σ H fun x H1 => tl σ H1 fun l H2 => th σ H2 fun u H3 => r x l u H3 Q) : tSl r ta tl th σ H Q := k
theorem s_noP {Q : Option Int → Hp → Prop} (k : Q none H) : tNoPart σ H Q := k
theorem s_test {Q : Bool → Hp → Prop} (k : ta σ H fun x H' => ∃ k, x = .bl k ∧ Q k H') : tTest ta σ H Q := k
theorem s_B {Q : Bool → Hp → Prop} (k : ta σ H fun x H' => ∃ k, x = .bl k ∧ Q k H') : tB ta σ H Q := k
theorem s_bl {Q : Bool → Hp → Prop} {c : Bool} (k : Q c H) : ∃ k, V.bl c = .bl k ∧ Q k H := ⟨c, rfl, k⟩
theorem s_and {Q : Bool → Hp → Prop} (k : t σ H fun c H1 => if c = true then u σ H1 Q else Q false H1) : tAnd t u σ H Q := k
theorem s_or {Q : Bool → Hp → Prop} (k : t σ H fun c H1 => if c = true then Q true H1 else u σ H1 Q) : tOr t u σ H Q := k
theorem s_not {Q : Bool → Hp → Prop} (k : t σ H fun c H1 => Q (!c) H1) : tNot t σ H Q := k
theorem s_andV (k : ta σ H fun x H1 => ∃ c, x = .bl c ∧ if c = true then tb σ H1 Q else Q (.bl false) H1) : tAndV ta tb σ H Q := k
theorem s_orV (k : ta σ H fun x H1 => ∃ c, x = .bl c ∧ if c = true then Q (.bl true) H1 else tb σ H1 Q) : tOrV ta tb σ H Q := k
theorem s_notV (k : ta σ H fun x H1 => ∃ c, x = .bl c ∧ Q (.bl (!c)) H1) : tNotV ta σ H Q := k
theorem s_ifE (k : t σ H fun c H1 => if c = true then ta σ H1 Q else tb σ H1 Q) : tIf t ta tb σ H Q := k
theorem s_seq {t u : TS} (k : t { D with nx := u D } σ H) : tSeq t u D σ H := k
theorem s_asg {g : TG} (k : te σ H fun x H1 => g x σ H1 D.nx) : tAsg te g D σ H := k
theorem s_gname {Q : L2.St → Hp → Prop} (k : Q (σ.set i (some v)) H) : gName i v σ H Q := k
theorem s_drop (k : te σ H fun _ H1 => D.nx σ H1) : tDrop te D σ H := k
theorem s_ret (k : te σ H D.rt) : tRet te D σ H := k
theorem s_retN (k : D.rt .non H) : tRetN D σ H := k
theorem s_next (k : D.nx σ H) : tNext D σ H := k
theorem s_ifS {tu tw : TS} (k : t σ H fun b H1 => if b = true then tu D σ H1 else tw D σ H1) : tIfS t tu tw D σ H := k
theorem s_yes {Q : Bool → Hp → Prop} (k : Q true H) : tYes σ H Q := k
theorem s_call {sp : Sp} {dvs : List V} {E : XK} {t : TA} (k : t σ H fun vs H1 => sp (vs ++ dvs) H1 Q E) : tCall sp dvs E t σ H Q := k
theorem s_callS {sp : Sp} {E : L2.St → XK} {t : TA} (k : t σ H fun vs H1 => sp vs H1 Q (E σ)) : tCallS sp E t σ H Q := k
theorem s_asgS {to ti : TE} {r : TSet} (k : te σ H fun x H1 => to σ H1 fun o H2 => ti σ H2 fun i H3 => r o i x H3 fun H4 => D.nx σ H4) : tAsg te (gSub to ti r) D σ H := k
/-! operators -/
theorem s_add_i (k : Q (.int (n + m)) H) : rPlus K (.int n) (.int m) H Q := Or.inl ⟨n, m, rfl, rfl, k⟩
theorem s_add_s (h : s.length + z.length ≤ sizeLine) (k : Q (.str (s ++ z)) H) : rPlus K (.str s) (.str z) H Q := Or.inr (Or.inl ⟨s, z, rfl, rfl, h, k⟩)
theorem s_add_l {xs ys : List V} (ha : H a = some (.lst xs)) (hb : H b = some (.lst ys)) (hl : xs.length + ys.length ≤ sizeLine) (k : ∀ p, H p = none → Q (.ref p) (upd H p (.lst (xs ++ ys)))) : rPlus K (.ref a) (.ref b) H Q :=
  Or.inr (Or.inr ⟨a, b, xs, ys, rfl, rfl, ha, hb, hl, k⟩)
theorem s_sub (k : Q (.int (n - m)) H) : rMinus (.int n) (.int m) H Q := ⟨n, m, rfl, rfl, k⟩
theorem s_mul (h : CMul n m) (k : Q (.int (n * m)) H) : rTimes (.int n) (.int m) H Q := ⟨n, m, rfl, rfl, h, k⟩
theorem s_mod (h : 0 < m) (k : Q (.int (n % m)) H) : rMod (.int n) (.int m) H Q := ⟨n, m, rfl, rfl, h, k⟩
theorem s_div (h : CDivW n m) (k : Q (.int (n / m)) H) : rDiv (.int n) (.int m) H Q := ⟨n, m, rfl, rfl, h, k⟩
theorem s_pow (h : CPow n m) (k : Q (.int (n ^ m.toNat)) H) : rPow (.int n) (.int m) H Q := ⟨n, m, rfl, rfl, h, k⟩
theorem s_neg (k : Q (.int (-n)) H) : rNeg (.int n) H Q := ⟨n, rfl, k⟩
theorem s_eq_i (k : Q (.bl (decide (n = m))) H) : rEqs K (.int n) (.int m) H Q := Or.inl ⟨rfl, by rw [dec_int]; rw [show (n == m) = decide (n = m) from by rw [Bool.eq_iff_iff]; simp]; exact k⟩
theorem s_eq_s (k : Q (.bl (decide (s = z))) H) : rEqs K (.str s) (.str z) H Q := Or.inl ⟨rfl, by rw [dec_str]; rw [show (s == z) = decide (s = z) from by rw [Bool.eq_iff_iff]; simp]; exact k⟩
theorem s_eq_x (h : scal x y = true) (k : Q (.bl (decide (x = y))) H) : rEqs K x y H Q := Or.inl ⟨h, k⟩
theorem s_eq_d {d e : PyData} (hd : Dp K H x d) (he : Dp K H y e) (sd : SeqAt.shaped d = true) (se : SeqAt.shaped e = true) (k : Q (.bl (PyData.eqv d e)) H) : rEqs K x y H Q := Or.inr ⟨d, e, hd, he, sd, se, k⟩
theorem s_ne_i (k : Q (.bl (!decide (n = m))) H) : rNes K (.int n) (.int m) H Q := Or.inl ⟨rfl, by rw [dec_int]; rw [show (n == m) = decide (n = m) from by rw [Bool.eq_iff_iff]; simp]; exact k⟩
theorem s_ne_s (k : Q (.bl (!decide (s = z))) H) : rNes K (.str s) (.str z) H Q := Or.inl ⟨rfl, by rw [dec_str]; rw [show (s == z) = decide (s = z) from by rw [Bool.eq_iff_iff]; simp]; exact k⟩
theorem s_ne_x (h : scal x y = true) (k : Q (.bl (!decide (x = y))) H) : rNes K x y H Q := Or.inl ⟨h, k⟩
theorem s_ne_d {d e : PyData} (hd : Dp K H x d) (he : Dp K H y e) (sd : SeqAt.shaped d = true) (se : SeqAt.shaped e = true) (k : Q (.bl (!PyData.eqv d e)) H) : rNes K x y H Q := Or.inr ⟨d, e, hd, he, sd, se, k⟩
theorem s_lt_i (k : Q (.bl (decide (n < m))) H) : rLts (.int n) (.int m) H Q := Or.inl ⟨n, m, rfl, rfl, k⟩
theorem s_le_i (k : Q (.bl (decide (n ≤ m))) H) : rLes (.int n) (.int m) H Q := Or.inl ⟨n, m, rfl, rfl, k⟩
theorem s_gt_i (k : Q (.bl (decide (m < n))) H) : rGts (.int n) (.int m) H Q := Or.inl ⟨n, m, rfl, rfl, k⟩
theorem s_ge_i (k : Q (.bl (decide (m ≤ n))) H) : rGes (.int n) (.int m) H Q := Or.inl ⟨n, m, rfl, rfl, k⟩
theorem s_lt_s (k : Q (.bl (decide (s.cps.toList < z.cps.toList))) H) : rLts (.str s) (.str z) H Q := Or.inr ⟨s, z, rfl, rfl, k⟩
theorem s_le_s (k : Q (.bl (!decide (z.cps.toList < s.cps.toList))) H) : rLes (.str s) (.str z) H Q := Or.inr ⟨s, z, rfl, rfl, k⟩
theorem s_gt_s (k : Q (.bl (decide (z.cps.toList < s.cps.toList))) H) : rGts (.str s) (.str z) H Q := Or.inr ⟨s, z, rfl, rfl, k⟩
theorem s_ge_s (k : Q (.bl (!decide (s.cps.toList < z.cps.toList))) H) : rGes (.str s) (.str z) H Q := Or.inr ⟨s, z, rfl, rfl, k⟩
theorem s_in_c {c : Nat} (k : Q (.bl (decide (c ∈ z.cps.toList))) H) : rIns K (.str ⟨#[c]⟩) (.str z) H Q := Or.inl ⟨c, z, rfl, rfl, k⟩
theorem s_ni_c {c : Nat} (k : Q (.bl (!decide (c ∈ z.cps.toList))) H) : rNis K (.str ⟨#[c]⟩) (.str z) H Q := Or.inl ⟨c, z, rfl, rfl, k⟩
theorem s_in_l {xs : List V} (h : SqL K H a xs) (hx : flatV x = true) (hs : xs.all flatV = true) (k : Q (.bl (inV x xs)) H) : rIns K x (.ref a) H Q := Or.inr ⟨a, xs, rfl, Or.inl h, hx, hs, k⟩
theorem s_in_t {xs : List V} (h : SqT K H a xs) (hx : flatV x = true) (hs : xs.all flatV = true) (k : Q (.bl (inV x xs)) H) : rIns K x (.ref a) H Q := Or.inr ⟨a, xs, rfl, Or.inr h, hx, hs, k⟩
theorem s_ni_l {xs : List V} (h : SqL K H a xs) (hx : flatV x = true) (hs : xs.all flatV = true) (k : Q (.bl (!inV x xs)) H) : rNis K x (.ref a) H Q := Or.inr ⟨a, xs, rfl, Or.inl h, hx, hs, k⟩
theorem s_ni_t {xs : List V} (h : SqT K H a xs) (hx : flatV x = true) (hs : xs.all flatV = true) (k : Q (.bl (!inV x xs)) H) : rNis K x (.ref a) H Q := Or.inr ⟨a, xs, rfl, Or.inr h, hx, hs, k⟩
theorem s_isN (k : Q (.bl (decide (x = .non))) H) : rIsN x .non H Q := ⟨rfl, k⟩
theorem s_noN (k : Q (.bl (!decide (x = .non))) H) : rNoN x .non H Q := ⟨rfl, k⟩
/-! subscripts -/
theorem s_ix_l {xs : List V} {j : Int} (h : SqL K H a xs) (hv : atI xs j = some v) (k : Q v H) : rIx K (.ref a) (.int j) H Q := Or.inl ⟨a, xs, j, v, rfl, rfl, h, hv, k⟩
theorem s_ix_t {xs : List V} {j : Int} (h : SqT K H a xs) (hv : atI xs j = some v) (k : Q v H) : rIx K (.ref a) (.int j) H Q := Or.inr (Or.inl ⟨a, xs, j, v, rfl, rfl, h, hv, k⟩)
theorem s_ix_s {j : Int} {c : Nat} (h : s.length ≤ sizeLine) (hv : atI s.cps.toList j = some c) (k : Q (.str ⟨#[c]⟩) H) : rIx K (.str s) (.int j) H Q := Or.inr (Or.inr ⟨s, j, c, rfl, rfl, h, hv, k⟩)
/-! calls of built-ins -/
def rLens (K : PySem.W.Frag) : List V → Hp → VK → Prop := fun xs H Q => ∃ x n, xs = [x] ∧ LenV K x H n ∧ Q (.int n) H
theorem s_len_s (h : s.length ≤ sizeLine) (k : Q (.int s.length) H) : rLens K [.str s] H Q := ⟨.str s, s.length, rfl, ⟨h, rfl⟩, k⟩
theorem s_len_l {xs : List V} (h : SqL K H a xs) (k : Q (.int xs.length) H) : rLens K [.ref a] H Q := ⟨.ref a, xs.length, rfl, Or.inl ⟨xs, h, rfl⟩, k⟩
theorem s_len_t {xs : List V} (h : SqT K H a xs) (k : Q (.int xs.length) H) : rLens K [.ref a] H Q := ⟨.ref a, xs.length, rfl, Or.inr ⟨xs, h, rfl⟩, k⟩
def rAbs : List V → Hp → VK → Prop := fun xs H Q => ∃ i, xs = [.int i] ∧ Q (.int (if i < 0 then -i else i)) H
theorem s_abs (k : Q (.int (if n < 0 then -n else n)) H) : rAbs [.int n] H Q := ⟨n, rfl, k⟩
def rMax2 : List V → Hp → VK → Prop := fun xs H Q => ∃ i j, xs = [.int i, .int j] ∧ Q (.int (if j > i then j else i)) H
theorem s_max2 (k : Q (.int (if m > n then m else n)) H) : rMax2 [.int n, .int m] H Q := ⟨n, m, rfl, k⟩
def rMin2 : List V → Hp → VK → Prop := fun xs H Q => ∃ i j, xs = [.int i, .int j] ∧ Q (.int (if j < i then j else i)) H
theorem s_min2 (k : Q (.int (if m < n then m else n)) H) : rMin2 [.int n, .int m] H Q := ⟨n, m, rfl, k⟩
def rInt1 : List V → Hp → VK → Prop := fun xs H Q => ((∃ i, xs = [.int i] ∧ Q (.int i) H) ∨ ∃ k, xs = [.bl k] ∧ Q (.int (if k then 1 else 0)) H) ∨ ∃ a n, xs = [.str a] ∧ PySem.intText? a = some n ∧ a.length ≤ 640 ∧ Q (.int n) H
theorem s_int_i (k : Q (.int n) H) : rInt1 [.int n] H Q := Or.inl (Or.inl ⟨n, rfl, k⟩)
theorem s_int_s (h : PySem.intText? s = some n) (hl : s.length ≤ 640) (k : Q (.int n) H) : rInt1 [.str s] H Q := Or.inr ⟨s, n, rfl, h, hl, k⟩
def rStr1 : List V → Hp → VK → Prop := fun xs H Q => ∃ i : Int, xs = [.int i] ∧ i.natAbs.log2 < 1920 ∧ Q (.str (toString i)) H
theorem s_str_i (h : n.natAbs.log2 < 1920) (k : Q (.str (toString n)) H) : rStr1 [.int n] H Q := ⟨n, rfl, h, k⟩
def rLst1 (K : PySem.W.Frag) : List V → Hp → VK → Prop := fun xs H Q => ∃ p ys, xs = [.ref p] ∧ (SqL K H p ys ∨ SqT K H p ys) ∧ ∀ l, H l = none → Q (.ref l) (upd H l (.lst ys))
theorem s_lst_l {xs : List V} (h : SqL K H a xs) (k : ∀ l, H l = none → Q (.ref l) (upd H l (.lst xs))) : rLst1 K [.ref a] H Q := ⟨a, xs, rfl, Or.inl h, k⟩
theorem s_lst_t {xs : List V} (h : SqT K H a xs) (k : ∀ l, H l = none → Q (.ref l) (upd H l (.lst xs))) : rLst1 K [.ref a] H Q := ⟨a, xs, rfl, Or.inr h, k⟩
def rTup1 (K : PySem.W.Frag) : List V → Hp → VK → Prop := fun xs H Q => ∃ p ys, xs = [.ref p] ∧ ((SqL K H p ys ∧ ∀ l, H l = none → Q (.ref l) (upd H l (.tup ys))) ∨ (SqT K H p ys ∧ Q (.ref p) H))
theorem s_tup_l {xs : List V} (h : SqL K H a xs) (k : ∀ l, H l = none → Q (.ref l) (upd H l (.tup xs))) : rTup1 K [.ref a] H Q := ⟨a, xs, rfl, Or.inl ⟨h, k⟩⟩
theorem s_tup_t {xs : List V} (h : SqT K H a xs) (k : Q (.ref a) H) : rTup1 K [.ref a] H Q := ⟨a, xs, rfl, Or.inr ⟨h, k⟩⟩
theorem s_any {bs : List Bool} (h : SqL K H a (bs.map V.bl)) (k : Q (.bl (bs.any id)) H) : rAny K [.ref a] H Q := ⟨a, bs, rfl, h, k⟩
theorem s_all {bs : List Bool} (h : SqL K H a (bs.map V.bl)) (k : Q (.bl (bs.all id)) H) : rAll K [.ref a] H Q := ⟨a, bs, rfl, h, k⟩
/-! methods -/
theorem s_append {xs : List V} (h : H a = some (.lst xs)) (hz : xs.length < sizeLine) (k : Q .non (upd H a (.lst (xs ++ [y])))) : rAppend (.ref a) [y] H Q := ⟨a, xs, y, rfl, rfl, h, hz, k⟩
theorem s_pop {xs : List V} (h : H a = some (.lst xs)) (hv : xs[xs.length - 1]? = some v) (k : Q v (upd H a (.lst xs.dropLast))) : rPop (.ref a) [] H Q := ⟨a, xs, v, rfl, rfl, h, hv, k⟩
theorem ty_l {xs : List V} (h : H a = some (.lst xs)) : tyV K "list" (.ref a) H := Or.inl ⟨rfl, xs, SqL.of h⟩
theorem ty_s : tyV K "str" (.str s) H := rfl
def rSplit : V → List V → Hp → VK → Prop := fun x xs H Q => ∃ a b, x = .str a ∧ xs = [.str b] ∧ (b.length == 0) = false ∧ a.length + 2 ≤ sizeLine ∧ rNewStrs (Txt.split a b) H Q
theorem s_split (hz : (z.length == 0) = false) (hl : s.length + 2 ≤ sizeLine) (k : ∀ p, H p = none → Q (.ref p) (upd H p (.lst ((Txt.split s z).map V.str)))) : rSplit (.str s) [.str z] H Q := ⟨s, z, rfl, rfl, hz, hl, k⟩
def rSlAny (K : PySem.W.Frag) : V → Option Int → Option Int → Hp → VK → Prop := fun x lo hi H Q => rSlL K x lo hi H Q ∨ rSlS x lo hi H Q
theorem s_sl_l {xs : List V} {lo hi : Option Int} (h : SqL K H a xs) (k : ∀ p, H p = none → Q (.ref p) (upd H p (.lst (cutV xs lo hi)))) : rSlAny K (.ref a) lo hi H Q := Or.inl ⟨a, xs, rfl, h, k⟩
theorem s_sl_s {lo hi : Option Int} (h : s.length ≤ sizeLine) (k : Q (.str (cutS s lo hi)) H) : rSlAny K (.str s) lo hi H Q := Or.inr ⟨s, rfl, h, k⟩
theorem s_setL {xs : List V} {j : Int} {l : Nat} {Q : Hp → Prop} (h : H a = some (.lst xs)) (hj : ixN xs.length j = some l) (k : Q (upd H a (.lst (xs.set l v)))) : rSetL (.ref a) (.int j) v H Q := ⟨a, xs, j, l, rfl, rfl, h, hj, k⟩
end
section
variable {X : Cx}
theorem b_len : CallR X (.builtin "len") (rLens X.K) := call_len
theorem b_abs : CallR X (.builtin "abs") rAbs := call_abs
theorem b_max (hc : X.calm = true) : CallR X (.builtin "max") rMax2 := call_max2 hc
theorem b_min (hc : X.calm = true) : CallR X (.builtin "min") rMin2 := call_min2 hc
theorem b_int : CallR X (.type "int") rInt1 := CallR.or call_int1 call_int_str
theorem b_str : CallR X (.type "str") rStr1 := call_str_int
theorem b_list : CallR X (.type "list") (rLst1 X.K) := call_list_of
theorem b_tuple : CallR X (.type "tuple") (rTup1 X.K) := call_tuple_of
theorem m_split : MtR X "str.split" rSplit := mt_split
theorem sl_any : SlR X (rSlAny X.K) := SlR.or sl_list sl_str
end
end Y

/-! The head: what the top has written, told by a Hook. -/
namespace Y
open PySem PySem.Spec L2 He
/-! ### own exception classes over ValueError -/
def cqB (K : PySem.W.Frag) (C : Addr) : Bool := match K.lookup C with
  | some ⟨.type t, dd, .cls cd, sl⟩ => (match cd.mro, sl.toList with
    | .ref C' :: bm, [k0, k1, k2, k3, some (.builtin n), k5] => t == "type" && C' == C && n == "ValueError.__new__" && !cd.hasDel && cd.hasDict && PySem.HandSPX.refsVE bm
    | _, _ => false)
  | _ => false
theorem cqB_ok {K : PySem.W.Frag} {C : Addr} (h : cqB K C = true) : ∃ nm q N bs bm sn sub ab col dd k0 k1 k2 k3 k5, K.lookup C = some (excClassObj nm q C N bs bm true sn sub ab col dd k0 k1 k2 k3 k5 "ValueError.__new__") ∧ PySem.HandSPX.refsVE bm = true := by
  unfold cqB at h
  split at h
  · rename_i t dd cd sl ho
    split at h
    · rename_i C' bm k0 k1 k2 k3 n k5 hm hs
      simp only [Bool.and_eq_true, beq_iff_eq, Bool.not_eq_true'] at h
      obtain ⟨⟨⟨⟨⟨rfl, rfl⟩, rfl⟩, hdel⟩, hd⟩, hr⟩ := h
      obtain ⟨nm, bs, mro, ns, qn, hd', sn, sub, ab, col, del⟩ := cd
      dsimp only at hm hdel hd
      subst hm hdel hd
      have hsl : sl = #[k0, k1, k2, k3, some (.builtin "ValueError.__new__"), k5] := by
        obtain ⟨l⟩ := sl
        simp only at hs
        rw [hs]
      subst hsl
      exact ⟨nm, qn, ns, bs, bm, sn, sub, ab, col, dd, k0, k1, k2, k3, k5, ho, hr⟩
    · cases h
  · cases h
/-- what is told of an own exception class -/
structure ExK (K : PySem.W.Frag) (C : Addr) : Prop where
  o : OexC K C
  x : XfC K C
  e : ExcC K C
def exB (K : PySem.W.Frag) (C : Addr) : Bool :=
  cqB K C && (decide (PySem.W.findIn K (.ref C) "__setattr__" = some (some (.builtin "object.__setattr__"))) && (decide (PySem.W.typeIn K (.ref C) = some (.type "type")) && (PySem.W.keepIn K (.ref C) && (xfB K C &&
    (decide (PySem.W.findIn K (.ref C) "__class__" = some (some (.builtin "object.__class__"))) && (decide (PySem.W.specialIn K (.builtin "object.__class__") "__get__" = some (some (.builtin "getset_descriptor.__get__"))) &&
      (decide (PySem.W.takesIn K (.builtin "object.__class__") = some true) && decide (PySem.W.mroIn K C (.type "object") = some true))))))))
theorem exB_ok {K : PySem.W.Frag} {C : Addr} (h : exB K C = true) : ExK K C := by
  obtain ⟨h1, h⟩ := ba h
  obtain ⟨h2, h⟩ := ba h
  obtain ⟨h3, h⟩ := ba h
  obtain ⟨h4, h⟩ := ba h
  obtain ⟨h5, h⟩ := ba h
  obtain ⟨h6, h⟩ := ba h
  obtain ⟨h7, h⟩ := ba h
  obtain ⟨h8, h9⟩ := ba h
  have x := xfB_ok h5
  exact ⟨⟨cqB_ok h1, of_decide_eq_true h2, x.exC, of_decide_eq_true h3, h4⟩, x, ⟨x.ga, x.gg, x.exC, x.hdC, of_decide_eq_true h6, of_decide_eq_true h7, of_decide_eq_true h8, of_decide_eq_true h9⟩⟩
/-- what isinstance asks of an own class -/
structure OwnK (K : PySem.W.Frag) (C : Addr) : Prop where
  ha : PySem.W.findIn K (.ref C) "__class__" = some (some (.builtin "object.__class__"))
  hn : PySem.W.specialIn K (.builtin "object.__class__") "__get__" = some (some (.builtin "getset_descriptor.__get__"))
  ht : PySem.W.takesIn K (.builtin "object.__class__") = some true
  hm : PySem.W.mroIn K C (.type "object") = some true
def ownB (K : PySem.W.Frag) (C : Addr) : Bool := decide (PySem.W.findIn K (.ref C) "__class__" = some (some (.builtin "object.__class__"))) && (decide (PySem.W.specialIn K (.builtin "object.__class__") "__get__" = some (some (.builtin "getset_descriptor.__get__"))) &&
  (decide (PySem.W.takesIn K (.builtin "object.__class__") = some true) && decide (PySem.W.mroIn K C (.type "object") = some true)))
theorem ownB_ok {K : PySem.W.Frag} {C : Addr} (h : ownB K C = true) : OwnK K C := by
  obtain ⟨h1, h⟩ := ba h
  obtain ⟨h2, h⟩ := ba h
  obtain ⟨h3, h4⟩ := ba h
  exact ⟨of_decide_eq_true h1, of_decide_eq_true h2, of_decide_eq_true h3, of_decide_eq_true h4⟩
/-! ### more facts -/
inductive Fb where
  /-- an own class whose instances isinstance is asked of -/
  | own (x : Str)
  /-- an own exception class -/
  | exq (x : Str)
  /-- isinstance of an instance of the first by the second; except: does the second catch the first -/
  | kit (x y : Str) (b : Bool)
  | exm (x y : Str) (b : Bool)
  /-- the class x has no attribute f -/
  | noat (x f : Str)
def Fb.ok (K : PySem.W.Frag) : Fb → Bool
  | .exq x => exB K (ga K x)
  | .own x => ownB K (ga K x)
  | .kit x y b => decide (PySem.W.kitOne K (.ref (ga K x)) (.ref (ga K y)) = some b)
  | .exm x y b => decide (PySem.W.exmOne K (.ref (ga K x)) (.ref (ga K y)) = some b)
  | .noat x f => decide (PySem.W.findIn K (.ref (ga K x)) f = some none)
/-! ### an __init__ that says super() -/
structure DefI where
  cls : Str
  name : Str
  qual : Str
  params : Arguments
  body : List Stmt
  scope : Scope
abbrev FnI : Type := Option (Str × Str × Arguments × FuncBody × Scope × Addr × List Str × Addr)
def fnI (K : PySem.W.Frag) (p : Str × Option Str) : FnI := match K.lookup (fAd K p) with
  | some ⟨_, _, .func fd, _⟩ => some (fd.name, fd.qualname, fd.params, fd.body, fd.scope, fd.globals, fd.closure.map (·.1), fd.builtins)
  | _ => none
def DefI.at_ (d : DefI) : Str × Option Str := (d.cls, some d.name)
def DefI.val (d : DefI) : FnI := some (d.name, d.qual, d.params, .stmts d.body, d.scope, mainGlobals, ["__class__"], builtinsNs)
/-- the cell of __class__ holds the class at C; the code object tells its file -/
def iniB (K : PySem.W.Frag) (C : Addr) (fd : FuncData) (q file : Str) : Bool := PySem.W.codeIn K fd.code q && (match fd.closure with
  | [(_, cc)] => (match K.lookup cc with
    | some ⟨_, _, .cell (some (.ref D)), _⟩ => decide (D = C)
    | _ => false)
  | _ => false) && (match fd.code with
  | .ref c => (match K.lookup c with
    | some ⟨_, _, .fields vs, _⟩ => (match vs.toList with
      | _ :: _ :: .str f _ :: _ => decide (f = file)
      | _ => false)
    | _ => false)
  | _ => false) && (match fd.defaults with
  | .none => true
  | _ => false)
def DefI.ok (K : PySem.W.Frag) (file : Str) (d : DefI) : Bool := PySem.W.keepIn K (.ref (fAd K d.at_)) && (decide (PySem.W.typeIn K (.ref (fAd K d.at_)) = some (.type "function")) &&
  (decide (PySem.W.findIn K (.ref (ga K d.cls)) "__init__" = some (some (.ref (fAd K d.at_)))) && (decide (PySem.W.ks_superIn K (ga K d.cls) (ga K d.cls) "__init__" = some (some (.builtin "ValueError.__init__"))) &&
    (decide (PySem.W.subIn K (.ref (ga K d.cls)) (.type "ValueError") = some true) && (decide (PySem.W.mroIn K (ga K d.cls) (.ref (ga K d.cls)) = some true) && (decide (PySem.W.nsIn K cStatics "thirdparty.any" = some none) &&
  (match K.lookup (fAd K d.at_) with
  | some ⟨_, _, .func fd, _⟩ => iniB K (ga K d.cls) fd d.qual file
  | _ => false)))))))
/-! ### the Hook -/
abbrev AlI : Type := AlD × Bool × List FnI
def obsI (fa : List Fa) (fn : List DefD) (fb : List Fb) (fi : List DefI) (file : Str) (K : PySem.W.Frag) : AlI := (obsD fa fn K, (fb.all fun f => f.ok K) && fi.all fun d => d.ok K file, fi.map fun d => fnI K d.at_)
def valI (fn : List DefD) (fi : List DefI) : AlI := (valD fn, true, fi.map DefI.val)
def SaysI (fa : List Fa) (fn : List DefD) (fb : List Fb) (fi : List DefI) (file : Str) (K : PySem.W.Frag) : Prop := obsI fa fn fb fi file K = valI fn fi
/-- the objects that the module's names reach in n steps, and some more -/
def asI (g : Addr → Option Obj) (n : Nat) : List Addr := asD g n ++ [cStatics]
def obsIG (n : Nat) (fa : List Fa) (fn : List DefD) (fb : List Fb) (fi : List DefI) (file : Str) (g : Addr → Option Obj) : AlI := obsI fa fn fb fi file (frG g (asI g n))
def hookI (n : Nat) (fa : List Fa) (fn : List DefD) (fb : List Fb) (fi : List DefI) (file : Str) : PySem.W.Hook where
  α := AlI
  obs := fun s => obsIG n fa fn fb fi file s.heap.get?
  val := fun _ => valI fn fi
  says := fun _ h => ∃ K : PySem.W.Frag, K.In h ∧ SaysI fa fn fb fi file K
  of := fun _ _ e => ⟨_, frG_in, e⟩
  keeps := fun _ _ _ ⟨K, hK, c⟩ k => ⟨K, PySem.W.Frag.In.keeps hK k, c⟩
theorem obsIG_eq {n : Nat} {fa : List Fa} {fn : List DefD} {fb : List Fb} {fi : List DefI} {file : Str} {g : Addr → Option Obj} {s : Shared} (h : ∀ a, g a = s.heap.get? a) : obsIG n fa fn fb fi file g = (hookI n fa fn fb fi file).obs s := by
  have e : g = s.heap.get? := funext h
  rw [e] <;> rfl
section
variable {fa : List Fa} {fn : List DefD} {fb : List Fb} {fi : List DefI} {file : Str} {K : PySem.W.Frag}
theorem SaysI.d (c : SaysI fa fn fb fi file K) : SaysD fa fn K := congrArg (fun z : AlI => z.1) c
theorem SaysI.fb_ (c : SaysI fa fn fb fi file K) {f : Fb} (h : f ∈ fb) : f.ok K = true := by
  have e : ((fb.all fun f => f.ok K) && fi.all fun d => d.ok K file) = true := congrArg (fun z : AlI => z.2.1) c
  exact List.all_eq_true.mp (ba e).1 f h
theorem SaysI.fi_ (c : SaysI fa fn fb fi file K) (i : Nat) {d : DefI} (h : fi[i]? = some d) : d.ok K file = true ∧ fnI K d.at_ = d.val := by
  have e : ((fb.all fun f => f.ok K) && fi.all fun d => d.ok K file) = true := congrArg (fun z : AlI => z.2.1) c
  have e2 : fi.map (fun d => fnI K d.at_) = fi.map DefI.val := congrArg (fun z : AlI => z.2.2) c
  have e3 : (fi.map fun d => fnI K d.at_)[i]? = (fi.map DefI.val)[i]? := by rw [e2]
  rw [List.getElem?_map, List.getElem?_map, h] at e3
  exact ⟨List.all_eq_true.mp (ba e).2 d (List.mem_of_getElem? h), Option.some.inj e3⟩
end
end Y

/-! An own exception class whose __init__ begins with super().__init__('..'). -/
namespace Y
open PySem PySem.Spec L2
section
open PySem.W PySem.Calls
variable {prog : Program} {w : World} {A : Around} {E : Value → Shared → Prop} {h : Heap} {g : Array GenState} {d : Drawn} {t : Nat} {os : OsState}
variable {nm q : Str} {C N : Addr} {bs bm : List Value} {hdct : Bool} {sn : List Str} {sub : List Value} {ab : Bool} {col : Option Bool} {dd : Option Addr} {k0 k1 k2 k3 k5 : Option Value}
/-- the bound ValueError.__init__ called: the args are laid anew -/
theorem call_mw {u e t0 : Addr} {rest : List Value} {Q : Value → Shared → Prop}
    (hC : h.get? C = some (excClassObj nm q C N bs bm hdct sn sub ab col dd k0 k1 k2 k3 k5 "ValueError.__new__")) (he : h.get? e = some (HandSPX.excO C t0)) (hu : h.get? u = some (kxs_mw "ValueError.__init__" e)) (hrest : rest.length ≤ sizeLine)
    (hq : ∀ h' t1, (∀ b o, b ≠ e → h.get? b = some o → h'.get? b = some o) → h'.get? e = some (HandSPX.excO C t1) → Q .none ⟨h', g, d, t, os⟩) :
    wpAny (model prog w) A (call (.ref u) rest) Q E ⟨h, g, d, t, os⟩ := by
  refine wpAny_call (codeAny_of_tree ?_)
  show wpAny _ A.in1 (callAny (.ref u) ⟨rest, []⟩) _ _ _
  simp only [callAny]
  refine wpAny_bind (wpAny_load hu ?_)
  simp only [kxs_mw, show (Value.type "method-wrapper" == Value.type "method" || Value.type "method-wrapper" == Value.type "builtin_function_or_method" || Value.type "method-wrapper" == Value.type "method-wrapper") = true by decide, if_true]
  refine W.KFB.if_so (by decide) ?_
  refine wpAny_bind (ESX.check_bound F.excBase_ValueError hC he rfl ?_)
  refine wpAny_bind (wpAny_pure (wpAny_pure ?_))
  refine ⟨Code.quiet_builtin _ (by decide +kernel), codeAny_builtin F.excBase_ValueError.initEntry ?_⟩
  rw [Around.under_plainId F.excBase_ValueError.init.plain _]
  wp_walk
  refine hq _ h.objs.size (fun b o hb ho => ?_) ?_
  · rw [Heap.get?_update_other _ _ (Ne.symm hb)]
    exact Heap.get?_push_of_some _ ho
  · rw [Heap.get?_update_self _ (Heap.get?_push_of_some _ he) rfl]
    rfl
end
/-- the context of such an __init__ -/
def cxI (CX : CXT) (P : Program) (w : World) (K : PySem.W.Frag) (mg : Str → Option Value) (base : Heap) (N : List Str) (fd : FuncData) (f : Addr) (A : Around) (outer : List Env) (s : Shared) (H : Hp) (E : XK) : Cx where
  prog := P
  w := w
  K := K
  mg := mg
  base := base
  A := A.deeper (callEnv fd s.heap.objs.size f)
  N := N
  s_0 := s
  H_0 := H
  env := callEnv fd s.heap.objs.size f
  outer := outer
  stack := callEnv fd s.heap.objs.size f :: outer
  ex := []
  calm := true
  fn := fun _ => false
  pn := []
  xe := fun e s' => wpAny (model P w) (A.deeper (callEnv fd s.heap.objs.size f)) (leaving (callEnv fd s.heap.objs.size f) e) (fun _ s'' => CX outer H s E e s'') (fun e' s'' => CX outer H s E e' s'') s'
/-- what is asked of the scope of such an __init__ -/
structure IniScope (N ps : List Str) (sc : Scope) : Prop where
  kind : sc.kind = .function
  co : sc.isCoroutine = false
  gen : sc.isGenerator = false
  nd : N.Nodup
  pre : N.take ps.length = ps
  par : ∀ x ∈ ps, sc.names.lookup x = some .local
  nocell : ∀ y ∈ sc.names, y.2 ≠ .cell
  frees : ∀ y ∈ sc.names, y.2 = NameKind.free → y.1 = "__class__"
  sup : sc.names.lookup ("super" : Str) = some NameKind.globalImplicit
  cl : sc.names.lookup ("__class__" : Str) = some NameKind.free
abbrev iniFd (name qual : Str) (params : Arguments) (body : List Stmt) (scope : Scope) (dV kV doc pm : Value) (an : Option Addr) (cdv ct : Value) (cc : Addr) : FuncData := PySem.W.fnX name qual params body scope [(("__class__" : Str), cc)] dV kV doc pm an cdv ct
theorem look_nd {β : Type} {x : Str} {v : β} : ∀ {l : List (Str × β)}, (l.map (·.1)).Nodup → (x, v) ∈ l → l.lookup x = some v
  | [], _, h => absurd h (by simp)
  | (y, u) :: r, nd, h => by
    rw [List.map_cons, List.nodup_cons] at nd
    rcases List.mem_cons.mp h with e | h
    · cases e
      simp [List.lookup]
    · have ne : x ≠ y := fun e => nd.1 (by rw [← e]; exact List.mem_map_of_mem (f := (·.1)) h)
      have hb : (x == y) = false := by simpa using ne
      simp only [List.lookup, hb]
      exact look_nd nd.2 h
theorem mem_look {sc : Scope} {x : Str} {k : NameKind} (h : sc.names.lookup x = some k) : (x, k) ∈ sc.names := PySem.mem_of_lookup h
theorem ini_start {CX : CXT} {P : Program} {w : World} {K : PySem.W.Frag} {mg : Str → Option Value} {base : Heap} {N ps : List Str} {fd : FuncData} {f cc : Addr} {A : Around} {outer : List Env} {s : Shared} {h1 : Heap} {H : Hp} {E : XK} {us : List Value} {vs : List V} {ocell : Obj} {D : Addr} {tk : Nat}
    (S : IniScope N ps fd.scope) (hcl : fd.closure = [(("__class__" : Str), cc)]) (hgl : fd.globals = mainGlobals) (hbt : fd.builtins = builtinsNs) (hcc : K.lookup cc = some ocell) (hcd : ocell.data = .cell (some (.ref D)))
    (hd : A.handled = none) (e0 : Env0 P w K mg base A outer s H) (hl : vs.length = ps.length) (r : Vals vs us)
    (hns : h1.Ns s.heap.objs.size (fun x => (ps.zip us).reverse.lookup x)) (hk : ∀ b o, s.heap.get? b = some o → h1.get? b = some o) :
    Inv (cxI CX P w K mg base N fd f A outer s H E) [] (start N vs) H { s with heap := h1, toks := tk } := by
  have hpl : ps.length ≤ N.length := by have := congrArg List.length S.pre; rw [List.length_take] at this; omega
  have ecells : (callEnv fd s.heap.objs.size f).cells = [(("__class__" : Str), cc)] := by
    show fd.closure = _
    exact hcl
  have one : ∀ {x c}, (callEnv fd s.heap.objs.size f).cells.lookup x = some c → x = "__class__" ∧ c = cc := fun {x c} e => by
    rw [ecells] at e
    by_cases hx : x = "__class__"
    · subst hx
      simp at e
      exact ⟨rfl, e.symm⟩
    · have hb : (x == ("__class__" : Str)) = false := by simpa using hx
      simp [List.lookup, hb] at e
  have ccb : base.get? cc = some ocell := e0.mod.kin _ _ hcc
  have ccs : s.heap.get? cc = some ocell ∧ H cc = none := e0.bs _ _ ccb
  have isc : ∀ {hp : Heap}, hp.get? cc = some ocell → hp.IsCell cc (some (.ref D)) := fun {hp} e => ⟨ocell, e, hcd⟩
  have ksc : (callEnv fd s.heap.objs.size f).scope = fd.scope := rfl
  have ndP : ps.Nodup := by rw [← S.pre]; exact S.nd.sublist (List.take_sublist _ _)
  refine ⟨⟨e0.mod, S.kind, hgl, hbt, Nat.le_refl _, fun y z c a b => ?_, fun y hy => ?_, fun y c hf _ => ?_, fun _ => hd, Around.frames_deeper e0.frames, .inr ⟨rfl, rfl⟩, fun b z => ?_, e0.bs, e0.bsz, fun b _ _ z => ?_, fun b z => ?_, e0.funs, e0.frf⟩,
    rfl, e0.bare, Un.kept hk, ⟨_, hns, fun i y v a b c => ?_⟩, fun y c e => ?_, e0.hok.fresh (Nat.le_refl _), fun y c e => ?_, fun p hp => absurd (show p ∈ ([] : List (Addr × Obj)) from hp) (by simp), e0.hok.kept hk, ?_⟩
  · rw [(one a).1, (one b).1]
  · have hy : fd.scope.names.lookup y = some .cell ∨ fd.scope.names.lookup y = some .free := hy
    rcases hy with hy | hy
    · exact absurd rfl (S.nocell _ (mem_look hy))
    · have e := S.frees _ (mem_look hy) rfl
      have e' : y = "__class__" := e
      subst e'
      refine ⟨cc, ?_⟩
      show (callEnv fd s.heap.objs.size f).cells.lookup ("__class__" : Str) = some cc
      rw [ecells]
      rfl
  · exact absurd (show false = true from hf) Bool.false_ne_true
  · exact absurd (show b ∈ ([] : List Addr) from z) (by simp)
  · exact absurd (show b ∈ ([] : List Addr) from z) (by simp)
  · exact absurd (show b ∈ ([] : List Addr) from z) (by simp)
  · have hi : i < vs.length := by
      unfold L2.start at b
      by_cases hi : i < vs.length
      · exact hi
      · rw [List.getElem?_append_right (by simpa using hi)] at b
        rw [List.getElem?_replicate] at b
        split at b <;> cases b
    have ha : vs[i]? = some v := by
      unfold L2.start at b
      rw [List.getElem?_append_left (by simpa using hi), List.getElem?_map] at b
      cases e : vs[i]? with
      | none => rw [e] at b; cases b
      | some a => rw [e] at b; cases b; rfl
    obtain ⟨u, hu, rv⟩ := r.get ha
    have hp : ps[i]? = some y := by
      rw [← S.pre, List.getElem?_take_of_lt (by omega)]; exact a
    refine ⟨u, rv, .inl ⟨S.par y (List.mem_of_getElem? hp), ?_⟩⟩
    have hz : (ps.zip us)[i]? = some (y, u) := by
      rw [List.getElem?_zip_eq_some]
      exact ⟨hp, hu⟩
    have nd2 : ((ps.zip us).map (·.1)).Nodup := by
      rw [List.map_fst_zip (by rw [← r.length, hl]; exact Nat.le_refl _)]
      exact ndP
    show (ps.zip us).reverse.lookup y = some u
    rw [lookup_reverse_of_nodup _ nd2]
    exact look_nd nd2 (List.mem_of_getElem? hz)
  · rw [(one e).2]
    exact ⟨_, isc (hk _ _ ccs.1)⟩
  · rw [(one e).2]
    exact ccs.2
  · unfold L2.start
    show _ = N.length
    rw [List.length_append, List.length_map, List.length_replicate]
    omega
/-- super().__init__('m') as the first row, the exception standing at a -/
theorem ini_super {P : Program} {X : Cx} {a C D f cc cda : Addr} {σ : L2.St} {H : Hp} {s : Shared} {fd : FuncData} {ar : Arg} {vs : Array Value} {tf : Tok} {file : Str} {of oco : Obj} {rest : List Stmt} {m : Str} {j : Nat} {p0 p1 ap cp p2 sp : Pos} {body : List Stmt} {Q : Flow → Shared → Prop}
    (T : OexC X.K C) (I : Inv X [] σ H s) (e : H a = some (exo a C none)) (hD : D = C) (hprog : X.prog = P)
    (hks : X.env.kindOf "super" = some .globalImplicit) (hkc : X.env.kindOf "__class__" = some .free) (hcells : X.env.cells = [(("__class__" : Str), cc)]) (hfu : X.env.func = some f) (hf : X.K.lookup f = some of) (hfd : of.data = .func fd)
    (hp : (fd.params.posonlyargs ++ fd.params.args).head? = some ar) (hco : X.env.code = .ref cda) (hcc : X.K.lookup cda = some oco) (hoc : oco.data = .fields vs) (hvs : vs[2]? = some (.str file tf)) (hfile : (P.main.file == file) = true) (htop : (P.main.scope.names.lookup ("super" : Str)).isSome = false)
    (hcell : ∃ ol, X.K.lookup cc = some ol ∧ ol.data = .cell (some (.ref D))) (hsi : X.mg "super" = none)
    (hN : X.N[0]? = some ar.arg) (hσ : σ[0]? = some (some (.ref a))) (hloc : X.env.kindOf ar.arg = some .local) (hth : PySem.W.nsIn X.K cStatics "thirdparty.any" = some none)
    (hin : PySem.W.ks_superIn X.K C C "__init__" = some (some (.builtin "ValueError.__init__"))) (hsub : PySem.W.subIn X.K (.ref C) (.type "ValueError") = some true) (hmro : PySem.W.mroIn X.K C (.ref C) = some true) (hA : X.A.handled = none)
    (hst : swapsWith (.Call (.Attribute (.Call (.Name "super" p0) [] [] p1) "__init__" ap) [.Constant (.str m) j p2] [] cp) none sp.line X.env = pure false)
    (hev : ∃ pl : Sem Bool, eval (.Call (.Attribute (.Call (.Name "super" p0) [] [] p1) "__init__" ap) [.Constant (.str m) j p2] [] cp) X.env = (do
        let ov ← attributeBase (.Call (.Name "super" p0) [] [] p1) "__init__" X.env (eval (.Call (.Name "super" p0) [] [] p1) X.env)
        standAt ap.atName
        let (f, first) ← holding [ov] (getMethod ov "__init__" pl)
        callWith cp f first (backTo cp (starEach [.Constant (.str m) j p2] X.env)) []))
    (h : ∀ s', Inv X [] σ H s' → wpAny (model P X.w) X.A (execs rest X.env) Q X.xe s') :
    wpAt (model P X.w) X.A (.func body X.env) (execs (.Expr (.Call (.Attribute (.Call (.Name "super" p0) [] [] p1) "__init__" ap) [.Constant (.str m) j p2] [] cp) sp :: rest) X.env) Q X.xe s := by
  subst hD
  subst hprog
  obtain ⟨nm, q', N', bs, bm, sn, sub, ab, col, dd, k0, k1, k2, k3, k5, hC, hbm⟩ := id T.cls
  obtain ⟨t1, ho⟩ := exo_at I.hok e
  have hcl : PySem.W.clsIn X.K D = some { name := nm, bases := bs, mro := .ref D :: bm, ns := N', qualname := q', hasDict := true, slotNames := sn, subclasses := sub, abstract := ab, collection := col, hasDel := false } := by unfold PySem.W.clsIn; rw [hC] <;> rfl
  obtain ⟨ocl, hcl1, hcl2⟩ := hcell
  obtain ⟨pl, hev⟩ := hev
  have LI : PySem.W.InstAt s.heap a { cls := .ref D, data := .fields #[.ref t1, .none, .none, .none, .bool false, .none] } D none := ⟨ho, rfl, rfl, trivial⟩
  refine ks_wpAt_execs_cons ?_
  refine ks_wpAt_Expr_any ?_ I.quiet hst
  refine ks_wpAt_MethodCall (pl := pl) ?_ hev
  refine ks_wpAt_super_base (env := X.env) hks hkc (by decide) hfu (I.kIn _ _ hf) hfd hp hco (I.kIn _ _ hcc) hoc hvs hfile htop ?_
  obtain ⟨mb, hb1, hb2⟩ := I.mod.blt
  refine PySem.W.ks_loadName_global I.ok.kind hks (Calls.loadGlobal_builtin (by rw [I.ok.glob]; exact I.mod.glob.keeps I.bk) hsi (by rw [I.ok.blt]; exact hb1.keeps I.bk) ((hb2 "super" (by decide)).trans (by decide +kernel : bootBuiltins "super" = some (.type "super"))) ⟨rfl, ?_⟩)
  have hcc' : X.env.cells.lookup ("__class__" : Str) = some cc := by rw [hcells]; rfl
  refine wpAny_loadName_free I.ok.kind hkc hcc' ⟨_, I.kIn _ _ hcl1, hcl2⟩ ?_
  obtain ⟨mm, hn, hlk⟩ := id I.loc
  obtain ⟨u, ru, hl⟩ := hlk 0 ar.arg (.ref a) hN hσ (.inl hloc)
  obtain rfl : u = Value.ref a := ru
  have hv : mm ar.arg = some (.ref a) := by
    rcases hl with ⟨_, h⟩ | ⟨h, _⟩
    · exact h
    · rw [hloc] at h
      rcases h with h | h <;> cases h
  refine wpAny_loadName_local I.ok.kind hloc hn hv ?_
  have hCs := I.kIn _ _ hC
  refine ks_wpAny_isType_cls hCs rfl ⟨rfl, ?_⟩
  obtain ⟨hp0, g, d, t, os⟩ := s
  refine ks_wpAny_call_super hCs rfl ho rfl (fun c z => nomatch z) (PySem.W.looks_mroIn I.kIn hmro) fun h' hso k => ?_
  have I2 : Inv X [] σ H ⟨h', g, d, t, os⟩ := I.kept (t' := t) k
  have LM : PySem.W.Looks (model X.prog X.w) h' (mroOf (.ref D)) (.ref D :: bm) := fun A Q E s kk z => wpAny_bind ((PySem.W.looks_clsIn I2.kIn hcl) A _ E s kk (wpAny_pure z))
  have hin' : PySem.W.alongIn X.K "__init__" (((.ref D :: bm).dropWhile (· != .ref D)).drop 1) = some (some (.builtin "ValueError.__init__")) := by
    have z := hin
    unfold PySem.W.ks_superIn at z
    rw [hcl] at z
    exact z
  have LI2 : PySem.W.InstAt h' a { cls := .ref D, data := .fields #[.ref t1, .none, .none, .none, .bool false, .none] } D none := ⟨k _ _ ho, rfl, rfl, trivial⟩
  have hI2 : PySem.W.Looks (model X.prog X.w) h' (isInstance (.ref a) (.type "ValueError")) true := LI2.type.andThen (PySem.W.looks_subIn I2.kIn hsub)
  refine PySem.W.kxs_getMethod PySem.W.kxs_ValueError hso (PySem.W.looks_opaque I2.kIn hth) LM rfl I2.kIn hin' hI2 (PySem.W.ks_ne I2.kIn LI2 hcl) (by decide) ?_
  have I3 : Inv X [] σ H ⟨h'.push (PySem.W.kxs_mw "ValueError.__init__" a), g, d, t + 1, os⟩ := I2.kept (t' := t + 1) fun b o z => Heap.get?_push_of_some _ z
  have hu3 : (h'.push (PySem.W.kxs_mw "ValueError.__init__" a)).get? h'.objs.size = some (PySem.W.kxs_mw "ValueError.__init__" a) := Heap.get?_push_size _ rfl
  show wpAny _ _ (callWith cp (Value.ref h'.objs.size) [] (backTo cp (starEach [.Constant (.str m) j p2] X.env)) []) _ _ _
  have he : starEach [.Constant (.str m) j p2] X.env = (false, eval (.Constant (.str m) j p2) X.env) :: starEach [] X.env := by rfl
  have ha : PA X [.Constant (.str m) j p2] (tCons (tC (.str m)) tNil) := pa_cons pe_str pa_nil
  have I3p := I3.pinned (fp := [h'.objs.size]) (fun b hb => by
      have eb : b = h'.objs.size := by simpa using hb
      rw [eb]
      have z := I2.fpOk (b := h'.objs.size) (H' := H) (Nat.le_refl _) (I2.hok.fresh (Nat.le_refl _))
      exact z) (fun b hb => by
      have eb : b = h'.objs.size := by simpa using hb
      rw [eb]
      exact ⟨_, hu3, fun v z => nomatch z⟩)
  have hsp := ha.run cp _ _ σ H (fun vs H1 => vs = [V.str m] ∧ H = H1) I3p ⟨rfl, rfl⟩
  rw [he] at hsp ⊢
  refine PySem.W.kxs_callWith (i := "ValueError.__init__") (x := a) (by rfl) (Calls.evalArgs_plain ?_)
  refine thn hsp fun us s4 hh => ?_
  obtain ⟨vs4, H4, I4, r4, ev, eH⟩ := hh
  subst ev
  rw [← eH] at I4
  have hu4 : s4.heap.get? h'.objs.size = some (PySem.W.kxs_mw "ValueError.__init__" a) :=
    (I4.pin (h'.objs.size, PySem.W.kxs_mw "ValueError.__init__" a) (List.mem_append_right _ (List.mem_append_right _ (mem_pinsAt (fp := [h'.objs.size]) (by simp) hu3)))).1
  refine ⟨hu4, ?_⟩
  obtain ⟨t4, ho4⟩ := exo_at I4.hok e
  have I5 : Inv X [] σ H s4 := I4.pins_of fun p hp => by
    have hp' : p ∈ X.pn := by simpa using hp
    exact I4.pin p (List.mem_append_left _ hp')
  obtain ⟨hp4, g4, d4, tk4, os4⟩ := s4
  have hlen : us.length ≤ sizeLine := by
    rw [← Paired.length r4, sizeLine_eq]
    show 1 ≤ 16777216
    decide
  refine call_mw (I5.kIn _ _ hC) ho4 hu4 hlen fun h5 t5 k5 hx5 => ?_
  have J := I5.write (t' := tk4) (x := a) (e := a) (o := exo a D none) (by rw [e]; exact True.intro) (.inl rfl) k5 ⟨_, hx5⟩ (exo_ok hx5)
  have eu : upd H a (exo a D none) = H := by
    funext b
    by_cases hb : b = a
    · rw [hb, upd_same, e]
    · rw [upd_ne hb]
  rw [eu] at J
  exact wpAt_of_wpAny (h _ J)
/-- what the written part says of such an __init__ at f: C its class -/
structure IniF (P : Program) (K : PySem.W.Frag) (mg : Str → Option Value) (C f : Addr) (name qual : Str) (params : Arguments) (body : List Stmt) (scope : Scope) (fd : FuncData) : Prop where
  ex : ∃ (oc : Value) (od : Option Addr) (kV doc pm : Value) (an : Option Addr) (cda : Addr) (ct : Value) (osl : Array (Option Value)) (cc : Addr) (ocl oco : Obj) (vs : Array Value) (tf : Tok),
    fd = iniFd name qual params body scope .none kV doc pm an (.ref cda) ct cc ∧ K.lookup f = some ⟨oc, od, .func fd, osl⟩ ∧ PySem.W.codeIn K (.ref cda) qual = true ∧
      K.lookup cc = some ocl ∧ ocl.data = .cell (some (.ref C)) ∧ K.lookup cda = some oco ∧ oco.data = .fields vs ∧ vs[2]? = some (.str P.main.file tf)
  sup : mg "super" = none
  th : PySem.W.nsIn K cStatics "thirdparty.any" = some none
  inn : PySem.W.ks_superIn K C C "__init__" = some (some (.builtin "ValueError.__init__"))
  sub : PySem.W.subIn K (.ref C) (.type "ValueError") = some true
  mro : PySem.W.mroIn K C (.ref C) = some true
  init : PySem.W.findIn K (.ref C) "__init__" = some (some (.ref f))
  typ : PySem.W.typeIn K (.ref f) = some (.type "function")
  top : (P.main.scope.names.lookup ("super" : Str)).isSome = false
/-- a class's own __init__, its first row super().__init__('m') -/
theorem fn_ini {CX : CXT} {P : Program} {w : World} {K : PySem.W.Frag} {mg : Str → Option Value} {base : Heap} {k : Nat} {C f : Addr} {name qual : Str} {params : Arguments} {scope : Scope} {fd : FuncData} {N ps : List Str} {sp : Sp} {ar : Arg} {rest : List Stmt} {m : Str} {j : Nat} {p0 p1 ap cp p2 rp : Pos} {x : Str}
    (F : IniF P K mg C f name qual params (.Expr (.Call (.Attribute (.Call (.Name "super" p0) [] [] p1) "__init__" ap) [.Constant (.str m) j p2] [] cp) rp :: rest) scope fd) (T : OexC K C) (S : IniScope N ps scope)
    (hp : (params.posonlyargs ++ params.args).head? = some ar) (hN : N[0]? = some ar.arg) (hps : ar.arg ∈ ps)
    (hev : ∀ env : Env, ∃ pl : Sem Bool, eval (.Call (.Attribute (.Call (.Name "super" p0) [] [] p1) "__init__" ap) [.Constant (.str m) j p2] [] cp) env = (do
        let ov ← attributeBase (.Call (.Name "super" p0) [] [] p1) "__init__" env (eval (.Call (.Name "super" p0) [] [] p1) env)
        standAt ap.atName
        let (f, first) ← holding [ov] (getMethod ov "__init__" pl)
        callWith cp f first (backTo cp (starEach [.Constant (.str m) j p2] env)) []))
    (len : ∀ vs H Q E, sp vs H Q E → vs.length = ps.length) (hsp : ∀ vs H Q E, sp vs H Q E → ∃ a ws, vs = .ref a :: ws ∧ H a = some (exo a C none))
    (hbody : ∀ (A : Around) (outer : List Env) (s : Shared) (H : Hp) (vs : List V) (Q : VK) (E : XK), Room k (A.deeper (callEnv fd s.heap.objs.size f)) → sp vs H Q E →
      ∃ t, PSs (cxI CX P w K mg base N fd f A outer s H E) rest t ∧ t { nx := fun _ H' => Q .non H', rt := Q } (start N vs) H) :
    FnOk P w K mg base CX (k + 1) f fd ps sp := by
  obtain ⟨oc, od, kV, doc, pm, an, cda, ct, osl, cc, ocl, oco, vsc, tf, hfd, lk, hcd, hcl, hcld, hco, hcod, hvs⟩ := F.ex
  refine ⟨len, fun A outer s H args us vs Q E hr e0 hb r hq0 => ?_⟩
  have hl := len _ _ _ _ hq0
  obtain ⟨a, ws, ev, he⟩ := hsp _ _ _ _ hq0
  have KX : K.In s.heap := e0.mod.kin.keeps fun b o e => (e0.bs b o e).1
  have lim : s.heap.NoLimit := e0.mod.nolimit.keeps fun b o e => (e0.bs b o e).1
  subst hfd
  refine ks_codeAny_call_defAt hr.depth (KX _ _ lk) rfl lim (PySem.W.codeRec_of KX hcd) rfl hb S.nocell (fun y hy => S.par _ (List.of_mem_zip (show (y.1, y.2) ∈ ps.zip us from hy)).1) (fun h0 hns hk => ?_) S.co S.gen S.kind
  have I : Inv (cxI CX P w K mg base N (iniFd name qual params (.Expr (.Call (.Attribute (.Call (.Name "super" p0) [] [] p1) "__init__" ap) [.Constant (.str m) j p2] [] cp) rp :: rest) scope .none kV doc pm an (.ref cda) ct cc) f A outer s H E) [] (start N vs) H { s with heap := h0, toks := s.toks + (ps.zip us).length } :=
    ini_start S rfl rfl rfl hcl hcld hr.hd e0 hl r hns hk
  obtain ⟨t, ht, hq⟩ := hbody A outer s H vs Q E (hr.deeper _) hq0
  have h00 : (start N vs)[0]? = some (some (.ref a)) := by
    rw [ev]
    rfl
  refine wpAt_mono (ini_super (P := P) (X := cxI CX P w K mg base N (iniFd name qual params (.Expr (.Call (.Attribute (.Call (.Name "super" p0) [] [] p1) "__init__" ap) [.Constant (.str m) j p2] [] cp) rp :: rest) scope .none kV doc pm an (.ref cda) ct cc) f A outer s H E) T I he rfl rfl S.sup S.cl rfl rfl lk rfl hp rfl hco hcod hvs (by simp) F.top ⟨ocl, hcl, hcld⟩ F.sup hN h00 (S.par _ hps) F.th F.inn F.sub F.mro hr.hd rfl (hev _) fun s' J => ht.run [] s' (start N vs) H _ J hq) (fun fl s' hs => ?_) fun e s' hs => hs
  cases fl with
  | ret u =>
    obtain ⟨v, σ', H', J, rv, q⟩ := hs
    exact ⟨v, H', J.os, J.bare, J.base, J.hok, rv, q⟩
  | next =>
    obtain ⟨σ', H', J, q⟩ := hs
    exact ⟨V.non, H', J.os, J.bare, J.base, J.hok, rfl, q⟩
  | brk =>
    obtain ⟨_, _, _, q⟩ := hs
    exact False.elim q
  | cont =>
    obtain ⟨_, _, _, q⟩ := hs
    exact False.elim q
end Y

namespace Y
open PySem PySem.Spec L2 He
/-! ### an __init__ of the head's -/
theorem iniF_of {P : Program} {K : PySem.W.Frag} {h : Heap} {mg : Str → Option Value} {d : DefI} {file : Str} (hm : P.main.file = file) (ht : (P.main.scope.names.lookup ("super" : Str)).isSome = false) (hs : mg "super" = none) (c : d.ok K file = true) (e : fnI K d.at_ = d.val) :
    ∃ fd, IniF P K mg (ga K d.cls) (fAd K d.at_) d.name d.qual d.params d.body d.scope fd := by
  unfold DefI.ok at c
  obtain ⟨c1, c⟩ := ba c
  obtain ⟨c2, c⟩ := ba c
  obtain ⟨c3, c⟩ := ba c
  obtain ⟨c4, c⟩ := ba c
  obtain ⟨c5, c⟩ := ba c
  obtain ⟨c6, c⟩ := ba c
  obtain ⟨c7, c⟩ := ba c
  unfold fnI at e
  cases q : K.lookup (fAd K d.at_) with
  | none =>
    rw [q] at c
    cases c
  | some o =>
    obtain ⟨oc, od, dt, osl⟩ := o
    rw [q] at c e
    cases dt with
    | func fd =>
      obtain ⟨n1, n2, n3, n4, n5, n6, n7, n8, n9, n10, n11, n12, n13, n14, n15⟩ := fd
      have e2 : (some (n1, n2, n3, n4, n5, n6, n7.map (·.1), n15) : FnI) = (some (d.name, d.qual, d.params, FuncBody.stmts d.body, d.scope, mainGlobals, ["__class__"], builtinsNs) : FnI) := e
      simp only [Option.some.injEq, Prod.mk.injEq] at e2
      obtain ⟨h1, h2, h3, h4, h5, h6, h7, h8⟩ := e2
      subst h1 h2 h3 h4 h5 h6 h8
      have c8 : iniB K (ga K d.cls) _ d.qual file = true := c
      unfold iniB at c8
      obtain ⟨c13, c14⟩ := ba c8
      obtain ⟨c11, c10⟩ := ba c13
      obtain ⟨c12, c9⟩ := ba c11
      clear c8 c11 c13
      dsimp only at c12 c9 c10 c14
      cases n8 with
      | none => ?_
      | _ => cases c14
      cases n7 with
      | nil => cases c9
      | cons p r =>
        cases r with
        | cons p2 r2 => cases c9
        | nil =>
          obtain ⟨pn, cc⟩ := p
          have epn : pn = "__class__" := by
            have z : [pn] = [("__class__" : Str)] := h7
            exact List.head_eq_of_cons_eq z
          subst epn
          dsimp only at c9
          cases ql : K.lookup cc with
          | none =>
            rw [ql] at c9
            cases c9
          | some ol =>
            obtain ⟨lc, ld, ldt, lsl⟩ := ol
            rw [ql] at c9
            cases ldt with
            | cell v =>
              cases v with
              | none => cases c9
              | some v =>
                cases v with
                | ref D =>
                  have eD : D = ga K d.cls := of_decide_eq_true c9
                  subst eD
                  cases n13 with
                  | ref cda =>
                    dsimp only at c10
                    cases qc : K.lookup cda with
                    | none =>
                      rw [qc] at c10
                      cases c10
                    | some oo =>
                      obtain ⟨occ, ocd, ocdt, ocsl⟩ := oo
                      rw [qc] at c10
                      cases ocdt with
                      | fields vs =>
                        dsimp only at c10
                        obtain ⟨l⟩ := vs
                        match l, c10 with
                        | _ :: _ :: .str f tf :: rest, c10 =>
                          have ef : f = file := of_decide_eq_true c10
                          subst ef
                          refine ⟨_, ⟨oc, od, n9, n10, n11, n12, cda, n14, osl, cc, _, _, _, tf, rfl, q, c12, ql, rfl, qc, rfl, ?_⟩, hs, of_decide_eq_true c7, of_decide_eq_true c4, of_decide_eq_true c5, of_decide_eq_true c6, of_decide_eq_true c3, of_decide_eq_true c2, ht⟩
                          rw [hm]
                          rfl
                      | _ => cases c10
                  | _ => cases c10
                | _ => cases c9
            | _ => cases c9
    | _ => cases c
/-! ### raising an own exception with fields -/
/-- __init__ stores the arguments under the names fs, in order -/
def spIni (C : Addr) (fs : List Str) : Sp := fun vs H Q _ => ∃ (a : Addr) (ws : List V), vs = .ref a :: ws ∧ ws.length = fs.length ∧ H a = some (exo a C none) ∧
  ∀ dx, H dx = none → dx ≠ a → Q .non (upd (upd H dx (exd dx (fs.zip ws).reverse)) a (exo a C (some dx)))
/-- an own exception class, named x, ready to be raised -/
structure Rz (P : Program) (w : World) (K : PySem.W.Frag) (mg : Str → Option Value) (base : Heap) (x : Str) (C : Addr) (fs : List Str) : Prop where
  g : mg x = some (.ref C)
  o : OexC K C
  ex : ∃ (fI : Addr) (fd : FuncData) (ps : List Str), FnOk P w K mg base CX0 1 fI fd ps (spIni C fs) ∧ Binds K fd ps [] ∧ PySem.W.findIn K (.ref C) "__init__" = some (some (.ref fI)) ∧ PySem.W.typeIn K (.ref fI) = some (.type "function")
def tRz (C : Addr) (fs : List Str) (ta : TA) : L2.St → Hp → XK → Prop := fun σ H Q => ta σ H fun vs H1 => vs.length = fs.length ∧ vs.length ≤ 1000 ∧ ∀ d, H1 d = none → Q (.ref C) (some d) (upd H1 d (.xd (fs.zip vs).reverse))
def tMon (t : TA) : TA := fun σ H Q => ∃ Q0 : List V → Hp → Prop, t σ H Q0 ∧ ∀ vs H1, Q0 vs H1 → Q vs H1
theorem pa_mon {X : Cx} {es : List Expr} {t : TA} (h : PA X es t) : PA X es (tMon t) := by
  refine ⟨fun pos pins s σ H Q I q => ?_⟩
  obtain ⟨Q0, h0, k⟩ := q
  refine thn (h.run pos pins s σ H Q0 I h0) fun us s1 z => ?_
  obtain ⟨vs, H1, I1, r, q⟩ := z
  exact ⟨vs, H1, I1, r, k _ _ q⟩
theorem pmk_rz {X : Cx} {x : Str} {C : Addr} {fs : List Str} {e : Expr} {es : List Expr} {ta : TA} {p pos : Pos} (R : Rz X.prog X.w X.K X.mg X.base x C fs) (hr : Room 2 X.A) (hg : Gl X x) (ha : PA X (e :: es) ta)
    (hdb : (x == ("__debug__" : Str)) = false := by decide) (he : starEach (e :: es) X.env = (false, eval e X.env) :: starEach es X.env := by rfl) (hpl : (backTo pos (starEach es X.env)).any (·.1) = false := by rfl) :
    PMk X (.Call (.Name x p) (e :: es) [] pos) (tRz C fs ta) := by
  obtain ⟨fI, fd, ps, F1, hb, iC, tI⟩ := R.ex
  have key := pmk_oex (X := X) (p := p) (pos := pos) (dvs := []) (ds := []) R.o iC tI F1 hr hb .nil pass0 hg R.g (pa_mon ha) hdb he hpl
  intro pins s σ H Q I h
  refine key pins s σ H Q I ?_
  have h' : ta σ H fun vs H1 => vs.length = fs.length ∧ vs.length ≤ 1000 ∧ ∀ d, H1 d = none → Q (.ref C) (some d) (upd H1 d (.xd (fs.zip vs).reverse)) := h
  refine ⟨_, h', fun vs H1 z => ?_⟩
  obtain ⟨z1, z2, z3⟩ := z
  refine ⟨z2, fun a na => ?_⟩
  rw [List.append_nil]
  refine ⟨a, vs, rfl, z1, upd_same, fun dx nd ne => ⟨rfl, dx, (fs.zip vs).reverse, upd_same, ?_, ?_, ?_⟩⟩
  · rw [upd_ne ne, upd_same]
  · rw [upd_ne ne] at nd
    exact nd
  · have nd1 : H1 dx = none := by
      rw [upd_ne ne] at nd
      exact nd
    have q := z3 dx nd1
    have e : upd (del (upd (upd (upd H1 a (exo a C none)) dx (exd dx (fs.zip vs).reverse)) a (exo a C (some dx))) a) dx (.xd (fs.zip vs).reverse) = upd H1 dx (.xd (fs.zip vs).reverse) := by
      funext b
      by_cases h1 : b = dx
      · rw [h1, upd_same, upd_same]
      · rw [upd_ne h1, upd_ne h1]
        by_cases h2 : b = a
        · rw [h2, del_same, na]
        · rw [del_ne h2, upd_ne h2, upd_ne h1, upd_ne h2]
    rw [e]
    exact q
end Y

namespace Y
open PySem PySem.Spec L2 He
/-! ### isinstance of a caught error that may have fields -/
section
open PySem.W PySem.Calls
variable {prog : Program} {w : World} {A : Around} {E : Value → Shared → Prop} {s : Shared} {K : Frag} {x D : Addr} {ox : Obj} {od : Option Obj}
theorem find_dataD {C : Addr} {name : Str} {a g : Value} (hc : (clsIn K C).isSome = true) (ha : findIn K (.ref C) name = some (some a)) (hg : specialIn K a "__get__" = some (some g)) (ht : takesIn K a = some true) : findObj K C od name = some (.bind g a) := by
  obtain ⟨cd, hc⟩ := Option.isSome_iff_exists.mp hc
  unfold findObj
  rw [hc, Option.bind_some, ha, Option.bind_some]
  simp [hg, ht]
theorem kin_classD {Q : Option Value → Shared → Prop} (F : L2.ExcC K D) (X : K.In s.heap) (I : InstAt s.heap x ox D od) (h : Q (some (.ref D)) { s with toks := s.toks + 1 }) : wpAny (model prog w) A (getAttr? (.ref x) "__class__") Q E s := by
  obtain ⟨hga, hgt, hsub, hdct, ha, hn, htk, hm⟩ := F
  have hf : findObj K D od "__class__" = some (.bind (.builtin "getset_descriptor.__get__") (.builtin "object.__class__")) := find_dataD (by obtain ⟨cd, hc, _⟩ := any_some hdct; rw [hc]; rfl) ha hn htk
  obtain ⟨hp, g, d, t, os⟩ := s
  have W0 := I.type (M := model prog w)
  have W1 := looks_findIn (M := model prog w) X hga
  have W2 := looks_findIn (M := model prog w) X hgt
  have W3 := looks_find (M := model prog w) X I hf
  have sub : Looks (model prog w) hp (isInstance (.ref x) (.type "BaseException")) true := W0.andThen (looks_subIn X hsub)
  have hx0 : (false && onTheHeap (Value.builtin "BaseException.__getattribute__")) = false := rfl
  have hx2 : (Value.builtin "BaseException.__getattribute__" == Value.builtin "object.__getattribute__") = false := by decide +kernel
  have hx1 : (onTheHeap (Value.ref D) && Value.builtin "BaseException.__getattribute__" == Value.builtin "object.__getattribute__") = false := by rw [hx2]; rfl
  unfold getAttr? getAttrBy? getAttrBy
  refine wpAny_bind (wpAny_mkText (wpAny_bind (wpAny_attempt (wpAny_holding (wpAny_bind (W0.at (wpAny_bind (W1.at ?_))))))))
  show wpAny _ _ (if (onTheHeap (Value.ref D) && Value.builtin "BaseException.__getattribute__" == Value.builtin "object.__getattribute__") = true then _ else _) _ _ _
  rw [hx1, if_neg Bool.false_ne_true]
  unfold getAttrByItsOwn hookBefore
  refine wpAny_bind ?_
  rw [if_pos (show onTheHeap (Value.ref D) = true from rfl)]
  refine W2.at ?_
  refine wpAny_bind (wpAny_attempt (wpAny_holding ?_))
  unfold callGetattribute
  rw [hx0, if_neg Bool.false_ne_true]
  unfold boundAndCalled
  rw [PySem.F.excAttr_ValueError.ga.bind (.ref x)]
  refine wpAny_bind (wpAny_pure ?_)
  show wpAny _ _ (call (.builtin "BaseException.__getattribute__") [.ref x, .str "__class__" t]) _ _ _
  refine wpAny_call (codeAny_call_builtin PySem.F.excAttr_ValueError.ga.plain PySem.F.entry_bexc_ga ?_)
  refine @check_slot (model prog w) _ _ ⟨hp, g, d, t + 1, os⟩ "BaseException.__getattribute__" "BaseException" "__getattribute__" (.ref x) [.str "__class__" t] [] _ (by decide +kernel) (by decide +kernel) sub (PySem.F.args_bexc_ga (.ref x) (.str "__class__" t)) ?_
  unfold Builtin.«object.__getattribute__»
  refine wpAny_bind (wpAny_of_eq (a := ((Value.ref x : Value), [Value.str "__class__" t])) (by first | rfl | (simp only [slotArgs]; rfl)) ?_)
  refine wpAny_bind (wpAny_pure (wpAny_bind (W0.at (wpAny_bind (W3.at ?_)))))
  show wpAny _ _ (holding [Value.builtin "object.__class__"] (call (.builtin "getset_descriptor.__get__") [.builtin "object.__class__", .ref x, .ref D]) >>= ret) _ _ _
  refine wpAny_bind (wpAny_holding (wpAny_call (class_get (s := ⟨hp, g, d, t + 1, os⟩) (ox := ox) (od := od) X I hm ?_)))
  refine wpAny_pure ?_
  show wpAny _ _ (handedOut (.ref D)) _ _ _
  rw [handedOut_of (v := .ref D) rfl]
  first
    | exact wpAny_pure (wpAny_pure h)
    | exact wpAny_pure h
    | exact wpAny_pure (wpAny_bind (wpAny_pure (wpAny_pure h)))
theorem kitx_excD (F : L2.ExcC K D) : KitX K (.ref x) (.ref D) (fun h => ∃ od, InstAt h x ox D od) where
  ty := fun _ _ _ I => by
    obtain ⟨od, I⟩ := I
    exact I.type
  it := fun _ _ X _ => by
    obtain ⟨cdD, hcD, _⟩ := any_some F.hd
    unfold clsIn at hcD
    split at hcD
    · rename_i c' d' cd' sl' ho
      intro A' Q' E' s' k q
      unfold isType loadHead
      exact wpAny_bind (wpAny_loadPart (k _ _ (X _ _ ho)) (wpAny_pure q))
    · cases hcD
  ne := fun h tp dd its n sl X htp => by
    obtain ⟨cdD, hcD, _⟩ := any_some F.hd
    refine Bool.eq_false_iff.mpr fun q => ?_
    have e : D = tp := Value.ref.inj (beq_iff_eq.mp q)
    subst e
    unfold clsIn at hcD
    split at hcD
    · rename_i c' d' cd' sl' ho
      have z := (X _ _ ho).symm.trans htp
      cases z
    · cases hcD
  ca := fun X I k => by
    obtain ⟨od, I⟩ := I
    exact kin_classD F X I k
end
/-- the dict that a caught error has, if any, stands -/
def DOk (H : Hp) (d : Option Addr) : Prop := match d with
  | none => True
  | some dd => ∃ fs, H dd = some (.xd fs)
/-- isinstance(e, c): e the exception that the suite holds, of the class cls -/
def rIsX (K : PySem.W.Frag) (a : Addr) (cls : Value) (d : Option Addr) : List V → Hp → VK → Prop := fun xs H Q => ∃ (D : Addr) (c : V) (cv : Value) (b : Bool), cls = .ref D ∧ ExcC K D ∧ xs = [.ref a, c] ∧ ClsV c cv ∧ PySem.W.kitOne K (.ref D) cv = some b ∧ DOk H d ∧ Q (.bl b) H
theorem inst_of {X : Cx} {a D : Addr} {oe : Obj} {d : Option Addr} {pn pins : List (Addr × Obj)} {σ : L2.St} {H : Hp} {s : Shared} (I : Inv (X.suite a ((a, oe) :: pn)) pins σ H s) (hz : Zc (.ref D) d oe) (hf : ∃ vs, oe.data = .fields vs) (hd : DOk H d) : ∃ od, PySem.W.InstAt s.heap a oe D od := by
  obtain ⟨hget, _⟩ := I.pin (a, oe) (List.mem_append.mpr (.inl List.mem_cons_self))
  obtain ⟨vs, hv⟩ := hf
  obtain ⟨oc, odd, oda, osl⟩ := oe
  obtain ⟨h1, h2⟩ := hz
  dsimp only at h1 h2 hv
  subst h1 h2 hv
  cases odd with
  | none => exact ⟨none, hget, rfl, rfl, trivial⟩
  | some dd =>
    obtain ⟨fs, hfs⟩ := hd
    obtain ⟨mA, ⟨o, es, ep, ho, _⟩, _⟩ := (show ObjOk X.prog X.w H s.heap dd (.xd fs) from I.hok dd _ hfs)
    exact ⟨some o, hget, rfl, rfl, ho⟩
theorem call_isX {X : Cx} {a : Addr} {oe : Obj} {cls : Value} {d : Option Addr} {pn : List (Addr × Obj)} (hz : Zc cls d oe) (hf : ∃ vs, oe.data = .fields vs) : CallR (X.suite a ((a, oe) :: pn)) (.builtin "isinstance") (rIsX X.K a cls d) := by
  intro pins s σ H xs us Q I r h
  obtain ⟨D, c, cv, b, ec, C, rfl, hcv, e, hd, q⟩ := h
  subst ec
  obtain ⟨u1, u2, rfl, r1, r2⟩ := vals2 r
  have e2 := hcv.eq r2
  subst e2
  cases (show u1 = Value.ref a from r1)
  exact PySem.W.kia_one (kitx_excD (ox := oe) C) I.kIn (inst_of I hz hf hd) e (fun z => nomatch z) fun tk => ⟨.bl b, H, I.kept (t' := tk) fun _ _ z => z, rfl, q⟩
/-- isinstance(e, (c1, c2, ..)) -/
def rIsXT (K : PySem.W.Frag) (a : Addr) (cls : Value) (d : Option Addr) : List V → Hp → VK → Prop := fun xs H Q => ∃ (D tp : Addr) (cs : List V) (us : List Value) (b : Bool), cls = .ref D ∧ ExcC K D ∧ xs = [.ref a, .ref tp] ∧ H tp = some (.tup cs) ∧ Paired ClsV cs us ∧ PySem.W.kitAny K (.ref D) us = some b ∧ DOk H d ∧ Q (.bl b) H
theorem call_isXT {X : Cx} {a : Addr} {oe : Obj} {cls : Value} {d : Option Addr} {pn : List (Addr × Obj)} (hz : Zc cls d oe) (hf : ∃ vs, oe.data = .fields vs) : CallR (X.suite a ((a, oe) :: pn)) (.builtin "isinstance") (rIsXT X.K a cls d) := by
  intro pins s σ H xs us Q I r h
  obtain ⟨D, tp, cs, ws, b, ec, C, rfl, hT, k, e, hd, q⟩ := h
  subst ec
  obtain ⟨u1, u2, rfl, r1, r2⟩ := vals2 r
  cases (show u1 = Value.ref a from r1)
  cases (show u2 = Value.ref tp from r2)
  obtain ⟨_, its, rv, o, h1, h2, n, h3⟩ := (show ObjOk X.prog X.w H s.heap tp (.tup cs) from I.hok tp _ hT)
  have e3 := ClsV.all k rv
  subst e3
  obtain ⟨oc, od, dt, sl⟩ := o
  simp only at h2 h3
  subst h2 h3
  exact PySem.W.kia_tup (kitx_excD (ox := oe) C) I.kIn (inst_of I hz hf hd) h1 e (fun z => nomatch z) fun tk => ⟨.bl b, H, I.kept (t' := tk) fun _ _ z => z, rfl, q⟩
end Y

namespace Y
open PySem PySem.Spec L2 He
/-! ### enumerate of a tuple, of a text -/
/-- the pairs (number, item), each in a new tuple: item i of what is walked is told by It0 i H x; n items -/
theorem turn_enumD {P : Program} {w : World} {K : PySem.W.Frag} {elts : List Expr} {kk : Nat} {tpos : Pos} (e it : Addr) (J : It) (Si : Nat → Heap → Prop)
    (Sobj : ∀ i h, Si i h → ∃ o, h.get? it = some o ∧ ∀ v, o.data ≠ .cell v) (Skeep : ∀ i h h', Si i h → (∀ o, h.get? it = some o → h'.get? it = some o) → Si i h')
    (Dr : ∀ (X : Cx), X.prog = P → X.w = w → X.K = K → X.calm = true → ∀ (i : Nat) (pins : List (Addr × Obj)) (s : Shared) (σ : L2.St) (H : Hp), Inv X pins σ H s → Si i s.heap → (J.go i H ∨ J.stop i H) →
      ∃ (fp : List Addr) (n : Nat) (Pv : Nat → Value → Prop) (S2 : Nat → Heap → Prop), Draws P w X.A.in1 it fp n Pv S2 ∧ S2 i s.heap ∧ (∀ j h, S2 j h → Si j h) ∧ (s.heap.get? e = some { cls := .type "enumerate", data := .fields #[.none, .bool false, .ref it, rawInt 0, .none, .none] } → True) ∧
        (∀ b ∈ fp, b = it ∨ ∃ o, s.heap.get? b = some o ∧ o.cls = .type "tuple") ∧ (J.stop i H → i = n) ∧ (J.go i H → i < n ∧ ∀ u, Pv i u → ∃ x, RelV x u ∧ ∀ T, H T = none → J.yld i H (.ref T) (upd H T (.tup [.int (i : Nat), x])))) :
    Turn P w K (.Tuple elts kk tpos) J [e, it] e (fun i h => (∃ old, IsEnum h e it ((i : Nat) : Int) old) ∧ Si i h ∧ e ≠ it) where
  mem := by simp
  obj := fun i h st b hb => by
    obtain ⟨⟨old, he⟩, hs, _⟩ := st
    have e' : b = e ∨ b = it := by simpa using hb
    rcases e' with z | z
    · rw [z]; exact ⟨_, he, fun v q => nomatch q⟩
    · rw [z]; exact Sobj i h hs
  keep := fun i h h' st k => by
    obtain ⟨⟨old, he⟩, hs, hne⟩ := st
    exact ⟨⟨old, k e (by simp) _ he⟩, Skeep i h h' hs fun o q => k it (by simp) o q, hne⟩
  item := by
    intro X hP hw hK hc i pins s σ H E I hf st hg
    obtain ⟨⟨old, he⟩, hs, hne⟩ := st
    obtain ⟨fp, n, Pv, S2, D, s2, up, _, hfp, _, hgo⟩ := Dr X hP hw hK hc i pins s σ H I hs (.inl hg)
    subst hP hw hK
    obtain ⟨hlt, hv⟩ := hgo hg
    have hel : e < s.heap.objs.size := Heap.lt_size he
    obtain ⟨oit, hoit, _⟩ := Sobj i _ hs
    have hil : it < s.heap.objs.size := Heap.lt_size hoit
    have hef : e ∉ fp := fun hm => by
      rcases hfp e hm with z | ⟨o, ho, hc⟩
      · exact hne z
      · have z := ho.symm.trans he
        injection z with z
        rw [z] at hc
        exact absurd (show Value.type "enumerate" = Value.type "tuple" from hc) (by decide)
    refine wpAny_pyNext_enum_itemD D he s2 hlt hne hef fun u h' tk hP ho hit' hT hsz hk => ?_
    obtain ⟨x, ru, hy⟩ := hv u hP
    refine ⟨_, rfl, wpAny_letOwnedTupleGo_enum (s := { s with heap := h', toks := tk + 1 }) ho fun h'' he' sb => ?_⟩
    have hT2 : h''.get? s.heap.objs.size = some { cls := .type "tuple", data := .seq #[.int i tk, u] } := (sb.2 _ (Nat.ne_of_gt hel)).trans hT
    have new : ObjOk X.prog X.w (upd H s.heap.objs.size (.tup [.int (i : Nat), x])) h'' s.heap.objs.size (.tup [.int (i : Nat), x]) :=
      ⟨by show 2 ≤ sizeLine; decide, [.int i tk, u], .cons ⟨_, rfl⟩ (.cons ru .nil), ⟨_, hT2, rfl, _, rfl⟩⟩
    have I1 : Inv X pins σ (upd H s.heap.objs.size (.tup [.int (i : Nat), x])) { s with heap := h'', toks := tk + 1 } :=
      I.turnedNew (ch := [e, it]) (fun b ob hb q => (sb.2 b (fun z => hb (by simp [z]))).trans (hk b ob (fun z => hb (by simp [z])) (fun z => hb (by simp [z])) q)) hf (Nat.le_refl _) new
    refine ⟨.ref s.heap.objs.size, _, I1, rfl, hy _ (I.hok.fresh (Nat.le_refl _)), ⟨⟨u, ?_⟩, Skeep _ _ _ (up _ _ hit') fun o q => (sb.2 it (Ne.symm hne)).trans q, hne⟩, fun b hb => ?_⟩
    · have e1 : ((i + 1 : Nat) : Int) = (i : Int) + 1 := by omega
      rw [e1]; exact he'
    · have hb' : b < s.heap.objs.size := by
        have e' : b = e ∨ b = it := by simpa using hb
        rcases e' with z | z
        · rw [z]; exact hel
        · rw [z]; exact hil
      rw [upd_ne (Nat.ne_of_lt hb')]
      exact (hf b hb).1
  done := by
    intro X hP hw hK hc i pins s σ H E I hf st hg
    obtain ⟨⟨old, he⟩, hs, hne⟩ := st
    obtain ⟨fp, n, Pv, S2, D, s2, up, _, hfp, hstop, _⟩ := Dr X hP hw hK hc i pins s σ H I hs (.inr hg)
    subst hP hw hK
    have en := hstop hg
    subst en
    obtain ⟨f0, f1, f2, f3, f4, f5⟩ := hf it (by simp)
    exact wpAny_pyNext_enum_endD D he s2 fun h' eb => ⟨rfl, I.turned (t' := s.toks) (fun b o hb q => eb b o hb q) f0 f1 f3 f4 f5⟩
  self := fun A i s Q E st h => let ⟨⟨_, he⟩, _⟩ := st; wpAny_pyIter_enum he h
/-- the tuple at a, its items in new pairs -/
def Ity (K : PySem.W.Frag) (a : Addr) : It :=
  ⟨fun i H => ∃ (xs : List V) (x : V), SqT K H a xs ∧ xs[i]? = some x, fun i H v H' => ∃ T x, v = .ref T ∧ H T = none ∧ H' = upd H T (.tup [.int (i : Nat), x]) ∧ ∀ xs, SqT K H a xs → xs[i]? = some x, fun i H => ∃ xs : List V, SqT K H a xs ∧ xs.length = i⟩
theorem turn_enumT {P : Program} {w : World} {K : PySem.W.Frag} {elts : List Expr} {kk : Nat} {tpos : Pos} (a e it : Addr) :
    Turn P w K (.Tuple elts kk tpos) (Ity K a) [e, it] e (fun i h => (∃ old, IsEnum h e it ((i : Nat) : Int) old) ∧ h.IsTupleIter it a i ∧ e ≠ it) := by
  refine turn_enumD e it (Ity K a) (fun i h => h.IsTupleIter it a i) (fun i h st => ?_) (fun i h h' st k => st.at k) (fun X hP hw hK hc i pins s σ H I st hg => ?_)
  · obtain ⟨o, e, c, d⟩ := st
    exact ⟨o, e, fun v z => by rw [d] at z; cases z⟩
  · subst hP hw hK
    obtain ⟨xs, hq⟩ : ∃ xs, SqT X.K H a xs := by
      rcases hg with ⟨xs, _, hq, _⟩ | ⟨xs, hq, _⟩ <;> exact ⟨xs, hq⟩
    obtain ⟨its, rv, p, hz⟩ := I.tuple hq
    have pt : s.heap.IsTuple a its.toArray := p
    have hne : a ≠ it := fun z => by
      obtain ⟨o, e1, c1, _⟩ := pt
      obtain ⟨o2, e2, c2, _⟩ := st
      rw [z] at e1
      have ee := e1.symm.trans e2
      injection ee with ee
      rw [ee, c2] at c1
      exact absurd c1 (by decide)
    have hl := rv.length
    refine ⟨[it, a], its.toArray.size, _, _, Draws.tuple (A := X.A.in1) (show X.A.in1.handled = none from I.ok.hd hc) it a hne its.toArray, ⟨st, pt⟩, fun j h z => z.1, fun _ => trivial, fun b hb => ?_, ?_, ?_⟩
    · have e' : b = it ∨ b = a := by simpa using hb
      rcases e' with z | z
      · exact .inl z
      · obtain ⟨o, e1, c1, _⟩ := pt
        exact .inr ⟨o, by rw [z]; exact e1, c1⟩
    · rintro ⟨ys, hy, e1⟩
      rw [← e1, I.tuple_inj hy hq, hl]
      simp
    · rintro ⟨ys, x, hy, hx⟩
      rw [I.tuple_inj hy hq] at hx
      obtain ⟨u, hu, ru⟩ := rv.get hx
      refine ⟨by
        have := (List.getElem?_eq_some_iff.mp hu).1
        simpa using this, fun u' hu' => ⟨x, ?_, fun T hT => ⟨T, x, rfl, hT, rfl, fun zs hzs => by rw [I.tuple_inj hzs hq]; exact hx⟩⟩⟩
      have e1 : its[i]? = some u' := by simpa using hu'
      rw [hu] at e1
      cases e1
      exact ru
def iEnumT (K : PySem.W.Frag) (ta : TA) : TI := fun σ H R => ta σ H fun vs H1 => ∃ a xs, vs = [.ref a] ∧ SqT K H1 a xs ∧ R (Ity K a) H1
/-- the signs of the text x in new pairs -/
def Itx (x : Str) : It :=
  ⟨fun i _ => i < x.cps.size, fun i H v H' => ∃ T c, v = .ref T ∧ H T = none ∧ H' = upd H T (.tup [.int (i : Nat), .str ⟨#[c]⟩]) ∧ x.cps[i]? = some c, fun i _ => i = x.cps.size⟩
theorem turn_enumS {P : Program} {w : World} {K : PySem.W.Frag} {elts : List Expr} {kk : Nat} {tpos : Pos} (x : Str) (t : Tok) (e it : Addr) :
    Turn P w K (.Tuple elts kk tpos) (Itx x) [e, it] e (fun i h => (∃ old, IsEnum h e it ((i : Nat) : Int) old) ∧ h.IsStrIter it (strIterType x) x t i ∧ e ≠ it) := by
  refine turn_enumD e it (Itx x) (fun i h => h.IsStrIter it (strIterType x) x t i) (fun i h st => ?_) (fun i h h' st k => ?_) (fun X hP hw hK hc i pins s σ H I st hg => ?_)
  · obtain ⟨o, e, c, d⟩ := st
    exact ⟨o, e, fun v z => by rw [d] at z; cases z⟩
  · obtain ⟨o, ho, r⟩ := st
    exact ⟨o, k o ho, r⟩
  · subst hP hw hK
    refine ⟨[it], x.cps.size, _, _, Draws.text (A := X.A.in1) (show X.A.in1.handled = none from I.ok.hd hc) it x t, st, fun j h z => z, fun _ => trivial, fun b hb => .inl (by simpa using hb), fun h => h, fun h => ⟨h, fun u hu => ?_⟩⟩
    obtain ⟨c, u', hc', rfl⟩ := hu
    exact ⟨.str ⟨#[c]⟩, ⟨u', rfl⟩, fun T hT => ⟨T, c, rfl, hT, rfl, hc'⟩⟩
def iEnumS (ta : TA) : TI := fun σ H R => ta σ H fun vs H1 => ∃ x, vs = [.str x] ∧ R (Itx x) H1
section
variable {prog : Program} {w : World} {A : Around} {E : Value → Shared → Prop} {s : Shared}
theorem meets_enumT (l : Addr) (items : Array Value) : Meets (Builtin.«enumerate.__new__» ⟨[.type "enumerate", .ref l], []⟩) (fun _ R s => s.heap.IsTuple l items ∧
      R (.ok (.ret (.ref (s.heap.push { cls := .type "tuple_iterator", data := .fields #[.ref l, .int 0 0] }).objs.size)))
        { s with heap := (s.heap.push { cls := .type "tuple_iterator", data := .fields #[.ref l, .int 0 0] }).push { cls := .type "enumerate", data := .fields #[.none, .bool false, .ref s.heap.objs.size, rawInt 0, .none, .none] } }) :=
  .of_wp fun prog w A R s h => by
    obtain ⟨hp, g, d, tk, os⟩ := s
    obtain ⟨hl, h⟩ := h
    have hsub := sub_enumerate
    wp_walk using wpAny_pyIter_tuple hl
    refine wpAny_stack_any fun st => wpAny_pure ?_
    split
    · rename_i c _ _ _ _ _
      cases (c == Value.type "enumerate")
      · wp_walk using wpAny_pyIter_tuple hl
        exact ⟨_, rfl, h⟩
      · wp_walk using wpAny_pyIter_tuple hl
        exact ⟨_, rfl, h⟩
    · wp_walk using wpAny_pyIter_tuple hl
      exact ⟨_, rfl, h⟩
end
section
variable {prog : Program} {w : World} {A : Around} {E : Value → Shared → Prop} {s : Shared}
theorem call_enumT {l : Addr} {items : Array Value} {Q : Value → Shared → Prop} (hL : s.heap.IsTuple l items)
    (h : ∀ h', IsEnum h' (s.heap.objs.size + 1) s.heap.objs.size 0 .none → h'.IsTupleIter s.heap.objs.size l 0 →
      (∀ b o, s.heap.get? b = some o → h'.get? b = some o) → Q (.ref (s.heap.objs.size + 1)) { s with heap := h' }) :
    wpAny (model prog w) A (call (.type "enumerate") [.ref l]) Q E s := by
  refine callType_new F.called_enumerate (by decide) (F.typeCall_enumerate_1 _) (F.newCall_enumerate_1 _) (fun obj => F.args_object_init_2 obj _) F.entry_enumerate_new (meets_enumT l items) ⟨hL, ?_⟩
  have hz : (s.heap.push { cls := .type "tuple_iterator", data := .fields #[.ref l, .int 0 0] }).objs.size = s.heap.objs.size + 1 := Heap.size_push ..
  show _ ∧ _
  rw [hz]
  have he : IsEnum ((s.heap.push { cls := .type "tuple_iterator", data := .fields #[.ref l, .int 0 0] }).push
      { cls := .type "enumerate", data := .fields #[.none, .bool false, .ref s.heap.objs.size, rawInt 0, .none, .none] }) (s.heap.objs.size + 1) s.heap.objs.size 0 .none := by
    have := Heap.get?_push_size (s.heap.push { cls := .type "tuple_iterator", data := .fields #[.ref l, .int 0 0] })
      (o := { cls := .type "enumerate", data := .fields #[.none, .bool false, .ref s.heap.objs.size, rawInt 0, .none, .none] }) rfl
    rw [hz] at this; exact this
  exact ⟨⟨_, he, rfl⟩, h _ he ⟨_, Heap.get?_push_of_some _ (Heap.get?_push_size _ rfl), rfl, rfl⟩ fun b o x => Heap.get?_push_of_some _ (Heap.get?_push_of_some _ x)⟩
end
theorem pi_enumT {X : Cx} {e : Expr} {ta : TA} {p pos tpos : Pos} {elts : List Expr} {kk : Nat} (hg : Gl X "enumerate") (hm : X.mg "enumerate" = none) (ha : PA X [e] ta) (hs : starEach [e] X.env = [(false, eval e X.env)] := by rfl) :
    PI X (.Tuple elts kk tpos) (.Call (.Name "enumerate" p) [e] [] pos) (iEnumT X.K ta) := by
  refine ⟨fun pins s σ H R I h => ?_⟩
  refine PyProof.Rows.Call_ (ld_blt I hg hm PyProof.Rows.boot_enumerate (PyProof.Rows.callWith_type1 (thn (ha.run pos pins s σ H _ I h) fun us s1 hh => ?_) hs rfl))
  obtain ⟨vs, H1, I1, r1, a, xs, ex, hq, q⟩ := hh
  subst ex
  cases r1 with
  | cons r rr =>
    cases rr
    cases r
    obtain ⟨its, rv, p', hz⟩ := I1.tuple hq
    refine call_enumT (show s1.heap.IsTuple a its.toArray from p') fun h' he hit hk => wpAny_pyIter_enum he ?_
    have I2 : Inv X pins σ H1 { s1 with heap := h' } := I1.kept (t' := s1.toks) hk
    refine ⟨s1.heap.objs.size + 1, [s1.heap.objs.size + 1, s1.heap.objs.size], _, _, H1, rfl, I2, turn_enumT a (s1.heap.objs.size + 1) s1.heap.objs.size, ⟨⟨.none, he⟩, hit, Nat.succ_ne_self _⟩, fun b hb => ?_, q⟩
    have e' : b = s1.heap.objs.size + 1 ∨ b = s1.heap.objs.size := by simpa using hb
    have hle : s1.heap.objs.size ≤ b := by
      rcases e' with z | z
      · rw [z]; exact Nat.le_add_right _ _
      · rw [z]; exact Nat.le_refl _
    exact I1.fpOk hle (I1.hok.fresh hle)
theorem pi_enumS {X : Cx} {e : Expr} {ta : TA} {p pos tpos : Pos} {elts : List Expr} {kk : Nat} (hg : Gl X "enumerate") (hm : X.mg "enumerate" = none) (ha : PA X [e] ta) (hs : starEach [e] X.env = [(false, eval e X.env)] := by rfl) :
    PI X (.Tuple elts kk tpos) (.Call (.Name "enumerate" p) [e] [] pos) (iEnumS ta) := by
  refine ⟨fun pins s σ H R I h => ?_⟩
  refine PyProof.Rows.Call_ (ld_blt I hg hm PyProof.Rows.boot_enumerate (PyProof.Rows.callWith_type1 (thn (ha.run pos pins s σ H _ I h) fun us s1 hh => ?_) hs rfl))
  obtain ⟨vs, H1, I1, r1, x, ex, q⟩ := hh
  subst ex
  cases r1 with
  | cons r rr =>
    cases rr
    obtain ⟨t, rfl⟩ := r
    refine call_enumerate_str fun h' he hit hsz hk => wpAny_pyIter_enum he ?_
    have I2 : Inv X pins σ H1 { s1 with heap := h' } := I1.kept (t' := s1.toks) hk
    refine ⟨s1.heap.objs.size + 1, [s1.heap.objs.size + 1, s1.heap.objs.size], _, _, H1, rfl, I2, turn_enumS x t (s1.heap.objs.size + 1) s1.heap.objs.size, ⟨⟨.none, he⟩, hit, Nat.succ_ne_self _⟩, fun b hb => ?_, q⟩
    have e' : b = s1.heap.objs.size + 1 ∨ b = s1.heap.objs.size := by simpa using hb
    have hle : s1.heap.objs.size ≤ b := by
      rcases e' with z | z
      · rw [z]; exact Nat.le_add_right _ _
      · rw [z]; exact Nat.le_refl _
    exact I1.fpOk hle (I1.hok.fresh hle)
end Y

namespace Y
open PySem PySem.Spec L2 He
/-! ### calls of defs, of classes -/
section
variable {X : Cx} {x : Str} {v : V} {pos : Pos}
theorem pe_gI {i : Int} (hg : Gl X x) (hm : ∃ t, X.mg x = some (.int i t)) (hd : (x == ("__debug__" : Str)) = false := by decide) : PE X (.Name x pos) (tC (.int i)) := by
  obtain ⟨t, h⟩ := hm
  exact pe_glob hg h ⟨t, rfl⟩ hd
theorem pe_gS {z : Str} (hg : Gl X x) (hm : ∃ t, X.mg x = some (.str z t)) (hd : (x == ("__debug__" : Str)) = false := by decide) : PE X (.Name x pos) (tC (.str z)) := by
  obtain ⟨t, h⟩ := hm
  exact pe_glob hg h ⟨t, rfl⟩ hd
end
/-- the def named x keeps the promise sp, at level k -/
def Has (P : Program) (w : World) (K : PySem.W.Frag) (mg : Str → Option Value) (base : Heap) (k : Nat) (x : Str) (sp : Sp) : Prop :=
  ∃ (f : Addr) (fd : FuncData) (ps : List Str), mg x = some (.ref f) ∧ PySem.W.keepIn K (.ref f) = true ∧ Binds K fd ps [] ∧ FnOk P w K mg base (L2.CX P w) k f fd ps sp
theorem pe_has {X : Cx} {W : WX} {k : Nat} {x : Str} {sp : Sp} {e : Expr} {es : List Expr} {t : TA} {p pos : Pos} (G : Has X.prog X.w X.K X.mg X.base k x sp) (hr : Room k X.A) (tk : Takes X W) (hg : Gl X x) (ha : PA X (e :: es) t)
    (hdb : (x == ("__debug__" : Str)) = false := by decide) (he : starEach (e :: es) X.env = (false, eval e X.env) :: starEach es X.env := by rfl) (hpl : (backTo pos (starEach es X.env)).any (·.1) = false := by rfl) :
    PE X (.Call (.Name x p) (e :: es) [] pos) (tCallS sp (WE W) t) := by
  obtain ⟨f, fd, ps, h1, h2, h3, h4⟩ := G
  exact pe_callS h4 hr hg h1 h2 h3 (fun σ => passAt tk σ) ha hdb he hpl
/-- no exception leaves a call -/
theorem passA {X : Cx} : Passes (L2.CX X.prog X.w) X E0 := fun pins σ H s e s' I c => by
  obtain ⟨_, _, _, _, _, _, _, _, _, _, _, _, z⟩ := c
  exact z.elim
/-- the class named x, at C, is made by an __init__ that keeps sp (nothing is let out) -/
def HasC (P : Program) (w : World) (K : PySem.W.Frag) (mg : Str → Option Value) (base : Heap) (k : Nat) (x : Str) (C : Addr) (sp : Sp) : Prop :=
  ∃ (f : Addr) (fd : FuncData) (ps : List Str), mg x = some (.ref C) ∧ Mk K C f ∧ Binds K fd ps [] ∧ FnOk P w K mg base (L2.CX P w) k f fd ps sp
theorem pe_mk' {X : Cx} {k : Nat} {x : Str} {C : Addr} {sp : Sp} {e : Expr} {es : List Expr} {t : TA} {p pos : Pos} (G : HasC X.prog X.w X.K X.mg X.base k x C sp) (hr : Room (k + 1) X.A) (hg : Gl X x) (ha : PA X (e :: es) t)
    (hdb : (x == ("__debug__" : Str)) = false := by decide) (he : starEach (e :: es) X.env = (false, eval e X.env) :: starEach es X.env := by rfl) (hpl : (backTo pos (starEach es X.env)).any (·.1) = false := by rfl) :
    PE X (.Call (.Name x p) (e :: es) [] pos) (tMake C sp [] E0 t) := by
  obtain ⟨f, fd, ps, h1, h2, h3, h4⟩ := G
  exact pe_make h2 h4 hr hg h1 h3 .nil passA ha hdb he hpl
/-- e.f in an except suite, e the caught error -/
def tXfE (K : PySem.W.Frag) (a : Addr) (cls : Value) (d : Option Addr) (f : Str) (te : TE) : TE := fun σ H Q => te σ H fun x H1 => ∃ C : Addr, cls = .ref C ∧ XfC K C ∧ PySem.W.findIn K (.ref C) f = some none ∧ x = .ref a ∧ ∃ (dd : Addr) (fs : List (Str × V)) (v : V), d = some dd ∧ H1 dd = some (.xd fs) ∧ fs.lookup f = some v ∧ Q v H1
theorem pe_xfE {X : Cx} {a : Addr} {oe : Obj} {cls : Value} {d : Option Addr} {pn : List (Addr × Obj)} {e : Expr} {te : TE} {pos : Pos} {n : Str} (hz : Zc cls d oe) (hf : ∃ vs, oe.data = .fields vs) (he : PE (X.suite a ((a, oe) :: pn)) e te) (hb : attributeBase e n X.env (eval e X.env) = eval e X.env := by rfl) :
    PE (X.suite a ((a, oe) :: pn)) (.Attribute e n pos) (tXfE X.K a cls d n te) := by
  refine ⟨fun pins s σ H Q I h => ?_⟩
  refine attr_of hb (thn (he.run pins s σ H _ I h) fun u s1 hh => ?_)
  obtain ⟨x, H1, I1, rx, C, ec, T, hno, ex, dd, fs, v, ed, ea, l, q⟩ := hh
  subst ex ec ed
  obtain rfl : u = Value.ref a := rx
  obtain ⟨ha, _⟩ := I1.pin (a, oe) (List.mem_append_left _ List.mem_cons_self)
  obtain ⟨vs, hd⟩ := hf
  have hx : ObjOk X.prog X.w H1 s1.heap dd (.xd fs) := I1.hok dd _ ea
  obtain ⟨mA, hns, hr⟩ := hx
  obtain ⟨od, ho, hl⟩ := lookIn_ns hns
  obtain ⟨u, hu, ru⟩ := RelO.some_of (v := v) (o := mA n) (by rw [← l]; exact hr n)
  have J : PySem.W.InstAt s1.heap a oe C (some od) := ⟨ha, hz.1, by unfold PySem.W.notCls; rw [hd] <;> rfl, by rw [hz.2]; exact ho⟩
  exact HandSPX.exc_get I1.kIn J T.ga T.gg T.exC (PySem.W.findObj_own T.hdC hno rfl (by rw [hl, hu])) (handed_of ru) ⟨v, H1, I1.tok _, ru, q⟩
/-- THE RULE for a def of the head's -/
theorem has_of {P : Program} {w : World} {K : PySem.W.Frag} {mg : Str → Option Value} {base : Heap} {x qual : Str} {params : Arguments} {body : List Stmt} {scope : Scope} {f : Addr} {N ps : List Str} {k : Nat} {sp : Sp}
    (F : ∃ fd, FunD K x qual params body scope [] [] f fd) (g : mg x = some (.ref f)) (S : FnScope N ps scope)
    (hb : ∀ (kV doc pm : Value) (an : Option Addr) (cdv ct : Value) (us : List Value), us.length = ps.length → bindArgs (PySem.W.fnOf x qual params body scope .none kV doc pm an cdv ct) ⟨us, []⟩ = pure (ps.zip us))
    (len : ∀ vs H Q E, sp vs H Q E → vs.length = ps.length)
    (hbody : ∀ (f : Addr) (cdv : Value) (A : Around) (outer : List Env) (s : Shared) (H : Hp) (vs : List V) (Q : VK) (E : XK), Room k (A.deeper (PyProof.Rows.envOfC qual scope s.heap.objs.size f cdv)) → sp vs H Q E →
      ∃ t, PSs (cxOf (L2.CX P w) P w K mg base N qual scope f cdv A outer s H E) body t ∧ t { nx := fun _ H' => Q .non H', rt := Q } (start N vs) H) : Has P w K mg base (k + 1) x sp := by
  obtain ⟨fd, F⟩ := F
  exact ⟨f, fd, ps, g, F.kp, F.bindsN hb, F.ok S len fun cdv A outer s H vs Q E hr h => hbody f cdv A outer s H vs Q E hr h⟩
/-- .. of an __init__ -/
theorem hasC_of {P : Program} {w : World} {K : PySem.W.Frag} {mg : Str → Option Value} {base : Heap} {x qual : Str} {C : Addr} {params : Arguments} {body : List Stmt} {scope : Scope} {f : Addr} {N ps : List Str} {k : Nat} {sp : Sp}
    (F : ∃ fd, FunD K "__init__" qual params body scope [] [] f fd) (g : mg x = some (.ref C)) (M : Mk K C f) (S : FnScope N ps scope)
    (hb : ∀ (kV doc pm : Value) (an : Option Addr) (cdv ct : Value) (us : List Value), us.length = ps.length → bindArgs (PySem.W.fnOf "__init__" qual params body scope .none kV doc pm an cdv ct) ⟨us, []⟩ = pure (ps.zip us))
    (len : ∀ vs H Q E, sp vs H Q E → vs.length = ps.length)
    (hbody : ∀ (f : Addr) (cdv : Value) (A : Around) (outer : List Env) (s : Shared) (H : Hp) (vs : List V) (Q : VK) (E : XK), Room k (A.deeper (PyProof.Rows.envOfC qual scope s.heap.objs.size f cdv)) → sp vs H Q E →
      ∃ t, PSs (cxOf (L2.CX P w) P w K mg base N qual scope f cdv A outer s H E) body t ∧ t { nx := fun _ H' => Q .non H', rt := Q } (start N vs) H) : HasC P w K mg base (k + 1) x C sp := by
  obtain ⟨fd, F⟩ := F
  exact ⟨f, fd, ps, g, M, F.bindsN hb, F.ok S len fun cdv A outer s H vs Q E hr h => hbody f cdv A outer s H vs Q E hr h⟩
theorem Has.mono {P : Program} {w : World} {K : PySem.W.Frag} {mg : Str → Option Value} {base : Heap} {j k : Nat} {x : Str} {sp : Sp} (G : Has P w K mg base j x sp) (h : j ≤ k) : Has P w K mg base k x sp := by
  obtain ⟨f, fd, ps, h1, h2, h3, h4⟩ := G
  exact ⟨f, fd, ps, h1, h2, h3, h4.mono h⟩
/-! ### heaps: D the frozen part of H, m what a def may change -/
structure Gr (m : Addr → Prop) (D H D' H' : Hp) : Prop where
  same : ∀ b o, ¬ m b → H b = some o → H' b = some o
  kept : ∀ b, H' b = none → H b = none
  dd : Same D D'
  sub : Same D' H'
  new : ∀ b o, D' b = some o → D b = some o ∨ H b = none
abbrev No : Addr → Prop := fun _ => False
section
variable {m m' : Addr → Prop} {D H D1 H1 D2 H2 : Hp} {p : Addr} {o : HO}
theorem Gr.refl (h : Same D H) : Gr m D H D H := ⟨fun _ _ _ e => e, fun _ e => e, Same.refl D, h, fun _ _ e => .inl e⟩
theorem Gr.trans (a : Gr m D H D1 H1) (b : Gr m D1 H1 D2 H2) : Gr m D H D2 H2 where
  same := fun x u hm e => b.same x u hm (a.same x u hm e)
  kept := fun x e => a.kept x (b.kept x e)
  dd := a.dd.trans b.dd
  sub := b.sub
  new := fun x u e => (b.new x u e).elim (a.new x u) fun z => .inr (a.kept x z)
theorem Gr.weak (a : Gr m D H D1 H1) (h : ∀ b, m b → m' b) : Gr m' D H D1 H1 := ⟨fun b o hm => a.same b o fun z => hm (h b z), a.kept, a.dd, a.sub, a.new⟩
theorem Gr.no (a : Gr No D H D1 H1) : Gr m D H D1 H1 := a.weak fun _ z => z.elim
theorem Gr.all (a : Gr No D H D1 H1) : Same H H1 := fun b o e => a.same b o (fun z => z) e
/-- a new object, not frozen -/
theorem Gr.lay (a : Gr m D H D1 H1) (h : H1 p = none) : Gr m D H D1 (upd H1 p o) where
  same := fun b u hm e => by
    have e1 := a.same b u hm e
    rw [upd_ne (ne_of_none e1 h)]
    exact e1
  kept := fun b e => a.kept b (by
    by_cases hb : b = p
    · rw [hb, upd_same] at e; cases e
    · rw [upd_ne hb] at e; exact e)
  dd := a.dd
  sub := fun b u e => by
    have e1 := a.sub b u e
    rw [upd_ne (ne_of_none e1 h)]
    exact e1
  new := a.new
/-- a new object, frozen at once -/
theorem Gr.ice (a : Gr m D H D1 H1) (h : H1 p = none) : Gr m D H (upd D1 p o) (upd H1 p o) where
  same := (a.lay h).same
  kept := (a.lay h).kept
  dd := fun b u e => by
    have e1 := a.sub b u (a.dd b u e)
    rw [upd_ne (ne_of_none e1 h)]
    exact a.dd b u e
  sub := fun b u e => by
    by_cases hb : b = p
    · subst hb; rw [upd_same] at e ⊢; exact e
    · rw [upd_ne hb] at e ⊢; exact a.sub b u e
  new := fun b u e => by
    by_cases hb : b = p
    · subst hb; exact .inr (a.kept b h)
    · rw [upd_ne hb] at e; exact a.new b u e
/-- a local object is frozen -/
theorem Gr.cold (a : Gr m D H D1 H1) (h : H1 p = some o) (h0 : H p = none) : Gr m D H (upd D1 p o) H1 where
  same := a.same
  kept := a.kept
  dd := fun b u e => by
    by_cases hb : b = p
    · subst hb
      have e1 := a.sub b u (a.dd b u e)
      rw [h] at e1
      rw [upd_same]
      exact e1
    · rw [upd_ne hb]; exact a.dd b u e
  sub := fun b u e => by
    by_cases hb : b = p
    · subst hb; rw [upd_same] at e; rw [h]; exact e
    · rw [upd_ne hb] at e; exact a.sub b u e
  new := fun b u e => by
    by_cases hb : b = p
    · subst hb; exact .inr h0
    · rw [upd_ne hb] at e; exact a.new b u e
/-- a local object is changed -/
theorem Gr.put (a : Gr m D H D1 H1) (h : D1 p = none) (h0 : H p = none ∨ m p) : Gr m D H D1 (upd H1 p o) where
  same := fun b u hm e => by
    have hb : b ≠ p := fun z => by
      subst z
      rcases h0 with h0 | h0
      · rw [h0] at e; cases e
      · exact hm h0
    rw [upd_ne hb]
    exact a.same b u hm e
  kept := fun b e => a.kept b (by
    by_cases hb : b = p
    · rw [hb, upd_same] at e; cases e
    · rw [upd_ne hb] at e; exact e)
  dd := a.dd
  sub := fun b u e => by
    rw [upd_ne (ne_of_none e h)]
    exact a.sub b u e
  new := a.new
/-- what is tracked and not frozen stays unfrozen -/
theorem Gr.stay (a : Gr m D H D1 H1) (h : D p = none) (h1 : H p = some o) : D1 p = none := by
  cases e : D1 p with
  | none => rfl
  | some u =>
    rcases a.new p u e with z | z
    · rw [h] at z; cases z
    · rw [h1] at z; cases z
theorem Gr.free (a : Gr m D H D1 H1) (h : H1 p = none) : D1 p = none := by
  cases e : D1 p with
  | none => rfl
  | some u =>
    have z := a.sub p u e
    rw [h] at z; cases z
theorem sub_free (a : Same D H) (h : H p = none) : D p = none := Same.free a h
end
/-! ### data -/
mutual
theorem Dp.mono {K : PySem.W.Frag} {H H' : Hp} (e : Same H H') : ∀ {d : PyData} {v : V}, Dp K H v d → Dp K H' v d
  | .none, _, h => by cases h; exact .non
  | .bool b, _, h => by cases h; exact .bl b
  | .int i, _, h => by cases h; exact .int i
  | .str x, _, h => by cases h; exact .str x
  | .list ds, _, h => by
    cases h with
    | lst hs ha => exact .lst (e.seq hs) (Dp.monoAll e ha)
  | .tuple ds, _, h => by
    cases h with
    | tup hs ha => exact .tup (same_seqT e hs) (Dp.monoAll e ha)
  | .dict _, _, h => by cases h
theorem Dp.monoAll {K : PySem.W.Frag} {H H' : Hp} (e : Same H H') : ∀ {ds : List PyData} {vs : List V}, DpAll K H vs ds → DpAll K H' vs ds
  | [], _, h => by cases h; exact .nil
  | _ :: _, _, h => by
    cases h with
    | cons h1 h2 => exact .cons (Dp.mono e h1) (Dp.monoAll e h2)
theorem same_seqT {K : PySem.W.Frag} {H H' : Hp} {a : Addr} {xs : List V} (e : Same H H') (h : SqT K H a xs) : SqT K H' a xs := by
  rcases h with (h | ⟨o, h⟩) | h
  · exact .inl (.inl (e _ _ h))
  · exact .inl (.inr ⟨o, e _ _ h⟩)
  · exact .inr h
end
end Y

namespace Y
open PySem PySem.Spec L2 He
/-! ### what is never reached -/
section
variable {X : Cx}
theorem ps_dead {s : Stmt} : PS X s (fun _ _ _ => False) := ⟨fun _ _ _ _ _ _ h => h.elim⟩
theorem pss_dead {s : List Stmt} : PSs X s (fun _ _ _ => False) := ⟨fun _ _ _ _ _ _ h => h.elim⟩
theorem pe_dead {e : Expr} : PE X e (fun _ _ _ => False) := ⟨fun _ _ _ _ _ _ h => h.elim⟩
end
/-! ### walks -/
theorem walk_enumT {K : PySem.W.Frag} {a : Addr} {xs : List V} : Walk (Ity K a) xs.length (fun H => SqT K H a xs) (YPair (fun i => some (.int (i : Nat))) (fun i => xs[i]?)) := by
  refine ⟨fun i _ hi q => ⟨xs, xs[i], q, by simp [hi]⟩, fun _ q => ⟨xs, q, rfl⟩, fun i H v H' _ q y => ?_⟩
  obtain ⟨T, x, h1, h2, h3, h4⟩ := y
  exact ⟨T, .int (i : Nat), x, h1, h2, h3, rfl, h4 xs q⟩
theorem walk_enumS {z : Str} : Walk (Itx z) z.cps.size (fun _ => True) (YPair (fun i => some (.int (i : Nat))) (fun i => z.cps[i]?.map fun c => V.str ⟨#[c]⟩)) := by
  refine ⟨fun i _ hi _ => hi, fun _ _ => rfl, fun i H v H' _ _ y => ?_⟩
  obtain ⟨T, c, h1, h2, h3, h4⟩ := y
  refine ⟨T, .int (i : Nat), _, h1, h2, h3, rfl, ?_⟩
  show z.cps[i]?.map _ = _
  rw [h4]
  rfl
/-! ### a comprehension, the heap by Gr -/
structure LcP (m : Addr → Prop) (D1 H1 : Hp) (p : Addr) (R : List V → Hp → Prop) (H : Hp) : Prop where
  ex : ∃ D2 acc, Gr m D1 H1 D2 H ∧ H p = some (.lst acc) ∧ D2 p = none ∧ R acc D2
theorem lc_put {m : Addr → Prop} {D1 H1 D2 H D4 H4 : Hp} {p : Addr} {R : List V → Hp → Prop} {acc : List V} {y : V} (hp : H1 p = none) (hm : ¬ m p) (g : Gr m D1 H1 D2 H) (ha : H p = some (.lst acc)) (hD : D2 p = none)
    (g4 : Gr m D2 H D4 H4) (hl : acc.length < sizeLine) (r : R (acc ++ [y]) D4) : ∃ acc, H4 p = some (.lst acc) ∧ acc.length < sizeLine ∧ LcP m D1 H1 p R (upd H4 p (.lst (acc ++ [y]))) := by
  have h4 := g4.same p _ hm ha
  have d4 := g4.stay hD ha
  exact ⟨acc, h4, hl, ⟨D4, acc ++ [y], (g.trans g4).put d4 (.inl hp), upd_same, d4, r⟩⟩
theorem lc_skip {m : Addr → Prop} {D1 H1 D2 H D4 H4 : Hp} {p : Addr} {R : List V → Hp → Prop} {acc : List V} (hm : ¬ m p) (g : Gr m D1 H1 D2 H) (ha : H p = some (.lst acc)) (hD : D2 p = none)
    (g4 : Gr m D2 H D4 H4) (r : R acc D4) : LcP m D1 H1 p R H4 :=
  ⟨D4, acc, g.trans g4, g4.same p _ hm ha, g4.stay hD ha, r⟩
/-- a for over J, ready to be walked; a comprehension -/
def Lp (g : TG) (tb : TS) (D : Ends) (J : It) (σ : L2.St) (H : Hp) : Prop := ∃ W : Nat → Nat → L2.St → Hp → Prop, (∃ m, W 0 m σ H) ∧ ∀ i m σ H, W i m σ H →
  (J.stop i H ∧ D.nx σ H) ∨ (J.go i H ∧ ∃ N : L2.St → Hp → Prop, (∀ σ' H', N σ' H' → ∃ m', m' < m ∧ W (i + 1) m' σ' H') ∧ ∀ x H', J.yld i H x H' → g x σ H' fun σ2 H2 => tb { D with nx := N, ct := N, bk := D.nx } σ2 H2)
def Lq (g : TG) (tt : TT) (te : TE) (vs : List Nat) (J : It) (σ : L2.St) (H1 : Hp) (p : Addr) (Qd : Hp → Prop) : Prop := ∃ W : Nat → Nat → Hp → Prop, (∃ m, W 0 m (upd H1 p (.lst []))) ∧ ∀ i m H, W i m H →
  (J.stop i H ∧ Qd H) ∨ (J.go i H ∧ ∃ Nx : Hp → Prop, (∀ H', Nx H' → ∃ m', m' < m ∧ W (i + 1) m' H') ∧ ∀ x H', J.yld i H x H' → g x (wipe σ vs) H' fun σ2 H2 => wipe σ2 vs = wipe σ vs ∧ tt σ2 H2 fun b H3 =>
    if b = true then te σ2 H3 fun y H4 => ∃ acc, H4 p = some (.lst acc) ∧ acc.length < sizeLine ∧ Nx (upd H4 p (.lst (acc ++ [y]))) else Nx H3)
section
variable {J : It} {n : Nat} {G : Hp → Prop} {Y : Nat → Hp → V → Hp → Prop}
theorem lp_it (w : Walk J n G Y) {g : TG} {tb : TS} {D : Ends} {σ : L2.St} {H : Hp} (Pv : Nat → L2.St → Hp → Prop) (h0 : Pv 0 σ H) (hG : ∀ i σ H, i ≤ n → Pv i σ H → G H)
    (hs : ∀ i x σ H H', i < n → Pv i σ H → Y i H x H' → g x σ H' fun σ2 H2 => tb { D with nx := Pv (i + 1), ct := Pv (i + 1), bk := D.nx } σ2 H2) (hd : ∀ σ H, Pv n σ H → D.nx σ H) : Lp g tb D J σ H := for_it w Pv h0 hG hs hd
theorem lq_gr (w : Walk J n G Y) {g : TG} {tt : TT} {te : TE} {vs : List Nat} {σ : L2.St} {H1 : Hp} {p : Addr} {Qd : Hp → Prop} {m : Addr → Prop} (D1 : Hp)
    (R : Nat → List V → Hp → Prop) (hp : H1 p = none) (h1 : Same D1 H1) (r0 : R 0 [] D1) (hG : ∀ D2 H, Gr m D1 H1 D2 H → G H)
    (hs : ∀ i x acc D2 H H', i < n → Gr m D1 H1 D2 H → H p = some (.lst acc) → D2 p = none → R i acc D2 → Y i H x H' → g x (wipe σ vs) H' fun σ2 H2 => wipe σ2 vs = wipe σ vs ∧ tt σ2 H2 fun b H3 =>
      if b = true then te σ2 H3 fun y H4 => ∃ acc, H4 p = some (.lst acc) ∧ acc.length < sizeLine ∧ LcP m D1 H1 p (R (i + 1)) (upd H4 p (.lst (acc ++ [y]))) else LcP m D1 H1 p (R (i + 1)) H3)
    (hd : ∀ acc D2 H, Gr m D1 H1 D2 H → H p = some (.lst acc) → D2 p = none → R n acc D2 → Qd H) : Lq g tt te vs J σ H1 p Qd := by
  refine lc_it w (fun i H => LcP m D1 H1 p (R i) H) ⟨D1, [], (Gr.refl h1).lay hp, upd_same, (Gr.refl (m := m) h1).free hp, r0⟩ (fun i H _ q => ?_) (fun i x H H' hi q y => ?_) (fun H q => ?_)
  · obtain ⟨D2, acc, g, ha, hD, r⟩ := q
    exact hG D2 H g
  · obtain ⟨D2, acc, g, ha, hD, r⟩ := q
    exact hs i x acc D2 H H' hi g ha hD r y
  · obtain ⟨D2, acc, g, ha, hD, r⟩ := q
    exact hd acc D2 H g ha hD r
/-- .. each item a value that is told beforehand, the heap stays -/
theorem lq_map (w : Walk J n G Y) {g : TG} {tt : TT} {te : TE} {vs : List Nat} {σ : L2.St} {H1 : Hp} {p : Addr} {Qd : Hp → Prop} (ys : List V) (hn : ys.length = n) (hz : n ≤ sizeLine)
    (hp : H1 p = none) (hG : ∀ acc, G (upd H1 p (.lst acc)))
    (hs : ∀ i x acc H' (N : Hp → Prop), i < n → Y i (upd H1 p (.lst acc)) x H' → ((y : V) → ys[i]? = some y → N (upd H1 p (.lst (acc ++ [y])))) → (acc.length < sizeLine) → g x (wipe σ vs) H' fun σ2 H2 => wipe σ2 vs = wipe σ vs ∧ tt σ2 H2 fun b H3 =>
      if b = true then te σ2 H3 fun y H4 => ∃ acc, H4 p = some (.lst acc) ∧ acc.length < sizeLine ∧ N (upd H4 p (.lst (acc ++ [y]))) else N H3)
    (hd : Qd (upd H1 p (.lst ys))) : Lq g tt te vs J σ H1 p Qd := by
  refine lc_it w (fun i H => H = upd H1 p (.lst (ys.take i))) (by rw [List.take_zero]) (fun i H _ q => by rw [q]; exact hG _) (fun i x H H' hi q y => ?_) (fun H q => ?_)
  · subst q
    refine hs i x _ H' _ hi y (fun v e => ?_) ?_
    · rw [List.take_add_one, e]
      rfl
    · rw [List.length_take, hn]
      omega
  · rw [q, ← hn, List.take_length]
    exact hd
theorem lq_put {H1 : Hp} {p : Addr} {acc : List V} {y : V} {N : Hp → Prop} (hl : acc.length < sizeLine) (k : N (upd H1 p (.lst (acc ++ [y])))) :
    ∃ acc', (upd H1 p (.lst acc)) p = some (.lst acc') ∧ acc'.length < sizeLine ∧ N (upd (upd H1 p (.lst acc)) p (.lst (acc' ++ [y]))) := ⟨acc, upd_same, hl, by rw [upd_upd]; exact k⟩
end
/-! ### more steps -/
section
variable {K : PySem.W.Frag} {σ : L2.St} {H : Hp} {Q : VK} {v x y : V} {ta tb tc te : TE} {t u : TT} {a b : Addr} {D : Ends} {n m : Int} {s z : Str} {R : It → Hp → Prop}
theorem s_for {wi : TI} {g : TG} {tb : TS} (k : wi σ H fun J H1 => Lp g tb D J σ H1) : tFor wi g tb D σ H := k
theorem s_lc {wi : TI} {g : TG} {tt : TT} {vs : List Nat} (k : wi σ H fun J H1 => ∀ p, H1 p = none → Lq g tt te vs J σ H1 p (fun H2 => Q (.ref p) H2)) : tLc wi g tt te vs σ H Q := k
theorem s_iStr (k : te σ H fun v H1 => ∃ x, v = .str x ∧ R (Its x) H1) : iStr te σ H R := k
theorem s_iList (k : te σ H fun x H1 => ∃ a, x = .ref a ∧ (∃ xs, SqL K H1 a xs) ∧ R (Itl K a) H1) : iList K te σ H R := k
theorem s_iTup (k : te σ H fun x H1 => ∃ a, x = .ref a ∧ (∃ xs, SqT K H1 a xs) ∧ R (Itt K a) H1) : iTup K te σ H R := k
theorem s_iR1 {ta : TA} (k : ta σ H fun vs H1 => ∃ j : Int, vs = [.int j] ∧ -(2 ^ 62) ≤ j ∧ j < 2 ^ 62 ∧ R (Itr 0 j.toNat) H1) : iRng1 ta σ H R := k
theorem s_iR2 {ta : TA} (k : ta σ H fun vs H1 => ∃ i j : Int, vs = [.int i, .int j] ∧ (-(2 ^ 62) ≤ i ∧ i < 2 ^ 62 ∧ -(2 ^ 62) ≤ j ∧ j < 2 ^ 62) ∧ R (Itr i (j - i).toNat) H1) : iRng2 ta σ H R := k
theorem s_iE {ta : TA} (k : ta σ H fun vs H1 => ∃ a xs, vs = [.ref a] ∧ SqL K H1 a xs ∧ R (Ite K a) H1) : iEnum K ta σ H R := k
theorem s_iET {ta : TA} (k : ta σ H fun vs H1 => ∃ a xs, vs = [.ref a] ∧ SqT K H1 a xs ∧ R (Ity K a) H1) : iEnumT K ta σ H R := k
theorem s_iES {ta : TA} (k : ta σ H fun vs H1 => ∃ x, vs = [.str x] ∧ R (Itx x) H1) : iEnumS ta σ H R := k
theorem s_make {C : Addr} {sp : Sp} {dvs : List V} {E : XK} {t : TA} (k : t σ H fun vs H1 => ∀ x dx, H1 x = none → H1 dx = none → dx ≠ x →
  sp (.ref x :: (vs ++ dvs)) (upd (upd H1 dx (.own x)) x (.ins C dx [])) (fun v H2 => v = .non ∧ Q (.ref x) H2) E) : tMake C sp dvs E t σ H Q := k
theorem s_fld {f : Str} (k : ta σ H fun x H1 => ∃ a C dx fs v, x = .ref a ∧ H1 a = some (.ins C dx fs) ∧ Cls K C ∧ NoAttr K C f ∧ fs.lookup f = some v ∧ Q v H1) : tFld K ta f σ H Q := k
theorem s_sFld {f : Str} {tv : TE} (k : tv σ H fun y H1 => ta σ H1 fun x H2 => ∃ a C dx fs, x = .ref a ∧ H2 a = some (.ins C dx fs) ∧ Cls K C ∧ NoAttr K C f ∧ fs.length < 1000 ∧ D.nx σ (upd H2 a (.ins C dx (putF f y fs)))) : sFld K ta tv f D σ H := k
theorem s_rz {C : Addr} {fs : List Str} {ta : TA} {Q : XK} (k : ta σ H fun vs H1 => vs.length = fs.length ∧ vs.length ≤ 1000 ∧ ∀ d, H1 d = none → Q (.ref C) (some d) (upd H1 d (.xd (fs.zip vs).reverse))) : tRz C fs ta σ H Q := k
theorem s_po {Q : Option Int → Hp → Prop} (k : te σ H fun x H1 => ∃ i, x = .int i ∧ Q (some i) H1) : tPart te σ H Q := k
theorem s_xb {Q : Bool → Prop} {c : Bool} (k : Q c) : ∃ k, V.bl c = .bl k ∧ Q k := ⟨c, rfl, k⟩
theorem s_xi {Q : Int → Prop} {c : Int} (k : Q c) : ∃ k, V.int c = .int k ∧ Q k := ⟨c, rfl, k⟩
theorem s_xs {Q : Str → Prop} {c : Str} (k : Q c) : ∃ k, V.str c = .str k ∧ Q k := ⟨c, rfl, k⟩
theorem s_xr {Q : Addr → Prop} {c : Addr} (k : Q c) : ∃ k, V.ref c = .ref k ∧ Q k := ⟨c, rfl, k⟩
theorem jtT {A B : Prop} {i : Decidable (true = true)} (k : A) : @ite Prop (true = true) i A B := by
  rw [if_pos rfl]
  exact k
theorem jtF {A B : Prop} {i : Decidable (false = true)} (k : B) : @ite Prop (false = true) i A B := by
  rw [if_neg Bool.false_ne_true]
  exact k
theorem jtD {p A B : Prop} {j : Decidable p} {i : Decidable (@decide p j = true)} (h1 : p → A) (h2 : ¬ p → B) : @ite Prop (@decide p j = true) i A B := ite2 (fun e => h1 (of_decide_eq_true e)) fun e => h2 fun z => e (decide_eq_true z)
theorem jtN {p A B : Prop} {j : Decidable p} {i : Decidable ((!@decide p j) = true)} (h1 : ¬ p → A) (h2 : p → B) : @ite Prop ((!@decide p j) = true) i A B := by
  by_cases h : p
  · rw [if_neg (by simp [h])]; exact h2 h
  · rw [if_pos (by simp [h])]; exact h1 h
theorem jtB {b : Bool} {A B : Prop} {i : Decidable (b = true)} (h1 : b = true → A) (h2 : b = false → B) : @ite Prop (b = true) i A B := by
  cases b
  · exact jtF (h2 rfl)
  · exact jtT (h1 rfl)
theorem jtNB {b : Bool} {A B : Prop} {i : Decidable ((!b) = true)} (h1 : b = false → A) (h2 : b = true → B) : @ite Prop ((!b) = true) i A B := by
  cases b
  · exact jtT (h1 rfl)
  · exact jtF (h2 rfl)
end
end Y

namespace Y
open PySem PySem.Spec L2 He
/-- an own error class with fields, by its __init__'s rows behind super().__init__('..') -/
theorem rz_of {P : Program} {w : World} {K : PySem.W.Frag} {mg : Str → Option Value} {base : Heap} {x : Str} {C f : Addr} {name qual : Str} {params : Arguments} {scope : Scope} {N ps fs : List Str} {ar : Arg} {rest : List Stmt} {m : Str} {j : Nat} {p0 p1 ap cp p2 rp : Pos}
    (I : ∃ fd, IniF P K mg C f name qual params (.Expr (.Call (.Attribute (.Call (.Name "super" p0) [] [] p1) "__init__" ap) [.Constant (.str m) j p2] [] cp) rp :: rest) scope fd) (g : mg x = some (.ref C)) (T : OexC K C) (S : IniScope N ps scope)
    (hp : (params.posonlyargs ++ params.args).head? = some ar) (hN : N[0]? = some ar.arg) (hps : ar.arg ∈ ps)
    (hev : ∀ env : Env, ∃ pl : Sem Bool, eval (.Call (.Attribute (.Call (.Name "super" p0) [] [] p1) "__init__" ap) [.Constant (.str m) j p2] [] cp) env = (do
        let ov ← attributeBase (.Call (.Name "super" p0) [] [] p1) "__init__" env (eval (.Call (.Name "super" p0) [] [] p1) env)
        standAt ap.atName
        let (f, first) ← holding [ov] (getMethod ov "__init__" pl)
        callWith cp f first (backTo cp (starEach [.Constant (.str m) j p2] env)) []))
    (hl : ps.length = fs.length + 1)
    (hb : ∀ (kV doc pm : Value) (an : Option Addr) (cdv ct : Value) (cc : Addr) (us : List Value), us.length = ps.length → bindArgs (iniFd name qual params (.Expr (.Call (.Attribute (.Call (.Name "super" p0) [] [] p1) "__init__" ap) [.Constant (.str m) j p2] [] cp) rp :: rest) scope .none kV doc pm an cdv ct cc) ⟨us, []⟩ = pure (ps.zip us))
    (hbody : ∀ (kV doc pm : Value) (an : Option Addr) (cdv ct : Value) (cc : Addr) (A : Around) (outer : List Env) (s : Shared) (H : Hp) (a : Addr) (ws : List V) (Q : VK) (E : XK), ws.length = fs.length → H a = some (exo a C none) →
      (∀ dx, H dx = none → dx ≠ a → Q .non (upd (upd H dx (exd dx (fs.zip ws).reverse)) a (exo a C (some dx)))) →
      ∃ t, PSs (cxI CX0 P w K mg base N (iniFd name qual params (.Expr (.Call (.Attribute (.Call (.Name "super" p0) [] [] p1) "__init__" ap) [.Constant (.str m) j p2] [] cp) rp :: rest) scope .none kV doc pm an cdv ct cc) f A outer s H E) rest t ∧ t { nx := fun _ H' => Q .non H', rt := Q } (start N (.ref a :: ws)) H) :
    Rz P w K mg base x C fs := by
  obtain ⟨fd, F⟩ := I
  have F1 : FnOk P w K mg base CX0 (0 + 1) f fd ps (spIni C fs) := by
    refine fn_ini (x := "") F T S hp hN hps hev (fun vs H Q E h => ?_) (fun vs H Q E h => ?_) (fun A outer s H vs Q E hr h => ?_)
    · obtain ⟨a, ws, rfl, hw, _⟩ := h
      rw [List.length_cons, hw, hl]
    · obtain ⟨a, ws, rfl, hw, ha, _⟩ := h
      exact ⟨a, ws, rfl, ha⟩
    · obtain ⟨a, ws, rfl, hw, ha, q⟩ := h
      obtain ⟨oc, od, kV, doc, pm, an, cda, ct, osl, cc, ocl, oco, vs, tf, rfl, _⟩ := F.ex
      exact hbody kV doc pm an _ ct cc A outer s H a ws Q E hw ha q
  refine ⟨g, T, f, fd, ps, F1, ?_, F.init, F.typ⟩
  obtain ⟨oc, od, kV, doc, pm, an, cda, ct, osl, cc, ocl, oco, vs, tf, rfl, _⟩ := F.ex
  exact .all fun us hu => hb kV doc pm an _ ct cc us hu
end Y

namespace Y
open PySem PySem.Spec L2 He
/-! ### data: lists of ints, of texts, of rows -/
abbrev dIs (ns : List Int) : List PyData := ns.map PyData.int
abbrev dSs (zs : List Str) : List PyData := zs.map PyData.str
abbrev dL (ns : List Int) : PyData := .list (dIs ns)
abbrev dT (ns : List Int) : PyData := .tuple (dIs ns)
abbrev dLL (rows : List (List Int)) : PyData := .list (rows.map dL)
abbrev dTT (rows : List (List Int)) : PyData := .tuple (rows.map dT)
section
variable {K : PySem.W.Frag} {D H D' H' D1 H1 D2 H2 : Hp} {a b p : Addr} {xs ys : List V} {ds es : List PyData} {x y v : V} {d : PyData} {ns : List Int} {zs : List Str} {rows : List (List Int)} {m : Addr → Prop}
theorem dpl_len : ∀ {xs : List V} {ds : List PyData}, DpAll K D xs ds → xs.length = ds.length
  | _, _, .nil => rfl
  | _, _, .cons _ h => congrArg (· + 1) (dpl_len h)
theorem dpl_get : ∀ {xs : List V} {ds : List PyData} {i : Nat} {x : V}, DpAll K D xs ds → xs[i]? = some x → ∃ d, ds[i]? = some d ∧ Dp K D x d
  | _, _, 0, _, .cons h _, e => ⟨_, rfl, by cases e; exact h⟩
  | _, _, i + 1, _, .cons _ h, e => dpl_get (i := i) h e
theorem dpl_getR : ∀ {xs : List V} {ds : List PyData} {i : Nat} {d : PyData}, DpAll K D xs ds → ds[i]? = some d → ∃ x, xs[i]? = some x ∧ Dp K D x d
  | _, _, 0, _, .cons h _, e => ⟨_, rfl, by cases e; exact h⟩
  | _, _, i + 1, _, .cons _ h, e => dpl_getR (i := i) h e
theorem dpl_snoc : ∀ {xs : List V} {ds : List PyData}, DpAll K D xs ds → Dp K D x d → DpAll K D (xs ++ [x]) (ds ++ [d])
  | _, _, .nil, h => .cons h .nil
  | _, _, .cons h1 h2, h => .cons h1 (dpl_snoc h2 h)
theorem dpl_ints : ∀ {ns : List Int} {xs : List V}, DpAll K D xs (dIs ns) → xs = ns.map V.int
  | [], _, .nil => rfl
  | n :: ns, _, .cons h1 h2 => by
    cases h1
    rw [dpl_ints h2]
    rfl
theorem dpl_of_ints : ∀ {ns : List Int}, DpAll K D (ns.map V.int) (dIs ns)
  | [] => .nil
  | n :: ns => .cons (.int n) dpl_of_ints
theorem dpl_strs : ∀ {zs : List Str} {xs : List V}, DpAll K D xs (dSs zs) → xs = zs.map V.str
  | [], _, .nil => rfl
  | n :: ns, _, .cons h1 h2 => by
    cases h1
    rw [dpl_strs h2]
    rfl
theorem dpl_of_strs : ∀ {zs : List Str}, DpAll K D (zs.map V.str) (dSs zs)
  | [] => .nil
  | n :: ns => .cons (.str n) dpl_of_strs
theorem dp_list (h : Dp K D v (.list ds)) : ∃ a xs, v = .ref a ∧ SqL K D a xs ∧ DpAll K D xs ds := by
  cases h with
  | lst hs ha => exact ⟨_, _, rfl, hs, ha⟩
theorem dp_tuple (h : Dp K D v (.tuple ds)) : ∃ a xs, v = .ref a ∧ SqT K D a xs ∧ DpAll K D xs ds := by
  cases h with
  | tup hs ha => exact ⟨_, _, rfl, hs, ha⟩
theorem dp_L (h : Dp K D v (dL ns)) : ∃ a, v = .ref a ∧ SqL K D a (ns.map V.int) := by
  obtain ⟨a, xs, e, hs, ha⟩ := dp_list h
  rw [dpl_ints ha] at hs
  exact ⟨a, e, hs⟩
theorem dp_T (h : Dp K D v (dT ns)) : ∃ a, v = .ref a ∧ SqT K D a (ns.map V.int) := by
  obtain ⟨a, xs, e, hs, ha⟩ := dp_tuple h
  rw [dpl_ints ha] at hs
  exact ⟨a, e, hs⟩
theorem dp_ofL (h : SqL K D a (ns.map V.int)) : Dp K D (.ref a) (dL ns) := .lst h dpl_of_ints
theorem dp_ofT (h : SqT K D a (ns.map V.int)) : Dp K D (.ref a) (dT ns) := .tup h dpl_of_ints
theorem dp_S (h : Dp K D v (.list (dSs zs))) : ∃ a, v = .ref a ∧ SqL K D a (zs.map V.str) := by
  obtain ⟨a, xs, e, hs, ha⟩ := dp_list h
  rw [dpl_strs ha] at hs
  exact ⟨a, e, hs⟩
theorem dp_ofS (h : SqL K D a (zs.map V.str)) : Dp K D (.ref a) (.list (dSs zs)) := .lst h dpl_of_strs
theorem sql (h : H a = some (.lst xs)) : SqL K H a xs := .inl (.inl h)
theorem sqt (h : H a = some (.tup xs)) : SqT K H a xs := .inl (.inl h)
theorem dp_up (g : Gr m D1 H1 D2 H2) (h : Dp K D1 v d) : Dp K D2 v d := Y.Dp.mono g.dd h
theorem dp_heap (g : Gr m D1 H1 D2 H2) (h : Dp K D2 v d) : Dp K H2 v d := Y.Dp.mono g.sub h
theorem sql_up (g : Gr m D1 H1 D2 H2) (h : SqL K D1 a xs) : SqL K H2 a xs := (g.dd.trans g.sub).seq h
theorem sqt_up (g : Gr m D1 H1 D2 H2) (h : SqT K D1 a xs) : SqT K H2 a xs := same_seqT (g.dd.trans g.sub) h
theorem Gr.same' (g : Gr m D1 H1 D2 H2) : Same D1 H2 := g.dd.trans g.sub
/-- what a call does to its own new object -/
theorem Gr.transN {n : Addr → Prop} (a : Gr m D H D1 H1) (b : Gr n D1 H1 D2 H2) (hn : ∀ x, n x → H x = none) : Gr m D H D2 H2 where
  same := fun x u hm e => b.same x u (fun z => by rw [hn x z] at e; cases e) (a.same x u hm e)
  kept := fun x e => a.kept x (b.kept x e)
  dd := a.dd.trans b.dd
  sub := b.sub
  new := fun x u e => (b.new x u e).elim (a.new x u) fun z => .inr (a.kept x z)
/-! ### steps -/
variable {σ : L2.St} {Q : VK} {i j : Nat} {T : Addr} {ta tb te : TE} {n : Int} {s z : Str}
theorem s_pair {Q : L2.St → Hp → Prop} (h : H T = some (.tup [x, y])) (k : Q ((σ.set i (some x)).set j (some y)) H) : gTup K 2 (gCons (gName i) (gCons (gName j) gNil)) (.ref T) σ H Q :=
  ⟨T, [x, y], rfl, .inl (.inl h), rfl, x, [y], rfl, y, [], rfl, rfl, k⟩
def rJoin (K : PySem.W.Frag) : V → List V → Hp → VK → Prop := fun x xs H Q => ∃ a p, ∃ ys : List Str, x = .str a ∧ xs = [.ref p] ∧ (SqL K H p (ys.map V.str) ∨ SqT K H p (ys.map V.str)) ∧
      (ys.map (·.length)).sum + ys.length * a.length ≤ 16777216 ∧ Q (.str (Txt.join a ys)) H
theorem s_join_l (h : SqL K H p (zs.map V.str)) (hl : (zs.map (·.length)).sum + zs.length * s.length ≤ 16777216) (k : Q (.str (Txt.join s zs)) H) : rJoin K (.str s) [.ref p] H Q := ⟨s, p, zs, rfl, rfl, .inl h, hl, k⟩
theorem pe_joinK {X : Cx} {o e : Expr} {to te : TE} {apos pos : Pos} (ho : PE X o to) (he : PE X e te) (hs : starEach [e] X.env = [(false, eval e X.env)] := by rfl) (hbase : attributeBase o "join" X.env (eval o X.env) = eval o X.env := by rfl) (hline : (apos.endLine == pos.line) = true := by rfl) :
    PE X (.Call (.Attribute o "join" apos) [e] [] pos) (tM1 (rJoin X.K) to te) := pe_join ho he hs hbase hline
theorem atI_0 {α : Type} {v : α} {r : List α} : atI (v :: r) 0 = some v := atI_nat (j := 0) rfl
theorem atI_i {α : Type} {xs : List α} {k : Int} {j : Nat} {v : α} (e : k = (j : Int)) (h : xs[j]? = some v) : atI xs k = some v := by rw [e]; exact atI_nat h
theorem put_end {fs : List (Str × V)} {f : Str} (h : fs.lookup f = none) : putF f v fs = fs ++ [(f, v)] := by
  induction fs with
  | nil => rfl
  | cons p r ih =>
    obtain ⟨g, u⟩ := p
    have hg : ¬ g = f := fun e => by
      subst e
      rw [List.lookup_cons_self] at h
      cases h
    have hr : r.lookup f = none := by
      rw [List.lookup_cons, show (f == g) = false from beq_false_of_ne (Ne.symm hg)] at h
      exact h
    show (if g = f then _ else _) = _
    rw [if_neg hg, ih hr]
    rfl
theorem cut_tail (xs : List V) : cutV xs (some 1) none = xs.drop 1 := by
  unfold cutV
  rw [show HT.sIx xs.length 0 (some 1) = min 1 xs.length from HT.sIx_nat xs.length 0 1, HT.sIx_none]
  cases xs with
  | nil => rfl
  | cons x r =>
    rw [show min 1 (x :: r).length = 1 by
      rw [List.length_cons]
      omega]
    show (List.take ((x :: r).length - 1) r) = r
    rw [List.length_cons, Nat.add_sub_cancel]
    exact List.take_length
theorem cut_take (xs : List V) (k : Nat) (h : k ≤ xs.length) : cutV xs none (some (k : Int)) = xs.take k := by
  unfold cutV
  rw [HT.sIx_nat xs.length xs.length k, HT.sIx_none, Nat.min_eq_left h]
  simp
theorem cut_init (xs : List V) : cutV xs none (some (-1)) = xs.take (xs.length - 1) := by
  unfold cutV
  have e : HT.sIx xs.length xs.length (some (-1)) = xs.length - 1 := by
    show (if (-1 : Int) < 0 then ((-1 : Int) + (xs.length : Int)).toNat else min (-1 : Int).toNat xs.length) = _
    rw [if_pos (by decide)]
    omega
  rw [e]
  simp [HT.sIx_none]
end
end Y

namespace Y
open PySem PySem.Spec L2 He
/-! ### the rules with the frozen part told -/
section
variable {X : Cx} (K : PySem.W.Frag)
theorem bK_len (h : X.K = K := by rfl) : CallR X (.builtin "len") (rLens K) := h ▸ b_len
theorem bK_list (h : X.K = K := by rfl) : CallR X (.type "list") (rLst1 K) := h ▸ b_list
theorem bK_tuple (h : X.K = K := by rfl) : CallR X (.type "tuple") (rTup1 K) := h ▸ b_tuple
theorem crK_any (hc : X.calm = true) (h : X.K = K := by rfl) : CallR X (.builtin "any") (rAny K) := h ▸ cr_any hc
theorem crK_all (hc : X.calm = true) (h : X.K = K := by rfl) : CallR X (.builtin "all") (rAll K) := h ▸ cr_all hc
theorem crK_sum (hc : X.calm = true) (h : X.K = K := by rfl) : CallR X (.builtin "sum") (rSum K) := h ▸ cr_sum hc
theorem oK_add (h : X.K = K := by rfl) : OpR X (binaryOp .Add) (rPlus K) := h ▸ o_add
theorem cK_eq (hu : X.A.units + 64 < cLine) (h : X.K = K := by rfl) : OpR X (compareOp .Eq) (rEqs K) := h ▸ c_eq hu
theorem cK_ne (hu : X.A.units + 64 < cLine) (h : X.K = K := by rfl) : OpR X (compareOp .NotEq) (rNes K) := h ▸ c_ne hu
theorem cK_in (h : X.K = K := by rfl) : OpR X (compareOp .In) (rIns K) := h ▸ c_in
theorem cK_ni (h : X.K = K := by rfl) : OpR X (compareOp .NotIn) (rNis K) := h ▸ c_ni
theorem ixK_seq (h : X.K = K := by rfl) : IxR X (rIx K) := h ▸ ix_seq
theorem slK_any (h : X.K = K := by rfl) : SlR X (rSlAny K) := h ▸ sl_any
theorem piK_list {tg l : Expr} {tl : TE} (hl : PE X l tl) (h : X.K = K := by rfl) : PI X tg l (iList K tl) := h ▸ pi_list hl
theorem piK_tup {tg l : Expr} {tl : TE} (hl : PE X l tl) (h : X.K = K := by rfl) : PI X tg l (iTup K tl) := h ▸ pi_tup hl
theorem piK_enum {e : Expr} {ta : TA} {p pos tpos : Pos} {elts : List Expr} {kk : Nat} (hg : Gl X "enumerate") (hm : X.mg "enumerate" = none) (ha : PA X [e] ta) (h : X.K = K := by rfl) (hs : starEach [e] X.env = [(false, eval e X.env)] := by rfl) :
    PI X (.Tuple elts kk tpos) (.Call (.Name "enumerate" p) [e] [] pos) (iEnum K ta) := h ▸ pi_enum hg hm ha hs
theorem piK_enumT {e : Expr} {ta : TA} {p pos tpos : Pos} {elts : List Expr} {kk : Nat} (hg : Gl X "enumerate") (hm : X.mg "enumerate" = none) (ha : PA X [e] ta) (h : X.K = K := by rfl) (hs : starEach [e] X.env = [(false, eval e X.env)] := by rfl) :
    PI X (.Tuple elts kk tpos) (.Call (.Name "enumerate" p) [e] [] pos) (iEnumT K ta) := h ▸ pi_enumT hg hm ha hs
theorem piK_zip {e e2 : Expr} {ta : TA} {p pos tpos : Pos} {elts : List Expr} {kk : Nat} (hg : Gl X "zip") (hm : X.mg "zip" = none) (ha : PA X [e, e2] ta) (h : X.K = K := by rfl)
    (hs : starEach [e, e2] X.env = (false, eval e X.env) :: starEach [e2] X.env := by rfl) (hpl : (backTo pos (starEach [e2] X.env)).any (·.1) = false := by rfl) :
    PI X (.Tuple elts kk tpos) (.Call (.Name "zip" p) [e, e2] [] pos) (iZip K ta) := h ▸ pi_zip hg hm ha hs hpl
theorem peK_fld {e : Expr} {f : Str} {ta : TE} {pos : Pos} (he : PE X e ta) (hb : attributeBase e f X.env (eval e X.env) = eval e X.env) (h : X.K = K := by rfl) : PE X (.Attribute e f pos) (tFld K ta f) := h ▸ pe_fld he hb
theorem psK_fld {o value : Expr} {f : Str} {ta tv : TE} {pos pos' : Pos} (ha : PE X o ta) (hv : PE X value tv) (hs : swapsWith value (some (.Attribute o f pos')) pos.line X.env = pure false) (h : X.K = K := by rfl) :
    PS X (.Assign [.Attribute o f pos'] value pos) (sFld K ta tv f) := h ▸ ps_fld ha hv hs
theorem pK_join {o e : Expr} {to te : TE} {apos pos : Pos} (ho : PE X o to) (he : PE X e te) (h : X.K = K := by rfl) (hs : starEach [e] X.env = [(false, eval e X.env)] := by rfl) (hbase : attributeBase o "join" X.env (eval o X.env) = eval o X.env := by rfl) (hline : (apos.endLine == pos.line) = true := by rfl) :
    PE X (.Call (.Attribute o "join" apos) [e] [] pos) (tM1 (rJoin K) to te) := h ▸ pe_joinK ho he hs hbase hline
theorem peK_bm {T : String} {name : Str} {id : String} {r : V → List V → Hp → VK → Prop} {o e : Expr} {es : List Expr} {to : TE} {t : TA} {apos cpos : Pos} (pa : PlainAttrs T) (slot : Slot T name id) (hty : typeOf (.builtin id) = pure (.type "method_descriptor")) (hm : MtR X id r) (ho : PE X o to) (ha : PA X (e :: es) t) (h : X.K = K := by rfl)
    (hbase : attributeBase o name X.env (eval o X.env) = eval o X.env := by rfl)
    (hfew : ((backTo cpos (starEach (e :: es) X.env)).all (fun x => !x.1) && (backToKw cpos (keywordEach [] X.env)).all (fun x => x.1.isSome)
      && decide ((e :: es).length + ([] : List Keyword).length + (if ([] : List Keyword).isEmpty then 0 else 1) < 30)) = true := by rfl)
    (hline : (apos.endLine == cpos.line) = true := by rfl) (hs : starEach (e :: es) X.env = (false, eval e X.env) :: starEach es X.env := by rfl) (hplain : (backTo cpos (starEach es X.env)).any (·.1) = false := by rfl) :
    PE X (.Call (.Attribute o name apos) (e :: es) [] cpos) (tBM K T r to t) := h ▸ pe_bm pa slot hty hm ho ha hbase hfew hline hs hplain
theorem peK_bm0 {T : String} {name : Str} {id : String} {r : V → List V → Hp → VK → Prop} {o : Expr} {to : TE} {apos cpos : Pos} (pa : PlainAttrs T) (slot : Slot T name id) (hty : typeOf (.builtin id) = pure (.type "method_descriptor")) (hm : MtR X id r) (ho : PE X o to) (h : X.K = K := by rfl)
    (hbase : attributeBase o name X.env (eval o X.env) = eval o X.env := by rfl) (hline : (apos.endLine == cpos.line) = true := by rfl) : PE X (.Call (.Attribute o name apos) [] [] cpos) (tBM0 K T r to) := h ▸ pe_bm0 pa slot hty hm ho hbase hline
theorem peK_bmS {T : String} {name : Str} {id : String} {r : L2.St → V → List V → Hp → VK → Prop} {o e : Expr} {es : List Expr} {to : TE} {t : TA} {apos cpos : Pos} (pa : PlainAttrs T) (slot : Slot T name id) (hty : typeOf (.builtin id) = pure (.type "method_descriptor")) (hm : MtS X id r) (ho : PE X o to) (ha : PA X (e :: es) t) (h : X.K = K := by rfl)
    (hbase : attributeBase o name X.env (eval o X.env) = eval o X.env := by rfl)
    (hfew : ((backTo cpos (starEach (e :: es) X.env)).all (fun x => !x.1) && (backToKw cpos (keywordEach [] X.env)).all (fun x => x.1.isSome)
      && decide ((e :: es).length + ([] : List Keyword).length + (if ([] : List Keyword).isEmpty then 0 else 1) < 30)) = true := by rfl)
    (hline : (apos.endLine == cpos.line) = true := by rfl) (hs : starEach (e :: es) X.env = (false, eval e X.env) :: starEach es X.env := by rfl) (hplain : (backTo cpos (starEach es X.env)).any (·.1) = false := by rfl) :
    PE X (.Call (.Attribute o name apos) (e :: es) [] cpos) (tBMS K T r to t) := h ▸ pe_bmS pa slot hty hm ho ha hbase hfew hline hs hplain
theorem s_BMS {T : String} {r : L2.St → V → List V → Hp → VK → Prop} {ta : TE} {t : TA} {σ : L2.St} {H : Hp} {Q : VK} (k : ta σ H fun x H1 => tyV K T x H1 ∧ t σ H1 fun xs H2 => r σ x xs H2 Q) : tBMS K T r ta t σ H Q := k
theorem s_index {W : WX} {σ : L2.St} {H : Hp} {Q : VK} {a b : Str} {k : Nat} (h : Txt.index0 a b = some k) (q : Q (.int (k : Nat)) H) : rIndexX W σ (.str a) [.str b] H Q :=
  ⟨a, b, rfl, rfl, fun j hj => by rw [h] at hj; cases hj; exact q, fun z => by rw [h] at z; cases z⟩
theorem pgK_tup {es : List Expr} {k : Nat} {t : TGs} {n : Nat} {pos : Pos} (hc : X.calm = true) (h' : PGs X es t) (h : X.K = K := by rfl)
    (hn : (assignEach es X.env).length = n := by rfl) (hst : (assignEach es X.env).findIdx? (·.1) = none := by rfl) : PG X (.Tuple es k pos) (gTup K n t) := h ▸ pg_tup hc h' hn hst
end
end Y

namespace Y
open PySem PySem.Spec L2 He
/-- what stands behind t, told beforehand -/
theorem s_cut {t u : TS} {D : Ends} {σ : L2.St} {H : Hp} (R : L2.St → Hp → Prop) (h : ∀ σ' H', R σ' H' → u D σ' H') (k : ∀ N : L2.St → Hp → Prop, (∀ σ' H', R σ' H' → N σ' H') → t { D with nx := N } σ H) : tSeq t u D σ H := k _ h
theorem s_gSub {to ti : TE} {r : TSet} {v : V} {σ : L2.St} {H : Hp} {Q : L2.St → Hp → Prop} (k : to σ H fun o H2 => ti σ H2 fun i H3 => r o i v H3 fun H4 => Q σ H4) : gSub to ti r v σ H Q := k
theorem walk_r0 {n : Nat} : Walk (Itr 0 n) n (fun _ => True) (fun i H x H' => H' = H ∧ x = .int (i : Nat)) := walk_range.mono (fun _ h => h) fun i H x H' _ _ y => ⟨y.1, by have z := y.2; dsimp only at z; rw [z, Int.zero_add]⟩
theorem pe_gC {X : Cx} {x : Str} {a : Addr} {pos : Pos} (hg : Gl X x) (hm : X.mg x = some (.ref a)) (hd : (x == ("__debug__" : Str)) = false := by decide) : PE X (.Name x pos) (tC (.ref a)) := pe_glob hg hm rfl hd
/-! ### a text cut at one sign -/
def cutAt (s : Nat) : List Nat → List Nat → List (List Nat)
  | acc, [] => [acc]
  | acc, c :: r => if c = s then acc :: cutAt s [] r else cutAt s (acc ++ [c]) r
theorem spl_one (s : Nat) : ∀ (acc l : List Nat), TL.spl [s] 0 acc l = cutAt s acc l
  | acc, [] => rfl
  | acc, c :: r => by
    by_cases h : c = s
    · rw [TL.spl_hit (by rw [h]; exact TL.pre_self [s] r)]
      show _ = if c = s then _ else _
      rw [if_pos h]
      exact congrArg _ (spl_one s [] r)
    · rw [TL.spl_miss (TL.pre_of_head _ _ h)]
      show _ = if c = s then _ else _
      rw [if_neg h]
      exact spl_one s _ r
/-- the sign of code s as a text -/
theorem split_one {x y : Str} {s : Nat} (hy : TL.tl y = [s]) (hk : s < 256) : (Txt.split x y).map TL.tl = cutAt s [] (TL.tl x) := by
  rw [TL.split_spl x y (by rw [hy]; simp) (TL.kind_ok (by
    rw [← Array.all_toList, show y.cps.toList = [s] from hy]
    simpa using hk)), hy]
  exact spl_one s [] _
theorem cutAt_ne (s : Nat) : ∀ (acc l : List Nat), cutAt s acc l ≠ []
  | acc, [] => by simp [cutAt]
  | acc, c :: r => by
    unfold cutAt
    split
    · simp
    · exact cutAt_ne s _ r
theorem cutAt_len (s : Nat) : ∀ (acc l : List Nat), (cutAt s acc l).length ≤ l.length + 1
  | acc, [] => by simp [cutAt]
  | acc, c :: r => by
    unfold cutAt
    split
    · have := cutAt_len s [] r
      simp only [List.length_cons]
      omega
    · have := cutAt_len s (acc ++ [c]) r
      simp only [List.length_cons]
      omega
theorem cutAt_mem (s : Nat) : ∀ (acc l : List Nat), ∀ p ∈ cutAt s acc l, p.length ≤ acc.length + l.length
  | acc, [], p, h => by
    rw [cutAt, List.mem_singleton] at h
    rw [h]
    simp
  | acc, c :: r, p, h => by
    unfold cutAt at h
    split at h
    · rcases List.mem_cons.mp h with h | h
      · rw [h]
        simp
      · have := cutAt_mem s [] r p h
        simp at this ⊢
        omega
    · have := cutAt_mem s (acc ++ [c]) r p h
      simp at this ⊢
      omega
/-- the first part has no separator, nor has any -/
theorem cutAt_free (s : Nat) : ∀ (acc l : List Nat), s ∉ acc → ∀ p ∈ cutAt s acc l, s ∉ p
  | acc, [], ha, p, h => by
    rw [cutAt, List.mem_singleton] at h
    rw [h]
    exact ha
  | acc, c :: r, ha, p, h => by
    unfold cutAt at h
    split at h
    · rcases List.mem_cons.mp h with h | h
      · rw [h]
        exact ha
      · exact cutAt_free s [] r (by simp) p h
    · rename_i hc
      refine cutAt_free s (acc ++ [c]) r ?_ p h
      intro z
      rcases List.mem_append.mp z with z | z
      · exact ha z
      · exact hc (List.mem_singleton.mp z).symm
theorem cutAt_none {s : Nat} : ∀ {acc l : List Nat}, s ∉ l → cutAt s acc l = [acc ++ l]
  | acc, [], _ => by simp [cutAt]
  | acc, c :: r, h => by
    have hc : ¬ c = s := fun e => h (by rw [e]; exact List.mem_cons_self ..)
    rw [cutAt, if_neg hc, cutAt_none (fun z => h (List.mem_cons_of_mem _ z)), List.append_assoc]
    rfl
theorem cutAt_app {s : Nat} : ∀ {acc l r : List Nat}, s ∉ l → cutAt s acc (l ++ s :: r) = (acc ++ l) :: cutAt s [] r
  | acc, [], r, _ => by simp [cutAt]
  | acc, c :: l, r, h => by
    have hc : ¬ c = s := fun e => h (by rw [e]; exact List.mem_cons_self ..)
    show cutAt s acc (c :: (l ++ s :: r)) = _
    rw [cutAt, if_neg hc, cutAt_app (fun z => h (List.mem_cons_of_mem _ z)), List.append_assoc]
    rfl
/-- the text again -/
theorem cutAt_join {s : Nat} : ∀ {acc l : List Nat}, TL.joinL [s] (cutAt s acc l) = acc ++ l
  | acc, [] => by simp [cutAt, TL.joinL]
  | acc, c :: r => by
    unfold cutAt
    split
    · rename_i hc
      have ih := cutAt_join (s := s) (acc := []) (l := r)
      cases h : cutAt s [] r with
      | nil => exact absurd h (cutAt_ne s [] r)
      | cons p q =>
        rw [h] at ih
        show acc ++ ([s] ++ TL.joinL [s] (p :: q)) = acc ++ c :: r
        rw [ih, hc]
        rfl
    · rw [cutAt_join, List.append_assoc]
      rfl
section
variable {x y : Str} {s : Nat}
theorem split_ne (hy : TL.tl y = [s]) (hk : s < 256) : Txt.split x y ≠ [] := fun e => by
  have h := split_one (x := x) hy hk
  rw [e] at h
  exact cutAt_ne s [] _ h.symm
theorem split_count (hy : TL.tl y = [s]) (hk : s < 256) : (Txt.split x y).length ≤ x.length + 1 := by
  have h := congrArg List.length (split_one (x := x) hy hk)
  rw [List.length_map] at h
  rw [h, TL.len_tl]
  exact cutAt_len s [] _
theorem split_part (hy : TL.tl y = [s]) (hk : s < 256) : ∀ p ∈ Txt.split x y, p.length ≤ x.length := fun p hp => by
  have h : TL.tl p ∈ (Txt.split x y).map TL.tl := List.mem_map_of_mem hp
  rw [split_one hy hk] at h
  have := cutAt_mem s [] _ _ h
  rw [TL.len_tl, TL.len_tl x]
  simpa using this
end
end Y

namespace Y
open PySem PySem.Spec L2 He
theorem jtNT {A B : Prop} {i : Decidable ((!true) = true)} (k : B) : @ite Prop ((!true) = true) i A B := by
  rw [if_neg (show ¬ (!true) = true from Bool.false_ne_true)]
  exact k
theorem jtNF {A B : Prop} {i : Decidable ((!false) = true)} (k : A) : @ite Prop ((!false) = true) i A B := by
  rw [if_pos (show (!false) = true from rfl)]
  exact k
/-- what any call may let out -/
def CXany : CXT := fun outer H s E u s' => ∃ (P : Program) (w : World), L2.CX P w outer H s E u s'
theorem fn_any {P : Program} {w : World} {K : PySem.W.Frag} {mg : Str → Option Value} {base : Heap} {k : Nat} {f : Addr} {fd : FuncData} {ps : List Str} {sp : Sp} (F : FnOk P w K mg base (L2.CX P w) k f fd ps sp) : FnOk P w K mg base CXany k f fd ps sp :=
  ⟨F.len, fun A outer s H args us vs Q E hr he hb hv hs => codeAny_mono (F.run A outer s H args us vs Q E hr he hb hv hs) fun r s' h => by
    cases r with
    | ok fl => cases fl <;> exact h
    | error e => exact ⟨P, w, h⟩⟩
theorem any_none (H : Hp) (s : Shared) (e : Value) (s' : Shared) : CXany [] H s (fun _ _ _ => False) e s' → False := by
  rintro ⟨P, w, a, B, H', cls, d, _, _, _, _, _, _, _, z⟩
  exact z
end Y

namespace Hk90
open PySem PySem.Spec L2 He Y
def top (i : Nat) : Stmt := PySem.Challenge.pw_fromyesalone_k90_texts_of_machines.main.body.getD i (.Pass ⟨0, 0, 0, 0⟩)
abbrev s_wall : Stmt := top 0
abbrev s_BadWord_init__ : Stmt := inClass (top 4) 0
abbrev s_BadMachine_init__ : Stmt := inClass (top 5) 0
abbrev s_TooMany_init__ : Stmt := inClass (top 6) 0
abbrev s_BadText_init__ : Stmt := inClass (top 7) 0
abbrev s_check_letters : Stmt := top 11
abbrev s_check_word : Stmt := top 12
abbrev s_check_rows : Stmt := top 15
abbrev s_Machine_init : Stmt := inClass (top 16) 0
abbrev s_Machine_run : Stmt := inClass (top 16) 1
abbrev s_Machine_contains : Stmt := inClass (top 16) 2
abbrev s_Machine_held_words : Stmt := inClass (top 16) 3
abbrev s_number_of : Stmt := top 19
abbrev s_are_letters : Stmt := top 20
abbrev s_machine_text : Stmt := top 21
abbrev s_read_arrows : Stmt := top 22
abbrev s_read_machine : Stmt := top 23
abbrev s_law_start : Stmt := top 25
abbrev s_law_next : Stmt := top 26
abbrev s_law_rows : Stmt := top 27
abbrev s_law_text : Stmt := top 28
abbrev s_law_spoilt : Stmt := top 29
abbrev s_law_letters : Stmt := top 30
abbrev s_law_entry : Stmt := top 31
abbrev s_law_read : Stmt := top 32
abbrev s_law_refused : Stmt := top 33
abbrev s_law_same : Stmt := top 34
abbrev s_law : Stmt := top 35
def d_wall : DefD := ⟨("_wall", none), "_wall", "_wall", defArgs s_wall, defBody s_wall, defScope s_wall, [], []⟩
def d_check_letters : DefD := ⟨("check_letters", none), "check_letters", "check_letters", defArgs s_check_letters, defBody s_check_letters, defScope s_check_letters, [], []⟩
def d_check_word : DefD := ⟨("check_word", none), "check_word", "check_word", defArgs s_check_word, defBody s_check_word, defScope s_check_word, [], []⟩
def d_check_rows : DefD := ⟨("check_rows", none), "check_rows", "check_rows", defArgs s_check_rows, defBody s_check_rows, defScope s_check_rows, [], []⟩
def d_Machine_init : DefD := ⟨("Machine", some "__init__"), "__init__", "Machine.__init__", defArgs s_Machine_init, defBody s_Machine_init, defScope s_Machine_init, [], []⟩
def d_Machine_run : DefD := ⟨("Machine", some "run"), "run", "Machine.run", defArgs s_Machine_run, defBody s_Machine_run, defScope s_Machine_run, [], []⟩
def d_Machine_contains : DefD := ⟨("Machine", some "__contains__"), "__contains__", "Machine.__contains__", defArgs s_Machine_contains, defBody s_Machine_contains, defScope s_Machine_contains, [], []⟩
def d_Machine_held_words : DefD := ⟨("Machine", some "held_words"), "held_words", "Machine.held_words", defArgs s_Machine_held_words, defBody s_Machine_held_words, defScope s_Machine_held_words, [], []⟩
def d_number_of : DefD := ⟨("number_of", none), "number_of", "number_of", defArgs s_number_of, defBody s_number_of, defScope s_number_of, [], []⟩
def d_are_letters : DefD := ⟨("are_letters", none), "are_letters", "are_letters", defArgs s_are_letters, defBody s_are_letters, defScope s_are_letters, [], []⟩
def d_machine_text : DefD := ⟨("machine_text", none), "machine_text", "machine_text", defArgs s_machine_text, defBody s_machine_text, defScope s_machine_text, [], []⟩
def d_read_arrows : DefD := ⟨("read_arrows", none), "read_arrows", "read_arrows", defArgs s_read_arrows, defBody s_read_arrows, defScope s_read_arrows, [], []⟩
def d_read_machine : DefD := ⟨("read_machine", none), "read_machine", "read_machine", defArgs s_read_machine, defBody s_read_machine, defScope s_read_machine, [], []⟩
def d_law_start : DefD := ⟨("_law_start", none), "_law_start", "_law_start", defArgs s_law_start, defBody s_law_start, defScope s_law_start, [], []⟩
def d_law_next : DefD := ⟨("_law_next", none), "_law_next", "_law_next", defArgs s_law_next, defBody s_law_next, defScope s_law_next, [], []⟩
def d_law_rows : DefD := ⟨("_law_rows", none), "_law_rows", "_law_rows", defArgs s_law_rows, defBody s_law_rows, defScope s_law_rows, [], []⟩
def d_law_text : DefD := ⟨("_law_text", none), "_law_text", "_law_text", defArgs s_law_text, defBody s_law_text, defScope s_law_text, [], []⟩
def d_law_spoilt : DefD := ⟨("_law_spoilt", none), "_law_spoilt", "_law_spoilt", defArgs s_law_spoilt, defBody s_law_spoilt, defScope s_law_spoilt, [], []⟩
def d_law_letters : DefD := ⟨("_law_letters", none), "_law_letters", "_law_letters", defArgs s_law_letters, defBody s_law_letters, defScope s_law_letters, [], []⟩
def d_law_entry : DefD := ⟨("_law_entry", none), "_law_entry", "_law_entry", defArgs s_law_entry, defBody s_law_entry, defScope s_law_entry, [], []⟩
def d_law_read : DefD := ⟨("_law_read", none), "_law_read", "_law_read", defArgs s_law_read, defBody s_law_read, defScope s_law_read, [], []⟩
def d_law_refused : DefD := ⟨("_law_refused", none), "_law_refused", "_law_refused", defArgs s_law_refused, defBody s_law_refused, defScope s_law_refused, [], []⟩
def d_law_same : DefD := ⟨("_law_same", none), "_law_same", "_law_same", defArgs s_law_same, defBody s_law_same, defScope s_law_same, [], []⟩
def d_law : DefD := ⟨("law", none), "law", "law", defArgs s_law, defBody s_law, defScope s_law, [], []⟩
def i_BadWord : DefI := ⟨"BadWord", "__init__", "BadWord.__init__", defArgs s_BadWord_init__, defBody s_BadWord_init__, defScope s_BadWord_init__⟩
def i_BadMachine : DefI := ⟨"BadMachine", "__init__", "BadMachine.__init__", defArgs s_BadMachine_init__, defBody s_BadMachine_init__, defScope s_BadMachine_init__⟩
def i_TooMany : DefI := ⟨"TooMany", "__init__", "TooMany.__init__", defArgs s_TooMany_init__, defBody s_TooMany_init__, defScope s_TooMany_init__⟩
def i_BadText : DefI := ⟨"BadText", "__init__", "BadText.__init__", defArgs s_BadText_init__, defBody s_BadText_init__, defScope s_BadText_init__⟩
def fn0 : List DefD := [d_wall, d_check_letters, d_check_word, d_check_rows, d_Machine_init, d_Machine_run, d_Machine_contains, d_Machine_held_words, d_number_of, d_are_letters, d_machine_text, d_read_arrows, d_read_machine, d_law_start, d_law_next, d_law_rows, d_law_text, d_law_spoilt, d_law_letters, d_law_entry, d_law_read, d_law_refused, d_law_same, d_law]
def fn : List DefD := fn0
def fi0 : List DefI := [i_BadWord, i_BadMachine, i_TooMany, i_BadText]
def fi : List DefI := fi0
def fa0 : List Fa := [.glo "_wall", .glo "LanguageError", .exc "LanguageError", .glo "BadLetters", .exc "BadLetters", .glo "BadWord", .glo "BadMachine", .glo "TooMany", .glo "BadText", .str "SMALL" "abcdefghijklmnopqrstuvwxyz", .int "MOST_KINDS_OF_LETTERS" 4, .glo "check_letters", .glo "check_word", .int "MOST_STATES" 128, .glo "check_rows", .glo "Machine", .cls "Machine", .mkr "Machine", .noat "Machine" "letters", .noat "Machine" "arrows", .noat "Machine" "ends", .meth "Machine" "run", .meth "Machine" "__contains__", .meth "Machine" "held_words", .str "DIGITS" "0123456789", .glo "number_of", .glo "are_letters", .glo "machine_text", .glo "read_arrows", .glo "read_machine"]
def fa1 : List Fa := [.glo "_law_start", .glo "_law_next", .glo "_law_rows", .glo "_law_text", .glo "_law_spoilt", .glo "_law_letters", .glo "_law_entry", .glo "_law_read", .glo "_law_refused", .glo "_law_same", .glo "law", .free "abs", .free "any", .free "enumerate", .free "int", .free "isinstance", .free "len", .free "list", .free "min", .free "range", .free "str", .free "super", .free "tuple", .free "ValueError"]
def fa : List Fa := fa0 ++ fa1
def fb0 : List Fb := [.exq "LanguageError", .exq "BadLetters", .exq "BadWord", .exq "BadMachine", .exq "TooMany", .exq "BadText", .own "Machine", .noat "BadWord" "word", .noat "BadWord" "place", .noat "BadMachine" "row", .noat "TooMany" "limit", .noat "BadText" "line", .kit "LanguageError" "LanguageError" true, .exm "LanguageError" "LanguageError" true, .kit "LanguageError" "BadLetters" false, .exm "LanguageError" "BadLetters" false, .kit "LanguageError" "BadWord" false, .exm "LanguageError" "BadWord" false, .kit "LanguageError" "BadMachine" false, .exm "LanguageError" "BadMachine" false, .kit "LanguageError" "TooMany" false, .exm "LanguageError" "TooMany" false, .kit "LanguageError" "BadText" false, .exm "LanguageError" "BadText" false, .kit "BadLetters" "LanguageError" true, .exm "BadLetters" "LanguageError" true, .kit "BadLetters" "BadLetters" true, .exm "BadLetters" "BadLetters" true, .kit "BadLetters" "BadWord" false, .exm "BadLetters" "BadWord" false]
def fb1 : List Fb := [.kit "BadLetters" "BadMachine" false, .exm "BadLetters" "BadMachine" false, .kit "BadLetters" "TooMany" false, .exm "BadLetters" "TooMany" false, .kit "BadLetters" "BadText" false, .exm "BadLetters" "BadText" false, .kit "BadWord" "LanguageError" true, .exm "BadWord" "LanguageError" true, .kit "BadWord" "BadLetters" false, .exm "BadWord" "BadLetters" false, .kit "BadWord" "BadWord" true, .exm "BadWord" "BadWord" true, .kit "BadWord" "BadMachine" false, .exm "BadWord" "BadMachine" false, .kit "BadWord" "TooMany" false, .exm "BadWord" "TooMany" false, .kit "BadWord" "BadText" false, .exm "BadWord" "BadText" false, .kit "BadMachine" "LanguageError" true, .exm "BadMachine" "LanguageError" true, .kit "BadMachine" "BadLetters" false, .exm "BadMachine" "BadLetters" false, .kit "BadMachine" "BadWord" false, .exm "BadMachine" "BadWord" false, .kit "BadMachine" "BadMachine" true, .exm "BadMachine" "BadMachine" true, .kit "BadMachine" "TooMany" false, .exm "BadMachine" "TooMany" false, .kit "BadMachine" "BadText" false, .exm "BadMachine" "BadText" false]
def fb2 : List Fb := [.kit "TooMany" "LanguageError" true, .exm "TooMany" "LanguageError" true, .kit "TooMany" "BadLetters" false, .exm "TooMany" "BadLetters" false, .kit "TooMany" "BadWord" false, .exm "TooMany" "BadWord" false, .kit "TooMany" "BadMachine" false, .exm "TooMany" "BadMachine" false, .kit "TooMany" "TooMany" true, .exm "TooMany" "TooMany" true, .kit "TooMany" "BadText" false, .exm "TooMany" "BadText" false, .kit "BadText" "LanguageError" true, .exm "BadText" "LanguageError" true, .kit "BadText" "BadLetters" false, .exm "BadText" "BadLetters" false, .kit "BadText" "BadWord" false, .exm "BadText" "BadWord" false, .kit "BadText" "BadMachine" false, .exm "BadText" "BadMachine" false, .kit "BadText" "TooMany" false, .exm "BadText" "TooMany" false, .kit "BadText" "BadText" true, .exm "BadText" "BadText" true, .kit "Machine" "Machine" true]
def fb : List Fb := fb0 ++ fb1 ++ fb2
def names0 : List PySem.Str := ["_wall", "LanguageError", "BadLetters", "BadWord", "BadMachine", "TooMany", "BadText", "SMALL", "MOST_KINDS_OF_LETTERS", "check_letters", "check_word", "MOST_STATES", "check_rows", "Machine", "DIGITS", "number_of", "are_letters", "machine_text", "read_arrows", "read_machine", "_law_start", "_law_next", "_law_rows", "_law_text", "_law_spoilt", "_law_letters", "_law_entry", "_law_read", "_law_refused", "_law_same"]
def names : List PySem.Str := names0
def file : Str := "/claim/cut.py"
abbrev R : PySem.W.OpenRow := PySem.W.OpenLaw.row PySem.Challenge.rw_fromyesalone_k90_texts_of_machines
abbrev hk : PySem.W.Hook := hookI 5 fa fn fb fi file
def ob (s : PySem.W.SharedT) : AlI := obsIG 5 fa fn fb fi file (HandSHeadRun.getT s)
theorem ob_eq (s : PySem.W.SharedT) : ob s = hk.obs s.abs := obsIG_eq (HandSHeadRun.getT_eq s)
theorem run (w : World) : HandSHeadRun.RunEq R (PySem.W.view R.prog [35]) hk ob 3000 names w := by
  intro os
  kernel_rfl
structure Txt (P : Program) (w : World) (K : PySem.W.Frag) (mg : Str → Option Value) : Prop where
  gd_wall : mg "_wall" = some (.ref (ga K "_wall"))
  g_LanguageError : mg "LanguageError" = some (.ref (ga K "LanguageError"))
  x_LanguageError : PySem.W.excIn K (ga K "LanguageError") veBase "ValueError.__new__" = true
  k_LanguageError : PySem.W.keepIn K (.ref (ga K "LanguageError")) = true
  s_LanguageError : PySem.W.subIn K (.ref (ga K "LanguageError")) (.type "BaseException") = some true
  t_LanguageError : PySem.W.typeIn K (.ref (ga K "LanguageError")) = some (.type "type")
  g_BadLetters : mg "BadLetters" = some (.ref (ga K "BadLetters"))
  x_BadLetters : PySem.W.excIn K (ga K "BadLetters") veBase "ValueError.__new__" = true
  k_BadLetters : PySem.W.keepIn K (.ref (ga K "BadLetters")) = true
  s_BadLetters : PySem.W.subIn K (.ref (ga K "BadLetters")) (.type "BaseException") = some true
  t_BadLetters : PySem.W.typeIn K (.ref (ga K "BadLetters")) = some (.type "type")
  g_BadWord : mg "BadWord" = some (.ref (ga K "BadWord"))
  g_BadMachine : mg "BadMachine" = some (.ref (ga K "BadMachine"))
  g_TooMany : mg "TooMany" = some (.ref (ga K "TooMany"))
  g_BadText : mg "BadText" = some (.ref (ga K "BadText"))
  c_SMALL : ∃ t, mg "SMALL" = some (.str "abcdefghijklmnopqrstuvwxyz" t)
  c_MOST_KINDS_OF_LETTERS : ∃ t, mg "MOST_KINDS_OF_LETTERS" = some (.int 4 t)
  gd_check_letters : mg "check_letters" = some (.ref (ga K "check_letters"))
  gd_check_word : mg "check_word" = some (.ref (ga K "check_word"))
  c_MOST_STATES : ∃ t, mg "MOST_STATES" = some (.int 128 t)
  gd_check_rows : mg "check_rows" = some (.ref (ga K "check_rows"))
  g_Machine : mg "Machine" = some (.ref (ga K "Machine"))
  cl_Machine : Cls K (ga K "Machine")
  mk_Machine : Mk K (ga K "Machine") (ma K (ga K "Machine") "__init__")
  na_Machine_letters : NoAttr K (ga K "Machine") "letters"
  na_Machine_arrows : NoAttr K (ga K "Machine") "arrows"
  na_Machine_ends : NoAttr K (ga K "Machine") "ends"
  me_Machine_run : Meth K (ga K "Machine") "run" (ma K (ga K "Machine") "run")
  me_Machine_contains : Meth K (ga K "Machine") "__contains__" (ma K (ga K "Machine") "__contains__")
  me_Machine_held_words : Meth K (ga K "Machine") "held_words" (ma K (ga K "Machine") "held_words")
  c_DIGITS : ∃ t, mg "DIGITS" = some (.str "0123456789" t)
  gd_number_of : mg "number_of" = some (.ref (ga K "number_of"))
  gd_are_letters : mg "are_letters" = some (.ref (ga K "are_letters"))
  gd_machine_text : mg "machine_text" = some (.ref (ga K "machine_text"))
  gd_read_arrows : mg "read_arrows" = some (.ref (ga K "read_arrows"))
  gd_read_machine : mg "read_machine" = some (.ref (ga K "read_machine"))
  gd_law_start : mg "_law_start" = some (.ref (ga K "_law_start"))
  gd_law_next : mg "_law_next" = some (.ref (ga K "_law_next"))
  gd_law_rows : mg "_law_rows" = some (.ref (ga K "_law_rows"))
  gd_law_text : mg "_law_text" = some (.ref (ga K "_law_text"))
  gd_law_spoilt : mg "_law_spoilt" = some (.ref (ga K "_law_spoilt"))
  gd_law_letters : mg "_law_letters" = some (.ref (ga K "_law_letters"))
  gd_law_entry : mg "_law_entry" = some (.ref (ga K "_law_entry"))
  gd_law_read : mg "_law_read" = some (.ref (ga K "_law_read"))
  gd_law_refused : mg "_law_refused" = some (.ref (ga K "_law_refused"))
  gd_law_same : mg "_law_same" = some (.ref (ga K "_law_same"))
  gd_law : mg "law" = some (.ref (ga K "law"))
  b_abs : mg "abs" = none
  b_any : mg "any" = none
  b_enumerate : mg "enumerate" = none
  b_int : mg "int" = none
  b_isinstance : mg "isinstance" = none
  b_len : mg "len" = none
  b_list : mg "list" = none
  b_min : mg "min" = none
  b_range : mg "range" = none
  b_str : mg "str" = none
  b_super : mg "super" = none
  b_tuple : mg "tuple" = none
  b_ValueError : mg "ValueError" = none
  e_LanguageError : ExK K (ga K "LanguageError")
  e_BadLetters : ExK K (ga K "BadLetters")
  e_BadWord : ExK K (ga K "BadWord")
  e_BadMachine : ExK K (ga K "BadMachine")
  e_TooMany : ExK K (ga K "TooMany")
  e_BadText : ExK K (ga K "BadText")
  o_Machine : OwnK K (ga K "Machine")
  no_BadWord_word : PySem.W.findIn K (.ref (ga K "BadWord")) "word" = some none
  no_BadWord_place : PySem.W.findIn K (.ref (ga K "BadWord")) "place" = some none
  no_BadMachine_row : PySem.W.findIn K (.ref (ga K "BadMachine")) "row" = some none
  no_TooMany_limit : PySem.W.findIn K (.ref (ga K "TooMany")) "limit" = some none
  no_BadText_line : PySem.W.findIn K (.ref (ga K "BadText")) "line" = some none
  kit_LanguageError_LanguageError : PySem.W.kitOne K (.ref (ga K "LanguageError")) (.ref (ga K "LanguageError")) = some true
  exm_LanguageError_LanguageError : PySem.W.exmOne K (.ref (ga K "LanguageError")) (.ref (ga K "LanguageError")) = some true
  kit_LanguageError_BadLetters : PySem.W.kitOne K (.ref (ga K "LanguageError")) (.ref (ga K "BadLetters")) = some false
  exm_LanguageError_BadLetters : PySem.W.exmOne K (.ref (ga K "LanguageError")) (.ref (ga K "BadLetters")) = some false
  kit_LanguageError_BadWord : PySem.W.kitOne K (.ref (ga K "LanguageError")) (.ref (ga K "BadWord")) = some false
  exm_LanguageError_BadWord : PySem.W.exmOne K (.ref (ga K "LanguageError")) (.ref (ga K "BadWord")) = some false
  kit_LanguageError_BadMachine : PySem.W.kitOne K (.ref (ga K "LanguageError")) (.ref (ga K "BadMachine")) = some false
  exm_LanguageError_BadMachine : PySem.W.exmOne K (.ref (ga K "LanguageError")) (.ref (ga K "BadMachine")) = some false
  kit_LanguageError_TooMany : PySem.W.kitOne K (.ref (ga K "LanguageError")) (.ref (ga K "TooMany")) = some false
  exm_LanguageError_TooMany : PySem.W.exmOne K (.ref (ga K "LanguageError")) (.ref (ga K "TooMany")) = some false
  kit_LanguageError_BadText : PySem.W.kitOne K (.ref (ga K "LanguageError")) (.ref (ga K "BadText")) = some false
  exm_LanguageError_BadText : PySem.W.exmOne K (.ref (ga K "LanguageError")) (.ref (ga K "BadText")) = some false
  kit_BadLetters_LanguageError : PySem.W.kitOne K (.ref (ga K "BadLetters")) (.ref (ga K "LanguageError")) = some true
  exm_BadLetters_LanguageError : PySem.W.exmOne K (.ref (ga K "BadLetters")) (.ref (ga K "LanguageError")) = some true
  kit_BadLetters_BadLetters : PySem.W.kitOne K (.ref (ga K "BadLetters")) (.ref (ga K "BadLetters")) = some true
  exm_BadLetters_BadLetters : PySem.W.exmOne K (.ref (ga K "BadLetters")) (.ref (ga K "BadLetters")) = some true
  kit_BadLetters_BadWord : PySem.W.kitOne K (.ref (ga K "BadLetters")) (.ref (ga K "BadWord")) = some false
  exm_BadLetters_BadWord : PySem.W.exmOne K (.ref (ga K "BadLetters")) (.ref (ga K "BadWord")) = some false
  kit_BadLetters_BadMachine : PySem.W.kitOne K (.ref (ga K "BadLetters")) (.ref (ga K "BadMachine")) = some false
  exm_BadLetters_BadMachine : PySem.W.exmOne K (.ref (ga K "BadLetters")) (.ref (ga K "BadMachine")) = some false
  kit_BadLetters_TooMany : PySem.W.kitOne K (.ref (ga K "BadLetters")) (.ref (ga K "TooMany")) = some false
  exm_BadLetters_TooMany : PySem.W.exmOne K (.ref (ga K "BadLetters")) (.ref (ga K "TooMany")) = some false
  kit_BadLetters_BadText : PySem.W.kitOne K (.ref (ga K "BadLetters")) (.ref (ga K "BadText")) = some false
  exm_BadLetters_BadText : PySem.W.exmOne K (.ref (ga K "BadLetters")) (.ref (ga K "BadText")) = some false
  kit_BadWord_LanguageError : PySem.W.kitOne K (.ref (ga K "BadWord")) (.ref (ga K "LanguageError")) = some true
  exm_BadWord_LanguageError : PySem.W.exmOne K (.ref (ga K "BadWord")) (.ref (ga K "LanguageError")) = some true
  kit_BadWord_BadLetters : PySem.W.kitOne K (.ref (ga K "BadWord")) (.ref (ga K "BadLetters")) = some false
  exm_BadWord_BadLetters : PySem.W.exmOne K (.ref (ga K "BadWord")) (.ref (ga K "BadLetters")) = some false
  kit_BadWord_BadWord : PySem.W.kitOne K (.ref (ga K "BadWord")) (.ref (ga K "BadWord")) = some true
  exm_BadWord_BadWord : PySem.W.exmOne K (.ref (ga K "BadWord")) (.ref (ga K "BadWord")) = some true
  kit_BadWord_BadMachine : PySem.W.kitOne K (.ref (ga K "BadWord")) (.ref (ga K "BadMachine")) = some false
  exm_BadWord_BadMachine : PySem.W.exmOne K (.ref (ga K "BadWord")) (.ref (ga K "BadMachine")) = some false
  kit_BadWord_TooMany : PySem.W.kitOne K (.ref (ga K "BadWord")) (.ref (ga K "TooMany")) = some false
  exm_BadWord_TooMany : PySem.W.exmOne K (.ref (ga K "BadWord")) (.ref (ga K "TooMany")) = some false
  kit_BadWord_BadText : PySem.W.kitOne K (.ref (ga K "BadWord")) (.ref (ga K "BadText")) = some false
  exm_BadWord_BadText : PySem.W.exmOne K (.ref (ga K "BadWord")) (.ref (ga K "BadText")) = some false
  kit_BadMachine_LanguageError : PySem.W.kitOne K (.ref (ga K "BadMachine")) (.ref (ga K "LanguageError")) = some true
  exm_BadMachine_LanguageError : PySem.W.exmOne K (.ref (ga K "BadMachine")) (.ref (ga K "LanguageError")) = some true
  kit_BadMachine_BadLetters : PySem.W.kitOne K (.ref (ga K "BadMachine")) (.ref (ga K "BadLetters")) = some false
  exm_BadMachine_BadLetters : PySem.W.exmOne K (.ref (ga K "BadMachine")) (.ref (ga K "BadLetters")) = some false
  kit_BadMachine_BadWord : PySem.W.kitOne K (.ref (ga K "BadMachine")) (.ref (ga K "BadWord")) = some false
  exm_BadMachine_BadWord : PySem.W.exmOne K (.ref (ga K "BadMachine")) (.ref (ga K "BadWord")) = some false
  kit_BadMachine_BadMachine : PySem.W.kitOne K (.ref (ga K "BadMachine")) (.ref (ga K "BadMachine")) = some true
  exm_BadMachine_BadMachine : PySem.W.exmOne K (.ref (ga K "BadMachine")) (.ref (ga K "BadMachine")) = some true
  kit_BadMachine_TooMany : PySem.W.kitOne K (.ref (ga K "BadMachine")) (.ref (ga K "TooMany")) = some false
  exm_BadMachine_TooMany : PySem.W.exmOne K (.ref (ga K "BadMachine")) (.ref (ga K "TooMany")) = some false
  kit_BadMachine_BadText : PySem.W.kitOne K (.ref (ga K "BadMachine")) (.ref (ga K "BadText")) = some false
  exm_BadMachine_BadText : PySem.W.exmOne K (.ref (ga K "BadMachine")) (.ref (ga K "BadText")) = some false
  kit_TooMany_LanguageError : PySem.W.kitOne K (.ref (ga K "TooMany")) (.ref (ga K "LanguageError")) = some true
  exm_TooMany_LanguageError : PySem.W.exmOne K (.ref (ga K "TooMany")) (.ref (ga K "LanguageError")) = some true
  kit_TooMany_BadLetters : PySem.W.kitOne K (.ref (ga K "TooMany")) (.ref (ga K "BadLetters")) = some false
  exm_TooMany_BadLetters : PySem.W.exmOne K (.ref (ga K "TooMany")) (.ref (ga K "BadLetters")) = some false
  kit_TooMany_BadWord : PySem.W.kitOne K (.ref (ga K "TooMany")) (.ref (ga K "BadWord")) = some false
  exm_TooMany_BadWord : PySem.W.exmOne K (.ref (ga K "TooMany")) (.ref (ga K "BadWord")) = some false
  kit_TooMany_BadMachine : PySem.W.kitOne K (.ref (ga K "TooMany")) (.ref (ga K "BadMachine")) = some false
  exm_TooMany_BadMachine : PySem.W.exmOne K (.ref (ga K "TooMany")) (.ref (ga K "BadMachine")) = some false
  kit_TooMany_TooMany : PySem.W.kitOne K (.ref (ga K "TooMany")) (.ref (ga K "TooMany")) = some true
  exm_TooMany_TooMany : PySem.W.exmOne K (.ref (ga K "TooMany")) (.ref (ga K "TooMany")) = some true
  kit_TooMany_BadText : PySem.W.kitOne K (.ref (ga K "TooMany")) (.ref (ga K "BadText")) = some false
  exm_TooMany_BadText : PySem.W.exmOne K (.ref (ga K "TooMany")) (.ref (ga K "BadText")) = some false
  kit_BadText_LanguageError : PySem.W.kitOne K (.ref (ga K "BadText")) (.ref (ga K "LanguageError")) = some true
  exm_BadText_LanguageError : PySem.W.exmOne K (.ref (ga K "BadText")) (.ref (ga K "LanguageError")) = some true
  kit_BadText_BadLetters : PySem.W.kitOne K (.ref (ga K "BadText")) (.ref (ga K "BadLetters")) = some false
  exm_BadText_BadLetters : PySem.W.exmOne K (.ref (ga K "BadText")) (.ref (ga K "BadLetters")) = some false
  kit_BadText_BadWord : PySem.W.kitOne K (.ref (ga K "BadText")) (.ref (ga K "BadWord")) = some false
  exm_BadText_BadWord : PySem.W.exmOne K (.ref (ga K "BadText")) (.ref (ga K "BadWord")) = some false
  kit_BadText_BadMachine : PySem.W.kitOne K (.ref (ga K "BadText")) (.ref (ga K "BadMachine")) = some false
  exm_BadText_BadMachine : PySem.W.exmOne K (.ref (ga K "BadText")) (.ref (ga K "BadMachine")) = some false
  kit_BadText_TooMany : PySem.W.kitOne K (.ref (ga K "BadText")) (.ref (ga K "TooMany")) = some false
  exm_BadText_TooMany : PySem.W.exmOne K (.ref (ga K "BadText")) (.ref (ga K "TooMany")) = some false
  kit_BadText_BadText : PySem.W.kitOne K (.ref (ga K "BadText")) (.ref (ga K "BadText")) = some true
  exm_BadText_BadText : PySem.W.exmOne K (.ref (ga K "BadText")) (.ref (ga K "BadText")) = some true
  kit_Machine_Machine : PySem.W.kitOne K (.ref (ga K "Machine")) (.ref (ga K "Machine")) = some true
  d_wall : ∃ fd, FunD K Hk90.d_wall.name Hk90.d_wall.qual Hk90.d_wall.params Hk90.d_wall.body Hk90.d_wall.scope [] [] (fAd K Hk90.d_wall.at_) fd
  d_check_letters : ∃ fd, FunD K Hk90.d_check_letters.name Hk90.d_check_letters.qual Hk90.d_check_letters.params Hk90.d_check_letters.body Hk90.d_check_letters.scope [] [] (fAd K Hk90.d_check_letters.at_) fd
  d_check_word : ∃ fd, FunD K Hk90.d_check_word.name Hk90.d_check_word.qual Hk90.d_check_word.params Hk90.d_check_word.body Hk90.d_check_word.scope [] [] (fAd K Hk90.d_check_word.at_) fd
  d_check_rows : ∃ fd, FunD K Hk90.d_check_rows.name Hk90.d_check_rows.qual Hk90.d_check_rows.params Hk90.d_check_rows.body Hk90.d_check_rows.scope [] [] (fAd K Hk90.d_check_rows.at_) fd
  d_Machine_init : ∃ fd, FunD K Hk90.d_Machine_init.name Hk90.d_Machine_init.qual Hk90.d_Machine_init.params Hk90.d_Machine_init.body Hk90.d_Machine_init.scope [] [] (fAd K Hk90.d_Machine_init.at_) fd
  d_Machine_run : ∃ fd, FunD K Hk90.d_Machine_run.name Hk90.d_Machine_run.qual Hk90.d_Machine_run.params Hk90.d_Machine_run.body Hk90.d_Machine_run.scope [] [] (fAd K Hk90.d_Machine_run.at_) fd
  d_Machine_contains : ∃ fd, FunD K Hk90.d_Machine_contains.name Hk90.d_Machine_contains.qual Hk90.d_Machine_contains.params Hk90.d_Machine_contains.body Hk90.d_Machine_contains.scope [] [] (fAd K Hk90.d_Machine_contains.at_) fd
  d_Machine_held_words : ∃ fd, FunD K Hk90.d_Machine_held_words.name Hk90.d_Machine_held_words.qual Hk90.d_Machine_held_words.params Hk90.d_Machine_held_words.body Hk90.d_Machine_held_words.scope [] [] (fAd K Hk90.d_Machine_held_words.at_) fd
  d_number_of : ∃ fd, FunD K Hk90.d_number_of.name Hk90.d_number_of.qual Hk90.d_number_of.params Hk90.d_number_of.body Hk90.d_number_of.scope [] [] (fAd K Hk90.d_number_of.at_) fd
  d_are_letters : ∃ fd, FunD K Hk90.d_are_letters.name Hk90.d_are_letters.qual Hk90.d_are_letters.params Hk90.d_are_letters.body Hk90.d_are_letters.scope [] [] (fAd K Hk90.d_are_letters.at_) fd
  d_machine_text : ∃ fd, FunD K Hk90.d_machine_text.name Hk90.d_machine_text.qual Hk90.d_machine_text.params Hk90.d_machine_text.body Hk90.d_machine_text.scope [] [] (fAd K Hk90.d_machine_text.at_) fd
  d_read_arrows : ∃ fd, FunD K Hk90.d_read_arrows.name Hk90.d_read_arrows.qual Hk90.d_read_arrows.params Hk90.d_read_arrows.body Hk90.d_read_arrows.scope [] [] (fAd K Hk90.d_read_arrows.at_) fd
  d_read_machine : ∃ fd, FunD K Hk90.d_read_machine.name Hk90.d_read_machine.qual Hk90.d_read_machine.params Hk90.d_read_machine.body Hk90.d_read_machine.scope [] [] (fAd K Hk90.d_read_machine.at_) fd
  d_law_start : ∃ fd, FunD K Hk90.d_law_start.name Hk90.d_law_start.qual Hk90.d_law_start.params Hk90.d_law_start.body Hk90.d_law_start.scope [] [] (fAd K Hk90.d_law_start.at_) fd
  d_law_next : ∃ fd, FunD K Hk90.d_law_next.name Hk90.d_law_next.qual Hk90.d_law_next.params Hk90.d_law_next.body Hk90.d_law_next.scope [] [] (fAd K Hk90.d_law_next.at_) fd
  d_law_rows : ∃ fd, FunD K Hk90.d_law_rows.name Hk90.d_law_rows.qual Hk90.d_law_rows.params Hk90.d_law_rows.body Hk90.d_law_rows.scope [] [] (fAd K Hk90.d_law_rows.at_) fd
  d_law_text : ∃ fd, FunD K Hk90.d_law_text.name Hk90.d_law_text.qual Hk90.d_law_text.params Hk90.d_law_text.body Hk90.d_law_text.scope [] [] (fAd K Hk90.d_law_text.at_) fd
  d_law_spoilt : ∃ fd, FunD K Hk90.d_law_spoilt.name Hk90.d_law_spoilt.qual Hk90.d_law_spoilt.params Hk90.d_law_spoilt.body Hk90.d_law_spoilt.scope [] [] (fAd K Hk90.d_law_spoilt.at_) fd
  d_law_letters : ∃ fd, FunD K Hk90.d_law_letters.name Hk90.d_law_letters.qual Hk90.d_law_letters.params Hk90.d_law_letters.body Hk90.d_law_letters.scope [] [] (fAd K Hk90.d_law_letters.at_) fd
  d_law_entry : ∃ fd, FunD K Hk90.d_law_entry.name Hk90.d_law_entry.qual Hk90.d_law_entry.params Hk90.d_law_entry.body Hk90.d_law_entry.scope [] [] (fAd K Hk90.d_law_entry.at_) fd
  d_law_read : ∃ fd, FunD K Hk90.d_law_read.name Hk90.d_law_read.qual Hk90.d_law_read.params Hk90.d_law_read.body Hk90.d_law_read.scope [] [] (fAd K Hk90.d_law_read.at_) fd
  d_law_refused : ∃ fd, FunD K Hk90.d_law_refused.name Hk90.d_law_refused.qual Hk90.d_law_refused.params Hk90.d_law_refused.body Hk90.d_law_refused.scope [] [] (fAd K Hk90.d_law_refused.at_) fd
  d_law_same : ∃ fd, FunD K Hk90.d_law_same.name Hk90.d_law_same.qual Hk90.d_law_same.params Hk90.d_law_same.body Hk90.d_law_same.scope [] [] (fAd K Hk90.d_law_same.at_) fd
  d_law : ∃ fd, FunD K Hk90.d_law.name Hk90.d_law.qual Hk90.d_law.params Hk90.d_law.body Hk90.d_law.scope [] [] (fAd K Hk90.d_law.at_) fd
  i_BadWord : ∃ fd, IniF P K mg (ga K "BadWord") (fAd K Hk90.i_BadWord.at_) Hk90.i_BadWord.name Hk90.i_BadWord.qual Hk90.i_BadWord.params Hk90.i_BadWord.body Hk90.i_BadWord.scope fd
  i_BadMachine : ∃ fd, IniF P K mg (ga K "BadMachine") (fAd K Hk90.i_BadMachine.at_) Hk90.i_BadMachine.name Hk90.i_BadMachine.qual Hk90.i_BadMachine.params Hk90.i_BadMachine.body Hk90.i_BadMachine.scope fd
  i_TooMany : ∃ fd, IniF P K mg (ga K "TooMany") (fAd K Hk90.i_TooMany.at_) Hk90.i_TooMany.name Hk90.i_TooMany.qual Hk90.i_TooMany.params Hk90.i_TooMany.body Hk90.i_TooMany.scope fd
  i_BadText : ∃ fd, IniF P K mg (ga K "BadText") (fAd K Hk90.i_BadText.at_) Hk90.i_BadText.name Hk90.i_BadText.qual Hk90.i_BadText.params Hk90.i_BadText.body Hk90.i_BadText.scope fd
theorem txt {P : Program} {w : World} {K : PySem.W.Frag} {h : Heap} {mg : Str → Option Value} (X : K.In h) (G : h.Ns mainGlobals mg) (hm : P.main.file = file) (ht : (P.main.scope.names.lookup ("super" : Str)).isSome = false) (c : SaysI fa fn fb fi file K) : Txt P w K mg := by
  have hs : mg "super" = none := free_ok X G (c.d.fact 51 (f := .free "super") rfl)
  exact {
    gd_wall := glo_ok X G (c.d.fact 0 (f := .glo "_wall") rfl),
    g_LanguageError := glo_ok X G (c.d.fact 1 (f := .glo "LanguageError") rfl),
    x_LanguageError := (exc_ok (c.d.fact 2 (f := .exc "LanguageError") rfl)).1,
    k_LanguageError := (exc_ok (c.d.fact 2 (f := .exc "LanguageError") rfl)).2.1,
    s_LanguageError := (exc_ok (c.d.fact 2 (f := .exc "LanguageError") rfl)).2.2.1,
    t_LanguageError := (exc_ok (c.d.fact 2 (f := .exc "LanguageError") rfl)).2.2.2,
    g_BadLetters := glo_ok X G (c.d.fact 3 (f := .glo "BadLetters") rfl),
    x_BadLetters := (exc_ok (c.d.fact 4 (f := .exc "BadLetters") rfl)).1,
    k_BadLetters := (exc_ok (c.d.fact 4 (f := .exc "BadLetters") rfl)).2.1,
    s_BadLetters := (exc_ok (c.d.fact 4 (f := .exc "BadLetters") rfl)).2.2.1,
    t_BadLetters := (exc_ok (c.d.fact 4 (f := .exc "BadLetters") rfl)).2.2.2,
    g_BadWord := glo_ok X G (c.d.fact 5 (f := .glo "BadWord") rfl),
    g_BadMachine := glo_ok X G (c.d.fact 6 (f := .glo "BadMachine") rfl),
    g_TooMany := glo_ok X G (c.d.fact 7 (f := .glo "TooMany") rfl),
    g_BadText := glo_ok X G (c.d.fact 8 (f := .glo "BadText") rfl),
    c_SMALL := str_ok X G (c.d.fact 9 (f := .str "SMALL" "abcdefghijklmnopqrstuvwxyz") rfl),
    c_MOST_KINDS_OF_LETTERS := int_ok X G (c.d.fact 10 (f := .int "MOST_KINDS_OF_LETTERS" 4) rfl),
    gd_check_letters := glo_ok X G (c.d.fact 11 (f := .glo "check_letters") rfl),
    gd_check_word := glo_ok X G (c.d.fact 12 (f := .glo "check_word") rfl),
    c_MOST_STATES := int_ok X G (c.d.fact 13 (f := .int "MOST_STATES" 128) rfl),
    gd_check_rows := glo_ok X G (c.d.fact 14 (f := .glo "check_rows") rfl),
    g_Machine := glo_ok X G (c.d.fact 15 (f := .glo "Machine") rfl),
    cl_Machine := cls_ok (c.d.fact 16 (f := .cls "Machine") rfl),
    mk_Machine := mkr_ok (c.d.fact 17 (f := .mkr "Machine") rfl),
    na_Machine_letters := noat_ok (c.d.fact 18 (f := .noat "Machine" "letters") rfl),
    na_Machine_arrows := noat_ok (c.d.fact 19 (f := .noat "Machine" "arrows") rfl),
    na_Machine_ends := noat_ok (c.d.fact 20 (f := .noat "Machine" "ends") rfl),
    me_Machine_run := meth_ok (c.d.fact 21 (f := .meth "Machine" "run") rfl),
    me_Machine_contains := meth_ok (c.d.fact 22 (f := .meth "Machine" "__contains__") rfl),
    me_Machine_held_words := meth_ok (c.d.fact 23 (f := .meth "Machine" "held_words") rfl),
    c_DIGITS := str_ok X G (c.d.fact 24 (f := .str "DIGITS" "0123456789") rfl),
    gd_number_of := glo_ok X G (c.d.fact 25 (f := .glo "number_of") rfl),
    gd_are_letters := glo_ok X G (c.d.fact 26 (f := .glo "are_letters") rfl),
    gd_machine_text := glo_ok X G (c.d.fact 27 (f := .glo "machine_text") rfl),
    gd_read_arrows := glo_ok X G (c.d.fact 28 (f := .glo "read_arrows") rfl),
    gd_read_machine := glo_ok X G (c.d.fact 29 (f := .glo "read_machine") rfl),
    gd_law_start := glo_ok X G (c.d.fact 30 (f := .glo "_law_start") rfl),
    gd_law_next := glo_ok X G (c.d.fact 31 (f := .glo "_law_next") rfl),
    gd_law_rows := glo_ok X G (c.d.fact 32 (f := .glo "_law_rows") rfl),
    gd_law_text := glo_ok X G (c.d.fact 33 (f := .glo "_law_text") rfl),
    gd_law_spoilt := glo_ok X G (c.d.fact 34 (f := .glo "_law_spoilt") rfl),
    gd_law_letters := glo_ok X G (c.d.fact 35 (f := .glo "_law_letters") rfl),
    gd_law_entry := glo_ok X G (c.d.fact 36 (f := .glo "_law_entry") rfl),
    gd_law_read := glo_ok X G (c.d.fact 37 (f := .glo "_law_read") rfl),
    gd_law_refused := glo_ok X G (c.d.fact 38 (f := .glo "_law_refused") rfl),
    gd_law_same := glo_ok X G (c.d.fact 39 (f := .glo "_law_same") rfl),
    gd_law := glo_ok X G (c.d.fact 40 (f := .glo "law") rfl),
    b_abs := free_ok X G (c.d.fact 41 (f := .free "abs") rfl),
    b_any := free_ok X G (c.d.fact 42 (f := .free "any") rfl),
    b_enumerate := free_ok X G (c.d.fact 43 (f := .free "enumerate") rfl),
    b_int := free_ok X G (c.d.fact 44 (f := .free "int") rfl),
    b_isinstance := free_ok X G (c.d.fact 45 (f := .free "isinstance") rfl),
    b_len := free_ok X G (c.d.fact 46 (f := .free "len") rfl),
    b_list := free_ok X G (c.d.fact 47 (f := .free "list") rfl),
    b_min := free_ok X G (c.d.fact 48 (f := .free "min") rfl),
    b_range := free_ok X G (c.d.fact 49 (f := .free "range") rfl),
    b_str := free_ok X G (c.d.fact 50 (f := .free "str") rfl),
    b_super := free_ok X G (c.d.fact 51 (f := .free "super") rfl),
    b_tuple := free_ok X G (c.d.fact 52 (f := .free "tuple") rfl),
    b_ValueError := free_ok X G (c.d.fact 53 (f := .free "ValueError") rfl),
    e_LanguageError := exB_ok (c.fb_ (f := .exq "LanguageError") (List.mem_of_getElem? (i := 0) rfl)),
    e_BadLetters := exB_ok (c.fb_ (f := .exq "BadLetters") (List.mem_of_getElem? (i := 1) rfl)),
    e_BadWord := exB_ok (c.fb_ (f := .exq "BadWord") (List.mem_of_getElem? (i := 2) rfl)),
    e_BadMachine := exB_ok (c.fb_ (f := .exq "BadMachine") (List.mem_of_getElem? (i := 3) rfl)),
    e_TooMany := exB_ok (c.fb_ (f := .exq "TooMany") (List.mem_of_getElem? (i := 4) rfl)),
    e_BadText := exB_ok (c.fb_ (f := .exq "BadText") (List.mem_of_getElem? (i := 5) rfl)),
    o_Machine := ownB_ok (c.fb_ (f := .own "Machine") (List.mem_of_getElem? (i := 6) rfl)),
    no_BadWord_word := of_decide_eq_true (c.fb_ (f := .noat "BadWord" "word") (List.mem_of_getElem? (i := 7) rfl)),
    no_BadWord_place := of_decide_eq_true (c.fb_ (f := .noat "BadWord" "place") (List.mem_of_getElem? (i := 8) rfl)),
    no_BadMachine_row := of_decide_eq_true (c.fb_ (f := .noat "BadMachine" "row") (List.mem_of_getElem? (i := 9) rfl)),
    no_TooMany_limit := of_decide_eq_true (c.fb_ (f := .noat "TooMany" "limit") (List.mem_of_getElem? (i := 10) rfl)),
    no_BadText_line := of_decide_eq_true (c.fb_ (f := .noat "BadText" "line") (List.mem_of_getElem? (i := 11) rfl)),
    kit_LanguageError_LanguageError := of_decide_eq_true (c.fb_ (f := .kit "LanguageError" "LanguageError" true) (List.mem_of_getElem? (i := 12) rfl)),
    exm_LanguageError_LanguageError := of_decide_eq_true (c.fb_ (f := .exm "LanguageError" "LanguageError" true) (List.mem_of_getElem? (i := 13) rfl)),
    kit_LanguageError_BadLetters := of_decide_eq_true (c.fb_ (f := .kit "LanguageError" "BadLetters" false) (List.mem_of_getElem? (i := 14) rfl)),
    exm_LanguageError_BadLetters := of_decide_eq_true (c.fb_ (f := .exm "LanguageError" "BadLetters" false) (List.mem_of_getElem? (i := 15) rfl)),
    kit_LanguageError_BadWord := of_decide_eq_true (c.fb_ (f := .kit "LanguageError" "BadWord" false) (List.mem_of_getElem? (i := 16) rfl)),
    exm_LanguageError_BadWord := of_decide_eq_true (c.fb_ (f := .exm "LanguageError" "BadWord" false) (List.mem_of_getElem? (i := 17) rfl)),
    kit_LanguageError_BadMachine := of_decide_eq_true (c.fb_ (f := .kit "LanguageError" "BadMachine" false) (List.mem_of_getElem? (i := 18) rfl)),
    exm_LanguageError_BadMachine := of_decide_eq_true (c.fb_ (f := .exm "LanguageError" "BadMachine" false) (List.mem_of_getElem? (i := 19) rfl)),
    kit_LanguageError_TooMany := of_decide_eq_true (c.fb_ (f := .kit "LanguageError" "TooMany" false) (List.mem_of_getElem? (i := 20) rfl)),
    exm_LanguageError_TooMany := of_decide_eq_true (c.fb_ (f := .exm "LanguageError" "TooMany" false) (List.mem_of_getElem? (i := 21) rfl)),
    kit_LanguageError_BadText := of_decide_eq_true (c.fb_ (f := .kit "LanguageError" "BadText" false) (List.mem_of_getElem? (i := 22) rfl)),
    exm_LanguageError_BadText := of_decide_eq_true (c.fb_ (f := .exm "LanguageError" "BadText" false) (List.mem_of_getElem? (i := 23) rfl)),
    kit_BadLetters_LanguageError := of_decide_eq_true (c.fb_ (f := .kit "BadLetters" "LanguageError" true) (List.mem_of_getElem? (i := 24) rfl)),
    exm_BadLetters_LanguageError := of_decide_eq_true (c.fb_ (f := .exm "BadLetters" "LanguageError" true) (List.mem_of_getElem? (i := 25) rfl)),
    kit_BadLetters_BadLetters := of_decide_eq_true (c.fb_ (f := .kit "BadLetters" "BadLetters" true) (List.mem_of_getElem? (i := 26) rfl)),
    exm_BadLetters_BadLetters := of_decide_eq_true (c.fb_ (f := .exm "BadLetters" "BadLetters" true) (List.mem_of_getElem? (i := 27) rfl)),
    kit_BadLetters_BadWord := of_decide_eq_true (c.fb_ (f := .kit "BadLetters" "BadWord" false) (List.mem_of_getElem? (i := 28) rfl)),
    exm_BadLetters_BadWord := of_decide_eq_true (c.fb_ (f := .exm "BadLetters" "BadWord" false) (List.mem_of_getElem? (i := 29) rfl)),
    kit_BadLetters_BadMachine := of_decide_eq_true (c.fb_ (f := .kit "BadLetters" "BadMachine" false) (List.mem_of_getElem? (i := 30) rfl)),
    exm_BadLetters_BadMachine := of_decide_eq_true (c.fb_ (f := .exm "BadLetters" "BadMachine" false) (List.mem_of_getElem? (i := 31) rfl)),
    kit_BadLetters_TooMany := of_decide_eq_true (c.fb_ (f := .kit "BadLetters" "TooMany" false) (List.mem_of_getElem? (i := 32) rfl)),
    exm_BadLetters_TooMany := of_decide_eq_true (c.fb_ (f := .exm "BadLetters" "TooMany" false) (List.mem_of_getElem? (i := 33) rfl)),
    kit_BadLetters_BadText := of_decide_eq_true (c.fb_ (f := .kit "BadLetters" "BadText" false) (List.mem_of_getElem? (i := 34) rfl)),
    exm_BadLetters_BadText := of_decide_eq_true (c.fb_ (f := .exm "BadLetters" "BadText" false) (List.mem_of_getElem? (i := 35) rfl)),
    kit_BadWord_LanguageError := of_decide_eq_true (c.fb_ (f := .kit "BadWord" "LanguageError" true) (List.mem_of_getElem? (i := 36) rfl)),
    exm_BadWord_LanguageError := of_decide_eq_true (c.fb_ (f := .exm "BadWord" "LanguageError" true) (List.mem_of_getElem? (i := 37) rfl)),
    kit_BadWord_BadLetters := of_decide_eq_true (c.fb_ (f := .kit "BadWord" "BadLetters" false) (List.mem_of_getElem? (i := 38) rfl)),
    exm_BadWord_BadLetters := of_decide_eq_true (c.fb_ (f := .exm "BadWord" "BadLetters" false) (List.mem_of_getElem? (i := 39) rfl)),
    kit_BadWord_BadWord := of_decide_eq_true (c.fb_ (f := .kit "BadWord" "BadWord" true) (List.mem_of_getElem? (i := 40) rfl)),
    exm_BadWord_BadWord := of_decide_eq_true (c.fb_ (f := .exm "BadWord" "BadWord" true) (List.mem_of_getElem? (i := 41) rfl)),
    kit_BadWord_BadMachine := of_decide_eq_true (c.fb_ (f := .kit "BadWord" "BadMachine" false) (List.mem_of_getElem? (i := 42) rfl)),
    exm_BadWord_BadMachine := of_decide_eq_true (c.fb_ (f := .exm "BadWord" "BadMachine" false) (List.mem_of_getElem? (i := 43) rfl)),
    kit_BadWord_TooMany := of_decide_eq_true (c.fb_ (f := .kit "BadWord" "TooMany" false) (List.mem_of_getElem? (i := 44) rfl)),
    exm_BadWord_TooMany := of_decide_eq_true (c.fb_ (f := .exm "BadWord" "TooMany" false) (List.mem_of_getElem? (i := 45) rfl)),
    kit_BadWord_BadText := of_decide_eq_true (c.fb_ (f := .kit "BadWord" "BadText" false) (List.mem_of_getElem? (i := 46) rfl)),
    exm_BadWord_BadText := of_decide_eq_true (c.fb_ (f := .exm "BadWord" "BadText" false) (List.mem_of_getElem? (i := 47) rfl)),
    kit_BadMachine_LanguageError := of_decide_eq_true (c.fb_ (f := .kit "BadMachine" "LanguageError" true) (List.mem_of_getElem? (i := 48) rfl)),
    exm_BadMachine_LanguageError := of_decide_eq_true (c.fb_ (f := .exm "BadMachine" "LanguageError" true) (List.mem_of_getElem? (i := 49) rfl)),
    kit_BadMachine_BadLetters := of_decide_eq_true (c.fb_ (f := .kit "BadMachine" "BadLetters" false) (List.mem_of_getElem? (i := 50) rfl)),
    exm_BadMachine_BadLetters := of_decide_eq_true (c.fb_ (f := .exm "BadMachine" "BadLetters" false) (List.mem_of_getElem? (i := 51) rfl)),
    kit_BadMachine_BadWord := of_decide_eq_true (c.fb_ (f := .kit "BadMachine" "BadWord" false) (List.mem_of_getElem? (i := 52) rfl)),
    exm_BadMachine_BadWord := of_decide_eq_true (c.fb_ (f := .exm "BadMachine" "BadWord" false) (List.mem_of_getElem? (i := 53) rfl)),
    kit_BadMachine_BadMachine := of_decide_eq_true (c.fb_ (f := .kit "BadMachine" "BadMachine" true) (List.mem_of_getElem? (i := 54) rfl)),
    exm_BadMachine_BadMachine := of_decide_eq_true (c.fb_ (f := .exm "BadMachine" "BadMachine" true) (List.mem_of_getElem? (i := 55) rfl)),
    kit_BadMachine_TooMany := of_decide_eq_true (c.fb_ (f := .kit "BadMachine" "TooMany" false) (List.mem_of_getElem? (i := 56) rfl)),
    exm_BadMachine_TooMany := of_decide_eq_true (c.fb_ (f := .exm "BadMachine" "TooMany" false) (List.mem_of_getElem? (i := 57) rfl)),
    kit_BadMachine_BadText := of_decide_eq_true (c.fb_ (f := .kit "BadMachine" "BadText" false) (List.mem_of_getElem? (i := 58) rfl)),
    exm_BadMachine_BadText := of_decide_eq_true (c.fb_ (f := .exm "BadMachine" "BadText" false) (List.mem_of_getElem? (i := 59) rfl)),
    kit_TooMany_LanguageError := of_decide_eq_true (c.fb_ (f := .kit "TooMany" "LanguageError" true) (List.mem_of_getElem? (i := 60) rfl)),
    exm_TooMany_LanguageError := of_decide_eq_true (c.fb_ (f := .exm "TooMany" "LanguageError" true) (List.mem_of_getElem? (i := 61) rfl)),
    kit_TooMany_BadLetters := of_decide_eq_true (c.fb_ (f := .kit "TooMany" "BadLetters" false) (List.mem_of_getElem? (i := 62) rfl)),
    exm_TooMany_BadLetters := of_decide_eq_true (c.fb_ (f := .exm "TooMany" "BadLetters" false) (List.mem_of_getElem? (i := 63) rfl)),
    kit_TooMany_BadWord := of_decide_eq_true (c.fb_ (f := .kit "TooMany" "BadWord" false) (List.mem_of_getElem? (i := 64) rfl)),
    exm_TooMany_BadWord := of_decide_eq_true (c.fb_ (f := .exm "TooMany" "BadWord" false) (List.mem_of_getElem? (i := 65) rfl)),
    kit_TooMany_BadMachine := of_decide_eq_true (c.fb_ (f := .kit "TooMany" "BadMachine" false) (List.mem_of_getElem? (i := 66) rfl)),
    exm_TooMany_BadMachine := of_decide_eq_true (c.fb_ (f := .exm "TooMany" "BadMachine" false) (List.mem_of_getElem? (i := 67) rfl)),
    kit_TooMany_TooMany := of_decide_eq_true (c.fb_ (f := .kit "TooMany" "TooMany" true) (List.mem_of_getElem? (i := 68) rfl)),
    exm_TooMany_TooMany := of_decide_eq_true (c.fb_ (f := .exm "TooMany" "TooMany" true) (List.mem_of_getElem? (i := 69) rfl)),
    kit_TooMany_BadText := of_decide_eq_true (c.fb_ (f := .kit "TooMany" "BadText" false) (List.mem_of_getElem? (i := 70) rfl)),
    exm_TooMany_BadText := of_decide_eq_true (c.fb_ (f := .exm "TooMany" "BadText" false) (List.mem_of_getElem? (i := 71) rfl)),
    kit_BadText_LanguageError := of_decide_eq_true (c.fb_ (f := .kit "BadText" "LanguageError" true) (List.mem_of_getElem? (i := 72) rfl)),
    exm_BadText_LanguageError := of_decide_eq_true (c.fb_ (f := .exm "BadText" "LanguageError" true) (List.mem_of_getElem? (i := 73) rfl)),
    kit_BadText_BadLetters := of_decide_eq_true (c.fb_ (f := .kit "BadText" "BadLetters" false) (List.mem_of_getElem? (i := 74) rfl)),
    exm_BadText_BadLetters := of_decide_eq_true (c.fb_ (f := .exm "BadText" "BadLetters" false) (List.mem_of_getElem? (i := 75) rfl)),
    kit_BadText_BadWord := of_decide_eq_true (c.fb_ (f := .kit "BadText" "BadWord" false) (List.mem_of_getElem? (i := 76) rfl)),
    exm_BadText_BadWord := of_decide_eq_true (c.fb_ (f := .exm "BadText" "BadWord" false) (List.mem_of_getElem? (i := 77) rfl)),
    kit_BadText_BadMachine := of_decide_eq_true (c.fb_ (f := .kit "BadText" "BadMachine" false) (List.mem_of_getElem? (i := 78) rfl)),
    exm_BadText_BadMachine := of_decide_eq_true (c.fb_ (f := .exm "BadText" "BadMachine" false) (List.mem_of_getElem? (i := 79) rfl)),
    kit_BadText_TooMany := of_decide_eq_true (c.fb_ (f := .kit "BadText" "TooMany" false) (List.mem_of_getElem? (i := 80) rfl)),
    exm_BadText_TooMany := of_decide_eq_true (c.fb_ (f := .exm "BadText" "TooMany" false) (List.mem_of_getElem? (i := 81) rfl)),
    kit_BadText_BadText := of_decide_eq_true (c.fb_ (f := .kit "BadText" "BadText" true) (List.mem_of_getElem? (i := 82) rfl)),
    exm_BadText_BadText := of_decide_eq_true (c.fb_ (f := .exm "BadText" "BadText" true) (List.mem_of_getElem? (i := 83) rfl)),
    kit_Machine_Machine := of_decide_eq_true (c.fb_ (f := .kit "Machine" "Machine" true) (List.mem_of_getElem? (i := 84) rfl)),
    d_wall := c.d.def_ 0 (d := d_wall) rfl,
    d_check_letters := c.d.def_ 1 (d := d_check_letters) rfl,
    d_check_word := c.d.def_ 2 (d := d_check_word) rfl,
    d_check_rows := c.d.def_ 3 (d := d_check_rows) rfl,
    d_Machine_init := c.d.def_ 4 (d := d_Machine_init) rfl,
    d_Machine_run := c.d.def_ 5 (d := d_Machine_run) rfl,
    d_Machine_contains := c.d.def_ 6 (d := d_Machine_contains) rfl,
    d_Machine_held_words := c.d.def_ 7 (d := d_Machine_held_words) rfl,
    d_number_of := c.d.def_ 8 (d := d_number_of) rfl,
    d_are_letters := c.d.def_ 9 (d := d_are_letters) rfl,
    d_machine_text := c.d.def_ 10 (d := d_machine_text) rfl,
    d_read_arrows := c.d.def_ 11 (d := d_read_arrows) rfl,
    d_read_machine := c.d.def_ 12 (d := d_read_machine) rfl,
    d_law_start := c.d.def_ 13 (d := d_law_start) rfl,
    d_law_next := c.d.def_ 14 (d := d_law_next) rfl,
    d_law_rows := c.d.def_ 15 (d := d_law_rows) rfl,
    d_law_text := c.d.def_ 16 (d := d_law_text) rfl,
    d_law_spoilt := c.d.def_ 17 (d := d_law_spoilt) rfl,
    d_law_letters := c.d.def_ 18 (d := d_law_letters) rfl,
    d_law_entry := c.d.def_ 19 (d := d_law_entry) rfl,
    d_law_read := c.d.def_ 20 (d := d_law_read) rfl,
    d_law_refused := c.d.def_ 21 (d := d_law_refused) rfl,
    d_law_same := c.d.def_ 22 (d := d_law_same) rfl,
    d_law := c.d.def_ 23 (d := d_law) rfl,
    i_BadWord := iniF_of (h := h) hm ht hs (c.fi_ 0 (d := i_BadWord) rfl).1 (c.fi_ 0 (d := i_BadWord) rfl).2,
    i_BadMachine := iniF_of (h := h) hm ht hs (c.fi_ 1 (d := i_BadMachine) rfl).1 (c.fi_ 1 (d := i_BadMachine) rfl).2,
    i_TooMany := iniF_of (h := h) hm ht hs (c.fi_ 2 (d := i_TooMany) rfl).1 (c.fi_ 2 (d := i_TooMany) rfl).2,
    i_BadText := iniF_of (h := h) hm ht hs (c.fi_ 3 (d := i_BadText) rfl).1 (c.fi_ 3 (d := i_BadText) rfl).2 }
end Hk90

namespace H90
open PySem PySem.Spec L2 He Y Hk90
local macro_rules | `(tactic| walk_at "rd1") => `(tactic| first
  | with_reducible refine s_seq ?_
  | with_reducible refine s_asg ?_
  | with_reducible refine s_gname ?_
  | ((with_reducible refine s_var (v := ?_) ?_ ?_); rotate_left; exact rfl)
  | with_reducible refine s_c ?_
  | with_reducible refine s_op ?_
  | with_reducible refine s_un ?_
  | with_reducible refine s_nil ?_
  | with_reducible refine s_cons ?_
  | with_reducible refine s_CB ?_
  | with_reducible refine s_ifS ?_
  | with_reducible refine s_test ?_
  | with_reducible refine s_B ?_
  | with_reducible refine s_xb ?_
  | with_reducible refine s_xi ?_
  | with_reducible refine s_xs ?_
  | with_reducible refine s_or ?_
  | with_reducible refine s_and ?_
  | with_reducible refine s_not ?_
  | with_reducible refine s_orV ?_
  | with_reducible refine s_andV ?_
  | with_reducible refine s_notV ?_
  | with_reducible refine s_ret ?_
  | with_reducible refine s_retN ?_
  | with_reducible refine s_next ?_
  | with_reducible refine s_drop ?_
  | with_reducible refine s_yes ?_
  | with_reducible refine s_for ?_
  | with_reducible refine s_lc ?_
  | with_reducible refine s_iStr ?_
  | with_reducible refine s_iList ?_
  | with_reducible refine s_iTup ?_
  | with_reducible refine s_iR1 ?_
  | with_reducible refine s_iR2 ?_
  | with_reducible refine s_iE ?_
  | with_reducible refine s_iET ?_
  | with_reducible refine s_iES ?_
  | with_reducible refine s_tup ?_
  | with_reducible refine s_lst ?_
  | with_reducible refine s_BM ?_
  | with_reducible refine s_BM0 ?_
  | with_reducible refine s_BMS ?_
  | with_reducible refine s_M1 ?_
  | with_reducible refine s_sl ?_
  | with_reducible refine s_noP ?_
  | with_reducible refine s_po ?_
  | with_reducible refine s_call ?_
  | with_reducible refine s_callS ?_
  | with_reducible refine s_make ?_
  | with_reducible refine s_fld ?_
  | with_reducible refine s_sFld ?_
  | with_reducible refine s_rz ?_
  | with_reducible refine s_asgS ?_
  | with_reducible refine s_gSub ?_
  | with_reducible refine s_ifE ?_
  | with_reducible refine s_add_i ?_
  | with_reducible refine s_sub ?_
  | with_reducible refine s_neg ?_
  | with_reducible refine s_eq_i ?_
  | with_reducible refine s_eq_s ?_
  | with_reducible refine s_ne_i ?_
  | with_reducible refine s_ne_s ?_
  | with_reducible refine s_lt_i ?_
  | with_reducible refine s_le_i ?_
  | with_reducible refine s_gt_i ?_
  | with_reducible refine s_ge_i ?_
  | with_reducible refine s_lt_s ?_
  | with_reducible refine s_le_s ?_
  | with_reducible refine s_gt_s ?_
  | with_reducible refine s_ge_s ?_
  | with_reducible refine s_in_c ?_
  | with_reducible refine s_ni_c ?_
  | with_reducible refine s_isN ?_
  | with_reducible refine s_noN ?_
  | with_reducible refine s_abs ?_
  | with_reducible refine s_min2 ?_
  | with_reducible refine s_max2 ?_
  | with_reducible refine s_int_i ?_
  | ((with_reducible refine s_len_s ?_ ?_); assumption)
  | ((with_reducible refine s_len_l (xs := ?_) ?_ ?_); rotate_left; assumption)
  | ((with_reducible refine s_len_t (xs := ?_) ?_ ?_); rotate_left; assumption)
  | with_reducible refine s_pair upd_same ?_
  | with_reducible refine s_callS ?_
  | with_reducible refine jtT ?_
  | with_reducible refine jtF ?_
  | dsimp only)
local macro_rules | `(tactic| walk_at "rd") => `(tactic| repeat (walk_at "rd1"))

/-! ### what the two readers compute -/
def SM : Str := "abcdefghijklmnopqrstuvwxyz"
def DG : Str := "0123456789"
def okFrom : List Nat → List Nat → Bool
  | _, [] => true
  | b, c :: r => if c ∉ SM.cps.toList ∨ ¬ b < [c] then false else okFrom [c] r
theorem okFrom_cons (b : List Nat) (c : Nat) (r : List Nat) : okFrom b (c :: r) = if c ∉ SM.cps.toList ∨ ¬ b < [c] then false else okFrom [c] r := rfl
def okLetters (s : Str) : Bool := decide (1 ≤ s.length) && decide (s.length ≤ 4) && okFrom [] s.cps.toList
theorem str_get {z : Str} {i : Nat} {c : Nat} (h : z.cps[i]? = some c) : z.cps.toList.drop i = c :: z.cps.toList.drop (i + 1) := by
  have h1 : z.cps.toList[i]? = some c := by simpa using h
  obtain ⟨hi, e⟩ := List.getElem?_eq_some_iff.mp h1
  rw [List.drop_eq_getElem_cons hi, e]
section
variable {P : Program} {w : World} {K : PySem.W.Frag} {mg : Str → Option Value} {base : Heap}
/-! ### errors -/
theorem S_BadText : IniScope ["self", "line"] ["self", "line"] (i_BadText).scope := ⟨rfl, rfl, rfl, by decide, rfl, by decide +kernel, by decide +kernel, by decide +kernel, by decide +kernel, by decide +kernel⟩
theorem z_BadText (T : Txt P w K mg) : Rz P w K mg base "BadText" (ga K "BadText") ["line"] := by
  refine rz_of T.i_BadText T.g_BadText T.e_BadText.o S_BadText rfl rfl (by decide) (fun env => ⟨_, rfl⟩) rfl (fun _ _ _ _ _ _ _ us hl => match us, hl with | [_, _], _ => rfl) ?_
  intro kV doc pm an cdv ct cc A outer s H a ws Q E hl ha q
  obtain ⟨w1, rfl⟩ : ∃ w1, ws = [w1] := by
    match ws, hl with
    | [w1], _ => exact ⟨w1, rfl⟩
  refine ⟨_, pss_one (ps_ost (pv 0) (pv 1)), ?_⟩
  exact ⟨_, rfl, _, rfl, a, _, rfl, T.e_BadText.o, T.no_BadText_line, .inl ⟨ha, fun dx h1 h2 => q dx h1 h2⟩⟩
/-! ### check_letters -/
theorem S_check_letters : FnScope ["letters", "before", "letter"] ["letters"] (d_check_letters).scope := ⟨rfl, rfl, rfl, by decide +kernel, rfl, by decide +kernel, by decide +kernel⟩
def sp_check_letters (K : PySem.W.Frag) : Sp := fun vs H Q E => ∃ s : Str, vs = [.str s] ∧ s.length ≤ sizeLine ∧ (okLetters s = true → Q .non H) ∧ (okLetters s = false → E (.ref (ga K "BadLetters")) none H)
theorem w_check_letters (T : Txt P w K mg) : Has P w K mg base 3 "check_letters" (sp_check_letters K) := by
  have S := S_check_letters
  refine has_of (k := 2) T.d_check_letters T.gd_check_letters S (fun _ _ _ _ _ _ us hl => match us, hl with | [_], _ => rfl) (fun vs H Q E h => ?_) (fun f cdv A outer s H vs Q E hr h => ?_)
  · obtain ⟨s, rfl, _⟩ := h
    rfl
  · obtain ⟨z, rfl, hz, q1, q2⟩ := h
    refine ⟨_, (pss_cons (ps_if (PW.pt (pw_or (pt_cmpR c_lt (pe_callB (bK_len K) (by rfl) T.b_len (by decide +kernel) (pa_cons (pv 0) pa_nil)) pe_int (nomark _)) (pw_or1 (pt_cmpR c_gt (pe_callB (bK_len K) (by rfl) T.b_len (by decide +kernel) (pa_cons (pv 0) pa_nil)) (pe_gI rfl T.c_MOST_KINDS_OF_LETTERS) (nomark _)))))
      (pss_one (ps_raise rfl (takes_of rfl rfl rfl rfl) (pmk_own PySem.F.excBase_ValueError T.x_BadLetters T.g_BadLetters T.k_BadLetters (raises_own T.s_BadLetters T.t_BadLetters) rfl)))
      pss_nil)
    (pss_cons (ps_set (i := 1) S.nd rfl (Or.inl rfl) pe_str)
    (pss_one (ps_for (passes_of rfl) rfl (pi_str (pv 0)) (pg_name (i := 2) S.nd rfl (Or.inl rfl))
      (pss_cons (ps_if (PW.pt (pw_or (pt_cmpR (cK_ni K) (pv 2) (pe_gS rfl T.c_SMALL) rfl) (pw_or1 (pt_cmpR c_le (pv 2) (pv 1) (nomark _)))))
      (pss_one (ps_raise rfl (takes_of rfl rfl rfl rfl) (pmk_own PySem.F.excBase_ValueError T.x_BadLetters T.g_BadLetters T.k_BadLetters (raises_own T.s_BadLetters T.t_BadLetters) rfl)))
      pss_nil)
    (pss_one (ps_set (i := 1) S.nd rfl (Or.inl rfl) (pv 2)))))))), ?_⟩
    walk_at "rd"
    refine jtD (fun e => q2 ?_) (fun e1 => ?_)
    · have e' : ¬ 1 ≤ z.length := by omega
      simp [okLetters, e']
    walk_at "rd"
    refine jtD (fun e => q2 ?_) (fun e2 => ?_)
    · have e' : ¬ z.length ≤ 4 := by omega
      simp [okLetters, e']
    have hk : okLetters z = okFrom [] z.cps.toList := by
      have a1 : 1 ≤ z.length := by omega
      have a2 : z.length ≤ 4 := by omega
      simp [okLetters, a1, a2]
    rw [hk] at q1 q2
    walk_at "rd"
    refine lp_it walk_str (fun i σ H' => H' = H ∧ ∃ b l, σ = [some (.str z), some (.str b), l] ∧ okFrom b.cps.toList (z.cps.toList.drop i) = okFrom [] z.cps.toList) ⟨rfl, "", none, rfl, rfl⟩ (fun _ _ _ _ _ => trivial) ?_ ?_
    · rintro i x σ H1 H2 hi ⟨rfl, b, l, rfl, eb⟩ ⟨rfl, c, hc, rfl⟩
      rw [str_get hc] at eb
      rw [okFrom_cons] at eb
      walk_at "rd"
      refine jtN (fun e => q2 ?_) (fun e1 => ?_)
      · rw [← eb, if_pos (.inl e)]
      walk_at "rd"
      refine jtN (fun e => q2 ?_) (fun e2 => ?_)
      · rw [← eb, if_pos (.inr e)]
      rw [if_neg (fun z => z.elim (fun z => z e1) fun z => z e2)] at eb
      walk_at "rd"
      exact ⟨rfl, _, _, rfl, eb⟩
    · rintro σ H1 ⟨rfl, b, l, rfl, eb⟩
      refine q1 ?_
      rw [← eb, List.drop_of_length_le (by simp)]
      rfl
/-! ### check_rows -/
def asc (n : Int) : Int → List Int → Prop
  | _, [] => True
  | b, x :: r => b < x ∧ x < n ∧ asc n x r
structure Good (n : Nat) (rows : List (List Int)) (ends : List Int) : Prop where
  ne : rows ≠ []
  few : rows.length ≤ 128
  row : ∀ r ∈ rows, r.length = n ∧ ∀ t ∈ r, -1 ≤ t ∧ t < rows.length
  asc : asc rows.length (-1) ends
theorem S_check_rows : FnScope ["letters", "arrows", "ends", "before", "state", "number", "row"] ["letters", "arrows", "ends"] (d_check_rows).scope := ⟨rfl, rfl, rfl, by decide +kernel, rfl, by decide +kernel, by decide +kernel⟩
def sp_check_rows (K : PySem.W.Frag) : Sp := fun vs H Q E => ∃ (D : Hp) (s : Str) (u v : V) (rows : List (List Int)) (ends : List Int), vs = [.str s, u, v] ∧ s.length ≤ sizeLine ∧ Same D H ∧ Dp K D u (dLL rows) ∧ Dp K D v (dL ends) ∧ Good s.length rows ends ∧ ∀ D' H', Gr No D H D' H' → Q .non H'
theorem w_check_rows (T : Txt P w K mg) : Has P w K mg base 3 "check_rows" (sp_check_rows K) := by
  have S := S_check_rows
  refine has_of (k := 2) T.d_check_rows T.gd_check_rows S (fun _ _ _ _ _ _ us hl => match us, hl with | [_, _, _], _ => rfl) (fun vs H Q E h => ?_) (fun f cdv A outer s H vs Q E hr h => ?_)
  · obtain ⟨D, s, u, v, rows, ends, rfl, _⟩ := h
    rfl
  · obtain ⟨D, z, u, v, rows, ends, rfl, hz, sm, du, dv, G, q⟩ := h
    obtain ⟨a, xs, rfl, ha, hxs⟩ := dp_list du
    obtain ⟨e, rfl, he⟩ := dp_L dv
    have hxl : xs.length = rows.length := by rw [dpl_len hxs, List.length_map]
    have hb := G.few
    have hne : 1 ≤ rows.length := by
      have := G.ne
      cases h : rows with
      | nil => exact absurd h this
      | cons x r => simp
    refine ⟨_, (pss_cons (ps_if (pt_cmpR (cK_eq K hr.units) (pe_callB (bK_len K) (by rfl) T.b_len (by decide +kernel) (pa_cons (pv 1) pa_nil)) pe_int (nomark _))
      (pss_one ps_dead)
      pss_nil)
    (pss_cons (ps_if (pt_cmpR c_gt (pe_callB (bK_len K) (by rfl) T.b_len (by decide +kernel) (pa_cons (pv 1) pa_nil)) (pe_gI rfl T.c_MOST_STATES) (nomark _))
      (pss_one ps_dead)
      pss_nil)
    (pss_cons (ps_for (passes_of rfl) rfl (piK_enum K (by rfl) T.b_enumerate (pa_cons (pv 1) pa_nil)) (pgK_tup K (n := 2) rfl (pgs_cons (pg_name (i := 5) S.nd rfl (Or.inl rfl)) (pgs_cons (pg_name (i := 6) S.nd rfl (Or.inl rfl)) pgs_nil)))
      (pss_cons (ps_if (pt_cmpR (cK_ne K hr.units) (pe_callB (bK_len K) (by rfl) T.b_len (by decide +kernel) (pa_cons (pv 6) pa_nil)) (pe_callB (bK_len K) (by rfl) T.b_len (by decide +kernel) (pa_cons (pv 0) pa_nil)) (nomark _))
      (pss_one ps_dead)
      pss_nil)
    (pss_one (ps_for (passes_of rfl) rfl (piK_list K (pv 6)) (pg_name (i := 4) S.nd rfl (Or.inl rfl))
      (pss_one (ps_if (PW.pt (pw_or (pt_cmpR c_lt (pv 4) (pe_un o_neg pe_int) (nomark _)) (pw_or1 (pt_cmpR c_ge (pv 4) (pe_callB (bK_len K) (by rfl) T.b_len (by decide +kernel) (pa_cons (pv 1) pa_nil)) (nomark _)))))
      (pss_one ps_dead)
      pss_nil))))))
    (pss_cons (ps_set (i := 3) S.nd rfl (Or.inl rfl) (pe_un o_neg pe_int))
    (pss_one (ps_for (passes_of rfl) rfl (piK_list K (pv 2)) (pg_name (i := 4) S.nd rfl (Or.inl rfl))
      (pss_cons (ps_if (PW.pt (pw_or (pt_cmpR c_le (pv 4) (pv 3) (nomark _)) (pw_or1 (pt_cmpR c_ge (pv 4) (pe_callB (bK_len K) (by rfl) T.b_len (by decide +kernel) (pa_cons (pv 1) pa_nil)) (nomark _)))))
      (pss_one ps_dead)
      pss_nil)
    (pss_one (ps_set (i := 3) S.nd rfl (Or.inl rfl) (pv 4)))))))))), ?_⟩
    have haH : SqL K H a xs := sm.seq ha
    walk_at "rd"
    refine jtD (fun e => ?_) (fun _ => ?_)
    · rw [hxl] at e
      omega
    walk_at "rd"
    refine jtD (fun e => ?_) (fun _ => ?_)
    · rw [hxl] at e
      omega
    walk_at "rd"
    refine ⟨a, xs, rfl, haH, lp_it walk_enum (fun i σ H' => ∃ D' o3 o4 o5 o6, Gr No D H D' H' ∧ σ = [some (.str z), some (.ref a), some (.ref e), o3, o4, o5, o6]) ⟨D, _, _, _, _, Gr.refl sm, rfl⟩ (fun i σ H' _ ⟨D', _, _, _, _, g, _⟩ => sql_up g ha) ?_ ?_⟩
    · rintro i x σ H1 H2 hi ⟨D1, o3, o4, o5, o6, g, rfl⟩ ⟨t, x1, x2, rfl, nt, rfl, e1, e2⟩
      cases e1
      obtain ⟨d, hd, hx2⟩ := dpl_get hxs e2
      rw [List.getElem?_map] at hd
      obtain ⟨r, hr, rfl⟩ := Option.map_eq_some_iff.mp hd
      obtain ⟨b, rfl, hb2⟩ := dp_L hx2
      obtain ⟨hr1, hr2⟩ := G.row r (List.mem_of_getElem? hr)
      have g2 := g.lay (o := .tup [.int i, .ref b]) nt
      have hbH := sql_up g2 hb2
      have haH2 := sql_up g2 ha
      walk_at "rd"
      refine jtN (fun e => ?_) (fun _ => ?_)
      · rw [List.length_map] at e
        omega
      walk_at "rd"
      refine ⟨_, rfl, ⟨_, hbH⟩, lp_it walk_list (fun j σ H' => H' = upd H1 t (.tup [.int i, .ref b]) ∧ ∃ o4, σ = [some (.str z), some (.ref a), some (.ref e), o3, o4, some (.int i), some (.ref b)]) ⟨rfl, _, rfl⟩ (fun _ _ _ _ ⟨e, _⟩ => by rw [e]; exact hbH) ?_ ?_⟩
      · rintro j x σ H3 H4 hj ⟨rfl, o4, rfl⟩ ⟨rfl, e3⟩
        rw [List.getElem?_map] at e3
        obtain ⟨k, hk, rfl⟩ := Option.map_eq_some_iff.mp e3
        have hk2 := hr2 k (List.mem_of_getElem? hk)
        walk_at "rd"
        refine jtD (fun e => ?_) (fun _ => ?_)
        · omega
        walk_at "rd"
        refine jtD (fun e => ?_) (fun _ => ?_)
        · rw [hxl] at e
          omega
        walk_at "rd"
        exact ⟨rfl, _, rfl⟩
      · rintro σ H3 ⟨rfl, o4, rfl⟩
        exact ⟨D1, _, _, _, _, g2, rfl⟩
    · rintro σ H1 ⟨D1, o3, o4, o5, o6, g, rfl⟩
      have heH := sql_up g he
      have haH2 := sql_up g ha
      walk_at "rd"
      refine ⟨_, rfl, ⟨_, heH⟩, lp_it walk_list (fun j σ H' => H' = H1 ∧ ∃ o4 b, σ = [some (.str z), some (.ref a), some (.ref e), some (.int b), o4, o5, o6] ∧ asc rows.length b (ends.drop j)) ⟨rfl, _, -1, rfl, G.asc⟩ (fun _ _ _ _ ⟨e, _⟩ => by rw [e]; exact heH) ?_ ?_⟩
      · rintro j x σ H3 H4 hj ⟨rfl, o4, b, rfl, hA⟩ ⟨rfl, e3⟩
        rw [List.getElem?_map] at e3
        obtain ⟨k, hk, rfl⟩ := Option.map_eq_some_iff.mp e3
        obtain ⟨hj1, ek⟩ := List.getElem?_eq_some_iff.mp hk
        rw [List.drop_eq_getElem_cons hj1, ek] at hA
        obtain ⟨h1, h2, h3⟩ := hA
        walk_at "rd"
        refine jtD (fun e => ?_) (fun _ => ?_)
        · omega
        walk_at "rd"
        refine jtD (fun e => ?_) (fun _ => ?_)
        · rw [hxl] at e
          omega
        walk_at "rd"
        exact ⟨rfl, _, _, rfl, h3⟩
      · rintro σ H3 ⟨rfl, _⟩
        exact q _ _ g
end
end H90

namespace H90
open PySem PySem.Spec L2 He Y Hk90
local macro_rules | `(tactic| walk_at "rd1") => `(tactic| first
  | with_reducible refine s_seq ?_
  | with_reducible refine s_asg ?_
  | with_reducible refine s_gname ?_
  | ((with_reducible refine s_var (v := ?_) ?_ ?_); rotate_left; exact rfl)
  | with_reducible refine s_c ?_
  | with_reducible refine s_op ?_
  | with_reducible refine s_un ?_
  | with_reducible refine s_nil ?_
  | with_reducible refine s_cons ?_
  | with_reducible refine s_CB ?_
  | with_reducible refine s_ifS ?_
  | with_reducible refine s_test ?_
  | with_reducible refine s_B ?_
  | with_reducible refine s_xb ?_
  | with_reducible refine s_xi ?_
  | with_reducible refine s_xs ?_
  | with_reducible refine s_or ?_
  | with_reducible refine s_and ?_
  | with_reducible refine s_not ?_
  | with_reducible refine s_orV ?_
  | with_reducible refine s_andV ?_
  | with_reducible refine s_notV ?_
  | with_reducible refine s_ret ?_
  | with_reducible refine s_retN ?_
  | with_reducible refine s_next ?_
  | with_reducible refine s_drop ?_
  | with_reducible refine s_yes ?_
  | with_reducible refine s_for ?_
  | with_reducible refine s_lc ?_
  | with_reducible refine s_iStr ?_
  | with_reducible refine s_iList ?_
  | with_reducible refine s_iTup ?_
  | with_reducible refine s_iR1 ?_
  | with_reducible refine s_iR2 ?_
  | with_reducible refine s_iE ?_
  | with_reducible refine s_iET ?_
  | with_reducible refine s_iES ?_
  | with_reducible refine s_tup ?_
  | with_reducible refine s_lst ?_
  | with_reducible refine s_BM ?_
  | with_reducible refine s_BM0 ?_
  | with_reducible refine s_BMS ?_
  | with_reducible refine s_M1 ?_
  | with_reducible refine s_sl ?_
  | with_reducible refine s_noP ?_
  | with_reducible refine s_po ?_
  | with_reducible refine s_call ?_
  | with_reducible refine s_callS ?_
  | with_reducible refine s_make ?_
  | with_reducible refine s_fld ?_
  | with_reducible refine s_sFld ?_
  | with_reducible refine s_rz ?_
  | with_reducible refine s_asgS ?_
  | with_reducible refine s_gSub ?_
  | with_reducible refine s_ifE ?_
  | with_reducible refine s_add_i ?_
  | with_reducible refine s_sub ?_
  | with_reducible refine s_neg ?_
  | with_reducible refine s_eq_i ?_
  | with_reducible refine s_eq_s ?_
  | with_reducible refine s_ne_i ?_
  | with_reducible refine s_ne_s ?_
  | with_reducible refine s_lt_i ?_
  | with_reducible refine s_le_i ?_
  | with_reducible refine s_gt_i ?_
  | with_reducible refine s_ge_i ?_
  | with_reducible refine s_lt_s ?_
  | with_reducible refine s_le_s ?_
  | with_reducible refine s_gt_s ?_
  | with_reducible refine s_ge_s ?_
  | with_reducible refine s_in_c ?_
  | with_reducible refine s_ni_c ?_
  | with_reducible refine s_isN ?_
  | with_reducible refine s_noN ?_
  | with_reducible refine s_abs ?_
  | with_reducible refine s_min2 ?_
  | with_reducible refine s_max2 ?_
  | with_reducible refine s_int_i ?_
  | ((with_reducible refine s_len_s ?_ ?_); assumption)
  | ((with_reducible refine s_len_l (xs := ?_) ?_ ?_); rotate_left; assumption)
  | ((with_reducible refine s_len_t (xs := ?_) ?_ ?_); rotate_left; assumption)
  | with_reducible refine s_pair upd_same ?_
  | with_reducible refine s_callS ?_
  | with_reducible refine jtT ?_
  | with_reducible refine jtF ?_
  | dsimp only)
local macro_rules | `(tactic| walk_at "rd") => `(tactic| repeat (walk_at "rd1"))

/-! ### a machine -/
structure IsM (K : PySem.W.Frag) (D : Hp) (v : V) (s : Str) (rows : List (List Int)) (ends : List Int) : Prop where
  ex : ∃ (a dx : Addr) (p q : V), v = .ref a ∧ D a = some (.ins (ga K "Machine") dx [("letters", .str s), ("arrows", p), ("ends", q)]) ∧ Dp K D p (dTT rows) ∧ Dp K D q (dT ends)
theorem IsM.up {K : PySem.W.Frag} {D D' : Hp} {v : V} {s : Str} {rows : List (List Int)} {ends : List Int} (e : Same D D') (h : IsM K D v s rows ends) : IsM K D' v s rows ends := by
  obtain ⟨a, dx, p, q, h1, h2, h3, h4⟩ := h
  exact ⟨a, dx, p, q, h1, e _ _ h2, Y.Dp.mono e h3, Y.Dp.mono e h4⟩
/-- the number that a part of a line tells -/
def numM (p : Str) : Option Int :=
  if p = "" then none else if p.cps.toList.any (fun c => !decide (c ∈ DG.cps.toList)) then none else if 6 < p.length then none else if p.cps.toList.head? = some 48 ∧ 1 < p.length then none else some ((NumText.digitsVal p.cps.toList : Nat) : Int)
def oV : Option Int → V
  | none => .non
  | some n => .int n
theorem DG_digit : ∀ c, c ∈ DG.cps.toList → 48 ≤ c ∧ c ≤ 57 := by
  have h : ∀ c ∈ DG.cps.toList, 48 ≤ c ∧ c ≤ 57 := by decide +kernel
  exact h
section
variable {P : Program} {w : World} {K : PySem.W.Frag} {mg : Str → Option Value} {base : Heap}
theorem S_Machine_init : FnScope ["self", "letters", "arrows", "ends", "row"] ["self", "letters", "arrows", "ends"] (d_Machine_init).scope := ⟨rfl, rfl, rfl, by decide +kernel, rfl, by decide +kernel, by decide +kernel⟩
def sp_Machine (K : PySem.W.Frag) : Sp := fun vs H Q E => ∃ (D : Hp) (x dx : Addr) (s : Str) (u v : V) (rows : List (List Int)) (ends : List Int), vs = [.ref x, .str s, u, v] ∧ s.length ≤ sizeLine ∧ Same D H ∧ D x = none ∧ H x = some (.ins (ga K "Machine") dx []) ∧
  Dp K D u (dLL rows) ∧ Dp K D v (dL ends) ∧ okLetters s = true ∧ Good s.length rows ends ∧ ∀ D' H' p q, Gr (· = x) D H D' H' → D' x = none → H' x = some (.ins (ga K "Machine") dx [("letters", .str s), ("arrows", p), ("ends", q)]) → Dp K D' p (dTT rows) → Dp K D' q (dT ends) → Q .non H'
theorem w_Machine (T : Txt P w K mg) : HasC P w K mg base 4 "Machine" (ga K "Machine") (sp_Machine K) := by
  have S := S_Machine_init
  have G_check_letters := w_check_letters (base := base) T
  have G_check_rows := w_check_rows (base := base) T
  refine hasC_of (k := 3) T.d_Machine_init T.g_Machine T.mk_Machine S (fun _ _ _ _ _ _ us hl => match us, hl with | [_, _, _, _], _ => rfl) (fun vs H Q E h => ?_) (fun f cdv A outer s H vs Q E hr h => ?_)
  · obtain ⟨D, x, dx, s, u, v, rows, ends, rfl, _⟩ := h
    rfl
  · obtain ⟨D, x, dx, z, u, v, rows, ends, rfl, hz, sm, hDx, hHx, du, dv, hok, G, q⟩ := h
    obtain ⟨a, xs, rfl, ha, hxs⟩ := dp_list du
    obtain ⟨e, rfl, he⟩ := dp_L dv
    refine ⟨_, (pss_cons (ps_expr (pe_has G_check_letters (hr.mono (by decide)) (takes_of rfl rfl rfl rfl) rfl (pa_cons (pv 1) pa_nil)))
    (pss_cons (ps_expr (pe_has G_check_rows (hr.mono (by decide)) (takes_of rfl rfl rfl rfl) rfl (pa_cons (pv 1) (pa_cons (pv 2) (pa_cons (pv 3) pa_nil)))))
    (pss_cons (psK_fld K (pv 0) (pv 1) rfl)
    (pss_cons (psK_fld K (pv 0) (pe_callTy (bK_tuple K) (by rfl) T.b_tuple (by decide +kernel) (pa_cons (pe_lc (own := [("row", 4)]) (by rfl) S.nd (piK_list K (pv 2)) (blkOk_by (by rfl)) (fun _ _ _ _ _ => (pg_name (i := 4) S.nd rfl (Or.inl rfl))) (fun _ _ _ _ _ => pts_nil) (fun _ _ _ _ _ => (pe_callTy (bK_tuple K) (by rfl) T.b_tuple (by decide +kernel) (pa_cons (pv 4) pa_nil)))) pa_nil)) rfl)
    (pss_one (psK_fld K (pv 0) (pe_callTy (bK_tuple K) (by rfl) T.b_tuple (by decide +kernel) (pa_cons (pv 3) pa_nil)) rfl)))))), ?_⟩
    walk_at "rd"
    refine ⟨z, rfl, hz, fun _ => ?_, fun z => by rw [hok] at z; cases z⟩
    walk_at "rd"
    refine ⟨D, z, _, _, rows, ends, rfl, hz, sm, du, dv, G, fun D1 H1 g1 => ?_⟩
    have hx1 := g1.same x _ (fun z => z) hHx
    have hD1 := g1.stay hDx hHx
    walk_at "rd"
    refine ⟨x, _, _, _, rfl, hx1, T.cl_Machine, T.na_Machine_letters, of_decide_eq_true rfl, ?_⟩
    have g2 := (g1.weak (m' := (· = x)) (fun _ z => z.elim)).put (o := .ins (ga K "Machine") dx [("letters", .str z)]) hD1 (.inr rfl)
    have hx2 : (upd H1 x (.ins (ga K "Machine") dx [("letters", .str z)])) x = _ := upd_same
    walk_at "rd"
    refine ⟨a, rfl, ⟨xs, sql_up g2 ha⟩, fun p np => lq_gr (m := No) walk_list D1 (fun i acc D2 => DpAll K D2 acc ((rows.take i).map dT)) np g2.sub .nil (fun D3 H3 g3 => (g2.trans g3.no).same'.seq ha) ?_ ?_⟩
    · rintro i x' acc D3 H3 H4 hi g3 hp hDp hR ⟨rfl, ex⟩
      obtain ⟨d, hd, hx'⟩ := dpl_get hxs ex
      rw [List.getElem?_map] at hd
      obtain ⟨r, hr, rfl⟩ := Option.map_eq_some_iff.mp hd
      obtain ⟨b, rfl, hb2⟩ := dp_L hx'
      walk_at "rd"
      refine ⟨rfl, ?_⟩
      walk_at "rd"
      refine s_tup_l (sql_up (g2.trans g3.no) hb2) fun l nl => lc_put np (fun z => z) g3 hp hDp ((Gr.refl g3.sub).ice nl) ?_ ?_
      · rw [dpl_len hR, List.length_map, List.length_take]
        exact small1000 (Nat.le_trans (Nat.min_le_right _ _) (Nat.le_trans G.few (by decide)))
      · rw [List.take_add_one, hr, List.map_append]
        refine dpl_snoc (Y.Dp.monoAll ((Gr.refl (m := No) g3.sub).ice nl).dd hR) (dp_ofT (sqt upd_same))
    · intro acc D3 H3 g3 hp hDp hR
      have hl : xs.length = rows.length := by rw [dpl_len hxs, List.length_map]
      rw [hl, List.take_length] at hR
      walk_at "rd"
      refine s_tup_l (sql hp) fun l nl => ?_
      have g4 := (g2.trans g3.no).ice (o := .tup acc) nl
      have hx4 := ((g3.lay (o := .tup acc) nl).same x _ (fun z => z) hx2)
      have hD4 := g4.stay hDx hHx
      have dA : Dp K (upd D3 l (.tup acc)) (.ref l) (dTT rows) := .tup (sqt upd_same) (Y.Dp.monoAll ((Gr.refl (m := No) g3.sub).ice nl).dd hR)
      walk_at "rd"
      refine ⟨x, _, _, _, rfl, hx4, T.cl_Machine, T.na_Machine_arrows, of_decide_eq_true rfl, ?_⟩
      have g5 := g4.put (o := .ins (ga K "Machine") dx [("letters", .str z), ("arrows", .ref l)]) hD4 (.inr rfl)
      walk_at "rd"
      refine s_tup_l (sql_up g5 he) fun l2 nl2 => ?_
      have g6 := g5.ice (o := .tup (ends.map V.int)) nl2
      have nx2 : x ≠ l2 := fun e => by rw [← e, upd_same] at nl2; cases nl2
      have hD6 := g6.stay hDx hHx
      walk_at "rd"
      refine ⟨x, _, _, _, rfl, (upd_ne nx2).trans upd_same, T.cl_Machine, T.na_Machine_ends, of_decide_eq_true rfl, ?_⟩
      have g7 := g6.put (o := .ins (ga K "Machine") dx [("letters", .str z), ("arrows", .ref l), ("ends", .ref l2)]) hD6 (.inr rfl)
      exact q _ _ _ _ g7 hD6 upd_same (Y.Dp.mono ((Gr.refl (m := No) g5.sub).ice nl2).dd dA) (dp_ofT (sqt upd_same))
/-! ### number_of -/
theorem S_number_of : FnScope ["part", "sign"] ["part"] (d_number_of).scope := ⟨rfl, rfl, rfl, by decide +kernel, rfl, by decide +kernel, by decide +kernel⟩
def sp_number_of (K : PySem.W.Frag) : Sp := fun vs H Q E => ∃ (D : Hp) (s : Str), vs = [.str s] ∧ s.length ≤ sizeLine ∧ Same D H ∧ ∀ D' H', Gr No D H D' H' → Q (oV (numM s)) H'
theorem w_number_of (T : Txt P w K mg) : Has P w K mg base 3 "number_of" (sp_number_of K) := by
  have S := S_number_of
  refine has_of (k := 2) T.d_number_of T.gd_number_of S (fun _ _ _ _ _ _ us hl => match us, hl with | [_], _ => rfl) (fun vs H Q E h => ?_) (fun f cdv A outer s H vs Q E hr h => ?_)
  · obtain ⟨D, s, rfl, _⟩ := h
    rfl
  · obtain ⟨D, z, rfl, hz, sm, q⟩ := h
    refine ⟨_, (pss_cons (ps_if (PW.pt (pw_or (pt_cmpR (cK_eq K hr.units) (pv 0) pe_str (nomark _)) (pw_or (pt_val (pe_callB (crK_any K rfl) (by rfl) T.b_any (by decide +kernel) (pa_cons (pe_lc (own := [("sign", 1)]) (by rfl) S.nd (pi_str (pv 0)) (blkOk_by (by rfl)) (fun _ _ _ _ _ => (pg_name (i := 1) S.nd rfl (Or.inl rfl))) (fun _ _ _ _ _ => pts_nil) (fun _ _ _ _ _ => (pe_cmpR (cK_ni K) (pv 1) (pe_gS rfl T.c_DIGITS) rfl))) pa_nil))) (pw_or1 (pt_cmpR c_gt (pe_callB (bK_len K) (by rfl) T.b_len (by decide +kernel) (pa_cons (pv 0) pa_nil)) pe_int (nomark _))))))
      (pss_one (ps_ret pe_non))
      pss_nil)
    (pss_cons (ps_if (PW.pt (pw_and (pt_cmpR (cK_eq K hr.units) (pe_ix (ixK_seq K) (pv 0) pe_int (fun _ _ => rfl)) pe_str (nomark _)) (pw_and1 (pt_cmpR c_gt (pe_callB (bK_len K) (by rfl) T.b_len (by decide +kernel) (pa_cons (pv 0) pa_nil)) pe_int (nomark _)))))
      (pss_one (ps_ret pe_non))
      pss_nil)
    (pss_one (ps_ret (pe_callTy b_int (by rfl) T.b_int (by decide +kernel) (pa_cons (pv 0) pa_nil)))))), ?_⟩
    walk_at "rd"
    refine jtD (fun e => ?_) (fun e1 => ?_)
    · have := q D H (Gr.refl sm)
      rw [numM, if_pos e] at this
      walk_at "rd"
      exact this
    walk_at "rd"
    intro p np
    have hlen : z.cps.toList.length = z.cps.size := by simp
    refine lq_map walk_str (z.cps.toList.map fun c => V.bl (!decide (c ∈ DG.cps.toList))) (by simp) hz np (fun _ => trivial) ?_ ?_
    · rintro i x acc H' N hi ⟨rfl, c, hc, rfl⟩ hN hl
      walk_at "rd"
      refine ⟨rfl, ?_⟩
      walk_at "rd"
      refine lq_put hl (hN _ ?_)
      rw [List.getElem?_map, show z.cps.toList[i]? = some c by simpa using hc]
      rfl
    · have g1 := (Gr.refl (m := No) sm).lay (o := .lst (z.cps.toList.map fun c => V.bl (!decide (c ∈ DG.cps.toList)))) np
      have q1 := q _ _ g1
      walk_at "rd"
      refine s_any (bs := z.cps.toList.map fun c => !decide (c ∈ DG.cps.toList)) (sql (by rw [upd_same, List.map_map]; rfl)) ?_
      rw [List.any_map, show (id ∘ fun c => !decide (c ∈ DG.cps.toList)) = (fun c => !decide (c ∈ DG.cps.toList)) from rfl]
      walk_at "rd"
      refine jtB (fun e2 => ?_) (fun e2 => ?_)
      · rw [numM, if_neg e1, if_pos e2] at q1
        walk_at "rd"
        exact q1
      walk_at "rd"
      refine jtD (fun e3 => ?_) (fun e3 => ?_)
      · rw [numM, if_neg e1, if_neg (by rw [e2]; simp), if_pos (by omega)] at q1
        walk_at "rd"
        exact q1
      obtain ⟨c, r, hc⟩ : ∃ c r, z.cps.toList = c :: r := by
        cases h : z.cps.toList with
        | nil =>
          refine absurd ?_ e1
          obtain ⟨⟨l⟩⟩ := z
          have : l = [] := h
          subst this
          rfl
        | cons c r => exact ⟨c, r, rfl⟩
      rw [numM, if_neg e1, if_neg (by rw [e2]; simp), if_neg (by omega), hc] at q1
      walk_at "rd"
      refine s_ix_s hz (by rw [hc]; exact atI_0) ?_
      walk_at "rd"
      have hk : ((⟨#[c]⟩ : Str) = "0") ↔ c = 48 := ⟨fun e => by
        have := congrArg (fun z : Str => z.cps.toList) e
        exact List.head_eq_of_cons_eq this, fun e => by rw [e]; rfl⟩
      have hdig : NumText.AllDigits z.cps.toList := fun d hd => DG_digit d (by
        have h1 := List.any_eq_false.mp e2 d hd
        simpa using h1)
      have hv : PySem.intText? z = some ((NumText.digitsVal z.cps.toList : Nat) : Int) := intText_digits hdig (by rw [hc]; simp) (by omega)
      refine jtD (fun e4 => ?_) (fun e4 => ?_)
      · walk_at "rd"
        refine jtD (fun e5 => ?_) (fun e5 => ?_)
        · rw [if_pos ⟨congrArg some (hk.mp e4), by omega⟩, ← hc] at q1
          walk_at "rd"
          exact q1
        · rw [if_neg (fun z => e5 (by omega)), ← hc] at q1
          walk_at "rd"
          refine s_int_s hv (by omega) ?_
          exact q1
      · rw [if_neg (fun z => e4 (hk.mpr (Option.some.inj z.1))), ← hc] at q1
        walk_at "rd"
        refine s_int_s hv (by omega) ?_
        exact q1
end
end H90

namespace H90
open PySem PySem.Spec L2 He Y Hk90
local macro_rules | `(tactic| walk_at "rd1") => `(tactic| first
  | with_reducible refine s_seq ?_
  | with_reducible refine s_asg ?_
  | with_reducible refine s_gname ?_
  | ((with_reducible refine s_var (v := ?_) ?_ ?_); rotate_left; exact rfl)
  | with_reducible refine s_c ?_
  | with_reducible refine s_op ?_
  | with_reducible refine s_un ?_
  | with_reducible refine s_nil ?_
  | with_reducible refine s_cons ?_
  | with_reducible refine s_CB ?_
  | with_reducible refine s_ifS ?_
  | with_reducible refine s_test ?_
  | with_reducible refine s_B ?_
  | with_reducible refine s_xb ?_
  | with_reducible refine s_xi ?_
  | with_reducible refine s_xs ?_
  | with_reducible refine s_or ?_
  | with_reducible refine s_and ?_
  | with_reducible refine s_not ?_
  | with_reducible refine s_orV ?_
  | with_reducible refine s_andV ?_
  | with_reducible refine s_notV ?_
  | with_reducible refine s_ret ?_
  | with_reducible refine s_retN ?_
  | with_reducible refine s_next ?_
  | with_reducible refine s_drop ?_
  | with_reducible refine s_yes ?_
  | with_reducible refine s_for ?_
  | with_reducible refine s_lc ?_
  | with_reducible refine s_iStr ?_
  | with_reducible refine s_iList ?_
  | with_reducible refine s_iTup ?_
  | with_reducible refine s_iR1 ?_
  | with_reducible refine s_iR2 ?_
  | with_reducible refine s_iE ?_
  | with_reducible refine s_iET ?_
  | with_reducible refine s_iES ?_
  | with_reducible refine s_tup ?_
  | with_reducible refine s_lst ?_
  | with_reducible refine s_BM ?_
  | with_reducible refine s_BM0 ?_
  | with_reducible refine s_BMS ?_
  | with_reducible refine s_M1 ?_
  | with_reducible refine s_sl ?_
  | with_reducible refine s_noP ?_
  | with_reducible refine s_po ?_
  | with_reducible refine s_call ?_
  | with_reducible refine s_callS ?_
  | with_reducible refine s_make ?_
  | with_reducible refine s_fld ?_
  | with_reducible refine s_sFld ?_
  | with_reducible refine s_rz ?_
  | with_reducible refine s_asgS ?_
  | with_reducible refine s_gSub ?_
  | with_reducible refine s_ifE ?_
  | with_reducible refine s_add_i ?_
  | with_reducible refine s_sub ?_
  | with_reducible refine s_neg ?_
  | with_reducible refine s_eq_i ?_
  | with_reducible refine s_eq_s ?_
  | with_reducible refine s_ne_i ?_
  | with_reducible refine s_ne_s ?_
  | with_reducible refine s_lt_i ?_
  | with_reducible refine s_le_i ?_
  | with_reducible refine s_gt_i ?_
  | with_reducible refine s_ge_i ?_
  | with_reducible refine s_lt_s ?_
  | with_reducible refine s_le_s ?_
  | with_reducible refine s_gt_s ?_
  | with_reducible refine s_ge_s ?_
  | with_reducible refine s_in_c ?_
  | with_reducible refine s_ni_c ?_
  | with_reducible refine s_isN ?_
  | with_reducible refine s_noN ?_
  | with_reducible refine s_abs ?_
  | with_reducible refine s_min2 ?_
  | with_reducible refine s_max2 ?_
  | with_reducible refine s_int_i ?_
  | ((with_reducible refine s_len_s ?_ ?_); assumption)
  | ((with_reducible refine s_len_l (xs := ?_) ?_ ?_); rotate_left; assumption)
  | ((with_reducible refine s_len_t (xs := ?_) ?_ ?_); rotate_left; assumption)
  | with_reducible refine s_pair upd_same ?_
  | with_reducible refine s_callS ?_
  | with_reducible refine jtT ?_
  | with_reducible refine jtF ?_
  | dsimp only)
local macro_rules | `(tactic| walk_at "rd") => `(tactic| repeat (walk_at "rd1"))

section
variable {P : Program} {w : World} {K : PySem.W.Frag} {mg : Str → Option Value} {base : Heap}
/-! ### are_letters -/
theorem S_are_letters : FnScope ["text"] ["text"] (d_are_letters).scope := ⟨rfl, rfl, rfl, by decide +kernel, rfl, by decide +kernel, by decide +kernel⟩
def sp_are_letters : Sp := fun vs H Q E => ∃ (s : Str), vs = [.str s] ∧ s.length ≤ sizeLine ∧ Q (.bl (okLetters s)) H
theorem w_are_letters (T : Txt P w K mg) : Has P w K mg base 4 "are_letters" sp_are_letters := by
  have S := S_are_letters
  have G_check_letters := w_check_letters (base := base) T
  refine has_of (k := 3) T.d_are_letters T.gd_are_letters S (fun _ _ _ _ _ _ us hl => match us, hl with | [_], _ => rfl) (fun vs H Q E h => ?_) (fun f cdv A outer s H vs Q E hr h => ?_)
  · obtain ⟨s, rfl, _⟩ := h
    rfl
  · obtain ⟨z, rfl, hz, q⟩ := h
    refine ⟨_, (pss_cons (ps_try_only rfl rfl ⟨rfl, by decide, Or.inl T.g_BadLetters⟩ (takes_of rfl rfl rfl rfl)
      (fun W pn xe tk po => (pss_one (ps_expr (pe_has G_check_letters (hr.mono (by decide)) tk rfl (pa_cons (pv 0) pa_nil)))))
      (fun a oe cls d pn hz hf => (pss_one (ps_ret pe_bl))))
    (pss_one (ps_ret pe_bl))), ?_⟩
    walk_at "rd"
    refine ⟨z, rfl, hz, fun e => ?_, fun e => ⟨true, T.exm_BadLetters_BadLetters, fun _ a _ => ?_, fun z => by cases z⟩⟩
    · walk_at "rd"
      rw [e] at q
      exact q
    · walk_at "rd"
      rw [e] at q
      exact q
/-! ### read_arrows -/
/-- an arrow's number, many states -/
def entM (many : Int) (p : Str) : Option Int := if p = "-1" then some (-1) else match numM p with
  | none => none
  | some n => if many ≤ n then none else some n
def entsM (many : Int) : List Str → Option (List Int)
  | [] => some []
  | p :: r => match entM many p with
    | none => none
    | some n => match entsM many r with
      | none => none
      | some l => some (n :: l)
def rowM (many : Int) (n : Nat) (ps : List Str) : Option (List Int) := if ps.length = n then entsM many ps else none
theorem entsM_cons (many : Int) (p : Str) (r : List Str) : entsM many (p :: r) = match entM many p with
    | none => none
    | some n => match entsM many r with
      | none => none
      | some l => some (n :: l) := rfl
/-- the list l is a row, or None stands for none -/
def IsRow (K : PySem.W.Frag) (H : Hp) (v : V) : Option (List Int) → Prop
  | none => v = .non
  | some l => ∃ a, v = .ref a ∧ H a = some (.lst (l.map V.int))
theorem S_read_arrows : FnScope ["letters", "parts", "many", "row", "part", "target"] ["letters", "parts", "many"] (d_read_arrows).scope := ⟨rfl, rfl, rfl, by decide +kernel, rfl, by decide +kernel, by decide +kernel⟩
def sp_read_arrows (K : PySem.W.Frag) : Sp := fun vs H Q E => ∃ (D : Hp) (s : Str) (a : Addr) (ps : List Str) (many : Int), vs = [.str s, .ref a, .int many] ∧ 0 ≤ many ∧ s.length ≤ sizeLine ∧ Same D H ∧ SqL K H a (ps.map V.str) ∧ (∀ p ∈ ps, p.length ≤ sizeLine) ∧ ps.length < sizeLine ∧ 
  ∀ D' H' v, Gr No D H D' H' → (match rowM many s.length ps with
    | none => v = .non
    | some l => Dp K D' v (dL l)) → Q v H'
theorem w_read_arrows (T : Txt P w K mg) : Has P w K mg base 4 "read_arrows" (sp_read_arrows K) := by
  have S := S_read_arrows
  have G_number_of := w_number_of (base := base) T
  refine has_of (k := 3) T.d_read_arrows T.gd_read_arrows S (fun _ _ _ _ _ _ us hl => match us, hl with | [_, _, _], _ => rfl) (fun vs H Q E h => ?_) (fun f cdv A outer s H vs Q E hr h => ?_)
  · obtain ⟨D, s, a, ps, many, rfl, _⟩ := h
    rfl
  · obtain ⟨D, z, a, ps, many, rfl, hm, hz, sm, ha, hps, hpl, q⟩ := h
    refine ⟨_, (pss_cons (ps_if (pt_cmpR (cK_ne K hr.units) (pe_callB (bK_len K) (by rfl) T.b_len (by decide +kernel) (pa_cons (pv 1) pa_nil)) (pe_callB (bK_len K) (by rfl) T.b_len (by decide +kernel) (pa_cons (pv 0) pa_nil)) (nomark _))
      (pss_one (ps_ret pe_non))
      pss_nil)
    (pss_cons (ps_set (i := 3) S.nd rfl (Or.inl rfl) (pe_lst pa_nil))
    (pss_cons (ps_for (passes_of rfl) rfl (piK_list K (pv 1)) (pg_name (i := 4) S.nd rfl (Or.inl rfl))
      (pss_cons (ps_set (i := 5) S.nd rfl (Or.inl rfl) (pe_un o_neg pe_int))
    (pss_cons (ps_if (pt_cmpR (cK_ne K hr.units) (pv 4) pe_str (nomark _))
      (pss_one (ps_set (i := 5) S.nd rfl (Or.inl rfl) (pe_has G_number_of (hr.mono (by decide)) (takes_of rfl rfl rfl rfl) rfl (pa_cons (pv 4) pa_nil))))
      pss_nil)
    (pss_cons (ps_if (PW.pt (pw_or (pt_cmpR c_is (pv 5) pe_non (nomark _)) (pw_or1 (pt_cmpR c_ge (pv 5) (pv 2) (nomark _)))))
      (pss_one (ps_ret pe_non))
      pss_nil)
    (pss_one (ps_expr (peK_bm K PySem.F.plainAttrs_list PySem.F.slot_list_append PySem.F.type_list_append mt_append (pv 3) (pa_cons (pv 5) pa_nil))))))))
    (pss_one (ps_ret (pv 3)))))), ?_⟩
    walk_at "rd"
    refine jtN (fun e => ?_) (fun e1 => ?_)
    · walk_at "rd"
      refine q _ _ _ (Gr.refl sm) ?_
      rw [rowM, if_neg (fun z => e (by rw [List.length_map, z]))]
    have el : ps.length = z.length := by
      have := e1
      rw [List.length_map] at this
      omega
    rw [rowM, if_pos el] at q
    walk_at "rd"
    refine ⟨Nat.zero_le _, fun p np => ?_⟩
    have g1 := (Gr.refl (m := No) sm).lay (o := .lst []) np
    have hD1 : D p = none := (Gr.refl (m := No) sm).free np
    have haH := g1.all.seq ha
    walk_at "rd"
    refine ⟨a, rfl, ⟨_, haH⟩, lp_it walk_list (fun i σ H' => ∃ D' acc o4 o5, Gr No D H D' H' ∧ D' p = none ∧ H' p = some (.lst (acc.map V.int)) ∧ acc.length ≤ i ∧ σ = [some (.str z), some (.ref a), some (.int many), some (.ref p), o4, o5] ∧
      entsM many ps = (match entsM many (ps.drop i) with
      | none => none
      | some l => some (acc ++ l))) ⟨D, [], _, _, g1, hD1, upd_same, Nat.le_refl _, rfl, ?_⟩ (fun i σ H' _ ⟨D', _, _, _, g, _⟩ => g.all.seq ha) ?_ ?_⟩
    · show entsM many ps = _
      rw [List.drop_zero]
      cases entsM many ps <;> rfl
    · rintro i x σ H1 H2 hi ⟨D1, acc, o4, o5, g, hDp, hHp, hacc, rfl, en⟩ ⟨rfl, ex⟩
      rw [List.getElem?_map] at ex
      obtain ⟨pt, hpt, rfl⟩ := Option.map_eq_some_iff.mp ex
      obtain ⟨hi1, e0⟩ := List.getElem?_eq_some_iff.mp hpt
      rw [List.drop_eq_getElem_cons hi1, e0, entsM_cons] at en
      have hpl1 := hps pt (List.mem_of_getElem? hpt)
      have tail : ∀ (n : Int) D3 H3, Gr No D1 H2 D3 H3 → entM many pt = some n → ∃ D' acc' o4 o5, Gr No D H D' (upd H3 p (.lst (acc.map V.int ++ [.int n]))) ∧ D' p = none ∧ (upd H3 p (.lst (acc.map V.int ++ [.int n]))) p = some (.lst (acc'.map V.int)) ∧ acc'.length ≤ i + 1 ∧
          ([some (V.str z), some (V.ref a), some (V.int many), some (V.ref p), some (V.str pt), some (V.int n)] : L2.St) = [some (.str z), some (.ref a), some (.int many), some (.ref p), o4, o5] ∧ entsM many ps = (match entsM many (ps.drop (i + 1)) with
          | none => none
          | some l => some (acc' ++ l)) := by
        intro n D3 H3 g3 en2
        refine ⟨D3, acc ++ [n], _, _, (g.trans g3).put (g3.stay hDp hHp) (.inl np), g3.stay hDp hHp, ?_, ?_, rfl, ?_⟩
        · rw [upd_same, List.map_append]
          rfl
        · rw [List.length_append]
          simpa using hacc
        · rw [en, en2]
          dsimp only
          cases entsM many (ps.drop (i + 1)) with
          | none => rfl
          | some l => show some (acc ++ n :: l) = some ((acc ++ [n]) ++ l); rw [List.append_assoc]; rfl
      have bad : ∀ D3 H3, Gr No D1 H2 D3 H3 → entM many pt = none → Q .non H3 := by
        intro D3 H3 g3 en2
        refine q D3 H3 .non (g.trans g3) ?_
        rw [en, en2]
      walk_at "rd"
      refine jtN (fun e3 => ?_) (fun e3 => ?_)
      · walk_at "rd"
        refine ⟨D1, pt, rfl, hpl1, g.sub, fun D3 H3 g3 => ?_⟩
        have hHp3 := g3.same p _ (fun z => z) hHp
        have hD3 := g3.stay hDp hHp
        walk_at "rd"
        cases hn : numM pt with
        | none =>
          walk_at "rd"
          refine jtD (fun _ => ?_) (fun z => absurd rfl z)
          walk_at "rd"
          exact bad _ _ g3 (by rw [entM, if_neg e3, hn])
        | some n =>
          walk_at "rd"
          refine jtD (fun z => nomatch z) (fun _ => ?_)
          dsimp only [oV]
          walk_at "rd"
          refine jtD (fun e4 => ?_) (fun e4 => ?_)
          · walk_at "rd"
            exact bad _ _ g3 (by rw [entM, if_neg e3, hn]; exact if_pos e4)
          · walk_at "rd"
            refine ⟨ty_l hHp3, ?_⟩
            walk_at "rd"
            refine s_append hHp3 (by rw [List.length_map]; omega) ?_
            walk_at "rd"
            exact tail n D3 H3 g3 (by rw [entM, if_neg e3, hn]; exact if_neg e4)
      · walk_at "rd"
        refine jtD (fun z => nomatch z) (fun _ => ?_)
        walk_at "rd"
        refine jtD (fun e4 => ?_) (fun e4 => ?_)
        · omega
        · walk_at "rd"
          refine ⟨ty_l hHp, ?_⟩
          walk_at "rd"
          refine s_append hHp (by rw [List.length_map]; omega) ?_
          walk_at "rd"
          exact tail (-1) D1 H2 (Gr.refl g.sub) (by rw [entM, if_pos e3])
    · rintro σ H1 ⟨D1, acc, o4, o5, g, hDp, hHp, hacc, rfl, en⟩
      walk_at "rd"
      have el : ps.drop (ps.map V.str).length = [] := List.drop_of_length_le (by simp)
      rw [el] at en
      have en' : entsM many ps = some acc := by
        rw [en]
        show some (acc ++ []) = some acc
        rw [List.append_nil]
      refine q (upd D1 p (.lst (acc.map V.int))) H1 (.ref p) (g.cold hHp np) ?_
      rw [en']
      exact dp_ofL (sql upd_same)
end
end H90

namespace H90
open PySem PySem.Spec L2 He Y Hk90
local macro_rules | `(tactic| walk_at "rd1") => `(tactic| first
  | with_reducible refine s_seq ?_
  | with_reducible refine s_asg ?_
  | with_reducible refine s_gname ?_
  | ((with_reducible refine s_var (v := ?_) ?_ ?_); rotate_left; exact rfl)
  | with_reducible refine s_c ?_
  | with_reducible refine s_op ?_
  | with_reducible refine s_un ?_
  | with_reducible refine s_nil ?_
  | with_reducible refine s_cons ?_
  | with_reducible refine s_CB ?_
  | with_reducible refine s_ifS ?_
  | with_reducible refine s_test ?_
  | with_reducible refine s_B ?_
  | with_reducible refine s_xb ?_
  | with_reducible refine s_xi ?_
  | with_reducible refine s_xs ?_
  | with_reducible refine s_or ?_
  | with_reducible refine s_and ?_
  | with_reducible refine s_not ?_
  | with_reducible refine s_orV ?_
  | with_reducible refine s_andV ?_
  | with_reducible refine s_notV ?_
  | with_reducible refine s_ret ?_
  | with_reducible refine s_retN ?_
  | with_reducible refine s_next ?_
  | with_reducible refine s_drop ?_
  | with_reducible refine s_yes ?_
  | with_reducible refine s_for ?_
  | with_reducible refine s_lc ?_
  | with_reducible refine s_iStr ?_
  | with_reducible refine s_iList ?_
  | with_reducible refine s_iTup ?_
  | with_reducible refine s_iR1 ?_
  | with_reducible refine s_iR2 ?_
  | with_reducible refine s_iE ?_
  | with_reducible refine s_iET ?_
  | with_reducible refine s_iES ?_
  | with_reducible refine s_tup ?_
  | with_reducible refine s_lst ?_
  | with_reducible refine s_BM ?_
  | with_reducible refine s_BM0 ?_
  | with_reducible refine s_BMS ?_
  | with_reducible refine s_M1 ?_
  | with_reducible refine s_sl ?_
  | with_reducible refine s_noP ?_
  | with_reducible refine s_po ?_
  | with_reducible refine s_call ?_
  | with_reducible refine s_callS ?_
  | with_reducible refine s_make ?_
  | with_reducible refine s_fld ?_
  | with_reducible refine s_sFld ?_
  | with_reducible refine s_rz ?_
  | with_reducible refine s_asgS ?_
  | with_reducible refine s_gSub ?_
  | with_reducible refine s_ifE ?_
  | with_reducible refine s_add_i ?_
  | with_reducible refine s_sub ?_
  | with_reducible refine s_neg ?_
  | with_reducible refine s_eq_i ?_
  | with_reducible refine s_eq_s ?_
  | with_reducible refine s_ne_i ?_
  | with_reducible refine s_ne_s ?_
  | with_reducible refine s_lt_i ?_
  | with_reducible refine s_le_i ?_
  | with_reducible refine s_gt_i ?_
  | with_reducible refine s_ge_i ?_
  | with_reducible refine s_lt_s ?_
  | with_reducible refine s_le_s ?_
  | with_reducible refine s_gt_s ?_
  | with_reducible refine s_ge_s ?_
  | with_reducible refine s_in_c ?_
  | with_reducible refine s_ni_c ?_
  | with_reducible refine s_isN ?_
  | with_reducible refine s_noN ?_
  | with_reducible refine s_abs ?_
  | with_reducible refine s_min2 ?_
  | with_reducible refine s_max2 ?_
  | with_reducible refine s_int_i ?_
  | ((with_reducible refine s_len_s ?_ ?_); assumption)
  | ((with_reducible refine s_len_l (xs := ?_) ?_ ?_); rotate_left; assumption)
  | ((with_reducible refine s_len_t (xs := ?_) ?_ ?_); rotate_left; assumption)
  | with_reducible refine s_pair upd_same ?_
  | with_reducible refine s_callS ?_
  | with_reducible refine jtT ?_
  | with_reducible refine jtF ?_
  | dsimp only)
local macro_rules | `(tactic| walk_at "rd") => `(tactic| repeat (walk_at "rd1"))

/-! ### the text of a machine -/
def numS (t : Int) : Str := Str.ofString (toString t)
def partsT (ends : List Int) (k : Nat) (r : List Int) : List Str := r.map numS ++ (if inV (.int (k : Nat)) (ends.map V.int) = true then [("end" : Str)] else [])
def rowT (ends : List Int) (k : Nat) (r : List Int) : Str := Txt.join " " (partsT ends k r)
def rowsT (ends : List Int) : Nat → List (List Int) → List Str
  | _, [] => []
  | k, r :: rs => rowT ends k r :: rowsT ends (k + 1) rs
def linesT (s : Str) (rows : List (List Int)) (ends : List Int) : List Str := (("machine " : Str) ++ s) :: rowsT ends 0 rows
def textT (s : Str) (rows : List (List Int)) (ends : List Int) : Str := Txt.join "\n" (linesT s rows ends)
/-- of no great size -/
structure Small (s : Str) (rows : List (List Int)) : Prop where
  s4 : s.length ≤ 4
  few : rows.length ≤ 130
  row : ∀ r ∈ rows, r.length ≤ 4 ∧ ∀ t ∈ r, -1 ≤ t ∧ t < 200
theorem num_nat : ∀ n : Nat, n < 201 → (numS ((n : Int) - 1)).length ≤ 3 ∧ ((n : Int) - 1).natAbs.log2 < 1920 := by decide +kernel
theorem num_small {t : Int} (h1 : -1 ≤ t) (h2 : t < 200) : (numS t).length ≤ 3 ∧ t.natAbs.log2 < 1920 := by
  have := num_nat (t + 1).toNat (by omega)
  rw [show (((t + 1).toNat : Nat) : Int) - 1 = t by omega] at this
  exact this
theorem le1000 {n : Nat} (h : n ≤ 1000) : n ≤ sizeLine := Nat.le_of_lt (small1000 h)
theorem sum_len {c : Nat} : ∀ {zs : List Str}, (∀ z ∈ zs, z.length ≤ c) → (zs.map (·.length)).sum ≤ zs.length * c
  | [], _ => by simp
  | z :: zs, h => by
    have h1 := h z (List.mem_cons_self ..)
    have h2 := sum_len fun y hy => h y (List.mem_cons_of_mem _ hy)
    rw [List.map_cons, List.sum_cons, List.length_cons, Nat.add_mul]
    omega
theorem join_len {c : Nat} {y : Str} {zs : List Str} (h : ∀ z ∈ zs, z.length ≤ c) : (Txt.join y zs).length ≤ zs.length * c + zs.length * y.length := by
  rw [TL.join_eq]
  exact Nat.le_trans (StrLaws.join_length_le y zs) (Nat.add_le_add_right (sum_len h) _)
theorem parts_small {ends : List Int} {k : Nat} {r : List Int} (h : r.length ≤ 4 ∧ ∀ t ∈ r, -1 ≤ t ∧ t < 200) : (partsT ends k r).length ≤ 5 ∧ ∀ z ∈ partsT ends k r, z.length ≤ 3 := by
  refine ⟨?_, fun z hz => ?_⟩
  · unfold partsT
    rw [List.length_append, List.length_map]
    have : (if inV (.int (k : Nat)) (ends.map V.int) = true then [("end" : Str)] else []).length ≤ 1 := by
      split
      · exact Nat.le_refl 1
      · exact Nat.zero_le 1
    omega
  · unfold partsT at hz
    rcases List.mem_append.mp hz with hz | hz
    · obtain ⟨t, ht, rfl⟩ := List.mem_map.mp hz
      exact (num_small (h.2 t ht).1 (h.2 t ht).2).1
    · split at hz
      · rw [List.mem_singleton.mp hz]
        decide
      · cases hz
theorem joinOk {ps : List Str} (h : ps.length ≤ 5 ∧ ∀ z ∈ ps, z.length ≤ 3) : (ps.map (·.length)).sum + ps.length * (" " : Str).length ≤ 16777216 := by
  have h1 := sum_len h.2
  have h2 : (" " : Str).length = 1 := rfl
  rw [h2]
  omega
theorem row_small {ends : List Int} {k : Nat} {r : List Int} (h : r.length ≤ 4 ∧ ∀ t ∈ r, -1 ≤ t ∧ t < 200) : (rowT ends k r).length ≤ 20 := by
  have p := parts_small (ends := ends) (k := k) h
  have := join_len (y := " ") p.2
  have e : (" " : Str).length = 1 := rfl
  rw [e] at this
  unfold rowT
  omega
section
variable {P : Program} {w : World} {K : PySem.W.Frag} {mg : Str → Option Value} {base : Heap}
theorem S_machine_text : FnScope ["machine", "rows", "state", "row", "parts", "target"] ["machine"] (d_machine_text).scope := ⟨rfl, rfl, rfl, by decide +kernel, rfl, by decide +kernel, by decide +kernel⟩
def sp_machine_text (K : PySem.W.Frag) : Sp := fun vs H Q E => ∃ (D : Hp) (v : V) (s : Str) (rows : List (List Int)) (ends : List Int), vs = [v] ∧ Same D H ∧ IsM K D v s rows ends ∧ Small s rows ∧ ∀ D' H', Gr No D H D' H' → Q (.str (textT s rows ends)) H'
theorem w_machine_text (T : Txt P w K mg) : Has P w K mg base 3 "machine_text" (sp_machine_text K) := by
  have S := S_machine_text
  refine has_of (k := 2) T.d_machine_text T.gd_machine_text S (fun _ _ _ _ _ _ us hl => match us, hl with | [_], _ => rfl) (fun vs H Q E h => ?_) (fun f cdv A outer s H vs Q E hr h => ?_)
  · obtain ⟨D, v, s, rows, ends, rfl, _⟩ := h
    rfl
  · obtain ⟨D, v, z, rows, ends, rfl, sm, M, hsm, q⟩ := h
    obtain ⟨a, dx, vp, vq, rfl, ha, dp, dq⟩ := M
    obtain ⟨pa, xs, rfl, hp, hxs⟩ := dp_tuple dp
    obtain ⟨qa, rfl, hq⟩ := dp_T dq
    have hl : xs.length = rows.length := by rw [dpl_len hxs, List.length_map]
    have h4 := hsm.s4
    have h130 := hsm.few
    refine ⟨_, (pss_cons (ps_set (i := 1) S.nd rfl (Or.inl rfl) (pe_lst (pa_cons (pe_op (oK_add K) pe_str (peK_fld K (pv 0) rfl)) pa_nil)))
    (pss_cons (ps_for (passes_of rfl) rfl (piK_enumT K (by rfl) T.b_enumerate (pa_cons (peK_fld K (pv 0) rfl) pa_nil)) (pgK_tup K (n := 2) rfl (pgs_cons (pg_name (i := 2) S.nd rfl (Or.inl rfl)) (pgs_cons (pg_name (i := 3) S.nd rfl (Or.inl rfl)) pgs_nil)))
      (pss_cons (ps_setLc (i := 4) (own := [("target", 5)]) rfl S.nd rfl rfl (sw_true rfl rfl rfl (by decide +kernel)) (piK_tup K (pv 3)) (blkOk_by (by rfl)) (fun _ _ _ _ _ => (pg_name (i := 5) S.nd rfl (Or.inl rfl))) (fun _ _ _ _ _ => pts_nil) (fun _ _ _ _ _ => (pe_callTy b_str (by rfl) T.b_str (by decide +kernel) (pa_cons (pv 5) pa_nil))))
    (pss_cons (ps_if (pt_cmpR (cK_in K) (pv 2) (peK_fld K (pv 0) rfl) rfl)
      (pss_one (ps_expr (peK_bm K PySem.F.plainAttrs_list PySem.F.slot_list_append PySem.F.type_list_append mt_append (pv 4) (pa_cons pe_str pa_nil))))
      pss_nil)
    (pss_one (ps_expr (peK_bm K PySem.F.plainAttrs_list PySem.F.slot_list_append PySem.F.type_list_append mt_append (pv 1) (pa_cons (pK_join K pe_str (pv 4)) pa_nil)))))))
    (pss_one (ps_ret (pK_join K pe_str (pv 1)))))), ?_⟩
    walk_at "rd"
    refine ⟨a, _, _, _, _, rfl, sm _ _ ha, T.cl_Machine, T.na_Machine_letters, rfl, ?_⟩
    walk_at "rd"
    have e8 : ("machine " : Str).length = 8 := rfl
    refine s_add_s (by rw [e8]; exact le1000 (by omega)) ?_
    walk_at "rd"
    refine ⟨le1000 (by simp), fun r0 nr => ?_⟩
    have g1 := (Gr.refl (m := No) sm).lay (o := .lst [.str (("machine " : Str) ++ z)]) nr
    have hD1 : D r0 = none := (Gr.refl (m := No) sm).free nr
    walk_at "rd"
    refine ⟨a, _, _, _, _, rfl, g1.same' _ _ ha, T.cl_Machine, T.na_Machine_arrows, rfl, ?_⟩
    walk_at "rd"
    refine ⟨pa, xs, rfl, sqt_up g1 hp, lp_it walk_enumT (fun i σ H' => ∃ D' acc o2 o3 o4, Gr No D H D' H' ∧ D' r0 = none ∧ H' r0 = some (.lst (acc.map V.str)) ∧ acc.length ≤ i + 1 ∧ (∀ y ∈ acc, y.length ≤ 20) ∧ σ = [some (.ref a), some (.ref r0), o2, o3, o4, none] ∧
      linesT z rows ends = acc ++ rowsT ends i (rows.drop i)) ⟨D, [("machine " : Str) ++ z], _, _, _, g1, hD1, upd_same, Nat.le_refl _, ?_, rfl, rfl⟩ (fun i σ H' _ ⟨D', _, _, _, _, g, _⟩ => sqt_up g hp) ?_ ?_⟩
    · intro y hy
      rw [List.mem_singleton.mp hy]
      show (("machine " : Str) ++ z).length ≤ 20
      have : (("machine " : Str) ++ z).length = ("machine " : Str).length + z.length := Array.size_append
      omega
    · rintro i x σ H1 H2 hi ⟨D1, acc, o2, o3, o4, g, hDr, hHr, hacc, hshort, rfl, en⟩ ⟨t, x1, x2, rfl, nt, rfl, e1, e2⟩
      cases e1
      obtain ⟨d, hd, hx2⟩ := dpl_get hxs e2
      rw [List.getElem?_map] at hd
      obtain ⟨r, hr', rfl⟩ := Option.map_eq_some_iff.mp hd
      obtain ⟨b, rfl, hb2⟩ := dp_T hx2
      have hrow := hsm.row r (List.mem_of_getElem? hr')
      have g2 := g.lay (o := .tup [.int i, .ref b]) nt
      have hr2 := (((Gr.refl (m := No) g.sub).lay (o := .tup [.int i, .ref b]) nt).same r0 _ (fun z => z) hHr)
      have hb3 := sqt_up g2 hb2
      walk_at "rd"
      refine ⟨b, rfl, ⟨_, hb3⟩, fun p np => lq_map walk_tup (r.map fun t => V.str (numS t)) (by simp) (by rw [List.length_map]; exact le1000 (by omega)) np (fun acc => sqt_up (g2.lay np) hb2) ?_ ?_⟩
      · rintro j x acc' H' N hj ⟨rfl, ex⟩ hN hlt
        rw [List.getElem?_map] at ex
        obtain ⟨k, hk, rfl⟩ := Option.map_eq_some_iff.mp ex
        have hk2 := hrow.2 k (List.mem_of_getElem? hk)
        walk_at "rd"
        refine ⟨rfl, ?_⟩
        walk_at "rd"
        refine s_str_i (num_small hk2.1 hk2.2).2 (lq_put hlt (hN _ ?_))
        rw [List.getElem?_map, hk]
        rfl
      · have g3 := g2.lay (o := .lst (r.map fun t => V.str (numS t))) np
        have hr3 := (((Gr.refl (m := No) g2.sub).lay (o := .lst (r.map fun t => V.str (numS t))) np).same r0 _ (fun z => z) hr2)
        have hDp : D1 p = none := (Gr.refl (m := No) g2.sub).free np
        have hrp : r0 ≠ p := fun e => by rw [e] at hr2; rw [hr2] at np; cases np
        have hH0p : H p = none := g2.kept _ np
        have last : ∀ (H3 : Hp) o3 o4, Gr No D H D1 H3 → H3 r0 = some (.lst (acc.map V.str)) → ∃ D' acc' o2 o3' o4', Gr No D H D' (upd H3 r0 (.lst (acc.map V.str ++ [.str (rowT ends i r)]))) ∧ D' r0 = none ∧ (upd H3 r0 (.lst (acc.map V.str ++ [.str (rowT ends i r)]))) r0 = some (.lst (acc'.map V.str)) ∧ acc'.length ≤ i + 1 + 1 ∧ (∀ y ∈ acc', y.length ≤ 20) ∧
            ([some (V.ref a), some (V.ref r0), some (V.int i), o3, o4, none] : L2.St) = [some (.ref a), some (.ref r0), o2, o3', o4', none] ∧ linesT z rows ends = acc' ++ rowsT ends (i + 1) (rows.drop (i + 1)) := by
          intro H3 o3 o4 g4 h4
          refine ⟨D1, acc ++ [rowT ends i r], _, _, _, g4.put hDr (.inl nr), hDr, ?_, ?_, ?_, rfl, ?_⟩
          · rw [upd_same, List.map_append]
            rfl
          · rw [List.length_append]
            simpa using hacc
          · intro y hy
            rcases List.mem_append.mp hy with hy | hy
            · exact hshort y hy
            · rw [List.mem_singleton.mp hy]
              exact row_small hrow
          · obtain ⟨hi1, e0⟩ := List.getElem?_eq_some_iff.mp hr'
            rw [en, List.drop_eq_getElem_cons hi1, e0, List.append_assoc]
            rfl
        walk_at "rd"
        refine ⟨a, _, _, _, _, rfl, g3.same' _ _ ha, T.cl_Machine, T.na_Machine_ends, rfl, ?_⟩
        refine s_in_t (sqt_up g3 hq) rfl (by rw [List.all_map]; exact List.all_eq_true.mpr fun _ _ => rfl) ?_
        walk_at "rd"
        refine jtB (fun e => ?_) (fun e => ?_)
        · walk_at "rd"
          refine ⟨ty_l upd_same, ?_⟩
          walk_at "rd"
          refine s_append upd_same (by rw [List.length_map]; exact small1000 (by omega)) ?_
          walk_at "rd"
          rw [upd_upd]
          have g4 := g2.lay (o := .lst ((r.map fun t => V.str (numS t)) ++ [.str "end"])) np
          have hr4 := (((Gr.refl (m := No) g2.sub).lay (o := .lst ((r.map fun t => V.str (numS t)) ++ [.str "end"])) np).same r0 _ (fun z => z) hr2)
          refine ⟨ty_l hr4, ?_⟩
          walk_at "rd"
          have ep : partsT ends i r = r.map numS ++ [("end" : Str)] := by rw [partsT, if_pos e]
          refine ⟨⟨_, rfl⟩, ?_⟩
          walk_at "rd"
          refine s_join_l (zs := partsT ends i r) (sql (by rw [upd_same, ep, List.map_append, List.map_map]; rfl)) ?_ ?_
          · exact joinOk (parts_small hrow)
          · walk_at "rd"
            refine s_append hr4 (by rw [List.length_map]; exact small1000 (by omega)) ?_
            walk_at "rd"
            exact last _ _ _ (g4.weak fun _ z => z) hr4
        · walk_at "rd"
          refine ⟨ty_l hr3, ?_⟩
          walk_at "rd"
          have ep : partsT ends i r = r.map numS := by rw [partsT, if_neg (by rw [e]; simp), List.append_nil]
          refine ⟨⟨_, rfl⟩, ?_⟩
          walk_at "rd"
          refine s_join_l (zs := partsT ends i r) (sql (by rw [upd_same, ep, List.map_map]; rfl)) ?_ ?_
          · exact joinOk (parts_small hrow)
          · walk_at "rd"
            refine s_append hr3 (by rw [List.length_map]; exact small1000 (by omega)) ?_
            walk_at "rd"
            exact last _ _ _ (g3.weak fun _ z => z) hr3
    · rintro σ H1 ⟨D1, acc, o2, o3, o4, g, hDr, hHr, hacc, hshort, rfl, en⟩
      walk_at "rd"
      refine ⟨⟨_, rfl⟩, ?_⟩
      walk_at "rd"
      rw [hl, List.drop_length] at en
      have en' : linesT z rows ends = acc := by
        rw [en]
        exact List.append_nil acc
      refine s_join_l (zs := acc) (sql hHr) ?_ ?_
      · have h1 := sum_len hshort
        have h2 : ("\n" : Str).length = 1 := rfl
        rw [h2]
        omega
      · rw [← en']
        exact q _ _ g
end
end H90

namespace H90
open PySem PySem.Spec L2 He Y Hk90
local macro_rules | `(tactic| walk_at "rd1") => `(tactic| first
  | with_reducible refine s_seq ?_
  | with_reducible refine s_asg ?_
  | with_reducible refine s_gname ?_
  | ((with_reducible refine s_var (v := ?_) ?_ ?_); rotate_left; exact rfl)
  | with_reducible refine s_c ?_
  | with_reducible refine s_op ?_
  | with_reducible refine s_un ?_
  | with_reducible refine s_nil ?_
  | with_reducible refine s_cons ?_
  | with_reducible refine s_CB ?_
  | with_reducible refine s_ifS ?_
  | with_reducible refine s_test ?_
  | with_reducible refine s_B ?_
  | with_reducible refine s_xb ?_
  | with_reducible refine s_xi ?_
  | with_reducible refine s_xs ?_
  | with_reducible refine s_or ?_
  | with_reducible refine s_and ?_
  | with_reducible refine s_not ?_
  | with_reducible refine s_orV ?_
  | with_reducible refine s_andV ?_
  | with_reducible refine s_notV ?_
  | with_reducible refine s_ret ?_
  | with_reducible refine s_retN ?_
  | with_reducible refine s_next ?_
  | with_reducible refine s_drop ?_
  | with_reducible refine s_yes ?_
  | with_reducible refine s_for ?_
  | with_reducible refine s_lc ?_
  | with_reducible refine s_iStr ?_
  | with_reducible refine s_iList ?_
  | with_reducible refine s_iTup ?_
  | with_reducible refine s_iR1 ?_
  | with_reducible refine s_iR2 ?_
  | with_reducible refine s_iE ?_
  | with_reducible refine s_iET ?_
  | with_reducible refine s_iES ?_
  | with_reducible refine s_tup ?_
  | with_reducible refine s_lst ?_
  | with_reducible refine s_BM ?_
  | with_reducible refine s_BM0 ?_
  | with_reducible refine s_BMS ?_
  | with_reducible refine s_M1 ?_
  | with_reducible refine s_sl ?_
  | with_reducible refine s_noP ?_
  | with_reducible refine s_po ?_
  | with_reducible refine s_call ?_
  | with_reducible refine s_callS ?_
  | with_reducible refine s_make ?_
  | with_reducible refine s_fld ?_
  | with_reducible refine s_sFld ?_
  | with_reducible refine s_rz ?_
  | with_reducible refine s_asgS ?_
  | with_reducible refine s_gSub ?_
  | with_reducible refine s_ifE ?_
  | with_reducible refine s_add_i ?_
  | with_reducible refine s_sub ?_
  | with_reducible refine s_neg ?_
  | with_reducible refine s_eq_i ?_
  | with_reducible refine s_eq_s ?_
  | with_reducible refine s_ne_i ?_
  | with_reducible refine s_ne_s ?_
  | with_reducible refine s_lt_i ?_
  | with_reducible refine s_le_i ?_
  | with_reducible refine s_gt_i ?_
  | with_reducible refine s_ge_i ?_
  | with_reducible refine s_lt_s ?_
  | with_reducible refine s_le_s ?_
  | with_reducible refine s_gt_s ?_
  | with_reducible refine s_ge_s ?_
  | with_reducible refine s_in_c ?_
  | with_reducible refine s_ni_c ?_
  | with_reducible refine s_isN ?_
  | with_reducible refine s_noN ?_
  | with_reducible refine s_abs ?_
  | with_reducible refine s_min2 ?_
  | with_reducible refine s_max2 ?_
  | with_reducible refine s_int_i ?_
  | ((with_reducible refine s_len_s ?_ ?_); assumption)
  | ((with_reducible refine s_len_l (xs := ?_) ?_ ?_); rotate_left; assumption)
  | ((with_reducible refine s_len_t (xs := ?_) ?_ ?_); rotate_left; assumption)
  | with_reducible refine s_pair upd_same ?_
  | with_reducible refine s_callS ?_
  | with_reducible refine jtT ?_
  | with_reducible refine jtF ?_
  | dsimp only)
local macro_rules | `(tactic| walk_at "rd") => `(tactic| repeat (walk_at "rd1"))

/-! ### what read_machine answers -/
def lineM (many : Int) (n : Nat) (line : Str) : Option (List Int) × Bool :=
  if 1 < (Txt.split line " ").length ∧ (Txt.split line " ")[(Txt.split line " ").length - 1]? = some ("end" : Str) then (rowM many n ((Txt.split line " ").take ((Txt.split line " ").length - 1)), true) else (rowM many n (Txt.split line " "), false)
def goM (many : Int) (n : Nat) : List Str → Nat → List (List Int) → List Int → Except Nat (List (List Int) × List Int)
  | [], _, R, E => .ok (R, E)
  | l :: ls, k, R, E => match (lineM many n l).1 with
    | none => .error (k + 2)
    | some r => if 128 ≤ k then .error (k + 2) else goM many n ls (k + 1) (R ++ [r]) (if (lineM many n l).2 = true then E ++ [(k : Int)] else E)
theorem goM_cons (many : Int) (n : Nat) (l : Str) (ls : List Str) (k : Nat) (R : List (List Int)) (E : List Int) : goM many n (l :: ls) k R E = match (lineM many n l).1 with
    | none => .error (k + 2)
    | some r => if 128 ≤ k then .error (k + 2) else goM many n ls (k + 1) (R ++ [r]) (if (lineM many n l).2 = true then E ++ [(k : Int)] else E) := rfl
def manyM (n : Nat) : Int := if (128 : Int) < (n : Int) - 1 then 128 else (n : Int) - 1
def readL : List Str → Except Nat (Str × List (List Int) × List Int)
  | [] => .error 1
  | l0 :: lr => match Txt.split l0 " " with
    | [a, s] => if a = "machine" ∧ okLetters s = true then (if lr = [] then .error 2 else match goM (manyM (lr.length + 1)) s.length lr 0 [] [] with
      | .error k => .error k
      | .ok (R, E) => .ok (s, R, E)) else .error 1
    | _ => .error 1
def readM (t : Str) : Except Nat (Str × List (List Int) × List Int) := readL (Txt.split t "\n")
theorem numM_nonneg {p : Str} {n : Int} (h : numM p = some n) : 0 ≤ n := by
  unfold numM at h
  split at h
  · cases h
  · split at h
    · cases h
    · split at h
      · cases h
      · split at h
        · cases h
        · cases h
          exact Int.natCast_nonneg _
theorem entM_in {many : Int} {p : Str} {n : Int} (hm : 0 ≤ many) (h : entM many p = some n) : -1 ≤ n ∧ n < many := by
  unfold entM at h
  split at h
  · cases h
    omega
  · split at h
    · cases h
    · rename_i v hv
      split at h
      · cases h
      · cases h
        have := numM_nonneg hv
        omega
theorem entsM_in {many : Int} (hm : 0 ≤ many) : ∀ {ps : List Str} {l : List Int}, entsM many ps = some l → l.length = ps.length ∧ ∀ t ∈ l, -1 ≤ t ∧ t < many
  | [], l, h => by
    cases h
    exact ⟨rfl, fun t z => nomatch z⟩
  | p :: ps, l, h => by
    rw [entsM_cons] at h
    split at h
    · cases h
    · rename_i n hn
      split at h
      · cases h
      · rename_i r hr
        cases h
        obtain ⟨h1, h2⟩ := entsM_in hm hr
        exact ⟨congrArg (· + 1) h1, fun t ht => (List.mem_cons.mp ht).elim (fun e => e ▸ entM_in hm hn) (h2 t)⟩
theorem rowM_in {many : Int} {n : Nat} {ps : List Str} {l : List Int} (hm : 0 ≤ many) (h : rowM many n ps = some l) : l.length = n ∧ ∀ t ∈ l, -1 ≤ t ∧ t < many := by
  unfold rowM at h
  split at h
  · rename_i e
    have := entsM_in hm h
    exact ⟨this.1.trans e, this.2⟩
  · cases h
theorem lineM_in {many : Int} {n : Nat} {x : Str} {l : List Int} (hm : 0 ≤ many) (h : (lineM many n x).1 = some l) : l.length = n ∧ ∀ t ∈ l, -1 ≤ t ∧ t < many := by
  unfold lineM at h
  split at h
  · exact rowM_in hm h
  · exact rowM_in hm h
structure GoI (many : Int) (n k : Nat) (R : List (List Int)) (E : List Int) : Prop where
  len : R.length = k
  k128 : k ≤ 128
  row : ∀ r ∈ R, r.length = n ∧ ∀ t ∈ r, -1 ≤ t ∧ t < many
  up : E.Pairwise (· < ·)
  lt : ∀ x ∈ E, -1 < x ∧ x < (k : Int)
theorem goM_ok {many : Int} {n : Nat} (hm : 0 ≤ many) : ∀ {ls : List Str} {k : Nat} {R : List (List Int)} {E : List Int} {R' : List (List Int)} {E' : List Int}, goM many n ls k R E = .ok (R', E') → GoI many n k R E → GoI many n (k + ls.length) R' E'
  | [], k, R, E, R', E', h, g => by
    cases h
    exact g
  | l :: ls, k, R, E, R', E', h, g => by
    rw [goM_cons] at h
    split at h
    · cases h
    · rename_i r hr
      split at h
      · cases h
      · have hrow := lineM_in hm hr
        have := goM_ok hm h ⟨by rw [List.length_append, g.len]; rfl, by omega, fun x hx => ?_, ?_, ?_⟩
        · rw [List.length_cons, show k + (ls.length + 1) = k + 1 + ls.length by omega]
          exact this
        · rcases List.mem_append.mp hx with hx | hx
          · exact g.row x hx
          · rw [List.mem_singleton.mp hx]
            exact hrow
        · split
          · rw [List.pairwise_append]
            exact ⟨g.up, List.pairwise_singleton _ _, fun a ha b hb => by rw [List.mem_singleton.mp hb]; exact (g.lt a ha).2⟩
          · exact g.up
        · intro x hx
          split at hx
          · rcases List.mem_append.mp hx with hx | hx
            · have := g.lt x hx
              omega
            · rw [List.mem_singleton.mp hx]
              omega
          · have := g.lt x hx
            omega
theorem asc_of {n : Int} : ∀ {l : List Int} {b : Int}, l.Pairwise (· < ·) → (∀ x ∈ l, b < x ∧ x < n) → asc n b l
  | [], _, _, _ => trivial
  | x :: r, b, hp, h => by
    obtain ⟨h1, h2⟩ := List.pairwise_cons.mp hp
    have hx := h x (List.mem_cons_self ..)
    exact ⟨hx.1, hx.2, asc_of h2 fun y hy => ⟨h1 y hy, (h y (List.mem_cons_of_mem _ hy)).2⟩⟩
theorem good_of {n : Nat} {lr : List Str} {R : List (List Int)} {E : List Int} (hne : lr ≠ []) (h : goM (manyM (lr.length + 1)) n lr 0 [] [] = .ok (R, E)) : Good n R E ∧ R.length = lr.length := by
  have hm : 0 ≤ manyM (lr.length + 1) := by
    unfold manyM
    split <;> omega
  have g := goM_ok hm h ⟨rfl, by omega, fun r z => (nomatch z), List.Pairwise.nil, fun x z => (nomatch z)⟩
  rw [Nat.zero_add] at g
  have hl := g.len
  have h1 : 1 ≤ lr.length := by
    cases lr with
    | nil => exact absurd rfl hne
    | cons _ _ => simp
  have h128 := g.k128
  have em : manyM (lr.length + 1) = (R.length : Int) := by
    unfold manyM
    rw [if_neg (by omega), hl]
    omega
  rw [em] at g
  refine ⟨⟨fun e => by rw [e] at hl; simp at hl; omega, by omega, g.row, asc_of g.up fun x hx => ?_⟩, hl⟩
  have := g.lt x hx
  omega
end H90

namespace H90
open PySem PySem.Spec L2 He Y Hk90
local macro_rules | `(tactic| walk_at "rd1") => `(tactic| first
  | with_reducible refine s_seq ?_
  | with_reducible refine s_asg ?_
  | with_reducible refine s_gname ?_
  | ((with_reducible refine s_var (v := ?_) ?_ ?_); rotate_left; exact rfl)
  | with_reducible refine s_c ?_
  | with_reducible refine s_op ?_
  | with_reducible refine s_un ?_
  | with_reducible refine s_nil ?_
  | with_reducible refine s_cons ?_
  | with_reducible refine s_CB ?_
  | with_reducible refine s_ifS ?_
  | with_reducible refine s_test ?_
  | with_reducible refine s_B ?_
  | with_reducible refine s_xb ?_
  | with_reducible refine s_xi ?_
  | with_reducible refine s_xs ?_
  | with_reducible refine s_or ?_
  | with_reducible refine s_and ?_
  | with_reducible refine s_not ?_
  | with_reducible refine s_orV ?_
  | with_reducible refine s_andV ?_
  | with_reducible refine s_notV ?_
  | with_reducible refine s_ret ?_
  | with_reducible refine s_retN ?_
  | with_reducible refine s_next ?_
  | with_reducible refine s_drop ?_
  | with_reducible refine s_yes ?_
  | with_reducible refine s_for ?_
  | with_reducible refine s_lc ?_
  | with_reducible refine s_iStr ?_
  | with_reducible refine s_iList ?_
  | with_reducible refine s_iTup ?_
  | with_reducible refine s_iR1 ?_
  | with_reducible refine s_iR2 ?_
  | with_reducible refine s_iE ?_
  | with_reducible refine s_iET ?_
  | with_reducible refine s_iES ?_
  | with_reducible refine s_tup ?_
  | with_reducible refine s_lst ?_
  | with_reducible refine s_BM ?_
  | with_reducible refine s_BM0 ?_
  | with_reducible refine s_BMS ?_
  | with_reducible refine s_M1 ?_
  | with_reducible refine s_sl ?_
  | with_reducible refine s_noP ?_
  | with_reducible refine s_po ?_
  | with_reducible refine s_call ?_
  | with_reducible refine s_callS ?_
  | with_reducible refine s_make ?_
  | with_reducible refine s_fld ?_
  | with_reducible refine s_sFld ?_
  | with_reducible refine s_rz ?_
  | with_reducible refine s_asgS ?_
  | with_reducible refine s_gSub ?_
  | with_reducible refine s_ifE ?_
  | with_reducible refine s_add_i ?_
  | with_reducible refine s_sub ?_
  | with_reducible refine s_neg ?_
  | with_reducible refine s_eq_i ?_
  | with_reducible refine s_eq_s ?_
  | with_reducible refine s_ne_i ?_
  | with_reducible refine s_ne_s ?_
  | with_reducible refine s_lt_i ?_
  | with_reducible refine s_le_i ?_
  | with_reducible refine s_gt_i ?_
  | with_reducible refine s_ge_i ?_
  | with_reducible refine s_lt_s ?_
  | with_reducible refine s_le_s ?_
  | with_reducible refine s_gt_s ?_
  | with_reducible refine s_ge_s ?_
  | with_reducible refine s_in_c ?_
  | with_reducible refine s_ni_c ?_
  | with_reducible refine s_isN ?_
  | with_reducible refine s_noN ?_
  | with_reducible refine s_abs ?_
  | with_reducible refine s_min2 ?_
  | with_reducible refine s_max2 ?_
  | with_reducible refine s_int_i ?_
  | ((with_reducible refine s_len_s ?_ ?_); assumption)
  | ((with_reducible refine s_len_l (xs := ?_) ?_ ?_); rotate_left; assumption)
  | ((with_reducible refine s_len_t (xs := ?_) ?_ ?_); rotate_left; assumption)
  | with_reducible refine s_pair upd_same ?_
  | with_reducible refine s_callS ?_
  | with_reducible refine jtT ?_
  | with_reducible refine jtF ?_
  | dsimp only)
local macro_rules | `(tactic| walk_at "rd") => `(tactic| repeat (walk_at "rd1"))

section
variable {P : Program} {w : World} {K : PySem.W.Frag} {mg : Str → Option Value} {base : Heap}
theorem tl_nl : TL.tl ("\n" : Str) = [10] := rfl
theorem tl_sp : TL.tl (" " : Str) = [32] := rfl
structure RmI (K : PySem.W.Frag) (text : Str) (n : Nat) (lr : List Str) (D1 H1 : Hp) (p hd ar en : Addr) (i : Nat) (σ : L2.St) (H' : Hp) : Prop where
  ex : ∃ (D' : Hp) (o5 o6 o7 o8 : Option V) (R : List (List Int)) (E : List Int) (vs : List V), Gr (fun b => b = ar ∨ b = en) D1 H1 D' H' ∧ D' ar = none ∧ D' en = none ∧ H' en = some (.lst (E.map V.int)) ∧ H' ar = some (.lst vs) ∧ DpAll K D' vs (R.map dL) ∧
    σ = [some (.str text), some (.ref p), some (.ref hd), some (.ref ar), some (.ref en), o5, o6, o7, o8] ∧ R.length ≤ i ∧ E.length ≤ i ∧ goM (manyM (lr.length + 1)) n (lr.drop i) i R E = goM (manyM (lr.length + 1)) n lr 0 [] []
theorem S_read_machine : FnScope ["text", "rows", "head", "arrows", "ends", "state", "line", "parts", "row"] ["text"] (d_read_machine).scope := ⟨rfl, rfl, rfl, by decide +kernel, rfl, by decide +kernel, by decide +kernel⟩
def sp_read_machine (K : PySem.W.Frag) : Sp := fun vs H Q E => ∃ (D : Hp) (t : Str), vs = [.str t] ∧ t.length ≤ 100000 ∧ Same D H ∧ (∀ D' H' v s R L, readM t = .ok (s, R, L) → Gr No D H D' H' → IsM K D' v s R L → Q v H') ∧
  (∀ D' H' d k, readM t = .error k → Gr No D H D' H' → H' d = none → E (.ref (ga K "BadText")) (some d) (upd H' d (.xd [("line", .int (k : Nat))])))
theorem w_read_machine (T : Txt P w K mg) : Has P w K mg base 6 "read_machine" (sp_read_machine K) := by
  have S := S_read_machine
  have G_are_letters := w_are_letters (base := base) T
  have G_read_arrows := w_read_arrows (base := base) T
  have G_Machine := w_Machine (base := base) T
  refine has_of (k := 5) T.d_read_machine T.gd_read_machine S (fun _ _ _ _ _ _ us hl => match us, hl with | [_], _ => rfl) (fun vs H Q E h => ?_) (fun f cdv A outer s H vs Q E hr h => ?_)
  · obtain ⟨D, t, rfl, _⟩ := h
    rfl
  · obtain ⟨D, text, rfl, ht, sm, qk, qe⟩ := h
    have hz : text.length + 2 ≤ sizeLine := Nat.le_trans (Nat.add_le_add_right ht 2) (by decide)
    refine ⟨_, (pss_cons (ps_set (i := 1) S.nd rfl (Or.inl rfl) (pe_m1 PySem.F.slot_str_split PySem.F.type_str_split m_split (pv 0) pe_str))
    (pss_cons (ps_set (i := 2) S.nd rfl (Or.inl rfl) (pe_m1 PySem.F.slot_str_split PySem.F.type_str_split m_split (pe_ix (ixK_seq K) (pv 1) pe_int (fun _ _ => rfl)) pe_str))
    (pss_cons (ps_if (PW.pt (pw_or (pt_cmpR (cK_ne K hr.units) (pe_callB (bK_len K) (by rfl) T.b_len (by decide +kernel) (pa_cons (pv 2) pa_nil)) pe_int (nomark _)) (pw_or (pt_cmpR (cK_ne K hr.units) (pe_ix (ixK_seq K) (pv 2) pe_int (fun _ _ => rfl)) pe_str (nomark _)) (pw_or1 (pt_not (pt_val (pe_has G_are_letters (hr.mono (by decide)) (takes_of rfl rfl rfl rfl) rfl (pa_cons (pe_ix (ixK_seq K) (pv 2) pe_int (fun _ _ => rfl)) pa_nil))))))))
      (pss_one (ps_raise rfl (takes_of rfl rfl rfl rfl) (pmk_rz (z_BadText T) (hr.mono (by decide)) rfl (pa_cons pe_int pa_nil))))
      pss_nil)
    (pss_cons (ps_if (pt_cmpR (cK_eq K hr.units) (pe_callB (bK_len K) (by rfl) T.b_len (by decide +kernel) (pa_cons (pv 1) pa_nil)) pe_int (nomark _))
      (pss_one (ps_raise rfl (takes_of rfl rfl rfl rfl) (pmk_rz (z_BadText T) (hr.mono (by decide)) rfl (pa_cons pe_int pa_nil))))
      pss_nil)
    (pss_cons (ps_set (i := 3) S.nd rfl (Or.inl rfl) (pe_lst pa_nil))
    (pss_cons (ps_set (i := 4) S.nd rfl (Or.inl rfl) (pe_lst pa_nil))
    (pss_cons (ps_for (passes_of rfl) rfl (piK_enum K (by rfl) T.b_enumerate (pa_cons (pe_slice (slK_any K) (pv 1) (po_some pe_int) po_none) pa_nil)) (pgK_tup K (n := 2) rfl (pgs_cons (pg_name (i := 5) S.nd rfl (Or.inl rfl)) (pgs_cons (pg_name (i := 6) S.nd rfl (Or.inl rfl)) pgs_nil)))
      (pss_cons (ps_set (i := 7) S.nd rfl (Or.inl rfl) (pe_m1 PySem.F.slot_str_split PySem.F.type_str_split m_split (pv 6) pe_str))
    (pss_cons (ps_if (PW.pt (pw_and (pt_cmpR c_gt (pe_callB (bK_len K) (by rfl) T.b_len (by decide +kernel) (pa_cons (pv 7) pa_nil)) pe_int (nomark _)) (pw_and1 (pt_cmpR (cK_eq K hr.units) (pe_ix (ixK_seq K) (pv 7) (pe_op o_sub (pe_callB (bK_len K) (by rfl) T.b_len (by decide +kernel) (pa_cons (pv 7) pa_nil)) pe_int) (fun _ _ => rfl)) pe_str (nomark _)))))
      (pss_cons (ps_set (i := 7) S.nd rfl (Or.inl rfl) (pe_slice (slK_any K) (pv 7) po_none (po_some (pe_un o_neg pe_int))))
    (pss_one (ps_expr (peK_bm K PySem.F.plainAttrs_list PySem.F.slot_list_append PySem.F.type_list_append mt_append (pv 4) (pa_cons (pv 5) pa_nil)))))
      pss_nil)
    (pss_cons (ps_set (i := 8) S.nd rfl (Or.inl rfl) (pe_has G_read_arrows (hr.mono (by decide)) (takes_of rfl rfl rfl rfl) rfl (pa_cons (pe_ix (ixK_seq K) (pv 2) pe_int (fun _ _ => rfl)) (pa_cons (pv 7) (pa_cons (pe_callB (b_min rfl) (by rfl) T.b_min (by decide +kernel) (pa_cons (pe_op o_sub (pe_callB (bK_len K) (by rfl) T.b_len (by decide +kernel) (pa_cons (pv 1) pa_nil)) pe_int) (pa_cons (pe_gI rfl T.c_MOST_STATES) pa_nil))) pa_nil)))))
    (pss_cons (ps_if (PW.pt (pw_or (pt_cmpR c_is (pv 8) pe_non (nomark _)) (pw_or1 (pt_cmpR c_ge (pv 5) (pe_gI rfl T.c_MOST_STATES) (nomark _)))))
      (pss_one (ps_raise rfl (takes_of rfl rfl rfl rfl) (pmk_rz (z_BadText T) (hr.mono (by decide)) rfl (pa_cons (pe_op (oK_add K) (pv 5) pe_int) pa_nil))))
      pss_nil)
    (pss_one (ps_expr (peK_bm K PySem.F.plainAttrs_list PySem.F.slot_list_append PySem.F.type_list_append mt_append (pv 3) (pa_cons (pv 8) pa_nil)))))))))
    (pss_one (ps_ret (pe_mk' G_Machine (hr.mono (by decide)) rfl (pa_cons (pe_ix (ixK_seq K) (pv 2) pe_int (fun _ _ => rfl)) (pa_cons (pv 3) (pa_cons (pv 4) pa_nil))))))))))))), ?_⟩
    walk_at "rd"
    refine ⟨⟨_, rfl⟩, ?_⟩
    walk_at "rd"
    refine s_split rfl hz fun p np => ?_
    have hc := split_count (x := text) tl_nl (by decide)
    have hpt := split_part (x := text) tl_nl (by decide)
    unfold readM at qk qe
    cases hls : Txt.split text "\n" with
    | nil => exact absurd hls (split_ne tl_nl (by decide))
    | cons l0 lr =>
    rw [hls] at qk qe hc hpt
    have hl0 := hpt l0 (List.mem_cons_self ..)
    have g1 := (Gr.refl (m := No) sm).ice (o := .lst ((l0 :: lr).map V.str)) np
    walk_at "rd"
    refine s_ix_l (sql upd_same) atI_0 ?_
    refine ⟨⟨_, rfl⟩, ?_⟩
    walk_at "rd"
    refine s_split rfl (by omega) fun hd nd => ?_
    have g2 := g1.ice (o := .lst ((Txt.split l0 " ").map V.str)) nd
    have hhd : SqL K (upd (upd H p (.lst ((l0 :: lr).map V.str))) hd (.lst ((Txt.split l0 " ").map V.str))) hd ((Txt.split l0 " ").map V.str) := sql upd_same
    have hp2 : SqL K (upd (upd H p (.lst ((l0 :: lr).map V.str))) hd (.lst ((Txt.split l0 " ").map V.str))) p ((l0 :: lr).map V.str) := by
      have : p ≠ hd := fun e => by rw [e, upd_same] at nd; cases nd
      exact sql ((upd_ne this).trans upd_same)
    have hpD : SqL K (upd (upd D p (.lst ((l0 :: lr).map V.str))) hd (.lst ((Txt.split l0 " ").map V.str))) p ((l0 :: lr).map V.str) := by
      have : p ≠ hd := fun e => by rw [e, upd_same] at nd; cases nd
      exact sql ((upd_ne this).trans upd_same)
    have hdD : SqL K (upd (upd D p (.lst ((l0 :: lr).map V.str))) hd (.lst ((Txt.split l0 " ").map V.str))) hd ((Txt.split l0 " ").map V.str) := sql upd_same
    revert g2 hhd hp2 hpD hdD
    generalize (upd (upd H p (.lst ((l0 :: lr).map V.str))) hd (.lst ((Txt.split l0 " ").map V.str))) = H2
    generalize (upd (upd D p (.lst ((l0 :: lr).map V.str))) hd (.lst ((Txt.split l0 " ").map V.str))) = D2
    intro g2 hhd hp2 hpD hdD
    have hhp := split_part (x := l0) tl_sp (by decide)
    have bad1 : ∀ d, readL (l0 :: lr) = .error 1 → H2 d = none → E (.ref (ga K "BadText")) (some d) (upd H2 d (.xd [("line", .int 1)])) := fun d e nd => qe D2 H2 d 1 e g2 nd
    walk_at "rd"
    refine jtN (fun e => ?_) (fun e1 => ?_)
    · walk_at "rd"
      refine ⟨rfl, by decide, fun d nd => bad1 d ?_ nd⟩
      have e' : (Txt.split l0 " ").length ≠ 2 := fun z => e (by rw [List.length_map, z]; rfl)
      show (match Txt.split l0 " " with
        | [a, s] => _
        | _ => _) = _
      split
      · rename_i h
        rw [h] at e'
        exact absurd rfl e'
      · rfl
    obtain ⟨a, ls, hab⟩ : ∃ a ls, Txt.split l0 " " = [a, ls] := by
      have e' : (Txt.split l0 " ").length = 2 := by
        have := e1
        rw [List.length_map] at this
        omega
      match h : Txt.split l0 " ", e' with
      | [a, b], _ => exact ⟨a, b, rfl⟩
    rw [hab] at hhd hdD hhp
    have hll := hhp ls (by simp)
    have hsl : ls.length ≤ sizeLine := by omega
    walk_at "rd"
    refine s_ix_l hhd atI_0 ?_
    walk_at "rd"
    have erd : readL (l0 :: lr) = if a = "machine" ∧ okLetters ls = true then (if lr = [] then .error 2 else match goM (manyM (lr.length + 1)) ls.length lr 0 [] [] with
      | .error k => .error k
      | .ok (R, E) => .ok (ls, R, E)) else .error 1 := by
      show (match Txt.split l0 " " with
        | [a, s] => _
        | _ => _) = _
      rw [hab]
      all_goals rfl
    refine jtN (fun e => ?_) (fun e2 => ?_)
    · walk_at "rd"
      exact ⟨rfl, by decide, fun d nd => bad1 d (by rw [erd, if_neg fun z => e z.1]) nd⟩
    walk_at "rd"
    refine s_ix_l hhd (atI_i (j := 1) rfl rfl) ?_
    walk_at "rd"
    refine ⟨ls, rfl, hsl, ?_⟩
    refine s_xb ?_
    refine jtNB (fun e => ?_) (fun e3 => ?_)
    · walk_at "rd"
      exact ⟨rfl, by decide, fun d nd => bad1 d (by rw [erd, if_neg fun z => by rw [z.2] at e; cases e]) nd⟩
    rw [if_pos ⟨e2, e3⟩] at erd
    walk_at "rd"
    refine jtD (fun e => ?_) (fun e4 => ?_)
    · walk_at "rd"
      refine ⟨rfl, by decide, fun d nd => qe D2 H2 d 2 ?_ g2 nd⟩
      have : lr = [] := by
        rw [List.length_map, List.length_cons] at e
        cases lr with
        | nil => rfl
        | cons _ _ => simp at e; omega
      rw [erd, if_pos this]
    have hne : lr ≠ [] := fun z => e4 (by rw [z]; rfl)
    rw [if_neg hne] at erd
    walk_at "rd"
    refine ⟨Nat.zero_le _, fun ar nar => ?_⟩
    have g3 := g2.lay (o := .lst []) nar
    have hDar : D2 ar = none := g2.free nar
    walk_at "rd"
    refine ⟨Nat.zero_le _, fun en nen => ?_⟩
    have g4 := g3.lay (o := .lst []) nen
    have hDen : D2 en = none := g3.free nen
    have har4 := (((Gr.refl (m := No) g3.sub).lay (o := .lst []) nen).same ar _ (fun z => z) upd_same)
    have h24 : Same H2 (upd (upd H2 ar (.lst [])) en (.lst [])) := ((Gr.refl (m := No) (Same.refl H2)).lay nar |>.lay nen).all
    walk_at "rd"
    refine s_sl_l (h24.seq hp2) fun c nc => ?_
    have ecut : cutV ((l0 :: lr).map V.str) (some 1) none = lr.map V.str := by
      rw [cut_tail]
      rfl
    rw [ecut]
    have g5 := g4.ice (o := .lst (lr.map V.str)) nc
    have har5 := (((Gr.refl (m := No) g4.sub).lay (o := .lst (lr.map V.str)) nc).same ar _ (fun z => z) har4)
    have hen5 := (((Gr.refl (m := No) g4.sub).lay (o := .lst (lr.map V.str)) nc).same en _ (fun z => z) upd_same)
    have hDar5 : (upd D2 c (.lst (lr.map V.str))) ar = none := ((Gr.refl (m := No) g4.sub).ice (o := .lst (lr.map V.str)) nc).stay hDar har4
    have hDen5 : (upd D2 c (.lst (lr.map V.str))) en = none := ((Gr.refl (m := No) g4.sub).ice (o := .lst (lr.map V.str)) nc).stay hDen upd_same
    have hcD : SqL K (upd D2 c (.lst (lr.map V.str))) c (lr.map V.str) := sql upd_same
    have s25 : Same D2 (upd D2 c (.lst (lr.map V.str))) := ((Gr.refl (m := No) g4.sub).ice (o := .lst (lr.map V.str)) nc).dd
    have hpD5 := s25.seq hpD
    have hdD5 := s25.seq hdD
    have g1c := g5.sub
    have hHar : H ar = none := g2.kept _ nar
    have hHen : H en = none := g3.kept _ nen
    have nae : ar ≠ en := fun e => by rw [← e, upd_same] at nen; cases nen
    revert g5 har5 hen5 hDar5 hDen5 hcD hpD5 hdD5 g1c
    generalize (upd (upd (upd H2 ar (.lst [])) en (.lst [])) c (.lst (lr.map V.str))) = H1
    generalize (upd D2 c (.lst (lr.map V.str))) = D1
    intro g5 har5 hen5 hDar5 hDen5 hcD hpD5 hdD5 g1c
    have hm0 : 0 ≤ manyM (lr.length + 1) := by
      unfold manyM
      split <;> omega
    have hcnt : lr.length + 1 ≤ text.length + 1 := hc
    walk_at "rd"
    refine ⟨c, _, rfl, g1c.seq hcD, lp_it walk_enum (RmI K text ls.length lr D1 H1 p hd ar en) ⟨D1, _, _, _, _, [], [], [], Gr.refl g1c, hDar5, hDen5, hen5, har5, .nil, rfl, Nat.le_refl _, Nat.le_refl _, rfl⟩ (fun i σ H' _ ⟨D', _, _, _, _, _, _, _, g, _⟩ => sql_up g hcD) ?_ ?_⟩
    · rintro i x σ H3 H4 hi ⟨D3, o5, o6, o7, o8, R, L, vs, g, hDa, hDe, hHe, hHa, hvs, rfl, hR, hL, ego⟩ ⟨t, x1, x2, rfl, nt, rfl, e1, e2⟩
      cases e1
      have e2 : (lr.map V.str)[i]? = some x2 := e2
      rw [List.getElem?_map] at e2
      obtain ⟨ln, hln, rfl⟩ := Option.map_eq_some_iff.mp e2
      obtain ⟨hi1, eln⟩ := List.getElem?_eq_some_iff.mp hln
      have hll2 := hpt ln (List.mem_cons_of_mem _ (List.mem_of_getElem? hln))
      rw [List.drop_eq_getElem_cons hi1, eln, goM_cons] at ego
      have g6 := g.lay (o := .tup [.int i, .str ln]) nt
      have gl := ((Gr.refl (m := No) g.sub).lay (o := .tup [.int i, .str ln]) nt)
      have hHe6 := gl.same en _ (fun z => z) hHe
      have hHa6 := gl.same ar _ (fun z => z) hHa
      walk_at "rd"
      refine ⟨⟨_, rfl⟩, ?_⟩
      walk_at "rd"
      refine s_split rfl (by omega) fun pp npp => ?_
      with_reducible refine s_gname ?_
      have hcs := split_count (x := ln) tl_sp (by decide)
      have hps := split_part (x := ln) tl_sp (by decide)
      have gp := ((Gr.refl (m := No) g6.sub).ice (o := .lst ((Txt.split ln " ").map V.str)) npp)
      have hHe7 := gp.same en _ (fun z => z) hHe6
      have hHa7 := gp.same ar _ (fun z => z) hHa6
      have hDe7 := gp.stay hDe hHe6
      have hDa7 := gp.stay hDa hHa6
      have g7 := g6.trans gp.no
      have hvs7 := Y.Dp.monoAll gp.dd hvs
      have hppD : SqL K (upd D3 pp (.lst ((Txt.split ln " ").map V.str))) pp ((Txt.split ln " ").map V.str) := sql upd_same
      revert hHe7 hHa7 hDe7 hDa7 g7 hvs7 hppD
      generalize (upd (upd H3 t (.tup [.int i, .str ln])) pp (.lst ((Txt.split ln " ").map V.str))) = H7
      generalize (upd D3 pp (.lst ((Txt.split ln " ").map V.str))) = D7
      intro hHe7 hHa7 hDe7 hDa7 g7 hvs7 hppD
      have hppH := g7.sub.seq hppD
      unfold lineM at ego
      revert ego hcs hps hppD hppH
      generalize Txt.split ln " " = ps
      intro ego hcs hps hppD hppH
      -- behind the cut of 'end'
      refine s_cut (fun σ' H8 => ∃ (D8 : Hp) (qq : Addr) (qs : List Str) (L' : List Int), Gr (fun b => b = ar ∨ b = en) D1 H1 D8 H8 ∧ D8 ar = none ∧ D8 en = none ∧ H8 en = some (.lst (L'.map V.int)) ∧ H8 ar = some (.lst vs) ∧ DpAll K D8 vs (R.map dL) ∧ L'.length ≤ i + 1 ∧
          SqL K D8 qq (qs.map V.str) ∧ qs.length ≤ ln.length + 1 ∧ (∀ q ∈ qs, q.length ≤ ln.length) ∧ σ' = [some (.str text), some (.ref p), some (.ref hd), some (.ref ar), some (.ref en), some (.int i), some (.str ln), some (.ref qq), o8] ∧
          (match rowM (manyM (lr.length + 1)) ls.length qs with
            | none => .error (i + 2)
            | some r => if 128 ≤ i then .error (i + 2) else goM (manyM (lr.length + 1)) ls.length (lr.drop (i + 1)) (i + 1) (R ++ [r]) L') = goM (manyM (lr.length + 1)) ls.length lr 0 [] []) ?_ (fun N rest => ?_)
      · rintro σ' H8 ⟨D8, qq, qs, L', g8, hDa8, hDe8, hHe8, hHa8, hvs8, hL', hqq, hqc, hql, rfl, ego8⟩
        have hd8 := g8.same'.seq hdD5
        have hp8 := g8.same'.seq hpD5
        have hq8 := g8.sub.seq hqq
        walk_at "rd"
        refine s_ix_l hd8 (atI_i (j := 1) rfl rfl) ?_
        walk_at "rd"
        have em : (if (128 : Int) < (((l0 :: lr).map V.str).length : Int) - 1 then (128 : Int) else (((l0 :: lr).map V.str).length : Int) - 1) = manyM (lr.length + 1) := by
          rw [List.length_map, List.length_cons]
          rfl
        rw [em]
        refine ⟨D8, ls, qq, qs, _, rfl, hm0, hsl, g8.sub, hq8, fun q hq => Nat.le_trans (hql q hq) (by omega), Nat.lt_of_le_of_lt hqc (by omega), fun D9 H9 v g9 hv => ?_⟩
        have hHe9 := g9.same en _ (fun z => z) hHe8
        have hHa9 := g9.same ar _ (fun z => z) hHa8
        have hDe9 := g9.stay hDe8 hHe8
        have hDa9 := g9.stay hDa8 hHa8
        have gA := g8.trans g9.no
        have gN : Gr No D H D9 H9 := g5.transN gA fun x hx => hx.elim (fun e => e ▸ hHar) fun e => e ▸ hHen
        walk_at "rd"
        cases hrow : rowM (manyM (lr.length + 1)) ls.length qs with
        | none =>
          rw [hrow] at hv ego8
          have ev : v = .non := hv
          subst ev
          refine jtD (fun _ => ?_) (fun z => absurd rfl z)
          walk_at "rd"
          refine ⟨rfl, by simp, fun d nd => ?_⟩
          have := qe D9 H9 d (i + 2) (by rw [erd, ← ego8]) gN nd
          exact this
        | some r =>
          rw [hrow] at hv ego8
          have hv' : Dp K D9 v (dL r) := hv
          refine jtD (fun z => ?_) (fun _ => ?_)
          · rw [z] at hv'
            cases hv'
          walk_at "rd"
          refine jtD (fun e6 => ?_) (fun e6 => ?_)
          · walk_at "rd"
            refine ⟨rfl, by simp, fun d nd => ?_⟩
            have h128 : 128 ≤ i := by omega
            have := qe D9 H9 d (i + 2) (by
              rw [erd, ← ego8]
              dsimp only
              rw [if_pos h128]) gN nd
            exact this
          · have h128 : ¬ 128 ≤ i := by omega
            walk_at "rd"
            refine ⟨ty_l hHa9, ?_⟩
            walk_at "rd"
            have hvl := dpl_len hvs8
            rw [List.length_map] at hvl
            refine s_append hHa9 (small1000 (by omega)) ?_
            walk_at "rd"
            refine ⟨D9, _, _, _, _, R ++ [r], L', vs ++ [v], gA.put hDa9 (.inr (.inl rfl)), hDa9, hDe9, (upd_ne nae.symm).trans hHe9, upd_same, ?_, rfl, ?_, hL', ?_⟩
            · rw [List.map_append]
              exact dpl_snoc (Y.Dp.monoAll g9.dd hvs8) hv'
            · rw [List.length_append]
              simpa using hR
            · rw [← ego8]
              dsimp only
              rw [if_neg h128]
      · walk_at "rd"
        refine jtD (fun e6 => ?_) (fun e6 => ?_)
        · have hpl : 1 < ps.length := by
            rw [List.length_map] at e6
            omega
          have hj : ps.length - 1 < ps.length := by omega
          walk_at "rd"
          refine s_ix_l hppH (v := .str ps[ps.length - 1]) (atI_i (j := ps.length - 1) (by rw [List.length_map]; omega) (by rw [List.getElem?_map, List.getElem?_eq_getElem hj]; rfl)) ?_
          walk_at "rd"
          refine jtD (fun e7 => ?_) (fun e7 => ?_)
          · walk_at "rd"
            refine s_sl_l hppH fun qq nq => ?_
            have ecut : cutV (ps.map V.str) none (some (-1)) = (ps.take (ps.length - 1)).map V.str := by
              rw [cut_init, List.length_map, List.map_take]
            rw [ecut]
            have gq := (Gr.refl (m := No) g7.sub).ice (o := .lst ((ps.take (ps.length - 1)).map V.str)) nq
            have hHe8 := gq.same en _ (fun z => z) hHe7
            have hHa8 := gq.same ar _ (fun z => z) hHa7
            have hDe8 := gq.stay hDe7 hHe7
            have hDa8 := gq.stay hDa7 hHa7
            walk_at "rd"
            refine ⟨ty_l hHe8, ?_⟩
            walk_at "rd"
            refine s_append hHe8 (by rw [List.length_map]; omega) ?_
            walk_at "rd"
            refine rest _ _ ⟨_, qq, ps.take (ps.length - 1), L ++ [(i : Int)], (g7.trans gq.no).put hDe8 (.inr (.inr rfl)), hDa8, hDe8, ?_, (upd_ne nae).trans hHa8, Y.Dp.monoAll gq.dd hvs7, ?_, sql upd_same, ?_, fun q hq => hps q (List.mem_of_mem_take hq), rfl, ?_⟩
            · rw [upd_same, List.map_append]
              rfl
            · rw [List.length_append]
              simpa using hL
            · rw [List.length_take]
              omega
            · rw [← ego, if_pos ⟨hpl, by rw [List.getElem?_eq_getElem hj, e7]⟩]
              rfl
          · walk_at "rd"
            refine rest _ _ ⟨D7, pp, ps, L, g7, hDa7, hDe7, hHe7, hHa7, hvs7, by omega, hppD, hcs, hps, rfl, ?_⟩
            rw [← ego, if_neg fun z => e7 (by
              have := z.2
              rw [List.getElem?_eq_getElem hj] at this
              exact Option.some.inj this)]
            rfl
        · walk_at "rd"
          refine rest _ _ ⟨D7, pp, ps, L, g7, hDa7, hDe7, hHe7, hHa7, hvs7, by omega, hppD, hcs, hps, rfl, ?_⟩
          rw [← ego, if_neg fun z => e6 (by
            have := z.1
            rw [List.length_map]
            omega)]
          rfl
    · rintro σ H3 ⟨D3, o5, o6, o7, o8, R, L, vs, g, hDa, hDe, hHe, hHa, hvs, rfl, hR, hL, ego⟩
      have el : lr.drop (lr.map V.str).length = [] := List.drop_of_length_le (by simp)
      rw [el] at ego
      have ego' : goM (manyM (lr.length + 1)) ls.length lr 0 [] [] = .ok (R, L) := by
        rw [← ego]
        rfl
      obtain ⟨good, hRl⟩ := good_of hne ego'
      have hd3 := g.same'.seq hdD5
      have gN : Gr No D H D3 H3 := g5.transN g fun x hx => hx.elim (fun e => e ▸ hHar) fun e => e ▸ hHen
      have gB := (gN.cold hHa hHar).cold hHe hHen
      have sB : Same D3 (upd D3 ar (.lst vs)) := fun b o e => by
        have : b ≠ ar := fun z => by rw [z, hDa] at e; cases e
        exact (upd_ne this).trans e
      have sC : Same (upd D3 ar (.lst vs)) (upd (upd D3 ar (.lst vs)) en (.lst (L.map V.int))) := fun b o e => by
        have : b ≠ en := fun z => by rw [z, upd_ne nae.symm, hDe] at e; cases e
        exact (upd_ne this).trans e
      walk_at "rd"
      refine s_ix_l hd3 (atI_i (j := 1) rfl rfl) ?_
      walk_at "rd"
      intro x dx nx ndx ne
      have nx' : (upd H3 dx (.own x)) x = none := (upd_ne (Ne.symm ne)).trans nx
      have gM := (gB.lay (o := .own x) ndx).lay (o := .ins (ga K "Machine") dx []) nx'
      refine ⟨_, x, dx, ls, .ref ar, .ref en, R, L, rfl, hsl, gM.sub, gB.free nx, upd_same, ?_, ?_, e3, good, fun D' H' vp vq gF hDx hHx dp dq => ⟨rfl, qk (upd D' x (.ins (ga K "Machine") dx [("letters", .str ls), ("arrows", vp), ("ends", vq)])) H' (.ref x) ls R L (by rw [erd, ego']) ?_ ?_⟩⟩
      · exact .lst (sql ((upd_ne nae).trans upd_same)) (Y.Dp.monoAll sC (Y.Dp.monoAll sB hvs))
      · exact dp_ofL (sql upd_same)
      · exact (gM.transN gF fun y hy => hy ▸ gB.kept x nx).cold hHx (gB.kept x nx)
      · have sX : Same D' (upd D' x (.ins (ga K "Machine") dx [("letters", .str ls), ("arrows", vp), ("ends", vq)])) := fun b o e => by
          have : b ≠ x := fun z => by rw [z, hDx] at e; cases e
          exact (upd_ne this).trans e
        exact ⟨x, dx, vp, vq, rfl, upd_same, Y.Dp.mono sX dp, Y.Dp.mono sX dq⟩
end
end H90

namespace H90
open PySem PySem.Spec L2 He Y Hk90
local macro_rules | `(tactic| walk_at "rd1") => `(tactic| first
  | with_reducible refine s_seq ?_
  | with_reducible refine s_asg ?_
  | with_reducible refine s_gname ?_
  | ((with_reducible refine s_var (v := ?_) ?_ ?_); rotate_left; exact rfl)
  | with_reducible refine s_c ?_
  | with_reducible refine s_op ?_
  | with_reducible refine s_un ?_
  | with_reducible refine s_nil ?_
  | with_reducible refine s_cons ?_
  | with_reducible refine s_CB ?_
  | with_reducible refine s_ifS ?_
  | with_reducible refine s_test ?_
  | with_reducible refine s_B ?_
  | with_reducible refine s_xb ?_
  | with_reducible refine s_xi ?_
  | with_reducible refine s_xs ?_
  | with_reducible refine s_or ?_
  | with_reducible refine s_and ?_
  | with_reducible refine s_not ?_
  | with_reducible refine s_orV ?_
  | with_reducible refine s_andV ?_
  | with_reducible refine s_notV ?_
  | with_reducible refine s_ret ?_
  | with_reducible refine s_retN ?_
  | with_reducible refine s_next ?_
  | with_reducible refine s_drop ?_
  | with_reducible refine s_yes ?_
  | with_reducible refine s_for ?_
  | with_reducible refine s_lc ?_
  | with_reducible refine s_iStr ?_
  | with_reducible refine s_iList ?_
  | with_reducible refine s_iTup ?_
  | with_reducible refine s_iR1 ?_
  | with_reducible refine s_iR2 ?_
  | with_reducible refine s_iE ?_
  | with_reducible refine s_iET ?_
  | with_reducible refine s_iES ?_
  | with_reducible refine s_tup ?_
  | with_reducible refine s_lst ?_
  | with_reducible refine s_BM ?_
  | with_reducible refine s_BM0 ?_
  | with_reducible refine s_BMS ?_
  | with_reducible refine s_M1 ?_
  | with_reducible refine s_sl ?_
  | with_reducible refine s_noP ?_
  | with_reducible refine s_po ?_
  | with_reducible refine s_call ?_
  | with_reducible refine s_callS ?_
  | with_reducible refine s_make ?_
  | with_reducible refine s_fld ?_
  | with_reducible refine s_sFld ?_
  | with_reducible refine s_rz ?_
  | with_reducible refine s_asgS ?_
  | with_reducible refine s_gSub ?_
  | with_reducible refine s_ifE ?_
  | with_reducible refine s_add_i ?_
  | with_reducible refine s_sub ?_
  | with_reducible refine s_neg ?_
  | with_reducible refine s_eq_i ?_
  | with_reducible refine s_eq_s ?_
  | with_reducible refine s_ne_i ?_
  | with_reducible refine s_ne_s ?_
  | with_reducible refine s_lt_i ?_
  | with_reducible refine s_le_i ?_
  | with_reducible refine s_gt_i ?_
  | with_reducible refine s_ge_i ?_
  | with_reducible refine s_lt_s ?_
  | with_reducible refine s_le_s ?_
  | with_reducible refine s_gt_s ?_
  | with_reducible refine s_ge_s ?_
  | with_reducible refine s_in_c ?_
  | with_reducible refine s_ni_c ?_
  | with_reducible refine s_isN ?_
  | with_reducible refine s_noN ?_
  | with_reducible refine s_abs ?_
  | with_reducible refine s_min2 ?_
  | with_reducible refine s_max2 ?_
  | with_reducible refine s_int_i ?_
  | ((with_reducible refine s_len_s ?_ ?_); assumption)
  | ((with_reducible refine s_len_l (xs := ?_) ?_ ?_); rotate_left; assumption)
  | ((with_reducible refine s_len_t (xs := ?_) ?_ ?_); rotate_left; assumption)
  | with_reducible refine s_pair upd_same ?_
  | with_reducible refine s_callS ?_
  | with_reducible refine jtT ?_
  | with_reducible refine jtF ?_
  | dsimp only)
local macro_rules | `(tactic| walk_at "rd") => `(tactic| repeat (walk_at "rd1"))

/-! ### the law's draws -/
/-- the draws' state: a list of four, the first one a list of ints -/
structure Stt (K : PySem.W.Frag) (D H : Hp) (st : Addr) : Prop where
  ex : ∃ (c : Addr) (a b e : Int) (cells : List Int), H st = some (.lst [.ref c, .int a, .int b, .int e]) ∧ SqL K D c (cells.map V.int) ∧ 1 ≤ cells.length
  free : D st = none
section
variable {K : PySem.W.Frag} {H : Hp} {st : Addr} {x0 x1 x2 x3 v : V} {Q : VK}
theorem s_u0 (k : Q x0 (upd H st (.lst [x0, x1, x2, x3]))) : rIx K (.ref st) (.int 0) (upd H st (.lst [x0, x1, x2, x3])) Q := s_ix_l (sql upd_same) atI_0 k
theorem s_u1 (k : Q x1 (upd H st (.lst [x0, x1, x2, x3]))) : rIx K (.ref st) (.int 1) (upd H st (.lst [x0, x1, x2, x3])) Q := s_ix_l (sql upd_same) (atI_i (j := 1) rfl rfl) k
theorem s_u2 (k : Q x2 (upd H st (.lst [x0, x1, x2, x3]))) : rIx K (.ref st) (.int 2) (upd H st (.lst [x0, x1, x2, x3])) Q := s_ix_l (sql upd_same) (atI_i (j := 2) rfl rfl) k
theorem s_u3 (k : Q x3 (upd H st (.lst [x0, x1, x2, x3]))) : rIx K (.ref st) (.int 3) (upd H st (.lst [x0, x1, x2, x3])) Q := s_ix_l (sql upd_same) (atI_i (j := 3) rfl rfl) k
theorem s_w1 {Q : Hp → Prop} (k : Q (upd H st (.lst [x0, v, x2, x3]))) : rSetL (.ref st) (.int 1) v (upd H st (.lst [x0, x1, x2, x3])) Q := s_setL upd_same (show ixN 4 1 = some 1 from rfl) (by rw [upd_upd]; exact k)
theorem s_w2 {Q : Hp → Prop} (k : Q (upd H st (.lst [x0, x1, v, x3]))) : rSetL (.ref st) (.int 2) v (upd H st (.lst [x0, x1, x2, x3])) Q := s_setL upd_same (show ixN 4 2 = some 2 from rfl) (by rw [upd_upd]; exact k)
theorem s_w3 {Q : Hp → Prop} (k : Q (upd H st (.lst [x0, x1, x2, v]))) : rSetL (.ref st) (.int 3) v (upd H st (.lst [x0, x1, x2, x3])) Q := s_setL upd_same (show ixN 4 3 = some 3 from rfl) (by rw [upd_upd]; exact k)
end
local macro_rules | `(tactic| walk_at "nx") => `(tactic| repeat (first
  | walk_at "rd1"
  | with_reducible refine s_u0 ?_
  | with_reducible refine s_u1 ?_
  | with_reducible refine s_u2 ?_
  | with_reducible refine s_u3 ?_
  | with_reducible refine s_w1 ?_
  | with_reducible refine s_w2 ?_
  | with_reducible refine s_w3 ?_))
section
variable {P : Program} {w : World} {K : PySem.W.Frag} {mg : Str → Option Value} {base : Heap}
theorem Stt.up {D H D' H' : Hp} {st : Addr} (h : Stt K D H st) (g : Gr No D H D' H') : Stt K D' H' st := by
  obtain ⟨⟨c, a, b, e, cells, h1, h2, h3⟩, h4⟩ := h
  exact ⟨⟨c, a, b, e, cells, g.same _ _ (fun z => z) h1, g.dd.seq h2, h3⟩, g.stay h4 h1⟩
theorem Stt.is {D H : Hp} {st : Addr} (h : Stt K D H st) : H st ≠ none := by
  obtain ⟨⟨c, a, b, e, cells, h1, h2, h3⟩, h4⟩ := h
  rw [h1]
  simp
theorem S_law_start : FnScope ["script", "cells", "cell"] ["script"] (d_law_start).scope := ⟨rfl, rfl, rfl, by decide +kernel, rfl, by decide +kernel, by decide +kernel⟩
def sp_law_start (K : PySem.W.Frag) : Sp := fun vs H Q E => ∃ (a : Addr) (ns : List Int), vs = [.ref a] ∧ SqL K H a (ns.map V.int) ∧ ns.length ≤ 63 ∧ ∀ D' H' st, Gr No H H D' H' → Stt K D' H' st → H st = none → Q (.ref st) H'
theorem w_law_start (T : Txt P w K mg) : Has P w K mg base 3 "_law_start" (sp_law_start K) := by
  have S := S_law_start
  refine has_of (k := 2) T.d_law_start T.gd_law_start S (fun _ _ _ _ _ _ us hl => match us, hl with | [_], _ => rfl) (fun vs H Q E h => ?_) (fun f cdv A outer s H vs Q E hr h => ?_)
  · obtain ⟨a, ns, rfl, _⟩ := h
    rfl
  · obtain ⟨a, ns, rfl, ha, hl, q⟩ := h
    refine ⟨_, (pss_cons (ps_setLc (i := 1) (own := [("cell", 2)]) rfl S.nd rfl rfl (sw_true rfl rfl rfl (by decide +kernel)) (piK_list K (pv 0)) (blkOk_by (by rfl)) (fun _ _ _ _ _ => (pg_name (i := 2) S.nd rfl (Or.inl rfl))) (fun _ _ _ _ _ => pts_nil) (fun _ _ _ _ _ => (pe_callB b_abs (by rfl) T.b_abs (by decide +kernel) (pa_cons (pv 2) pa_nil))))
    (pss_cons (ps_if (pt_cmpR (cK_eq K hr.units) (pe_callB (bK_len K) (by rfl) T.b_len (by decide +kernel) (pa_cons (pv 1) pa_nil)) pe_int (nomark _))
      (pss_one (ps_set (i := 1) S.nd rfl (Or.inl rfl) (pe_lst (pa_cons pe_int pa_nil))))
      pss_nil)
    (pss_one (ps_ret (pe_lst (pa_cons (pv 1) (pa_cons pe_int (pa_cons pe_int (pa_cons pe_int pa_nil))))))))), ?_⟩
    have fin : ∀ (H1 : Hp) (D1 : Hp) (p : Addr) (xs : List V) (cells : List Int), xs = cells.map V.int → Gr No H H D1 H1 → H p = none → SqL K D1 p xs → 1 ≤ cells.length → ∀ st, H1 st = none → Q (.ref st) (upd H1 st (.lst [.ref p, .int 0, .int 0, .int 0])) := by
      intro H1 D1 p xs cells e g np hp h1 st nst
      exact q D1 _ st (g.lay nst) ⟨⟨p, 0, 0, 0, cells, upd_same, e ▸ hp, h1⟩, g.free nst⟩ (g.kept _ nst)
    walk_at "rd"
    refine ⟨a, rfl, ⟨_, ha⟩, fun p np => lq_map walk_list (ns.map fun n => V.int (if n < 0 then -n else n)) (by simp) (by rw [List.length_map]; exact le1000 (by omega)) np (fun acc => ((Gr.refl (m := No) (Same.refl H)).lay np).all.seq ha) ?_ ?_⟩
    · rintro i x acc H' N hi ⟨rfl, ex⟩ hN hlt
      rw [List.getElem?_map] at ex
      obtain ⟨n, hn, rfl⟩ := Option.map_eq_some_iff.mp ex
      walk_at "rd"
      refine ⟨rfl, ?_⟩
      walk_at "rd"
      refine lq_put hlt (hN _ ?_)
      rw [List.getElem?_map, hn]
      rfl
    · have g1 := (Gr.refl (m := No) (Same.refl H)).ice (o := .lst (ns.map fun n => V.int (if n < 0 then -n else n))) np
      have hp1 : SqL K (upd H p (.lst (ns.map fun n => V.int (if n < 0 then -n else n)))) p (ns.map fun n => V.int (if n < 0 then -n else n)) := sql upd_same
      walk_at "rd"
      refine jtD (fun e => ?_) (fun e => ?_)
      · walk_at "rd"
        refine ⟨le1000 (by simp), fun p2 np2 => ?_⟩
        have g2 := g1.ice (o := .lst [.int 0]) np2
        walk_at "rd"
        refine ⟨le1000 (by simp), fun st nst => ?_⟩
        walk_at "rd"
        exact fin _ _ p2 [.int 0] [0] rfl g2 (g1.kept _ np2) (sql upd_same) (by simp) st nst
      · walk_at "rd"
        refine ⟨le1000 (by simp), fun st nst => ?_⟩
        walk_at "rd"
        refine fin _ _ p _ (ns.map fun n => if n < 0 then -n else n) (by rw [List.map_map]; rfl) g1 np hp1 ?_ st nst
        rw [List.length_map] at e ⊢
        omega
theorem S_law_next : FnScope ["state", "many", "cells", "cell", "turn", "mixed", "told"] ["state", "many"] (d_law_next).scope := ⟨rfl, rfl, rfl, by decide +kernel, rfl, by decide +kernel, by decide +kernel⟩
def sp_law_next (K : PySem.W.Frag) : Sp := fun vs H Q E => ∃ (D : Hp) (st : Addr) (many : Int), vs = [.ref st, .int many] ∧ 0 < many ∧ many ≤ 2 ^ 62 ∧ Same D H ∧ Stt K D H st ∧ ∀ D' H' r, Gr (· = st) D H D' H' → Stt K D' H' st → 0 ≤ r → r < many → Q (.int r) H'
theorem w_law_next (T : Txt P w K mg) : Has P w K mg base 3 "_law_next" (sp_law_next K) := by
  have S := S_law_next
  refine has_of (k := 2) T.d_law_next T.gd_law_next S (fun _ _ _ _ _ _ us hl => match us, hl with | [_, _], _ => rfl) (fun vs H Q E h => ?_) (fun f cdv A outer s H vs Q E hr h => ?_)
  · obtain ⟨D, st, many, rfl, _⟩ := h
    rfl
  · obtain ⟨D, st, many, rfl, hm, hm2, sm, X, q⟩ := h
    obtain ⟨⟨c, a, b, e, cells, hst, hc, h1⟩, hD⟩ := X
    refine ⟨_, (pss_cons (ps_set (i := 2) S.nd rfl (Or.inl rfl) (pe_ix (ixK_seq K) (pv 0) pe_int (fun _ _ => rfl)))
    (pss_cons (ps_set (i := 3) S.nd rfl (Or.inl rfl) (pe_ix (ixK_seq K) (pv 2) (pe_op o_mod (pe_callTy b_int (by rfl) T.b_int (by decide +kernel) (pa_cons (pe_ix (ixK_seq K) (pv 0) pe_int (fun _ _ => rfl)) pa_nil)) (pe_callB (bK_len K) (by rfl) T.b_len (by decide +kernel) (pa_cons (pv 2) pa_nil))) (fun _ _ => rfl)))
    (pss_cons (ps_if (PW.pt (pw_and (pt_cmpR c_ge (pv 3) (pe_op o_pow pe_int pe_int) (nomark _)) (pw_and1 (pt_cmpR c_lt (pe_ix (ixK_seq K) (pv 0) pe_int (fun _ _ => rfl)) (pe_callB (bK_len K) (by rfl) T.b_len (by decide +kernel) (pa_cons (pv 2) pa_nil)) (nomark _)))))
      (pss_cons (ps_if (pt_cmpR (cK_eq K hr.units) (pe_ix (ixK_seq K) (pv 0) pe_int (fun _ _ => rfl)) pe_int (nomark _))
      (pss_one (ps_asg (pv 3) (pg_sub (pv 0) pe_int set_list)))
      pss_nil)
    (pss_cons (ps_set (i := 6) S.nd rfl (Or.inl rfl) (pe_op o_mod (pe_callTy b_int (by rfl) T.b_int (by decide +kernel) (pa_cons (pe_ix (ixK_seq K) (pv 0) pe_int (fun _ _ => rfl)) pa_nil)) (pv 1)))
    (pss_cons (ps_asg (pe_op o_fdiv (pe_callTy b_int (by rfl) T.b_int (by decide +kernel) (pa_cons (pe_ix (ixK_seq K) (pv 0) pe_int (fun _ _ => rfl)) pa_nil)) (pv 1)) (pg_sub (pv 0) pe_int set_list))
    (pss_cons (ps_asg (pe_op (oK_add K) (pe_ix (ixK_seq K) (pv 0) pe_int (fun _ _ => rfl)) pe_int) (pg_sub (pv 0) pe_int set_list))
    (pss_cons (ps_if (PW.pt (pw_or (pt_cmpR (cK_eq K hr.units) (pe_ix (ixK_seq K) (pv 0) pe_int (fun _ _ => rfl)) pe_int (nomark _)) (pw_or1 (pt_cmpR c_ge (pe_ix (ixK_seq K) (pv 0) pe_int (fun _ _ => rfl)) pe_int (nomark _)))))
      (pss_cons (ps_asg (pe_op (oK_add K) (pe_ix (ixK_seq K) (pv 0) pe_int (fun _ _ => rfl)) pe_int) (pg_sub (pv 0) pe_int set_list))
    (pss_one (ps_asg pe_int (pg_sub (pv 0) pe_int set_list))))
      pss_nil)
    (pss_one (ps_ret (pv 6))))))))
      pss_nil)
    (pss_cons (ps_set (i := 4) S.nd rfl (Or.inl rfl) (pe_op (oK_add K) (pe_ix (ixK_seq K) (pv 0) pe_int (fun _ _ => rfl)) (pe_op o_mul pe_int (pe_ix (ixK_seq K) (pv 0) pe_int (fun _ _ => rfl)))))
    (pss_cons (ps_set (i := 5) S.nd rfl (Or.inl rfl) (pe_op o_mul (pe_op (oK_add K) (pe_op o_mod (pe_callTy b_int (by rfl) T.b_int (by decide +kernel) (pa_cons (pv 3) pa_nil)) pe_int) pe_int) (pe_op (oK_add K) pe_int (pe_op o_mul pe_int (pv 4)))))
    (pss_cons (ps_set (i := 5) S.nd rfl (Or.inl rfl) (pe_op o_mod (pe_callTy b_int (by rfl) T.b_int (by decide +kernel) (pa_cons (pv 5) pa_nil)) pe_int))
    (pss_cons (ps_set (i := 5) S.nd rfl (Or.inl rfl) (pe_op o_mod (pe_callTy b_int (by rfl) T.b_int (by decide +kernel) (pa_cons (pe_op (oK_add K) (pe_op (oK_add K) (pe_op o_mul (pv 5) (pv 5)) (pe_op o_mul pe_int (pv 4))) pe_int) pa_nil)) pe_int))
    (pss_cons (ps_asg (pe_op (oK_add K) (pe_ix (ixK_seq K) (pv 0) pe_int (fun _ _ => rfl)) pe_int) (pg_sub (pv 0) pe_int set_list))
    (pss_cons (ps_if (pt_cmpR c_ge (pe_ix (ixK_seq K) (pv 0) pe_int (fun _ _ => rfl)) pe_int (nomark _))
      (pss_cons (ps_asg (pe_op (oK_add K) (pe_ix (ixK_seq K) (pv 0) pe_int (fun _ _ => rfl)) pe_int) (pg_sub (pv 0) pe_int set_list))
    (pss_one (ps_asg pe_int (pg_sub (pv 0) pe_int set_list))))
      pss_nil)
    (pss_one (ps_ret (pe_op o_mod (pe_callTy b_int (by rfl) T.b_int (by decide +kernel) (pa_cons (pe_op o_fdiv (pv 5) pe_int) pa_nil)) (pv 1))))))))))))), ?_⟩
    have hcH := sm.seq hc
    have fin : ∀ (a b e r : Int), 0 ≤ r → r < many → Q (.int r) (upd H st (.lst [.ref c, .int a, .int b, .int e])) := fun a b e r h0 h2 =>
      q D _ r ((Gr.refl sm).put hD (.inr rfl)) ⟨⟨c, a, b, e, cells, upd_same, hc, h1⟩, hD⟩ h0 h2
    have hs : ∀ (xs : List V), SqL K (upd H st (.lst xs)) c (cells.map V.int) := fun xs => ((Gr.refl (m := (· = st)) sm).put (o := .lst xs) hD (.inr rfl)).same'.seq hc
    have hlc : (0 : Int) < ((cells.map V.int).length : Int) := by
      rw [List.length_map]
      omega
    have eH : upd H st (.lst [.ref c, .int a, .int b, .int e]) = H := by
      funext y
      by_cases hy : y = st
      · rw [hy, upd_same, hst]
      · rw [upd_ne hy]
    have hcU := hs [.ref c, .int a, .int b, .int e]
    rw [← eH]
    walk_at "nx"
    refine s_mod hlc ?_
    have hr0 := Int.emod_nonneg a (Int.ne_of_gt hlc)
    have hr1 := Int.emod_lt_of_pos a hlc
    obtain ⟨cell, hcell⟩ : ∃ cell, cells[(a % ((cells.map V.int).length : Int)).toNat]? = some cell := by
      refine ⟨cells[(a % ((cells.map V.int).length : Int)).toNat]'?_, List.getElem?_eq_getElem ?_⟩ <;> · rw [List.length_map] at hr0 hr1 ⊢; omega
    refine s_ix_l hcU (v := .int cell) (atI_i (j := (a % ((cells.map V.int).length : Int)).toNat) (by omega) (by rw [List.getElem?_map, hcell]; rfl)) ?_
    have hdv : ∀ n : Int, CDivW n many := fun n => ⟨hm, (Nat.log2_lt (by omega)).mpr (Nat.lt_of_le_of_lt (show many.natAbs ≤ 2 ^ 62 by omega) (Nat.pow_lt_pow_right (by decide) (by decide)))⟩
    have big : ∀ r : Int, 0 ≤ r % many ∧ r % many < many := fun r => ⟨Int.emod_nonneg r (Int.ne_of_gt hm), Int.emod_lt_of_pos r hm⟩
    with_reducible refine s_gname ?_
    refine s_cut (fun σ' H' => σ' = [some (.ref st), some (.int many), some (.ref c), some (.int cell), none, none, none] ∧ H' = upd H st (.lst [.ref c, .int a, .int b, .int e])) ?_ (fun N rest => ?_)
    · rintro σ' H' ⟨rfl, rfl⟩
      have m29 : (0 : Int) < 2147483629 := by decide
      have m47 : (0 : Int) < 2147483647 := by decide
      have b29 : ∀ x : Int, 0 ≤ x % 2147483629 ∧ x % 2147483629 < 2147483629 := fun x => ⟨Int.emod_nonneg x (by decide), Int.emod_lt_of_pos x m29⟩
      have b47 : ∀ x : Int, 0 ≤ x % 2147483647 ∧ x % 2147483647 < 2147483647 := fun x => ⟨Int.emod_nonneg x (by decide), Int.emod_lt_of_pos x m47⟩
      walk_at "nx"
      refine s_mul (.inl (by decide)) ?_
      walk_at "nx"
      refine s_mod m29 ?_
      walk_at "nx"
      refine s_mul (.inl (by decide)) ?_
      walk_at "nx"
      refine s_mul (.inl (by have := b29 cell; omega)) ?_
      walk_at "nx"
      refine s_mod m47 ?_
      walk_at "nx"
      refine s_mul (.inl (by have := b47 ((cell % 2147483629 + 1) * (48271 + 2 * (e + 7 * a))); omega)) ?_
      walk_at "nx"
      refine s_mul (.inl (by decide)) ?_
      walk_at "nx"
      refine s_mod m29 ?_
      walk_at "nx"
      refine jtD (fun e3 => ?_) (fun e3 => ?_)
      · walk_at "nx"
        refine s_div ⟨by decide, by decide⟩ ?_
        walk_at "nx"
        refine s_mod hm ?_
        exact fin _ _ _ _ (big _).1 (big _).2
      · walk_at "nx"
        refine s_div ⟨by decide, by decide⟩ ?_
        walk_at "nx"
        refine s_mod hm ?_
        exact fin _ _ _ _ (big _).1 (big _).2
    walk_at "nx"
    refine s_pow ⟨by decide, by decide, by decide⟩ ?_
    walk_at "nx"
    refine jtD (fun e1 => ?_) (fun e1 => ?_)
    · walk_at "nx"
      refine jtD (fun e2 => ?_) (fun e2 => ?_)
      · refine s_cut (fun σ' H' => ∃ b', σ' = [some (.ref st), some (.int many), some (.ref c), some (.int cell), none, none, none] ∧ H' = upd H st (.lst [.ref c, .int a, .int b', .int e])) ?_ (fun N rest => ?_)
        · rintro σ' H' ⟨b', rfl, rfl⟩
          walk_at "nx"
          refine s_mod hm ?_
          walk_at "nx"
          refine s_div (hdv _) ?_
          walk_at "nx"
          refine jtD (fun e3 => ?_) (fun e3 => ?_)
          · walk_at "nx"
            exact fin _ _ _ _ (big _).1 (big _).2
          · walk_at "nx"
            refine jtD (fun e4 => ?_) (fun e4 => ?_)
            · walk_at "nx"
              exact fin _ _ _ _ (big _).1 (big _).2
            · walk_at "nx"
              exact fin _ _ _ _ (big _).1 (big _).2
        · walk_at "nx"
          refine jtD (fun e3 => ?_) (fun e3 => ?_)
          · walk_at "nx"
            exact rest _ _ ⟨_, rfl, rfl⟩
          · walk_at "nx"
            exact rest _ _ ⟨_, rfl, rfl⟩
      · walk_at "nx"
        exact rest _ _ ⟨rfl, rfl⟩
    · walk_at "nx"
      exact rest _ _ ⟨rfl, rfl⟩
end
end H90

namespace H90
open PySem PySem.Spec L2 He Y Hk90
local macro_rules | `(tactic| walk_at "rd1") => `(tactic| first
  | with_reducible refine s_seq ?_
  | with_reducible refine s_asg ?_
  | with_reducible refine s_gname ?_
  | ((with_reducible refine s_var (v := ?_) ?_ ?_); rotate_left; exact rfl)
  | with_reducible refine s_c ?_
  | with_reducible refine s_op ?_
  | with_reducible refine s_un ?_
  | with_reducible refine s_nil ?_
  | with_reducible refine s_cons ?_
  | with_reducible refine s_CB ?_
  | with_reducible refine s_ifS ?_
  | with_reducible refine s_test ?_
  | with_reducible refine s_B ?_
  | with_reducible refine s_xb ?_
  | with_reducible refine s_xi ?_
  | with_reducible refine s_xs ?_
  | with_reducible refine s_or ?_
  | with_reducible refine s_and ?_
  | with_reducible refine s_not ?_
  | with_reducible refine s_orV ?_
  | with_reducible refine s_andV ?_
  | with_reducible refine s_notV ?_
  | with_reducible refine s_ret ?_
  | with_reducible refine s_retN ?_
  | with_reducible refine s_next ?_
  | with_reducible refine s_drop ?_
  | with_reducible refine s_yes ?_
  | with_reducible refine s_for ?_
  | with_reducible refine s_lc ?_
  | with_reducible refine s_iStr ?_
  | with_reducible refine s_iList ?_
  | with_reducible refine s_iTup ?_
  | with_reducible refine s_iR1 ?_
  | with_reducible refine s_iR2 ?_
  | with_reducible refine s_iE ?_
  | with_reducible refine s_iET ?_
  | with_reducible refine s_iES ?_
  | with_reducible refine s_tup ?_
  | with_reducible refine s_lst ?_
  | with_reducible refine s_BM ?_
  | with_reducible refine s_BM0 ?_
  | with_reducible refine s_BMS ?_
  | with_reducible refine s_M1 ?_
  | with_reducible refine s_sl ?_
  | with_reducible refine s_noP ?_
  | with_reducible refine s_po ?_
  | with_reducible refine s_call ?_
  | with_reducible refine s_callS ?_
  | with_reducible refine s_make ?_
  | with_reducible refine s_fld ?_
  | with_reducible refine s_sFld ?_
  | with_reducible refine s_rz ?_
  | with_reducible refine s_asgS ?_
  | with_reducible refine s_gSub ?_
  | with_reducible refine s_ifE ?_
  | with_reducible refine s_add_i ?_
  | with_reducible refine s_sub ?_
  | with_reducible refine s_neg ?_
  | with_reducible refine s_eq_i ?_
  | with_reducible refine s_eq_s ?_
  | with_reducible refine s_ne_i ?_
  | with_reducible refine s_ne_s ?_
  | with_reducible refine s_lt_i ?_
  | with_reducible refine s_le_i ?_
  | with_reducible refine s_gt_i ?_
  | with_reducible refine s_ge_i ?_
  | with_reducible refine s_lt_s ?_
  | with_reducible refine s_le_s ?_
  | with_reducible refine s_gt_s ?_
  | with_reducible refine s_ge_s ?_
  | with_reducible refine s_in_c ?_
  | with_reducible refine s_ni_c ?_
  | with_reducible refine s_isN ?_
  | with_reducible refine s_noN ?_
  | with_reducible refine s_abs ?_
  | with_reducible refine s_min2 ?_
  | with_reducible refine s_max2 ?_
  | with_reducible refine s_int_i ?_
  | ((with_reducible refine s_len_s ?_ ?_); assumption)
  | ((with_reducible refine s_len_l (xs := ?_) ?_ ?_); rotate_left; assumption)
  | ((with_reducible refine s_len_t (xs := ?_) ?_ ?_); rotate_left; assumption)
  | with_reducible refine s_pair upd_same ?_
  | with_reducible refine s_callS ?_
  | with_reducible refine jtT ?_
  | with_reducible refine jtF ?_
  | dsimp only)
local macro_rules | `(tactic| walk_at "rd") => `(tactic| repeat (walk_at "rd1"))

section
variable {P : Program} {w : World} {K : PySem.W.Frag} {mg : Str → Option Value} {base : Heap}
theorem Stt.put {D H : Hp} {st p : Addr} {o : HO} (h : Stt K D H st) (hp : p ≠ st) : Stt K D (upd H p o) st := by
  obtain ⟨⟨c, a, b, e, cells, h1, h2, h3⟩, h4⟩ := h
  exact ⟨⟨c, a, b, e, cells, (upd_ne hp.symm).trans h1, h2, h3⟩, h4⟩
theorem same_new {D : Hp} {p : Addr} {o : HO} (h : D p = none) : Same D (upd D p o) := fun b u e => by
  have : b ≠ p := fun z => by rw [z, h] at e; cases e
  exact (upd_ne this).trans e
theorem Stt.frz {D H : Hp} {st p : Addr} {o : HO} (h : Stt K D H st) (hp : p ≠ st) (hD : D p = none) : Stt K (upd D p o) H st := by
  obtain ⟨⟨c, a, b, e, cells, h1, h2, h3⟩, h4⟩ := h
  exact ⟨⟨c, a, b, e, cells, h1, (same_new hD).seq h2, h3⟩, (upd_ne hp.symm).trans h4⟩
theorem S_law_rows : FnScope ["state", "letters", "size", "rows", "k", "row", "letter"] ["state", "letters", "size"] (d_law_rows).scope := ⟨rfl, rfl, rfl, by decide +kernel, rfl, by decide +kernel, by decide +kernel⟩
structure Rws (n : Nat) (size : Nat) (rows : List (List Int)) : Prop where
  row : ∀ r ∈ rows, r.length = n ∧ ∀ t ∈ r, -1 ≤ t ∧ t < size
def sp_law_rows (K : PySem.W.Frag) : Sp := fun vs H Q E => ∃ (D : Hp) (st : Addr) (s : Str) (size : Nat), vs = [.ref st, .str s, .int size] ∧ s.length ≤ 4 ∧ size ≤ 130 ∧ Same D H ∧ Stt K D H st ∧
  ∀ D' H' v rows, Gr (· = st) D H D' H' → Stt K D' H' st → Dp K D' v (dLL rows) → rows.length = size → Rws s.length size rows → Q v H'
theorem w_law_rows (T : Txt P w K mg) : Has P w K mg base 4 "_law_rows" (sp_law_rows K) := by
  have S := S_law_rows
  have G_law_next := w_law_next (base := base) T
  refine has_of (k := 3) T.d_law_rows T.gd_law_rows S (fun _ _ _ _ _ _ us hl => match us, hl with | [_, _, _], _ => rfl) (fun vs H Q E h => ?_) (fun f cdv A outer s H vs Q E hr h => ?_)
  · obtain ⟨D, st, s, size, rfl, _⟩ := h
    rfl
  · obtain ⟨D, st, z, size, rfl, hz, hsz, sm, X, q⟩ := h
    refine ⟨_, (pss_cons (ps_set (i := 3) S.nd rfl (Or.inl rfl) (pe_lst pa_nil))
    (pss_cons (ps_for (passes_of rfl) rfl (pi_range1 (by rfl) T.b_range (pa_cons (pv 2) pa_nil)) (pg_name (i := 4) S.nd rfl (Or.inl rfl))
      (pss_cons (ps_set (i := 5) S.nd rfl (Or.inl rfl) (pe_lst pa_nil))
    (pss_cons (ps_for (passes_of rfl) rfl (pi_str (pv 1)) (pg_name (i := 6) S.nd rfl (Or.inl rfl))
      (pss_one (ps_expr (peK_bm K PySem.F.plainAttrs_list PySem.F.slot_list_append PySem.F.type_list_append mt_append (pv 5) (pa_cons (pe_op o_sub (pe_has G_law_next (hr.mono (by decide)) (takes_of rfl rfl rfl rfl) rfl (pa_cons (pv 0) (pa_cons (pe_op (oK_add K) (pv 2) pe_int) pa_nil))) pe_int) pa_nil)))))
    (pss_one (ps_expr (peK_bm K PySem.F.plainAttrs_list PySem.F.slot_list_append PySem.F.type_list_append mt_append (pv 3) (pa_cons (pv 5) pa_nil)))))))
    (pss_one (ps_ret (pv 3))))), ?_⟩
    walk_at "rd"
    refine ⟨Nat.zero_le _, fun rw nrw => ?_⟩
    have g1 := (Gr.refl (m := (· = st)) sm).lay (o := .lst []) nrw
    have hDrw : D rw = none := (Gr.refl (m := No) sm).free nrw
    have nst : rw ≠ st := fun e => X.is (e ▸ nrw)
    walk_at "rd"
    refine ⟨_, rfl, by omega, by omega, lp_it walk_range (fun i σ H' => ∃ D' o4 o5 o6 vs rows, Gr (· = st) D H D' H' ∧ Stt K D' H' st ∧ D' rw = none ∧ H' rw = some (.lst vs) ∧ DpAll K D' vs (rows.map dL) ∧ rows.length = i ∧ Rws z.length size rows ∧
      σ = [some (.ref st), some (.str z), some (.int size), some (.ref rw), o4, o5, o6]) ⟨D, _, _, _, [], [], g1, X.up ((Gr.refl (m := No) sm).lay nrw), hDrw, upd_same, .nil, rfl, ⟨fun r z => (nomatch z)⟩, rfl⟩ (fun _ _ _ _ _ => trivial) ?_ ?_⟩
    · rintro i x σ H1 H2 hi ⟨D1, o4, o5, o6, vs, rows, g, X1, hD1, hH1, hvs, hl, hR, rfl⟩ ⟨rfl, rfl⟩
      walk_at "rd"
      refine ⟨Nat.zero_le _, fun p np => ?_⟩
      have g2 := g.lay (o := .lst []) np
      have gl := (Gr.refl (m := No) g.sub).lay (o := .lst []) np
      have hp1 : D1 p = none := (Gr.refl (m := No) g.sub).free np
      have nps : p ≠ st := fun e => X1.is (e ▸ np)
      have nprw : p ≠ rw := fun e => by rw [e, hH1] at np; cases np
      walk_at "rd"
      refine lp_it walk_str (fun j σ H' => ∃ D' o6 acc, Gr (· = st) D1 H2 D' H' ∧ Stt K D' H' st ∧ D' p = none ∧ H' p = some (.lst (acc.map V.int)) ∧ acc.length = j ∧ (∀ t ∈ acc, -1 ≤ t ∧ t < (size : Int)) ∧
        σ = [some (.ref st), some (.str z), some (.int size), some (.ref rw), some (.int (0 + (i : Int))), some (.ref p), o6]) ⟨D1, _, [], (Gr.refl g.sub).lay np, X1.up gl, hp1, upd_same, rfl, fun t z => (nomatch z), rfl⟩ (fun _ _ _ _ _ => trivial) ?_ ?_
      · rintro j x σ H3 H4 hj ⟨D3, o6, acc, g3, X3, hD3, hp3, hacc, hA, rfl⟩ ⟨rfl, c, hc, rfl⟩
        have hzl : z.cps.size = z.length := rfl
        walk_at "rd"
        refine ⟨ty_l hp3, ?_⟩
        walk_at "rd"
        refine ⟨D3, st, _, rfl, by omega, by omega, g3.sub, X3, fun D5 H5 r g5 X5 r0 r1 => ?_⟩
        have hp5 := g5.same p _ nps hp3
        have hD5 := g5.stay hD3 hp3
        walk_at "rd"
        refine s_append hp5 (by rw [List.length_map]; exact small1000 (by omega)) ?_
        walk_at "rd"
        refine ⟨D5, _, acc ++ [r - 1], (g3.trans g5).put hD5 (.inl np), X5.put nps, hD5, ?_, ?_, ?_, rfl⟩
        · rw [upd_same, List.map_append]
          rfl
        · rw [List.length_append, hacc]
          rfl
        · intro t ht
          rcases List.mem_append.mp ht with ht | ht
          · exact hA t ht
          · rw [List.mem_singleton.mp ht]
            omega
      · rintro σ H3 ⟨D3, o6, acc, g3, X3, hD3, hp3, hacc, hA, rfl⟩
        have hH3 := g3.same rw _ nst hH1
        have hD3w := g3.stay hD1 hH1
        have gA := (g.trans g3).cold hp3 (g.kept _ np)
        have hDp : (upd D3 p (.lst (acc.map V.int))) rw = none := (upd_ne nprw.symm).trans hD3w
        have hl2 := dpl_len hvs
        rw [List.length_map] at hl2
        walk_at "rd"
        refine ⟨ty_l hH3, ?_⟩
        walk_at "rd"
        refine s_append hH3 (small1000 (by omega)) ?_
        walk_at "rd"
        refine ⟨upd D3 p (.lst (acc.map V.int)), _, _, _, vs ++ [.ref p], rows ++ [acc], gA.put hDp (.inl nrw), (X3.frz nps hD3).put nst, hDp, upd_same, ?_, ?_, ⟨fun r hr => ?_⟩, rfl⟩
        · rw [List.map_append]
          exact dpl_snoc (Y.Dp.monoAll (same_new hD3) (Y.Dp.monoAll g3.dd hvs)) (dp_ofL (sql upd_same))
        · rw [List.length_append, hl]
          rfl
        · rcases List.mem_append.mp hr with hr | hr
          · exact hR.row r hr
          · rw [List.mem_singleton.mp hr]
            exact ⟨hacc, hA⟩
    · rintro σ H1 ⟨D1, o4, o5, o6, vs, rows, g, X1, hD1, hH1, hvs, hl, hR, rfl⟩
      walk_at "rd"
      exact q _ H1 (.ref rw) rows (g.cold hH1 nrw) (X1.frz nst hD1) (.lst (sql upd_same) (Y.Dp.monoAll (same_new hD1) hvs)) (by rw [hl]; exact Int.toNat_natCast size) hR
/-! ### _law_text -/
theorem S_law_text : FnScope ["letters", "rows", "ends", "lines", "k", "parts", "target"] ["letters", "rows", "ends"] (d_law_text).scope := ⟨rfl, rfl, rfl, by decide +kernel, rfl, by decide +kernel, by decide +kernel⟩
def sp_law_text (K : PySem.W.Frag) : Sp := fun vs H Q E => ∃ (D : Hp) (s : Str) (u v : V) (rows : List (List Int)) (ends : List Int), vs = [.str s, u, v] ∧ Same D H ∧ Dp K D u (dLL rows) ∧ Dp K D v (dL ends) ∧ Small s rows ∧ ∀ D' H', Gr No D H D' H' → Q (.str (textT s rows ends)) H'
theorem w_law_text (T : Txt P w K mg) : Has P w K mg base 3 "_law_text" (sp_law_text K) := by
  have S := S_law_text
  refine has_of (k := 2) T.d_law_text T.gd_law_text S (fun _ _ _ _ _ _ us hl => match us, hl with | [_, _, _], _ => rfl) (fun vs H Q E h => ?_) (fun f cdv A outer s H vs Q E hr h => ?_)
  · obtain ⟨D, s, u, v, rows, ends, rfl, _⟩ := h
    rfl
  · obtain ⟨D, z, u, v, rows, ends, rfl, sm, du, dv, hsm, q⟩ := h
    obtain ⟨pa, xs, rfl, hp, hxs⟩ := dp_list du
    obtain ⟨qa, rfl, hq⟩ := dp_L dv
    have hl : xs.length = rows.length := by rw [dpl_len hxs, List.length_map]
    have h4 := hsm.s4
    have h130 := hsm.few
    refine ⟨_, (pss_cons (ps_set (i := 3) S.nd rfl (Or.inl rfl) (pe_lst (pa_cons (pe_op (oK_add K) pe_str (pv 0)) pa_nil)))
    (pss_cons (ps_for (passes_of rfl) rfl (pi_range1 (by rfl) T.b_range (pa_cons (pe_callB (bK_len K) (by rfl) T.b_len (by decide +kernel) (pa_cons (pv 1) pa_nil)) pa_nil)) (pg_name (i := 4) S.nd rfl (Or.inl rfl))
      (pss_cons (ps_setLc (i := 5) (own := [("target", 6)]) rfl S.nd rfl rfl (sw_true rfl rfl rfl (by decide +kernel)) (piK_list K (pe_ix (ixK_seq K) (pv 1) (pv 4) (fun _ _ => rfl))) (blkOk_by (by rfl)) (fun _ _ _ _ _ => (pg_name (i := 6) S.nd rfl (Or.inl rfl))) (fun _ _ _ _ _ => pts_nil) (fun _ _ _ _ _ => (pe_callTy b_str (by rfl) T.b_str (by decide +kernel) (pa_cons (pv 6) pa_nil))))
    (pss_cons (ps_if (pt_cmpR (cK_in K) (pv 4) (pv 2) rfl)
      (pss_one (ps_expr (peK_bm K PySem.F.plainAttrs_list PySem.F.slot_list_append PySem.F.type_list_append mt_append (pv 5) (pa_cons pe_str pa_nil))))
      pss_nil)
    (pss_one (ps_expr (peK_bm K PySem.F.plainAttrs_list PySem.F.slot_list_append PySem.F.type_list_append mt_append (pv 3) (pa_cons (pK_join K pe_str (pv 5)) pa_nil)))))))
    (pss_one (ps_ret (pK_join K pe_str (pv 3)))))), ?_⟩
    walk_at "rd"
    have e8 : ("machine " : Str).length = 8 := rfl
    refine s_add_s (by rw [e8]; exact le1000 (by omega)) ?_
    walk_at "rd"
    refine ⟨le1000 (by simp), fun r0 nr => ?_⟩
    have g1 := (Gr.refl (m := No) sm).lay (o := .lst [.str (("machine " : Str) ++ z)]) nr
    have hD1 : D r0 = none := (Gr.refl (m := No) sm).free nr
    have hp1 := sql_up g1 hp
    walk_at "rd"
    refine ⟨_, rfl, by rw [hl]; omega, by rw [hl]; omega, lp_it walk_range (fun i σ H' => ∃ D' acc o4 o5, Gr No D H D' H' ∧ D' r0 = none ∧ H' r0 = some (.lst (acc.map V.str)) ∧ acc.length ≤ i + 1 ∧ (∀ y ∈ acc, y.length ≤ 20) ∧ σ = [some (.str z), some (.ref pa), some (.ref qa), some (.ref r0), o4, o5, none] ∧
      linesT z rows ends = acc ++ rowsT ends i (rows.drop i)) ⟨D, [("machine " : Str) ++ z], _, _, g1, hD1, upd_same, Nat.le_refl _, ?_, rfl, rfl⟩ (fun _ _ _ _ _ => trivial) ?_ ?_⟩
    · intro y hy
      rw [List.mem_singleton.mp hy]
      show (("machine " : Str) ++ z).length ≤ 20
      have : (("machine " : Str) ++ z).length = ("machine " : Str).length + z.length := Array.size_append
      omega
    · rintro i x σ H1 H2 hi ⟨D1, acc, o4, o5, g, hDr, hHr, hacc, hshort, rfl, en⟩ ⟨rfl, rfl⟩
      have hi1 : i < rows.length := by
        rw [hl] at hi
        omega
      obtain ⟨x1, ex1, hx1⟩ := dpl_getR hxs (d := dL rows[i]) (by rw [List.getElem?_map, List.getElem?_eq_getElem hi1]; rfl)
      obtain ⟨b, rfl, hb2⟩ := dp_L hx1
      have hrow := hsm.row rows[i] (List.getElem_mem hi1)
      have hb3 := sql_up g hb2
      have hp3 := sql_up g hp
      have hq3 := sql_up g hq
      generalize er : rows[i] = r at *
      walk_at "rd"
      refine s_ix_l hp3 (atI_i (j := i) (by omega) ex1) ?_
      walk_at "rd"
      refine ⟨b, rfl, ⟨_, hb3⟩, fun p np => lq_map walk_list (r.map fun t => V.str (numS t)) (by simp) (by rw [List.length_map]; exact le1000 (by omega)) np (fun acc => sql_up (g.lay np) hb2) ?_ ?_⟩
      · rintro j x acc' H' N hj ⟨rfl, ex⟩ hN hlt
        rw [List.getElem?_map] at ex
        obtain ⟨k, hk, rfl⟩ := Option.map_eq_some_iff.mp ex
        have hk2 := hrow.2 k (List.mem_of_getElem? hk)
        walk_at "rd"
        refine ⟨rfl, ?_⟩
        walk_at "rd"
        refine s_str_i (num_small hk2.1 hk2.2).2 (lq_put hlt (hN _ ?_))
        rw [List.getElem?_map, hk]
        rfl
      · have g3 := g.lay (o := .lst (r.map fun t => V.str (numS t))) np
        have hr3 := (((Gr.refl (m := No) g.sub).lay (o := .lst (r.map fun t => V.str (numS t))) np).same r0 _ (fun z => z) hHr)
        have hDp : D1 p = none := (Gr.refl (m := No) g.sub).free np
        have last : ∀ (H3 : Hp) o5, Gr No D H D1 H3 → H3 r0 = some (.lst (acc.map V.str)) → ∃ D' acc' o4 o5', Gr No D H D' (upd H3 r0 (.lst (acc.map V.str ++ [.str (rowT ends i r)]))) ∧ D' r0 = none ∧ (upd H3 r0 (.lst (acc.map V.str ++ [.str (rowT ends i r)]))) r0 = some (.lst (acc'.map V.str)) ∧ acc'.length ≤ i + 1 + 1 ∧ (∀ y ∈ acc', y.length ≤ 20) ∧
            ([some (V.str z), some (V.ref pa), some (V.ref qa), some (V.ref r0), some (V.int (0 + (i : Int))), o5, none] : L2.St) = [some (.str z), some (.ref pa), some (.ref qa), some (.ref r0), o4, o5', none] ∧ linesT z rows ends = acc' ++ rowsT ends (i + 1) (rows.drop (i + 1)) := by
          intro H3 o5 g4 h4
          refine ⟨D1, acc ++ [rowT ends i r], _, _, g4.put hDr (.inl nr), hDr, ?_, ?_, ?_, rfl, ?_⟩
          · rw [upd_same, List.map_append]
            rfl
          · rw [List.length_append]
            simpa using hacc
          · intro y hy
            rcases List.mem_append.mp hy with hy | hy
            · exact hshort y hy
            · rw [List.mem_singleton.mp hy]
              exact row_small hrow
          · rw [en, List.drop_eq_getElem_cons hi1, er, List.append_assoc]
            rfl
        walk_at "rd"
        refine s_in_l (sql_up g3 hq) rfl (by rw [List.all_map]; exact List.all_eq_true.mpr fun _ _ => rfl) ?_
        walk_at "rd"
        have e0 : (0 : Int) + (i : Int) = (i : Int) := Int.zero_add _
        refine jtB (fun e => ?_) (fun e => ?_)
        · rw [e0] at e
          walk_at "rd"
          refine ⟨ty_l upd_same, ?_⟩
          walk_at "rd"
          refine s_append upd_same (by rw [List.length_map]; exact small1000 (by omega)) ?_
          walk_at "rd"
          rw [upd_upd]
          have g4 := g.lay (o := .lst ((r.map fun t => V.str (numS t)) ++ [.str "end"])) np
          have hr4 := (((Gr.refl (m := No) g.sub).lay (o := .lst ((r.map fun t => V.str (numS t)) ++ [.str "end"])) np).same r0 _ (fun z => z) hHr)
          refine ⟨ty_l hr4, ?_⟩
          walk_at "rd"
          have ep : partsT ends i r = r.map numS ++ [("end" : Str)] := by rw [partsT, if_pos e]
          refine ⟨⟨_, rfl⟩, ?_⟩
          walk_at "rd"
          refine s_join_l (zs := partsT ends i r) (sql (by rw [upd_same, ep, List.map_append, List.map_map]; rfl)) ?_ ?_
          · exact joinOk (parts_small hrow)
          · walk_at "rd"
            refine s_append hr4 (by rw [List.length_map]; exact small1000 (by omega)) ?_
            walk_at "rd"
            exact last _ _ g4 hr4
        · rw [e0] at e
          walk_at "rd"
          refine ⟨ty_l hr3, ?_⟩
          walk_at "rd"
          have ep : partsT ends i r = r.map numS := by rw [partsT, if_neg (by rw [e]; simp), List.append_nil]
          refine ⟨⟨_, rfl⟩, ?_⟩
          walk_at "rd"
          refine s_join_l (zs := partsT ends i r) (sql (by rw [upd_same, ep, List.map_map]; rfl)) ?_ ?_
          · exact joinOk (parts_small hrow)
          · walk_at "rd"
            refine s_append hr3 (by rw [List.length_map]; exact small1000 (by omega)) ?_
            walk_at "rd"
            exact last _ _ g3 hr3
    · rintro σ H1 ⟨D1, acc, o4, o5, g, hDr, hHr, hacc, hshort, rfl, en⟩
      walk_at "rd"
      refine ⟨⟨_, rfl⟩, ?_⟩
      walk_at "rd"
      rw [hl, show ((rows.length : Int)).toNat = rows.length from Int.toNat_natCast _, List.drop_length] at en
      have en' : linesT z rows ends = acc := by
        rw [en]
        exact List.append_nil acc
      rw [hl] at hacc
      refine s_join_l (zs := acc) (sql hHr) ?_ ?_
      · have h1 := sum_len hshort
        have h2 : ("\n" : Str).length = 1 := rfl
        rw [h2]
        omega
      · rw [← en']
        exact q _ _ g
end
end H90

namespace H90
open PySem PySem.Spec L2 He Y Hk90
local macro_rules | `(tactic| walk_at "rd1") => `(tactic| first
  | with_reducible refine s_seq ?_
  | with_reducible refine s_asg ?_
  | with_reducible refine s_gname ?_
  | ((with_reducible refine s_var (v := ?_) ?_ ?_); rotate_left; exact rfl)
  | with_reducible refine s_c ?_
  | with_reducible refine s_op ?_
  | with_reducible refine s_un ?_
  | with_reducible refine s_nil ?_
  | with_reducible refine s_cons ?_
  | with_reducible refine s_CB ?_
  | with_reducible refine s_ifS ?_
  | with_reducible refine s_test ?_
  | with_reducible refine s_B ?_
  | with_reducible refine s_xb ?_
  | with_reducible refine s_xi ?_
  | with_reducible refine s_xs ?_
  | with_reducible refine s_or ?_
  | with_reducible refine s_and ?_
  | with_reducible refine s_not ?_
  | with_reducible refine s_orV ?_
  | with_reducible refine s_andV ?_
  | with_reducible refine s_notV ?_
  | with_reducible refine s_ret ?_
  | with_reducible refine s_retN ?_
  | with_reducible refine s_next ?_
  | with_reducible refine s_drop ?_
  | with_reducible refine s_yes ?_
  | with_reducible refine s_for ?_
  | with_reducible refine s_lc ?_
  | with_reducible refine s_iStr ?_
  | with_reducible refine s_iList ?_
  | with_reducible refine s_iTup ?_
  | with_reducible refine s_iR1 ?_
  | with_reducible refine s_iR2 ?_
  | with_reducible refine s_iE ?_
  | with_reducible refine s_iET ?_
  | with_reducible refine s_iES ?_
  | with_reducible refine s_tup ?_
  | with_reducible refine s_lst ?_
  | with_reducible refine s_BM ?_
  | with_reducible refine s_BM0 ?_
  | with_reducible refine s_BMS ?_
  | with_reducible refine s_M1 ?_
  | with_reducible refine s_sl ?_
  | with_reducible refine s_noP ?_
  | with_reducible refine s_po ?_
  | with_reducible refine s_call ?_
  | with_reducible refine s_callS ?_
  | with_reducible refine s_make ?_
  | with_reducible refine s_fld ?_
  | with_reducible refine s_sFld ?_
  | with_reducible refine s_rz ?_
  | with_reducible refine s_asgS ?_
  | with_reducible refine s_gSub ?_
  | with_reducible refine s_ifE ?_
  | with_reducible refine s_add_i ?_
  | with_reducible refine s_sub ?_
  | with_reducible refine s_neg ?_
  | with_reducible refine s_eq_i ?_
  | with_reducible refine s_eq_s ?_
  | with_reducible refine s_ne_i ?_
  | with_reducible refine s_ne_s ?_
  | with_reducible refine s_lt_i ?_
  | with_reducible refine s_le_i ?_
  | with_reducible refine s_gt_i ?_
  | with_reducible refine s_ge_i ?_
  | with_reducible refine s_lt_s ?_
  | with_reducible refine s_le_s ?_
  | with_reducible refine s_gt_s ?_
  | with_reducible refine s_ge_s ?_
  | with_reducible refine s_in_c ?_
  | with_reducible refine s_ni_c ?_
  | with_reducible refine s_isN ?_
  | with_reducible refine s_noN ?_
  | with_reducible refine s_abs ?_
  | with_reducible refine s_min2 ?_
  | with_reducible refine s_max2 ?_
  | with_reducible refine s_int_i ?_
  | ((with_reducible refine s_len_s ?_ ?_); assumption)
  | ((with_reducible refine s_len_l (xs := ?_) ?_ ?_); rotate_left; assumption)
  | ((with_reducible refine s_len_t (xs := ?_) ?_ ?_); rotate_left; assumption)
  | with_reducible refine s_pair upd_same ?_
  | with_reducible refine s_callS ?_
  | with_reducible refine jtT ?_
  | with_reducible refine jtF ?_
  | dsimp only)
local macro_rules | `(tactic| walk_at "rd") => `(tactic| repeat (walk_at "rd1"))

section
variable {P : Program} {w : World} {K : PySem.W.Frag} {mg : Str → Option Value} {base : Heap}
theorem getD_at {l : List Nat} {i : Nat} (h : i < l.length) : l.getD i 0 = l[i] := by
  rw [List.getD_eq_getElem?_getD, List.getElem?_eq_getElem h]
  rfl
theorem app_len (a b : Str) : (a ++ b).length = a.length + b.length := Array.size_append
/-! ### _law_spoilt -/
theorem S_law_spoilt : FnScope ["state", "text", "turn", "at", "sign", "choice"] ["state", "text"] (d_law_spoilt).scope := ⟨rfl, rfl, rfl, by decide +kernel, rfl, by decide +kernel, by decide +kernel⟩
def sp_law_spoilt (K : PySem.W.Frag) : Sp := fun vs H Q E => ∃ (D : Hp) (st : Addr) (t : Str), vs = [.ref st, .str t] ∧ t.length ≤ 4000 ∧ Same D H ∧ Stt K D H st ∧ ∀ D' H' t', Gr (· = st) D H D' H' → Stt K D' H' st → t'.length ≤ 100000 → Q (.str t') H'
theorem w_law_spoilt (T : Txt P w K mg) : Has P w K mg base 4 "_law_spoilt" (sp_law_spoilt K) := by
  have S := S_law_spoilt
  have G_law_next := w_law_next (base := base) T
  refine has_of (k := 3) T.d_law_spoilt T.gd_law_spoilt S (fun _ _ _ _ _ _ us hl => match us, hl with | [_, _], _ => rfl) (fun vs H Q E h => ?_) (fun f cdv A outer s H vs Q E hr h => ?_)
  · obtain ⟨D, st, t, rfl, _⟩ := h
    rfl
  · obtain ⟨D, st, t, rfl, ht, sm, X, q⟩ := h
    refine ⟨_, (pss_cons (ps_for (passes_of rfl) rfl (pi_range1 (by rfl) T.b_range (pa_cons (pe_op (oK_add K) pe_int (pe_has G_law_next (hr.mono (by decide)) (takes_of rfl rfl rfl rfl) rfl (pa_cons (pv 0) (pa_cons pe_int pa_nil)))) pa_nil)) (pg_name (i := 2) S.nd rfl (Or.inl rfl))
      (pss_cons (ps_set (i := 3) S.nd rfl (Or.inl rfl) (pe_has G_law_next (hr.mono (by decide)) (takes_of rfl rfl rfl rfl) rfl (pa_cons (pv 0) (pa_cons (pe_op (oK_add K) (pe_callB (bK_len K) (by rfl) T.b_len (by decide +kernel) (pa_cons (pv 1) pa_nil)) pe_int) pa_nil))))
    (pss_cons (ps_set (i := 4) S.nd rfl (Or.inl rfl) (pe_ix (ixK_seq K) (pe_lst (pa_cons pe_str (pa_cons pe_str (pa_cons pe_str (pa_cons pe_str (pa_cons pe_str (pa_cons pe_str (pa_cons pe_str (pa_cons pe_str (pa_cons pe_str (pa_cons pe_str (pa_cons pe_str (pa_cons pe_str (pa_cons pe_str pa_nil)))))))))))))) (pe_has G_law_next (hr.mono (by decide)) (takes_of rfl rfl rfl rfl) rfl (pa_cons (pv 0) (pa_cons pe_int pa_nil))) (fun _ _ => rfl)))
    (pss_cons (ps_set (i := 5) S.nd rfl (Or.inl rfl) (pe_has G_law_next (hr.mono (by decide)) (takes_of rfl rfl rfl rfl) rfl (pa_cons (pv 0) (pa_cons pe_int pa_nil))))
    (pss_one (ps_if (pt_cmpR (cK_eq K hr.units) (pv 5) pe_int (nomark _))
      (pss_one (ps_set (i := 1) S.nd rfl (Or.inl rfl) (pe_op (oK_add K) (pe_op (oK_add K) (pe_slice (slK_any K) (pv 1) po_none (po_some (pv 3))) (pv 4)) (pe_slice (slK_any K) (pv 1) (po_some (pv 3)) po_none))))
      (pss_one (ps_if (pt_cmpR (cK_eq K hr.units) (pv 5) pe_int (nomark _))
      (pss_one (ps_set (i := 1) S.nd rfl (Or.inl rfl) (pe_op (oK_add K) (pe_slice (slK_any K) (pv 1) po_none (po_some (pv 3))) (pe_slice (slK_any K) (pv 1) (po_some (pe_op (oK_add K) (pv 3) pe_int)) po_none))))
      (pss_one (ps_set (i := 1) S.nd rfl (Or.inl rfl) (pe_op (oK_add K) (pe_op (oK_add K) (pe_slice (slK_any K) (pv 1) po_none (po_some (pv 3))) (pv 4)) (pe_slice (slK_any K) (pv 1) (po_some (pe_op (oK_add K) (pv 3) pe_int)) po_none))))))))))))
    (pss_one (ps_ret (pv 1)))), ?_⟩
    walk_at "rd"
    refine ⟨D, st, _, rfl, by decide, by decide, sm, X, fun D1 H1 n g1 X1 n0 n1 => ?_⟩
    walk_at "rd"
    refine ⟨_, rfl, by omega, by omega, lp_it walk_range (fun i σ H' => ∃ D' t' o2 o3 o4 o5, Gr (· = st) D H D' H' ∧ Stt K D' H' st ∧ t'.length + 10 ≤ 4010 * 2 ^ i ∧ σ = [some (.ref st), some (.str t'), o2, o3, o4, o5]) ⟨D1, t, _, _, _, _, g1, X1, by simpa using ht, rfl⟩ (fun _ _ _ _ _ => trivial) ?_ ?_⟩
    · rintro i x σ H2 H3 hi ⟨D2, t2, o2, o3, o4, o5, g, X2, h2, rfl⟩ ⟨rfl, rfl⟩
      have hi3 : i < 3 := by omega
      have hpow : 2 ^ i ≤ 4 := by
        have : i = 0 ∨ i = 1 ∨ i = 2 := by omega
        rcases this with rfl | rfl | rfl <;> decide
      have ht2 : t2.length ≤ 20000 := by omega
      have hz2 : t2.length ≤ sizeLine := Nat.le_trans ht2 (by decide)
      walk_at "rd"
      refine ⟨D2, st, _, rfl, by omega, by omega, g.sub, X2, fun D4 H4 at_ g4 X4 a0 a1 => ?_⟩
      have gA := g.trans g4
      walk_at "rd"
      refine ⟨le1000 (by simp), fun p np => ?_⟩
      have g5 := gA.lay (o := .lst [.str "0", .str "1", .str "2", .str "7", .str "-", .str "a", .str "b", .str "e", .str "end", .str " ", .str "\n", .str " end", .str "01"]) np
      have nps : p ≠ st := fun e => X4.is (e ▸ np)
      have X5 := X4.put (o := .lst [.str "0", .str "1", .str "2", .str "7", .str "-", .str "a", .str "b", .str "e", .str "end", .str " ", .str "\n", .str " end", .str "01"]) nps
      walk_at "rd"
      refine ⟨D4, st, _, rfl, by decide, by decide, g5.sub, X5, fun D6 H6 r g6 X6 r0 r1 => ?_⟩
      have hp6 := g6.same p _ nps upd_same
      obtain ⟨sg, esg, lsg⟩ : ∃ sg : Str, atI [V.str "0", .str "1", .str "2", .str "7", .str "-", .str "a", .str "b", .str "e", .str "end", .str " ", .str "\n", .str " end", .str "01"] r = some (.str sg) ∧ sg.length ≤ 4 := by
        have hr : r = 0 ∨ r = 1 ∨ r = 2 ∨ r = 3 ∨ r = 4 ∨ r = 5 ∨ r = 6 ∨ r = 7 ∨ r = 8 ∨ r = 9 ∨ r = 10 ∨ r = 11 ∨ r = 12 := by omega
        rcases hr with rfl | rfl | rfl | rfl | rfl | rfl | rfl | rfl | rfl | rfl | rfl | rfl | rfl <;> exact ⟨_, rfl, by decide⟩
      walk_at "rd"
      refine s_ix_l (sql hp6) esg ?_
      walk_at "rd"
      refine ⟨D6, st, _, rfl, by decide, by decide, g6.sub, X6, fun D7 H7 ch g7 X7 c0 c1 => ?_⟩
      have gB := (g5.trans g6).trans g7
      have fin : ∀ (t3 : Str) (hl : t3.length ≤ 2 * t2.length + 4), ∃ D' t' o2 o3 o4 o5, Gr (· = st) D H D' H7 ∧ Stt K D' H7 st ∧ t'.length + 10 ≤ 4010 * 2 ^ (i + 1) ∧ ([some (V.ref st), some (V.str t3), some (V.int (0 + (i : Int))), some (V.int at_), some (V.str sg), some (V.int ch)] : L2.St) = [some (.ref st), some (.str t'), o2, o3, o4, o5] := by
        intro t3 hl
        refine ⟨D7, t3, _, _, _, _, gB, X7, ?_, rfl⟩
        rw [Nat.pow_succ]
        omega
      walk_at "rd"
      have cl : ∀ lo hi, (cutS t2 lo hi).length ≤ t2.length := cutS_length t2
      have szc : ∀ n, n ≤ 100000 → n ≤ sizeLine := fun n h => Nat.le_trans h (by decide)
      refine jtD (fun e => ?_) (fun e => ?_)
      · walk_at "rd"
        refine s_sl_s hz2 ?_
        walk_at "rd"
        have l1 := cl none (some at_)
        have l2 := cl (some at_) none
        refine s_add_s (szc _ (by omega)) ?_
        walk_at "rd"
        refine s_sl_s hz2 ?_
        refine s_add_s (szc _ (by rw [app_len]; omega)) ?_
        walk_at "rd"
        exact fin _ (by rw [app_len, app_len]; omega)
      · walk_at "rd"
        refine jtD (fun e => ?_) (fun e => ?_)
        · walk_at "rd"
          refine s_sl_s hz2 ?_
          walk_at "rd"
          refine s_sl_s hz2 ?_
          have l1 := cl none (some at_)
          have l2 := cl (some (at_ + 1)) none
          refine s_add_s (szc _ (by omega)) ?_
          walk_at "rd"
          exact fin _ (by rw [app_len]; omega)
        · walk_at "rd"
          refine s_sl_s hz2 ?_
          walk_at "rd"
          have l1 := cl none (some at_)
          have l2 := cl (some (at_ + 1)) none
          refine s_add_s (szc _ (by omega)) ?_
          walk_at "rd"
          refine s_sl_s hz2 ?_
          refine s_add_s (szc _ (by rw [app_len]; omega)) ?_
          walk_at "rd"
          exact fin _ (by rw [app_len, app_len]; omega)
    · rintro σ H2 ⟨D2, t2, o2, o3, o4, o5, g, X2, h2, rfl⟩
      walk_at "rd"
      refine q D2 H2 t2 g X2 ?_
      have hn : (1 + n).toNat = 1 ∨ (1 + n).toNat = 2 ∨ (1 + n).toNat = 3 := by omega
      rcases hn with e | e | e <;> · rw [e] at h2; omega
/-! ### _law_letters -/
theorem S_law_letters : FnScope ["text", "k"] ["text"] (d_law_letters).scope := ⟨rfl, rfl, rfl, by decide +kernel, rfl, by decide +kernel, by decide +kernel⟩
def sp_law_letters : Sp := fun vs H Q E => ∃ (s : Str), vs = [.str s] ∧ s.length ≤ sizeLine ∧ Q (.bl (okLetters s)) H
theorem w_law_letters (T : Txt P w K mg) : Has P w K mg base 3 "_law_letters" sp_law_letters := by
  have S := S_law_letters
  refine has_of (k := 2) T.d_law_letters T.gd_law_letters S (fun _ _ _ _ _ _ us hl => match us, hl with | [_], _ => rfl) (fun vs H Q E h => ?_) (fun f cdv A outer s H vs Q E hr h => ?_)
  · obtain ⟨s, rfl, _⟩ := h
    rfl
  · obtain ⟨z, rfl, hz, q⟩ := h
    refine ⟨_, (pss_cons (ps_if (PW.pt (pw_or (pt_cmpR c_lt (pe_callB (bK_len K) (by rfl) T.b_len (by decide +kernel) (pa_cons (pv 0) pa_nil)) pe_int (nomark _)) (pw_or1 (pt_cmpR c_gt (pe_callB (bK_len K) (by rfl) T.b_len (by decide +kernel) (pa_cons (pv 0) pa_nil)) pe_int (nomark _)))))
      (pss_one (ps_ret pe_bl))
      pss_nil)
    (pss_cons (ps_for (passes_of rfl) rfl (pi_range1 (by rfl) T.b_range (pa_cons (pe_callB (bK_len K) (by rfl) T.b_len (by decide +kernel) (pa_cons (pv 0) pa_nil)) pa_nil)) (pg_name (i := 1) S.nd rfl (Or.inl rfl))
      (pss_cons (ps_if (pt_cmpR (cK_ni K) (pe_ix (ixK_seq K) (pv 0) (pv 1) (fun _ _ => rfl)) pe_str rfl)
      (pss_one (ps_ret pe_bl))
      pss_nil)
    (pss_one (ps_if (PW.pt (pw_and (pt_cmpR c_gt (pv 1) pe_int (nomark _)) (pw_and1 (pt_cmpR c_le (pe_ix (ixK_seq K) (pv 0) (pv 1) (fun _ _ => rfl)) (pe_ix (ixK_seq K) (pv 0) (pe_op o_sub (pv 1) pe_int) (fun _ _ => rfl)) (nomark _)))))
      (pss_one (ps_ret pe_bl))
      pss_nil))))
    (pss_one (ps_ret pe_bl)))), ?_⟩
    walk_at "rd"
    refine jtD (fun e => ?_) (fun e1 => ?_)
    · have e' : ¬ 1 ≤ z.length := by omega
      walk_at "rd"
      simpa [okLetters, e'] using q
    walk_at "rd"
    refine jtD (fun e => ?_) (fun e2 => ?_)
    · have e' : ¬ z.length ≤ 4 := by omega
      walk_at "rd"
      simpa [okLetters, e'] using q
    have hk : okLetters z = okFrom [] z.cps.toList := by
      have a1 : 1 ≤ z.length := by omega
      have a2 : z.length ≤ 4 := by omega
      simp [okLetters, a1, a2]
    rw [hk] at q
    have hsz : z.cps.toList.length = z.length := by simp [Str.length]
    walk_at "rd"
    refine ⟨_, rfl, by omega, by omega, lp_it walk_range (fun i σ H' => H' = H ∧ ∃ o1, σ = [some (.str z), o1] ∧ okFrom (if i = 0 then [] else [z.cps.toList.getD (i - 1) 0]) (z.cps.toList.drop i) = okFrom [] z.cps.toList) ⟨rfl, _, rfl, rfl⟩ (fun _ _ _ _ _ => trivial) ?_ ?_⟩
    · rintro i x σ H1 H2 hi ⟨rfl, o1, rfl, en⟩ ⟨rfl, rfl⟩
      have hi1 : i < z.cps.toList.length := by omega
      rw [List.drop_eq_getElem_cons hi1, okFrom_cons] at en
      have e0 : (0 : Int) + (i : Int) = (i : Int) := Int.zero_add _
      have hg : atI z.cps.toList (i : Int) = some z.cps.toList[i] := atI_nat (List.getElem?_eq_getElem hi1)
      dsimp only
      rw [e0]
      have nextE : okFrom [z.cps.toList[i]] (z.cps.toList.drop (i + 1)) = okFrom (if i + 1 = 0 then [] else [z.cps.toList.getD (i + 1 - 1) 0]) (z.cps.toList.drop (i + 1)) := by
        rw [if_neg (by omega), Nat.add_sub_cancel, getD_at hi1]
      walk_at "rd"
      refine s_ix_s hz hg ?_
      walk_at "rd"
      refine jtN (fun e => ?_) (fun e3 => ?_)
      · walk_at "rd"
        rw [if_pos (.inl e)] at en
        rw [← en] at q
        exact q
      walk_at "rd"
      refine jtD (fun e => ?_) (fun e4 => ?_)
      · have hi0 : i ≠ 0 := by omega
        have hj1 : i - 1 < z.cps.toList.length := by omega
        rw [if_neg hi0, getD_at hj1] at en
        walk_at "rd"
        refine s_ix_s hz hg ?_
        walk_at "rd"
        refine s_ix_s hz (atI_i (j := i - 1) (by omega) (List.getElem?_eq_getElem hj1)) ?_
        walk_at "rd"
        refine jtN (fun e5 => ?_) (fun e5 => ?_)
        · walk_at "rd"
          rw [if_pos (.inr e5)] at en
          rw [← en] at q
          exact q
        · walk_at "rd"
          rw [if_neg (fun y => y.elim (fun y => y e3) fun y => y e5), nextE] at en
          exact ⟨rfl, _, rfl, en⟩
      · have hi0 : i = 0 := by omega
        walk_at "rd"
        rw [if_pos hi0, if_neg (fun y => y.elim (fun y => y e3) fun y => y (List.nil_lt_cons _ _)), nextE] at en
        exact ⟨rfl, _, rfl, en⟩
    · rintro σ H1 ⟨rfl, o1, rfl, en⟩
      walk_at "rd"
      rw [List.drop_of_length_le (by omega)] at en
      rw [← en] at q
      exact q
end
end H90

namespace H90
open PySem PySem.Spec L2 He Y Hk90
local macro_rules | `(tactic| walk_at "rd1") => `(tactic| first
  | with_reducible refine s_seq ?_
  | with_reducible refine s_asg ?_
  | with_reducible refine s_gname ?_
  | ((with_reducible refine s_var (v := ?_) ?_ ?_); rotate_left; exact rfl)
  | with_reducible refine s_c ?_
  | with_reducible refine s_op ?_
  | with_reducible refine s_un ?_
  | with_reducible refine s_nil ?_
  | with_reducible refine s_cons ?_
  | with_reducible refine s_CB ?_
  | with_reducible refine s_ifS ?_
  | with_reducible refine s_test ?_
  | with_reducible refine s_B ?_
  | with_reducible refine s_xb ?_
  | with_reducible refine s_xi ?_
  | with_reducible refine s_xs ?_
  | with_reducible refine s_or ?_
  | with_reducible refine s_and ?_
  | with_reducible refine s_not ?_
  | with_reducible refine s_orV ?_
  | with_reducible refine s_andV ?_
  | with_reducible refine s_notV ?_
  | with_reducible refine s_ret ?_
  | with_reducible refine s_retN ?_
  | with_reducible refine s_next ?_
  | with_reducible refine s_drop ?_
  | with_reducible refine s_yes ?_
  | with_reducible refine s_for ?_
  | with_reducible refine s_lc ?_
  | with_reducible refine s_iStr ?_
  | with_reducible refine s_iList ?_
  | with_reducible refine s_iTup ?_
  | with_reducible refine s_iR1 ?_
  | with_reducible refine s_iR2 ?_
  | with_reducible refine s_iE ?_
  | with_reducible refine s_iET ?_
  | with_reducible refine s_iES ?_
  | with_reducible refine s_tup ?_
  | with_reducible refine s_lst ?_
  | with_reducible refine s_BM ?_
  | with_reducible refine s_BM0 ?_
  | with_reducible refine s_BMS ?_
  | with_reducible refine s_M1 ?_
  | with_reducible refine s_sl ?_
  | with_reducible refine s_noP ?_
  | with_reducible refine s_po ?_
  | with_reducible refine s_call ?_
  | with_reducible refine s_callS ?_
  | with_reducible refine s_make ?_
  | with_reducible refine s_fld ?_
  | with_reducible refine s_sFld ?_
  | with_reducible refine s_rz ?_
  | with_reducible refine s_asgS ?_
  | with_reducible refine s_gSub ?_
  | with_reducible refine s_ifE ?_
  | with_reducible refine s_add_i ?_
  | with_reducible refine s_sub ?_
  | with_reducible refine s_neg ?_
  | with_reducible refine s_eq_i ?_
  | with_reducible refine s_eq_s ?_
  | with_reducible refine s_ne_i ?_
  | with_reducible refine s_ne_s ?_
  | with_reducible refine s_lt_i ?_
  | with_reducible refine s_le_i ?_
  | with_reducible refine s_gt_i ?_
  | with_reducible refine s_ge_i ?_
  | with_reducible refine s_lt_s ?_
  | with_reducible refine s_le_s ?_
  | with_reducible refine s_gt_s ?_
  | with_reducible refine s_ge_s ?_
  | with_reducible refine s_in_c ?_
  | with_reducible refine s_ni_c ?_
  | with_reducible refine s_isN ?_
  | with_reducible refine s_noN ?_
  | with_reducible refine s_abs ?_
  | with_reducible refine s_min2 ?_
  | with_reducible refine s_max2 ?_
  | with_reducible refine s_int_i ?_
  | ((with_reducible refine s_len_s ?_ ?_); assumption)
  | ((with_reducible refine s_len_l (xs := ?_) ?_ ?_); rotate_left; assumption)
  | ((with_reducible refine s_len_t (xs := ?_) ?_ ?_); rotate_left; assumption)
  | with_reducible refine s_pair upd_same ?_
  | with_reducible refine s_callS ?_
  | with_reducible refine jtT ?_
  | with_reducible refine jtF ?_
  | dsimp only)
local macro_rules | `(tactic| walk_at "rd") => `(tactic| repeat (walk_at "rd1"))

theorem DG_index : ∀ c ∈ DG.cps.toList, Txt.index0 ("0123456789" : Str) ⟨#[c]⟩ = some (c - 48) := by decide +kernel
theorem digits_snoc (l : List Nat) (c : Nat) : NumText.digitsVal (l ++ [c]) = NumText.digitsVal l * 10 + (c - 48) := by
  unfold NumText.digitsVal
  rw [List.foldl_append]
  rfl
theorem six {l : List Nat} (h : NumText.AllDigits l) (hl : l.length = 6) (h0 : l.head? ≠ some 48) : 100000 ≤ NumText.digitsVal l := by
  match l, hl with
  | [a, b, c, d, e, f], _ =>
    have ha := h a (by simp)
    have h1 : a ≠ 48 := fun e => h0 (by rw [e]; rfl)
    unfold NumText.digitsVal
    simp only [List.foldl_cons, List.foldl_nil]
    omega
theorem str_one {c : Nat} : ((⟨#[c]⟩ : Str) = "0") ↔ c = 48 := ⟨fun e => by
  have := congrArg (fun z : Str => z.cps.toList) e
  exact List.head_eq_of_cons_eq this, fun e => by rw [e]; rfl⟩
theorem str_ne {z : Str} (h : z ≠ "") : ∃ c r, z.cps.toList = c :: r := by
  cases e : z.cps.toList with
  | nil =>
    refine absurd ?_ h
    obtain ⟨⟨l⟩⟩ := z
    have : l = [] := e
    subst this
    rfl
  | cons c r => exact ⟨c, r, rfl⟩
theorem ent_empty {many : Int} : entM many "" = none := by
  rw [entM, if_neg (by decide), show numM "" = none from rfl]
theorem ent_long {many : Int} {p : Str} (hm : many ≤ 128) (h1 : p ≠ "-1") (h : 5 < p.length) : entM many p = none := by
  rw [entM, if_neg h1]
  cases hn : numM p with
  | none => rfl
  | some n =>
    dsimp only
    rw [if_pos]
    unfold numM at hn
    split at hn
    · cases hn
    · split at hn
      · cases hn
      · rename_i h3
        split at hn
        · cases hn
        · split at hn
          · cases hn
          · rename_i h4
            cases hn
            have hd : NumText.AllDigits p.cps.toList := fun d hd => DG_digit d (by
              have := List.any_eq_false.mp (by simpa using h3 : p.cps.toList.any (fun c => !decide (c ∈ DG.cps.toList)) = false) d hd
              simpa using this)
            have hl : p.cps.toList.length = p.length := by simp [Str.length]
            have := six hd (by omega) fun e => h4 ⟨e, by omega⟩
            omega
theorem ent_zero {many : Int} {p : Str} (h1 : p ≠ "-1") (h : p.cps.toList.head? = some 48) (hl : 1 < p.length) : entM many p = none := by
  rw [entM, if_neg h1]
  have : numM p = none := by
    unfold numM
    split
    · rfl
    · split
      · rfl
      · split
        · rfl
        · rw [if_pos ⟨h, hl⟩]
  rw [this]
theorem ent_other {many : Int} {p : Str} {c : Nat} (h1 : p ≠ "-1") (hc : c ∈ p.cps.toList) (h : c ∉ DG.cps.toList) : entM many p = none := by
  rw [entM, if_neg h1]
  have : numM p = none := by
    unfold numM
    split
    · rfl
    · rw [if_pos (List.any_eq_true.mpr ⟨c, hc, by simpa using h⟩)]
  rw [this]
theorem ent_num {many : Int} {p : Str} (h1 : p ≠ "-1") (h2 : p ≠ "") (h3 : p.length ≤ 5) (h4 : ¬ (p.cps.toList.head? = some 48 ∧ 1 < p.length)) (h5 : ∀ c ∈ p.cps.toList, c ∈ DG.cps.toList) :
    entM many p = if many ≤ ((NumText.digitsVal p.cps.toList : Nat) : Int) then none else some ((NumText.digitsVal p.cps.toList : Nat) : Int) := by
  rw [entM, if_neg h1]
  have : numM p = some ((NumText.digitsVal p.cps.toList : Nat) : Int) := by
    unfold numM
    rw [if_neg h2, if_neg (by
      rw [Bool.not_eq_true]
      exact List.any_eq_false.mpr fun c hc => by simpa using h5 c hc), if_neg (by omega), if_neg h4]
  rw [this]
section
variable {P : Program} {w : World} {K : PySem.W.Frag} {mg : Str → Option Value} {base : Heap}
theorem S_law_entry : FnScope ["part", "many", "value", "sign"] ["part", "many"] (d_law_entry).scope := ⟨rfl, rfl, rfl, by decide +kernel, rfl, by decide +kernel, by decide +kernel⟩
def sp_law_entry : Sp := fun vs H Q E => ∃ (p : Str) (many : Int), vs = [.str p, .int many] ∧ p.length ≤ sizeLine ∧ many ≤ 128 ∧ Q (oV (entM many p)) H
theorem w_law_entry (T : Txt P w K mg) : Has P w K mg base 3 "_law_entry" sp_law_entry := by
  have S := S_law_entry
  refine has_of (k := 2) T.d_law_entry T.gd_law_entry S (fun _ _ _ _ _ _ us hl => match us, hl with | [_, _], _ => rfl) (fun vs H Q E h => ?_) (fun f cdv A outer s H vs Q E hr h => ?_)
  · obtain ⟨p, many, rfl, _⟩ := h
    rfl
  · obtain ⟨z, many, rfl, hz, hm, q⟩ := h
    refine ⟨_, (pss_cons (ps_if (pt_cmpR (cK_eq K hr.units) (pv 0) pe_str (nomark _))
      (pss_one (ps_ret (pe_un o_neg pe_int)))
      pss_nil)
    (pss_cons (ps_if (PW.pt (pw_or (pt_cmpR (cK_eq K hr.units) (pv 0) pe_str (nomark _)) (pw_or (pt_cmpR c_gt (pe_callB (bK_len K) (by rfl) T.b_len (by decide +kernel) (pa_cons (pv 0) pa_nil)) pe_int (nomark _)) (pw_or1 (PW.pt (pw_and (pt_cmpR (cK_eq K hr.units) (pe_ix (ixK_seq K) (pv 0) pe_int (fun _ _ => rfl)) pe_str (nomark _)) (pw_and1 (pt_cmpR c_gt (pe_callB (bK_len K) (by rfl) T.b_len (by decide +kernel) (pa_cons (pv 0) pa_nil)) pe_int (nomark _)))))))))
      (pss_one (ps_ret pe_non))
      pss_nil)
    (pss_cons (ps_set (i := 2) S.nd rfl (Or.inl rfl) pe_int)
    (pss_cons (ps_for (passes_of rfl) rfl (pi_str (pv 0)) (pg_name (i := 3) S.nd rfl (Or.inl rfl))
      (pss_cons (ps_if (pt_cmpR (cK_ni K) (pv 3) pe_str rfl)
      (pss_one (ps_ret pe_non))
      pss_nil)
    (pss_one (ps_set (i := 2) S.nd rfl (Or.inl rfl) (pe_op (oK_add K) (pe_op o_mul pe_int (pv 2)) (peK_bmS K PySem.F.plainAttrs_str PySem.F.slot_str_index PySem.F.type_str_index (mt_indexX rfl (takes_of rfl rfl rfl rfl)) pe_str (pa_cons (pv 3) pa_nil)))))))
    (pss_cons (ps_if (pt_cmpR c_ge (pv 2) (pv 1) (nomark _))
      (pss_one (ps_ret pe_non))
      pss_nil)
    (pss_one (ps_ret (pv 2)))))))), ?_⟩
    walk_at "rd"
    refine jtD (fun e => ?_) (fun e1 => ?_)
    · rw [entM, if_pos e] at q
      walk_at "rd"
      exact q
    with_reducible refine s_next ?_
    dsimp only
    refine s_cut (fun σ' H' => σ' = [some (.str z), some (.int many), none, none] ∧ H = H' ∧ z ≠ "" ∧ z.length ≤ 5 ∧ ¬ (z.cps.toList.head? = some 48 ∧ 1 < z.length)) ?_ (fun N rest => ?_)
    · rintro σ' H' ⟨rfl, rfl, e2, e3, e4⟩
      walk_at "rd"
      refine lp_it walk_str (fun i σ H' => H' = H ∧ ∃ o3, σ = [some (.str z), some (.int many), some (.int ((NumText.digitsVal (z.cps.toList.take i) : Nat) : Int)), o3] ∧ ∀ c ∈ z.cps.toList.take i, c ∈ DG.cps.toList) ⟨rfl, _, rfl, fun c z => (nomatch z)⟩ (fun _ _ _ _ _ => trivial) ?_ ?_
      · rintro i x σ H1 H2 hi ⟨rfl, o3, rfl, hd⟩ ⟨rfl, c, hc, rfl⟩
        have hc' : z.cps.toList[i]? = some c := by simpa using hc
        walk_at "rd"
        refine jtN (fun e5 => ?_) (fun e5 => ?_)
        · walk_at "rd"
          rw [ent_other e1 (List.mem_of_getElem? hc') e5] at q
          exact q
        · walk_at "rd"
          refine s_mul (.inl (by decide)) ?_
          walk_at "rd"
          refine ⟨rfl, ?_⟩
          walk_at "rd"
          refine s_index (DG_index c e5) ?_
          walk_at "rd"
          have et : z.cps.toList.take (i + 1) = z.cps.toList.take i ++ [c] := by
            rw [List.take_add_one, hc']
            rfl
          refine ⟨rfl, some (.str ⟨#[c]⟩), ?_, ?_⟩
          · have ev : (10 : Int) * ((NumText.digitsVal (z.cps.toList.take i) : Nat) : Int) + ((c - 48 : Nat) : Int) = ((NumText.digitsVal (z.cps.toList.take (i + 1)) : Nat) : Int) := by
              rw [et, digits_snoc]
              omega
            rw [← ev]
            rfl
          · intro d hdm
            rw [et] at hdm
            rcases List.mem_append.mp hdm with hdm | hdm
            · exact hd d hdm
            · rw [List.mem_singleton.mp hdm]
              exact e5
      · rintro σ H1 ⟨rfl, o3, rfl, hd⟩
        have et : z.cps.toList.take z.cps.size = z.cps.toList := List.take_of_length_le (by simp)
        rw [et] at hd ⊢
        rw [ent_num e1 e2 e3 e4 hd] at q
        walk_at "rd"
        refine jtD (fun e => ?_) (fun e => ?_)
        · rw [if_pos e] at q
          walk_at "rd"
          exact q
        · rw [if_neg e] at q
          walk_at "rd"
          exact q
    walk_at "rd"
    refine jtD (fun e => ?_) (fun e2 => ?_)
    · rw [e, ent_empty] at q
      walk_at "rd"
      exact q
    walk_at "rd"
    refine jtD (fun e => ?_) (fun e3 => ?_)
    · rw [ent_long hm e1 (by omega)] at q
      walk_at "rd"
      exact q
    obtain ⟨c0, r0, hc0⟩ := str_ne e2
    have hh : z.cps.toList.head? = some c0 := by rw [hc0]; rfl
    walk_at "rd"
    refine s_ix_s hz (by rw [hc0]; exact atI_0) ?_
    walk_at "rd"
    refine jtD (fun e4 => ?_) (fun e4 => ?_)
    · walk_at "rd"
      refine jtD (fun e5 => ?_) (fun e5 => ?_)
      · rw [ent_zero e1 (by rw [hh, str_one.mp e4]) (by omega)] at q
        walk_at "rd"
        exact q
      · walk_at "rd"
        exact rest _ _ ⟨rfl, rfl, e2, by omega, fun y => e5 (by omega)⟩
    · walk_at "rd"
      exact rest _ _ ⟨rfl, rfl, e2, by omega, fun y => e4 (str_one.mpr (Option.some.inj (hh.symm.trans y.1)))⟩
end
end H90

namespace H90
open PySem PySem.Spec L2 He Y Hk90
/-! ### the law's reader answers as the program's -/
theorem ent_end (many : Int) : entM many "end" = none := ent_other (c := 101) (by decide) (by decide) (by decide)
theorem ents_none {many : Int} : ∀ {ps : List Str} {p : Str}, p ∈ ps → entM many p = none → entsM many ps = none
  | q :: ps, p, h, e => by
    rw [entsM_cons]
    rcases List.mem_cons.mp h with h | h
    · rw [← h, e]
    · rw [ents_none h e]
      cases entM many q <;> rfl
theorem ents_row {many : Int} : ∀ {ps : List Str}, (inV .non (ps.map fun p => oV (entM many p)) = true → entsM many ps = none) ∧ (inV .non (ps.map fun p => oV (entM many p)) = false → ∃ l, entsM many ps = some l ∧ ps.map (fun p => oV (entM many p)) = l.map V.int)
  | [] => ⟨fun (h : false = true) => (nomatch h), fun _ => ⟨[], rfl, rfl⟩⟩
  | p :: ps => by
    have ih := ents_row (many := many) (ps := ps)
    rw [entsM_cons, List.map_cons]
    cases hp : entM many p with
    | none =>
      refine ⟨fun _ => rfl, fun h => ?_⟩
      have : inV .non (oV none :: ps.map fun p => oV (entM many p)) = true := rfl
      rw [this] at h
      cases h
    | some n =>
      have e : inV .non (oV (some n) :: ps.map fun p => oV (entM many p)) = inV .non (ps.map fun p => oV (entM many p)) := rfl
      rw [e]
      refine ⟨fun h => by rw [ih.1 h], fun h => ?_⟩
      obtain ⟨l, h1, h2⟩ := ih.2 h
      refine ⟨n :: l, by rw [h1], ?_⟩
      rw [h2]
      rfl
theorem row_flat {many : Int} {ps : List Str} : (ps.map fun p => oV (entM many p)).all flatV = true := by
  rw [List.all_map]
  refine List.all_eq_true.mpr fun p _ => ?_
  show flatV (oV (entM many p)) = true
  cases entM many p <;> rfl
/-- the law's cut of 'end' -/
def cutL (n : Nat) (ps : List Str) : List Str × Bool := if ps.length = n + 1 ∧ ps[n]? = some ("end" : Str) then (ps.take n, true) else (ps, false)
theorem line_law {many : Int} {n : Nat} (hn : 1 ≤ n) (ln : Str) : (lineM many n ln).1 = rowM many n (cutL n (Txt.split ln " ")).1 ∧ ((lineM many n ln).1 = none ∨ (lineM many n ln).2 = (cutL n (Txt.split ln " ")).2) := by
  unfold lineM cutL
  generalize Txt.split ln " " = ps
  by_cases h : ps.length = n + 1 ∧ ps[n]? = some ("end" : Str)
  · have e : ps.length - 1 = n := by omega
    rw [if_pos h, if_pos ⟨by omega, by rw [e]; exact h.2⟩, e]
    exact ⟨rfl, .inr rfl⟩
  · rw [if_neg h]
    by_cases h2 : 1 < ps.length ∧ ps[ps.length - 1]? = some ("end" : Str)
    · rw [if_pos h2]
      have hne : ps.length ≠ n + 1 := fun e => h ⟨e, by rw [← h2.2, e]; rfl⟩
      have r1 : rowM many n (ps.take (ps.length - 1)) = none := by
        rw [rowM, if_neg]
        rw [List.length_take]
        omega
      have r2 : rowM many n ps = none := by
        unfold rowM
        split
        · exact ents_none (List.mem_of_getElem? h2.2) (ent_end many)
        · rfl
      exact ⟨r1.trans r2.symm, .inl r1⟩
    · rw [if_neg h2]
      exact ⟨rfl, .inr rfl⟩
theorem go_law {many : Int} {n : Nat} (hn : 1 ≤ n) (ln : Str) (ls : List Str) (k : Nat) (R : List (List Int)) (E : List Int) : goM many n (ln :: ls) k R E = match rowM many n (cutL n (Txt.split ln " ")).1 with
    | none => .error (k + 2)
    | some r => if 128 ≤ k then .error (k + 2) else goM many n ls (k + 1) (R ++ [r]) (if (cutL n (Txt.split ln " ")).2 = true then E ++ [(k : Int)] else E) := by
  obtain ⟨h1, h2⟩ := line_law (many := many) hn ln
  rw [goM_cons, ← h1]
  rcases h2 with h2 | h2
  · rw [h2]
  · rw [h2]
    all_goals rfl
theorem okFrom_mem : ∀ {l b : List Nat}, okFrom b l = true → ∀ c ∈ l, c ∈ SM.cps.toList
  | [], _, _, c, z => nomatch z
  | d :: l, b, h, c, z => by
    rw [okFrom_cons] at h
    split at h
    · cases h
    · rename_i hd
      rcases List.mem_cons.mp z with z | z
      · rw [z]
        exact Classical.byContradiction fun y => hd (.inl y)
      · exact okFrom_mem h c z
theorem ok_free {s : Str} (h : okLetters s = true) {c : Nat} (hc : c ∉ SM.cps.toList) : c ∉ TL.tl s := fun z => by
  unfold okLetters at h
  simp only [Bool.and_eq_true] at h
  exact hc (okFrom_mem h.2 c z)
theorem ok_len {s : Str} (h : okLetters s = true) : 1 ≤ s.length ∧ s.length ≤ 4 := by
  unfold okLetters at h
  simp only [Bool.and_eq_true, decide_eq_true_eq] at h
  exact h.1
theorem tl_cutL (z : Str) (k : Nat) : TL.tl (cutS z none (some (k : Int))) = (TL.tl z).take k := by
  show (((z.cps.toList.drop (HT.sIx z.length 0 none)).take (HT.sIx z.length z.length (some (k : Int)) - HT.sIx z.length 0 none)).toArray).toList = _
  rw [HT.sIx_nat, HT.sIx_none, List.drop_zero, Nat.sub_zero]
  show z.cps.toList.take (min k z.length) = _
  have e : z.length = z.cps.toList.length := by simp [Str.length]
  rw [e, ← List.take_take, List.take_length]
theorem tl_cutR (z : Str) (k : Nat) : TL.tl (cutS z (some (k : Int)) none) = (TL.tl z).drop k := by
  show (((z.cps.toList.drop (HT.sIx z.length 0 (some (k : Int)))).take (HT.sIx z.length z.length none - HT.sIx z.length 0 (some (k : Int)))).toArray).toList = _
  rw [HT.sIx_nat, HT.sIx_none]
  show (z.cps.toList.drop (min k z.length)).take (z.length - min k z.length) = _
  have e : z.length = z.cps.toList.length := by simp [Str.length]
  rw [e]
  by_cases h : k ≤ z.cps.toList.length
  · rw [Nat.min_eq_left h]
    exact List.take_of_length_le (by rw [List.length_drop]; exact Nat.le_refl _)
  · rw [Nat.min_eq_right (by omega), Nat.sub_self, List.take_zero]
    exact (List.drop_of_length_le (by show z.cps.toList.length ≤ k; omega)).symm
theorem head_law (l0 : Str) : (cutS l0 none (some 8) = "machine " ∧ okLetters (cutS l0 (some 8) none) = true) → Txt.split l0 " " = [("machine" : Str), cutS l0 (some 8) none] := by
  rintro ⟨h1, h2⟩
  have e1 : (TL.tl l0).take 8 = TL.tl "machine " := by rw [← h1]; exact (tl_cutL l0 8).symm
  have e2 : (TL.tl l0).drop 8 = TL.tl (cutS l0 (some 8) none) := (tl_cutR l0 8).symm
  have e3 : TL.tl l0 = TL.tl "machine" ++ 32 :: TL.tl (cutS l0 (some 8) none) := by
    rw [← List.take_append_drop 8 (TL.tl l0), e1, e2]
    rfl
  refine TL.map_tl_inj ?_
  rw [split_one tl_sp (by decide), e3, cutAt_app (by decide), cutAt_none (ok_free h2 (by decide))]
  rfl
theorem head_prog {l0 s : Str} (h : Txt.split l0 " " = [("machine" : Str), s]) : cutS l0 none (some 8) = "machine " ∧ cutS l0 (some 8) none = s := by
  have h1 := split_one (x := l0) tl_sp (by decide)
  rw [h] at h1
  have h2 := cutAt_join (s := 32) (acc := []) (l := TL.tl l0)
  rw [← h1] at h2
  have e : TL.tl l0 = TL.tl "machine " ++ TL.tl s := by
    rw [List.nil_append] at h2
    rw [← h2]
    rfl
  have e8 : (TL.tl ("machine " : Str)).length = 8 := rfl
  refine ⟨TL.ext_tl ?_, TL.ext_tl ?_⟩
  · refine (tl_cutL l0 8).trans ?_
    rw [e]
    exact List.take_left' e8
  · refine (tl_cutR l0 8).trans ?_
    rw [e]
    exact List.drop_left' e8
/-- the same by the law's way -/
theorem readL_law (l0 : Str) (lr : List Str) : readL (l0 :: lr) = if cutS l0 none (some 8) = "machine " ∧ okLetters (cutS l0 (some 8) none) = true then (if lr = [] then .error 2 else match goM (manyM (lr.length + 1)) (cutS l0 (some 8) none).length lr 0 [] [] with
      | .error k => .error k
      | .ok (R, E) => .ok (cutS l0 (some 8) none, R, E)) else .error 1 := by
  by_cases h : cutS l0 none (some 8) = "machine " ∧ okLetters (cutS l0 (some 8) none) = true
  · rw [if_pos h]
    show (match Txt.split l0 " " with
      | [a, s] => _
      | _ => _) = _
    rw [head_law l0 h]
    dsimp only
    rw [if_pos ⟨rfl, h.2⟩]
    all_goals rfl
  · rw [if_neg h]
    show (match Txt.split l0 " " with
      | [a, s] => _
      | _ => _) = _
    split
    · rename_i a s hs
      rw [if_neg]
      rintro ⟨ea, ok⟩
      rw [ea] at hs
      obtain ⟨h1, h2⟩ := head_prog hs
      exact h ⟨h1, by rw [h2]; exact ok⟩
    · rfl
end H90

namespace H90
open PySem PySem.Spec L2 He Y Hk90
local macro_rules | `(tactic| walk_at "rd1") => `(tactic| first
  | with_reducible refine s_seq ?_
  | with_reducible refine s_asg ?_
  | with_reducible refine s_gname ?_
  | ((with_reducible refine s_var (v := ?_) ?_ ?_); rotate_left; exact rfl)
  | with_reducible refine s_c ?_
  | with_reducible refine s_op ?_
  | with_reducible refine s_un ?_
  | with_reducible refine s_nil ?_
  | with_reducible refine s_cons ?_
  | with_reducible refine s_CB ?_
  | with_reducible refine s_ifS ?_
  | with_reducible refine s_test ?_
  | with_reducible refine s_B ?_
  | with_reducible refine s_xb ?_
  | with_reducible refine s_xi ?_
  | with_reducible refine s_xs ?_
  | with_reducible refine s_or ?_
  | with_reducible refine s_and ?_
  | with_reducible refine s_not ?_
  | with_reducible refine s_orV ?_
  | with_reducible refine s_andV ?_
  | with_reducible refine s_notV ?_
  | with_reducible refine s_ret ?_
  | with_reducible refine s_retN ?_
  | with_reducible refine s_next ?_
  | with_reducible refine s_drop ?_
  | with_reducible refine s_yes ?_
  | with_reducible refine s_for ?_
  | with_reducible refine s_lc ?_
  | with_reducible refine s_iStr ?_
  | with_reducible refine s_iList ?_
  | with_reducible refine s_iTup ?_
  | with_reducible refine s_iR1 ?_
  | with_reducible refine s_iR2 ?_
  | with_reducible refine s_iE ?_
  | with_reducible refine s_iET ?_
  | with_reducible refine s_iES ?_
  | with_reducible refine s_tup ?_
  | with_reducible refine s_lst ?_
  | with_reducible refine s_BM ?_
  | with_reducible refine s_BM0 ?_
  | with_reducible refine s_BMS ?_
  | with_reducible refine s_M1 ?_
  | with_reducible refine s_sl ?_
  | with_reducible refine s_noP ?_
  | with_reducible refine s_po ?_
  | with_reducible refine s_call ?_
  | with_reducible refine s_callS ?_
  | with_reducible refine s_make ?_
  | with_reducible refine s_fld ?_
  | with_reducible refine s_sFld ?_
  | with_reducible refine s_rz ?_
  | with_reducible refine s_asgS ?_
  | with_reducible refine s_gSub ?_
  | with_reducible refine s_ifE ?_
  | with_reducible refine s_add_i ?_
  | with_reducible refine s_sub ?_
  | with_reducible refine s_neg ?_
  | with_reducible refine s_eq_i ?_
  | with_reducible refine s_eq_s ?_
  | with_reducible refine s_ne_i ?_
  | with_reducible refine s_ne_s ?_
  | with_reducible refine s_lt_i ?_
  | with_reducible refine s_le_i ?_
  | with_reducible refine s_gt_i ?_
  | with_reducible refine s_ge_i ?_
  | with_reducible refine s_lt_s ?_
  | with_reducible refine s_le_s ?_
  | with_reducible refine s_gt_s ?_
  | with_reducible refine s_ge_s ?_
  | with_reducible refine s_in_c ?_
  | with_reducible refine s_ni_c ?_
  | with_reducible refine s_isN ?_
  | with_reducible refine s_noN ?_
  | with_reducible refine s_abs ?_
  | with_reducible refine s_min2 ?_
  | with_reducible refine s_max2 ?_
  | with_reducible refine s_int_i ?_
  | ((with_reducible refine s_len_s ?_ ?_); assumption)
  | ((with_reducible refine s_len_l (xs := ?_) ?_ ?_); rotate_left; assumption)
  | ((with_reducible refine s_len_t (xs := ?_) ?_ ?_); rotate_left; assumption)
  | with_reducible refine s_pair upd_same ?_
  | with_reducible refine s_callS ?_
  | with_reducible refine jtT ?_
  | with_reducible refine jtF ?_
  | dsimp only)
local macro_rules | `(tactic| walk_at "rd") => `(tactic| repeat (walk_at "rd1"))

section
variable {P : Program} {w : World} {K : PySem.W.Frag} {mg : Str → Option Value} {base : Heap}
structure LrI (K : PySem.W.Frag) (text s : Str) (lr : List Str) (D1 H1 : Hp) (p rw el : Addr) (i : Nat) (σ : L2.St) (H' : Hp) : Prop where
  ex : ∃ (D' : Hp) (o6 o7 o8 : Option V) (R : List (List Int)) (E : List Int) (vs : List V), Gr No D1 H1 D' H' ∧ D' rw = none ∧ D' el = none ∧ H' el = some (.lst (E.map V.int)) ∧ H' rw = some (.lst vs) ∧ DpAll K D' vs (R.map dL) ∧
    σ = [some (.str text), some (.ref p), some (.str s), some (.int (manyM (lr.length + 1))), some (.ref rw), some (.ref el), o6, o7, o8, none] ∧ R.length ≤ i ∧ E.length ≤ i ∧ goM (manyM (lr.length + 1)) s.length (lr.drop i) i R E = goM (manyM (lr.length + 1)) s.length lr 0 [] []
theorem S_law_read : FnScope ["text", "lines", "letters", "many", "rows", "ends", "k", "parts", "row", "part"] ["text"] (d_law_read).scope := ⟨rfl, rfl, rfl, by decide +kernel, rfl, by decide +kernel, by decide +kernel⟩
def sp_law_read (K : PySem.W.Frag) : Sp := fun vs H Q E => ∃ (D : Hp) (t : Str), vs = [.str t] ∧ t.length ≤ 100000 ∧ Same D H ∧ (∀ D' H' a s R L v1 v2, readM t = .ok (s, R, L) → Gr No D H D' H' → H' a = some (.tup [.str "good", .str s, v1, v2]) → Dp K D' v1 (dLL R) → Dp K D' v2 (dL L) → Q (.ref a) H') ∧
  (∀ D' H' a k, readM t = .error k → Gr No D H D' H' → H' a = some (.tup [.str "bad", .int (k : Nat)]) → Q (.ref a) H')
theorem w_law_read (T : Txt P w K mg) : Has P w K mg base 4 "_law_read" (sp_law_read K) := by
  have S := S_law_read
  have G_law_letters := w_law_letters (base := base) T
  have G_law_entry := w_law_entry (base := base) T
  refine has_of (k := 3) T.d_law_read T.gd_law_read S (fun _ _ _ _ _ _ us hl => match us, hl with | [_], _ => rfl) (fun vs H Q E h => ?_) (fun f cdv A outer s H vs Q E hr h => ?_)
  · obtain ⟨D, t, rfl, _⟩ := h
    rfl
  · obtain ⟨D, text, rfl, ht, sm, qk, qe⟩ := h
    have hz : text.length + 2 ≤ sizeLine := Nat.le_trans (Nat.add_le_add_right ht 2) (by decide)
    refine ⟨_, (pss_cons (ps_set (i := 1) S.nd rfl (Or.inl rfl) (pe_m1 PySem.F.slot_str_split PySem.F.type_str_split m_split (pv 0) pe_str))
    (pss_cons (ps_if (PW.pt (pw_or (pt_cmpR (cK_ne K hr.units) (pe_slice (slK_any K) (pe_ix (ixK_seq K) (pv 1) pe_int (fun _ _ => rfl)) po_none (po_some pe_int)) pe_str (nomark _)) (pw_or1 (pt_not (pt_val (pe_has G_law_letters (hr.mono (by decide)) (takes_of rfl rfl rfl rfl) rfl (pa_cons (pe_slice (slK_any K) (pe_ix (ixK_seq K) (pv 1) pe_int (fun _ _ => rfl)) (po_some pe_int) po_none) pa_nil)))))))
      (pss_one (ps_ret (pe_tup (pa_cons pe_str (pa_cons pe_int pa_nil)))))
      pss_nil)
    (pss_cons (ps_set (i := 2) S.nd rfl (Or.inl rfl) (pe_slice (slK_any K) (pe_ix (ixK_seq K) (pv 1) pe_int (fun _ _ => rfl)) (po_some pe_int) po_none))
    (pss_cons (ps_set (i := 3) S.nd rfl (Or.inr rfl) (pe_callB (b_min rfl) (by rfl) T.b_min (by decide +kernel) (pa_cons (pe_op o_sub (pe_callB (bK_len K) (by rfl) T.b_len (by decide +kernel) (pa_cons (pv 1) pa_nil)) pe_int) (pa_cons pe_int pa_nil))))
    (pss_cons (ps_set (i := 4) S.nd rfl (Or.inl rfl) (pe_lst pa_nil))
    (pss_cons (ps_set (i := 5) S.nd rfl (Or.inl rfl) (pe_lst pa_nil))
    (pss_cons (ps_for (passes_of rfl) rfl (pi_range2 (by rfl) T.b_range (pa_cons pe_int (pa_cons (pe_callB (bK_len K) (by rfl) T.b_len (by decide +kernel) (pa_cons (pv 1) pa_nil)) pa_nil))) (pg_name (i := 6) S.nd rfl (Or.inl rfl))
      (pss_cons (ps_set (i := 7) S.nd rfl (Or.inl rfl) (pe_m1 PySem.F.slot_str_split PySem.F.type_str_split m_split (pe_ix (ixK_seq K) (pv 1) (pv 6) (fun _ _ => rfl)) pe_str))
    (pss_cons (ps_if (PW.pt (pw_and (pt_cmpR (cK_eq K hr.units) (pe_callB (bK_len K) (by rfl) T.b_len (by decide +kernel) (pa_cons (pv 7) pa_nil)) (pe_op (oK_add K) (pe_callB (bK_len K) (by rfl) T.b_len (by decide +kernel) (pa_cons (pv 2) pa_nil)) pe_int) (nomark _)) (pw_and1 (pt_cmpR (cK_eq K hr.units) (pe_ix (ixK_seq K) (pv 7) (pe_callB (bK_len K) (by rfl) T.b_len (by decide +kernel) (pa_cons (pv 2) pa_nil)) (fun _ _ => rfl)) pe_str (nomark _)))))
      (pss_cons (ps_expr (peK_bm K PySem.F.plainAttrs_list PySem.F.slot_list_append PySem.F.type_list_append mt_append (pv 5) (pa_cons (pe_op o_sub (pv 6) pe_int) pa_nil)))
    (pss_one (ps_set (i := 7) S.nd rfl (Or.inl rfl) (pe_slice (slK_any K) (pv 7) po_none (po_some (pe_callB (bK_len K) (by rfl) T.b_len (by decide +kernel) (pa_cons (pv 2) pa_nil)))))))
      pss_nil)
    (pss_cons (ps_setLc (i := 8) (own := [("part", 9)]) rfl S.nd rfl rfl (sw_true rfl rfl rfl (by decide +kernel)) (piK_list K (pv 7)) (blkOk_by (by rfl)) (fun _ _ _ _ _ => (pg_name (i := 9) S.nd rfl (Or.inl rfl))) (fun _ _ _ _ _ => pts_nil) (fun _ _ _ _ _ => (pe_has G_law_entry (hr.mono (by decide)) takes0 rfl (pa_cons (pv 9) (pa_cons (pv 3) pa_nil)))))
    (pss_cons (ps_if (PW.pt (pw_or (pt_cmpR (cK_ne K hr.units) (pe_callB (bK_len K) (by rfl) T.b_len (by decide +kernel) (pa_cons (pv 8) pa_nil)) (pe_callB (bK_len K) (by rfl) T.b_len (by decide +kernel) (pa_cons (pv 2) pa_nil)) (nomark _)) (pw_or (pt_cmpR (cK_in K) pe_non (pv 8) rfl) (pw_or1 (pt_cmpR c_gt (pv 6) pe_int (nomark _))))))
      (pss_one (ps_ret (pe_tup (pa_cons pe_str (pa_cons (pe_op (oK_add K) (pv 6) pe_int) pa_nil)))))
      pss_nil)
    (pss_one (ps_expr (peK_bm K PySem.F.plainAttrs_list PySem.F.slot_list_append PySem.F.type_list_append mt_append (pv 4) (pa_cons (pv 8) pa_nil)))))))))
    (pss_cons (ps_if (pt_cmpR (cK_eq K hr.units) (pe_callB (bK_len K) (by rfl) T.b_len (by decide +kernel) (pa_cons (pv 4) pa_nil)) pe_int (nomark _))
      (pss_one (ps_ret (pe_tup (pa_cons pe_str (pa_cons pe_int pa_nil)))))
      pss_nil)
    (pss_one (ps_ret (pe_tup (pa_cons pe_str (pa_cons (pv 2) (pa_cons (pv 4) (pa_cons (pv 5) pa_nil))))))))))))))), ?_⟩
    walk_at "rd"
    refine ⟨⟨_, rfl⟩, ?_⟩
    walk_at "rd"
    refine s_split rfl hz fun p np => ?_
    have hc := split_count (x := text) tl_nl (by decide)
    have hpt := split_part (x := text) tl_nl (by decide)
    unfold readM at qk qe
    cases hls : Txt.split text "\n" with
    | nil => exact absurd hls (split_ne tl_nl (by decide))
    | cons l0 lr =>
    rw [hls] at qk qe hc hpt
    have hl0 := hpt l0 (List.mem_cons_self ..)
    have g1 := (Gr.refl (m := No) sm).ice (o := .lst ((l0 :: lr).map V.str)) np
    have hpD : SqL K (upd D p (.lst ((l0 :: lr).map V.str))) p ((l0 :: lr).map V.str) := sql upd_same
    have hpH : SqL K (upd H p (.lst ((l0 :: lr).map V.str))) p ((l0 :: lr).map V.str) := sql upd_same
    revert g1 hpD hpH
    generalize (upd H p (.lst ((l0 :: lr).map V.str))) = H1
    generalize (upd D p (.lst ((l0 :: lr).map V.str))) = D1
    intro g1 hpD hpH
    have erd := readL_law l0 lr
    have hsl0 : l0.length ≤ sizeLine := by omega
    have hc8 : (cutS l0 (some 8) none).length ≤ l0.length := cutS_length _ _ _
    have bad1 : readL (l0 :: lr) = .error 1 → ∀ a, H1 a = none → Q (.ref a) (upd H1 a (.tup [.str "bad", .int 1])) := fun e a na => qe D1 _ a 1 e (g1.lay na) upd_same
    walk_at "rd"
    refine s_ix_l hpH atI_0 ?_
    walk_at "rd"
    refine s_sl_s hsl0 ?_
    walk_at "rd"
    refine jtN (fun e => ?_) (fun e1 => ?_)
    · walk_at "rd"
      exact ⟨le1000 (by simp), fun a na => bad1 (by rw [erd, if_neg fun y => e y.1]) a na⟩
    walk_at "rd"
    refine s_ix_l hpH atI_0 ?_
    walk_at "rd"
    refine s_sl_s hsl0 ?_
    walk_at "rd"
    refine ⟨_, rfl, by omega, ?_⟩
    refine s_xb ?_
    refine jtNB (fun e => ?_) (fun e2 => ?_)
    · walk_at "rd"
      exact ⟨le1000 (by simp), fun a na => bad1 (by rw [erd, if_neg fun y => by rw [y.2] at e; cases e]) a na⟩
    rw [if_pos ⟨e1, e2⟩] at erd
    have hok := ok_len e2
    walk_at "rd"
    refine s_ix_l hpH atI_0 ?_
    walk_at "rd"
    refine s_sl_s hsl0 ?_
    generalize cutS l0 (some 8) none = ls at *
    have hlsz : ls.length ≤ sizeLine := by omega
    walk_at "rd"
    have em : (if (128 : Int) < (((l0 :: lr).map V.str).length : Int) - 1 then (128 : Int) else (((l0 :: lr).map V.str).length : Int) - 1) = manyM (lr.length + 1) := by
      rw [List.length_map, List.length_cons]
      rfl
    rw [em]
    have hm128 : manyM (lr.length + 1) ≤ 128 := by
      unfold manyM
      split <;> omega
    refine ⟨Nat.zero_le _, fun rw_ nrw => ?_⟩
    have g2 := (Gr.refl (m := No) g1.sub).lay (o := .lst []) nrw
    have hD1rw : D1 rw_ = none := g1.free nrw
    walk_at "rd"
    refine ⟨Nat.zero_le _, fun el nel => ?_⟩
    have g3 := g2.lay (o := .lst []) nel
    have hD1el : D1 el = none := g2.free nel
    have hrw3 := ((Gr.refl (m := No) g2.sub).lay (o := .lst []) nel).same rw_ _ (fun z => z) upd_same
    have nH1el : H1 el = none := g2.kept _ nel
    have nre : rw_ ≠ el := fun e => by rw [← e, upd_same] at nel; cases nel
    have hp3 := g3.all.seq hpH
    have hcnt : lr.length + 1 ≤ text.length + 1 := hc
    walk_at "rd"
    have elen : (((l0 :: lr).map V.str).length : Int) = (lr.length : Int) + 1 := by simp
    refine ⟨_, _, rfl, by rw [elen]; omega, lp_it walk_range (LrI K text ls lr D1 H1 p rw_ el) ⟨D1, _, _, _, [], [], [], g3, hD1rw, hD1el, upd_same, hrw3, .nil, rfl, Nat.le_refl _, Nat.le_refl _, rfl⟩ (fun _ _ _ _ _ => trivial) ?_ ?_⟩
    · rintro i x σ H3 H4 hi ⟨D3, o6, o7, o8, R, L, vs, g, hDr, hDe, hHe, hHr, hvs, rfl, hR, hL, ego⟩ ⟨rfl, rfl⟩
      rw [elen] at hi
      have hi1 : i < lr.length := by omega
      have hln : lr[i]? = some lr[i] := List.getElem?_eq_getElem hi1
      have hll2 := hpt lr[i] (List.mem_cons_of_mem _ (List.getElem_mem hi1))
      rw [List.drop_eq_getElem_cons hi1, go_law hok.1] at ego
      generalize eln : lr[i] = ln at *
      have hp4 := g.same'.seq hpD
      dsimp only
      rw [show (1 : Int) + (i : Int) = ((i + 1 : Nat) : Int) by omega]
      walk_at "rd"
      refine s_ix_l hp4 (v := .str ln) (atI_nat (j := i + 1) (by rw [List.map_cons, List.getElem?_cons_succ, List.getElem?_map, hln]; rfl)) ?_
      refine ⟨⟨_, rfl⟩, ?_⟩
      walk_at "rd"
      refine s_split rfl (by omega) fun pp npp => ?_
      with_reducible refine s_gname ?_
      have hcs := split_count (x := ln) tl_sp (by decide)
      have hps := split_part (x := ln) tl_sp (by decide)
      have gp := ((Gr.refl (m := No) g.sub).ice (o := .lst ((Txt.split ln " ").map V.str)) npp)
      have hHe7 := gp.same el _ (fun z => z) hHe
      have hHr7 := gp.same rw_ _ (fun z => z) hHr
      have hDe7 := gp.stay hDe hHe
      have hDr7 := gp.stay hDr hHr
      have g7 := g.trans gp
      have hvs7 := Y.Dp.monoAll gp.dd hvs
      have hppD : SqL K (upd D3 pp (.lst ((Txt.split ln " ").map V.str))) pp ((Txt.split ln " ").map V.str) := sql upd_same
      revert hHe7 hHr7 hDe7 hDr7 g7 hvs7 hppD
      generalize (upd H4 pp (.lst ((Txt.split ln " ").map V.str))) = H7
      generalize (upd D3 pp (.lst ((Txt.split ln " ").map V.str))) = D7
      intro hHe7 hHr7 hDe7 hDr7 g7 hvs7 hppD
      have hppH := g7.sub.seq hppD
      revert ego hcs hps hppD hppH
      generalize Txt.split ln " " = ps
      intro ego hcs hps hppD hppH
      refine s_cut (fun σ' H8 => ∃ (D8 : Hp) (qq : Addr) (qs : List Str) (L' : List Int), Gr No D1 H1 D8 H8 ∧ D8 rw_ = none ∧ D8 el = none ∧ H8 el = some (.lst (L'.map V.int)) ∧ H8 rw_ = some (.lst vs) ∧ DpAll K D8 vs (R.map dL) ∧ L'.length ≤ i + 1 ∧
          SqL K D8 qq (qs.map V.str) ∧ qs.length ≤ ln.length + 1 ∧ (∀ q ∈ qs, q.length ≤ ln.length) ∧ σ' = [some (.str text), some (.ref p), some (.str ls), some (.int (manyM (lr.length + 1))), some (.ref rw_), some (.ref el), some (.int ((i + 1 : Nat) : Int)), some (.ref qq), o8, none] ∧
          (match rowM (manyM (lr.length + 1)) ls.length qs with
            | none => .error (i + 2)
            | some r => if 128 ≤ i then .error (i + 2) else goM (manyM (lr.length + 1)) ls.length (lr.drop (i + 1)) (i + 1) (R ++ [r]) L') = goM (manyM (lr.length + 1)) ls.length lr 0 [] []) ?_ (fun N rest => ?_)
      · rintro σ' H8 ⟨D8, qq, qs, L', g8, hDr8, hDe8, hHe8, hHr8, hvs8, hL', hqq, hqc, hql, rfl, ego8⟩
        have hq8 := g8.sub.seq hqq
        have qlen : qs.length ≤ 100001 := by omega
        walk_at "rd"
        refine ⟨qq, rfl, ⟨_, hq8⟩, fun rl nrl => lq_map walk_list (qs.map fun p => oV (entM (manyM (lr.length + 1)) p)) (by simp) (by rw [List.length_map]; exact Nat.le_trans qlen (by decide)) nrl (fun acc => ((Gr.refl (m := No) g8.sub).lay nrl).same'.seq hqq) ?_ ?_⟩
        · rintro j x acc H' N hj ⟨rfl, ex⟩ hN hlt
          rw [List.getElem?_map] at ex
          obtain ⟨pt, hpt', rfl⟩ := Option.map_eq_some_iff.mp ex
          have hpl := hql pt (List.mem_of_getElem? hpt')
          walk_at "rd"
          refine ⟨rfl, ?_⟩
          walk_at "rd"
          refine ⟨pt, _, rfl, by omega, hm128, lq_put hlt (hN _ ?_)⟩
          rw [List.getElem?_map, hpt']
          rfl
        have g9 := g8.lay (o := .lst (qs.map fun p => oV (entM (manyM (lr.length + 1)) p))) nrl
        have gl9 := (Gr.refl (m := No) g8.sub).lay (o := .lst (qs.map fun p => oV (entM (manyM (lr.length + 1)) p))) nrl
        have hHe9 := gl9.same el _ (fun z => z) hHe8
        have hHr9 := gl9.same rw_ _ (fun z => z) hHr8
        have hrlS : SqL K (upd H8 rl (.lst (qs.map fun p => oV (entM (manyM (lr.length + 1)) p)))) rl (qs.map fun p => oV (entM (manyM (lr.length + 1)) p)) := sql upd_same
        have hD8rl : D8 rl = none := (Gr.refl (m := No) g8.sub).free nrl
        have nH1rl : H1 rl = none := g8.kept _ nrl
        have ret : goM (manyM (lr.length + 1)) ls.length lr 0 [] [] = .error (i + 2) → ∀ a, (upd H8 rl (.lst (qs.map fun p => oV (entM (manyM (lr.length + 1)) p)))) a = none → Q (.ref a) (upd (upd H8 rl (.lst (qs.map fun p => oV (entM (manyM (lr.length + 1)) p)))) a (.tup [.str "bad", .int (((i + 1 : Nat) : Int) + 1)])) := by
          intro e a na
          have hne : lr ≠ [] := fun z => by rw [z] at hi1; cases hi1
          exact qe D8 _ a (i + 2) (by rw [erd, if_neg hne, e]) ((g1.trans g9).lay na) upd_same
        walk_at "rd"
        refine jtN (fun e => ?_) (fun e3 => ?_)
        · rw [List.length_map] at e
          walk_at "rd"
          refine ⟨le1000 (by simp), ret ?_⟩
          rw [← ego8, rowM, if_neg fun z => e (by rw [z])]
        have e3' : qs.length = ls.length := by
          rw [List.length_map] at e3
          omega
        rw [rowM, if_pos e3'] at ego8
        walk_at "rd"
        refine s_in_l (sql upd_same) rfl row_flat ?_
        walk_at "rd"
        refine jtB (fun e => ?_) (fun e4 => ?_)
        · walk_at "rd"
          refine ⟨le1000 (by simp), ret ?_⟩
          rw [← ego8, ents_row.1 e]
        obtain ⟨row, er, emap⟩ := ents_row.2 e4
        rw [er] at ego8
        dsimp only at ego8
        walk_at "rd"
        refine jtD (fun e => ?_) (fun e5 => ?_)
        · walk_at "rd"
          refine ⟨le1000 (by simp), ret ?_⟩
          rw [← ego8, if_pos (by omega)]
        · rw [if_neg (by omega)] at ego8
          walk_at "rd"
          refine ⟨ty_l hHr9, ?_⟩
          walk_at "rd"
          have hvl := dpl_len hvs8
          rw [List.length_map] at hvl
          refine s_append hHr9 (Nat.lt_of_lt_of_le (show vs.length < 200000 by omega) (by decide)) ?_
          walk_at "rd"
          have hnr : rw_ ≠ rl := fun z => by rw [← z, hHr8] at nrl; cases nrl
          have gC := g9.cold (upd_same) nH1rl
          have hDr10 : (upd D8 rl (.lst (qs.map fun p => oV (entM (manyM (lr.length + 1)) p)))) rw_ = none := (upd_ne hnr).trans hDr8
          have nel2 : el ≠ rl := fun z => by rw [← z, hHe8] at nrl; cases nrl
          refine ⟨_, _, _, _, R ++ [row], L', vs ++ [.ref rl], gC.put hDr10 (.inl nrw), hDr10, (upd_ne nel2).trans hDe8, (upd_ne nre.symm).trans hHe9, upd_same, ?_, rfl, ?_, hL', ego8⟩
          · rw [List.map_append]
            exact dpl_snoc (Y.Dp.monoAll (same_new hD8rl) hvs8) (dp_ofL (sql (by rw [upd_same, emap])))
          · rw [List.length_append]
            simpa using hR
      · walk_at "rd"
        refine jtD (fun e => ?_) (fun e3 => ?_)
        · have epl : ps.length = ls.length + 1 := by
            rw [List.length_map] at e
            omega
          have hj : ls.length < ps.length := by omega
          walk_at "rd"
          refine s_ix_l hppH (v := .str ps[ls.length]) (atI_nat (by rw [List.getElem?_map, List.getElem?_eq_getElem hj]; rfl)) ?_
          walk_at "rd"
          refine jtD (fun e7 => ?_) (fun e7 => ?_)
          · rw [cutL, if_pos ⟨epl, by rw [List.getElem?_eq_getElem hj, e7]⟩] at ego
            walk_at "rd"
            refine ⟨ty_l hHe7, ?_⟩
            walk_at "rd"
            refine s_append hHe7 (by rw [List.length_map]; omega) ?_
            walk_at "rd"
            have gE := g7.put (o := .lst (L.map V.int ++ [.int (((i + 1 : Nat) : Int) - 1)])) hDe7 (.inl nH1el)
            refine s_sl_l (gE.sub.seq hppD) fun qq nq => ?_
            have ecut : cutV (ps.map V.str) none (some (ls.length : Int)) = (ps.take ls.length).map V.str := by
              rw [cut_take _ _ (by rw [List.length_map]; omega), List.map_take]
            rw [ecut]
            have gq := (Gr.refl (m := No) gE.sub).ice (o := .lst ((ps.take ls.length).map V.str)) nq
            have hHe8 := gq.same el _ (fun z => z) upd_same
            have hHr8 := gq.same rw_ _ (fun z => z) ((upd_ne nre).trans hHr7)
            walk_at "rd"
            refine rest _ _ ⟨_, qq, ps.take ls.length, L ++ [(i : Int)], gE.trans gq, gq.stay hDr7 ((upd_ne nre).trans hHr7), gq.stay hDe7 upd_same, ?_, hHr8, Y.Dp.monoAll gq.dd hvs7, ?_, sql upd_same, ?_, fun q hq => hps q (List.mem_of_mem_take hq), rfl, ?_⟩
            · rw [hHe8, List.map_append, show (((i + 1 : Nat) : Int) - 1) = (i : Int) by omega]
              rfl
            · rw [List.length_append]
              simpa using hL
            · rw [List.length_take]
              omega
            · rw [← ego]
              rfl
          · rw [cutL, if_neg fun z => e7 (by
              have := z.2
              rw [List.getElem?_eq_getElem hj] at this
              exact Option.some.inj this)] at ego
            walk_at "rd"
            exact rest _ _ ⟨D7, pp, ps, L, g7, hDr7, hDe7, hHe7, hHr7, hvs7, by omega, hppD, hcs, hps, rfl, ego⟩
        · rw [cutL, if_neg fun z => e3 (by
            have := z.1
            rw [List.length_map]
            omega)] at ego
          walk_at "rd"
          exact rest _ _ ⟨D7, pp, ps, L, g7, hDr7, hDe7, hHe7, hHr7, hvs7, by omega, hppD, hcs, hps, rfl, ego⟩
    · rintro σ H3 ⟨D3, o6, o7, o8, R, L, vs, g, hDr, hDe, hHe, hHr, hvs, rfl, hR, hL, ego⟩
      rw [elen, show ((lr.length : Int) + 1 - 1).toNat = lr.length by omega, List.drop_length] at ego
      have ego' : goM (manyM (lr.length + 1)) ls.length lr 0 [] [] = .ok (R, L) := by
        rw [← ego]
        rfl
      have hvl := dpl_len hvs
      rw [List.length_map] at hvl
      have gR := (g1.trans g)
      have hrS : SqL K H3 rw_ vs := sql hHr
      walk_at "rd"
      refine jtD (fun e => ?_) (fun e3 => ?_)
      · walk_at "rd"
        refine ⟨le1000 (by simp), fun a na => ?_⟩
        have hR0 : R = [] := by
          cases R with
          | nil => rfl
          | cons _ _ =>
            simp only [List.length_cons] at hvl
            omega
        have hlr : lr = [] := Classical.byContradiction fun hne => by
          have := (good_of hne ego').2
          rw [hR0] at this
          cases lr with
          | nil => exact hne rfl
          | cons _ _ => cases this
        exact qe D3 _ a 2 (by rw [erd, if_pos hlr]) (gR.lay na) upd_same
      · have hne : lr ≠ [] := fun z => by
          rw [z] at ego'
          cases ego'
          simp only [List.length_nil] at hvl
          exact e3 (by omega)
        walk_at "rd"
        refine ⟨le1000 (by simp), fun a na => ?_⟩
        have hHrw : H rw_ = none := g1.kept _ nrw
        have hHel : H el = none := g1.kept _ nH1el
        have gB := (gR.cold hHr hHrw).cold hHe hHel
        have sC : Same (upd D3 rw_ (.lst vs)) (upd (upd D3 rw_ (.lst vs)) el (.lst (L.map V.int))) := same_new ((upd_ne nre.symm).trans hDe)
        exact qk _ _ a ls R L (.ref rw_) (.ref el) (by rw [erd, if_neg hne, ego']) (gB.lay na) upd_same (.lst (sql ((upd_ne nre).trans upd_same)) (Y.Dp.monoAll sC (Y.Dp.monoAll (same_new hDr) hvs))) (dp_ofL (sql upd_same))
end
end H90

namespace H90
open PySem PySem.Spec L2 He Y Hk90
/-! ### the law's own text is read back -/
theorem num_tab : ∀ n : Nat, n < 201 → (numS ((n : Int) - 1)).cps.toList.all (fun c => c != 10 && c != 32) = true ∧ numS ((n : Int) - 1) ≠ "end" := by decide +kernel
theorem num_back : ∀ n : Nat, n < 129 → (numS ((n : Int) - 1) = "-1" ∧ (n : Int) - 1 = -1) ∨ (numS ((n : Int) - 1) ≠ "-1" ∧ numM (numS ((n : Int) - 1)) = some ((n : Int) - 1)) := by decide +kernel
theorem ent_back {many t : Int} (h1 : -1 ≤ t) (h2 : t < many) (hm : many ≤ 128) : entM many (numS t) = some t := by
  have := num_back (t + 1).toNat (by omega)
  rw [show (((t + 1).toNat : Nat) : Int) - 1 = t by omega] at this
  rcases this with ⟨h, e⟩ | ⟨h, e⟩
  · rw [entM, if_pos h, e]
  · rw [entM, if_neg h, e]
    exact if_neg (by omega)
theorem ents_back {many : Int} (hm : many ≤ 128) : ∀ {r : List Int}, (∀ t ∈ r, -1 ≤ t ∧ t < many) → entsM many (r.map numS) = some r
  | [], _ => rfl
  | t :: r, h => by
    rw [List.map_cons, entsM_cons, ent_back (h t (List.mem_cons_self ..)).1 (h t (List.mem_cons_self ..)).2 hm, ents_back hm fun x hx => h x (List.mem_cons_of_mem _ hx)]
theorem num_free {t : Int} (h1 : -1 ≤ t) (h2 : t < 200) : 10 ∉ TL.tl (numS t) ∧ 32 ∉ TL.tl (numS t) ∧ numS t ≠ "end" := by
  have := num_tab (t + 1).toNat (by omega)
  rw [show (((t + 1).toNat : Nat) : Int) - 1 = t by omega] at this
  obtain ⟨h, e⟩ := this
  rw [List.all_eq_true] at h
  exact ⟨fun z => by simpa using h 10 z, fun z => by simpa using h 32 z, e⟩
theorem inV_ints {k : Int} : ∀ {l : List Int}, inV (.int k) (l.map V.int) = true ↔ k ∈ l
  | [] => ⟨fun (h : false = true) => (nomatch h), fun h => (nomatch h)⟩
  | x :: l => by
    have e : inV (.int k) ((x :: l).map V.int) = (decide (x = k) || inV (.int k) (l.map V.int)) := rfl
    rw [e, Bool.or_eq_true, inV_ints, List.mem_cons, decide_eq_true_eq]
    exact ⟨fun h => h.imp Eq.symm fun h => h, fun h => h.imp Eq.symm fun h => h⟩
theorem parts_free {ends : List Int} {k : Nat} {r : List Int} (h : ∀ t ∈ r, -1 ≤ t ∧ t < 200) : ∀ p ∈ partsT ends k r, 10 ∉ TL.tl p ∧ 32 ∉ TL.tl p := by
  intro p hp
  unfold partsT at hp
  rcases List.mem_append.mp hp with hp | hp
  · obtain ⟨t, ht, rfl⟩ := List.mem_map.mp hp
    have := num_free (h t ht).1 (h t ht).2
    exact ⟨this.1, this.2.1⟩
  · split at hp
    · rw [List.mem_singleton.mp hp]
      decide
    · cases hp
theorem row_split {ends : List Int} {k : Nat} {r : List Int} (hne : r ≠ []) (h : ∀ t ∈ r, -1 ≤ t ∧ t < 200) : Txt.split (rowT ends k r) " " = partsT ends k r := by
  unfold rowT
  refine TL.split_join (s := 32) (S := []) rfl (by decide +kernel) ?_ fun p hp => (parts_free h p hp).2
  unfold partsT
  cases r with
  | nil => exact absurd rfl hne
  | cons t r => simp
theorem join_free {c : Nat} {y : Str} (hy : c ∉ TL.tl y) : ∀ {ps : List (List Nat)}, (∀ p ∈ ps, c ∉ p) → c ∉ TL.joinL (TL.tl y) ps
  | [], _ => by simp [TL.joinL]
  | [p], h => h p (List.mem_singleton.mpr rfl)
  | p :: q :: r, h => by
    intro z
    have z : c ∈ p ++ (TL.tl y ++ TL.joinL (TL.tl y) (q :: r)) := z
    rcases List.mem_append.mp z with z | z
    · exact h p (List.mem_cons_self ..) z
    · rcases List.mem_append.mp z with z | z
      · exact hy z
      · exact join_free hy (fun x hx => h x (List.mem_cons_of_mem _ hx)) z
theorem row_free {ends : List Int} {k : Nat} {r : List Int} (h : ∀ t ∈ r, -1 ≤ t ∧ t < 200) : 10 ∉ TL.tl (rowT ends k r) := by
  unfold rowT
  rw [TL.join_eq, TL.tl_join]
  refine join_free (by decide) fun p hp => ?_
  obtain ⟨q, hq, rfl⟩ := List.mem_map.mp hp
  exact (parts_free h q hq).1
theorem rows_free {ends : List Int} : ∀ {rs : List (List Int)} {k : Nat}, (∀ r ∈ rs, ∀ t ∈ r, -1 ≤ t ∧ t < 200) → ∀ y ∈ rowsT ends k rs, 10 ∉ TL.tl y
  | [], _, _, y, hy => nomatch hy
  | r :: rs, k, h, y, hy => by
    rcases List.mem_cons.mp hy with hy | hy
    · rw [hy]
      exact row_free (h r (List.mem_cons_self ..))
    · exact rows_free (fun x hx => h x (List.mem_cons_of_mem _ hx)) y hy
theorem rowsT_len {ends : List Int} : ∀ {rs : List (List Int)} {k : Nat}, (rowsT ends k rs).length = rs.length
  | [], _ => rfl
  | _ :: rs, k => congrArg (· + 1) (rowsT_len (rs := rs))
theorem line_back {many : Int} {n k : Nat} {ends : List Int} {r : List Int} (hm : many ≤ 128) (hn : 1 ≤ n) (hr : r.length = n) (h : ∀ t ∈ r, -1 ≤ t ∧ t < many) :
    lineM many n (rowT ends k r) = (some r, inV (.int (k : Nat)) (ends.map V.int)) := by
  have h2 : ∀ t ∈ r, -1 ≤ t ∧ t < 200 := fun t ht => by have := h t ht; omega
  have hne : r ≠ [] := fun e => by rw [e] at hr; simp at hr; omega
  unfold lineM
  rw [row_split hne h2]
  have eb := ents_back hm h
  cases hin : inV (.int (k : Nat)) (ends.map V.int) with
  | true =>
    have ep : partsT ends k r = r.map numS ++ [("end" : Str)] := by rw [partsT, if_pos hin]
    have el : (partsT ends k r).length = n + 1 := by rw [ep, List.length_append, List.length_map, hr]; rfl
    have hlast : (partsT ends k r)[(partsT ends k r).length - 1]? = some ("end" : Str) := by
      rw [el, ep, Nat.add_sub_cancel, List.getElem?_append_right (by rw [List.length_map, hr]; exact Nat.le_refl _), List.length_map, hr, Nat.sub_self]
      rfl
    rw [if_pos ⟨by omega, hlast⟩, el, ep, Nat.add_sub_cancel, List.take_left' (by rw [List.length_map, hr]), rowM, if_pos (by rw [List.length_map, hr]), eb]
  | false =>
    have ep : partsT ends k r = r.map numS := by rw [partsT, if_neg (by rw [hin]; simp), List.append_nil]
    rw [ep, if_neg, rowM, if_pos (by rw [List.length_map, hr]), eb]
    rintro ⟨_, h4⟩
    rw [List.getElem?_map] at h4
    obtain ⟨t, ht, e⟩ := Option.map_eq_some_iff.mp h4
    have := h2 t (List.mem_of_getElem? ht)
    exact (num_free this.1 this.2).2.2 e
theorem asc_ge {n : Int} : ∀ {l : List Int} {b : Int}, asc n b l → ∀ x ∈ l, b < x
  | x :: l, b, h, y, hy => by
    obtain ⟨h1, h2, h3⟩ := h
    rcases List.mem_cons.mp hy with hy | hy
    · rw [hy]; exact h1
    · have := asc_ge h3 y hy
      omega
theorem go_back {many : Int} {n N : Nat} {ends : List Int} (hm : many ≤ 128) (hn : 1 ≤ n) (hN : N ≤ 128) : ∀ {rs : List (List Int)} {k : Nat} {R : List (List Int)} {E E' : List Int}, ends = E ++ E' → asc N ((k : Int) - 1) E' → (∀ x ∈ E, x < (k : Int)) → k + rs.length = N →
    (∀ r ∈ rs, r.length = n ∧ ∀ t ∈ r, -1 ≤ t ∧ t < many) → goM many n (rowsT ends k rs) k R E = .ok (R ++ rs, ends)
  | [], k, R, E, E', he, ha, hE, hk, h => by
    have : E' = [] := by
      cases E' with
      | nil => rfl
      | cons x r =>
        obtain ⟨h1, h2, _⟩ := ha
        simp at hk
        omega
    rw [this, List.append_nil] at he
    rw [he, List.append_nil]
    rfl
  | r :: rs, k, R, E, E', he, ha, hE, hk, h => by
    have hrow := h r (List.mem_cons_self ..)
    simp only [List.length_cons] at hk
    show goM many n (rowT ends k r :: rowsT ends (k + 1) rs) k R E = _
    rw [goM_cons, line_back hm hn hrow.1 hrow.2]
    dsimp only
    rw [if_neg (by omega)]
    have hrest : ∀ r ∈ rs, r.length = n ∧ ∀ t ∈ r, -1 ≤ t ∧ t < many := fun x hx => h x (List.mem_cons_of_mem _ hx)
    have eR : R ++ (r :: rs) = (R ++ [r]) ++ rs := by rw [List.append_assoc]; rfl
    have step : ∀ E2 E3 : List Int, ends = E2 ++ E3 → asc N (((k + 1 : Nat) : Int) - 1) E3 → (∀ x ∈ E2, x < ((k + 1 : Nat) : Int)) → goM many n (rowsT ends (k + 1) rs) (k + 1) (R ++ [r]) E2 = .ok (R ++ (r :: rs), ends) := fun E2 E3 e1 e2 e3 => by
      rw [eR]
      exact go_back hm hn hN e1 e2 e3 (by omega) hrest
    have hkk : ((k + 1 : Nat) : Int) - 1 = (k : Int) := by omega
    by_cases hin : (k : Int) ∈ ends
    · rw [if_pos (inV_ints.mpr hin)]
      have hE' : (k : Int) ∈ E' := by
        rw [he] at hin
        rcases List.mem_append.mp hin with z | z
        · have := hE _ z
          omega
        · exact z
      cases E' with
      | nil => cases hE'
      | cons x r' =>
        obtain ⟨h1, h2, h3⟩ := ha
        have hx : x = (k : Int) := by
          rcases List.mem_cons.mp hE' with z | z
          · exact z.symm
          · have := asc_ge h3 _ z
            omega
        subst hx
        refine step (E ++ [(k : Int)]) r' (by rw [he, List.append_assoc]; rfl) (by rw [hkk]; exact h3) fun y hy => ?_
        rcases List.mem_append.mp hy with hy | hy
        · have := hE y hy
          omega
        · rw [List.mem_singleton.mp hy]
          omega
    · rw [if_neg fun z => hin (inV_ints.mp z)]
      refine step E E' he ?_ fun y hy => by have := hE y hy; omega
      rw [hkk]
      cases E' with
      | nil => trivial
      | cons x r' =>
        obtain ⟨h1, h2, h3⟩ := ha
        have : x ≠ (k : Int) := fun e => hin (by rw [he, e]; exact List.mem_append_right _ (List.mem_cons_self ..))
        exact ⟨by omega, h2, h3⟩
theorem read_back {s : Str} {rows : List (List Int)} {ends : List Int} (ok : okLetters s = true) (G : Good s.length rows ends) : readM (textT s rows ends) = .ok (s, rows, ends) := by
  have hl := ok_len ok
  have h128 := G.few
  have h200 : ∀ r ∈ rows, ∀ t ∈ r, -1 ≤ t ∧ t < 200 := fun r hr t ht => by
    have := (G.row r hr).2 t ht
    omega
  have e1 : Txt.split (textT s rows ends) "\n" = linesT s rows ends := by
    unfold textT
    refine TL.split_join (s := 10) (S := []) rfl (by decide +kernel) (by simp [linesT]) fun p hp => ?_
    rcases List.mem_cons.mp hp with hp | hp
    · rw [hp, TL.tl_append]
      intro z
      rcases List.mem_append.mp z with z | z
      · revert z
        decide
      · exact ok_free ok (by decide) z
    · exact rows_free h200 p hp
  have e2 : Txt.split (("machine " : Str) ++ s) " " = [("machine" : Str), s] := by
    refine TL.map_tl_inj ?_
    rw [split_one tl_sp (by decide), TL.tl_append]
    show cutAt 32 [] (TL.tl ("machine" : Str) ++ 32 :: TL.tl s) = _
    rw [cutAt_app (by decide), cutAt_none (ok_free ok (by decide))]
    rfl
  have hne : rowsT ends 0 rows ≠ [] := fun e => by
    have := rowsT_len (ends := ends) (rs := rows) (k := 0)
    rw [e] at this
    exact G.ne (List.length_eq_zero_iff.mp this.symm)
  have hr1 : 1 ≤ rows.length := by
    have := G.ne
    cases rows with
    | nil => exact absurd rfl this
    | cons _ _ => simp
  have em : manyM ((rowsT ends 0 rows).length + 1) = (rows.length : Int) := by
    rw [rowsT_len]
    unfold manyM
    rw [if_neg (by omega)]
    omega
  have gb := go_back (ends := ends) (N := rows.length) (n := s.length) (many := rows.length) (R := []) (k := 0) (by omega) hl.1 h128 (E := []) (E' := ends) rfl (by simpa using G.asc) (fun x z => nomatch z) (Nat.zero_add _) G.row
  unfold readM
  rw [e1]
  show (match Txt.split (("machine " : Str) ++ s) " " with
    | [a, s] => _
    | _ => _) = _
  rw [e2]
  dsimp only
  rw [if_pos ⟨rfl, ok⟩, if_neg hne, em, gb]
  rfl
end H90

namespace H90
open PySem PySem.Spec L2 He Y Hk90
local macro_rules | `(tactic| walk_at "rd1") => `(tactic| first
  | with_reducible refine s_seq ?_
  | with_reducible refine s_asg ?_
  | with_reducible refine s_gname ?_
  | ((with_reducible refine s_var (v := ?_) ?_ ?_); rotate_left; exact rfl)
  | with_reducible refine s_c ?_
  | with_reducible refine s_op ?_
  | with_reducible refine s_un ?_
  | with_reducible refine s_nil ?_
  | with_reducible refine s_cons ?_
  | with_reducible refine s_CB ?_
  | with_reducible refine s_ifS ?_
  | with_reducible refine s_test ?_
  | with_reducible refine s_B ?_
  | with_reducible refine s_xb ?_
  | with_reducible refine s_xi ?_
  | with_reducible refine s_xs ?_
  | with_reducible refine s_or ?_
  | with_reducible refine s_and ?_
  | with_reducible refine s_not ?_
  | with_reducible refine s_orV ?_
  | with_reducible refine s_andV ?_
  | with_reducible refine s_notV ?_
  | with_reducible refine s_ret ?_
  | with_reducible refine s_retN ?_
  | with_reducible refine s_next ?_
  | with_reducible refine s_drop ?_
  | with_reducible refine s_yes ?_
  | with_reducible refine s_for ?_
  | with_reducible refine s_lc ?_
  | with_reducible refine s_iStr ?_
  | with_reducible refine s_iList ?_
  | with_reducible refine s_iTup ?_
  | with_reducible refine s_iR1 ?_
  | with_reducible refine s_iR2 ?_
  | with_reducible refine s_iE ?_
  | with_reducible refine s_iET ?_
  | with_reducible refine s_iES ?_
  | with_reducible refine s_tup ?_
  | with_reducible refine s_lst ?_
  | with_reducible refine s_BM ?_
  | with_reducible refine s_BM0 ?_
  | with_reducible refine s_BMS ?_
  | with_reducible refine s_M1 ?_
  | with_reducible refine s_sl ?_
  | with_reducible refine s_noP ?_
  | with_reducible refine s_po ?_
  | with_reducible refine s_call ?_
  | with_reducible refine s_callS ?_
  | with_reducible refine s_make ?_
  | with_reducible refine s_fld ?_
  | with_reducible refine s_sFld ?_
  | with_reducible refine s_rz ?_
  | with_reducible refine s_asgS ?_
  | with_reducible refine s_gSub ?_
  | with_reducible refine s_ifE ?_
  | with_reducible refine s_add_i ?_
  | with_reducible refine s_sub ?_
  | with_reducible refine s_neg ?_
  | with_reducible refine s_eq_i ?_
  | with_reducible refine s_eq_s ?_
  | with_reducible refine s_ne_i ?_
  | with_reducible refine s_ne_s ?_
  | with_reducible refine s_lt_i ?_
  | with_reducible refine s_le_i ?_
  | with_reducible refine s_gt_i ?_
  | with_reducible refine s_ge_i ?_
  | with_reducible refine s_lt_s ?_
  | with_reducible refine s_le_s ?_
  | with_reducible refine s_gt_s ?_
  | with_reducible refine s_ge_s ?_
  | with_reducible refine s_in_c ?_
  | with_reducible refine s_ni_c ?_
  | with_reducible refine s_isN ?_
  | with_reducible refine s_noN ?_
  | with_reducible refine s_abs ?_
  | with_reducible refine s_min2 ?_
  | with_reducible refine s_max2 ?_
  | with_reducible refine s_int_i ?_
  | ((with_reducible refine s_len_s ?_ ?_); assumption)
  | ((with_reducible refine s_len_l (xs := ?_) ?_ ?_); rotate_left; assumption)
  | ((with_reducible refine s_len_t (xs := ?_) ?_ ?_); rotate_left; assumption)
  | with_reducible refine s_pair upd_same ?_
  | with_reducible refine s_callS ?_
  | with_reducible refine jtT ?_
  | with_reducible refine jtF ?_
  | with_reducible refine jtNT ?_
  | with_reducible refine jtNF ?_
  | dsimp only)
local macro_rules | `(tactic| walk_at "rd") => `(tactic| repeat (walk_at "rd1"))

theorem lay_ints : ∀ ns : List Int, PyData.canLayAll0 (dIs ns) = true
  | [] => rfl
  | n :: ns => by
    show (PyData.canLay0 (.int n) && PyData.canLayAll0 (dIs ns)) = true
    rw [lay_ints ns]
    rfl
theorem dep_ints : ∀ ns : List Int, PyData.depthAll (dIs ns) = 0
  | [] => rfl
  | n :: ns => by
    show max (PyData.depth (.int n)) (PyData.depthAll (dIs ns)) = 0
    rw [dep_ints ns]
    rfl
theorem lay_T (ns : List Int) : PyData.canLay0 (dT ns) = true := by
  show PyData.canLayAll0 (dIs ns) = true
  exact lay_ints ns
theorem dep_T (ns : List Int) : PyData.depth (dT ns) = 1 := by
  show PyData.depthAll (dIs ns) + 1 = 1
  rw [dep_ints]
theorem lay_Ts : ∀ rs : List (List Int), PyData.canLayAll0 (rs.map dT) = true ∧ PyData.depthAll (rs.map dT) ≤ 1
  | [] => ⟨rfl, Nat.zero_le _⟩
  | r :: rs => by
    obtain ⟨h1, h2⟩ := lay_Ts rs
    refine ⟨?_, ?_⟩
    · show (PyData.canLay0 (dT r) && PyData.canLayAll0 (rs.map dT)) = true
      rw [lay_T, h1]
      rfl
    · show max (PyData.depth (dT r)) (PyData.depthAll (rs.map dT)) ≤ 1
      rw [dep_T]
      omega
theorem lay_TT (rs : List (List Int)) : PyData.canLay0 (dTT rs) = true := by
  show PyData.canLayAll0 (rs.map dT) = true
  exact (lay_Ts rs).1
theorem shaped_T (ns : List Int) : SeqAt.shaped (dT ns) = true := by
  unfold SeqAt.shaped
  rw [lay_T, dep_T]
  rfl
theorem shaped_TT (rs : List (List Int)) : SeqAt.shaped (dTT rs) = true := by
  unfold SeqAt.shaped
  rw [lay_TT, Bool.true_and, decide_eq_true_eq]
  show PyData.depthAll (rs.map dT) + 1 ≤ 64
  have := (lay_Ts rs).2
  omega
section
variable {P : Program} {w : World} {K : PySem.W.Frag} {mg : Str → Option Value} {base : Heap}
theorem S_law_same : FnScope ["machine", "letters", "rows", "ends", "row"] ["machine", "letters", "rows", "ends"] (d_law_same).scope := ⟨rfl, rfl, rfl, by decide +kernel, rfl, by decide +kernel, by decide +kernel⟩
def sp_law_same (K : PySem.W.Frag) : Sp := fun vs H Q E => ∃ (D : Hp) (m u v : V) (s : Str) (rows : List (List Int)) (ends : List Int), vs = [m, .str s, u, v] ∧ Same D H ∧ IsM K D m s rows ends ∧ Dp K D u (dLL rows) ∧ Dp K D v (dL ends) ∧ rows.length ≤ 200 ∧ ∀ D' H', Gr No D H D' H' → Q (.bl true) H'
theorem w_law_same (T : Txt P w K mg) : Has P w K mg base 3 "_law_same" (sp_law_same K) := by
  have S := S_law_same
  refine has_of (k := 2) T.d_law_same T.gd_law_same S (fun _ _ _ _ _ _ us hl => match us, hl with | [_, _, _, _], _ => rfl) (fun vs H Q E h => ?_) (fun f cdv A outer s H vs Q E hr h => ?_)
  · obtain ⟨D, m, u, v, s, rows, ends, rfl, _⟩ := h
    rfl
  · obtain ⟨D, m, u, v, z, rows, ends, rfl, sm, M, du, dv, hlen, q⟩ := h
    obtain ⟨a, dx, vp, vq, rfl, ha, dp, dq⟩ := M
    obtain ⟨ru, xs, rfl, hu, hxs⟩ := dp_list du
    obtain ⟨rv, rfl, hv⟩ := dp_L dv
    have hl : xs.length = rows.length := by rw [dpl_len hxs, List.length_map]
    refine ⟨_, (pss_cons (ps_if (PW.pt (pw_or (pt_not (pt_val (pe_callB call_isi (by rfl) T.b_isinstance (by decide +kernel) (pa_cons (pv 0) (pa_cons (pe_gC rfl T.g_Machine) pa_nil))))) (pw_or1 (pt_cmpR (cK_ne K hr.units) (peK_fld K (pv 0) rfl) (pv 1) (nomark _)))))
      (pss_one (ps_ret pe_bl))
      pss_nil)
    (pss_one (ps_ret (pe_and (pe_cmpR (cK_eq K hr.units) (peK_fld K (pv 0) rfl) (pe_callTy (bK_tuple K) (by rfl) T.b_tuple (by decide +kernel) (pa_cons (pe_lc (own := [("row", 4)]) (by rfl) S.nd (piK_list K (pv 2)) (blkOk_by (by rfl)) (fun _ _ _ _ _ => (pg_name (i := 4) S.nd rfl (Or.inl rfl))) (fun _ _ _ _ _ => pts_nil) (fun _ _ _ _ _ => (pe_callTy (bK_tuple K) (by rfl) T.b_tuple (by decide +kernel) (pa_cons (pv 4) pa_nil)))) pa_nil)) (nomark _)) (pe_one (pe_cmpR (cK_eq K hr.units) (peK_fld K (pv 0) rfl) (pe_callTy (bK_tuple K) (by rfl) T.b_tuple (by decide +kernel) (pa_cons (pv 3) pa_nil)) (nomark _))))))), ?_⟩
    have haH := sm _ _ ha
    walk_at "rd"
    refine ⟨.ref a, .ref (ga K "Machine"), .ref (ga K "Machine"), .ref (ga K "Machine"), true, rfl, .own _, .base (.ins haH T.cl_Machine T.o_Machine.ha T.o_Machine.hn T.o_Machine.ht T.o_Machine.hm), ?_, ?_⟩
    · exact T.kit_Machine_Machine
    walk_at "rd"
    refine ⟨a, _, _, _, _, rfl, haH, T.cl_Machine, T.na_Machine_letters, rfl, ?_⟩
    walk_at "rd"
    refine jtN (fun e => absurd rfl e) (fun _ => ?_)
    walk_at "rd"
    refine ⟨a, _, _, _, _, rfl, haH, T.cl_Machine, T.na_Machine_arrows, rfl, ?_⟩
    walk_at "rd"
    have huH := sm.seq hu
    have g0 := Gr.refl (m := No) sm
    refine ⟨ru, rfl, ⟨_, huH⟩, fun p np => lq_gr (m := No) walk_list D (fun i acc D2 => DpAll K D2 acc ((rows.take i).map dT)) np sm .nil (fun D3 H3 g3 => g3.same'.seq hu) ?_ ?_⟩
    · rintro i x' acc D3 H3 H4 hi g3 hp hDp hR ⟨rfl, ex⟩
      obtain ⟨d, hd, hx'⟩ := dpl_get hxs ex
      rw [List.getElem?_map] at hd
      obtain ⟨r, hr, rfl⟩ := Option.map_eq_some_iff.mp hd
      obtain ⟨b, rfl, hb2⟩ := dp_L hx'
      walk_at "rd"
      refine ⟨rfl, ?_⟩
      walk_at "rd"
      refine s_tup_l (sql_up g3 hb2) fun l nl => lc_put np (fun z => z) g3 hp hDp ((Gr.refl g3.sub).ice nl) ?_ ?_
      · rw [dpl_len hR, List.length_map, List.length_take]
        exact small1000 (Nat.le_trans (Nat.min_le_right _ _) (Nat.le_trans hlen (by decide)))
      · rw [List.take_add_one, hr, List.map_append]
        refine dpl_snoc (Y.Dp.monoAll ((Gr.refl (m := No) g3.sub).ice nl).dd hR) (dp_ofT (sqt upd_same))
    · intro acc D3 H3 g3 hp hDp hR
      rw [hl, List.take_length] at hR
      walk_at "rd"
      refine s_tup_l (sql hp) fun l nl => ?_
      have g4 := g3.ice (o := .tup acc) nl
      have dA : Dp K (upd D3 l (.tup acc)) (.ref l) (dTT rows) := .tup (sqt upd_same) (Y.Dp.monoAll ((Gr.refl (m := No) g3.sub).ice nl).dd hR)
      refine s_eq_d (dp_heap g4 (dp_up g4 dp)) (dp_heap g4 dA) (shaped_TT rows) (shaped_TT rows) ?_
      rw [SeqAt.eqv_refl _ (lay_TT rows)]
      walk_at "rd"
      refine ⟨a, _, _, _, _, rfl, g4.same' _ _ ha, T.cl_Machine, T.na_Machine_ends, rfl, ?_⟩
      walk_at "rd"
      refine s_tup_l (sql_up g4 hv) fun l2 nl2 => ?_
      have g5 := g4.ice (o := .tup (ends.map V.int)) nl2
      refine s_eq_d (dp_heap g5 (dp_up g5 dq)) (dp_ofT (sqt upd_same)) (shaped_T ends) (shaped_T ends) ?_
      rw [SeqAt.eqv_refl _ (lay_T ends)]
      exact q _ _ g5
theorem S_law_refused : FnScope ["text", "line", "e"] ["text", "line"] (d_law_refused).scope := ⟨rfl, rfl, rfl, by decide +kernel, rfl, by decide +kernel, by decide +kernel⟩
def sp_law_refused (K : PySem.W.Frag) : Sp := fun vs H Q E => ∃ (D : Hp) (t : Str) (k : Nat), vs = [.str t, .int k] ∧ t.length ≤ 100000 ∧ Same D H ∧ readM t = .error k ∧ ∀ H', Q (.bl true) H'
theorem w_law_refused (T : Txt P w K mg) : Has P w K mg base 7 "_law_refused" (sp_law_refused K) := by
  have S := S_law_refused
  have G_read_machine := w_read_machine (base := base) T
  refine has_of (k := 6) T.d_law_refused T.gd_law_refused S (fun _ _ _ _ _ _ us hl => match us, hl with | [_, _], _ => rfl) (fun vs H Q E h => ?_) (fun f cdv A outer s H vs Q E hr h => ?_)
  · obtain ⟨D, t, k, rfl, _⟩ := h
    rfl
  · obtain ⟨D, t, k, rfl, ht, sm, hk, q⟩ := h
    refine ⟨_, (pss_cons (ps_try_as (i := 2) rfl rfl S.nd rfl rfl ⟨rfl, by decide, Or.inl T.g_LanguageError⟩ (takes_of rfl rfl rfl rfl)
      (fun W pn xe tk po => (pss_one (ps_expr (pe_has G_read_machine (hr.mono (by decide)) tk rfl (pa_cons (pv 0) pa_nil)))))
      (fun a oe cls d pn hz hf => (pss_one (ps_ret (pe_and (pe_callB (call_isX hz hf) (by rfl) T.b_isinstance (by decide +kernel) (pa_cons (pv 2) (pa_cons (pe_gC rfl T.g_BadText) pa_nil))) (pe_and (pe_not (pe_callB (call_isX hz hf) (by rfl) T.b_isinstance (by decide +kernel) (pa_cons (pv 2) (pa_cons (pe_gC rfl T.g_BadMachine) pa_nil)))) (pe_one (pe_cmpR (cK_eq K hr.units) (pe_xfE hz hf (pv 2)) (pv 1) (nomark _)))))))))
    (pss_one (ps_ret pe_bl))), ?_⟩
    walk_at "rd"
    refine ⟨D, t, rfl, ht, sm, fun D' H' v s R L e => (by rw [hk] at e; cases e), fun D' H' d k' e g nd => ?_⟩
    rw [hk] at e
    cases e
    refine ⟨true, T.exm_BadText_LanguageError, fun _ a na => ?_, fun z => nomatch z⟩
    walk_at "rd"
    refine ⟨ga K "BadText", _, .ref (ga K "BadText"), true, rfl, T.e_BadText.e, rfl, .own _, T.kit_BadText_BadText, ⟨_, upd_same⟩, ?_⟩
    walk_at "rd"
    refine ⟨ga K "BadText", _, .ref (ga K "BadMachine"), false, rfl, T.e_BadText.e, rfl, .own _, T.kit_BadText_BadMachine, ⟨_, upd_same⟩, ?_⟩
    walk_at "rd"
    refine ⟨_, rfl, ga K "BadText", rfl, T.e_BadText.x, T.no_BadText_line, rfl, d, _, _, rfl, upd_same, rfl, ?_⟩
    walk_at "rd"
    rw [decide_eq_true rfl]
    exact q _
end
end H90

namespace H90
open PySem PySem.Spec L2 He Y Hk90
local macro_rules | `(tactic| walk_at "rd1") => `(tactic| first
  | with_reducible refine s_seq ?_
  | with_reducible refine s_asg ?_
  | with_reducible refine s_gname ?_
  | ((with_reducible refine s_var (v := ?_) ?_ ?_); rotate_left; exact rfl)
  | with_reducible refine s_c ?_
  | with_reducible refine s_op ?_
  | with_reducible refine s_un ?_
  | with_reducible refine s_nil ?_
  | with_reducible refine s_cons ?_
  | with_reducible refine s_CB ?_
  | with_reducible refine s_ifS ?_
  | with_reducible refine s_test ?_
  | with_reducible refine s_B ?_
  | with_reducible refine s_xb ?_
  | with_reducible refine s_xi ?_
  | with_reducible refine s_xs ?_
  | with_reducible refine s_or ?_
  | with_reducible refine s_and ?_
  | with_reducible refine s_not ?_
  | with_reducible refine s_orV ?_
  | with_reducible refine s_andV ?_
  | with_reducible refine s_notV ?_
  | with_reducible refine s_ret ?_
  | with_reducible refine s_retN ?_
  | with_reducible refine s_next ?_
  | with_reducible refine s_drop ?_
  | with_reducible refine s_yes ?_
  | with_reducible refine s_for ?_
  | with_reducible refine s_lc ?_
  | with_reducible refine s_iStr ?_
  | with_reducible refine s_iList ?_
  | with_reducible refine s_iTup ?_
  | with_reducible refine s_iR1 ?_
  | with_reducible refine s_iR2 ?_
  | with_reducible refine s_iE ?_
  | with_reducible refine s_iET ?_
  | with_reducible refine s_iES ?_
  | with_reducible refine s_tup ?_
  | with_reducible refine s_lst ?_
  | with_reducible refine s_BM ?_
  | with_reducible refine s_BM0 ?_
  | with_reducible refine s_BMS ?_
  | with_reducible refine s_M1 ?_
  | with_reducible refine s_sl ?_
  | with_reducible refine s_noP ?_
  | with_reducible refine s_po ?_
  | with_reducible refine s_call ?_
  | with_reducible refine s_callS ?_
  | with_reducible refine s_make ?_
  | with_reducible refine s_fld ?_
  | with_reducible refine s_sFld ?_
  | with_reducible refine s_rz ?_
  | with_reducible refine s_asgS ?_
  | with_reducible refine s_gSub ?_
  | with_reducible refine s_ifE ?_
  | with_reducible refine s_add_i ?_
  | with_reducible refine s_sub ?_
  | with_reducible refine s_neg ?_
  | with_reducible refine s_eq_i ?_
  | with_reducible refine s_eq_s ?_
  | with_reducible refine s_ne_i ?_
  | with_reducible refine s_ne_s ?_
  | with_reducible refine s_lt_i ?_
  | with_reducible refine s_le_i ?_
  | with_reducible refine s_gt_i ?_
  | with_reducible refine s_ge_i ?_
  | with_reducible refine s_lt_s ?_
  | with_reducible refine s_le_s ?_
  | with_reducible refine s_gt_s ?_
  | with_reducible refine s_ge_s ?_
  | with_reducible refine s_in_c ?_
  | with_reducible refine s_ni_c ?_
  | with_reducible refine s_isN ?_
  | with_reducible refine s_noN ?_
  | with_reducible refine s_abs ?_
  | with_reducible refine s_min2 ?_
  | with_reducible refine s_max2 ?_
  | with_reducible refine s_int_i ?_
  | ((with_reducible refine s_len_s ?_ ?_); assumption)
  | ((with_reducible refine s_len_l (xs := ?_) ?_ ?_); rotate_left; assumption)
  | ((with_reducible refine s_len_t (xs := ?_) ?_ ?_); rotate_left; assumption)
  | with_reducible refine s_pair upd_same ?_
  | with_reducible refine s_callS ?_
  | with_reducible refine jtT ?_
  | with_reducible refine jtF ?_
  | with_reducible refine jtNT ?_
  | with_reducible refine jtNF ?_
  | dsimp only)
local macro_rules | `(tactic| walk_at "rd") => `(tactic| repeat (walk_at "rd1"))

theorem rows_len20 {ends : List Int} : ∀ {rs : List (List Int)} {k : Nat}, (∀ r ∈ rs, r.length ≤ 4 ∧ ∀ t ∈ r, -1 ≤ t ∧ t < 200) → ∀ y ∈ rowsT ends k rs, y.length ≤ 20
  | [], _, _, y, hy => nomatch hy
  | r :: rs, k, h, y, hy => by
    rcases List.mem_cons.mp hy with hy | hy
    · rw [hy]
      exact row_small (h r (List.mem_cons_self ..))
    · exact rows_len20 (fun x hx => h x (List.mem_cons_of_mem _ hx)) y hy
theorem read_few {t s : Str} {R : List (List Int)} {L : List Int} (h : readM t = .ok (s, R, L)) : R.length ≤ 200 := by
  unfold readM at h
  cases e : Txt.split t "\n" with
  | nil => rw [e] at h; cases h
  | cons l0 lr =>
    rw [e, readL_law] at h
    split at h
    · split at h
      · cases h
      · rename_i hne
        split at h
        · cases h
        · rename_i R' E' hg
          cases h
          have := (good_of hne hg).1.few
          omega
    · cases h
theorem text_len {s : Str} {rows : List (List Int)} {ends : List Int} (h : Small s rows) : (textT s rows ends).length ≤ 4000 := by
  have h4 := h.s4
  have h130 := h.few
  have hl : ∀ y ∈ linesT s rows ends, y.length ≤ 20 := fun y hy => by
    rcases List.mem_cons.mp hy with hy | hy
    · rw [hy, app_len]
      have : ("machine " : Str).length = 8 := rfl
      omega
    · exact rows_len20 h.row y hy
  have := join_len (y := "\n") hl
  have e : ("\n" : Str).length = 1 := rfl
  have el : (linesT s rows ends).length = rows.length + 1 := congrArg (· + 1) rowsT_len
  rw [e, el] at this
  unfold textT
  omega
section
variable {P : Program} {w : World} {K : PySem.W.Frag} {mg : Str → Option Value} {base : Heap}
theorem S_law : FnScope ["script", "state", "letters", "size", "rows", "ends", "text", "due", "machine", "k", "row"] ["script"] (d_law).scope := ⟨rfl, rfl, rfl, by decide +kernel, rfl, by decide +kernel, by decide +kernel⟩
def sp_law (K : PySem.W.Frag) : Sp := fun vs H Q _ => ∃ (a : Addr) (ns : List Int), vs = [.ref a] ∧ SqL K H a (ns.map V.int) ∧ ns.length ≤ 63 ∧ ∀ H', Q (.bl true) H'
structure LwI (K : PySem.W.Frag) (D1 H1 : Hp) (st a : Addr) (s : Str) (lo hi : Nat) (σ : L2.St) (H : Hp) : Prop where
  ex : ∃ (D : Hp) (n : Nat), Gr (· = st) D1 H1 D H ∧ Stt K D H st ∧ lo ≤ n ∧ n ≤ hi ∧ σ = [some (.ref a), some (.ref st), some (.str s), some (.int (n : Nat)), none, none, none, none, none, none, none]
theorem w_law (T : Txt P w K mg) {fd : FuncData} (F : FunD K Hk90.d_law.name Hk90.d_law.qual Hk90.d_law.params Hk90.d_law.body Hk90.d_law.scope [] [] (fAd K Hk90.d_law.at_) fd) : FnOk P w K mg base (L2.CX P w) 8 (fAd K Hk90.d_law.at_) fd ["script"] (sp_law K) := by
  have S := S_law
  have G_law_start := w_law_start (base := base) T
  have G_law_next := w_law_next (base := base) T
  have G_law_rows := w_law_rows (base := base) T
  have G_law_text := w_law_text (base := base) T
  have G_Machine := w_Machine (base := base) T
  have G_machine_text := w_machine_text (base := base) T
  have G_law_same := w_law_same (base := base) T
  have G_read_machine := w_read_machine (base := base) T
  have G_law_spoilt := w_law_spoilt (base := base) T
  have G_law_read := w_law_read (base := base) T
  have G_law_refused := w_law_refused (base := base) T
  refine F.ok (k := 7) S (fun vs H Q E h => ?_) (fun cdv A outer s H vs Q E hr h => ?_)
  · obtain ⟨a, ns, rfl, _⟩ := h
    rfl
  · obtain ⟨a, ns, rfl, ha, hns, q⟩ := h
    refine ⟨_, (pss_cons (ps_set (i := 1) S.nd rfl (Or.inr rfl) (pe_has G_law_start (hr.mono (by decide)) (takes_of rfl rfl rfl rfl) rfl (pa_cons (pv 0) pa_nil)))
    (pss_cons (ps_set (i := 2) S.nd rfl (Or.inl rfl) (pe_ix (ixK_seq K) (pe_lst (pa_cons pe_str (pa_cons pe_str (pa_cons pe_str (pa_cons pe_str (pa_cons pe_str (pa_cons pe_str pa_nil))))))) (pe_has G_law_next (hr.mono (by decide)) (takes_of rfl rfl rfl rfl) rfl (pa_cons (pv 1) (pa_cons pe_int pa_nil))) (fun _ _ => rfl)))
    (pss_cons (ps_set (i := 3) S.nd rfl (Or.inl rfl) (pe_op (oK_add K) pe_int (pe_has G_law_next (hr.mono (by decide)) (takes_of rfl rfl rfl rfl) rfl (pa_cons (pv 1) (pa_cons pe_int pa_nil)))))
    (pss_cons (ps_if (pt_cmpR (cK_eq K hr.units) (pe_has G_law_next (hr.mono (by decide)) (takes_of rfl rfl rfl rfl) rfl (pa_cons (pv 1) (pa_cons pe_int pa_nil))) pe_int (nomark _))
      (pss_one (ps_set (i := 3) S.nd rfl (Or.inl rfl) (pe_op (oK_add K) pe_int (pe_has G_law_next (hr.mono (by decide)) (takes_of rfl rfl rfl rfl) rfl (pa_cons (pv 1) (pa_cons pe_int pa_nil))))))
      pss_nil)
    (pss_cons (ps_if (pt_cmpR (cK_eq K hr.units) (pe_has G_law_next (hr.mono (by decide)) (takes_of rfl rfl rfl rfl) rfl (pa_cons (pv 1) (pa_cons pe_int pa_nil))) pe_int (nomark _))
      (pss_one (ps_set (i := 3) S.nd rfl (Or.inl rfl) (pe_op (oK_add K) pe_int (pe_has G_law_next (hr.mono (by decide)) (takes_of rfl rfl rfl rfl) rfl (pa_cons (pv 1) (pa_cons pe_int pa_nil))))))
      pss_nil)
    (pss_cons (ps_set (i := 4) S.nd rfl (Or.inl rfl) (pe_has G_law_rows (hr.mono (by decide)) (takes_of rfl rfl rfl rfl) rfl (pa_cons (pv 1) (pa_cons (pv 2) (pa_cons (pv 3) pa_nil)))))
    (pss_cons (ps_setLc (i := 5) (own := [("k", 9)]) rfl S.nd rfl rfl (sw_true rfl rfl rfl (by decide +kernel)) (pi_range1 (by rfl) T.b_range (pa_cons (pv 3) pa_nil)) (blkOk_by (by rfl)) (fun _ _ _ _ _ => (pg_name (i := 9) S.nd rfl (Or.inl rfl))) (fun _ _ _ _ _ => pts_one (pt_cmpR (cK_eq K hr.units) (pe_has G_law_next (hr.mono (by decide)) takes0 rfl (pa_cons (pv 1) (pa_cons pe_int pa_nil))) pe_int (nomark _))) (fun _ _ _ _ _ => (pv 9)))
    (pss_cons (ps_set (i := 6) S.nd rfl (Or.inl rfl) (pe_has G_law_text (hr.mono (by decide)) (takes_of rfl rfl rfl rfl) rfl (pa_cons (pv 2) (pa_cons (pv 4) (pa_cons (pv 5) pa_nil)))))
    (pss_cons (ps_if (pt_cmpR c_lt (pv 3) pe_int (nomark _))
      (pss_cons (ps_set (i := 8) S.nd rfl (Or.inl rfl) (pe_mk' G_Machine (hr.mono (by decide)) rfl (pa_cons (pv 2) (pa_cons (pe_lc (own := [("row", 10)]) (by rfl) S.nd (piK_list K (pv 4)) (blkOk_by (by rfl)) (fun _ _ _ _ _ => (pg_name (i := 10) S.nd rfl (Or.inl rfl))) (fun _ _ _ _ _ => pts_nil) (fun _ _ _ _ _ => (pe_callTy (bK_list K) (by rfl) T.b_list (by decide +kernel) (pa_cons (pv 10) pa_nil)))) (pa_cons (pe_callTy (bK_list K) (by rfl) T.b_list (by decide +kernel) (pa_cons (pv 5) pa_nil)) pa_nil)))))
    (pss_cons (ps_if (pt_cmpR (cK_ne K hr.units) (pe_has G_machine_text (hr.mono (by decide)) (takes_of rfl rfl rfl rfl) rfl (pa_cons (pv 8) pa_nil)) (pv 6) (nomark _))
      (pss_one (ps_ret pe_bl))
      pss_nil)
    (pss_one (ps_if (pt_not (pt_val (pe_has G_law_same (hr.mono (by decide)) (takes_of rfl rfl rfl rfl) rfl (pa_cons (pe_has G_read_machine (hr.mono (by decide)) (takes_of rfl rfl rfl rfl) rfl (pa_cons (pv 6) pa_nil)) (pa_cons (pv 2) (pa_cons (pv 4) (pa_cons (pv 5) pa_nil)))))))
      (pss_one (ps_ret pe_bl))
      pss_nil))))
      pss_nil)
    (pss_cons (ps_if (pt_cmpR c_gt (pe_has G_law_next (hr.mono (by decide)) (takes_of rfl rfl rfl rfl) rfl (pa_cons (pv 1) (pa_cons pe_int pa_nil))) pe_int (nomark _))
      (pss_one (ps_set (i := 6) S.nd rfl (Or.inl rfl) (pe_has G_law_spoilt (hr.mono (by decide)) (takes_of rfl rfl rfl rfl) rfl (pa_cons (pv 1) (pa_cons (pv 6) pa_nil)))))
      pss_nil)
    (pss_cons (ps_set (i := 7) S.nd rfl (Or.inl rfl) (pe_has G_law_read (hr.mono (by decide)) (takes_of rfl rfl rfl rfl) rfl (pa_cons (pv 6) pa_nil)))
    (pss_cons (ps_if (pt_cmpR (cK_eq K hr.units) (pe_ix (ixK_seq K) (pv 7) pe_int (fun _ _ => rfl)) pe_str (nomark _))
      (pss_one (ps_ret (pe_has G_law_refused (hr.mono (by decide)) (takes_of rfl rfl rfl rfl) rfl (pa_cons (pv 6) (pa_cons (pe_ix (ixK_seq K) (pv 7) pe_int (fun _ _ => rfl)) pa_nil)))))
      pss_nil)
    (pss_one (ps_ret (pe_has G_law_same (hr.mono (by decide)) (takes_of rfl rfl rfl rfl) rfl (pa_cons (pe_has G_read_machine (hr.mono (by decide)) (takes_of rfl rfl rfl rfl) rfl (pa_cons (pv 6) pa_nil)) (pa_cons (pe_ix (ixK_seq K) (pv 7) pe_int (fun _ _ => rfl)) (pa_cons (pe_ix (ixK_seq K) (pv 7) pe_int (fun _ _ => rfl)) (pa_cons (pe_ix (ixK_seq K) (pv 7) pe_int (fun _ _ => rfl)) pa_nil))))))))))))))))))), ?_⟩
    walk_at "rd"
    refine ⟨a, ns, rfl, ha, hns, fun D1 H1 st g1 X1 nst => ?_⟩
    walk_at "rd"
    refine ⟨le1000 (by simp), fun p np => ?_⟩
    have nps : p ≠ st := fun e => X1.is (e ▸ np)
    have g2 := (Gr.refl (m := (· = st)) g1.sub).lay (o := .lst [.str "ab", .str "a", .str "abc", .str "bd", .str "acz", .str "abcd"]) np
    walk_at "rd"
    refine ⟨D1, st, _, rfl, by decide, by decide, g2.sub, X1.put nps, fun D3 H3 r g3 X3 r0 r1 => ?_⟩
    obtain ⟨z, ez, okz⟩ : ∃ z : Str, atI [V.str "ab", .str "a", .str "abc", .str "bd", .str "acz", .str "abcd"] r = some (.str z) ∧ okLetters z = true := by
      have hr : r = 0 ∨ r = 1 ∨ r = 2 ∨ r = 3 ∨ r = 4 ∨ r = 5 := by omega
      rcases hr with rfl | rfl | rfl | rfl | rfl | rfl <;> exact ⟨_, rfl, by decide +kernel⟩
    refine s_ix_l (sql (g3.same p _ nps upd_same)) ez ?_
    have hzl := ok_len okz
    with_reducible refine s_gname ?_
    have gA := g2.trans g3
    walk_at "rd"
    refine ⟨D3, st, _, rfl, by decide, by decide, g3.sub, X3, fun D4 H4 r g4 X4 r0 r1 => ?_⟩
    have gB := gA.trans g4
    refine s_add_i ?_
    with_reducible refine s_gname ?_
    refine s_cut (LwI K D1 H1 st a z 1 40) ?_ (fun N rest => ?_)
    · rintro σ' H5 ⟨D5, n, g5, X5, n0, n1, rfl⟩
      refine s_cut (LwI K D1 H1 st a z 1 130) ?_ (fun N rest => ?_)
      · rintro σ' H6 ⟨D6, n, g6, X6, n0, n1, rfl⟩
        walk_at "rd"
        refine ⟨D6, st, z, n, rfl, hzl.2, n1, g6.sub, X6, fun D7 H7 v7 rows g7 X7 dR hRl hRr => ?_⟩
        have gC := g6.trans g7
        walk_at "rd"
        refine ⟨_, rfl, by omega, by omega, fun p np => ?_⟩
        have nps : p ≠ st := fun e => X7.is (e ▸ np)
        refine lc_it walk_r0 (fun i H => ∃ (D2 : Hp) (E : List Int), Gr (· = st) D7 H7 D2 H ∧ Stt K D2 H st ∧ H p = some (.lst (E.map V.int)) ∧ D2 p = none ∧ E.length ≤ i ∧ E.Pairwise (· < ·) ∧ ∀ x ∈ E, -1 < x ∧ x < (i : Int))
          ⟨D7, [], (Gr.refl g7.sub).lay np, X7.put nps, upd_same, g7.free np, Nat.le_refl _, List.Pairwise.nil, fun x z => nomatch z⟩ (fun _ _ _ _ => trivial) ?_ ?_
        · rintro i x H8 H9 hi ⟨D8, E, g8, X8, hE, hDp, hEl, hpw, hb⟩ ⟨rfl, rfl⟩
          have hi2 : i < n := by omega
          walk_at "rd"
          refine ⟨rfl, ?_⟩
          walk_at "rd"
          refine ⟨D8, st, _, rfl, by decide, by decide, g8.sub, X8, fun D10 H10 r g10 X10 r0 r1 => ?_⟩
          have hE10 := g10.same p _ nps hE
          have hD10 := g10.stay hDp hE
          walk_at "rd"
          refine jtD (fun e => ?_) (fun e => ?_)
          · walk_at "rd"
            refine ⟨_, hE10, by rw [List.length_map]; exact small1000 (by omega), D10, E ++ [(i : Int)], (g8.trans g10).put hD10 (.inl np), X10.put nps, ?_, hD10, ?_, ?_, ?_⟩
            · rw [upd_same, List.map_append]
              rfl
            · rw [List.length_append]
              simpa using hEl
            · rw [List.pairwise_append]
              exact ⟨hpw, List.pairwise_singleton _ _, fun a ha b hb' => by rw [List.mem_singleton.mp hb']; exact (hb a ha).2⟩
            · intro x hx
              rcases List.mem_append.mp hx with hx | hx
              · have := hb x hx
                omega
              · rw [List.mem_singleton.mp hx]
                omega
          · exact ⟨D10, E, g8.trans g10, X10, hE10, hD10, by omega, hpw, fun x hx => by have := hb x hx; omega⟩
        · rintro H8 ⟨D8, ends, g8, X8, hE, hDp, hEl, hpw, hb⟩
          rw [show ((n : Nat) : Int).toNat = n from Int.toNat_natCast n] at hEl hb
          have gD := (gC.trans g8).cold hE (gC.kept _ np)
          have XD := X8.frz (o := .lst (ends.map V.int)) nps hDp
          have dE : Dp K (upd D8 p (.lst (ends.map V.int))) (.ref p) (dL ends) := dp_ofL (sql upd_same)
          have dR8 : Dp K (upd D8 p (.lst (ends.map V.int))) v7 (dLL rows) := Y.Dp.mono (same_new hDp) (dp_up g8 dR)
          revert gD XD dE dR8
          generalize (upd D8 p (.lst (ends.map V.int))) = D9
          intro gD XD dE dR8
          have hsmall : Small z rows := ⟨hzl.2, by omega, fun r hr => by
            have := hRr.row r hr
            exact ⟨by omega, fun t ht => by have := this.2 t ht; omega⟩⟩
          have hasc : asc (n : Int) (-1) ends := asc_of hpw hb
          walk_at "rd"
          refine ⟨D9, z, _, _, rows, ends, rfl, gD.sub, dR8, dE, hsmall, fun D10 H10 g10 => ?_⟩
          have gE := gD.trans g10.no
          have XE := XD.up g10
          have dE10 := dp_up g10 dE
          have dR10 := dp_up g10 dR8
          have htl := text_len (ends := ends) hsmall
          obtain ⟨ra, xs, rfl, hra, hxs⟩ := dp_list dR10
          obtain ⟨pe, epe, hpe⟩ := dp_L dE10
          cases epe
          have hxl : xs.length = rows.length := by rw [dpl_len hxs, List.length_map]
          with_reducible refine s_gname ?_
          refine s_cut (fun σ' H => ∃ (D : Hp) (o8 : Option V), Gr (· = st) D1 H1 D H ∧ Stt K D H st ∧ σ' = [some (.ref a), some (.ref st), some (.str z), some (.int (n : Nat)), some (.ref ra), some (.ref p), some (.str (textT z rows ends)), none, o8, none, none]) ?_ (fun N rest => ?_)
          · rintro σ' H11 ⟨D11, o8, g11, X11, rfl⟩
            refine s_cut (fun σ' H => ∃ (D : Hp) (t : Str), Same D H ∧ t.length ≤ 100000 ∧ σ' = [some (.ref a), some (.ref st), some (.str z), some (.int (n : Nat)), some (.ref ra), some (.ref p), some (.str t), none, o8, none, none]) ?_ (fun N rest => ?_)
            · rintro σ' H14 ⟨D14, t, s14, ht, rfl⟩
              walk_at "rd"
              refine ⟨D14, t, rfl, ht, s14, fun D15 H15 a5 s' R L v1 v2 e g15 hA d1 d2 => ?_, fun D15 H15 a5 k e g15 hA => ?_⟩
              · walk_at "rd"
                refine s_ix_t (sqt hA) atI_0 ?_
                walk_at "rd"
                refine jtD (fun e => absurd e (by decide)) (fun _ => ?_)
                walk_at "rd"
                refine ⟨D15, t, rfl, ht, g15.sub, fun D16 H16 v s'' R'' L'' e' g16 M => ?_, fun D' H' d k e' => by rw [e] at e'; cases e'⟩
                rw [e] at e'
                cases e'
                have hA6 := g16.same a5 _ (fun z => z) hA
                walk_at "rd"
                refine s_ix_t (sqt hA6) (atI_i (j := 1) rfl rfl) ?_
                walk_at "rd"
                refine s_ix_t (sqt hA6) (atI_i (j := 2) rfl rfl) ?_
                walk_at "rd"
                refine s_ix_t (sqt hA6) (atI_i (j := 3) rfl rfl) ?_
                walk_at "rd"
                exact ⟨D16, v, v1, v2, s', R, L, rfl, g16.sub, M, dp_up g16 d1, dp_up g16 d2, read_few e, fun _ H' _ => q H'⟩
              · walk_at "rd"
                refine s_ix_t (sqt hA) atI_0 ?_
                walk_at "rd"
                refine jtD (fun _ => ?_) (fun e => absurd rfl e)
                walk_at "rd"
                refine s_ix_t (sqt hA) (atI_i (j := 1) rfl rfl) ?_
                walk_at "rd"
                exact ⟨D15, t, k, rfl, ht, g15.sub, e, q⟩
            · walk_at "rd"
              refine ⟨D11, st, _, rfl, by decide, by decide, g11.sub, X11, fun D12 H12 r g12 X12 r0 r1 => ?_⟩
              walk_at "rd"
              refine jtD (fun e => ?_) (fun e => ?_)
              · walk_at "rd"
                refine ⟨D12, st, _, rfl, htl, g12.sub, X12, fun D13 H13 t' g13 X13 hl => ?_⟩
                walk_at "rd"
                exact rest _ _ ⟨D13, t', g13.sub, hl, rfl⟩
              · walk_at "rd"
                exact rest _ _ ⟨D12, _, g12.sub, Nat.le_trans htl (by decide), rfl⟩
          · walk_at "rd"
            refine jtD (fun e => ?_) (fun e => ?_)
            · have hn129 : n < 129 := by omega
              have good : Good z.length rows ends := ⟨fun e => by rw [e] at hRl; simp at hRl; omega, by omega, fun r hr => by rw [hRl]; exact hRr.row r hr, by rw [hRl]; exact hasc⟩
              have hraH := g10.sub.seq hra
              have hpeH := g10.sub.seq hpe
              walk_at "rd"
              refine ⟨ra, rfl, ⟨_, hraH⟩, fun pc npc => lq_gr (m := No) walk_list D10 (fun i acc D2 => DpAll K D2 acc ((rows.take i).map dL)) npc g10.sub .nil (fun D3 H3 g3 => g3.same'.seq hra) ?_ ?_⟩
              · rintro i x' acc D3 H3 H4 hi g3 hp hDp hR ⟨rfl, ex⟩
                obtain ⟨d, hd, hx'⟩ := dpl_get hxs ex
                rw [List.getElem?_map] at hd
                obtain ⟨r, hr, rfl⟩ := Option.map_eq_some_iff.mp hd
                obtain ⟨b, rfl, hb2⟩ := dp_L hx'
                walk_at "rd"
                refine ⟨rfl, ?_⟩
                walk_at "rd"
                refine s_lst_l (sql_up g3 hb2) fun l nl => lc_put npc (fun z => z) g3 hp hDp ((Gr.refl g3.sub).ice nl) ?_ ?_
                · rw [dpl_len hR, List.length_map, List.length_take]
                  exact small1000 (Nat.le_trans (Nat.min_le_right _ _) (by omega))
                · rw [List.take_add_one, hr, List.map_append]
                  refine dpl_snoc (Y.Dp.monoAll ((Gr.refl (m := No) g3.sub).ice nl).dd hR) (dp_ofL (sql upd_same))
              · intro acc D12 H12 g12 hpc hDpc hR
                rw [hxl, List.take_length] at hR
                have g13 := g12.cold hpc npc
                have hpe13 := sql_up g13 hpe
                walk_at "rd"
                refine s_lst_l hpe13 fun l nl => ?_
                have g14 := g13.ice (o := .lst (ends.map V.int)) nl
                have dA : Dp K (upd D12 pc (.lst acc)) (.ref pc) (dLL rows) := .lst (sql upd_same) (Y.Dp.monoAll (same_new hDpc) hR)
                have dA2 := Y.Dp.mono ((Gr.refl (m := No) g13.sub).ice (o := .lst (ends.map V.int)) nl).dd dA
                have dB : Dp K (upd (upd D12 pc (.lst acc)) l (.lst (ends.map V.int))) (.ref l) (dL ends) := dp_ofL (sql upd_same)
                revert g14 dA2 dB
                generalize (upd (upd D12 pc (.lst acc)) l (.lst (ends.map V.int))) = D14
                generalize (upd H12 l (.lst (ends.map V.int))) = H14
                intro g14 dA2 dB
                walk_at "rd"
                intro x dx nx ndx ne
                have nx' : (upd H14 dx (.own x)) x = none := (upd_ne (Ne.symm ne)).trans nx
                have gM := (g14.lay (o := .own x) ndx).lay (o := .ins (ga K "Machine") dx []) nx'
                refine ⟨_, x, dx, z, .ref pc, .ref l, rows, ends, rfl, by exact le1000 (by omega), gM.sub, g14.free nx, upd_same, dA2, dB, okz, good, fun D15 H15 vp vq gF hDx hHx dp dq => ⟨rfl, ?_⟩⟩
                have gG := (gM.transN gF fun y hy => hy ▸ g14.kept x nx).cold hHx (g14.kept x nx)
                have sX : Same D15 (upd D15 x (.ins (ga K "Machine") dx [("letters", .str z), ("arrows", vp), ("ends", vq)])) := same_new hDx
                have M : IsM K (upd D15 x (.ins (ga K "Machine") dx [("letters", .str z), ("arrows", vp), ("ends", vq)])) (.ref x) z rows ends := ⟨x, dx, vp, vq, rfl, upd_same, Y.Dp.mono sX dp, Y.Dp.mono sX dq⟩
                revert gG M
                generalize (upd D15 x (.ins (ga K "Machine") dx [("letters", .str z), ("arrows", vp), ("ends", vq)])) = D16
                intro gG M
                walk_at "rd"
                refine ⟨D16, _, z, rows, ends, rfl, gG.sub, M, hsmall, fun D17 H17 g17 => ?_⟩
                walk_at "rd"
                refine jtN (fun e => absurd rfl e) (fun _ => ?_)
                have gH := gG.trans g17
                walk_at "rd"
                have erb := read_back okz good
                refine ⟨D17, _, rfl, Nat.le_trans htl (by decide), g17.sub, fun D18 H18 v s'' R'' L'' e' g18 M2 => ?_, fun D' H' d k e' => by rw [erb] at e'; cases e'⟩
                rw [erb] at e'
                cases e'
                have gI := gH.trans g18
                walk_at "rd"
                refine ⟨D18, v, _, _, z, rows, ends, rfl, g18.sub, M2, dp_up gI dR10, dp_up gI dE10, by omega, fun D19 H19 g19 => ?_⟩
                have gJ := gI.trans g19
                walk_at "rd"
                exact rest _ _ ⟨D19, some (.ref x), gE.trans gJ.no, XE.up gJ, rfl⟩
            · walk_at "rd"
              exact rest _ _ ⟨D10, none, gE, XE, rfl⟩
      · walk_at "rd"
        refine ⟨D5, st, _, rfl, by decide, by decide, g5.sub, X5, fun D6 H6 r g6 X6 r0 r1 => ?_⟩
        walk_at "rd"
        refine jtD (fun e => ?_) (fun e => ?_)
        · walk_at "rd"
          refine ⟨D6, st, _, rfl, by decide, by decide, g6.sub, X6, fun D7 H7 r g7 X7 r0 r1 => ?_⟩
          walk_at "rd"
          exact rest _ _ ⟨D7, (127 + r).toNat, (g5.trans g6).trans g7, X7, by omega, by omega, by rw [Int.toNat_of_nonneg (by omega)]; rfl⟩
        · walk_at "rd"
          exact rest _ _ ⟨D6, n, g5.trans g6, X6, n0, by omega, rfl⟩
    · walk_at "rd"
      refine ⟨D4, st, _, rfl, by decide, by decide, g4.sub, X4, fun D6 H6 rq g6 X6 r0' r1' => ?_⟩
      walk_at "rd"
      refine jtD (fun e => ?_) (fun e => ?_)
      · walk_at "rd"
        refine ⟨D6, st, _, rfl, by decide, by decide, g6.sub, X6, fun D7 H7 r g7 X7 r0 r1 => ?_⟩
        walk_at "rd"
        exact rest _ _ ⟨D7, (12 + r).toNat, (gB.trans g6).trans g7, X7, by omega, by omega, by rw [Int.toNat_of_nonneg (by omega)]; rfl⟩
      · walk_at "rd"
        refine rest _ _ ⟨D6, (1 + r).toNat, gB.trans g6, X6, by omega, by omega, by rw [Int.toNat_of_nonneg (by omega)]; rfl⟩
end
end H90

namespace H90
open PySem PySem.Spec L2 He Y Hk90
theorem facts {w : World} {K : PySem.W.Frag} {h : Heap} {mg : Str → Option Value} {f : Addr} (X : K.In h) (G : h.Ns mainGlobals mg) (hfa : mg ("law" : Str) = some (.ref f)) (c : SaysI fa fn fb fi file K) :
    ∃ fd : FuncData, (∀ (s : Shared) (v : Value), BindsTo s fd ⟨[v], []⟩ [("script", v)]) ∧ ∀ base : Heap, K.In base → base.Ns mainGlobals mg → FnOk (PySem.Challenge.rw_fromyesalone_k90_texts_of_machines).prog w K mg base CXany 8 f fd ["script"] (sp_law K) := by
  have T : Txt (PySem.Challenge.rw_fromyesalone_k90_texts_of_machines).prog w K mg := txt X G rfl rfl c
  obtain ⟨fd, F⟩ := T.d_law
  have e := hfa.symm.trans T.gd_law
  cases e
  have b := FunD.bindsA (ps := ["script"]) F fun _ _ _ _ _ _ us hl => match us, hl with | [_], _ => rfl
  exact ⟨fd, fun s v => b s [v] rfl, fun base _ _ => fn_any (w_law T F)⟩
end H90
open PySem PySem.W PySem.Calls PyProof.Rows
theorem PySem.Challenge.cw_fromyesalone_k90_texts_of_machines_holds : PySem.Challenge.rw_fromyesalone_k90_texts_of_machines.Holds := by
  w_on; o_law
  refine HandSHeadRun.head_any (r := Hk90.R) (q := view Hk90.R.prog [35]) (H := Hk90.hk) (ob := Hk90.ob) (M := 3000) (loose := Hk90.names) (d := HandSHeadRun.topDef Hk90.R.prog 35) (kwd := []) Hk90.ob_eq
    (by kernel_rfl) (fun s => by kernel_rfl) Hk90.run (by kernel_rfl) (by kernel_rfl) (by kernel_rfl) (by rfl) (by first | assumption | decide +kernel) (by decide +kernel) ⟨rfl, rfl, rfl, rfl, rfl, by decide +kernel⟩ ?hw ?hc
  case hw => w_witness2
  case hc =>
    refine L2.walk_ofE (l := PySem.Challenge.rw_fromyesalone_k90_texts_of_machines) (n := 63) (k := 8) (x := "script") (CX := Y.CXany) rfl (by decide) (by kernel_rfl) ⟨rfl, by decide, by decide⟩ ?F Y.any_none
    intro w mg fa h Y G hmg0
    obtain ⟨K, KX, c⟩ := Y
    have hmg : mg ("law" : PySem.Str) = some (.ref fa) := by
      have e : (HandSHeadRun.topDef Hk90.R.prog 35).name = ("law" : PySem.Str) := by kernel_rfl
      rw [← e]
      exact hmg0
    obtain ⟨fd, hb, hF⟩ := H90.facts (w := w) KX G hmg c
    exact ⟨K, fd, H90.sp_law K, KX, hb, fun H a ns hl _ hS => ⟨a, ns, rfl, hS, hl, fun _ => rfl⟩, hF⟩
