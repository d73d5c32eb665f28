import PyProof.Rows.All
import Wide.All
import OpenK.AllK
import Wide.FinOn
import HandS.Base
import HandS.Call
import HandS.List
import HandS.Comp
import HandS.Ends
import HandS.Dict
import HandS.Iter
import HandS.Text
import HandS.Words
import HandS.Exc
import HandS.TryOnly
import HandS.ExcOwn
import HandS.Wide
import KE.KStateDown
import KE.KFromBytes
import KE.KExcSuper
import KE.KIsAll
import KE.KTryMore
import HandS.ExcInit
import HandS.ExcField
import HandS.ExcIs
import HandS.Defaults
import HandS.Head0
import HandS.Head1
import HandS.Head2
import HandS.HeadEnd
import HandS.HeadHook1
import HandS.HeadHook2
import HandS.ExcSuper
import HandS.TryMany
import HandS.HotCalls
import HandS.IsInst
import KE.GoesMore
import KE.GoesEnum
import PyProof.EnumMake
import HandS.StrMore
import HandS.SetKeys
import HandS.Walk
import KE.IntTextLaws
import KE.KCallOwn
import HandS.WordsExc
import HandS.WordsDict
import HandS.More
import PyProof.StrBlock2
import HandS.SortKw
import KE.KSortTup
import HandS.TupLe
import HandS.Conv
import PySem.Challenge.RW_fromyesalone_k91_texts_of_samples
set_option Elab.async false
set_option linter.all false
set_option maxRecDepth 100000
set_option maxHeartbeats 0
/-! Our own layer over HandS: rules that serve a construct whatever its operands are, step lemmas, heaps. -/
namespace Y
open PySem PySem.Spec PyProof.Rows L2

/-! ### either of two rules -/
section
variable {X : Cx}
theorem OpR.or {f : Value → Value → Sem Value} {r1 r2 : R2} (h1 : OpR X f r1) (h2 : OpR X f r2) : OpR X f (fun x y H Q => r1 x y H Q ∨ r2 x y H Q) :=
  fun pins s σ H x y v u Q I rx ry h => h.elim (h1 pins s σ H x y v u Q I rx ry) (h2 pins s σ H x y v u Q I rx ry)
theorem CallR.or {f : Value} {r1 r2 : List V → Hp → VK → Prop} (h1 : CallR X f r1) (h2 : CallR X f r2) : CallR X f (fun xs H Q => r1 xs H Q ∨ r2 xs H Q) :=
  fun pins s σ H xs us Q I r h => h.elim (h1 pins s σ H xs us Q I r) (h2 pins s σ H xs us Q I r)
theorem SlR.or {r1 r2 : V → Option Int → Option Int → Hp → VK → Prop} (h1 : SlR X r1) (h2 : SlR X r2) : SlR X (fun x lo hi H Q => r1 x lo hi H Q ∨ r2 x lo hi H Q) :=
  fun pins s σ H x v vl vu lo hi sl Q I rx hs pl pu h => h.elim (h1 pins s σ H x v vl vu lo hi sl Q I rx hs pl pu) (h2 pins s σ H x v vl vu lo hi sl Q I rx hs pl pu)
theorem PE.or {e : Expr} {t u : TE} (h1 : PE X e t) (h2 : PE X e u) : PE X e (fun σ H Q => t σ H Q ∨ u σ H Q) :=
  ⟨fun pins s σ H Q I h => h.elim (h1.run pins s σ H Q I) (h2.run pins s σ H Q I)⟩
theorem PT.or {e : Expr} {t u : TT} (h1 : PT X e t) (h2 : PT X e u) : PT X e (fun σ H Q => t σ H Q ∨ u σ H Q) :=
  ⟨fun pins s σ H Q I h => h.elim (h1.run pins s σ H Q I) (h2.run pins s σ H Q I)⟩
theorem PI.or {tg e : Expr} {t u : TI} (h1 : PI X tg e t) (h2 : PI X tg e u) : PI X tg e (fun σ H R => t σ H R ∨ u σ H R) :=
  ⟨fun pins s σ H R I h => h.elim (h1.run pins s σ H R I) (h2.run pins s σ H R I)⟩
end

/-! ### operators by values -/
def rPlus (K : PySem.W.Frag) : R2 := fun x y H Q => (rI0 fun i j => .int (i + j)) x y H Q ∨ (∃ i j, x = .str i ∧ y = .str j ∧ i.length + j.length ≤ sizeLine ∧ Q (.str (i ++ j)) H) ∨ rCat x y H Q
def rMinus : R2 := rI0 fun i j => .int (i - j)
def rTimes : R2 := rI CMul fun i j => .int (i * j)
def rMod : R2 := rI (fun _ j => 0 < j) fun i j => .int (i % j)
def rDiv : R2 := rI CDivW fun i j => .int (i / j)
def rPow : R2 := rI CPow fun i j => .int (i ^ j.toNat)
def rEqs (K : PySem.W.Frag) : R2 := fun x y H Q => rEq x y H Q ∨ rEqD K x y H Q
def rNes (K : PySem.W.Frag) : R2 := fun x y H Q => rNe x y H Q ∨ rNeD K x y H Q
def rLts : R2 := fun x y H Q => (rI0 fun i j => .bl (decide (i < j))) x y H Q ∨ ∃ i j, x = .str i ∧ y = .str j ∧ Q (.bl (decide (i.cps.toList < j.cps.toList))) H
def rLes : R2 := fun x y H Q => (rI0 fun i j => .bl (decide (i ≤ j))) x y H Q ∨ ∃ i j, x = .str i ∧ y = .str j ∧ Q (.bl (!decide (j.cps.toList < i.cps.toList))) H
def rGts : R2 := fun x y H Q => (rI0 fun i j => .bl (decide (j < i))) x y H Q ∨ ∃ i j, x = .str i ∧ y = .str j ∧ Q (.bl (decide (j.cps.toList < i.cps.toList))) H
def rGes : R2 := fun x y H Q => (rI0 fun i j => .bl (decide (j ≤ i))) x y H Q ∨ ∃ i j, x = .str i ∧ y = .str j ∧ Q (.bl (!decide (i.cps.toList < j.cps.toList))) H
def rIns (K : PySem.W.Frag) : R2 := fun x y H Q => (∃ (c : Nat) (z : Str), x = .str ⟨#[c]⟩ ∧ y = .str z ∧ Q (.bl (decide (c ∈ z.cps.toList))) H) ∨ rIn K false x y H Q
def rNis (K : PySem.W.Frag) : R2 := fun x y H Q => (∃ (c : Nat) (z : Str), x = .str ⟨#[c]⟩ ∧ y = .str z ∧ Q (.bl (!decide (c ∈ z.cps.toList))) H) ∨ rIn K true x y H Q
def rIsN : R2 := fun x y H Q => y = .non ∧ Q (.bl (decide (x = .non))) H
def rNoN : R2 := fun x y H Q => y = .non ∧ Q (.bl (!decide (x = .non))) H
def rNeg : V → Hp → VK → Prop := rU fun i => .int (-i)
section
variable {X : Cx}
theorem o_add : OpR X (binaryOp .Add) (rPlus X.K) := OpR.or op_add (OpR.or op_add_str op_cat)
theorem o_sub : OpR X (binaryOp .Sub) rMinus := op_sub
theorem o_mul : OpR X (binaryOp .Mult) rTimes := op_mul
theorem o_mod : OpR X (binaryOp .Mod) rMod := op_mod
theorem o_fdiv : OpR X (binaryOp .FloorDiv) rDiv := op_fdivW
theorem o_pow : OpR X (binaryOp .Pow) rPow := op_pow
theorem o_neg : UnR X (unaryOp .USub) rNeg := un_neg
theorem c_eq (hu : X.A.units + 64 < cLine) : OpR X (compareOp .Eq) (rEqs X.K) := OpR.or op_eq (op_eqD hu)
theorem c_ne (hu : X.A.units + 64 < cLine) : OpR X (compareOp .NotEq) (rNes X.K) := OpR.or op_ne (op_neD hu)
theorem c_lt : OpR X (compareOp .Lt) rLts := OpR.or op_lt op_lt_str
theorem c_le : OpR X (compareOp .LtE) rLes := OpR.or op_le op_le_str
theorem c_gt : OpR X (compareOp .Gt) rGts := OpR.or op_gt op_gt_str
theorem c_ge : OpR X (compareOp .GtE) rGes := OpR.or op_ge op_ge_str
theorem c_in : OpR X (compareOp .In) (rIns X.K) := OpR.or op_in_sign op_in_seq
theorem c_ni : OpR X (compareOp .NotIn) (rNis X.K) := OpR.or op_notIn_sign op_notIn_seq
theorem c_is : OpR X (compareOp .Is) rIsN := op_isN
theorem c_ns : OpR X (compareOp .IsNot) rNoN := op_notN
end
end Y

namespace Y
open PySem PySem.Spec PyProof.Rows L2
/-! ### steps of a reading -/
section
variable {K : PySem.W.Frag} {σ : L2.St} {H : Hp} {Q : VK} {i : Nat} {v x y : V} {ta tb tc te tr : TE} {t u : TT} {a b : Addr} {D : Ends} {n m : Int} {s z : Str}
theorem s_var (h : σ[i]? = some (some v)) (k : Q v H) : tVar i σ H Q := ⟨v, h, k⟩
theorem s_c (k : Q v H) : tC v σ H Q := k
theorem s_op {r : R2} (k : ta σ H fun x H1 => tb σ H1 fun y H2 => r x y H2 Q) : tOp r ta tb σ H Q := k
theorem s_un {r : V → Hp → VK → Prop} (k : ta σ H fun x H1 => r x H1 Q) : tUn r ta σ H Q := k
theorem s_nil {Q : List V → Hp → Prop} (k : Q [] H) : tNil σ H Q := k
theorem s_cons {tr : TA} {Q : List V → Hp → Prop} (k : ta σ H fun x H1 => tr σ H1 fun xs H2 => Q (x :: xs) H2) : tCons ta tr σ H Q := k
theorem s_tup {t : TA} (k : t σ H fun xs H1 => xs.length ≤ sizeLine ∧ ∀ p, H1 p = none → Q (.ref p) (upd H1 p (.tup xs))) : tTup t σ H Q := k
theorem s_lst {t : TA} (k : t σ H fun xs H1 => xs.length ≤ sizeLine ∧ ∀ p, H1 p = none → Q (.ref p) (upd H1 p (.lst xs))) : tLst t σ H Q := k
theorem s_CB {r : List V → Hp → VK → Prop} {t : TA} (k : t σ H fun vs H1 => r vs H1 Q) : tCB r t σ H Q := k
theorem s_BM {T : String} {r : V → List V → Hp → VK → Prop} {t : TA} (k : ta σ H fun x H1 => tyV K T x H1 ∧ t σ H1 fun xs H2 => r x xs H2 Q) : tBM K T r ta t σ H Q := k
theorem s_BM0 {T : String} {r : V → List V → Hp → VK → Prop} (k : ta σ H fun x H1 => tyV K T x H1 ∧ r x [] H1 Q) : tBM0 K T r ta σ H Q := k
theorem s_M0 {r : V → List V → Hp → VK → Prop} (k : ta σ H fun x H1 => (∃ a, x = .str a) ∧ r x [] H1 Q) : tM0 r ta σ H Q := k
theorem s_M1 {r : V → List V → Hp → VK → Prop} (k : ta σ H fun x H1 => (∃ a, x = .str a) ∧ tb σ H1 fun y H2 => r x [y] H2 Q) : tM1 r ta tb σ H Q := k
theorem s_sl {r : V → Option Int → Option Int → Hp → VK → Prop} {tl th : TO} (k : ta σ H fun x H1 => tl σ H1 fun l H2 => th σ H2 fun u H3 => r x l u H3 Q) : tSl r ta tl th σ H Q := k
theorem s_noP {Q : Option Int → Hp → Prop} (k : Q none H) : tNoPart σ H Q := k
theorem s_test {Q : Bool → Hp → Prop} (k : ta σ H fun x H' => ∃ k, x = .bl k ∧ Q k H') : tTest ta σ H Q := k
theorem s_B {Q : Bool → Hp → Prop} (k : ta σ H fun x H' => ∃ k, x = .bl k ∧ Q k H') : tB ta σ H Q := k
theorem s_bl {Q : Bool → Hp → Prop} {c : Bool} (k : Q c H) : ∃ k, V.bl c = .bl k ∧ Q k H := ⟨c, rfl, k⟩
theorem s_and {Q : Bool → Hp → Prop} (k : t σ H fun c H1 => if c = true then u σ H1 Q else Q false H1) : tAnd t u σ H Q := k
theorem s_or {Q : Bool → Hp → Prop} (k : t σ H fun c H1 => if c = true then Q true H1 else u σ H1 Q) : tOr t u σ H Q := k
theorem s_not {Q : Bool → Hp → Prop} (k : t σ H fun c H1 => Q (!c) H1) : tNot t σ H Q := k
theorem s_andV (k : ta σ H fun x H1 => ∃ c, x = .bl c ∧ if c = true then tb σ H1 Q else Q (.bl false) H1) : tAndV ta tb σ H Q := k
theorem s_orV (k : ta σ H fun x H1 => ∃ c, x = .bl c ∧ if c = true then Q (.bl true) H1 else tb σ H1 Q) : tOrV ta tb σ H Q := k
theorem s_notV (k : ta σ H fun x H1 => ∃ c, x = .bl c ∧ Q (.bl (!c)) H1) : tNotV ta σ H Q := k
theorem s_ifE (k : t σ H fun c H1 => if c = true then ta σ H1 Q else tb σ H1 Q) : tIf t ta tb σ H Q := k
theorem s_seq {t u : TS} (k : t { D with nx := u D } σ H) : tSeq t u D σ H := k
theorem s_asg {g : TG} (k : te σ H fun x H1 => g x σ H1 D.nx) : tAsg te g D σ H := k
theorem s_gname {Q : L2.St → Hp → Prop} (k : Q (σ.set i (some v)) H) : gName i v σ H Q := k
theorem s_drop (k : te σ H fun _ H1 => D.nx σ H1) : tDrop te D σ H := k
theorem s_ret (k : te σ H D.rt) : tRet te D σ H := k
theorem s_retN (k : D.rt .non H) : tRetN D σ H := k
theorem s_next (k : D.nx σ H) : tNext D σ H := k
theorem s_ifS {tu tw : TS} (k : t σ H fun b H1 => if b = true then tu D σ H1 else tw D σ H1) : tIfS t tu tw D σ H := k
theorem s_yes {Q : Bool → Hp → Prop} (k : Q true H) : tYes σ H Q := k
theorem s_call {sp : Sp} {dvs : List V} {E : XK} {t : TA} (k : t σ H fun vs H1 => sp (vs ++ dvs) H1 Q E) : tCall sp dvs E t σ H Q := k
theorem s_callS {sp : Sp} {E : L2.St → XK} {t : TA} (k : t σ H fun vs H1 => sp vs H1 Q (E σ)) : tCallS sp E t σ H Q := k
theorem s_asgS {to ti : TE} {r : TSet} (k : te σ H fun x H1 => to σ H1 fun o H2 => ti σ H2 fun i H3 => r o i x H3 fun H4 => D.nx σ H4) : tAsg te (gSub to ti r) D σ H := k
/-! operators -/
theorem s_add_i (k : Q (.int (n + m)) H) : rPlus K (.int n) (.int m) H Q := Or.inl ⟨n, m, rfl, rfl, k⟩
theorem s_add_s (h : s.length + z.length ≤ sizeLine) (k : Q (.str (s ++ z)) H) : rPlus K (.str s) (.str z) H Q := Or.inr (Or.inl ⟨s, z, rfl, rfl, h, k⟩)
theorem s_add_l {xs ys : List V} (ha : H a = some (.lst xs)) (hb : H b = some (.lst ys)) (hl : xs.length + ys.length ≤ sizeLine) (k : ∀ p, H p = none → Q (.ref p) (upd H p (.lst (xs ++ ys)))) : rPlus K (.ref a) (.ref b) H Q :=
  Or.inr (Or.inr ⟨a, b, xs, ys, rfl, rfl, ha, hb, hl, k⟩)
theorem s_sub (k : Q (.int (n - m)) H) : rMinus (.int n) (.int m) H Q := ⟨n, m, rfl, rfl, k⟩
theorem s_mul (h : CMul n m) (k : Q (.int (n * m)) H) : rTimes (.int n) (.int m) H Q := ⟨n, m, rfl, rfl, h, k⟩
theorem s_mod (h : 0 < m) (k : Q (.int (n % m)) H) : rMod (.int n) (.int m) H Q := ⟨n, m, rfl, rfl, h, k⟩
theorem s_div (h : CDivW n m) (k : Q (.int (n / m)) H) : rDiv (.int n) (.int m) H Q := ⟨n, m, rfl, rfl, h, k⟩
theorem s_pow (h : CPow n m) (k : Q (.int (n ^ m.toNat)) H) : rPow (.int n) (.int m) H Q := ⟨n, m, rfl, rfl, h, k⟩
theorem s_neg (k : Q (.int (-n)) H) : rNeg (.int n) H Q := ⟨n, rfl, k⟩
theorem s_eq_i (k : Q (.bl (decide (n = m))) H) : rEqs K (.int n) (.int m) H Q := Or.inl ⟨rfl, by rw [dec_int]; rw [show (n == m) = decide (n = m) from by rw [Bool.eq_iff_iff]; simp]; exact k⟩
theorem s_eq_s (k : Q (.bl (decide (s = z))) H) : rEqs K (.str s) (.str z) H Q := Or.inl ⟨rfl, by rw [dec_str]; rw [show (s == z) = decide (s = z) from by rw [Bool.eq_iff_iff]; simp]; exact k⟩
theorem s_eq_x (h : scal x y = true) (k : Q (.bl (decide (x = y))) H) : rEqs K x y H Q := Or.inl ⟨h, k⟩
theorem s_eq_d {d e : PyData} (hd : Dp K H x d) (he : Dp K H y e) (sd : SeqAt.shaped d = true) (se : SeqAt.shaped e = true) (k : Q (.bl (PyData.eqv d e)) H) : rEqs K x y H Q := Or.inr ⟨d, e, hd, he, sd, se, k⟩
theorem s_ne_i (k : Q (.bl (!decide (n = m))) H) : rNes K (.int n) (.int m) H Q := Or.inl ⟨rfl, by rw [dec_int]; rw [show (n == m) = decide (n = m) from by rw [Bool.eq_iff_iff]; simp]; exact k⟩
theorem s_ne_s (k : Q (.bl (!decide (s = z))) H) : rNes K (.str s) (.str z) H Q := Or.inl ⟨rfl, by rw [dec_str]; rw [show (s == z) = decide (s = z) from by rw [Bool.eq_iff_iff]; simp]; exact k⟩
theorem s_ne_x (h : scal x y = true) (k : Q (.bl (!decide (x = y))) H) : rNes K x y H Q := Or.inl ⟨h, k⟩
theorem s_ne_d {d e : PyData} (hd : Dp K H x d) (he : Dp K H y e) (sd : SeqAt.shaped d = true) (se : SeqAt.shaped e = true) (k : Q (.bl (!PyData.eqv d e)) H) : rNes K x y H Q := Or.inr ⟨d, e, hd, he, sd, se, k⟩
theorem s_lt_i (k : Q (.bl (decide (n < m))) H) : rLts (.int n) (.int m) H Q := Or.inl ⟨n, m, rfl, rfl, k⟩
theorem s_le_i (k : Q (.bl (decide (n ≤ m))) H) : rLes (.int n) (.int m) H Q := Or.inl ⟨n, m, rfl, rfl, k⟩
theorem s_gt_i (k : Q (.bl (decide (m < n))) H) : rGts (.int n) (.int m) H Q := Or.inl ⟨n, m, rfl, rfl, k⟩
theorem s_ge_i (k : Q (.bl (decide (m ≤ n))) H) : rGes (.int n) (.int m) H Q := Or.inl ⟨n, m, rfl, rfl, k⟩
theorem s_lt_s (k : Q (.bl (decide (s.cps.toList < z.cps.toList))) H) : rLts (.str s) (.str z) H Q := Or.inr ⟨s, z, rfl, rfl, k⟩
theorem s_le_s (k : Q (.bl (!decide (z.cps.toList < s.cps.toList))) H) : rLes (.str s) (.str z) H Q := Or.inr ⟨s, z, rfl, rfl, k⟩
theorem s_gt_s (k : Q (.bl (decide (z.cps.toList < s.cps.toList))) H) : rGts (.str s) (.str z) H Q := Or.inr ⟨s, z, rfl, rfl, k⟩
theorem s_ge_s (k : Q (.bl (!decide (s.cps.toList < z.cps.toList))) H) : rGes (.str s) (.str z) H Q := Or.inr ⟨s, z, rfl, rfl, k⟩
theorem s_in_c {c : Nat} (k : Q (.bl (decide (c ∈ z.cps.toList))) H) : rIns K (.str ⟨#[c]⟩) (.str z) H Q := Or.inl ⟨c, z, rfl, rfl, k⟩
theorem s_ni_c {c : Nat} (k : Q (.bl (!decide (c ∈ z.cps.toList))) H) : rNis K (.str ⟨#[c]⟩) (.str z) H Q := Or.inl ⟨c, z, rfl, rfl, k⟩
theorem s_in_l {xs : List V} (h : SqL K H a xs) (hx : flatV x = true) (hs : xs.all flatV = true) (k : Q (.bl (inV x xs)) H) : rIns K x (.ref a) H Q := Or.inr ⟨a, xs, rfl, Or.inl h, hx, hs, k⟩
theorem s_in_t {xs : List V} (h : SqT K H a xs) (hx : flatV x = true) (hs : xs.all flatV = true) (k : Q (.bl (inV x xs)) H) : rIns K x (.ref a) H Q := Or.inr ⟨a, xs, rfl, Or.inr h, hx, hs, k⟩
theorem s_ni_l {xs : List V} (h : SqL K H a xs) (hx : flatV x = true) (hs : xs.all flatV = true) (k : Q (.bl (!inV x xs)) H) : rNis K x (.ref a) H Q := Or.inr ⟨a, xs, rfl, Or.inl h, hx, hs, k⟩
theorem s_ni_t {xs : List V} (h : SqT K H a xs) (hx : flatV x = true) (hs : xs.all flatV = true) (k : Q (.bl (!inV x xs)) H) : rNis K x (.ref a) H Q := Or.inr ⟨a, xs, rfl, Or.inr h, hx, hs, k⟩
theorem s_isN (k : Q (.bl (decide (x = .non))) H) : rIsN x .non H Q := ⟨rfl, k⟩
theorem s_noN (k : Q (.bl (!decide (x = .non))) H) : rNoN x .non H Q := ⟨rfl, k⟩
/-! subscripts -/
theorem s_ix_l {xs : List V} {j : Int} (h : SqL K H a xs) (hv : atI xs j = some v) (k : Q v H) : rIx K (.ref a) (.int j) H Q := Or.inl ⟨a, xs, j, v, rfl, rfl, h, hv, k⟩
theorem s_ix_t {xs : List V} {j : Int} (h : SqT K H a xs) (hv : atI xs j = some v) (k : Q v H) : rIx K (.ref a) (.int j) H Q := Or.inr (Or.inl ⟨a, xs, j, v, rfl, rfl, h, hv, k⟩)
theorem s_ix_s {j : Int} {c : Nat} (h : s.length ≤ sizeLine) (hv : atI s.cps.toList j = some c) (k : Q (.str ⟨#[c]⟩) H) : rIx K (.str s) (.int j) H Q := Or.inr (Or.inr ⟨s, j, c, rfl, rfl, h, hv, k⟩)
/-! calls of built-ins -/
def rLens (K : PySem.W.Frag) : List V → Hp → VK → Prop := fun xs H Q => ∃ x n, xs = [x] ∧ LenV K x H n ∧ Q (.int n) H
theorem s_len_s (h : s.length ≤ sizeLine) (k : Q (.int s.length) H) : rLens K [.str s] H Q := ⟨.str s, s.length, rfl, ⟨h, rfl⟩, k⟩
theorem s_len_l {xs : List V} (h : SqL K H a xs) (k : Q (.int xs.length) H) : rLens K [.ref a] H Q := ⟨.ref a, xs.length, rfl, Or.inl ⟨xs, h, rfl⟩, k⟩
theorem s_len_t {xs : List V} (h : SqT K H a xs) (k : Q (.int xs.length) H) : rLens K [.ref a] H Q := ⟨.ref a, xs.length, rfl, Or.inr ⟨xs, h, rfl⟩, k⟩
def rAbs : List V → Hp → VK → Prop := fun xs H Q => ∃ i, xs = [.int i] ∧ Q (.int (if i < 0 then -i else i)) H
theorem s_abs (k : Q (.int (if n < 0 then -n else n)) H) : rAbs [.int n] H Q := ⟨n, rfl, k⟩
def rMax2 : List V → Hp → VK → Prop := fun xs H Q => ∃ i j, xs = [.int i, .int j] ∧ Q (.int (if j > i then j else i)) H
theorem s_max2 (k : Q (.int (if m > n then m else n)) H) : rMax2 [.int n, .int m] H Q := ⟨n, m, rfl, k⟩
def rMin2 : List V → Hp → VK → Prop := fun xs H Q => ∃ i j, xs = [.int i, .int j] ∧ Q (.int (if j < i then j else i)) H
theorem s_min2 (k : Q (.int (if m < n then m else n)) H) : rMin2 [.int n, .int m] H Q := ⟨n, m, rfl, k⟩
def rInt1 : List V → Hp → VK → Prop := fun xs H Q => ((∃ i, xs = [.int i] ∧ Q (.int i) H) ∨ ∃ k, xs = [.bl k] ∧ Q (.int (if k then 1 else 0)) H) ∨ ∃ a n, xs = [.str a] ∧ PySem.intText? a = some n ∧ a.length ≤ 640 ∧ Q (.int n) H
theorem s_int_i (k : Q (.int n) H) : rInt1 [.int n] H Q := Or.inl (Or.inl ⟨n, rfl, k⟩)
theorem s_int_s (h : PySem.intText? s = some n) (hl : s.length ≤ 640) (k : Q (.int n) H) : rInt1 [.str s] H Q := Or.inr ⟨s, n, rfl, h, hl, k⟩
def rStr1 : List V → Hp → VK → Prop := fun xs H Q => ∃ i : Int, xs = [.int i] ∧ i.natAbs.log2 < 1920 ∧ Q (.str (toString i)) H
theorem s_str_i (h : n.natAbs.log2 < 1920) (k : Q (.str (toString n)) H) : rStr1 [.int n] H Q := ⟨n, rfl, h, k⟩
def rLst1 (K : PySem.W.Frag) : List V → Hp → VK → Prop := fun xs H Q => ∃ p ys, xs = [.ref p] ∧ (SqL K H p ys ∨ SqT K H p ys) ∧ ∀ l, H l = none → Q (.ref l) (upd H l (.lst ys))
theorem s_lst_l {xs : List V} (h : SqL K H a xs) (k : ∀ l, H l = none → Q (.ref l) (upd H l (.lst xs))) : rLst1 K [.ref a] H Q := ⟨a, xs, rfl, Or.inl h, k⟩
theorem s_lst_t {xs : List V} (h : SqT K H a xs) (k : ∀ l, H l = none → Q (.ref l) (upd H l (.lst xs))) : rLst1 K [.ref a] H Q := ⟨a, xs, rfl, Or.inr h, k⟩
def rTup1 (K : PySem.W.Frag) : List V → Hp → VK → Prop := fun xs H Q => ∃ p ys, xs = [.ref p] ∧ ((SqL K H p ys ∧ ∀ l, H l = none → Q (.ref l) (upd H l (.tup ys))) ∨ (SqT K H p ys ∧ Q (.ref p) H))
theorem s_tup_l {xs : List V} (h : SqL K H a xs) (k : ∀ l, H l = none → Q (.ref l) (upd H l (.tup xs))) : rTup1 K [.ref a] H Q := ⟨a, xs, rfl, Or.inl ⟨h, k⟩⟩
theorem s_tup_t {xs : List V} (h : SqT K H a xs) (k : Q (.ref a) H) : rTup1 K [.ref a] H Q := ⟨a, xs, rfl, Or.inr ⟨h, k⟩⟩
theorem s_any {bs : List Bool} (h : SqL K H a (bs.map V.bl)) (k : Q (.bl (bs.any id)) H) : rAny K [.ref a] H Q := ⟨a, bs, rfl, h, k⟩
theorem s_all {bs : List Bool} (h : SqL K H a (bs.map V.bl)) (k : Q (.bl (bs.all id)) H) : rAll K [.ref a] H Q := ⟨a, bs, rfl, h, k⟩
/-! methods -/
theorem s_append {xs : List V} (h : H a = some (.lst xs)) (hz : xs.length < sizeLine) (k : Q .non (upd H a (.lst (xs ++ [y])))) : rAppend (.ref a) [y] H Q := ⟨a, xs, y, rfl, rfl, h, hz, k⟩
theorem s_pop {xs : List V} (h : H a = some (.lst xs)) (hv : xs[xs.length - 1]? = some v) (k : Q v (upd H a (.lst xs.dropLast))) : rPop (.ref a) [] H Q := ⟨a, xs, v, rfl, rfl, h, hv, k⟩
theorem ty_l {xs : List V} (h : H a = some (.lst xs)) : tyV K "list" (.ref a) H := Or.inl ⟨rfl, xs, SqL.of h⟩
theorem ty_s : tyV K "str" (.str s) H := rfl
def rSplit : V → List V → Hp → VK → Prop := fun x xs H Q => ∃ a b, x = .str a ∧ xs = [.str b] ∧ (b.length == 0) = false ∧ a.length + 2 ≤ sizeLine ∧ rNewStrs (Txt.split a b) H Q
theorem s_split (hz : (z.length == 0) = false) (hl : s.length + 2 ≤ sizeLine) (k : ∀ p, H p = none → Q (.ref p) (upd H p (.lst ((Txt.split s z).map V.str)))) : rSplit (.str s) [.str z] H Q := ⟨s, z, rfl, rfl, hz, hl, k⟩
def rSlAny (K : PySem.W.Frag) : V → Option Int → Option Int → Hp → VK → Prop := fun x lo hi H Q => rSlL K x lo hi H Q ∨ rSlS x lo hi H Q
theorem s_sl_l {xs : List V} {lo hi : Option Int} (h : SqL K H a xs) (k : ∀ p, H p = none → Q (.ref p) (upd H p (.lst (cutV xs lo hi)))) : rSlAny K (.ref a) lo hi H Q := Or.inl ⟨a, xs, rfl, h, k⟩
theorem s_sl_s {lo hi : Option Int} (h : s.length ≤ sizeLine) (k : Q (.str (cutS s lo hi)) H) : rSlAny K (.str s) lo hi H Q := Or.inr ⟨s, rfl, h, k⟩
theorem s_setL {xs : List V} {j : Int} {l : Nat} {Q : Hp → Prop} (h : H a = some (.lst xs)) (hj : ixN xs.length j = some l) (k : Q (upd H a (.lst (xs.set l v)))) : rSetL (.ref a) (.int j) v H Q := ⟨a, xs, j, l, rfl, rfl, h, hj, k⟩
end
section
variable {X : Cx}
theorem b_len : CallR X (.builtin "len") (rLens X.K) := call_len
theorem b_abs : CallR X (.builtin "abs") rAbs := call_abs
theorem b_max (hc : X.calm = true) : CallR X (.builtin "max") rMax2 := call_max2 hc
theorem b_min (hc : X.calm = true) : CallR X (.builtin "min") rMin2 := call_min2 hc
theorem b_int : CallR X (.type "int") rInt1 := CallR.or call_int1 call_int_str
theorem b_str : CallR X (.type "str") rStr1 := call_str_int
theorem b_list : CallR X (.type "list") (rLst1 X.K) := call_list_of
theorem b_tuple : CallR X (.type "tuple") (rTup1 X.K) := call_tuple_of
theorem m_split : MtR X "str.split" rSplit := mt_split
theorem sl_any : SlR X (rSlAny X.K) := SlR.or sl_list sl_str
end
end Y

/-! The head: what the top has written, told by a Hook. -/
namespace Y
open PySem PySem.Spec L2 He
/-! ### own exception classes over ValueError -/
def cqB (K : PySem.W.Frag) (C : Addr) : Bool := match K.lookup C with
  | some ⟨.type t, dd, .cls cd, sl⟩ => (match cd.mro, sl.toList with
    | .ref C' :: bm, [k0, k1, k2, k3, some (.builtin n), k5] => t == "type" && C' == C && n == "ValueError.__new__" && !cd.hasDel && cd.hasDict && PySem.HandSPX.refsVE bm
    | _, _ => false)
  | _ => false
theorem cqB_ok {K : PySem.W.Frag} {C : Addr} (h : cqB K C = true) : ∃ nm q N bs bm sn sub ab col dd k0 k1 k2 k3 k5, K.lookup C = some (excClassObj nm q C N bs bm true sn sub ab col dd k0 k1 k2 k3 k5 "ValueError.__new__") ∧ PySem.HandSPX.refsVE bm = true := by
  unfold cqB at h
  split at h
  · rename_i t dd cd sl ho
    split at h
    · rename_i C' bm k0 k1 k2 k3 n k5 hm hs
      simp only [Bool.and_eq_true, beq_iff_eq, Bool.not_eq_true'] at h
      obtain ⟨⟨⟨⟨⟨rfl, rfl⟩, rfl⟩, hdel⟩, hd⟩, hr⟩ := h
      obtain ⟨nm, bs, mro, ns, qn, hd', sn, sub, ab, col, del⟩ := cd
      dsimp only at hm hdel hd
      subst hm hdel hd
      have hsl : sl = #[k0, k1, k2, k3, some (.builtin "ValueError.__new__"), k5] := by
        obtain ⟨l⟩ := sl
        simp only at hs
        rw [hs]
      subst hsl
      exact ⟨nm, qn, ns, bs, bm, sn, sub, ab, col, dd, k0, k1, k2, k3, k5, ho, hr⟩
    · cases h
  · cases h
/-- what is told of an own exception class -/
structure ExK (K : PySem.W.Frag) (C : Addr) : Prop where
  o : OexC K C
  x : XfC K C
  e : ExcC K C
def exB (K : PySem.W.Frag) (C : Addr) : Bool :=
  cqB K C && (decide (PySem.W.findIn K (.ref C) "__setattr__" = some (some (.builtin "object.__setattr__"))) && (decide (PySem.W.typeIn K (.ref C) = some (.type "type")) && (PySem.W.keepIn K (.ref C) && (xfB K C &&
    (decide (PySem.W.findIn K (.ref C) "__class__" = some (some (.builtin "object.__class__"))) && (decide (PySem.W.specialIn K (.builtin "object.__class__") "__get__" = some (some (.builtin "getset_descriptor.__get__"))) &&
      (decide (PySem.W.takesIn K (.builtin "object.__class__") = some true) && decide (PySem.W.mroIn K C (.type "object") = some true))))))))
theorem exB_ok {K : PySem.W.Frag} {C : Addr} (h : exB K C = true) : ExK K C := by
  obtain ⟨h1, h⟩ := ba h
  obtain ⟨h2, h⟩ := ba h
  obtain ⟨h3, h⟩ := ba h
  obtain ⟨h4, h⟩ := ba h
  obtain ⟨h5, h⟩ := ba h
  obtain ⟨h6, h⟩ := ba h
  obtain ⟨h7, h⟩ := ba h
  obtain ⟨h8, h9⟩ := ba h
  have x := xfB_ok h5
  exact ⟨⟨cqB_ok h1, of_decide_eq_true h2, x.exC, of_decide_eq_true h3, h4⟩, x, ⟨x.ga, x.gg, x.exC, x.hdC, of_decide_eq_true h6, of_decide_eq_true h7, of_decide_eq_true h8, of_decide_eq_true h9⟩⟩
/-- what isinstance asks of an own class -/
structure OwnK (K : PySem.W.Frag) (C : Addr) : Prop where
  ha : PySem.W.findIn K (.ref C) "__class__" = some (some (.builtin "object.__class__"))
  hn : PySem.W.specialIn K (.builtin "object.__class__") "__get__" = some (some (.builtin "getset_descriptor.__get__"))
  ht : PySem.W.takesIn K (.builtin "object.__class__") = some true
  hm : PySem.W.mroIn K C (.type "object") = some true
def ownB (K : PySem.W.Frag) (C : Addr) : Bool := decide (PySem.W.findIn K (.ref C) "__class__" = some (some (.builtin "object.__class__"))) && (decide (PySem.W.specialIn K (.builtin "object.__class__") "__get__" = some (some (.builtin "getset_descriptor.__get__"))) &&
  (decide (PySem.W.takesIn K (.builtin "object.__class__") = some true) && decide (PySem.W.mroIn K C (.type "object") = some true)))
theorem ownB_ok {K : PySem.W.Frag} {C : Addr} (h : ownB K C = true) : OwnK K C := by
  obtain ⟨h1, h⟩ := ba h
  obtain ⟨h2, h⟩ := ba h
  obtain ⟨h3, h4⟩ := ba h
  exact ⟨of_decide_eq_true h1, of_decide_eq_true h2, of_decide_eq_true h3, of_decide_eq_true h4⟩
/-! ### more facts -/
inductive Fb where
  /-- an own class whose instances isinstance is asked of -/
  | own (x : Str)
  /-- an own exception class -/
  | exq (x : Str)
  /-- isinstance of an instance of the first by the second; except: does the second catch the first -/
  | kit (x y : Str) (b : Bool)
  | exm (x y : Str) (b : Bool)
  /-- the class x has no attribute f -/
  | noat (x f : Str)
def Fb.ok (K : PySem.W.Frag) : Fb → Bool
  | .exq x => exB K (ga K x)
  | .own x => ownB K (ga K x)
  | .kit x y b => decide (PySem.W.kitOne K (.ref (ga K x)) (.ref (ga K y)) = some b)
  | .exm x y b => decide (PySem.W.exmOne K (.ref (ga K x)) (.ref (ga K y)) = some b)
  | .noat x f => decide (PySem.W.findIn K (.ref (ga K x)) f = some none)
/-! ### an __init__ that says super() -/
structure DefI where
  cls : Str
  name : Str
  qual : Str
  params : Arguments
  body : List Stmt
  scope : Scope
abbrev FnI : Type := Option (Str × Str × Arguments × FuncBody × Scope × Addr × List Str × Addr)
def fnI (K : PySem.W.Frag) (p : Str × Option Str) : FnI := match K.lookup (fAd K p) with
  | some ⟨_, _, .func fd, _⟩ => some (fd.name, fd.qualname, fd.params, fd.body, fd.scope, fd.globals, fd.closure.map (·.1), fd.builtins)
  | _ => none
def DefI.at_ (d : DefI) : Str × Option Str := (d.cls, some d.name)
def DefI.val (d : DefI) : FnI := some (d.name, d.qual, d.params, .stmts d.body, d.scope, mainGlobals, ["__class__"], builtinsNs)
/-- the cell of __class__ holds the class at C; the code object tells its file -/
def iniB (K : PySem.W.Frag) (C : Addr) (fd : FuncData) (q file : Str) : Bool := PySem.W.codeIn K fd.code q && (match fd.closure with
  | [(_, cc)] => (match K.lookup cc with
    | some ⟨_, _, .cell (some (.ref D)), _⟩ => decide (D = C)
    | _ => false)
  | _ => false) && (match fd.code with
  | .ref c => (match K.lookup c with
    | some ⟨_, _, .fields vs, _⟩ => (match vs.toList with
      | _ :: _ :: .str f _ :: _ => decide (f = file)
      | _ => false)
    | _ => false)
  | _ => false) && (match fd.defaults with
  | .none => true
  | _ => false)
def DefI.ok (K : PySem.W.Frag) (file : Str) (d : DefI) : Bool := PySem.W.keepIn K (.ref (fAd K d.at_)) && (decide (PySem.W.typeIn K (.ref (fAd K d.at_)) = some (.type "function")) &&
  (decide (PySem.W.findIn K (.ref (ga K d.cls)) "__init__" = some (some (.ref (fAd K d.at_)))) && (decide (PySem.W.ks_superIn K (ga K d.cls) (ga K d.cls) "__init__" = some (some (.builtin "ValueError.__init__"))) &&
    (decide (PySem.W.subIn K (.ref (ga K d.cls)) (.type "ValueError") = some true) && (decide (PySem.W.mroIn K (ga K d.cls) (.ref (ga K d.cls)) = some true) && (decide (PySem.W.nsIn K cStatics "thirdparty.any" = some none) &&
  (match K.lookup (fAd K d.at_) with
  | some ⟨_, _, .func fd, _⟩ => iniB K (ga K d.cls) fd d.qual file
  | _ => false)))))))
/-! ### the Hook -/
abbrev AlI : Type := AlD × Bool × List FnI
def obsI (fa : List Fa) (fn : List DefD) (fb : List Fb) (fi : List DefI) (file : Str) (K : PySem.W.Frag) : AlI := (obsD fa fn K, (fb.all fun f => f.ok K) && fi.all fun d => d.ok K file, fi.map fun d => fnI K d.at_)
def valI (fn : List DefD) (fi : List DefI) : AlI := (valD fn, true, fi.map DefI.val)
def SaysI (fa : List Fa) (fn : List DefD) (fb : List Fb) (fi : List DefI) (file : Str) (K : PySem.W.Frag) : Prop := obsI fa fn fb fi file K = valI fn fi
/-- the objects that the module's names reach in n steps, and some more -/
def asI (g : Addr → Option Obj) (n : Nat) : List Addr := asD g n ++ [cStatics]
def obsIG (n : Nat) (fa : List Fa) (fn : List DefD) (fb : List Fb) (fi : List DefI) (file : Str) (g : Addr → Option Obj) : AlI := obsI fa fn fb fi file (frG g (asI g n))
def hookI (n : Nat) (fa : List Fa) (fn : List DefD) (fb : List Fb) (fi : List DefI) (file : Str) : PySem.W.Hook where
  α := AlI
  obs := fun s => obsIG n fa fn fb fi file s.heap.get?
  val := fun _ => valI fn fi
  says := fun _ h => ∃ K : PySem.W.Frag, K.In h ∧ SaysI fa fn fb fi file K
  of := fun _ _ e => ⟨_, frG_in, e⟩
  keeps := fun _ _ _ ⟨K, hK, c⟩ k => ⟨K, PySem.W.Frag.In.keeps hK k, c⟩
theorem obsIG_eq {n : Nat} {fa : List Fa} {fn : List DefD} {fb : List Fb} {fi : List DefI} {file : Str} {g : Addr → Option Obj} {s : Shared} (h : ∀ a, g a = s.heap.get? a) : obsIG n fa fn fb fi file g = (hookI n fa fn fb fi file).obs s := by
  have e : g = s.heap.get? := funext h
  rw [e] <;> rfl
section
variable {fa : List Fa} {fn : List DefD} {fb : List Fb} {fi : List DefI} {file : Str} {K : PySem.W.Frag}
theorem SaysI.d (c : SaysI fa fn fb fi file K) : SaysD fa fn K := congrArg (fun z : AlI => z.1) c
theorem SaysI.fb_ (c : SaysI fa fn fb fi file K) {f : Fb} (h : f ∈ fb) : f.ok K = true := by
  have e : ((fb.all fun f => f.ok K) && fi.all fun d => d.ok K file) = true := congrArg (fun z : AlI => z.2.1) c
  exact List.all_eq_true.mp (ba e).1 f h
theorem SaysI.fi_ (c : SaysI fa fn fb fi file K) (i : Nat) {d : DefI} (h : fi[i]? = some d) : d.ok K file = true ∧ fnI K d.at_ = d.val := by
  have e : ((fb.all fun f => f.ok K) && fi.all fun d => d.ok K file) = true := congrArg (fun z : AlI => z.2.1) c
  have e2 : fi.map (fun d => fnI K d.at_) = fi.map DefI.val := congrArg (fun z : AlI => z.2.2) c
  have e3 : (fi.map fun d => fnI K d.at_)[i]? = (fi.map DefI.val)[i]? := by rw [e2]
  rw [List.getElem?_map, List.getElem?_map, h] at e3
  exact ⟨List.all_eq_true.mp (ba e).2 d (List.mem_of_getElem? h), Option.some.inj e3⟩
end
end Y

/-! An own exception class whose __init__ begins with super().__init__('..'). -/
namespace Y
open PySem PySem.Spec L2
section
open PySem.W PySem.Calls
variable {prog : Program} {w : World} {A : Around} {E : Value → Shared → Prop} {h : Heap} {g : Array GenState} {d : Drawn} {t : Nat} {os : OsState}
variable {nm q : Str} {C N : Addr} {bs bm : List Value} {hdct : Bool} {sn : List Str} {sub : List Value} {ab : Bool} {col : Option Bool} {dd : Option Addr} {k0 k1 k2 k3 k5 : Option Value}
/-- the bound ValueError.__init__ called: the args are laid anew -/
theorem call_mw {u e t0 : Addr} {rest : List Value} {Q : Value → Shared → Prop}
    (hC : h.get? C = some (excClassObj nm q C N bs bm hdct sn sub ab col dd k0 k1 k2 k3 k5 "ValueError.__new__")) (he : h.get? e = some (HandSPX.excO C t0)) (hu : h.get? u = some (kxs_mw "ValueError.__init__" e)) (hrest : rest.length ≤ sizeLine)
    (hq : ∀ h' t1, (∀ b o, b ≠ e → h.get? b = some o → h'.get? b = some o) → h'.get? e = some (HandSPX.excO C t1) → Q .none ⟨h', g, d, t, os⟩) :
    wpAny (model prog w) A (call (.ref u) rest) Q E ⟨h, g, d, t, os⟩ := by
  refine wpAny_call (codeAny_of_tree ?_)
  show wpAny _ A.in1 (callAny (.ref u) ⟨rest, []⟩) _ _ _
  simp only [callAny]
  refine wpAny_bind (wpAny_load hu ?_)
  simp only [kxs_mw, show (Value.type "method-wrapper" == Value.type "method" || Value.type "method-wrapper" == Value.type "builtin_function_or_method" || Value.type "method-wrapper" == Value.type "method-wrapper") = true by decide, if_true]
  refine W.KFB.if_so (by decide) ?_
  refine wpAny_bind (ESX.check_bound F.excBase_ValueError hC he rfl ?_)
  refine wpAny_bind (wpAny_pure (wpAny_pure ?_))
  refine ⟨Code.quiet_builtin _ (by decide +kernel), codeAny_builtin F.excBase_ValueError.initEntry ?_⟩
  rw [Around.under_plainId F.excBase_ValueError.init.plain _]
  wp_walk
  refine hq _ h.objs.size (fun b o hb ho => ?_) ?_
  · rw [Heap.get?_update_other _ _ (Ne.symm hb)]
    exact Heap.get?_push_of_some _ ho
  · rw [Heap.get?_update_self _ (Heap.get?_push_of_some _ he) rfl]
    rfl
end
/-- the context of such an __init__ -/
def cxI (CX : CXT) (P : Program) (w : World) (K : PySem.W.Frag) (mg : Str → Option Value) (base : Heap) (N : List Str) (fd : FuncData) (f : Addr) (A : Around) (outer : List Env) (s : Shared) (H : Hp) (E : XK) : Cx where
  prog := P
  w := w
  K := K
  mg := mg
  base := base
  A := A.deeper (callEnv fd s.heap.objs.size f)
  N := N
  s_0 := s
  H_0 := H
  env := callEnv fd s.heap.objs.size f
  outer := outer
  stack := callEnv fd s.heap.objs.size f :: outer
  ex := []
  calm := true
  fn := fun _ => false
  pn := []
  xe := fun e s' => wpAny (model P w) (A.deeper (callEnv fd s.heap.objs.size f)) (leaving (callEnv fd s.heap.objs.size f) e) (fun _ s'' => CX outer H s E e s'') (fun e' s'' => CX outer H s E e' s'') s'
/-- what is asked of the scope of such an __init__ -/
structure IniScope (N ps : List Str) (sc : Scope) : Prop where
  kind : sc.kind = .function
  co : sc.isCoroutine = false
  gen : sc.isGenerator = false
  nd : N.Nodup
  pre : N.take ps.length = ps
  par : ∀ x ∈ ps, sc.names.lookup x = some .local
  nocell : ∀ y ∈ sc.names, y.2 ≠ .cell
  frees : ∀ y ∈ sc.names, y.2 = NameKind.free → y.1 = "__class__"
  sup : sc.names.lookup ("super" : Str) = some NameKind.globalImplicit
  cl : sc.names.lookup ("__class__" : Str) = some NameKind.free
abbrev iniFd (name qual : Str) (params : Arguments) (body : List Stmt) (scope : Scope) (dV kV doc pm : Value) (an : Option Addr) (cdv ct : Value) (cc : Addr) : FuncData := PySem.W.fnX name qual params body scope [(("__class__" : Str), cc)] dV kV doc pm an cdv ct
theorem look_nd {β : Type} {x : Str} {v : β} : ∀ {l : List (Str × β)}, (l.map (·.1)).Nodup → (x, v) ∈ l → l.lookup x = some v
  | [], _, h => absurd h (by simp)
  | (y, u) :: r, nd, h => by
    rw [List.map_cons, List.nodup_cons] at nd
    rcases List.mem_cons.mp h with e | h
    · cases e
      simp [List.lookup]
    · have ne : x ≠ y := fun e => nd.1 (by rw [← e]; exact List.mem_map_of_mem (f := (·.1)) h)
      have hb : (x == y) = false := by simpa using ne
      simp only [List.lookup, hb]
      exact look_nd nd.2 h
theorem mem_look {sc : Scope} {x : Str} {k : NameKind} (h : sc.names.lookup x = some k) : (x, k) ∈ sc.names := PySem.mem_of_lookup h
theorem ini_start {CX : CXT} {P : Program} {w : World} {K : PySem.W.Frag} {mg : Str → Option Value} {base : Heap} {N ps : List Str} {fd : FuncData} {f cc : Addr} {A : Around} {outer : List Env} {s : Shared} {h1 : Heap} {H : Hp} {E : XK} {us : List Value} {vs : List V} {ocell : Obj} {D : Addr} {tk : Nat}
    (S : IniScope N ps fd.scope) (hcl : fd.closure = [(("__class__" : Str), cc)]) (hgl : fd.globals = mainGlobals) (hbt : fd.builtins = builtinsNs) (hcc : K.lookup cc = some ocell) (hcd : ocell.data = .cell (some (.ref D)))
    (hd : A.handled = none) (e0 : Env0 P w K mg base A outer s H) (hl : vs.length = ps.length) (r : Vals vs us)
    (hns : h1.Ns s.heap.objs.size (fun x => (ps.zip us).reverse.lookup x)) (hk : ∀ b o, s.heap.get? b = some o → h1.get? b = some o) :
    Inv (cxI CX P w K mg base N fd f A outer s H E) [] (start N vs) H { s with heap := h1, toks := tk } := by
  have hpl : ps.length ≤ N.length := by have := congrArg List.length S.pre; rw [List.length_take] at this; omega
  have ecells : (callEnv fd s.heap.objs.size f).cells = [(("__class__" : Str), cc)] := by
    show fd.closure = _
    exact hcl
  have one : ∀ {x c}, (callEnv fd s.heap.objs.size f).cells.lookup x = some c → x = "__class__" ∧ c = cc := fun {x c} e => by
    rw [ecells] at e
    by_cases hx : x = "__class__"
    · subst hx
      simp at e
      exact ⟨rfl, e.symm⟩
    · have hb : (x == ("__class__" : Str)) = false := by simpa using hx
      simp [List.lookup, hb] at e
  have ccb : base.get? cc = some ocell := e0.mod.kin _ _ hcc
  have ccs : s.heap.get? cc = some ocell ∧ H cc = none := e0.bs _ _ ccb
  have isc : ∀ {hp : Heap}, hp.get? cc = some ocell → hp.IsCell cc (some (.ref D)) := fun {hp} e => ⟨ocell, e, hcd⟩
  have ksc : (callEnv fd s.heap.objs.size f).scope = fd.scope := rfl
  have ndP : ps.Nodup := by rw [← S.pre]; exact S.nd.sublist (List.take_sublist _ _)
  refine ⟨⟨e0.mod, S.kind, hgl, hbt, Nat.le_refl _, fun y z c a b => ?_, fun y hy => ?_, fun y c hf _ => ?_, fun _ => hd, Around.frames_deeper e0.frames, .inr ⟨rfl, rfl⟩, fun b z => ?_, e0.bs, e0.bsz, fun b _ _ z => ?_, fun b z => ?_, e0.funs, e0.frf⟩,
    rfl, e0.bare, Un.kept hk, ⟨_, hns, fun i y v a b c => ?_⟩, fun y c e => ?_, e0.hok.fresh (Nat.le_refl _), fun y c e => ?_, fun p hp => absurd (show p ∈ ([] : List (Addr × Obj)) from hp) (by simp), e0.hok.kept hk, ?_⟩
  · rw [(one a).1, (one b).1]
  · have hy : fd.scope.names.lookup y = some .cell ∨ fd.scope.names.lookup y = some .free := hy
    rcases hy with hy | hy
    · exact absurd rfl (S.nocell _ (mem_look hy))
    · have e := S.frees _ (mem_look hy) rfl
      have e' : y = "__class__" := e
      subst e'
      refine ⟨cc, ?_⟩
      show (callEnv fd s.heap.objs.size f).cells.lookup ("__class__" : Str) = some cc
      rw [ecells]
      rfl
  · exact absurd (show false = true from hf) Bool.false_ne_true
  · exact absurd (show b ∈ ([] : List Addr) from z) (by simp)
  · exact absurd (show b ∈ ([] : List Addr) from z) (by simp)
  · exact absurd (show b ∈ ([] : List Addr) from z) (by simp)
  · have hi : i < vs.length := by
      unfold L2.start at b
      by_cases hi : i < vs.length
      · exact hi
      · rw [List.getElem?_append_right (by simpa using hi)] at b
        rw [List.getElem?_replicate] at b
        split at b <;> cases b
    have ha : vs[i]? = some v := by
      unfold L2.start at b
      rw [List.getElem?_append_left (by simpa using hi), List.getElem?_map] at b
      cases e : vs[i]? with
      | none => rw [e] at b; cases b
      | some a => rw [e] at b; cases b; rfl
    obtain ⟨u, hu, rv⟩ := r.get ha
    have hp : ps[i]? = some y := by
      rw [← S.pre, List.getElem?_take_of_lt (by omega)]; exact a
    refine ⟨u, rv, .inl ⟨S.par y (List.mem_of_getElem? hp), ?_⟩⟩
    have hz : (ps.zip us)[i]? = some (y, u) := by
      rw [List.getElem?_zip_eq_some]
      exact ⟨hp, hu⟩
    have nd2 : ((ps.zip us).map (·.1)).Nodup := by
      rw [List.map_fst_zip (by rw [← r.length, hl]; exact Nat.le_refl _)]
      exact ndP
    show (ps.zip us).reverse.lookup y = some u
    rw [lookup_reverse_of_nodup _ nd2]
    exact look_nd nd2 (List.mem_of_getElem? hz)
  · rw [(one e).2]
    exact ⟨_, isc (hk _ _ ccs.1)⟩
  · rw [(one e).2]
    exact ccs.2
  · unfold L2.start
    show _ = N.length
    rw [List.length_append, List.length_map, List.length_replicate]
    omega
/-- super().__init__('m') as the first row, the exception standing at a -/
theorem ini_super {P : Program} {X : Cx} {a C D f cc cda : Addr} {σ : L2.St} {H : Hp} {s : Shared} {fd : FuncData} {ar : Arg} {vs : Array Value} {tf : Tok} {file : Str} {of oco : Obj} {rest : List Stmt} {m : Str} {j : Nat} {p0 p1 ap cp p2 sp : Pos} {body : List Stmt} {Q : Flow → Shared → Prop}
    (T : OexC X.K C) (I : Inv X [] σ H s) (e : H a = some (exo a C none)) (hD : D = C) (hprog : X.prog = P)
    (hks : X.env.kindOf "super" = some .globalImplicit) (hkc : X.env.kindOf "__class__" = some .free) (hcells : X.env.cells = [(("__class__" : Str), cc)]) (hfu : X.env.func = some f) (hf : X.K.lookup f = some of) (hfd : of.data = .func fd)
    (hp : (fd.params.posonlyargs ++ fd.params.args).head? = some ar) (hco : X.env.code = .ref cda) (hcc : X.K.lookup cda = some oco) (hoc : oco.data = .fields vs) (hvs : vs[2]? = some (.str file tf)) (hfile : (P.main.file == file) = true) (htop : (P.main.scope.names.lookup ("super" : Str)).isSome = false)
    (hcell : ∃ ol, X.K.lookup cc = some ol ∧ ol.data = .cell (some (.ref D))) (hsi : X.mg "super" = none)
    (hN : X.N[0]? = some ar.arg) (hσ : σ[0]? = some (some (.ref a))) (hloc : X.env.kindOf ar.arg = some .local) (hth : PySem.W.nsIn X.K cStatics "thirdparty.any" = some none)
    (hin : PySem.W.ks_superIn X.K C C "__init__" = some (some (.builtin "ValueError.__init__"))) (hsub : PySem.W.subIn X.K (.ref C) (.type "ValueError") = some true) (hmro : PySem.W.mroIn X.K C (.ref C) = some true) (hA : X.A.handled = none)
    (hst : swapsWith (.Call (.Attribute (.Call (.Name "super" p0) [] [] p1) "__init__" ap) [.Constant (.str m) j p2] [] cp) none sp.line X.env = pure false)
    (hev : ∃ pl : Sem Bool, eval (.Call (.Attribute (.Call (.Name "super" p0) [] [] p1) "__init__" ap) [.Constant (.str m) j p2] [] cp) X.env = (do
        let ov ← attributeBase (.Call (.Name "super" p0) [] [] p1) "__init__" X.env (eval (.Call (.Name "super" p0) [] [] p1) X.env)
        standAt ap.atName
        let (f, first) ← holding [ov] (getMethod ov "__init__" pl)
        callWith cp f first (backTo cp (starEach [.Constant (.str m) j p2] X.env)) []))
    (h : ∀ s', Inv X [] σ H s' → wpAny (model P X.w) X.A (execs rest X.env) Q X.xe s') :
    wpAt (model P X.w) X.A (.func body X.env) (execs (.Expr (.Call (.Attribute (.Call (.Name "super" p0) [] [] p1) "__init__" ap) [.Constant (.str m) j p2] [] cp) sp :: rest) X.env) Q X.xe s := by
  subst hD
  subst hprog
  obtain ⟨nm, q', N', bs, bm, sn, sub, ab, col, dd, k0, k1, k2, k3, k5, hC, hbm⟩ := id T.cls
  obtain ⟨t1, ho⟩ := exo_at I.hok e
  have hcl : PySem.W.clsIn X.K D = some { name := nm, bases := bs, mro := .ref D :: bm, ns := N', qualname := q', hasDict := true, slotNames := sn, subclasses := sub, abstract := ab, collection := col, hasDel := false } := by unfold PySem.W.clsIn; rw [hC] <;> rfl
  obtain ⟨ocl, hcl1, hcl2⟩ := hcell
  obtain ⟨pl, hev⟩ := hev
  have LI : PySem.W.InstAt s.heap a { cls := .ref D, data := .fields #[.ref t1, .none, .none, .none, .bool false, .none] } D none := ⟨ho, rfl, rfl, trivial⟩
  refine ks_wpAt_execs_cons ?_
  refine ks_wpAt_Expr_any ?_ I.quiet hst
  refine ks_wpAt_MethodCall (pl := pl) ?_ hev
  refine ks_wpAt_super_base (env := X.env) hks hkc (by decide) hfu (I.kIn _ _ hf) hfd hp hco (I.kIn _ _ hcc) hoc hvs hfile htop ?_
  obtain ⟨mb, hb1, hb2⟩ := I.mod.blt
  refine PySem.W.ks_loadName_global I.ok.kind hks (Calls.loadGlobal_builtin (by rw [I.ok.glob]; exact I.mod.glob.keeps I.bk) hsi (by rw [I.ok.blt]; exact hb1.keeps I.bk) ((hb2 "super" (by decide)).trans (by decide +kernel : bootBuiltins "super" = some (.type "super"))) ⟨rfl, ?_⟩)
  have hcc' : X.env.cells.lookup ("__class__" : Str) = some cc := by rw [hcells]; rfl
  refine wpAny_loadName_free I.ok.kind hkc hcc' ⟨_, I.kIn _ _ hcl1, hcl2⟩ ?_
  obtain ⟨mm, hn, hlk⟩ := id I.loc
  obtain ⟨u, ru, hl⟩ := hlk 0 ar.arg (.ref a) hN hσ (.inl hloc)
  obtain rfl : u = Value.ref a := ru
  have hv : mm ar.arg = some (.ref a) := by
    rcases hl with ⟨_, h⟩ | ⟨h, _⟩
    · exact h
    · rw [hloc] at h
      rcases h with h | h <;> cases h
  refine wpAny_loadName_local I.ok.kind hloc hn hv ?_
  have hCs := I.kIn _ _ hC
  refine ks_wpAny_isType_cls hCs rfl ⟨rfl, ?_⟩
  obtain ⟨hp0, g, d, t, os⟩ := s
  refine ks_wpAny_call_super hCs rfl ho rfl (fun c z => nomatch z) (PySem.W.looks_mroIn I.kIn hmro) fun h' hso k => ?_
  have I2 : Inv X [] σ H ⟨h', g, d, t, os⟩ := I.kept (t' := t) k
  have LM : PySem.W.Looks (model X.prog X.w) h' (mroOf (.ref D)) (.ref D :: bm) := fun A Q E s kk z => wpAny_bind ((PySem.W.looks_clsIn I2.kIn hcl) A _ E s kk (wpAny_pure z))
  have hin' : PySem.W.alongIn X.K "__init__" (((.ref D :: bm).dropWhile (· != .ref D)).drop 1) = some (some (.builtin "ValueError.__init__")) := by
    have z := hin
    unfold PySem.W.ks_superIn at z
    rw [hcl] at z
    exact z
  have LI2 : PySem.W.InstAt h' a { cls := .ref D, data := .fields #[.ref t1, .none, .none, .none, .bool false, .none] } D none := ⟨k _ _ ho, rfl, rfl, trivial⟩
  have hI2 : PySem.W.Looks (model X.prog X.w) h' (isInstance (.ref a) (.type "ValueError")) true := LI2.type.andThen (PySem.W.looks_subIn I2.kIn hsub)
  refine PySem.W.kxs_getMethod PySem.W.kxs_ValueError hso (PySem.W.looks_opaque I2.kIn hth) LM rfl I2.kIn hin' hI2 (PySem.W.ks_ne I2.kIn LI2 hcl) (by decide) ?_
  have I3 : Inv X [] σ H ⟨h'.push (PySem.W.kxs_mw "ValueError.__init__" a), g, d, t + 1, os⟩ := I2.kept (t' := t + 1) fun b o z => Heap.get?_push_of_some _ z
  have hu3 : (h'.push (PySem.W.kxs_mw "ValueError.__init__" a)).get? h'.objs.size = some (PySem.W.kxs_mw "ValueError.__init__" a) := Heap.get?_push_size _ rfl
  show wpAny _ _ (callWith cp (Value.ref h'.objs.size) [] (backTo cp (starEach [.Constant (.str m) j p2] X.env)) []) _ _ _
  have he : starEach [.Constant (.str m) j p2] X.env = (false, eval (.Constant (.str m) j p2) X.env) :: starEach [] X.env := by rfl
  have ha : PA X [.Constant (.str m) j p2] (tCons (tC (.str m)) tNil) := pa_cons pe_str pa_nil
  have I3p := I3.pinned (fp := [h'.objs.size]) (fun b hb => by
      have eb : b = h'.objs.size := by simpa using hb
      rw [eb]
      have z := I2.fpOk (b := h'.objs.size) (H' := H) (Nat.le_refl _) (I2.hok.fresh (Nat.le_refl _))
      exact z) (fun b hb => by
      have eb : b = h'.objs.size := by simpa using hb
      rw [eb]
      exact ⟨_, hu3, fun v z => nomatch z⟩)
  have hsp := ha.run cp _ _ σ H (fun vs H1 => vs = [V.str m] ∧ H = H1) I3p ⟨rfl, rfl⟩
  rw [he] at hsp ⊢
  refine PySem.W.kxs_callWith (i := "ValueError.__init__") (x := a) (by rfl) (Calls.evalArgs_plain ?_)
  refine thn hsp fun us s4 hh => ?_
  obtain ⟨vs4, H4, I4, r4, ev, eH⟩ := hh
  subst ev
  rw [← eH] at I4
  have hu4 : s4.heap.get? h'.objs.size = some (PySem.W.kxs_mw "ValueError.__init__" a) :=
    (I4.pin (h'.objs.size, PySem.W.kxs_mw "ValueError.__init__" a) (List.mem_append_right _ (List.mem_append_right _ (mem_pinsAt (fp := [h'.objs.size]) (by simp) hu3)))).1
  refine ⟨hu4, ?_⟩
  obtain ⟨t4, ho4⟩ := exo_at I4.hok e
  have I5 : Inv X [] σ H s4 := I4.pins_of fun p hp => by
    have hp' : p ∈ X.pn := by simpa using hp
    exact I4.pin p (List.mem_append_left _ hp')
  obtain ⟨hp4, g4, d4, tk4, os4⟩ := s4
  have hlen : us.length ≤ sizeLine := by
    rw [← Paired.length r4, sizeLine_eq]
    show 1 ≤ 16777216
    decide
  refine call_mw (I5.kIn _ _ hC) ho4 hu4 hlen fun h5 t5 k5 hx5 => ?_
  have J := I5.write (t' := tk4) (x := a) (e := a) (o := exo a D none) (by rw [e]; exact True.intro) (.inl rfl) k5 ⟨_, hx5⟩ (exo_ok hx5)
  have eu : upd H a (exo a D none) = H := by
    funext b
    by_cases hb : b = a
    · rw [hb, upd_same, e]
    · rw [upd_ne hb]
  rw [eu] at J
  exact wpAt_of_wpAny (h _ J)
/-- what the written part says of such an __init__ at f: C its class -/
structure IniF (P : Program) (K : PySem.W.Frag) (mg : Str → Option Value) (C f : Addr) (name qual : Str) (params : Arguments) (body : List Stmt) (scope : Scope) (fd : FuncData) : Prop where
  ex : ∃ (oc : Value) (od : Option Addr) (kV doc pm : Value) (an : Option Addr) (cda : Addr) (ct : Value) (osl : Array (Option Value)) (cc : Addr) (ocl oco : Obj) (vs : Array Value) (tf : Tok),
    fd = iniFd name qual params body scope .none kV doc pm an (.ref cda) ct cc ∧ K.lookup f = some ⟨oc, od, .func fd, osl⟩ ∧ PySem.W.codeIn K (.ref cda) qual = true ∧
      K.lookup cc = some ocl ∧ ocl.data = .cell (some (.ref C)) ∧ K.lookup cda = some oco ∧ oco.data = .fields vs ∧ vs[2]? = some (.str P.main.file tf)
  sup : mg "super" = none
  th : PySem.W.nsIn K cStatics "thirdparty.any" = some none
  inn : PySem.W.ks_superIn K C C "__init__" = some (some (.builtin "ValueError.__init__"))
  sub : PySem.W.subIn K (.ref C) (.type "ValueError") = some true
  mro : PySem.W.mroIn K C (.ref C) = some true
  init : PySem.W.findIn K (.ref C) "__init__" = some (some (.ref f))
  typ : PySem.W.typeIn K (.ref f) = some (.type "function")
  top : (P.main.scope.names.lookup ("super" : Str)).isSome = false
/-- a class's own __init__, its first row super().__init__('m') -/
theorem fn_ini {CX : CXT} {P : Program} {w : World} {K : PySem.W.Frag} {mg : Str → Option Value} {base : Heap} {k : Nat} {C f : Addr} {name qual : Str} {params : Arguments} {scope : Scope} {fd : FuncData} {N ps : List Str} {sp : Sp} {ar : Arg} {rest : List Stmt} {m : Str} {j : Nat} {p0 p1 ap cp p2 rp : Pos} {x : Str}
    (F : IniF P K mg C f name qual params (.Expr (.Call (.Attribute (.Call (.Name "super" p0) [] [] p1) "__init__" ap) [.Constant (.str m) j p2] [] cp) rp :: rest) scope fd) (T : OexC K C) (S : IniScope N ps scope)
    (hp : (params.posonlyargs ++ params.args).head? = some ar) (hN : N[0]? = some ar.arg) (hps : ar.arg ∈ ps)
    (hev : ∀ env : Env, ∃ pl : Sem Bool, eval (.Call (.Attribute (.Call (.Name "super" p0) [] [] p1) "__init__" ap) [.Constant (.str m) j p2] [] cp) env = (do
        let ov ← attributeBase (.Call (.Name "super" p0) [] [] p1) "__init__" env (eval (.Call (.Name "super" p0) [] [] p1) env)
        standAt ap.atName
        let (f, first) ← holding [ov] (getMethod ov "__init__" pl)
        callWith cp f first (backTo cp (starEach [.Constant (.str m) j p2] env)) []))
    (len : ∀ vs H Q E, sp vs H Q E → vs.length = ps.length) (hsp : ∀ vs H Q E, sp vs H Q E → ∃ a ws, vs = .ref a :: ws ∧ H a = some (exo a C none))
    (hbody : ∀ (A : Around) (outer : List Env) (s : Shared) (H : Hp) (vs : List V) (Q : VK) (E : XK), Room k (A.deeper (callEnv fd s.heap.objs.size f)) → sp vs H Q E →
      ∃ t, PSs (cxI CX P w K mg base N fd f A outer s H E) rest t ∧ t { nx := fun _ H' => Q .non H', rt := Q } (start N vs) H) :
    FnOk P w K mg base CX (k + 1) f fd ps sp := by
  obtain ⟨oc, od, kV, doc, pm, an, cda, ct, osl, cc, ocl, oco, vsc, tf, hfd, lk, hcd, hcl, hcld, hco, hcod, hvs⟩ := F.ex
  refine ⟨len, fun A outer s H args us vs Q E hr e0 hb r hq0 => ?_⟩
  have hl := len _ _ _ _ hq0
  obtain ⟨a, ws, ev, he⟩ := hsp _ _ _ _ hq0
  have KX : K.In s.heap := e0.mod.kin.keeps fun b o e => (e0.bs b o e).1
  have lim : s.heap.NoLimit := e0.mod.nolimit.keeps fun b o e => (e0.bs b o e).1
  subst hfd
  refine ks_codeAny_call_defAt hr.depth (KX _ _ lk) rfl lim (PySem.W.codeRec_of KX hcd) rfl hb S.nocell (fun y hy => S.par _ (List.of_mem_zip (show (y.1, y.2) ∈ ps.zip us from hy)).1) (fun h0 hns hk => ?_) S.co S.gen S.kind
  have I : Inv (cxI CX P w K mg base N (iniFd name qual params (.Expr (.Call (.Attribute (.Call (.Name "super" p0) [] [] p1) "__init__" ap) [.Constant (.str m) j p2] [] cp) rp :: rest) scope .none kV doc pm an (.ref cda) ct cc) f A outer s H E) [] (start N vs) H { s with heap := h0, toks := s.toks + (ps.zip us).length } :=
    ini_start S rfl rfl rfl hcl hcld hr.hd e0 hl r hns hk
  obtain ⟨t, ht, hq⟩ := hbody A outer s H vs Q E (hr.deeper _) hq0
  have h00 : (start N vs)[0]? = some (some (.ref a)) := by
    rw [ev]
    rfl
  refine wpAt_mono (ini_super (P := P) (X := cxI CX P w K mg base N (iniFd name qual params (.Expr (.Call (.Attribute (.Call (.Name "super" p0) [] [] p1) "__init__" ap) [.Constant (.str m) j p2] [] cp) rp :: rest) scope .none kV doc pm an (.ref cda) ct cc) f A outer s H E) T I he rfl rfl S.sup S.cl rfl rfl lk rfl hp rfl hco hcod hvs (by simp) F.top ⟨ocl, hcl, hcld⟩ F.sup hN h00 (S.par _ hps) F.th F.inn F.sub F.mro hr.hd rfl (hev _) fun s' J => ht.run [] s' (start N vs) H _ J hq) (fun fl s' hs => ?_) fun e s' hs => hs
  cases fl with
  | ret u =>
    obtain ⟨v, σ', H', J, rv, q⟩ := hs
    exact ⟨v, H', J.os, J.bare, J.base, J.hok, rv, q⟩
  | next =>
    obtain ⟨σ', H', J, q⟩ := hs
    exact ⟨V.non, H', J.os, J.bare, J.base, J.hok, rfl, q⟩
  | brk =>
    obtain ⟨_, _, _, q⟩ := hs
    exact False.elim q
  | cont =>
    obtain ⟨_, _, _, q⟩ := hs
    exact False.elim q
end Y

namespace Y
open PySem PySem.Spec L2 He
/-! ### an __init__ of the head's -/
theorem iniF_of {P : Program} {K : PySem.W.Frag} {h : Heap} {mg : Str → Option Value} {d : DefI} {file : Str} (hm : P.main.file = file) (ht : (P.main.scope.names.lookup ("super" : Str)).isSome = false) (hs : mg "super" = none) (c : d.ok K file = true) (e : fnI K d.at_ = d.val) :
    ∃ fd, IniF P K mg (ga K d.cls) (fAd K d.at_) d.name d.qual d.params d.body d.scope fd := by
  unfold DefI.ok at c
  obtain ⟨c1, c⟩ := ba c
  obtain ⟨c2, c⟩ := ba c
  obtain ⟨c3, c⟩ := ba c
  obtain ⟨c4, c⟩ := ba c
  obtain ⟨c5, c⟩ := ba c
  obtain ⟨c6, c⟩ := ba c
  obtain ⟨c7, c⟩ := ba c
  unfold fnI at e
  cases q : K.lookup (fAd K d.at_) with
  | none =>
    rw [q] at c
    cases c
  | some o =>
    obtain ⟨oc, od, dt, osl⟩ := o
    rw [q] at c e
    cases dt with
    | func fd =>
      obtain ⟨n1, n2, n3, n4, n5, n6, n7, n8, n9, n10, n11, n12, n13, n14, n15⟩ := fd
      have e2 : (some (n1, n2, n3, n4, n5, n6, n7.map (·.1), n15) : FnI) = (some (d.name, d.qual, d.params, FuncBody.stmts d.body, d.scope, mainGlobals, ["__class__"], builtinsNs) : FnI) := e
      simp only [Option.some.injEq, Prod.mk.injEq] at e2
      obtain ⟨h1, h2, h3, h4, h5, h6, h7, h8⟩ := e2
      subst h1 h2 h3 h4 h5 h6 h8
      have c8 : iniB K (ga K d.cls) _ d.qual file = true := c
      unfold iniB at c8
      obtain ⟨c13, c14⟩ := ba c8
      obtain ⟨c11, c10⟩ := ba c13
      obtain ⟨c12, c9⟩ := ba c11
      clear c8 c11 c13
      dsimp only at c12 c9 c10 c14
      cases n8 with
      | none => ?_
      | _ => cases c14
      cases n7 with
      | nil => cases c9
      | cons p r =>
        cases r with
        | cons p2 r2 => cases c9
        | nil =>
          obtain ⟨pn, cc⟩ := p
          have epn : pn = "__class__" := by
            have z : [pn] = [("__class__" : Str)] := h7
            exact List.head_eq_of_cons_eq z
          subst epn
          dsimp only at c9
          cases ql : K.lookup cc with
          | none =>
            rw [ql] at c9
            cases c9
          | some ol =>
            obtain ⟨lc, ld, ldt, lsl⟩ := ol
            rw [ql] at c9
            cases ldt with
            | cell v =>
              cases v with
              | none => cases c9
              | some v =>
                cases v with
                | ref D =>
                  have eD : D = ga K d.cls := of_decide_eq_true c9
                  subst eD
                  cases n13 with
                  | ref cda =>
                    dsimp only at c10
                    cases qc : K.lookup cda with
                    | none =>
                      rw [qc] at c10
                      cases c10
                    | some oo =>
                      obtain ⟨occ, ocd, ocdt, ocsl⟩ := oo
                      rw [qc] at c10
                      cases ocdt with
                      | fields vs =>
                        dsimp only at c10
                        obtain ⟨l⟩ := vs
                        match l, c10 with
                        | _ :: _ :: .str f tf :: rest, c10 =>
                          have ef : f = file := of_decide_eq_true c10
                          subst ef
                          refine ⟨_, ⟨oc, od, n9, n10, n11, n12, cda, n14, osl, cc, _, _, _, tf, rfl, q, c12, ql, rfl, qc, rfl, ?_⟩, hs, of_decide_eq_true c7, of_decide_eq_true c4, of_decide_eq_true c5, of_decide_eq_true c6, of_decide_eq_true c3, of_decide_eq_true c2, ht⟩
                          rw [hm]
                          rfl
                      | _ => cases c10
                  | _ => cases c10
                | _ => cases c9
            | _ => cases c9
    | _ => cases c
/-! ### raising an own exception with fields -/
/-- __init__ stores the arguments under the names fs, in order -/
def spIni (C : Addr) (fs : List Str) : Sp := fun vs H Q _ => ∃ (a : Addr) (ws : List V), vs = .ref a :: ws ∧ ws.length = fs.length ∧ H a = some (exo a C none) ∧
  ∀ dx, H dx = none → dx ≠ a → Q .non (upd (upd H dx (exd dx (fs.zip ws).reverse)) a (exo a C (some dx)))
/-- an own exception class, named x, ready to be raised -/
structure Rz (P : Program) (w : World) (K : PySem.W.Frag) (mg : Str → Option Value) (base : Heap) (x : Str) (C : Addr) (fs : List Str) : Prop where
  g : mg x = some (.ref C)
  o : OexC K C
  ex : ∃ (fI : Addr) (fd : FuncData) (ps : List Str), FnOk P w K mg base CX0 1 fI fd ps (spIni C fs) ∧ Binds K fd ps [] ∧ PySem.W.findIn K (.ref C) "__init__" = some (some (.ref fI)) ∧ PySem.W.typeIn K (.ref fI) = some (.type "function")
def tRz (C : Addr) (fs : List Str) (ta : TA) : L2.St → Hp → XK → Prop := fun σ H Q => ta σ H fun vs H1 => vs.length = fs.length ∧ vs.length ≤ 1000 ∧ ∀ d, H1 d = none → Q (.ref C) (some d) (upd H1 d (.xd (fs.zip vs).reverse))
def tMon (t : TA) : TA := fun σ H Q => ∃ Q0 : List V → Hp → Prop, t σ H Q0 ∧ ∀ vs H1, Q0 vs H1 → Q vs H1
theorem pa_mon {X : Cx} {es : List Expr} {t : TA} (h : PA X es t) : PA X es (tMon t) := by
  refine ⟨fun pos pins s σ H Q I q => ?_⟩
  obtain ⟨Q0, h0, k⟩ := q
  refine thn (h.run pos pins s σ H Q0 I h0) fun us s1 z => ?_
  obtain ⟨vs, H1, I1, r, q⟩ := z
  exact ⟨vs, H1, I1, r, k _ _ q⟩
theorem pmk_rz {X : Cx} {x : Str} {C : Addr} {fs : List Str} {e : Expr} {es : List Expr} {ta : TA} {p pos : Pos} (R : Rz X.prog X.w X.K X.mg X.base x C fs) (hr : Room 2 X.A) (hg : Gl X x) (ha : PA X (e :: es) ta)
    (hdb : (x == ("__debug__" : Str)) = false := by decide) (he : starEach (e :: es) X.env = (false, eval e X.env) :: starEach es X.env := by rfl) (hpl : (backTo pos (starEach es X.env)).any (·.1) = false := by rfl) :
    PMk X (.Call (.Name x p) (e :: es) [] pos) (tRz C fs ta) := by
  obtain ⟨fI, fd, ps, F1, hb, iC, tI⟩ := R.ex
  have key := pmk_oex (X := X) (p := p) (pos := pos) (dvs := []) (ds := []) R.o iC tI F1 hr hb .nil pass0 hg R.g (pa_mon ha) hdb he hpl
  intro pins s σ H Q I h
  refine key pins s σ H Q I ?_
  have h' : ta σ H fun vs H1 => vs.length = fs.length ∧ vs.length ≤ 1000 ∧ ∀ d, H1 d = none → Q (.ref C) (some d) (upd H1 d (.xd (fs.zip vs).reverse)) := h
  refine ⟨_, h', fun vs H1 z => ?_⟩
  obtain ⟨z1, z2, z3⟩ := z
  refine ⟨z2, fun a na => ?_⟩
  rw [List.append_nil]
  refine ⟨a, vs, rfl, z1, upd_same, fun dx nd ne => ⟨rfl, dx, (fs.zip vs).reverse, upd_same, ?_, ?_, ?_⟩⟩
  · rw [upd_ne ne, upd_same]
  · rw [upd_ne ne] at nd
    exact nd
  · have nd1 : H1 dx = none := by
      rw [upd_ne ne] at nd
      exact nd
    have q := z3 dx nd1
    have e : upd (del (upd (upd (upd H1 a (exo a C none)) dx (exd dx (fs.zip vs).reverse)) a (exo a C (some dx))) a) dx (.xd (fs.zip vs).reverse) = upd H1 dx (.xd (fs.zip vs).reverse) := by
      funext b
      by_cases h1 : b = dx
      · rw [h1, upd_same, upd_same]
      · rw [upd_ne h1, upd_ne h1]
        by_cases h2 : b = a
        · rw [h2, del_same, na]
        · rw [del_ne h2, upd_ne h2, upd_ne h1, upd_ne h2]
    rw [e]
    exact q
end Y

namespace Hk91
open PySem PySem.Spec L2 He Y
def top (i : Nat) : Stmt := PySem.Challenge.pw_fromyesalone_k91_texts_of_samples.main.body.getD i (.Pass ⟨0, 0, 0, 0⟩)
abbrev s_wall : Stmt := top 0
abbrev s_BadWord_init__ : Stmt := inClass (top 4) 0
abbrev s_TooMany_init__ : Stmt := inClass (top 5) 0
abbrev s_BadText_init__ : Stmt := inClass (top 6) 0
abbrev s_check_letters : Stmt := top 10
abbrev s_check_word : Stmt := top 11
abbrev s_order_key : Stmt := top 12
abbrev s_in_order : Stmt := top 13
abbrev s_check_words : Stmt := top 17
abbrev s_Sample_init : Stmt := inClass (top 18) 0
abbrev s_Sample_with_yes : Stmt := inClass (top 18) 1
abbrev s_Sample_with_no : Stmt := inClass (top 18) 2
abbrev s_Sample_without : Stmt := inClass (top 18) 3
abbrev s_written : Stmt := top 20
abbrev s_word_of : Stmt := top 21
abbrev s_are_letters : Stmt := top 22
abbrev s_sample_text : Stmt := top 23
abbrev s_read_sample : Stmt := top 24
abbrev s_law_start : Stmt := top 26
abbrev s_law_next : Stmt := top 27
abbrev s_law_integer : Stmt := top 28
abbrev s_law_alphabet : Stmt := top 29
abbrev s_law_word : Stmt := top 30
abbrev s_law_ordered : Stmt := top 31
abbrev s_law_text : Stmt := top 32
abbrev s_law_good_letters : Stmt := top 33
abbrev s_law_read : Stmt := top 34
abbrev s_law_words_are : Stmt := top 35
abbrev s_law_reads : Stmt := top 36
abbrev s_law_word_at : Stmt := top 37
abbrev s_law_climbing : Stmt := top 38
abbrev s_law_spoilt : Stmt := top 39
abbrev s_law_large : Stmt := top 40
abbrev s_law : Stmt := top 41
def d_wall : DefD := ⟨("_wall", none), "_wall", "_wall", defArgs s_wall, defBody s_wall, defScope s_wall, [], []⟩
def d_check_letters : DefD := ⟨("check_letters", none), "check_letters", "check_letters", defArgs s_check_letters, defBody s_check_letters, defScope s_check_letters, [], []⟩
def d_check_word : DefD := ⟨("check_word", none), "check_word", "check_word", defArgs s_check_word, defBody s_check_word, defScope s_check_word, [], []⟩
def d_order_key : DefD := ⟨("order_key", none), "order_key", "order_key", defArgs s_order_key, defBody s_order_key, defScope s_order_key, [], []⟩
def d_in_order : DefD := ⟨("in_order", none), "in_order", "in_order", defArgs s_in_order, defBody s_in_order, defScope s_in_order, [], []⟩
def d_check_words : DefD := ⟨("check_words", none), "check_words", "check_words", defArgs s_check_words, defBody s_check_words, defScope s_check_words, [], []⟩
def d_Sample_init : DefD := ⟨("Sample", some "__init__"), "__init__", "Sample.__init__", defArgs s_Sample_init, defBody s_Sample_init, defScope s_Sample_init, [], []⟩
def d_Sample_with_yes : DefD := ⟨("Sample", some "with_yes"), "with_yes", "Sample.with_yes", defArgs s_Sample_with_yes, defBody s_Sample_with_yes, defScope s_Sample_with_yes, [], []⟩
def d_Sample_with_no : DefD := ⟨("Sample", some "with_no"), "with_no", "Sample.with_no", defArgs s_Sample_with_no, defBody s_Sample_with_no, defScope s_Sample_with_no, [], []⟩
def d_Sample_without : DefD := ⟨("Sample", some "without"), "without", "Sample.without", defArgs s_Sample_without, defBody s_Sample_without, defScope s_Sample_without, [], []⟩
def d_written : DefD := ⟨("written", none), "written", "written", defArgs s_written, defBody s_written, defScope s_written, [], []⟩
def d_word_of : DefD := ⟨("word_of", none), "word_of", "word_of", defArgs s_word_of, defBody s_word_of, defScope s_word_of, [], []⟩
def d_are_letters : DefD := ⟨("are_letters", none), "are_letters", "are_letters", defArgs s_are_letters, defBody s_are_letters, defScope s_are_letters, [], []⟩
def d_sample_text : DefD := ⟨("sample_text", none), "sample_text", "sample_text", defArgs s_sample_text, defBody s_sample_text, defScope s_sample_text, [], []⟩
def d_read_sample : DefD := ⟨("read_sample", none), "read_sample", "read_sample", defArgs s_read_sample, defBody s_read_sample, defScope s_read_sample, [], []⟩
def d_law_start : DefD := ⟨("_law_start", none), "_law_start", "_law_start", defArgs s_law_start, defBody s_law_start, defScope s_law_start, [], []⟩
def d_law_next : DefD := ⟨("_law_next", none), "_law_next", "_law_next", defArgs s_law_next, defBody s_law_next, defScope s_law_next, [], []⟩
def d_law_integer : DefD := ⟨("_law_integer", none), "_law_integer", "_law_integer", defArgs s_law_integer, defBody s_law_integer, defScope s_law_integer, [], []⟩
def d_law_alphabet : DefD := ⟨("_law_alphabet", none), "_law_alphabet", "_law_alphabet", defArgs s_law_alphabet, defBody s_law_alphabet, defScope s_law_alphabet, [], []⟩
def d_law_word : DefD := ⟨("_law_word", none), "_law_word", "_law_word", defArgs s_law_word, defBody s_law_word, defScope s_law_word, [], []⟩
def d_law_ordered : DefD := ⟨("_law_ordered", none), "_law_ordered", "_law_ordered", defArgs s_law_ordered, defBody s_law_ordered, defScope s_law_ordered, [], []⟩
def d_law_text : DefD := ⟨("_law_text", none), "_law_text", "_law_text", defArgs s_law_text, defBody s_law_text, defScope s_law_text, [], []⟩
def d_law_good_letters : DefD := ⟨("_law_good_letters", none), "_law_good_letters", "_law_good_letters", defArgs s_law_good_letters, defBody s_law_good_letters, defScope s_law_good_letters, [], []⟩
def d_law_read : DefD := ⟨("_law_read", none), "_law_read", "_law_read", defArgs s_law_read, defBody s_law_read, defScope s_law_read, [], []⟩
def d_law_words_are : DefD := ⟨("_law_words_are", none), "_law_words_are", "_law_words_are", defArgs s_law_words_are, defBody s_law_words_are, defScope s_law_words_are, [], []⟩
def d_law_reads : DefD := ⟨("_law_reads", none), "_law_reads", "_law_reads", defArgs s_law_reads, defBody s_law_reads, defScope s_law_reads, [], []⟩
def d_law_word_at : DefD := ⟨("_law_word_at", none), "_law_word_at", "_law_word_at", defArgs s_law_word_at, defBody s_law_word_at, defScope s_law_word_at, [], []⟩
def d_law_climbing : DefD := ⟨("_law_climbing", none), "_law_climbing", "_law_climbing", defArgs s_law_climbing, defBody s_law_climbing, defScope s_law_climbing, [], []⟩
def d_law_spoilt : DefD := ⟨("_law_spoilt", none), "_law_spoilt", "_law_spoilt", defArgs s_law_spoilt, defBody s_law_spoilt, defScope s_law_spoilt, [], []⟩
def d_law_large : DefD := ⟨("_law_large", none), "_law_large", "_law_large", defArgs s_law_large, defBody s_law_large, defScope s_law_large, [], []⟩
def d_law : DefD := ⟨("law", none), "law", "law", defArgs s_law, defBody s_law, defScope s_law, [], []⟩
def i_BadWord : DefI := ⟨"BadWord", "__init__", "BadWord.__init__", defArgs s_BadWord_init__, defBody s_BadWord_init__, defScope s_BadWord_init__⟩
def i_TooMany : DefI := ⟨"TooMany", "__init__", "TooMany.__init__", defArgs s_TooMany_init__, defBody s_TooMany_init__, defScope s_TooMany_init__⟩
def i_BadText : DefI := ⟨"BadText", "__init__", "BadText.__init__", defArgs s_BadText_init__, defBody s_BadText_init__, defScope s_BadText_init__⟩
def fn0 : List DefD := [d_wall, d_check_letters, d_check_word, d_order_key, d_in_order, d_check_words, d_Sample_init, d_Sample_with_yes, d_Sample_with_no, d_Sample_without, d_written, d_word_of, d_are_letters, d_sample_text, d_read_sample, d_law_start, d_law_next, d_law_integer, d_law_alphabet, d_law_word, d_law_ordered, d_law_text, d_law_good_letters, d_law_read, d_law_words_are, d_law_reads, d_law_word_at, d_law_climbing, d_law_spoilt, d_law_large]
def fn1 : List DefD := [d_law]
def fn : List DefD := fn0 ++ fn1
def fi0 : List DefI := [i_BadWord, i_TooMany, i_BadText]
def fi : List DefI := fi0
def fa0 : List Fa := [.glo "_wall", .glo "LanguageError", .exc "LanguageError", .glo "BadLetters", .exc "BadLetters", .glo "BadWord", .glo "TooMany", .glo "BadText", .str "SMALL" "abcdefghijklmnopqrstuvwxyz", .int "MOST_KINDS_OF_LETTERS" 4, .glo "check_letters", .glo "check_word", .glo "order_key", .glo "in_order", .int "MOST_WORDS" 64, .int "MOST_LETTERS" 24, .glo "check_words", .glo "Sample", .cls "Sample", .mkr "Sample", .noat "Sample" "letters", .noat "Sample" "yes", .noat "Sample" "no", .meth "Sample" "with_yes", .meth "Sample" "with_no", .meth "Sample" "without", .glo "written", .glo "word_of", .glo "are_letters", .glo "sample_text"]
def fa1 : List Fa := [.glo "read_sample", .glo "_law_start", .glo "_law_next", .glo "_law_integer", .glo "_law_alphabet", .glo "_law_word", .glo "_law_ordered", .glo "_law_text", .glo "_law_good_letters", .glo "_law_read", .glo "_law_words_are", .glo "_law_reads", .glo "_law_word_at", .glo "_law_climbing", .glo "_law_spoilt", .glo "_law_large", .glo "law", .free "abs", .free "all", .free "any", .free "bool", .free "enumerate", .free "int", .free "isinstance", .free "len", .free "list", .free "range", .free "sorted", .free "str", .free "super"]
def fa2 : List Fa := [.free "tuple", .free "ValueError"]
def fa : List Fa := fa0 ++ fa1 ++ fa2
def fb0 : List Fb := [.exq "LanguageError", .exq "BadLetters", .exq "BadWord", .exq "TooMany", .exq "BadText", .own "Sample", .noat "BadWord" "word", .noat "BadWord" "place", .noat "TooMany" "limit", .noat "BadText" "line", .kit "LanguageError" "LanguageError" true, .exm "LanguageError" "LanguageError" true, .kit "LanguageError" "BadLetters" false, .exm "LanguageError" "BadLetters" false, .kit "LanguageError" "BadWord" false, .exm "LanguageError" "BadWord" false, .kit "LanguageError" "TooMany" false, .exm "LanguageError" "TooMany" false, .kit "LanguageError" "BadText" false, .exm "LanguageError" "BadText" false, .kit "BadLetters" "LanguageError" true, .exm "BadLetters" "LanguageError" true, .kit "BadLetters" "BadLetters" true, .exm "BadLetters" "BadLetters" true, .kit "BadLetters" "BadWord" false, .exm "BadLetters" "BadWord" false, .kit "BadLetters" "TooMany" false, .exm "BadLetters" "TooMany" false, .kit "BadLetters" "BadText" false, .exm "BadLetters" "BadText" false]
def fb1 : List Fb := [.kit "BadWord" "LanguageError" true, .exm "BadWord" "LanguageError" true, .kit "BadWord" "BadLetters" false, .exm "BadWord" "BadLetters" false, .kit "BadWord" "BadWord" true, .exm "BadWord" "BadWord" true, .kit "BadWord" "TooMany" false, .exm "BadWord" "TooMany" false, .kit "BadWord" "BadText" false, .exm "BadWord" "BadText" false, .kit "TooMany" "LanguageError" true, .exm "TooMany" "LanguageError" true, .kit "TooMany" "BadLetters" false, .exm "TooMany" "BadLetters" false, .kit "TooMany" "BadWord" false, .exm "TooMany" "BadWord" false, .kit "TooMany" "TooMany" true, .exm "TooMany" "TooMany" true, .kit "TooMany" "BadText" false, .exm "TooMany" "BadText" false, .kit "BadText" "LanguageError" true, .exm "BadText" "LanguageError" true, .kit "BadText" "BadLetters" false, .exm "BadText" "BadLetters" false, .kit "BadText" "BadWord" false, .exm "BadText" "BadWord" false, .kit "BadText" "TooMany" false, .exm "BadText" "TooMany" false, .kit "BadText" "BadText" true, .exm "BadText" "BadText" true]
def fb2 : List Fb := [.kit "Sample" "Sample" true]
def fb : List Fb := fb0 ++ fb1 ++ fb2
def names0 : List PySem.Str := ["_wall", "LanguageError", "BadLetters", "BadWord", "TooMany", "BadText", "SMALL", "MOST_KINDS_OF_LETTERS", "check_letters", "check_word", "order_key", "in_order", "MOST_WORDS", "MOST_LETTERS", "check_words", "Sample", "written", "word_of", "are_letters", "sample_text", "read_sample", "_law_start", "_law_next", "_law_integer", "_law_alphabet", "_law_word", "_law_ordered", "_law_text", "_law_good_letters", "_law_read"]
def names1 : List PySem.Str := ["_law_words_are", "_law_reads", "_law_word_at", "_law_climbing", "_law_spoilt", "_law_large"]
def names : List PySem.Str := names0 ++ names1
def file : Str := "/claim/cut.py"
abbrev R : PySem.W.OpenRow := PySem.W.OpenLaw.row PySem.Challenge.rw_fromyesalone_k91_texts_of_samples
abbrev hk : PySem.W.Hook := hookI 5 fa fn fb fi file
def ob (s : PySem.W.SharedT) : AlI := obsIG 5 fa fn fb fi file (HandSHeadRun.getT s)
theorem ob_eq (s : PySem.W.SharedT) : ob s = hk.obs s.abs := obsIG_eq (HandSHeadRun.getT_eq s)
theorem run (w : World) : HandSHeadRun.RunEq R (PySem.W.view R.prog [41]) hk ob 3000 names w := by
  intro os
  kernel_rfl
structure Txt (P : Program) (w : World) (K : PySem.W.Frag) (mg : Str → Option Value) : Prop where
  gd_wall : mg "_wall" = some (.ref (ga K "_wall"))
  g_LanguageError : mg "LanguageError" = some (.ref (ga K "LanguageError"))
  x_LanguageError : PySem.W.excIn K (ga K "LanguageError") veBase "ValueError.__new__" = true
  k_LanguageError : PySem.W.keepIn K (.ref (ga K "LanguageError")) = true
  s_LanguageError : PySem.W.subIn K (.ref (ga K "LanguageError")) (.type "BaseException") = some true
  t_LanguageError : PySem.W.typeIn K (.ref (ga K "LanguageError")) = some (.type "type")
  g_BadLetters : mg "BadLetters" = some (.ref (ga K "BadLetters"))
  x_BadLetters : PySem.W.excIn K (ga K "BadLetters") veBase "ValueError.__new__" = true
  k_BadLetters : PySem.W.keepIn K (.ref (ga K "BadLetters")) = true
  s_BadLetters : PySem.W.subIn K (.ref (ga K "BadLetters")) (.type "BaseException") = some true
  t_BadLetters : PySem.W.typeIn K (.ref (ga K "BadLetters")) = some (.type "type")
  g_BadWord : mg "BadWord" = some (.ref (ga K "BadWord"))
  g_TooMany : mg "TooMany" = some (.ref (ga K "TooMany"))
  g_BadText : mg "BadText" = some (.ref (ga K "BadText"))
  c_SMALL : ∃ t, mg "SMALL" = some (.str "abcdefghijklmnopqrstuvwxyz" t)
  c_MOST_KINDS_OF_LETTERS : ∃ t, mg "MOST_KINDS_OF_LETTERS" = some (.int 4 t)
  gd_check_letters : mg "check_letters" = some (.ref (ga K "check_letters"))
  gd_check_word : mg "check_word" = some (.ref (ga K "check_word"))
  gd_order_key : mg "order_key" = some (.ref (ga K "order_key"))
  gd_in_order : mg "in_order" = some (.ref (ga K "in_order"))
  c_MOST_WORDS : ∃ t, mg "MOST_WORDS" = some (.int 64 t)
  c_MOST_LETTERS : ∃ t, mg "MOST_LETTERS" = some (.int 24 t)
  gd_check_words : mg "check_words" = some (.ref (ga K "check_words"))
  g_Sample : mg "Sample" = some (.ref (ga K "Sample"))
  cl_Sample : Cls K (ga K "Sample")
  mk_Sample : Mk K (ga K "Sample") (ma K (ga K "Sample") "__init__")
  na_Sample_letters : NoAttr K (ga K "Sample") "letters"
  na_Sample_yes : NoAttr K (ga K "Sample") "yes"
  na_Sample_no : NoAttr K (ga K "Sample") "no"
  me_Sample_with_yes : Meth K (ga K "Sample") "with_yes" (ma K (ga K "Sample") "with_yes")
  me_Sample_with_no : Meth K (ga K "Sample") "with_no" (ma K (ga K "Sample") "with_no")
  me_Sample_without : Meth K (ga K "Sample") "without" (ma K (ga K "Sample") "without")
  gd_written : mg "written" = some (.ref (ga K "written"))
  gd_word_of : mg "word_of" = some (.ref (ga K "word_of"))
  gd_are_letters : mg "are_letters" = some (.ref (ga K "are_letters"))
  gd_sample_text : mg "sample_text" = some (.ref (ga K "sample_text"))
  gd_read_sample : mg "read_sample" = some (.ref (ga K "read_sample"))
  gd_law_start : mg "_law_start" = some (.ref (ga K "_law_start"))
  gd_law_next : mg "_law_next" = some (.ref (ga K "_law_next"))
  gd_law_integer : mg "_law_integer" = some (.ref (ga K "_law_integer"))
  gd_law_alphabet : mg "_law_alphabet" = some (.ref (ga K "_law_alphabet"))
  gd_law_word : mg "_law_word" = some (.ref (ga K "_law_word"))
  gd_law_ordered : mg "_law_ordered" = some (.ref (ga K "_law_ordered"))
  gd_law_text : mg "_law_text" = some (.ref (ga K "_law_text"))
  gd_law_good_letters : mg "_law_good_letters" = some (.ref (ga K "_law_good_letters"))
  gd_law_read : mg "_law_read" = some (.ref (ga K "_law_read"))
  gd_law_words_are : mg "_law_words_are" = some (.ref (ga K "_law_words_are"))
  gd_law_reads : mg "_law_reads" = some (.ref (ga K "_law_reads"))
  gd_law_word_at : mg "_law_word_at" = some (.ref (ga K "_law_word_at"))
  gd_law_climbing : mg "_law_climbing" = some (.ref (ga K "_law_climbing"))
  gd_law_spoilt : mg "_law_spoilt" = some (.ref (ga K "_law_spoilt"))
  gd_law_large : mg "_law_large" = some (.ref (ga K "_law_large"))
  gd_law : mg "law" = some (.ref (ga K "law"))
  b_abs : mg "abs" = none
  b_all : mg "all" = none
  b_any : mg "any" = none
  b_bool : mg "bool" = none
  b_enumerate : mg "enumerate" = none
  b_int : mg "int" = none
  b_isinstance : mg "isinstance" = none
  b_len : mg "len" = none
  b_list : mg "list" = none
  b_range : mg "range" = none
  b_sorted : mg "sorted" = none
  b_str : mg "str" = none
  b_super : mg "super" = none
  b_tuple : mg "tuple" = none
  b_ValueError : mg "ValueError" = none
  e_LanguageError : ExK K (ga K "LanguageError")
  e_BadLetters : ExK K (ga K "BadLetters")
  e_BadWord : ExK K (ga K "BadWord")
  e_TooMany : ExK K (ga K "TooMany")
  e_BadText : ExK K (ga K "BadText")
  o_Sample : OwnK K (ga K "Sample")
  no_BadWord_word : PySem.W.findIn K (.ref (ga K "BadWord")) "word" = some none
  no_BadWord_place : PySem.W.findIn K (.ref (ga K "BadWord")) "place" = some none
  no_TooMany_limit : PySem.W.findIn K (.ref (ga K "TooMany")) "limit" = some none
  no_BadText_line : PySem.W.findIn K (.ref (ga K "BadText")) "line" = some none
  kit_LanguageError_LanguageError : PySem.W.kitOne K (.ref (ga K "LanguageError")) (.ref (ga K "LanguageError")) = some true
  exm_LanguageError_LanguageError : PySem.W.exmOne K (.ref (ga K "LanguageError")) (.ref (ga K "LanguageError")) = some true
  kit_LanguageError_BadLetters : PySem.W.kitOne K (.ref (ga K "LanguageError")) (.ref (ga K "BadLetters")) = some false
  exm_LanguageError_BadLetters : PySem.W.exmOne K (.ref (ga K "LanguageError")) (.ref (ga K "BadLetters")) = some false
  kit_LanguageError_BadWord : PySem.W.kitOne K (.ref (ga K "LanguageError")) (.ref (ga K "BadWord")) = some false
  exm_LanguageError_BadWord : PySem.W.exmOne K (.ref (ga K "LanguageError")) (.ref (ga K "BadWord")) = some false
  kit_LanguageError_TooMany : PySem.W.kitOne K (.ref (ga K "LanguageError")) (.ref (ga K "TooMany")) = some false
  exm_LanguageError_TooMany : PySem.W.exmOne K (.ref (ga K "LanguageError")) (.ref (ga K "TooMany")) = some false
  kit_LanguageError_BadText : PySem.W.kitOne K (.ref (ga K "LanguageError")) (.ref (ga K "BadText")) = some false
  exm_LanguageError_BadText : PySem.W.exmOne K (.ref (ga K "LanguageError")) (.ref (ga K "BadText")) = some false
  kit_BadLetters_LanguageError : PySem.W.kitOne K (.ref (ga K "BadLetters")) (.ref (ga K "LanguageError")) = some true
  exm_BadLetters_LanguageError : PySem.W.exmOne K (.ref (ga K "BadLetters")) (.ref (ga K "LanguageError")) = some true
  kit_BadLetters_BadLetters : PySem.W.kitOne K (.ref (ga K "BadLetters")) (.ref (ga K "BadLetters")) = some true
  exm_BadLetters_BadLetters : PySem.W.exmOne K (.ref (ga K "BadLetters")) (.ref (ga K "BadLetters")) = some true
  kit_BadLetters_BadWord : PySem.W.kitOne K (.ref (ga K "BadLetters")) (.ref (ga K "BadWord")) = some false
  exm_BadLetters_BadWord : PySem.W.exmOne K (.ref (ga K "BadLetters")) (.ref (ga K "BadWord")) = some false
  kit_BadLetters_TooMany : PySem.W.kitOne K (.ref (ga K "BadLetters")) (.ref (ga K "TooMany")) = some false
  exm_BadLetters_TooMany : PySem.W.exmOne K (.ref (ga K "BadLetters")) (.ref (ga K "TooMany")) = some false
  kit_BadLetters_BadText : PySem.W.kitOne K (.ref (ga K "BadLetters")) (.ref (ga K "BadText")) = some false
  exm_BadLetters_BadText : PySem.W.exmOne K (.ref (ga K "BadLetters")) (.ref (ga K "BadText")) = some false
  kit_BadWord_LanguageError : PySem.W.kitOne K (.ref (ga K "BadWord")) (.ref (ga K "LanguageError")) = some true
  exm_BadWord_LanguageError : PySem.W.exmOne K (.ref (ga K "BadWord")) (.ref (ga K "LanguageError")) = some true
  kit_BadWord_BadLetters : PySem.W.kitOne K (.ref (ga K "BadWord")) (.ref (ga K "BadLetters")) = some false
  exm_BadWord_BadLetters : PySem.W.exmOne K (.ref (ga K "BadWord")) (.ref (ga K "BadLetters")) = some false
  kit_BadWord_BadWord : PySem.W.kitOne K (.ref (ga K "BadWord")) (.ref (ga K "BadWord")) = some true
  exm_BadWord_BadWord : PySem.W.exmOne K (.ref (ga K "BadWord")) (.ref (ga K "BadWord")) = some true
  kit_BadWord_TooMany : PySem.W.kitOne K (.ref (ga K "BadWord")) (.ref (ga K "TooMany")) = some false
  exm_BadWord_TooMany : PySem.W.exmOne K (.ref (ga K "BadWord")) (.ref (ga K "TooMany")) = some false
  kit_BadWord_BadText : PySem.W.kitOne K (.ref (ga K "BadWord")) (.ref (ga K "BadText")) = some false
  exm_BadWord_BadText : PySem.W.exmOne K (.ref (ga K "BadWord")) (.ref (ga K "BadText")) = some false
  kit_TooMany_LanguageError : PySem.W.kitOne K (.ref (ga K "TooMany")) (.ref (ga K "LanguageError")) = some true
  exm_TooMany_LanguageError : PySem.W.exmOne K (.ref (ga K "TooMany")) (.ref (ga K "LanguageError")) = some true
  kit_TooMany_BadLetters : PySem.W.kitOne K (.ref (ga K "TooMany")) (.ref (ga K "BadLetters")) = some false
  exm_TooMany_BadLetters : PySem.W.exmOne K (.ref (ga K "TooMany")) (.ref (ga K "BadLetters")) = some false
  kit_TooMany_BadWord : PySem.W.kitOne K (.ref (ga K "TooMany")) (.ref (ga K "BadWord")) = some false
  exm_TooMany_BadWord : PySem.W.exmOne K (.ref (ga K "TooMany")) (.ref (ga K "BadWord")) = some false
  kit_TooMany_TooMany : PySem.W.kitOne K (.ref (ga K "TooMany")) (.ref (ga K "TooMany")) = some true
  exm_TooMany_TooMany : PySem.W.exmOne K (.ref (ga K "TooMany")) (.ref (ga K "TooMany")) = some true
  kit_TooMany_BadText : PySem.W.kitOne K (.ref (ga K "TooMany")) (.ref (ga K "BadText")) = some false
  exm_TooMany_BadText : PySem.W.exmOne K (.ref (ga K "TooMany")) (.ref (ga K "BadText")) = some false
  kit_BadText_LanguageError : PySem.W.kitOne K (.ref (ga K "BadText")) (.ref (ga K "LanguageError")) = some true
  exm_BadText_LanguageError : PySem.W.exmOne K (.ref (ga K "BadText")) (.ref (ga K "LanguageError")) = some true
  kit_BadText_BadLetters : PySem.W.kitOne K (.ref (ga K "BadText")) (.ref (ga K "BadLetters")) = some false
  exm_BadText_BadLetters : PySem.W.exmOne K (.ref (ga K "BadText")) (.ref (ga K "BadLetters")) = some false
  kit_BadText_BadWord : PySem.W.kitOne K (.ref (ga K "BadText")) (.ref (ga K "BadWord")) = some false
  exm_BadText_BadWord : PySem.W.exmOne K (.ref (ga K "BadText")) (.ref (ga K "BadWord")) = some false
  kit_BadText_TooMany : PySem.W.kitOne K (.ref (ga K "BadText")) (.ref (ga K "TooMany")) = some false
  exm_BadText_TooMany : PySem.W.exmOne K (.ref (ga K "BadText")) (.ref (ga K "TooMany")) = some false
  kit_BadText_BadText : PySem.W.kitOne K (.ref (ga K "BadText")) (.ref (ga K "BadText")) = some true
  exm_BadText_BadText : PySem.W.exmOne K (.ref (ga K "BadText")) (.ref (ga K "BadText")) = some true
  kit_Sample_Sample : PySem.W.kitOne K (.ref (ga K "Sample")) (.ref (ga K "Sample")) = some true
  d_wall : ∃ fd, FunD K Hk91.d_wall.name Hk91.d_wall.qual Hk91.d_wall.params Hk91.d_wall.body Hk91.d_wall.scope [] [] (fAd K Hk91.d_wall.at_) fd
  d_check_letters : ∃ fd, FunD K Hk91.d_check_letters.name Hk91.d_check_letters.qual Hk91.d_check_letters.params Hk91.d_check_letters.body Hk91.d_check_letters.scope [] [] (fAd K Hk91.d_check_letters.at_) fd
  d_check_word : ∃ fd, FunD K Hk91.d_check_word.name Hk91.d_check_word.qual Hk91.d_check_word.params Hk91.d_check_word.body Hk91.d_check_word.scope [] [] (fAd K Hk91.d_check_word.at_) fd
  d_order_key : ∃ fd, FunD K Hk91.d_order_key.name Hk91.d_order_key.qual Hk91.d_order_key.params Hk91.d_order_key.body Hk91.d_order_key.scope [] [] (fAd K Hk91.d_order_key.at_) fd
  d_in_order : ∃ fd, FunD K Hk91.d_in_order.name Hk91.d_in_order.qual Hk91.d_in_order.params Hk91.d_in_order.body Hk91.d_in_order.scope [] [] (fAd K Hk91.d_in_order.at_) fd
  d_check_words : ∃ fd, FunD K Hk91.d_check_words.name Hk91.d_check_words.qual Hk91.d_check_words.params Hk91.d_check_words.body Hk91.d_check_words.scope [] [] (fAd K Hk91.d_check_words.at_) fd
  d_Sample_init : ∃ fd, FunD K Hk91.d_Sample_init.name Hk91.d_Sample_init.qual Hk91.d_Sample_init.params Hk91.d_Sample_init.body Hk91.d_Sample_init.scope [] [] (fAd K Hk91.d_Sample_init.at_) fd
  d_Sample_with_yes : ∃ fd, FunD K Hk91.d_Sample_with_yes.name Hk91.d_Sample_with_yes.qual Hk91.d_Sample_with_yes.params Hk91.d_Sample_with_yes.body Hk91.d_Sample_with_yes.scope [] [] (fAd K Hk91.d_Sample_with_yes.at_) fd
  d_Sample_with_no : ∃ fd, FunD K Hk91.d_Sample_with_no.name Hk91.d_Sample_with_no.qual Hk91.d_Sample_with_no.params Hk91.d_Sample_with_no.body Hk91.d_Sample_with_no.scope [] [] (fAd K Hk91.d_Sample_with_no.at_) fd
  d_Sample_without : ∃ fd, FunD K Hk91.d_Sample_without.name Hk91.d_Sample_without.qual Hk91.d_Sample_without.params Hk91.d_Sample_without.body Hk91.d_Sample_without.scope [] [] (fAd K Hk91.d_Sample_without.at_) fd
  d_written : ∃ fd, FunD K Hk91.d_written.name Hk91.d_written.qual Hk91.d_written.params Hk91.d_written.body Hk91.d_written.scope [] [] (fAd K Hk91.d_written.at_) fd
  d_word_of : ∃ fd, FunD K Hk91.d_word_of.name Hk91.d_word_of.qual Hk91.d_word_of.params Hk91.d_word_of.body Hk91.d_word_of.scope [] [] (fAd K Hk91.d_word_of.at_) fd
  d_are_letters : ∃ fd, FunD K Hk91.d_are_letters.name Hk91.d_are_letters.qual Hk91.d_are_letters.params Hk91.d_are_letters.body Hk91.d_are_letters.scope [] [] (fAd K Hk91.d_are_letters.at_) fd
  d_sample_text : ∃ fd, FunD K Hk91.d_sample_text.name Hk91.d_sample_text.qual Hk91.d_sample_text.params Hk91.d_sample_text.body Hk91.d_sample_text.scope [] [] (fAd K Hk91.d_sample_text.at_) fd
  d_read_sample : ∃ fd, FunD K Hk91.d_read_sample.name Hk91.d_read_sample.qual Hk91.d_read_sample.params Hk91.d_read_sample.body Hk91.d_read_sample.scope [] [] (fAd K Hk91.d_read_sample.at_) fd
  d_law_start : ∃ fd, FunD K Hk91.d_law_start.name Hk91.d_law_start.qual Hk91.d_law_start.params Hk91.d_law_start.body Hk91.d_law_start.scope [] [] (fAd K Hk91.d_law_start.at_) fd
  d_law_next : ∃ fd, FunD K Hk91.d_law_next.name Hk91.d_law_next.qual Hk91.d_law_next.params Hk91.d_law_next.body Hk91.d_law_next.scope [] [] (fAd K Hk91.d_law_next.at_) fd
  d_law_integer : ∃ fd, FunD K Hk91.d_law_integer.name Hk91.d_law_integer.qual Hk91.d_law_integer.params Hk91.d_law_integer.body Hk91.d_law_integer.scope [] [] (fAd K Hk91.d_law_integer.at_) fd
  d_law_alphabet : ∃ fd, FunD K Hk91.d_law_alphabet.name Hk91.d_law_alphabet.qual Hk91.d_law_alphabet.params Hk91.d_law_alphabet.body Hk91.d_law_alphabet.scope [] [] (fAd K Hk91.d_law_alphabet.at_) fd
  d_law_word : ∃ fd, FunD K Hk91.d_law_word.name Hk91.d_law_word.qual Hk91.d_law_word.params Hk91.d_law_word.body Hk91.d_law_word.scope [] [] (fAd K Hk91.d_law_word.at_) fd
  d_law_ordered : ∃ fd, FunD K Hk91.d_law_ordered.name Hk91.d_law_ordered.qual Hk91.d_law_ordered.params Hk91.d_law_ordered.body Hk91.d_law_ordered.scope [] [] (fAd K Hk91.d_law_ordered.at_) fd
  d_law_text : ∃ fd, FunD K Hk91.d_law_text.name Hk91.d_law_text.qual Hk91.d_law_text.params Hk91.d_law_text.body Hk91.d_law_text.scope [] [] (fAd K Hk91.d_law_text.at_) fd
  d_law_good_letters : ∃ fd, FunD K Hk91.d_law_good_letters.name Hk91.d_law_good_letters.qual Hk91.d_law_good_letters.params Hk91.d_law_good_letters.body Hk91.d_law_good_letters.scope [] [] (fAd K Hk91.d_law_good_letters.at_) fd
  d_law_read : ∃ fd, FunD K Hk91.d_law_read.name Hk91.d_law_read.qual Hk91.d_law_read.params Hk91.d_law_read.body Hk91.d_law_read.scope [] [] (fAd K Hk91.d_law_read.at_) fd
  d_law_words_are : ∃ fd, FunD K Hk91.d_law_words_are.name Hk91.d_law_words_are.qual Hk91.d_law_words_are.params Hk91.d_law_words_are.body Hk91.d_law_words_are.scope [] [] (fAd K Hk91.d_law_words_are.at_) fd
  d_law_reads : ∃ fd, FunD K Hk91.d_law_reads.name Hk91.d_law_reads.qual Hk91.d_law_reads.params Hk91.d_law_reads.body Hk91.d_law_reads.scope [] [] (fAd K Hk91.d_law_reads.at_) fd
  d_law_word_at : ∃ fd, FunD K Hk91.d_law_word_at.name Hk91.d_law_word_at.qual Hk91.d_law_word_at.params Hk91.d_law_word_at.body Hk91.d_law_word_at.scope [] [] (fAd K Hk91.d_law_word_at.at_) fd
  d_law_climbing : ∃ fd, FunD K Hk91.d_law_climbing.name Hk91.d_law_climbing.qual Hk91.d_law_climbing.params Hk91.d_law_climbing.body Hk91.d_law_climbing.scope [] [] (fAd K Hk91.d_law_climbing.at_) fd
  d_law_spoilt : ∃ fd, FunD K Hk91.d_law_spoilt.name Hk91.d_law_spoilt.qual Hk91.d_law_spoilt.params Hk91.d_law_spoilt.body Hk91.d_law_spoilt.scope [] [] (fAd K Hk91.d_law_spoilt.at_) fd
  d_law_large : ∃ fd, FunD K Hk91.d_law_large.name Hk91.d_law_large.qual Hk91.d_law_large.params Hk91.d_law_large.body Hk91.d_law_large.scope [] [] (fAd K Hk91.d_law_large.at_) fd
  d_law : ∃ fd, FunD K Hk91.d_law.name Hk91.d_law.qual Hk91.d_law.params Hk91.d_law.body Hk91.d_law.scope [] [] (fAd K Hk91.d_law.at_) fd
  i_BadWord : ∃ fd, IniF P K mg (ga K "BadWord") (fAd K Hk91.i_BadWord.at_) Hk91.i_BadWord.name Hk91.i_BadWord.qual Hk91.i_BadWord.params Hk91.i_BadWord.body Hk91.i_BadWord.scope fd
  i_TooMany : ∃ fd, IniF P K mg (ga K "TooMany") (fAd K Hk91.i_TooMany.at_) Hk91.i_TooMany.name Hk91.i_TooMany.qual Hk91.i_TooMany.params Hk91.i_TooMany.body Hk91.i_TooMany.scope fd
  i_BadText : ∃ fd, IniF P K mg (ga K "BadText") (fAd K Hk91.i_BadText.at_) Hk91.i_BadText.name Hk91.i_BadText.qual Hk91.i_BadText.params Hk91.i_BadText.body Hk91.i_BadText.scope fd
theorem txt {P : Program} {w : World} {K : PySem.W.Frag} {h : Heap} {mg : Str → Option Value} (X : K.In h) (G : h.Ns mainGlobals mg) (hm : P.main.file = file) (ht : (P.main.scope.names.lookup ("super" : Str)).isSome = false) (c : SaysI fa fn fb fi file K) : Txt P w K mg := by
  have hs : mg "super" = none := free_ok X G (c.d.fact 59 (f := .free "super") rfl)
  exact {
    gd_wall := glo_ok X G (c.d.fact 0 (f := .glo "_wall") rfl),
    g_LanguageError := glo_ok X G (c.d.fact 1 (f := .glo "LanguageError") rfl),
    x_LanguageError := (exc_ok (c.d.fact 2 (f := .exc "LanguageError") rfl)).1,
    k_LanguageError := (exc_ok (c.d.fact 2 (f := .exc "LanguageError") rfl)).2.1,
    s_LanguageError := (exc_ok (c.d.fact 2 (f := .exc "LanguageError") rfl)).2.2.1,
    t_LanguageError := (exc_ok (c.d.fact 2 (f := .exc "LanguageError") rfl)).2.2.2,
    g_BadLetters := glo_ok X G (c.d.fact 3 (f := .glo "BadLetters") rfl),
    x_BadLetters := (exc_ok (c.d.fact 4 (f := .exc "BadLetters") rfl)).1,
    k_BadLetters := (exc_ok (c.d.fact 4 (f := .exc "BadLetters") rfl)).2.1,
    s_BadLetters := (exc_ok (c.d.fact 4 (f := .exc "BadLetters") rfl)).2.2.1,
    t_BadLetters := (exc_ok (c.d.fact 4 (f := .exc "BadLetters") rfl)).2.2.2,
    g_BadWord := glo_ok X G (c.d.fact 5 (f := .glo "BadWord") rfl),
    g_TooMany := glo_ok X G (c.d.fact 6 (f := .glo "TooMany") rfl),
    g_BadText := glo_ok X G (c.d.fact 7 (f := .glo "BadText") rfl),
    c_SMALL := str_ok X G (c.d.fact 8 (f := .str "SMALL" "abcdefghijklmnopqrstuvwxyz") rfl),
    c_MOST_KINDS_OF_LETTERS := int_ok X G (c.d.fact 9 (f := .int "MOST_KINDS_OF_LETTERS" 4) rfl),
    gd_check_letters := glo_ok X G (c.d.fact 10 (f := .glo "check_letters") rfl),
    gd_check_word := glo_ok X G (c.d.fact 11 (f := .glo "check_word") rfl),
    gd_order_key := glo_ok X G (c.d.fact 12 (f := .glo "order_key") rfl),
    gd_in_order := glo_ok X G (c.d.fact 13 (f := .glo "in_order") rfl),
    c_MOST_WORDS := int_ok X G (c.d.fact 14 (f := .int "MOST_WORDS" 64) rfl),
    c_MOST_LETTERS := int_ok X G (c.d.fact 15 (f := .int "MOST_LETTERS" 24) rfl),
    gd_check_words := glo_ok X G (c.d.fact 16 (f := .glo "check_words") rfl),
    g_Sample := glo_ok X G (c.d.fact 17 (f := .glo "Sample") rfl),
    cl_Sample := cls_ok (c.d.fact 18 (f := .cls "Sample") rfl),
    mk_Sample := mkr_ok (c.d.fact 19 (f := .mkr "Sample") rfl),
    na_Sample_letters := noat_ok (c.d.fact 20 (f := .noat "Sample" "letters") rfl),
    na_Sample_yes := noat_ok (c.d.fact 21 (f := .noat "Sample" "yes") rfl),
    na_Sample_no := noat_ok (c.d.fact 22 (f := .noat "Sample" "no") rfl),
    me_Sample_with_yes := meth_ok (c.d.fact 23 (f := .meth "Sample" "with_yes") rfl),
    me_Sample_with_no := meth_ok (c.d.fact 24 (f := .meth "Sample" "with_no") rfl),
    me_Sample_without := meth_ok (c.d.fact 25 (f := .meth "Sample" "without") rfl),
    gd_written := glo_ok X G (c.d.fact 26 (f := .glo "written") rfl),
    gd_word_of := glo_ok X G (c.d.fact 27 (f := .glo "word_of") rfl),
    gd_are_letters := glo_ok X G (c.d.fact 28 (f := .glo "are_letters") rfl),
    gd_sample_text := glo_ok X G (c.d.fact 29 (f := .glo "sample_text") rfl),
    gd_read_sample := glo_ok X G (c.d.fact 30 (f := .glo "read_sample") rfl),
    gd_law_start := glo_ok X G (c.d.fact 31 (f := .glo "_law_start") rfl),
    gd_law_next := glo_ok X G (c.d.fact 32 (f := .glo "_law_next") rfl),
    gd_law_integer := glo_ok X G (c.d.fact 33 (f := .glo "_law_integer") rfl),
    gd_law_alphabet := glo_ok X G (c.d.fact 34 (f := .glo "_law_alphabet") rfl),
    gd_law_word := glo_ok X G (c.d.fact 35 (f := .glo "_law_word") rfl),
    gd_law_ordered := glo_ok X G (c.d.fact 36 (f := .glo "_law_ordered") rfl),
    gd_law_text := glo_ok X G (c.d.fact 37 (f := .glo "_law_text") rfl),
    gd_law_good_letters := glo_ok X G (c.d.fact 38 (f := .glo "_law_good_letters") rfl),
    gd_law_read := glo_ok X G (c.d.fact 39 (f := .glo "_law_read") rfl),
    gd_law_words_are := glo_ok X G (c.d.fact 40 (f := .glo "_law_words_are") rfl),
    gd_law_reads := glo_ok X G (c.d.fact 41 (f := .glo "_law_reads") rfl),
    gd_law_word_at := glo_ok X G (c.d.fact 42 (f := .glo "_law_word_at") rfl),
    gd_law_climbing := glo_ok X G (c.d.fact 43 (f := .glo "_law_climbing") rfl),
    gd_law_spoilt := glo_ok X G (c.d.fact 44 (f := .glo "_law_spoilt") rfl),
    gd_law_large := glo_ok X G (c.d.fact 45 (f := .glo "_law_large") rfl),
    gd_law := glo_ok X G (c.d.fact 46 (f := .glo "law") rfl),
    b_abs := free_ok X G (c.d.fact 47 (f := .free "abs") rfl),
    b_all := free_ok X G (c.d.fact 48 (f := .free "all") rfl),
    b_any := free_ok X G (c.d.fact 49 (f := .free "any") rfl),
    b_bool := free_ok X G (c.d.fact 50 (f := .free "bool") rfl),
    b_enumerate := free_ok X G (c.d.fact 51 (f := .free "enumerate") rfl),
    b_int := free_ok X G (c.d.fact 52 (f := .free "int") rfl),
    b_isinstance := free_ok X G (c.d.fact 53 (f := .free "isinstance") rfl),
    b_len := free_ok X G (c.d.fact 54 (f := .free "len") rfl),
    b_list := free_ok X G (c.d.fact 55 (f := .free "list") rfl),
    b_range := free_ok X G (c.d.fact 56 (f := .free "range") rfl),
    b_sorted := free_ok X G (c.d.fact 57 (f := .free "sorted") rfl),
    b_str := free_ok X G (c.d.fact 58 (f := .free "str") rfl),
    b_super := free_ok X G (c.d.fact 59 (f := .free "super") rfl),
    b_tuple := free_ok X G (c.d.fact 60 (f := .free "tuple") rfl),
    b_ValueError := free_ok X G (c.d.fact 61 (f := .free "ValueError") rfl),
    e_LanguageError := exB_ok (c.fb_ (f := .exq "LanguageError") (List.mem_of_getElem? (i := 0) rfl)),
    e_BadLetters := exB_ok (c.fb_ (f := .exq "BadLetters") (List.mem_of_getElem? (i := 1) rfl)),
    e_BadWord := exB_ok (c.fb_ (f := .exq "BadWord") (List.mem_of_getElem? (i := 2) rfl)),
    e_TooMany := exB_ok (c.fb_ (f := .exq "TooMany") (List.mem_of_getElem? (i := 3) rfl)),
    e_BadText := exB_ok (c.fb_ (f := .exq "BadText") (List.mem_of_getElem? (i := 4) rfl)),
    o_Sample := ownB_ok (c.fb_ (f := .own "Sample") (List.mem_of_getElem? (i := 5) rfl)),
    no_BadWord_word := of_decide_eq_true (c.fb_ (f := .noat "BadWord" "word") (List.mem_of_getElem? (i := 6) rfl)),
    no_BadWord_place := of_decide_eq_true (c.fb_ (f := .noat "BadWord" "place") (List.mem_of_getElem? (i := 7) rfl)),
    no_TooMany_limit := of_decide_eq_true (c.fb_ (f := .noat "TooMany" "limit") (List.mem_of_getElem? (i := 8) rfl)),
    no_BadText_line := of_decide_eq_true (c.fb_ (f := .noat "BadText" "line") (List.mem_of_getElem? (i := 9) rfl)),
    kit_LanguageError_LanguageError := of_decide_eq_true (c.fb_ (f := .kit "LanguageError" "LanguageError" true) (List.mem_of_getElem? (i := 10) rfl)),
    exm_LanguageError_LanguageError := of_decide_eq_true (c.fb_ (f := .exm "LanguageError" "LanguageError" true) (List.mem_of_getElem? (i := 11) rfl)),
    kit_LanguageError_BadLetters := of_decide_eq_true (c.fb_ (f := .kit "LanguageError" "BadLetters" false) (List.mem_of_getElem? (i := 12) rfl)),
    exm_LanguageError_BadLetters := of_decide_eq_true (c.fb_ (f := .exm "LanguageError" "BadLetters" false) (List.mem_of_getElem? (i := 13) rfl)),
    kit_LanguageError_BadWord := of_decide_eq_true (c.fb_ (f := .kit "LanguageError" "BadWord" false) (List.mem_of_getElem? (i := 14) rfl)),
    exm_LanguageError_BadWord := of_decide_eq_true (c.fb_ (f := .exm "LanguageError" "BadWord" false) (List.mem_of_getElem? (i := 15) rfl)),
    kit_LanguageError_TooMany := of_decide_eq_true (c.fb_ (f := .kit "LanguageError" "TooMany" false) (List.mem_of_getElem? (i := 16) rfl)),
    exm_LanguageError_TooMany := of_decide_eq_true (c.fb_ (f := .exm "LanguageError" "TooMany" false) (List.mem_of_getElem? (i := 17) rfl)),
    kit_LanguageError_BadText := of_decide_eq_true (c.fb_ (f := .kit "LanguageError" "BadText" false) (List.mem_of_getElem? (i := 18) rfl)),
    exm_LanguageError_BadText := of_decide_eq_true (c.fb_ (f := .exm "LanguageError" "BadText" false) (List.mem_of_getElem? (i := 19) rfl)),
    kit_BadLetters_LanguageError := of_decide_eq_true (c.fb_ (f := .kit "BadLetters" "LanguageError" true) (List.mem_of_getElem? (i := 20) rfl)),
    exm_BadLetters_LanguageError := of_decide_eq_true (c.fb_ (f := .exm "BadLetters" "LanguageError" true) (List.mem_of_getElem? (i := 21) rfl)),
    kit_BadLetters_BadLetters := of_decide_eq_true (c.fb_ (f := .kit "BadLetters" "BadLetters" true) (List.mem_of_getElem? (i := 22) rfl)),
    exm_BadLetters_BadLetters := of_decide_eq_true (c.fb_ (f := .exm "BadLetters" "BadLetters" true) (List.mem_of_getElem? (i := 23) rfl)),
    kit_BadLetters_BadWord := of_decide_eq_true (c.fb_ (f := .kit "BadLetters" "BadWord" false) (List.mem_of_getElem? (i := 24) rfl)),
    exm_BadLetters_BadWord := of_decide_eq_true (c.fb_ (f := .exm "BadLetters" "BadWord" false) (List.mem_of_getElem? (i := 25) rfl)),
    kit_BadLetters_TooMany := of_decide_eq_true (c.fb_ (f := .kit "BadLetters" "TooMany" false) (List.mem_of_getElem? (i := 26) rfl)),
    exm_BadLetters_TooMany := of_decide_eq_true (c.fb_ (f := .exm "BadLetters" "TooMany" false) (List.mem_of_getElem? (i := 27) rfl)),
    kit_BadLetters_BadText := of_decide_eq_true (c.fb_ (f := .kit "BadLetters" "BadText" false) (List.mem_of_getElem? (i := 28) rfl)),
    exm_BadLetters_BadText := of_decide_eq_true (c.fb_ (f := .exm "BadLetters" "BadText" false) (List.mem_of_getElem? (i := 29) rfl)),
    kit_BadWord_LanguageError := of_decide_eq_true (c.fb_ (f := .kit "BadWord" "LanguageError" true) (List.mem_of_getElem? (i := 30) rfl)),
    exm_BadWord_LanguageError := of_decide_eq_true (c.fb_ (f := .exm "BadWord" "LanguageError" true) (List.mem_of_getElem? (i := 31) rfl)),
    kit_BadWord_BadLetters := of_decide_eq_true (c.fb_ (f := .kit "BadWord" "BadLetters" false) (List.mem_of_getElem? (i := 32) rfl)),
    exm_BadWord_BadLetters := of_decide_eq_true (c.fb_ (f := .exm "BadWord" "BadLetters" false) (List.mem_of_getElem? (i := 33) rfl)),
    kit_BadWord_BadWord := of_decide_eq_true (c.fb_ (f := .kit "BadWord" "BadWord" true) (List.mem_of_getElem? (i := 34) rfl)),
    exm_BadWord_BadWord := of_decide_eq_true (c.fb_ (f := .exm "BadWord" "BadWord" true) (List.mem_of_getElem? (i := 35) rfl)),
    kit_BadWord_TooMany := of_decide_eq_true (c.fb_ (f := .kit "BadWord" "TooMany" false) (List.mem_of_getElem? (i := 36) rfl)),
    exm_BadWord_TooMany := of_decide_eq_true (c.fb_ (f := .exm "BadWord" "TooMany" false) (List.mem_of_getElem? (i := 37) rfl)),
    kit_BadWord_BadText := of_decide_eq_true (c.fb_ (f := .kit "BadWord" "BadText" false) (List.mem_of_getElem? (i := 38) rfl)),
    exm_BadWord_BadText := of_decide_eq_true (c.fb_ (f := .exm "BadWord" "BadText" false) (List.mem_of_getElem? (i := 39) rfl)),
    kit_TooMany_LanguageError := of_decide_eq_true (c.fb_ (f := .kit "TooMany" "LanguageError" true) (List.mem_of_getElem? (i := 40) rfl)),
    exm_TooMany_LanguageError := of_decide_eq_true (c.fb_ (f := .exm "TooMany" "LanguageError" true) (List.mem_of_getElem? (i := 41) rfl)),
    kit_TooMany_BadLetters := of_decide_eq_true (c.fb_ (f := .kit "TooMany" "BadLetters" false) (List.mem_of_getElem? (i := 42) rfl)),
    exm_TooMany_BadLetters := of_decide_eq_true (c.fb_ (f := .exm "TooMany" "BadLetters" false) (List.mem_of_getElem? (i := 43) rfl)),
    kit_TooMany_BadWord := of_decide_eq_true (c.fb_ (f := .kit "TooMany" "BadWord" false) (List.mem_of_getElem? (i := 44) rfl)),
    exm_TooMany_BadWord := of_decide_eq_true (c.fb_ (f := .exm "TooMany" "BadWord" false) (List.mem_of_getElem? (i := 45) rfl)),
    kit_TooMany_TooMany := of_decide_eq_true (c.fb_ (f := .kit "TooMany" "TooMany" true) (List.mem_of_getElem? (i := 46) rfl)),
    exm_TooMany_TooMany := of_decide_eq_true (c.fb_ (f := .exm "TooMany" "TooMany" true) (List.mem_of_getElem? (i := 47) rfl)),
    kit_TooMany_BadText := of_decide_eq_true (c.fb_ (f := .kit "TooMany" "BadText" false) (List.mem_of_getElem? (i := 48) rfl)),
    exm_TooMany_BadText := of_decide_eq_true (c.fb_ (f := .exm "TooMany" "BadText" false) (List.mem_of_getElem? (i := 49) rfl)),
    kit_BadText_LanguageError := of_decide_eq_true (c.fb_ (f := .kit "BadText" "LanguageError" true) (List.mem_of_getElem? (i := 50) rfl)),
    exm_BadText_LanguageError := of_decide_eq_true (c.fb_ (f := .exm "BadText" "LanguageError" true) (List.mem_of_getElem? (i := 51) rfl)),
    kit_BadText_BadLetters := of_decide_eq_true (c.fb_ (f := .kit "BadText" "BadLetters" false) (List.mem_of_getElem? (i := 52) rfl)),
    exm_BadText_BadLetters := of_decide_eq_true (c.fb_ (f := .exm "BadText" "BadLetters" false) (List.mem_of_getElem? (i := 53) rfl)),
    kit_BadText_BadWord := of_decide_eq_true (c.fb_ (f := .kit "BadText" "BadWord" false) (List.mem_of_getElem? (i := 54) rfl)),
    exm_BadText_BadWord := of_decide_eq_true (c.fb_ (f := .exm "BadText" "BadWord" false) (List.mem_of_getElem? (i := 55) rfl)),
    kit_BadText_TooMany := of_decide_eq_true (c.fb_ (f := .kit "BadText" "TooMany" false) (List.mem_of_getElem? (i := 56) rfl)),
    exm_BadText_TooMany := of_decide_eq_true (c.fb_ (f := .exm "BadText" "TooMany" false) (List.mem_of_getElem? (i := 57) rfl)),
    kit_BadText_BadText := of_decide_eq_true (c.fb_ (f := .kit "BadText" "BadText" true) (List.mem_of_getElem? (i := 58) rfl)),
    exm_BadText_BadText := of_decide_eq_true (c.fb_ (f := .exm "BadText" "BadText" true) (List.mem_of_getElem? (i := 59) rfl)),
    kit_Sample_Sample := of_decide_eq_true (c.fb_ (f := .kit "Sample" "Sample" true) (List.mem_of_getElem? (i := 60) rfl)),
    d_wall := c.d.def_ 0 (d := d_wall) rfl,
    d_check_letters := c.d.def_ 1 (d := d_check_letters) rfl,
    d_check_word := c.d.def_ 2 (d := d_check_word) rfl,
    d_order_key := c.d.def_ 3 (d := d_order_key) rfl,
    d_in_order := c.d.def_ 4 (d := d_in_order) rfl,
    d_check_words := c.d.def_ 5 (d := d_check_words) rfl,
    d_Sample_init := c.d.def_ 6 (d := d_Sample_init) rfl,
    d_Sample_with_yes := c.d.def_ 7 (d := d_Sample_with_yes) rfl,
    d_Sample_with_no := c.d.def_ 8 (d := d_Sample_with_no) rfl,
    d_Sample_without := c.d.def_ 9 (d := d_Sample_without) rfl,
    d_written := c.d.def_ 10 (d := d_written) rfl,
    d_word_of := c.d.def_ 11 (d := d_word_of) rfl,
    d_are_letters := c.d.def_ 12 (d := d_are_letters) rfl,
    d_sample_text := c.d.def_ 13 (d := d_sample_text) rfl,
    d_read_sample := c.d.def_ 14 (d := d_read_sample) rfl,
    d_law_start := c.d.def_ 15 (d := d_law_start) rfl,
    d_law_next := c.d.def_ 16 (d := d_law_next) rfl,
    d_law_integer := c.d.def_ 17 (d := d_law_integer) rfl,
    d_law_alphabet := c.d.def_ 18 (d := d_law_alphabet) rfl,
    d_law_word := c.d.def_ 19 (d := d_law_word) rfl,
    d_law_ordered := c.d.def_ 20 (d := d_law_ordered) rfl,
    d_law_text := c.d.def_ 21 (d := d_law_text) rfl,
    d_law_good_letters := c.d.def_ 22 (d := d_law_good_letters) rfl,
    d_law_read := c.d.def_ 23 (d := d_law_read) rfl,
    d_law_words_are := c.d.def_ 24 (d := d_law_words_are) rfl,
    d_law_reads := c.d.def_ 25 (d := d_law_reads) rfl,
    d_law_word_at := c.d.def_ 26 (d := d_law_word_at) rfl,
    d_law_climbing := c.d.def_ 27 (d := d_law_climbing) rfl,
    d_law_spoilt := c.d.def_ 28 (d := d_law_spoilt) rfl,
    d_law_large := c.d.def_ 29 (d := d_law_large) rfl,
    d_law := c.d.def_ 30 (d := d_law) rfl,
    i_BadWord := iniF_of (h := h) hm ht hs (c.fi_ 0 (d := i_BadWord) rfl).1 (c.fi_ 0 (d := i_BadWord) rfl).2,
    i_TooMany := iniF_of (h := h) hm ht hs (c.fi_ 1 (d := i_TooMany) rfl).1 (c.fi_ 1 (d := i_TooMany) rfl).2,
    i_BadText := iniF_of (h := h) hm ht hs (c.fi_ 2 (d := i_BadText) rfl).1 (c.fi_ 2 (d := i_BadText) rfl).2 }
end Hk91

namespace Y
open PySem PySem.Spec L2 He
/-! ### isinstance of a caught error that may have fields -/
section
open PySem.W PySem.Calls
variable {prog : Program} {w : World} {A : Around} {E : Value → Shared → Prop} {s : Shared} {K : Frag} {x D : Addr} {ox : Obj} {od : Option Obj}
theorem find_dataD {C : Addr} {name : Str} {a g : Value} (hc : (clsIn K C).isSome = true) (ha : findIn K (.ref C) name = some (some a)) (hg : specialIn K a "__get__" = some (some g)) (ht : takesIn K a = some true) : findObj K C od name = some (.bind g a) := by
  obtain ⟨cd, hc⟩ := Option.isSome_iff_exists.mp hc
  unfold findObj
  rw [hc, Option.bind_some, ha, Option.bind_some]
  simp [hg, ht]
theorem kin_classD {Q : Option Value → Shared → Prop} (F : L2.ExcC K D) (X : K.In s.heap) (I : InstAt s.heap x ox D od) (h : Q (some (.ref D)) { s with toks := s.toks + 1 }) : wpAny (model prog w) A (getAttr? (.ref x) "__class__") Q E s := by
  obtain ⟨hga, hgt, hsub, hdct, ha, hn, htk, hm⟩ := F
  have hf : findObj K D od "__class__" = some (.bind (.builtin "getset_descriptor.__get__") (.builtin "object.__class__")) := find_dataD (by obtain ⟨cd, hc, _⟩ := any_some hdct; rw [hc]; rfl) ha hn htk
  obtain ⟨hp, g, d, t, os⟩ := s
  have W0 := I.type (M := model prog w)
  have W1 := looks_findIn (M := model prog w) X hga
  have W2 := looks_findIn (M := model prog w) X hgt
  have W3 := looks_find (M := model prog w) X I hf
  have sub : Looks (model prog w) hp (isInstance (.ref x) (.type "BaseException")) true := W0.andThen (looks_subIn X hsub)
  have hx0 : (false && onTheHeap (Value.builtin "BaseException.__getattribute__")) = false := rfl
  have hx2 : (Value.builtin "BaseException.__getattribute__" == Value.builtin "object.__getattribute__") = false := by decide +kernel
  have hx1 : (onTheHeap (Value.ref D) && Value.builtin "BaseException.__getattribute__" == Value.builtin "object.__getattribute__") = false := by rw [hx2]; rfl
  unfold getAttr? getAttrBy? getAttrBy
  refine wpAny_bind (wpAny_mkText (wpAny_bind (wpAny_attempt (wpAny_holding (wpAny_bind (W0.at (wpAny_bind (W1.at ?_))))))))
  show wpAny _ _ (if (onTheHeap (Value.ref D) && Value.builtin "BaseException.__getattribute__" == Value.builtin "object.__getattribute__") = true then _ else _) _ _ _
  rw [hx1, if_neg Bool.false_ne_true]
  unfold getAttrByItsOwn hookBefore
  refine wpAny_bind ?_
  rw [if_pos (show onTheHeap (Value.ref D) = true from rfl)]
  refine W2.at ?_
  refine wpAny_bind (wpAny_attempt (wpAny_holding ?_))
  unfold callGetattribute
  rw [hx0, if_neg Bool.false_ne_true]
  unfold boundAndCalled
  rw [PySem.F.excAttr_ValueError.ga.bind (.ref x)]
  refine wpAny_bind (wpAny_pure ?_)
  show wpAny _ _ (call (.builtin "BaseException.__getattribute__") [.ref x, .str "__class__" t]) _ _ _
  refine wpAny_call (codeAny_call_builtin PySem.F.excAttr_ValueError.ga.plain PySem.F.entry_bexc_ga ?_)
  refine @check_slot (model prog w) _ _ ⟨hp, g, d, t + 1, os⟩ "BaseException.__getattribute__" "BaseException" "__getattribute__" (.ref x) [.str "__class__" t] [] _ (by decide +kernel) (by decide +kernel) sub (PySem.F.args_bexc_ga (.ref x) (.str "__class__" t)) ?_
  unfold Builtin.«object.__getattribute__»
  refine wpAny_bind (wpAny_of_eq (a := ((Value.ref x : Value), [Value.str "__class__" t])) (by first | rfl | (simp only [slotArgs]; rfl)) ?_)
  refine wpAny_bind (wpAny_pure (wpAny_bind (W0.at (wpAny_bind (W3.at ?_)))))
  show wpAny _ _ (holding [Value.builtin "object.__class__"] (call (.builtin "getset_descriptor.__get__") [.builtin "object.__class__", .ref x, .ref D]) >>= ret) _ _ _
  refine wpAny_bind (wpAny_holding (wpAny_call (class_get (s := ⟨hp, g, d, t + 1, os⟩) (ox := ox) (od := od) X I hm ?_)))
  refine wpAny_pure ?_
  show wpAny _ _ (handedOut (.ref D)) _ _ _
  rw [handedOut_of (v := .ref D) rfl]
  first
    | exact wpAny_pure (wpAny_pure h)
    | exact wpAny_pure h
    | exact wpAny_pure (wpAny_bind (wpAny_pure (wpAny_pure h)))
theorem kitx_excD (F : L2.ExcC K D) : KitX K (.ref x) (.ref D) (fun h => ∃ od, InstAt h x ox D od) where
  ty := fun _ _ _ I => by
    obtain ⟨od, I⟩ := I
    exact I.type
  it := fun _ _ X _ => by
    obtain ⟨cdD, hcD, _⟩ := any_some F.hd
    unfold clsIn at hcD
    split at hcD
    · rename_i c' d' cd' sl' ho
      intro A' Q' E' s' k q
      unfold isType loadHead
      exact wpAny_bind (wpAny_loadPart (k _ _ (X _ _ ho)) (wpAny_pure q))
    · cases hcD
  ne := fun h tp dd its n sl X htp => by
    obtain ⟨cdD, hcD, _⟩ := any_some F.hd
    refine Bool.eq_false_iff.mpr fun q => ?_
    have e : D = tp := Value.ref.inj (beq_iff_eq.mp q)
    subst e
    unfold clsIn at hcD
    split at hcD
    · rename_i c' d' cd' sl' ho
      have z := (X _ _ ho).symm.trans htp
      cases z
    · cases hcD
  ca := fun X I k => by
    obtain ⟨od, I⟩ := I
    exact kin_classD F X I k
end
/-- the dict that a caught error has, if any, stands -/
def DOk (H : Hp) (d : Option Addr) : Prop := match d with
  | none => True
  | some dd => ∃ fs, H dd = some (.xd fs)
/-- isinstance(e, c): e the exception that the suite holds, of the class cls -/
def rIsX (K : PySem.W.Frag) (a : Addr) (cls : Value) (d : Option Addr) : List V → Hp → VK → Prop := fun xs H Q => ∃ (D : Addr) (c : V) (cv : Value) (b : Bool), cls = .ref D ∧ ExcC K D ∧ xs = [.ref a, c] ∧ ClsV c cv ∧ PySem.W.kitOne K (.ref D) cv = some b ∧ DOk H d ∧ Q (.bl b) H
theorem inst_of {X : Cx} {a D : Addr} {oe : Obj} {d : Option Addr} {pn pins : List (Addr × Obj)} {σ : L2.St} {H : Hp} {s : Shared} (I : Inv (X.suite a ((a, oe) :: pn)) pins σ H s) (hz : Zc (.ref D) d oe) (hf : ∃ vs, oe.data = .fields vs) (hd : DOk H d) : ∃ od, PySem.W.InstAt s.heap a oe D od := by
  obtain ⟨hget, _⟩ := I.pin (a, oe) (List.mem_append.mpr (.inl List.mem_cons_self))
  obtain ⟨vs, hv⟩ := hf
  obtain ⟨oc, odd, oda, osl⟩ := oe
  obtain ⟨h1, h2⟩ := hz
  dsimp only at h1 h2 hv
  subst h1 h2 hv
  cases odd with
  | none => exact ⟨none, hget, rfl, rfl, trivial⟩
  | some dd =>
    obtain ⟨fs, hfs⟩ := hd
    obtain ⟨mA, ⟨o, es, ep, ho, _⟩, _⟩ := (show ObjOk X.prog X.w H s.heap dd (.xd fs) from I.hok dd _ hfs)
    exact ⟨some o, hget, rfl, rfl, ho⟩
theorem call_isX {X : Cx} {a : Addr} {oe : Obj} {cls : Value} {d : Option Addr} {pn : List (Addr × Obj)} (hz : Zc cls d oe) (hf : ∃ vs, oe.data = .fields vs) : CallR (X.suite a ((a, oe) :: pn)) (.builtin "isinstance") (rIsX X.K a cls d) := by
  intro pins s σ H xs us Q I r h
  obtain ⟨D, c, cv, b, ec, C, rfl, hcv, e, hd, q⟩ := h
  subst ec
  obtain ⟨u1, u2, rfl, r1, r2⟩ := vals2 r
  have e2 := hcv.eq r2
  subst e2
  cases (show u1 = Value.ref a from r1)
  exact PySem.W.kia_one (kitx_excD (ox := oe) C) I.kIn (inst_of I hz hf hd) e (fun z => nomatch z) fun tk => ⟨.bl b, H, I.kept (t' := tk) fun _ _ z => z, rfl, q⟩
/-- isinstance(e, (c1, c2, ..)) -/
def rIsXT (K : PySem.W.Frag) (a : Addr) (cls : Value) (d : Option Addr) : List V → Hp → VK → Prop := fun xs H Q => ∃ (D tp : Addr) (cs : List V) (us : List Value) (b : Bool), cls = .ref D ∧ ExcC K D ∧ xs = [.ref a, .ref tp] ∧ H tp = some (.tup cs) ∧ Paired ClsV cs us ∧ PySem.W.kitAny K (.ref D) us = some b ∧ DOk H d ∧ Q (.bl b) H
theorem call_isXT {X : Cx} {a : Addr} {oe : Obj} {cls : Value} {d : Option Addr} {pn : List (Addr × Obj)} (hz : Zc cls d oe) (hf : ∃ vs, oe.data = .fields vs) : CallR (X.suite a ((a, oe) :: pn)) (.builtin "isinstance") (rIsXT X.K a cls d) := by
  intro pins s σ H xs us Q I r h
  obtain ⟨D, tp, cs, ws, b, ec, C, rfl, hT, k, e, hd, q⟩ := h
  subst ec
  obtain ⟨u1, u2, rfl, r1, r2⟩ := vals2 r
  cases (show u1 = Value.ref a from r1)
  cases (show u2 = Value.ref tp from r2)
  obtain ⟨_, its, rv, o, h1, h2, n, h3⟩ := (show ObjOk X.prog X.w H s.heap tp (.tup cs) from I.hok tp _ hT)
  have e3 := ClsV.all k rv
  subst e3
  obtain ⟨oc, od, dt, sl⟩ := o
  simp only at h2 h3
  subst h2 h3
  exact PySem.W.kia_tup (kitx_excD (ox := oe) C) I.kIn (inst_of I hz hf hd) h1 e (fun z => nomatch z) fun tk => ⟨.bl b, H, I.kept (t' := tk) fun _ _ z => z, rfl, q⟩
end Y

namespace Y
open PySem PySem.Spec L2 He
/-! ### enumerate of a tuple, of a text -/
/-- the pairs (number, item), each in a new tuple: item i of what is walked is told by It0 i H x; n items -/
theorem turn_enumD {P : Program} {w : World} {K : PySem.W.Frag} {elts : List Expr} {kk : Nat} {tpos : Pos} (e it : Addr) (J : It) (Si : Nat → Heap → Prop)
    (Sobj : ∀ i h, Si i h → ∃ o, h.get? it = some o ∧ ∀ v, o.data ≠ .cell v) (Skeep : ∀ i h h', Si i h → (∀ o, h.get? it = some o → h'.get? it = some o) → Si i h')
    (Dr : ∀ (X : Cx), X.prog = P → X.w = w → X.K = K → X.calm = true → ∀ (i : Nat) (pins : List (Addr × Obj)) (s : Shared) (σ : L2.St) (H : Hp), Inv X pins σ H s → Si i s.heap → (J.go i H ∨ J.stop i H) →
      ∃ (fp : List Addr) (n : Nat) (Pv : Nat → Value → Prop) (S2 : Nat → Heap → Prop), Draws P w X.A.in1 it fp n Pv S2 ∧ S2 i s.heap ∧ (∀ j h, S2 j h → Si j h) ∧ (s.heap.get? e = some { cls := .type "enumerate", data := .fields #[.none, .bool false, .ref it, rawInt 0, .none, .none] } → True) ∧
        (∀ b ∈ fp, b = it ∨ ∃ o, s.heap.get? b = some o ∧ o.cls = .type "tuple") ∧ (J.stop i H → i = n) ∧ (J.go i H → i < n ∧ ∀ u, Pv i u → ∃ x, RelV x u ∧ ∀ T, H T = none → J.yld i H (.ref T) (upd H T (.tup [.int (i : Nat), x])))) :
    Turn P w K (.Tuple elts kk tpos) J [e, it] e (fun i h => (∃ old, IsEnum h e it ((i : Nat) : Int) old) ∧ Si i h ∧ e ≠ it) where
  mem := by simp
  obj := fun i h st b hb => by
    obtain ⟨⟨old, he⟩, hs, _⟩ := st
    have e' : b = e ∨ b = it := by simpa using hb
    rcases e' with z | z
    · rw [z]; exact ⟨_, he, fun v q => nomatch q⟩
    · rw [z]; exact Sobj i h hs
  keep := fun i h h' st k => by
    obtain ⟨⟨old, he⟩, hs, hne⟩ := st
    exact ⟨⟨old, k e (by simp) _ he⟩, Skeep i h h' hs fun o q => k it (by simp) o q, hne⟩
  item := by
    intro X hP hw hK hc i pins s σ H E I hf st hg
    obtain ⟨⟨old, he⟩, hs, hne⟩ := st
    obtain ⟨fp, n, Pv, S2, D, s2, up, _, hfp, _, hgo⟩ := Dr X hP hw hK hc i pins s σ H I hs (.inl hg)
    subst hP hw hK
    obtain ⟨hlt, hv⟩ := hgo hg
    have hel : e < s.heap.objs.size := Heap.lt_size he
    obtain ⟨oit, hoit, _⟩ := Sobj i _ hs
    have hil : it < s.heap.objs.size := Heap.lt_size hoit
    have hef : e ∉ fp := fun hm => by
      rcases hfp e hm with z | ⟨o, ho, hc⟩
      · exact hne z
      · have z := ho.symm.trans he
        injection z with z
        rw [z] at hc
        exact absurd (show Value.type "enumerate" = Value.type "tuple" from hc) (by decide)
    refine wpAny_pyNext_enum_itemD D he s2 hlt hne hef fun u h' tk hP ho hit' hT hsz hk => ?_
    obtain ⟨x, ru, hy⟩ := hv u hP
    refine ⟨_, rfl, wpAny_letOwnedTupleGo_enum (s := { s with heap := h', toks := tk + 1 }) ho fun h'' he' sb => ?_⟩
    have hT2 : h''.get? s.heap.objs.size = some { cls := .type "tuple", data := .seq #[.int i tk, u] } := (sb.2 _ (Nat.ne_of_gt hel)).trans hT
    have new : ObjOk X.prog X.w (upd H s.heap.objs.size (.tup [.int (i : Nat), x])) h'' s.heap.objs.size (.tup [.int (i : Nat), x]) :=
      ⟨by show 2 ≤ sizeLine; decide, [.int i tk, u], .cons ⟨_, rfl⟩ (.cons ru .nil), ⟨_, hT2, rfl, _, rfl⟩⟩
    have I1 : Inv X pins σ (upd H s.heap.objs.size (.tup [.int (i : Nat), x])) { s with heap := h'', toks := tk + 1 } :=
      I.turnedNew (ch := [e, it]) (fun b ob hb q => (sb.2 b (fun z => hb (by simp [z]))).trans (hk b ob (fun z => hb (by simp [z])) (fun z => hb (by simp [z])) q)) hf (Nat.le_refl _) new
    refine ⟨.ref s.heap.objs.size, _, I1, rfl, hy _ (I.hok.fresh (Nat.le_refl _)), ⟨⟨u, ?_⟩, Skeep _ _ _ (up _ _ hit') fun o q => (sb.2 it (Ne.symm hne)).trans q, hne⟩, fun b hb => ?_⟩
    · have e1 : ((i + 1 : Nat) : Int) = (i : Int) + 1 := by omega
      rw [e1]; exact he'
    · have hb' : b < s.heap.objs.size := by
        have e' : b = e ∨ b = it := by simpa using hb
        rcases e' with z | z
        · rw [z]; exact hel
        · rw [z]; exact hil
      rw [upd_ne (Nat.ne_of_lt hb')]
      exact (hf b hb).1
  done := by
    intro X hP hw hK hc i pins s σ H E I hf st hg
    obtain ⟨⟨old, he⟩, hs, hne⟩ := st
    obtain ⟨fp, n, Pv, S2, D, s2, up, _, hfp, hstop, _⟩ := Dr X hP hw hK hc i pins s σ H I hs (.inr hg)
    subst hP hw hK
    have en := hstop hg
    subst en
    obtain ⟨f0, f1, f2, f3, f4, f5⟩ := hf it (by simp)
    exact wpAny_pyNext_enum_endD D he s2 fun h' eb => ⟨rfl, I.turned (t' := s.toks) (fun b o hb q => eb b o hb q) f0 f1 f3 f4 f5⟩
  self := fun A i s Q E st h => let ⟨⟨_, he⟩, _⟩ := st; wpAny_pyIter_enum he h
/-- the tuple at a, its items in new pairs -/
def Ity (K : PySem.W.Frag) (a : Addr) : It :=
  ⟨fun i H => ∃ (xs : List V) (x : V), SqT K H a xs ∧ xs[i]? = some x, fun i H v H' => ∃ T x, v = .ref T ∧ H T = none ∧ H' = upd H T (.tup [.int (i : Nat), x]) ∧ ∀ xs, SqT K H a xs → xs[i]? = some x, fun i H => ∃ xs : List V, SqT K H a xs ∧ xs.length = i⟩
theorem turn_enumT {P : Program} {w : World} {K : PySem.W.Frag} {elts : List Expr} {kk : Nat} {tpos : Pos} (a e it : Addr) :
    Turn P w K (.Tuple elts kk tpos) (Ity K a) [e, it] e (fun i h => (∃ old, IsEnum h e it ((i : Nat) : Int) old) ∧ h.IsTupleIter it a i ∧ e ≠ it) := by
  refine turn_enumD e it (Ity K a) (fun i h => h.IsTupleIter it a i) (fun i h st => ?_) (fun i h h' st k => st.at k) (fun X hP hw hK hc i pins s σ H I st hg => ?_)
  · obtain ⟨o, e, c, d⟩ := st
    exact ⟨o, e, fun v z => by rw [d] at z; cases z⟩
  · subst hP hw hK
    obtain ⟨xs, hq⟩ : ∃ xs, SqT X.K H a xs := by
      rcases hg with ⟨xs, _, hq, _⟩ | ⟨xs, hq, _⟩ <;> exact ⟨xs, hq⟩
    obtain ⟨its, rv, p, hz⟩ := I.tuple hq
    have pt : s.heap.IsTuple a its.toArray := p
    have hne : a ≠ it := fun z => by
      obtain ⟨o, e1, c1, _⟩ := pt
      obtain ⟨o2, e2, c2, _⟩ := st
      rw [z] at e1
      have ee := e1.symm.trans e2
      injection ee with ee
      rw [ee, c2] at c1
      exact absurd c1 (by decide)
    have hl := rv.length
    refine ⟨[it, a], its.toArray.size, _, _, Draws.tuple (A := X.A.in1) (show X.A.in1.handled = none from I.ok.hd hc) it a hne its.toArray, ⟨st, pt⟩, fun j h z => z.1, fun _ => trivial, fun b hb => ?_, ?_, ?_⟩
    · have e' : b = it ∨ b = a := by simpa using hb
      rcases e' with z | z
      · exact .inl z
      · obtain ⟨o, e1, c1, _⟩ := pt
        exact .inr ⟨o, by rw [z]; exact e1, c1⟩
    · rintro ⟨ys, hy, e1⟩
      rw [← e1, I.tuple_inj hy hq, hl]
      simp
    · rintro ⟨ys, x, hy, hx⟩
      rw [I.tuple_inj hy hq] at hx
      obtain ⟨u, hu, ru⟩ := rv.get hx
      refine ⟨by
        have := (List.getElem?_eq_some_iff.mp hu).1
        simpa using this, fun u' hu' => ⟨x, ?_, fun T hT => ⟨T, x, rfl, hT, rfl, fun zs hzs => by rw [I.tuple_inj hzs hq]; exact hx⟩⟩⟩
      have e1 : its[i]? = some u' := by simpa using hu'
      rw [hu] at e1
      cases e1
      exact ru
def iEnumT (K : PySem.W.Frag) (ta : TA) : TI := fun σ H R => ta σ H fun vs H1 => ∃ a xs, vs = [.ref a] ∧ SqT K H1 a xs ∧ R (Ity K a) H1
/-- the signs of the text x in new pairs -/
def Itx (x : Str) : It :=
  ⟨fun i _ => i < x.cps.size, fun i H v H' => ∃ T c, v = .ref T ∧ H T = none ∧ H' = upd H T (.tup [.int (i : Nat), .str ⟨#[c]⟩]) ∧ x.cps[i]? = some c, fun i _ => i = x.cps.size⟩
theorem turn_enumS {P : Program} {w : World} {K : PySem.W.Frag} {elts : List Expr} {kk : Nat} {tpos : Pos} (x : Str) (t : Tok) (e it : Addr) :
    Turn P w K (.Tuple elts kk tpos) (Itx x) [e, it] e (fun i h => (∃ old, IsEnum h e it ((i : Nat) : Int) old) ∧ h.IsStrIter it (strIterType x) x t i ∧ e ≠ it) := by
  refine turn_enumD e it (Itx x) (fun i h => h.IsStrIter it (strIterType x) x t i) (fun i h st => ?_) (fun i h h' st k => ?_) (fun X hP hw hK hc i pins s σ H I st hg => ?_)
  · obtain ⟨o, e, c, d⟩ := st
    exact ⟨o, e, fun v z => by rw [d] at z; cases z⟩
  · obtain ⟨o, ho, r⟩ := st
    exact ⟨o, k o ho, r⟩
  · subst hP hw hK
    refine ⟨[it], x.cps.size, _, _, Draws.text (A := X.A.in1) (show X.A.in1.handled = none from I.ok.hd hc) it x t, st, fun j h z => z, fun _ => trivial, fun b hb => .inl (by simpa using hb), fun h => h, fun h => ⟨h, fun u hu => ?_⟩⟩
    obtain ⟨c, u', hc', rfl⟩ := hu
    exact ⟨.str ⟨#[c]⟩, ⟨u', rfl⟩, fun T hT => ⟨T, c, rfl, hT, rfl, hc'⟩⟩
def iEnumS (ta : TA) : TI := fun σ H R => ta σ H fun vs H1 => ∃ x, vs = [.str x] ∧ R (Itx x) H1
section
variable {prog : Program} {w : World} {A : Around} {E : Value → Shared → Prop} {s : Shared}
theorem meets_enumT (l : Addr) (items : Array Value) : Meets (Builtin.«enumerate.__new__» ⟨[.type "enumerate", .ref l], []⟩) (fun _ R s => s.heap.IsTuple l items ∧
      R (.ok (.ret (.ref (s.heap.push { cls := .type "tuple_iterator", data := .fields #[.ref l, .int 0 0] }).objs.size)))
        { s with heap := (s.heap.push { cls := .type "tuple_iterator", data := .fields #[.ref l, .int 0 0] }).push { cls := .type "enumerate", data := .fields #[.none, .bool false, .ref s.heap.objs.size, rawInt 0, .none, .none] } }) :=
  .of_wp fun prog w A R s h => by
    obtain ⟨hp, g, d, tk, os⟩ := s
    obtain ⟨hl, h⟩ := h
    have hsub := sub_enumerate
    wp_walk using wpAny_pyIter_tuple hl
    refine wpAny_stack_any fun st => wpAny_pure ?_
    split
    · rename_i c _ _ _ _ _
      cases (c == Value.type "enumerate")
      · wp_walk using wpAny_pyIter_tuple hl
        exact ⟨_, rfl, h⟩
      · wp_walk using wpAny_pyIter_tuple hl
        exact ⟨_, rfl, h⟩
    · wp_walk using wpAny_pyIter_tuple hl
      exact ⟨_, rfl, h⟩
end
section
variable {prog : Program} {w : World} {A : Around} {E : Value → Shared → Prop} {s : Shared}
theorem call_enumT {l : Addr} {items : Array Value} {Q : Value → Shared → Prop} (hL : s.heap.IsTuple l items)
    (h : ∀ h', IsEnum h' (s.heap.objs.size + 1) s.heap.objs.size 0 .none → h'.IsTupleIter s.heap.objs.size l 0 →
      (∀ b o, s.heap.get? b = some o → h'.get? b = some o) → Q (.ref (s.heap.objs.size + 1)) { s with heap := h' }) :
    wpAny (model prog w) A (call (.type "enumerate") [.ref l]) Q E s := by
  refine callType_new F.called_enumerate (by decide) (F.typeCall_enumerate_1 _) (F.newCall_enumerate_1 _) (fun obj => F.args_object_init_2 obj _) F.entry_enumerate_new (meets_enumT l items) ⟨hL, ?_⟩
  have hz : (s.heap.push { cls := .type "tuple_iterator", data := .fields #[.ref l, .int 0 0] }).objs.size = s.heap.objs.size + 1 := Heap.size_push ..
  show _ ∧ _
  rw [hz]
  have he : IsEnum ((s.heap.push { cls := .type "tuple_iterator", data := .fields #[.ref l, .int 0 0] }).push
      { cls := .type "enumerate", data := .fields #[.none, .bool false, .ref s.heap.objs.size, rawInt 0, .none, .none] }) (s.heap.objs.size + 1) s.heap.objs.size 0 .none := by
    have := Heap.get?_push_size (s.heap.push { cls := .type "tuple_iterator", data := .fields #[.ref l, .int 0 0] })
      (o := { cls := .type "enumerate", data := .fields #[.none, .bool false, .ref s.heap.objs.size, rawInt 0, .none, .none] }) rfl
    rw [hz] at this; exact this
  exact ⟨⟨_, he, rfl⟩, h _ he ⟨_, Heap.get?_push_of_some _ (Heap.get?_push_size _ rfl), rfl, rfl⟩ fun b o x => Heap.get?_push_of_some _ (Heap.get?_push_of_some _ x)⟩
end
theorem pi_enumT {X : Cx} {e : Expr} {ta : TA} {p pos tpos : Pos} {elts : List Expr} {kk : Nat} (hg : Gl X "enumerate") (hm : X.mg "enumerate" = none) (ha : PA X [e] ta) (hs : starEach [e] X.env = [(false, eval e X.env)] := by rfl) :
    PI X (.Tuple elts kk tpos) (.Call (.Name "enumerate" p) [e] [] pos) (iEnumT X.K ta) := by
  refine ⟨fun pins s σ H R I h => ?_⟩
  refine PyProof.Rows.Call_ (ld_blt I hg hm PyProof.Rows.boot_enumerate (PyProof.Rows.callWith_type1 (thn (ha.run pos pins s σ H _ I h) fun us s1 hh => ?_) hs rfl))
  obtain ⟨vs, H1, I1, r1, a, xs, ex, hq, q⟩ := hh
  subst ex
  cases r1 with
  | cons r rr =>
    cases rr
    cases r
    obtain ⟨its, rv, p', hz⟩ := I1.tuple hq
    refine call_enumT (show s1.heap.IsTuple a its.toArray from p') fun h' he hit hk => wpAny_pyIter_enum he ?_
    have I2 : Inv X pins σ H1 { s1 with heap := h' } := I1.kept (t' := s1.toks) hk
    refine ⟨s1.heap.objs.size + 1, [s1.heap.objs.size + 1, s1.heap.objs.size], _, _, H1, rfl, I2, turn_enumT a (s1.heap.objs.size + 1) s1.heap.objs.size, ⟨⟨.none, he⟩, hit, Nat.succ_ne_self _⟩, fun b hb => ?_, q⟩
    have e' : b = s1.heap.objs.size + 1 ∨ b = s1.heap.objs.size := by simpa using hb
    have hle : s1.heap.objs.size ≤ b := by
      rcases e' with z | z
      · rw [z]; exact Nat.le_add_right _ _
      · rw [z]; exact Nat.le_refl _
    exact I1.fpOk hle (I1.hok.fresh hle)
theorem pi_enumS {X : Cx} {e : Expr} {ta : TA} {p pos tpos : Pos} {elts : List Expr} {kk : Nat} (hg : Gl X "enumerate") (hm : X.mg "enumerate" = none) (ha : PA X [e] ta) (hs : starEach [e] X.env = [(false, eval e X.env)] := by rfl) :
    PI X (.Tuple elts kk tpos) (.Call (.Name "enumerate" p) [e] [] pos) (iEnumS ta) := by
  refine ⟨fun pins s σ H R I h => ?_⟩
  refine PyProof.Rows.Call_ (ld_blt I hg hm PyProof.Rows.boot_enumerate (PyProof.Rows.callWith_type1 (thn (ha.run pos pins s σ H _ I h) fun us s1 hh => ?_) hs rfl))
  obtain ⟨vs, H1, I1, r1, x, ex, q⟩ := hh
  subst ex
  cases r1 with
  | cons r rr =>
    cases rr
    obtain ⟨t, rfl⟩ := r
    refine call_enumerate_str fun h' he hit hsz hk => wpAny_pyIter_enum he ?_
    have I2 : Inv X pins σ H1 { s1 with heap := h' } := I1.kept (t' := s1.toks) hk
    refine ⟨s1.heap.objs.size + 1, [s1.heap.objs.size + 1, s1.heap.objs.size], _, _, H1, rfl, I2, turn_enumS x t (s1.heap.objs.size + 1) s1.heap.objs.size, ⟨⟨.none, he⟩, hit, Nat.succ_ne_self _⟩, fun b hb => ?_, q⟩
    have e' : b = s1.heap.objs.size + 1 ∨ b = s1.heap.objs.size := by simpa using hb
    have hle : s1.heap.objs.size ≤ b := by
      rcases e' with z | z
      · rw [z]; exact Nat.le_add_right _ _
      · rw [z]; exact Nat.le_refl _
    exact I1.fpOk hle (I1.hok.fresh hle)
end Y

namespace Y
open PySem PySem.Spec L2 He
/-! ### calls of defs, of classes -/
section
variable {X : Cx} {x : Str} {v : V} {pos : Pos}
theorem pe_gI {i : Int} (hg : Gl X x) (hm : ∃ t, X.mg x = some (.int i t)) (hd : (x == ("__debug__" : Str)) = false := by decide) : PE X (.Name x pos) (tC (.int i)) := by
  obtain ⟨t, h⟩ := hm
  exact pe_glob hg h ⟨t, rfl⟩ hd
theorem pe_gS {z : Str} (hg : Gl X x) (hm : ∃ t, X.mg x = some (.str z t)) (hd : (x == ("__debug__" : Str)) = false := by decide) : PE X (.Name x pos) (tC (.str z)) := by
  obtain ⟨t, h⟩ := hm
  exact pe_glob hg h ⟨t, rfl⟩ hd
end
/-- the def named x keeps the promise sp, at level k -/
def Has (P : Program) (w : World) (K : PySem.W.Frag) (mg : Str → Option Value) (base : Heap) (k : Nat) (x : Str) (sp : Sp) : Prop :=
  ∃ (f : Addr) (fd : FuncData) (ps : List Str), mg x = some (.ref f) ∧ PySem.W.keepIn K (.ref f) = true ∧ Binds K fd ps [] ∧ FnOk P w K mg base (L2.CX P w) k f fd ps sp
theorem pe_has {X : Cx} {W : WX} {k : Nat} {x : Str} {sp : Sp} {e : Expr} {es : List Expr} {t : TA} {p pos : Pos} (G : Has X.prog X.w X.K X.mg X.base k x sp) (hr : Room k X.A) (tk : Takes X W) (hg : Gl X x) (ha : PA X (e :: es) t)
    (hdb : (x == ("__debug__" : Str)) = false := by decide) (he : starEach (e :: es) X.env = (false, eval e X.env) :: starEach es X.env := by rfl) (hpl : (backTo pos (starEach es X.env)).any (·.1) = false := by rfl) :
    PE X (.Call (.Name x p) (e :: es) [] pos) (tCallS sp (WE W) t) := by
  obtain ⟨f, fd, ps, h1, h2, h3, h4⟩ := G
  exact pe_callS h4 hr hg h1 h2 h3 (fun σ => passAt tk σ) ha hdb he hpl
/-- no exception leaves a call -/
theorem passA {X : Cx} : Passes (L2.CX X.prog X.w) X E0 := fun pins σ H s e s' I c => by
  obtain ⟨_, _, _, _, _, _, _, _, _, _, _, _, z⟩ := c
  exact z.elim
/-- the class named x, at C, is made by an __init__ that keeps sp (nothing is let out) -/
def HasC (P : Program) (w : World) (K : PySem.W.Frag) (mg : Str → Option Value) (base : Heap) (k : Nat) (x : Str) (C : Addr) (sp : Sp) : Prop :=
  ∃ (f : Addr) (fd : FuncData) (ps : List Str), mg x = some (.ref C) ∧ Mk K C f ∧ Binds K fd ps [] ∧ FnOk P w K mg base (L2.CX P w) k f fd ps sp
theorem pe_mk' {X : Cx} {k : Nat} {x : Str} {C : Addr} {sp : Sp} {e : Expr} {es : List Expr} {t : TA} {p pos : Pos} (G : HasC X.prog X.w X.K X.mg X.base k x C sp) (hr : Room (k + 1) X.A) (hg : Gl X x) (ha : PA X (e :: es) t)
    (hdb : (x == ("__debug__" : Str)) = false := by decide) (he : starEach (e :: es) X.env = (false, eval e X.env) :: starEach es X.env := by rfl) (hpl : (backTo pos (starEach es X.env)).any (·.1) = false := by rfl) :
    PE X (.Call (.Name x p) (e :: es) [] pos) (tMake C sp [] E0 t) := by
  obtain ⟨f, fd, ps, h1, h2, h3, h4⟩ := G
  exact pe_make h2 h4 hr hg h1 h3 .nil passA ha hdb he hpl
/-- e.f in an except suite, e the caught error -/
def tXfE (K : PySem.W.Frag) (a : Addr) (cls : Value) (d : Option Addr) (f : Str) (te : TE) : TE := fun σ H Q => te σ H fun x H1 => ∃ C : Addr, cls = .ref C ∧ XfC K C ∧ PySem.W.findIn K (.ref C) f = some none ∧ x = .ref a ∧ ∃ (dd : Addr) (fs : List (Str × V)) (v : V), d = some dd ∧ H1 dd = some (.xd fs) ∧ fs.lookup f = some v ∧ Q v H1
theorem pe_xfE {X : Cx} {a : Addr} {oe : Obj} {cls : Value} {d : Option Addr} {pn : List (Addr × Obj)} {e : Expr} {te : TE} {pos : Pos} {n : Str} (hz : Zc cls d oe) (hf : ∃ vs, oe.data = .fields vs) (he : PE (X.suite a ((a, oe) :: pn)) e te) (hb : attributeBase e n X.env (eval e X.env) = eval e X.env := by rfl) :
    PE (X.suite a ((a, oe) :: pn)) (.Attribute e n pos) (tXfE X.K a cls d n te) := by
  refine ⟨fun pins s σ H Q I h => ?_⟩
  refine attr_of hb (thn (he.run pins s σ H _ I h) fun u s1 hh => ?_)
  obtain ⟨x, H1, I1, rx, C, ec, T, hno, ex, dd, fs, v, ed, ea, l, q⟩ := hh
  subst ex ec ed
  obtain rfl : u = Value.ref a := rx
  obtain ⟨ha, _⟩ := I1.pin (a, oe) (List.mem_append_left _ List.mem_cons_self)
  obtain ⟨vs, hd⟩ := hf
  have hx : ObjOk X.prog X.w H1 s1.heap dd (.xd fs) := I1.hok dd _ ea
  obtain ⟨mA, hns, hr⟩ := hx
  obtain ⟨od, ho, hl⟩ := lookIn_ns hns
  obtain ⟨u, hu, ru⟩ := RelO.some_of (v := v) (o := mA n) (by rw [← l]; exact hr n)
  have J : PySem.W.InstAt s1.heap a oe C (some od) := ⟨ha, hz.1, by unfold PySem.W.notCls; rw [hd] <;> rfl, by rw [hz.2]; exact ho⟩
  exact HandSPX.exc_get I1.kIn J T.ga T.gg T.exC (PySem.W.findObj_own T.hdC hno rfl (by rw [hl, hu])) (handed_of ru) ⟨v, H1, I1.tok _, ru, q⟩
/-- THE RULE for a def of the head's -/
theorem has_of {P : Program} {w : World} {K : PySem.W.Frag} {mg : Str → Option Value} {base : Heap} {x qual : Str} {params : Arguments} {body : List Stmt} {scope : Scope} {f : Addr} {N ps : List Str} {k : Nat} {sp : Sp}
    (F : ∃ fd, FunD K x qual params body scope [] [] f fd) (g : mg x = some (.ref f)) (S : FnScope N ps scope)
    (hb : ∀ (kV doc pm : Value) (an : Option Addr) (cdv ct : Value) (us : List Value), us.length = ps.length → bindArgs (PySem.W.fnOf x qual params body scope .none kV doc pm an cdv ct) ⟨us, []⟩ = pure (ps.zip us))
    (len : ∀ vs H Q E, sp vs H Q E → vs.length = ps.length)
    (hbody : ∀ (f : Addr) (cdv : Value) (A : Around) (outer : List Env) (s : Shared) (H : Hp) (vs : List V) (Q : VK) (E : XK), Room k (A.deeper (PyProof.Rows.envOfC qual scope s.heap.objs.size f cdv)) → sp vs H Q E →
      ∃ t, PSs (cxOf (L2.CX P w) P w K mg base N qual scope f cdv A outer s H E) body t ∧ t { nx := fun _ H' => Q .non H', rt := Q } (start N vs) H) : Has P w K mg base (k + 1) x sp := by
  obtain ⟨fd, F⟩ := F
  exact ⟨f, fd, ps, g, F.kp, F.bindsN hb, F.ok S len fun cdv A outer s H vs Q E hr h => hbody f cdv A outer s H vs Q E hr h⟩
/-- .. of an __init__ -/
theorem hasC_of {P : Program} {w : World} {K : PySem.W.Frag} {mg : Str → Option Value} {base : Heap} {x qual : Str} {C : Addr} {params : Arguments} {body : List Stmt} {scope : Scope} {f : Addr} {N ps : List Str} {k : Nat} {sp : Sp}
    (F : ∃ fd, FunD K "__init__" qual params body scope [] [] f fd) (g : mg x = some (.ref C)) (M : Mk K C f) (S : FnScope N ps scope)
    (hb : ∀ (kV doc pm : Value) (an : Option Addr) (cdv ct : Value) (us : List Value), us.length = ps.length → bindArgs (PySem.W.fnOf "__init__" qual params body scope .none kV doc pm an cdv ct) ⟨us, []⟩ = pure (ps.zip us))
    (len : ∀ vs H Q E, sp vs H Q E → vs.length = ps.length)
    (hbody : ∀ (f : Addr) (cdv : Value) (A : Around) (outer : List Env) (s : Shared) (H : Hp) (vs : List V) (Q : VK) (E : XK), Room k (A.deeper (PyProof.Rows.envOfC qual scope s.heap.objs.size f cdv)) → sp vs H Q E →
      ∃ t, PSs (cxOf (L2.CX P w) P w K mg base N qual scope f cdv A outer s H E) body t ∧ t { nx := fun _ H' => Q .non H', rt := Q } (start N vs) H) : HasC P w K mg base (k + 1) x C sp := by
  obtain ⟨fd, F⟩ := F
  exact ⟨f, fd, ps, g, M, F.bindsN hb, F.ok S len fun cdv A outer s H vs Q E hr h => hbody f cdv A outer s H vs Q E hr h⟩
theorem Has.mono {P : Program} {w : World} {K : PySem.W.Frag} {mg : Str → Option Value} {base : Heap} {j k : Nat} {x : Str} {sp : Sp} (G : Has P w K mg base j x sp) (h : j ≤ k) : Has P w K mg base k x sp := by
  obtain ⟨f, fd, ps, h1, h2, h3, h4⟩ := G
  exact ⟨f, fd, ps, h1, h2, h3, h4.mono h⟩
/-! ### heaps: D the frozen part of H, m what a def may change -/
structure Gr (m : Addr → Prop) (D H D' H' : Hp) : Prop where
  same : ∀ b o, ¬ m b → H b = some o → H' b = some o
  kept : ∀ b, H' b = none → H b = none
  dd : Same D D'
  sub : Same D' H'
  new : ∀ b o, D' b = some o → D b = some o ∨ H b = none
abbrev No : Addr → Prop := fun _ => False
section
variable {m m' : Addr → Prop} {D H D1 H1 D2 H2 : Hp} {p : Addr} {o : HO}
theorem Gr.refl (h : Same D H) : Gr m D H D H := ⟨fun _ _ _ e => e, fun _ e => e, Same.refl D, h, fun _ _ e => .inl e⟩
theorem Gr.trans (a : Gr m D H D1 H1) (b : Gr m D1 H1 D2 H2) : Gr m D H D2 H2 where
  same := fun x u hm e => b.same x u hm (a.same x u hm e)
  kept := fun x e => a.kept x (b.kept x e)
  dd := a.dd.trans b.dd
  sub := b.sub
  new := fun x u e => (b.new x u e).elim (a.new x u) fun z => .inr (a.kept x z)
theorem Gr.weak (a : Gr m D H D1 H1) (h : ∀ b, m b → m' b) : Gr m' D H D1 H1 := ⟨fun b o hm => a.same b o fun z => hm (h b z), a.kept, a.dd, a.sub, a.new⟩
theorem Gr.no (a : Gr No D H D1 H1) : Gr m D H D1 H1 := a.weak fun _ z => z.elim
theorem Gr.all (a : Gr No D H D1 H1) : Same H H1 := fun b o e => a.same b o (fun z => z) e
/-- a new object, not frozen -/
theorem Gr.lay (a : Gr m D H D1 H1) (h : H1 p = none) : Gr m D H D1 (upd H1 p o) where
  same := fun b u hm e => by
    have e1 := a.same b u hm e
    rw [upd_ne (ne_of_none e1 h)]
    exact e1
  kept := fun b e => a.kept b (by
    by_cases hb : b = p
    · rw [hb, upd_same] at e; cases e
    · rw [upd_ne hb] at e; exact e)
  dd := a.dd
  sub := fun b u e => by
    have e1 := a.sub b u e
    rw [upd_ne (ne_of_none e1 h)]
    exact e1
  new := a.new
/-- a new object, frozen at once -/
theorem Gr.ice (a : Gr m D H D1 H1) (h : H1 p = none) : Gr m D H (upd D1 p o) (upd H1 p o) where
  same := (a.lay h).same
  kept := (a.lay h).kept
  dd := fun b u e => by
    have e1 := a.sub b u (a.dd b u e)
    rw [upd_ne (ne_of_none e1 h)]
    exact a.dd b u e
  sub := fun b u e => by
    by_cases hb : b = p
    · subst hb; rw [upd_same] at e ⊢; exact e
    · rw [upd_ne hb] at e ⊢; exact a.sub b u e
  new := fun b u e => by
    by_cases hb : b = p
    · subst hb; exact .inr (a.kept b h)
    · rw [upd_ne hb] at e; exact a.new b u e
/-- a local object is frozen -/
theorem Gr.cold (a : Gr m D H D1 H1) (h : H1 p = some o) (h0 : H p = none) : Gr m D H (upd D1 p o) H1 where
  same := a.same
  kept := a.kept
  dd := fun b u e => by
    by_cases hb : b = p
    · subst hb
      have e1 := a.sub b u (a.dd b u e)
      rw [h] at e1
      rw [upd_same]
      exact e1
    · rw [upd_ne hb]; exact a.dd b u e
  sub := fun b u e => by
    by_cases hb : b = p
    · subst hb; rw [upd_same] at e; rw [h]; exact e
    · rw [upd_ne hb] at e; exact a.sub b u e
  new := fun b u e => by
    by_cases hb : b = p
    · subst hb; exact .inr h0
    · rw [upd_ne hb] at e; exact a.new b u e
/-- a local object is changed -/
theorem Gr.put (a : Gr m D H D1 H1) (h : D1 p = none) (h0 : H p = none ∨ m p) : Gr m D H D1 (upd H1 p o) where
  same := fun b u hm e => by
    have hb : b ≠ p := fun z => by
      subst z
      rcases h0 with h0 | h0
      · rw [h0] at e; cases e
      · exact hm h0
    rw [upd_ne hb]
    exact a.same b u hm e
  kept := fun b e => a.kept b (by
    by_cases hb : b = p
    · rw [hb, upd_same] at e; cases e
    · rw [upd_ne hb] at e; exact e)
  dd := a.dd
  sub := fun b u e => by
    rw [upd_ne (ne_of_none e h)]
    exact a.sub b u e
  new := a.new
/-- what is tracked and not frozen stays unfrozen -/
theorem Gr.stay (a : Gr m D H D1 H1) (h : D p = none) (h1 : H p = some o) : D1 p = none := by
  cases e : D1 p with
  | none => rfl
  | some u =>
    rcases a.new p u e with z | z
    · rw [h] at z; cases z
    · rw [h1] at z; cases z
theorem Gr.free (a : Gr m D H D1 H1) (h : H1 p = none) : D1 p = none := by
  cases e : D1 p with
  | none => rfl
  | some u =>
    have z := a.sub p u e
    rw [h] at z; cases z
theorem sub_free (a : Same D H) (h : H p = none) : D p = none := Same.free a h
end
/-! ### data -/
mutual
theorem Dp.mono {K : PySem.W.Frag} {H H' : Hp} (e : Same H H') : ∀ {d : PyData} {v : V}, Dp K H v d → Dp K H' v d
  | .none, _, h => by cases h; exact .non
  | .bool b, _, h => by cases h; exact .bl b
  | .int i, _, h => by cases h; exact .int i
  | .str x, _, h => by cases h; exact .str x
  | .list ds, _, h => by
    cases h with
    | lst hs ha => exact .lst (e.seq hs) (Dp.monoAll e ha)
  | .tuple ds, _, h => by
    cases h with
    | tup hs ha => exact .tup (same_seqT e hs) (Dp.monoAll e ha)
  | .dict _, _, h => by cases h
theorem Dp.monoAll {K : PySem.W.Frag} {H H' : Hp} (e : Same H H') : ∀ {ds : List PyData} {vs : List V}, DpAll K H vs ds → DpAll K H' vs ds
  | [], _, h => by cases h; exact .nil
  | _ :: _, _, h => by
    cases h with
    | cons h1 h2 => exact .cons (Dp.mono e h1) (Dp.monoAll e h2)
theorem same_seqT {K : PySem.W.Frag} {H H' : Hp} {a : Addr} {xs : List V} (e : Same H H') (h : SqT K H a xs) : SqT K H' a xs := by
  rcases h with (h | ⟨o, h⟩) | h
  · exact .inl (.inl (e _ _ h))
  · exact .inl (.inr ⟨o, e _ _ h⟩)
  · exact .inr h
end
end Y

namespace Y
open PySem PySem.Spec L2 He
/-! ### what is never reached -/
section
variable {X : Cx}
theorem ps_dead {s : Stmt} : PS X s (fun _ _ _ => False) := ⟨fun _ _ _ _ _ _ h => h.elim⟩
theorem pss_dead {s : List Stmt} : PSs X s (fun _ _ _ => False) := ⟨fun _ _ _ _ _ _ h => h.elim⟩
theorem pe_dead {e : Expr} : PE X e (fun _ _ _ => False) := ⟨fun _ _ _ _ _ _ h => h.elim⟩
end
/-! ### walks -/
theorem walk_enumT {K : PySem.W.Frag} {a : Addr} {xs : List V} : Walk (Ity K a) xs.length (fun H => SqT K H a xs) (YPair (fun i => some (.int (i : Nat))) (fun i => xs[i]?)) := by
  refine ⟨fun i _ hi q => ⟨xs, xs[i], q, by simp [hi]⟩, fun _ q => ⟨xs, q, rfl⟩, fun i H v H' _ q y => ?_⟩
  obtain ⟨T, x, h1, h2, h3, h4⟩ := y
  exact ⟨T, .int (i : Nat), x, h1, h2, h3, rfl, h4 xs q⟩
theorem walk_enumS {z : Str} : Walk (Itx z) z.cps.size (fun _ => True) (YPair (fun i => some (.int (i : Nat))) (fun i => z.cps[i]?.map fun c => V.str ⟨#[c]⟩)) := by
  refine ⟨fun i _ hi _ => hi, fun _ _ => rfl, fun i H v H' _ _ y => ?_⟩
  obtain ⟨T, c, h1, h2, h3, h4⟩ := y
  refine ⟨T, .int (i : Nat), _, h1, h2, h3, rfl, ?_⟩
  show z.cps[i]?.map _ = _
  rw [h4]
  rfl
/-! ### a comprehension, the heap by Gr -/
structure LcP (m : Addr → Prop) (D1 H1 : Hp) (p : Addr) (R : List V → Hp → Prop) (H : Hp) : Prop where
  ex : ∃ D2 acc, Gr m D1 H1 D2 H ∧ H p = some (.lst acc) ∧ D2 p = none ∧ R acc D2
theorem lc_put {m : Addr → Prop} {D1 H1 D2 H D4 H4 : Hp} {p : Addr} {R : List V → Hp → Prop} {acc : List V} {y : V} (hp : H1 p = none) (hm : ¬ m p) (g : Gr m D1 H1 D2 H) (ha : H p = some (.lst acc)) (hD : D2 p = none)
    (g4 : Gr m D2 H D4 H4) (hl : acc.length < sizeLine) (r : R (acc ++ [y]) D4) : ∃ acc, H4 p = some (.lst acc) ∧ acc.length < sizeLine ∧ LcP m D1 H1 p R (upd H4 p (.lst (acc ++ [y]))) := by
  have h4 := g4.same p _ hm ha
  have d4 := g4.stay hD ha
  exact ⟨acc, h4, hl, ⟨D4, acc ++ [y], (g.trans g4).put d4 (.inl hp), upd_same, d4, r⟩⟩
theorem lc_skip {m : Addr → Prop} {D1 H1 D2 H D4 H4 : Hp} {p : Addr} {R : List V → Hp → Prop} {acc : List V} (hm : ¬ m p) (g : Gr m D1 H1 D2 H) (ha : H p = some (.lst acc)) (hD : D2 p = none)
    (g4 : Gr m D2 H D4 H4) (r : R acc D4) : LcP m D1 H1 p R H4 :=
  ⟨D4, acc, g.trans g4, g4.same p _ hm ha, g4.stay hD ha, r⟩
/-- a for over J, ready to be walked; a comprehension -/
def Lp (g : TG) (tb : TS) (D : Ends) (J : It) (σ : L2.St) (H : Hp) : Prop := ∃ W : Nat → Nat → L2.St → Hp → Prop, (∃ m, W 0 m σ H) ∧ ∀ i m σ H, W i m σ H →
  (J.stop i H ∧ D.nx σ H) ∨ (J.go i H ∧ ∃ N : L2.St → Hp → Prop, (∀ σ' H', N σ' H' → ∃ m', m' < m ∧ W (i + 1) m' σ' H') ∧ ∀ x H', J.yld i H x H' → g x σ H' fun σ2 H2 => tb { D with nx := N, ct := N, bk := D.nx } σ2 H2)
def Lq (g : TG) (tt : TT) (te : TE) (vs : List Nat) (J : It) (σ : L2.St) (H1 : Hp) (p : Addr) (Qd : Hp → Prop) : Prop := ∃ W : Nat → Nat → Hp → Prop, (∃ m, W 0 m (upd H1 p (.lst []))) ∧ ∀ i m H, W i m H →
  (J.stop i H ∧ Qd H) ∨ (J.go i H ∧ ∃ Nx : Hp → Prop, (∀ H', Nx H' → ∃ m', m' < m ∧ W (i + 1) m' H') ∧ ∀ x H', J.yld i H x H' → g x (wipe σ vs) H' fun σ2 H2 => wipe σ2 vs = wipe σ vs ∧ tt σ2 H2 fun b H3 =>
    if b = true then te σ2 H3 fun y H4 => ∃ acc, H4 p = some (.lst acc) ∧ acc.length < sizeLine ∧ Nx (upd H4 p (.lst (acc ++ [y]))) else Nx H3)
section
variable {J : It} {n : Nat} {G : Hp → Prop} {Y : Nat → Hp → V → Hp → Prop}
theorem lp_it (w : Walk J n G Y) {g : TG} {tb : TS} {D : Ends} {σ : L2.St} {H : Hp} (Pv : Nat → L2.St → Hp → Prop) (h0 : Pv 0 σ H) (hG : ∀ i σ H, i ≤ n → Pv i σ H → G H)
    (hs : ∀ i x σ H H', i < n → Pv i σ H → Y i H x H' → g x σ H' fun σ2 H2 => tb { D with nx := Pv (i + 1), ct := Pv (i + 1), bk := D.nx } σ2 H2) (hd : ∀ σ H, Pv n σ H → D.nx σ H) : Lp g tb D J σ H := for_it w Pv h0 hG hs hd
theorem lq_gr (w : Walk J n G Y) {g : TG} {tt : TT} {te : TE} {vs : List Nat} {σ : L2.St} {H1 : Hp} {p : Addr} {Qd : Hp → Prop} {m : Addr → Prop} (D1 : Hp)
    (R : Nat → List V → Hp → Prop) (hp : H1 p = none) (h1 : Same D1 H1) (r0 : R 0 [] D1) (hG : ∀ D2 H, Gr m D1 H1 D2 H → G H)
    (hs : ∀ i x acc D2 H H', i < n → Gr m D1 H1 D2 H → H p = some (.lst acc) → D2 p = none → R i acc D2 → Y i H x H' → g x (wipe σ vs) H' fun σ2 H2 => wipe σ2 vs = wipe σ vs ∧ tt σ2 H2 fun b H3 =>
      if b = true then te σ2 H3 fun y H4 => ∃ acc, H4 p = some (.lst acc) ∧ acc.length < sizeLine ∧ LcP m D1 H1 p (R (i + 1)) (upd H4 p (.lst (acc ++ [y]))) else LcP m D1 H1 p (R (i + 1)) H3)
    (hd : ∀ acc D2 H, Gr m D1 H1 D2 H → H p = some (.lst acc) → D2 p = none → R n acc D2 → Qd H) : Lq g tt te vs J σ H1 p Qd := by
  refine lc_it w (fun i H => LcP m D1 H1 p (R i) H) ⟨D1, [], (Gr.refl h1).lay hp, upd_same, (Gr.refl (m := m) h1).free hp, r0⟩ (fun i H _ q => ?_) (fun i x H H' hi q y => ?_) (fun H q => ?_)
  · obtain ⟨D2, acc, g, ha, hD, r⟩ := q
    exact hG D2 H g
  · obtain ⟨D2, acc, g, ha, hD, r⟩ := q
    exact hs i x acc D2 H H' hi g ha hD r y
  · obtain ⟨D2, acc, g, ha, hD, r⟩ := q
    exact hd acc D2 H g ha hD r
/-- .. each item a value that is told beforehand, the heap stays -/
theorem lq_map (w : Walk J n G Y) {g : TG} {tt : TT} {te : TE} {vs : List Nat} {σ : L2.St} {H1 : Hp} {p : Addr} {Qd : Hp → Prop} (ys : List V) (hn : ys.length = n) (hz : n ≤ sizeLine)
    (hp : H1 p = none) (hG : ∀ acc, G (upd H1 p (.lst acc)))
    (hs : ∀ i x acc H' (N : Hp → Prop), i < n → Y i (upd H1 p (.lst acc)) x H' → ((y : V) → ys[i]? = some y → N (upd H1 p (.lst (acc ++ [y])))) → (acc.length < sizeLine) → g x (wipe σ vs) H' fun σ2 H2 => wipe σ2 vs = wipe σ vs ∧ tt σ2 H2 fun b H3 =>
      if b = true then te σ2 H3 fun y H4 => ∃ acc, H4 p = some (.lst acc) ∧ acc.length < sizeLine ∧ N (upd H4 p (.lst (acc ++ [y]))) else N H3)
    (hd : Qd (upd H1 p (.lst ys))) : Lq g tt te vs J σ H1 p Qd := by
  refine lc_it w (fun i H => H = upd H1 p (.lst (ys.take i))) (by rw [List.take_zero]) (fun i H _ q => by rw [q]; exact hG _) (fun i x H H' hi q y => ?_) (fun H q => ?_)
  · subst q
    refine hs i x _ H' _ hi y (fun v e => ?_) ?_
    · rw [List.take_add_one, e]
      rfl
    · rw [List.length_take, hn]
      omega
  · rw [q, ← hn, List.take_length]
    exact hd
theorem lq_put {H1 : Hp} {p : Addr} {acc : List V} {y : V} {N : Hp → Prop} (hl : acc.length < sizeLine) (k : N (upd H1 p (.lst (acc ++ [y])))) :
    ∃ acc', (upd H1 p (.lst acc)) p = some (.lst acc') ∧ acc'.length < sizeLine ∧ N (upd (upd H1 p (.lst acc)) p (.lst (acc' ++ [y]))) := ⟨acc, upd_same, hl, by rw [upd_upd]; exact k⟩
end
/-! ### more steps -/
section
variable {K : PySem.W.Frag} {σ : L2.St} {H : Hp} {Q : VK} {v x y : V} {ta tb tc te : TE} {t u : TT} {a b : Addr} {D : Ends} {n m : Int} {s z : Str} {R : It → Hp → Prop}
theorem s_for {wi : TI} {g : TG} {tb : TS} (k : wi σ H fun J H1 => Lp g tb D J σ H1) : tFor wi g tb D σ H := k
theorem s_lc {wi : TI} {g : TG} {tt : TT} {vs : List Nat} (k : wi σ H fun J H1 => ∀ p, H1 p = none → Lq g tt te vs J σ H1 p (fun H2 => Q (.ref p) H2)) : tLc wi g tt te vs σ H Q := k
theorem s_iStr (k : te σ H fun v H1 => ∃ x, v = .str x ∧ R (Its x) H1) : iStr te σ H R := k
theorem s_iList (k : te σ H fun x H1 => ∃ a, x = .ref a ∧ (∃ xs, SqL K H1 a xs) ∧ R (Itl K a) H1) : iList K te σ H R := k
theorem s_iTup (k : te σ H fun x H1 => ∃ a, x = .ref a ∧ (∃ xs, SqT K H1 a xs) ∧ R (Itt K a) H1) : iTup K te σ H R := k
theorem s_iR1 {ta : TA} (k : ta σ H fun vs H1 => ∃ j : Int, vs = [.int j] ∧ -(2 ^ 62) ≤ j ∧ j < 2 ^ 62 ∧ R (Itr 0 j.toNat) H1) : iRng1 ta σ H R := k
theorem s_iR2 {ta : TA} (k : ta σ H fun vs H1 => ∃ i j : Int, vs = [.int i, .int j] ∧ (-(2 ^ 62) ≤ i ∧ i < 2 ^ 62 ∧ -(2 ^ 62) ≤ j ∧ j < 2 ^ 62) ∧ R (Itr i (j - i).toNat) H1) : iRng2 ta σ H R := k
theorem s_iE {ta : TA} (k : ta σ H fun vs H1 => ∃ a xs, vs = [.ref a] ∧ SqL K H1 a xs ∧ R (Ite K a) H1) : iEnum K ta σ H R := k
theorem s_iET {ta : TA} (k : ta σ H fun vs H1 => ∃ a xs, vs = [.ref a] ∧ SqT K H1 a xs ∧ R (Ity K a) H1) : iEnumT K ta σ H R := k
theorem s_iES {ta : TA} (k : ta σ H fun vs H1 => ∃ x, vs = [.str x] ∧ R (Itx x) H1) : iEnumS ta σ H R := k
theorem s_make {C : Addr} {sp : Sp} {dvs : List V} {E : XK} {t : TA} (k : t σ H fun vs H1 => ∀ x dx, H1 x = none → H1 dx = none → dx ≠ x →
  sp (.ref x :: (vs ++ dvs)) (upd (upd H1 dx (.own x)) x (.ins C dx [])) (fun v H2 => v = .non ∧ Q (.ref x) H2) E) : tMake C sp dvs E t σ H Q := k
theorem s_fld {f : Str} (k : ta σ H fun x H1 => ∃ a C dx fs v, x = .ref a ∧ H1 a = some (.ins C dx fs) ∧ Cls K C ∧ NoAttr K C f ∧ fs.lookup f = some v ∧ Q v H1) : tFld K ta f σ H Q := k
theorem s_sFld {f : Str} {tv : TE} (k : tv σ H fun y H1 => ta σ H1 fun x H2 => ∃ a C dx fs, x = .ref a ∧ H2 a = some (.ins C dx fs) ∧ Cls K C ∧ NoAttr K C f ∧ fs.length < 1000 ∧ D.nx σ (upd H2 a (.ins C dx (putF f y fs)))) : sFld K ta tv f D σ H := k
theorem s_rz {C : Addr} {fs : List Str} {ta : TA} {Q : XK} (k : ta σ H fun vs H1 => vs.length = fs.length ∧ vs.length ≤ 1000 ∧ ∀ d, H1 d = none → Q (.ref C) (some d) (upd H1 d (.xd (fs.zip vs).reverse))) : tRz C fs ta σ H Q := k
theorem s_po {Q : Option Int → Hp → Prop} (k : te σ H fun x H1 => ∃ i, x = .int i ∧ Q (some i) H1) : tPart te σ H Q := k
theorem s_xb {Q : Bool → Prop} {c : Bool} (k : Q c) : ∃ k, V.bl c = .bl k ∧ Q k := ⟨c, rfl, k⟩
theorem s_xi {Q : Int → Prop} {c : Int} (k : Q c) : ∃ k, V.int c = .int k ∧ Q k := ⟨c, rfl, k⟩
theorem s_xs {Q : Str → Prop} {c : Str} (k : Q c) : ∃ k, V.str c = .str k ∧ Q k := ⟨c, rfl, k⟩
theorem s_xr {Q : Addr → Prop} {c : Addr} (k : Q c) : ∃ k, V.ref c = .ref k ∧ Q k := ⟨c, rfl, k⟩
theorem jtT {A B : Prop} {i : Decidable (true = true)} (k : A) : @ite Prop (true = true) i A B := by
  rw [if_pos rfl]
  exact k
theorem jtF {A B : Prop} {i : Decidable (false = true)} (k : B) : @ite Prop (false = true) i A B := by
  rw [if_neg Bool.false_ne_true]
  exact k
theorem jtD {p A B : Prop} {j : Decidable p} {i : Decidable (@decide p j = true)} (h1 : p → A) (h2 : ¬ p → B) : @ite Prop (@decide p j = true) i A B := ite2 (fun e => h1 (of_decide_eq_true e)) fun e => h2 fun z => e (decide_eq_true z)
theorem jtN {p A B : Prop} {j : Decidable p} {i : Decidable ((!@decide p j) = true)} (h1 : ¬ p → A) (h2 : p → B) : @ite Prop ((!@decide p j) = true) i A B := by
  by_cases h : p
  · rw [if_neg (by simp [h])]; exact h2 h
  · rw [if_pos (by simp [h])]; exact h1 h
theorem jtB {b : Bool} {A B : Prop} {i : Decidable (b = true)} (h1 : b = true → A) (h2 : b = false → B) : @ite Prop (b = true) i A B := by
  cases b
  · exact jtF (h2 rfl)
  · exact jtT (h1 rfl)
theorem jtNB {b : Bool} {A B : Prop} {i : Decidable ((!b) = true)} (h1 : b = false → A) (h2 : b = true → B) : @ite Prop ((!b) = true) i A B := by
  cases b
  · exact jtT (h1 rfl)
  · exact jtF (h2 rfl)
end
end Y

namespace Y
open PySem PySem.Spec L2 He
/-- an own error class with fields, by its __init__'s rows behind super().__init__('..') -/
theorem rz_of {P : Program} {w : World} {K : PySem.W.Frag} {mg : Str → Option Value} {base : Heap} {x : Str} {C f : Addr} {name qual : Str} {params : Arguments} {scope : Scope} {N ps fs : List Str} {ar : Arg} {rest : List Stmt} {m : Str} {j : Nat} {p0 p1 ap cp p2 rp : Pos}
    (I : ∃ fd, IniF P K mg C f name qual params (.Expr (.Call (.Attribute (.Call (.Name "super" p0) [] [] p1) "__init__" ap) [.Constant (.str m) j p2] [] cp) rp :: rest) scope fd) (g : mg x = some (.ref C)) (T : OexC K C) (S : IniScope N ps scope)
    (hp : (params.posonlyargs ++ params.args).head? = some ar) (hN : N[0]? = some ar.arg) (hps : ar.arg ∈ ps)
    (hev : ∀ env : Env, ∃ pl : Sem Bool, eval (.Call (.Attribute (.Call (.Name "super" p0) [] [] p1) "__init__" ap) [.Constant (.str m) j p2] [] cp) env = (do
        let ov ← attributeBase (.Call (.Name "super" p0) [] [] p1) "__init__" env (eval (.Call (.Name "super" p0) [] [] p1) env)
        standAt ap.atName
        let (f, first) ← holding [ov] (getMethod ov "__init__" pl)
        callWith cp f first (backTo cp (starEach [.Constant (.str m) j p2] env)) []))
    (hl : ps.length = fs.length + 1)
    (hb : ∀ (kV doc pm : Value) (an : Option Addr) (cdv ct : Value) (cc : Addr) (us : List Value), us.length = ps.length → bindArgs (iniFd name qual params (.Expr (.Call (.Attribute (.Call (.Name "super" p0) [] [] p1) "__init__" ap) [.Constant (.str m) j p2] [] cp) rp :: rest) scope .none kV doc pm an cdv ct cc) ⟨us, []⟩ = pure (ps.zip us))
    (hbody : ∀ (kV doc pm : Value) (an : Option Addr) (cdv ct : Value) (cc : Addr) (A : Around) (outer : List Env) (s : Shared) (H : Hp) (a : Addr) (ws : List V) (Q : VK) (E : XK), ws.length = fs.length → H a = some (exo a C none) →
      (∀ dx, H dx = none → dx ≠ a → Q .non (upd (upd H dx (exd dx (fs.zip ws).reverse)) a (exo a C (some dx)))) →
      ∃ t, PSs (cxI CX0 P w K mg base N (iniFd name qual params (.Expr (.Call (.Attribute (.Call (.Name "super" p0) [] [] p1) "__init__" ap) [.Constant (.str m) j p2] [] cp) rp :: rest) scope .none kV doc pm an cdv ct cc) f A outer s H E) rest t ∧ t { nx := fun _ H' => Q .non H', rt := Q } (start N (.ref a :: ws)) H) :
    Rz P w K mg base x C fs := by
  obtain ⟨fd, F⟩ := I
  have F1 : FnOk P w K mg base CX0 (0 + 1) f fd ps (spIni C fs) := by
    refine fn_ini (x := "") F T S hp hN hps hev (fun vs H Q E h => ?_) (fun vs H Q E h => ?_) (fun A outer s H vs Q E hr h => ?_)
    · obtain ⟨a, ws, rfl, hw, _⟩ := h
      rw [List.length_cons, hw, hl]
    · obtain ⟨a, ws, rfl, hw, ha, _⟩ := h
      exact ⟨a, ws, rfl, ha⟩
    · obtain ⟨a, ws, rfl, hw, ha, q⟩ := h
      obtain ⟨oc, od, kV, doc, pm, an, cda, ct, osl, cc, ocl, oco, vs, tf, rfl, _⟩ := F.ex
      exact hbody kV doc pm an _ ct cc A outer s H a ws Q E hw ha q
  refine ⟨g, T, f, fd, ps, F1, ?_, F.init, F.typ⟩
  obtain ⟨oc, od, kV, doc, pm, an, cda, ct, osl, cc, ocl, oco, vs, tf, rfl, _⟩ := F.ex
  exact .all fun us hu => hb kV doc pm an _ ct cc us hu
end Y

namespace Y
open PySem PySem.Spec L2 He
/-! ### data: lists of ints, of texts, of rows -/
abbrev dIs (ns : List Int) : List PyData := ns.map PyData.int
abbrev dSs (zs : List Str) : List PyData := zs.map PyData.str
abbrev dL (ns : List Int) : PyData := .list (dIs ns)
abbrev dT (ns : List Int) : PyData := .tuple (dIs ns)
abbrev dLL (rows : List (List Int)) : PyData := .list (rows.map dL)
abbrev dTT (rows : List (List Int)) : PyData := .tuple (rows.map dT)
section
variable {K : PySem.W.Frag} {D H D' H' D1 H1 D2 H2 : Hp} {a b p : Addr} {xs ys : List V} {ds es : List PyData} {x y v : V} {d : PyData} {ns : List Int} {zs : List Str} {rows : List (List Int)} {m : Addr → Prop}
theorem dpl_len : ∀ {xs : List V} {ds : List PyData}, DpAll K D xs ds → xs.length = ds.length
  | _, _, .nil => rfl
  | _, _, .cons _ h => congrArg (· + 1) (dpl_len h)
theorem dpl_get : ∀ {xs : List V} {ds : List PyData} {i : Nat} {x : V}, DpAll K D xs ds → xs[i]? = some x → ∃ d, ds[i]? = some d ∧ Dp K D x d
  | _, _, 0, _, .cons h _, e => ⟨_, rfl, by cases e; exact h⟩
  | _, _, i + 1, _, .cons _ h, e => dpl_get (i := i) h e
theorem dpl_getR : ∀ {xs : List V} {ds : List PyData} {i : Nat} {d : PyData}, DpAll K D xs ds → ds[i]? = some d → ∃ x, xs[i]? = some x ∧ Dp K D x d
  | _, _, 0, _, .cons h _, e => ⟨_, rfl, by cases e; exact h⟩
  | _, _, i + 1, _, .cons _ h, e => dpl_getR (i := i) h e
theorem dpl_snoc : ∀ {xs : List V} {ds : List PyData}, DpAll K D xs ds → Dp K D x d → DpAll K D (xs ++ [x]) (ds ++ [d])
  | _, _, .nil, h => .cons h .nil
  | _, _, .cons h1 h2, h => .cons h1 (dpl_snoc h2 h)
theorem dpl_ints : ∀ {ns : List Int} {xs : List V}, DpAll K D xs (dIs ns) → xs = ns.map V.int
  | [], _, .nil => rfl
  | n :: ns, _, .cons h1 h2 => by
    cases h1
    rw [dpl_ints h2]
    rfl
theorem dpl_of_ints : ∀ {ns : List Int}, DpAll K D (ns.map V.int) (dIs ns)
  | [] => .nil
  | n :: ns => .cons (.int n) dpl_of_ints
theorem dpl_strs : ∀ {zs : List Str} {xs : List V}, DpAll K D xs (dSs zs) → xs = zs.map V.str
  | [], _, .nil => rfl
  | n :: ns, _, .cons h1 h2 => by
    cases h1
    rw [dpl_strs h2]
    rfl
theorem dpl_of_strs : ∀ {zs : List Str}, DpAll K D (zs.map V.str) (dSs zs)
  | [] => .nil
  | n :: ns => .cons (.str n) dpl_of_strs
theorem dp_list (h : Dp K D v (.list ds)) : ∃ a xs, v = .ref a ∧ SqL K D a xs ∧ DpAll K D xs ds := by
  cases h with
  | lst hs ha => exact ⟨_, _, rfl, hs, ha⟩
theorem dp_tuple (h : Dp K D v (.tuple ds)) : ∃ a xs, v = .ref a ∧ SqT K D a xs ∧ DpAll K D xs ds := by
  cases h with
  | tup hs ha => exact ⟨_, _, rfl, hs, ha⟩
theorem dp_L (h : Dp K D v (dL ns)) : ∃ a, v = .ref a ∧ SqL K D a (ns.map V.int) := by
  obtain ⟨a, xs, e, hs, ha⟩ := dp_list h
  rw [dpl_ints ha] at hs
  exact ⟨a, e, hs⟩
theorem dp_T (h : Dp K D v (dT ns)) : ∃ a, v = .ref a ∧ SqT K D a (ns.map V.int) := by
  obtain ⟨a, xs, e, hs, ha⟩ := dp_tuple h
  rw [dpl_ints ha] at hs
  exact ⟨a, e, hs⟩
theorem dp_ofL (h : SqL K D a (ns.map V.int)) : Dp K D (.ref a) (dL ns) := .lst h dpl_of_ints
theorem dp_ofT (h : SqT K D a (ns.map V.int)) : Dp K D (.ref a) (dT ns) := .tup h dpl_of_ints
theorem dp_S (h : Dp K D v (.list (dSs zs))) : ∃ a, v = .ref a ∧ SqL K D a (zs.map V.str) := by
  obtain ⟨a, xs, e, hs, ha⟩ := dp_list h
  rw [dpl_strs ha] at hs
  exact ⟨a, e, hs⟩
theorem dp_ofS (h : SqL K D a (zs.map V.str)) : Dp K D (.ref a) (.list (dSs zs)) := .lst h dpl_of_strs
theorem sql (h : H a = some (.lst xs)) : SqL K H a xs := .inl (.inl h)
theorem sqt (h : H a = some (.tup xs)) : SqT K H a xs := .inl (.inl h)
theorem dp_up (g : Gr m D1 H1 D2 H2) (h : Dp K D1 v d) : Dp K D2 v d := Y.Dp.mono g.dd h
theorem dp_heap (g : Gr m D1 H1 D2 H2) (h : Dp K D2 v d) : Dp K H2 v d := Y.Dp.mono g.sub h
theorem sql_up (g : Gr m D1 H1 D2 H2) (h : SqL K D1 a xs) : SqL K H2 a xs := (g.dd.trans g.sub).seq h
theorem sqt_up (g : Gr m D1 H1 D2 H2) (h : SqT K D1 a xs) : SqT K H2 a xs := same_seqT (g.dd.trans g.sub) h
theorem Gr.same' (g : Gr m D1 H1 D2 H2) : Same D1 H2 := g.dd.trans g.sub
/-- what a call does to its own new object -/
theorem Gr.transN {n : Addr → Prop} (a : Gr m D H D1 H1) (b : Gr n D1 H1 D2 H2) (hn : ∀ x, n x → H x = none) : Gr m D H D2 H2 where
  same := fun x u hm e => b.same x u (fun z => by rw [hn x z] at e; cases e) (a.same x u hm e)
  kept := fun x e => a.kept x (b.kept x e)
  dd := a.dd.trans b.dd
  sub := b.sub
  new := fun x u e => (b.new x u e).elim (a.new x u) fun z => .inr (a.kept x z)
/-! ### steps -/
variable {σ : L2.St} {Q : VK} {i j : Nat} {T : Addr} {ta tb te : TE} {n : Int} {s z : Str}
theorem s_pair {Q : L2.St → Hp → Prop} (h : H T = some (.tup [x, y])) (k : Q ((σ.set i (some x)).set j (some y)) H) : gTup K 2 (gCons (gName i) (gCons (gName j) gNil)) (.ref T) σ H Q :=
  ⟨T, [x, y], rfl, .inl (.inl h), rfl, x, [y], rfl, y, [], rfl, rfl, k⟩
def rJoin (K : PySem.W.Frag) : V → List V → Hp → VK → Prop := fun x xs H Q => ∃ a p, ∃ ys : List Str, x = .str a ∧ xs = [.ref p] ∧ (SqL K H p (ys.map V.str) ∨ SqT K H p (ys.map V.str)) ∧
      (ys.map (·.length)).sum + ys.length * a.length ≤ 16777216 ∧ Q (.str (Txt.join a ys)) H
theorem s_join_l (h : SqL K H p (zs.map V.str)) (hl : (zs.map (·.length)).sum + zs.length * s.length ≤ 16777216) (k : Q (.str (Txt.join s zs)) H) : rJoin K (.str s) [.ref p] H Q := ⟨s, p, zs, rfl, rfl, .inl h, hl, k⟩
theorem pe_joinK {X : Cx} {o e : Expr} {to te : TE} {apos pos : Pos} (ho : PE X o to) (he : PE X e te) (hs : starEach [e] X.env = [(false, eval e X.env)] := by rfl) (hbase : attributeBase o "join" X.env (eval o X.env) = eval o X.env := by rfl) (hline : (apos.endLine == pos.line) = true := by rfl) :
    PE X (.Call (.Attribute o "join" apos) [e] [] pos) (tM1 (rJoin X.K) to te) := pe_join ho he hs hbase hline
theorem atI_0 {α : Type} {v : α} {r : List α} : atI (v :: r) 0 = some v := atI_nat (j := 0) rfl
theorem atI_i {α : Type} {xs : List α} {k : Int} {j : Nat} {v : α} (e : k = (j : Int)) (h : xs[j]? = some v) : atI xs k = some v := by rw [e]; exact atI_nat h
theorem put_end {fs : List (Str × V)} {f : Str} (h : fs.lookup f = none) : putF f v fs = fs ++ [(f, v)] := by
  induction fs with
  | nil => rfl
  | cons p r ih =>
    obtain ⟨g, u⟩ := p
    have hg : ¬ g = f := fun e => by
      subst e
      rw [List.lookup_cons_self] at h
      cases h
    have hr : r.lookup f = none := by
      rw [List.lookup_cons, show (f == g) = false from beq_false_of_ne (Ne.symm hg)] at h
      exact h
    show (if g = f then _ else _) = _
    rw [if_neg hg, ih hr]
    rfl
theorem cut_tail (xs : List V) : cutV xs (some 1) none = xs.drop 1 := by
  unfold cutV
  rw [show HT.sIx xs.length 0 (some 1) = min 1 xs.length from HT.sIx_nat xs.length 0 1, HT.sIx_none]
  cases xs with
  | nil => rfl
  | cons x r =>
    rw [show min 1 (x :: r).length = 1 by
      rw [List.length_cons]
      omega]
    show (List.take ((x :: r).length - 1) r) = r
    rw [List.length_cons, Nat.add_sub_cancel]
    exact List.take_length
theorem cut_take (xs : List V) (k : Nat) (h : k ≤ xs.length) : cutV xs none (some (k : Int)) = xs.take k := by
  unfold cutV
  rw [HT.sIx_nat xs.length xs.length k, HT.sIx_none, Nat.min_eq_left h]
  simp
theorem cut_init (xs : List V) : cutV xs none (some (-1)) = xs.take (xs.length - 1) := by
  unfold cutV
  have e : HT.sIx xs.length xs.length (some (-1)) = xs.length - 1 := by
    show (if (-1 : Int) < 0 then ((-1 : Int) + (xs.length : Int)).toNat else min (-1 : Int).toNat xs.length) = _
    rw [if_pos (by decide)]
    omega
  rw [e]
  simp [HT.sIx_none]
end
end Y

namespace Y
open PySem PySem.Spec L2 He
/-! ### the rules with the frozen part told -/
section
variable {X : Cx} (K : PySem.W.Frag)
theorem bK_len (h : X.K = K := by rfl) : CallR X (.builtin "len") (rLens K) := h ▸ b_len
theorem bK_list (h : X.K = K := by rfl) : CallR X (.type "list") (rLst1 K) := h ▸ b_list
theorem bK_tuple (h : X.K = K := by rfl) : CallR X (.type "tuple") (rTup1 K) := h ▸ b_tuple
theorem crK_any (hc : X.calm = true) (h : X.K = K := by rfl) : CallR X (.builtin "any") (rAny K) := h ▸ cr_any hc
theorem crK_all (hc : X.calm = true) (h : X.K = K := by rfl) : CallR X (.builtin "all") (rAll K) := h ▸ cr_all hc
theorem crK_sum (hc : X.calm = true) (h : X.K = K := by rfl) : CallR X (.builtin "sum") (rSum K) := h ▸ cr_sum hc
theorem oK_add (h : X.K = K := by rfl) : OpR X (binaryOp .Add) (rPlus K) := h ▸ o_add
theorem cK_eq (hu : X.A.units + 64 < cLine) (h : X.K = K := by rfl) : OpR X (compareOp .Eq) (rEqs K) := h ▸ c_eq hu
theorem cK_ne (hu : X.A.units + 64 < cLine) (h : X.K = K := by rfl) : OpR X (compareOp .NotEq) (rNes K) := h ▸ c_ne hu
theorem cK_in (h : X.K = K := by rfl) : OpR X (compareOp .In) (rIns K) := h ▸ c_in
theorem cK_ni (h : X.K = K := by rfl) : OpR X (compareOp .NotIn) (rNis K) := h ▸ c_ni
theorem ixK_seq (h : X.K = K := by rfl) : IxR X (rIx K) := h ▸ ix_seq
theorem slK_any (h : X.K = K := by rfl) : SlR X (rSlAny K) := h ▸ sl_any
theorem piK_list {tg l : Expr} {tl : TE} (hl : PE X l tl) (h : X.K = K := by rfl) : PI X tg l (iList K tl) := h ▸ pi_list hl
theorem piK_tup {tg l : Expr} {tl : TE} (hl : PE X l tl) (h : X.K = K := by rfl) : PI X tg l (iTup K tl) := h ▸ pi_tup hl
theorem piK_enum {e : Expr} {ta : TA} {p pos tpos : Pos} {elts : List Expr} {kk : Nat} (hg : Gl X "enumerate") (hm : X.mg "enumerate" = none) (ha : PA X [e] ta) (h : X.K = K := by rfl) (hs : starEach [e] X.env = [(false, eval e X.env)] := by rfl) :
    PI X (.Tuple elts kk tpos) (.Call (.Name "enumerate" p) [e] [] pos) (iEnum K ta) := h ▸ pi_enum hg hm ha hs
theorem piK_enumT {e : Expr} {ta : TA} {p pos tpos : Pos} {elts : List Expr} {kk : Nat} (hg : Gl X "enumerate") (hm : X.mg "enumerate" = none) (ha : PA X [e] ta) (h : X.K = K := by rfl) (hs : starEach [e] X.env = [(false, eval e X.env)] := by rfl) :
    PI X (.Tuple elts kk tpos) (.Call (.Name "enumerate" p) [e] [] pos) (iEnumT K ta) := h ▸ pi_enumT hg hm ha hs
theorem piK_zip {e e2 : Expr} {ta : TA} {p pos tpos : Pos} {elts : List Expr} {kk : Nat} (hg : Gl X "zip") (hm : X.mg "zip" = none) (ha : PA X [e, e2] ta) (h : X.K = K := by rfl)
    (hs : starEach [e, e2] X.env = (false, eval e X.env) :: starEach [e2] X.env := by rfl) (hpl : (backTo pos (starEach [e2] X.env)).any (·.1) = false := by rfl) :
    PI X (.Tuple elts kk tpos) (.Call (.Name "zip" p) [e, e2] [] pos) (iZip K ta) := h ▸ pi_zip hg hm ha hs hpl
theorem peK_fld {e : Expr} {f : Str} {ta : TE} {pos : Pos} (he : PE X e ta) (hb : attributeBase e f X.env (eval e X.env) = eval e X.env) (h : X.K = K := by rfl) : PE X (.Attribute e f pos) (tFld K ta f) := h ▸ pe_fld he hb
theorem psK_fld {o value : Expr} {f : Str} {ta tv : TE} {pos pos' : Pos} (ha : PE X o ta) (hv : PE X value tv) (hs : swapsWith value (some (.Attribute o f pos')) pos.line X.env = pure false) (h : X.K = K := by rfl) :
    PS X (.Assign [.Attribute o f pos'] value pos) (sFld K ta tv f) := h ▸ ps_fld ha hv hs
theorem pK_join {o e : Expr} {to te : TE} {apos pos : Pos} (ho : PE X o to) (he : PE X e te) (h : X.K = K := by rfl) (hs : starEach [e] X.env = [(false, eval e X.env)] := by rfl) (hbase : attributeBase o "join" X.env (eval o X.env) = eval o X.env := by rfl) (hline : (apos.endLine == pos.line) = true := by rfl) :
    PE X (.Call (.Attribute o "join" apos) [e] [] pos) (tM1 (rJoin K) to te) := h ▸ pe_joinK ho he hs hbase hline
theorem peK_bm {T : String} {name : Str} {id : String} {r : V → List V → Hp → VK → Prop} {o e : Expr} {es : List Expr} {to : TE} {t : TA} {apos cpos : Pos} (pa : PlainAttrs T) (slot : Slot T name id) (hty : typeOf (.builtin id) = pure (.type "method_descriptor")) (hm : MtR X id r) (ho : PE X o to) (ha : PA X (e :: es) t) (h : X.K = K := by rfl)
    (hbase : attributeBase o name X.env (eval o X.env) = eval o X.env := by rfl)
    (hfew : ((backTo cpos (starEach (e :: es) X.env)).all (fun x => !x.1) && (backToKw cpos (keywordEach [] X.env)).all (fun x => x.1.isSome)
      && decide ((e :: es).length + ([] : List Keyword).length + (if ([] : List Keyword).isEmpty then 0 else 1) < 30)) = true := by rfl)
    (hline : (apos.endLine == cpos.line) = true := by rfl) (hs : starEach (e :: es) X.env = (false, eval e X.env) :: starEach es X.env := by rfl) (hplain : (backTo cpos (starEach es X.env)).any (·.1) = false := by rfl) :
    PE X (.Call (.Attribute o name apos) (e :: es) [] cpos) (tBM K T r to t) := h ▸ pe_bm pa slot hty hm ho ha hbase hfew hline hs hplain
theorem peK_bm0 {T : String} {name : Str} {id : String} {r : V → List V → Hp → VK → Prop} {o : Expr} {to : TE} {apos cpos : Pos} (pa : PlainAttrs T) (slot : Slot T name id) (hty : typeOf (.builtin id) = pure (.type "method_descriptor")) (hm : MtR X id r) (ho : PE X o to) (h : X.K = K := by rfl)
    (hbase : attributeBase o name X.env (eval o X.env) = eval o X.env := by rfl) (hline : (apos.endLine == cpos.line) = true := by rfl) : PE X (.Call (.Attribute o name apos) [] [] cpos) (tBM0 K T r to) := h ▸ pe_bm0 pa slot hty hm ho hbase hline
theorem peK_bmS {T : String} {name : Str} {id : String} {r : L2.St → V → List V → Hp → VK → Prop} {o e : Expr} {es : List Expr} {to : TE} {t : TA} {apos cpos : Pos} (pa : PlainAttrs T) (slot : Slot T name id) (hty : typeOf (.builtin id) = pure (.type "method_descriptor")) (hm : MtS X id r) (ho : PE X o to) (ha : PA X (e :: es) t) (h : X.K = K := by rfl)
    (hbase : attributeBase o name X.env (eval o X.env) = eval o X.env := by rfl)
    (hfew : ((backTo cpos (starEach (e :: es) X.env)).all (fun x => !x.1) && (backToKw cpos (keywordEach [] X.env)).all (fun x => x.1.isSome)
      && decide ((e :: es).length + ([] : List Keyword).length + (if ([] : List Keyword).isEmpty then 0 else 1) < 30)) = true := by rfl)
    (hline : (apos.endLine == cpos.line) = true := by rfl) (hs : starEach (e :: es) X.env = (false, eval e X.env) :: starEach es X.env := by rfl) (hplain : (backTo cpos (starEach es X.env)).any (·.1) = false := by rfl) :
    PE X (.Call (.Attribute o name apos) (e :: es) [] cpos) (tBMS K T r to t) := h ▸ pe_bmS pa slot hty hm ho ha hbase hfew hline hs hplain
theorem s_BMS {T : String} {r : L2.St → V → List V → Hp → VK → Prop} {ta : TE} {t : TA} {σ : L2.St} {H : Hp} {Q : VK} (k : ta σ H fun x H1 => tyV K T x H1 ∧ t σ H1 fun xs H2 => r σ x xs H2 Q) : tBMS K T r ta t σ H Q := k
theorem s_index {W : WX} {σ : L2.St} {H : Hp} {Q : VK} {a b : Str} {k : Nat} (h : Txt.index0 a b = some k) (q : Q (.int (k : Nat)) H) : rIndexX W σ (.str a) [.str b] H Q :=
  ⟨a, b, rfl, rfl, fun j hj => by rw [h] at hj; cases hj; exact q, fun z => by rw [h] at z; cases z⟩
theorem pgK_tup {es : List Expr} {k : Nat} {t : TGs} {n : Nat} {pos : Pos} (hc : X.calm = true) (h' : PGs X es t) (h : X.K = K := by rfl)
    (hn : (assignEach es X.env).length = n := by rfl) (hst : (assignEach es X.env).findIdx? (·.1) = none := by rfl) : PG X (.Tuple es k pos) (gTup K n t) := h ▸ pg_tup hc h' hn hst
end
end Y

namespace Y
open PySem PySem.Spec L2 He
/-- what stands behind t, told beforehand -/
theorem s_cut {t u : TS} {D : Ends} {σ : L2.St} {H : Hp} (R : L2.St → Hp → Prop) (h : ∀ σ' H', R σ' H' → u D σ' H') (k : ∀ N : L2.St → Hp → Prop, (∀ σ' H', R σ' H' → N σ' H') → t { D with nx := N } σ H) : tSeq t u D σ H := k _ h
theorem s_gSub {to ti : TE} {r : TSet} {v : V} {σ : L2.St} {H : Hp} {Q : L2.St → Hp → Prop} (k : to σ H fun o H2 => ti σ H2 fun i H3 => r o i v H3 fun H4 => Q σ H4) : gSub to ti r v σ H Q := k
theorem walk_r0 {n : Nat} : Walk (Itr 0 n) n (fun _ => True) (fun i H x H' => H' = H ∧ x = .int (i : Nat)) := walk_range.mono (fun _ h => h) fun i H x H' _ _ y => ⟨y.1, by have z := y.2; dsimp only at z; rw [z, Int.zero_add]⟩
theorem pe_gC {X : Cx} {x : Str} {a : Addr} {pos : Pos} (hg : Gl X x) (hm : X.mg x = some (.ref a)) (hd : (x == ("__debug__" : Str)) = false := by decide) : PE X (.Name x pos) (tC (.ref a)) := pe_glob hg hm rfl hd
/-! ### a text cut at one sign -/
def cutAt (s : Nat) : List Nat → List Nat → List (List Nat)
  | acc, [] => [acc]
  | acc, c :: r => if c = s then acc :: cutAt s [] r else cutAt s (acc ++ [c]) r
theorem spl_one (s : Nat) : ∀ (acc l : List Nat), TL.spl [s] 0 acc l = cutAt s acc l
  | acc, [] => rfl
  | acc, c :: r => by
    by_cases h : c = s
    · rw [TL.spl_hit (by rw [h]; exact TL.pre_self [s] r)]
      show _ = if c = s then _ else _
      rw [if_pos h]
      exact congrArg _ (spl_one s [] r)
    · rw [TL.spl_miss (TL.pre_of_head _ _ h)]
      show _ = if c = s then _ else _
      rw [if_neg h]
      exact spl_one s _ r
/-- the sign of code s as a text -/
theorem split_one {x y : Str} {s : Nat} (hy : TL.tl y = [s]) (hk : s < 256) : (Txt.split x y).map TL.tl = cutAt s [] (TL.tl x) := by
  rw [TL.split_spl x y (by rw [hy]; simp) (TL.kind_ok (by
    rw [← Array.all_toList, show y.cps.toList = [s] from hy]
    simpa using hk)), hy]
  exact spl_one s [] _
theorem cutAt_ne (s : Nat) : ∀ (acc l : List Nat), cutAt s acc l ≠ []
  | acc, [] => by simp [cutAt]
  | acc, c :: r => by
    unfold cutAt
    split
    · simp
    · exact cutAt_ne s _ r
theorem cutAt_len (s : Nat) : ∀ (acc l : List Nat), (cutAt s acc l).length ≤ l.length + 1
  | acc, [] => by simp [cutAt]
  | acc, c :: r => by
    unfold cutAt
    split
    · have := cutAt_len s [] r
      simp only [List.length_cons]
      omega
    · have := cutAt_len s (acc ++ [c]) r
      simp only [List.length_cons]
      omega
theorem cutAt_mem (s : Nat) : ∀ (acc l : List Nat), ∀ p ∈ cutAt s acc l, p.length ≤ acc.length + l.length
  | acc, [], p, h => by
    rw [cutAt, List.mem_singleton] at h
    rw [h]
    simp
  | acc, c :: r, p, h => by
    unfold cutAt at h
    split at h
    · rcases List.mem_cons.mp h with h | h
      · rw [h]
        simp
      · have := cutAt_mem s [] r p h
        simp at this ⊢
        omega
    · have := cutAt_mem s (acc ++ [c]) r p h
      simp at this ⊢
      omega
/-- the first part has no separator, nor has any -/
theorem cutAt_free (s : Nat) : ∀ (acc l : List Nat), s ∉ acc → ∀ p ∈ cutAt s acc l, s ∉ p
  | acc, [], ha, p, h => by
    rw [cutAt, List.mem_singleton] at h
    rw [h]
    exact ha
  | acc, c :: r, ha, p, h => by
    unfold cutAt at h
    split at h
    · rcases List.mem_cons.mp h with h | h
      · rw [h]
        exact ha
      · exact cutAt_free s [] r (by simp) p h
    · rename_i hc
      refine cutAt_free s (acc ++ [c]) r ?_ p h
      intro z
      rcases List.mem_append.mp z with z | z
      · exact ha z
      · exact hc (List.mem_singleton.mp z).symm
theorem cutAt_none {s : Nat} : ∀ {acc l : List Nat}, s ∉ l → cutAt s acc l = [acc ++ l]
  | acc, [], _ => by simp [cutAt]
  | acc, c :: r, h => by
    have hc : ¬ c = s := fun e => h (by rw [e]; exact List.mem_cons_self ..)
    rw [cutAt, if_neg hc, cutAt_none (fun z => h (List.mem_cons_of_mem _ z)), List.append_assoc]
    rfl
theorem cutAt_app {s : Nat} : ∀ {acc l r : List Nat}, s ∉ l → cutAt s acc (l ++ s :: r) = (acc ++ l) :: cutAt s [] r
  | acc, [], r, _ => by simp [cutAt]
  | acc, c :: l, r, h => by
    have hc : ¬ c = s := fun e => h (by rw [e]; exact List.mem_cons_self ..)
    show cutAt s acc (c :: (l ++ s :: r)) = _
    rw [cutAt, if_neg hc, cutAt_app (fun z => h (List.mem_cons_of_mem _ z)), List.append_assoc]
    rfl
/-- the text again -/
theorem cutAt_join {s : Nat} : ∀ {acc l : List Nat}, TL.joinL [s] (cutAt s acc l) = acc ++ l
  | acc, [] => by simp [cutAt, TL.joinL]
  | acc, c :: r => by
    unfold cutAt
    split
    · rename_i hc
      have ih := cutAt_join (s := s) (acc := []) (l := r)
      cases h : cutAt s [] r with
      | nil => exact absurd h (cutAt_ne s [] r)
      | cons p q =>
        rw [h] at ih
        show acc ++ ([s] ++ TL.joinL [s] (p :: q)) = acc ++ c :: r
        rw [ih, hc]
        rfl
    · rw [cutAt_join, List.append_assoc]
      rfl
section
variable {x y : Str} {s : Nat}
theorem split_ne (hy : TL.tl y = [s]) (hk : s < 256) : Txt.split x y ≠ [] := fun e => by
  have h := split_one (x := x) hy hk
  rw [e] at h
  exact cutAt_ne s [] _ h.symm
theorem split_count (hy : TL.tl y = [s]) (hk : s < 256) : (Txt.split x y).length ≤ x.length + 1 := by
  have h := congrArg List.length (split_one (x := x) hy hk)
  rw [List.length_map] at h
  rw [h, TL.len_tl]
  exact cutAt_len s [] _
theorem split_part (hy : TL.tl y = [s]) (hk : s < 256) : ∀ p ∈ Txt.split x y, p.length ≤ x.length := fun p hp => by
  have h : TL.tl p ∈ (Txt.split x y).map TL.tl := List.mem_map_of_mem hp
  rw [split_one hy hk] at h
  have := cutAt_mem s [] _ _ h
  rw [TL.len_tl, TL.len_tl x]
  simpa using this
end
end Y

namespace Y
open PySem PySem.Spec L2 He
theorem jtNT {A B : Prop} {i : Decidable ((!true) = true)} (k : B) : @ite Prop ((!true) = true) i A B := by
  rw [if_neg (show ¬ (!true) = true from Bool.false_ne_true)]
  exact k
theorem jtNF {A B : Prop} {i : Decidable ((!false) = true)} (k : A) : @ite Prop ((!false) = true) i A B := by
  rw [if_pos (show (!false) = true from rfl)]
  exact k
/-- what any call may let out -/
def CXany : CXT := fun outer H s E u s' => ∃ (P : Program) (w : World), L2.CX P w outer H s E u s'
theorem fn_any {P : Program} {w : World} {K : PySem.W.Frag} {mg : Str → Option Value} {base : Heap} {k : Nat} {f : Addr} {fd : FuncData} {ps : List Str} {sp : Sp} (F : FnOk P w K mg base (L2.CX P w) k f fd ps sp) : FnOk P w K mg base CXany k f fd ps sp :=
  ⟨F.len, fun A outer s H args us vs Q E hr he hb hv hs => codeAny_mono (F.run A outer s H args us vs Q E hr he hb hv hs) fun r s' h => by
    cases r with
    | ok fl => cases fl <;> exact h
    | error e => exact ⟨P, w, h⟩⟩
theorem any_none (H : Hp) (s : Shared) (e : Value) (s' : Shared) : CXany [] H s (fun _ _ _ => False) e s' → False := by
  rintro ⟨P, w, a, B, H', cls, d, _, _, _, _, _, _, _, z⟩
  exact z
end Y

namespace Y
open PySem PySem.Spec L2 He
/-! ### methods -/
/-- the method m of the class at C keeps sp, at level k -/
def HasM (P : Program) (w : World) (K : PySem.W.Frag) (mg : Str → Option Value) (base : Heap) (k : Nat) (C : Addr) (m : Str) (sp : Sp) : Prop :=
  ∃ (f : Addr) (fd : FuncData) (ps : List Str), Meth K C m f ∧ PySem.W.fnIn K f = true ∧ Cls K C ∧ Binds K fd ps [] ∧ FnOk P w K mg base (L2.CX P w) k f fd ps sp
theorem HasM.mono {P : Program} {w : World} {K : PySem.W.Frag} {mg : Str → Option Value} {base : Heap} {j k : Nat} {C : Addr} {m : Str} {sp : Sp} (G : HasM P w K mg base j C m sp) (h : j ≤ k) : HasM P w K mg base k C m sp := by
  obtain ⟨f, fd, ps, h1, h2, h3, h4, h5⟩ := G
  exact ⟨f, fd, ps, h1, h2, h3, h4, h5.mono h⟩
theorem hasM_of {P : Program} {w : World} {K : PySem.W.Frag} {mg : Str → Option Value} {base : Heap} {x m qual : Str} {C : Addr} {params : Arguments} {body : List Stmt} {scope : Scope} {f : Addr} {N ps : List Str} {k : Nat} {sp : Sp}
    (F : ∃ fd, FunD K x qual params body scope [] [] f fd) (M : Meth K C m f) (c : Cls K C) (S : FnScope N ps scope)
    (hb : ∀ (kV doc pm : Value) (an : Option Addr) (cdv ct : Value) (us : List Value), us.length = ps.length → bindArgs (PySem.W.fnOf x qual params body scope .none kV doc pm an cdv ct) ⟨us, []⟩ = pure (ps.zip us))
    (len : ∀ vs H Q E, sp vs H Q E → vs.length = ps.length)
    (hbody : ∀ (f : Addr) (cdv : Value) (A : Around) (outer : List Env) (s : Shared) (H : Hp) (vs : List V) (Q : VK) (E : XK), Room k (A.deeper (PyProof.Rows.envOfC qual scope s.heap.objs.size f cdv)) → sp vs H Q E →
      ∃ t, PSs (cxOf (L2.CX P w) P w K mg base N qual scope f cdv A outer s H E) body t ∧ t { nx := fun _ H' => Q .non H', rt := Q } (start N vs) H) : HasM P w K mg base (k + 1) C m sp := by
  obtain ⟨fd, F⟩ := F
  have hfn : PySem.W.fnIn K f = true := by
    obtain ⟨oc, od, dV, kV, doc, pm, an, cdv, ct, osl, rfl, lk, _⟩ := F.ex
    unfold PySem.W.fnIn
    rw [lk]
  exact ⟨f, fd, ps, M, hfn, c, F.bindsN hb, F.ok S len fun cdv A outer s H vs Q E hr h => hbody f cdv A outer s H vs Q E hr h⟩
/-- o.m(e, ..), the error told by the slots -/
def tMethS (C : Addr) (m : Str) (sp : Sp) (E : L2.St → XK) (ta : TE) (t : TA) : TE := fun σ H Q => ta σ H fun x H1 => ∃ a dx fs, x = .ref a ∧ H1 a = some (.ins C dx fs) ∧ fs.lookup m = none ∧ t σ H1 fun vs H2 => sp (x :: vs) H2 Q (E σ)
/-- v(e, ..), v an instance with __call__ -/
def tCallO (C : Addr) (sp : Sp) (E : L2.St → XK) (ta : TE) (t : TA) : TE := fun σ H Q => ta σ H fun x H1 => ∃ a dx fs, x = .ref a ∧ H1 a = some (.ins C dx fs) ∧ t σ H1 fun vs H2 => H2 a = some (.ins C dx fs) ∧ sp (x :: vs) H2 Q (E σ)
section
variable {X : Cx} {W : WX} {k : Nat} {C : Addr} {m x : Str} {sp : Sp} {o e : Expr} {es : List Expr} {ta : TE} {t : TA} {apos p pos : Pos}
theorem pe_meth' {pl : Sem Bool} (G : HasM X.prog X.w X.K X.mg X.base k C m sp) (hr : Room k X.A) (tk : Takes X W) (he : PE X o ta) (ha : PA X (e :: es) t)
    (hst : starEach (e :: es) X.env = (false, eval e X.env) :: starEach es X.env := by rfl) (hpl : (backTo pos (starEach es X.env)).any (·.1) = false := by rfl)
    (ht : eval (.Call (.Attribute o m apos) (e :: es) [] pos) X.env = (do
      let ov ← eval o X.env
      standAt apos.atName
      let (f, first) ← holding [ov] (getMethod ov m pl)
      callWith pos f first (backTo pos (starEach (e :: es) X.env)) (backToKw pos (keywordEach [] X.env))) := by rfl) :
    PE X (.Call (.Attribute o m apos) (e :: es) [] pos) (tMethS C m sp (WE W) ta t) := by
  obtain ⟨f, fd, ps, hm, _, c, hb, F⟩ := G
  refine ⟨fun pins s σ H Q I h => ?_⟩
  refine PySem.W.methodCall_KW (pl := pl) (thn (he.run pins s σ H _ I h) fun u s1 z => ?_) ht
  obtain ⟨x, H1, I1, rx, a, dx, fs, ex, ea, l, q⟩ := z
  subst ex
  obtain rfl : u = Value.ref a := rx
  refine getmeth_ok I1 ea c hm l ?_
  refine PySem.W.callWith_K (first := [.ref a]) (h₀ := X.base) I.ok.mod.kin hm.kp (thn (ha.run pos pins s1 σ H1 _ I1 q) fun us s2 z2 => ?_) hst hpl
  obtain ⟨vs, H2, I2, r, q2⟩ := z2
  exact ⟨I2.kIn, run_fnS (us := .ref a :: us) (vs := .ref a :: vs) F hr hb (passAt tk σ) I2 (.cons rfl r) q2⟩
/-- a call of an instance, its arguments from the left; what its dict holds may have changed by then -/
theorem callWith_O {M : Model} {A : Around} {E : Value → Shared → Prop} {s : Shared} {ip : Pos} {xa : Addr} {ob : Obj} {Q : Value → Shared → Prop} {env : Env} (plain : ob.data = .plain)
    (hh : wpAny M A (spliced (backTo ip (starEach (e :: es) env))) (fun vs s1 => (∃ C od, PySem.W.InstAt s1.heap xa ob C od) ∧ wpAny M A (call (.ref xa) vs) Q E s1) E s)
    (h1 : starEach (e :: es) env = (false, eval e env) :: starEach es env) (h2 : (backTo ip (starEach es env)).any (·.1) = false) :
    wpAny M A (callWith ip (.ref xa) [] (backTo ip (starEach (e :: es) env)) []) Q E s := by
  rw [h1] at hh ⊢
  have np : ((backTo ip ((false, eval e env) :: starEach es env)).any (·.1) || ([] : List (Option Str × Sem Value)).any (·.1.isNone)) = false := by
    show ((false || (backTo ip (starEach es env)).any (·.1)) || false) = false
    rw [h2] <;> rfl
  unfold callWith
  refine wpAny_bind (wpAny_holding (wpAny_mono (Calls.evalArgs_plain (Q := fun av s1 => (∃ C od, PySem.W.InstAt s1.heap xa ob C od) ∧ wpAny M A (call (.ref xa) av.pos av.kw) Q E s1) hh) (fun av s1 hv => ?_) fun _ _ z => z))
  obtain ⟨⟨C1, od1, hi⟩, hc⟩ := hv
  refine wpAny_bind (wpAny_standAt ?_)
  have lk := PySem.W.kco_keeper (M := M) hi plain
  simp only [np]
  refine wpAny_bind (lk.here ?_)
  refine wpAny_bind (wpAny_mono (wpAny_operateT hc) (fun r s2 hr => ?_) fun _ _ z => z)
  exact wpAny_bind (wpAny_holding (wpAny_point (wpAny_pure hr)))
theorem pe_callO (G : HasM X.prog X.w X.K X.mg X.base k C "__call__" sp) (hr : Room k X.A) (tk : Takes X W) (hx : PE X (.Name x p) ta) (ha : PA X (e :: es) t)
    (he : starEach (e :: es) X.env = (false, eval e X.env) :: starEach es X.env := by rfl) (hpl : (backTo pos (starEach es X.env)).any (·.1) = false := by rfl) :
    PE X (.Call (.Name x p) (e :: es) [] pos) (tCallO C sp (WE W) ta t) := by
  obtain ⟨f, fd, ps, hm, hfn, c, hb, F⟩ := G
  refine ⟨fun pins s σ H Q I h => ?_⟩
  refine wpAny_Call_Name_kw (thn (hx.run pins s σ H _ I h) fun u s1 z => ?_)
  obtain ⟨xv, H1, I1, rx, a, dx, fs, ex, ea, q⟩ := z
  subst ex
  obtain rfl : u = Value.ref a := rx
  obtain ⟨mA, O, _⟩ := ins_get I1.hok ea
  obtain ⟨od, IA, _⟩ := O.look
  refine callWith_O (ob := PySem.W.instObj C dx) rfl (thn (ha.run pos pins s1 σ H1 _ I1 q) fun us s2 z2 => ?_) he hpl
  obtain ⟨vs, H2, I2, r, ea2, q2⟩ := z2
  obtain ⟨mA2, O2, _⟩ := ins_get I2.hok ea2
  obtain ⟨od2, IA2, _⟩ := O2.look
  refine ⟨⟨C, _, IA2⟩, ?_⟩
  have hl : (Value.ref a :: us).length = ps.length := by
    rw [show (Value.ref a :: us).length = (V.ref a :: vs).length by rw [List.length_cons, List.length_cons, r.length]]
    exact F.len _ _ _ _ q2
  have b := hb s2 (Value.ref a :: us) I2.kIn (by rw [List.append_nil]; exact hl)
  rw [List.append_nil] at b
  show wpAny (model X.prog X.w) X.A (call (.ref a) us) (EP X pins σ Q) X.xe s2
  refine wpAny_call (PySem.W.kco_code (a := ⟨us, []⟩) I2.kIn IA2 rfl hm.at_ hm.fn hfn (codeAny_mono (F.run X.A X.stack s2 H2 ⟨.ref a :: us, []⟩ (.ref a :: us) (.ref a :: vs) Q (WE W σ) hr I2.env0 b (.cons rfl r) q2) fun rr s' hq => ?_))
  cases rr with
  | error e => exact passAt tk σ pins H2 s2 e s' I2 hq
  | ok fl =>
    cases fl with
    | ret u => exact I2.after hq
    | next => exact False.elim hq
    | brk => exact False.elim hq
    | cont => exact False.elim hq
end
end Y

namespace Y
open PySem PySem.Spec L2 He
/-! ### a def called within an except suite, the caught error handed to it -/
structure FnQ (P : Program) (w : World) (K : PySem.W.Frag) (mg : Str → Option Value) (base : Heap) (p : Addr × Obj) (k : Nat) (f : Addr) (fd : FuncData) (ps : List Str) (sp : Sp) : Prop where
  len : ∀ vs H Q E, sp vs H Q E → vs.length = ps.length
  run : ∀ (A : Around) (outer : List Env) (s : Shared) (H : Hp) (args : Args) (us : List Value) (vs : List V) (Q : VK) (E : XK), L2H.RoomH k A → L2H.PinOk outer H s p → Env0 P w K mg base A outer s H → BindsTo s fd args (ps.zip us) → Vals vs us → sp vs H Q E →
    codeAny (model P w) A (.call (.ref f) args) (CR (L2.CX P w) outer P w H s Q E) s
/-- the def named x, so called -/
def HasQ (P : Program) (w : World) (K : PySem.W.Frag) (mg : Str → Option Value) (base : Heap) (p : Addr × Obj) (k : Nat) (x : Str) (sp : Sp) : Prop :=
  ∃ (f : Addr) (fd : FuncData) (ps : List Str), mg x = some (.ref f) ∧ PySem.W.keepIn K (.ref f) = true ∧ Binds K fd ps [] ∧ FnQ P w K mg base p k f fd ps sp
theorem hasQ_of {P : Program} {w : World} {K : PySem.W.Frag} {mg : Str → Option Value} {base : Heap} {p : Addr × Obj} {x qual : Str} {params : Arguments} {body : List Stmt} {scope : Scope} {f : Addr} {N ps : List Str} {k : Nat} {sp : Sp}
    (F : ∃ fd, FunD K x qual params body scope [] [] f fd) (g : mg x = some (.ref f)) (S : FnScope N ps scope)
    (hb : ∀ (kV doc pm : Value) (an : Option Addr) (cdv ct : Value) (us : List Value), us.length = ps.length → bindArgs (PySem.W.fnOf x qual params body scope .none kV doc pm an cdv ct) ⟨us, []⟩ = pure (ps.zip us))
    (len : ∀ vs H Q E, sp vs H Q E → vs.length = ps.length)
    (hbody : ∀ (f : Addr) (cdv : Value) (A : Around) (outer : List Env) (s : Shared) (H : Hp) (vs : List V) (Q : VK) (E : XK), L2H.RoomH k (A.deeper (PyProof.Rows.envOfC qual scope s.heap.objs.size f cdv)) → sp vs H Q E →
      ∃ t, PSs (L2H.cxH (L2.CX P w) P w K mg base N qual scope f cdv A outer s H E p) body t ∧ t { nx := fun _ H' => Q .non H', rt := Q } (start N vs) H) : HasQ P w K mg base p (k + 1) x sp := by
  obtain ⟨fd, F⟩ := F
  refine ⟨f, fd, ps, g, F.kp, F.bindsN hb, len, fun A outer s H args us vs Q E hr hpin e0 hbd r hsp => ?_⟩
  obtain ⟨oc, od, dV, kV, doc, pm, an, cdv, ct, osl, rfl, lk, hcd, _, _⟩ := F.ex
  have hl := len _ _ _ _ hsp
  have KX : K.In s.heap := e0.mod.kin.keeps fun b o e => (e0.bs b o e).1
  have lim : s.heap.NoLimit := e0.mod.nolimit.keeps fun b o e => (e0.bs b o e).1
  have hkind : ∀ y ∈ ps.zip us, scope.names.lookup y.1 = some .local ∨ (scope.names.lookup y.1 = some .cell ∧ ((cellsFrom (s.heap.objs.size + 1) scope.names []).lookup y.1).isSome = true) := by
    intro y hy
    obtain ⟨n, v⟩ := y
    cases S.par n (List.of_mem_zip hy).1 with
    | inl q => exact .inl q
    | inr q => exact .inr ⟨q, PySem.W.cellsFrom_some _ _ _ (.inl q)⟩
  refine codeAny_call_function hr.depth (KX _ _ lk) rfl S.co S.gen rfl (PySem.W.codeRec_of KX hcd) (hbd _ _ _ _ ?_)
  refine wpAny_newFunctionEnv_cells S.kind hkind fun env he s1 x => ?_
  subst he
  refine ⟨lim.keeps x.toInCall.keep, codeAny_func ?_⟩
  obtain ⟨t, ht, hq⟩ := hbody f cdv A outer s H vs Q E (hr.deeper _) hsp
  have I : Inv (L2H.cxH (L2.CX P w) P w K mg base N qual scope f cdv A outer s H E p) [] (L2.start N vs) H s1 := L2H.inv_startH S hpin e0 hl r x
  refine wpAny_mono (ht.run [] s1 (L2.start N vs) H _ I hq) (fun fl s' hs => ?_) fun e s' hs => hs
  cases fl with
  | ret u =>
    obtain ⟨v, σ', H', J, rv, q⟩ := hs
    exact ⟨v, H', J.os, J.bare, J.base, J.hok, rv, q⟩
  | next =>
    obtain ⟨σ', H', J, q⟩ := hs
    exact ⟨V.non, H', J.os, J.bare, J.base, J.hok, rfl, q⟩
  | brk =>
    obtain ⟨_, _, _, q⟩ := hs
    exact False.elim q
  | cont =>
    obtain ⟨_, _, _, q⟩ := hs
    exact False.elim q
section
variable {X : Cx} {W : WX} {k : Nat} {x : Str} {sp : Sp} {e : Expr} {es : List Expr} {t : TA} {q pos : Pos} {p : Addr × Obj}
theorem pe_hasQ (G : HasQ X.prog X.w X.K X.mg X.base p k x sp) (hp : p ∈ X.pn) (hr : L2H.RoomH k X.A) (tk : Takes X W) (hg : Gl X x) (ha : PA X (e :: es) t)
    (hdb : (x == ("__debug__" : Str)) = false := by decide) (he : starEach (e :: es) X.env = (false, eval e X.env) :: starEach es X.env := by rfl) (hpl : (backTo pos (starEach es X.env)).any (·.1) = false := by rfl) :
    PE X (.Call (.Name x q) (e :: es) [] pos) (tCallS sp (WE W) t) := by
  obtain ⟨f, fd, ps, h1, h2, h3, F⟩ := G
  refine ⟨fun pins s σ H Q I h => ?_⟩
  refine wpAny_Call_Name_kw (ld_glob I hg h1 ?_ hdb)
  refine PySem.W.callWith_K (h₀ := X.base) I.ok.mod.kin h2 (thn (ha.run pos pins s σ H _ I h) fun us s1 z => ?_) he hpl
  obtain ⟨vs, H1, I1, r, qq⟩ := z
  refine ⟨I1.kIn, ?_⟩
  have hl : us.length = ps.length := by rw [← r.length]; exact F.len _ _ _ _ qq
  have b := h3 s1 us I1.kIn (by rw [List.append_nil]; exact hl)
  rw [List.append_nil] at b
  have P1 := I1.pin p (List.mem_append_left _ hp)
  have hpin : L2H.PinOk X.stack H1 s1 p := ⟨P1.1, P1.2.1, fun hm => (List.mem_cons.mp (I1.stkSub p.1 hm)).elim P1.2.2.1 P1.2.2.2.1, P1.2.2.2.2⟩
  refine wpAny_call (codeAny_mono (F.run X.A X.stack s1 H1 ⟨us, []⟩ us vs Q (WE W σ) hr hpin I1.env0 b r qq) fun rr s' hq => ?_)
  cases rr with
  | error e => exact passAt tk σ pins H1 s1 e s' I1 hq
  | ok fl =>
    cases fl with
    | ret u => exact I1.after hq
    | next => exact False.elim hq
    | brk => exact False.elim hq
    | cont => exact False.elim hq
/-! ### the caught error, wherever it is pinned -/
theorem inst_ofG {a D : Addr} {oe : Obj} {d : Option Addr} {pins : List (Addr × Obj)} {σ : L2.St} {H : Hp} {s : Shared} (hp : (a, oe) ∈ X.pn) (I : Inv X pins σ H s) (hz : Zc (.ref D) d oe) (hf : ∃ vs, oe.data = .fields vs) (hd : DOk H d) : ∃ od, PySem.W.InstAt s.heap a oe D od := by
  obtain ⟨hget, _⟩ := I.pin (a, oe) (List.mem_append.mpr (.inl hp))
  obtain ⟨vs, hv⟩ := hf
  obtain ⟨oc, odd, oda, osl⟩ := oe
  obtain ⟨h1, h2⟩ := hz
  dsimp only at h1 h2 hv
  subst h1 h2 hv
  cases odd with
  | none => exact ⟨none, hget, rfl, rfl, trivial⟩
  | some dd =>
    obtain ⟨fs, hfs⟩ := hd
    obtain ⟨mA, ⟨o, es, ep, ho, _⟩, _⟩ := (show ObjOk X.prog X.w H s.heap dd (.xd fs) from I.hok dd _ hfs)
    exact ⟨some o, hget, rfl, rfl, ho⟩
theorem call_isG {a : Addr} {oe : Obj} {cls : Value} {d : Option Addr} (hp : (a, oe) ∈ X.pn) (hz : Zc cls d oe) (hf : ∃ vs, oe.data = .fields vs) : CallR X (.builtin "isinstance") (rIsX X.K a cls d) := by
  intro pins s σ H xs us Q I r h
  obtain ⟨D, c, cv, b, ec, C, rfl, hcv, e, hd, q⟩ := h
  subst ec
  obtain ⟨u1, u2, rfl, r1, r2⟩ := vals2 r
  have e2 := hcv.eq r2
  subst e2
  cases (show u1 = Value.ref a from r1)
  exact PySem.W.kia_one (kitx_excD (ox := oe) C) I.kIn (inst_ofG hp I hz hf hd) e (fun z => nomatch z) fun tk => ⟨.bl b, H, I.kept (t' := tk) fun _ _ z => z, rfl, q⟩
theorem call_isGT {a : Addr} {oe : Obj} {cls : Value} {d : Option Addr} (hp : (a, oe) ∈ X.pn) (hz : Zc cls d oe) (hf : ∃ vs, oe.data = .fields vs) : CallR X (.builtin "isinstance") (rIsXT X.K a cls d) := by
  intro pins s σ H xs us Q I r h
  obtain ⟨D, tp, cs, ws, b, ec, C, rfl, hT, k, e, hd, q⟩ := h
  subst ec
  obtain ⟨u1, u2, rfl, r1, r2⟩ := vals2 r
  cases (show u1 = Value.ref a from r1)
  cases (show u2 = Value.ref tp from r2)
  obtain ⟨_, its, rv, o, h1, h2, n, h3⟩ := (show ObjOk X.prog X.w H s.heap tp (.tup cs) from I.hok tp _ hT)
  have e3 := ClsV.all k rv
  subst e3
  obtain ⟨oc, od, dt, sl⟩ := o
  simp only at h2 h3
  subst h2 h3
  exact PySem.W.kia_tup (kitx_excD (ox := oe) C) I.kIn (inst_ofG hp I hz hf hd) h1 e (fun z => nomatch z) fun tk => ⟨.bl b, H, I.kept (t' := tk) fun _ _ z => z, rfl, q⟩
theorem pe_xfG {a : Addr} {oe : Obj} {cls : Value} {d : Option Addr} {te : TE} {n : Str} (hp : (a, oe) ∈ X.pn) (hz : Zc cls d oe) (hf : ∃ vs, oe.data = .fields vs) (he : PE X e te) (hb : attributeBase e n X.env (eval e X.env) = eval e X.env := by rfl) :
    PE X (.Attribute e n pos) (tXfE X.K a cls d n te) := by
  refine ⟨fun pins s σ H Q I h => ?_⟩
  refine attr_of hb (thn (he.run pins s σ H _ I h) fun u s1 hh => ?_)
  obtain ⟨x, H1, I1, rx, C, ec, T, hno, ex, dd, fs, v, ed, ea, l, q⟩ := hh
  subst ex ec ed
  obtain rfl : u = Value.ref a := rx
  obtain ⟨ha, _⟩ := I1.pin (a, oe) (List.mem_append_left _ hp)
  obtain ⟨vs, hd⟩ := hf
  have hx : ObjOk X.prog X.w H1 s1.heap dd (.xd fs) := I1.hok dd _ ea
  obtain ⟨mA, hns, hr⟩ := hx
  obtain ⟨od, ho, hl⟩ := lookIn_ns hns
  obtain ⟨u, hu, ru⟩ := RelO.some_of (v := v) (o := mA n) (by rw [← l]; exact hr n)
  have J : PySem.W.InstAt s1.heap a oe C (some od) := ⟨ha, hz.1, by unfold PySem.W.notCls; rw [hd] <;> rfl, by rw [hz.2]; exact ho⟩
  exact HandSPX.exc_get I1.kIn J T.ga T.gg T.exC (PySem.W.findObj_own T.hdC hno rfl (by rw [hl, hu])) (handed_of ru) ⟨v, H1, I1.tok _, ru, q⟩
end
end Y

namespace Y
open PySem PySem.Spec L2 He
/-! ### small facts -/
theorem le1000 {n : Nat} (h : n ≤ 1000) : n ≤ sizeLine := Nat.le_of_lt (small1000 h)
theorem leBig {n : Nat} (h : n ≤ 16000000) : n ≤ sizeLine := Nat.le_trans h (by decide)
theorem ltBig {n : Nat} (h : n ≤ 16000000) : n < sizeLine := Nat.lt_of_le_of_lt h (by decide)
theorem app_len (a b : Str) : (a ++ b).length = a.length + b.length := Array.size_append
theorem getD_at {l : List Nat} {i : Nat} (h : i < l.length) : l.getD i 0 = l[i] := by
  rw [List.getD_eq_getElem?_getD, List.getElem?_eq_getElem h]
  rfl
theorem str_ne {z : Str} (h : z ≠ "") : ∃ c r, z.cps.toList = c :: r := by
  cases e : z.cps.toList with
  | nil =>
    refine absurd ?_ h
    obtain ⟨⟨l⟩⟩ := z
    have : l = [] := e
    subst this
    rfl
  | cons c r => exact ⟨c, r, rfl⟩
theorem same_new {D : Hp} {p : Addr} {o : HO} (h : D p = none) : Same D (upd D p o) := fun b u e => by
  have : b ≠ p := fun z => by rw [z, h] at e; cases e
  exact (upd_ne this).trans e
theorem len_list (z : Str) : z.cps.toList.length = z.length := by simp [Str.length]
/-! ### dicts with text keys -/
section
variable {α : Type}
def getS (t : List (Str × α)) (k : Str) : Option α := (t.find? fun p => decide (p.1 = k)).map (·.2)
def putS (t : List (Str × α)) (k : Str) (v : α) : List (Str × α) := if (t.any fun p => decide (p.1 = k)) = true then t.map (fun p => if p.1 = k then (p.1, v) else p) else t ++ [(k, v)]
/-- the entries kvs stand for t, values by R -/
inductive KvR (R : V → α → Prop) : List (Key × V) → List (Str × α) → Prop where
  | nil : KvR R [] []
  | cons {k : Str} {v : V} {y : α} {kvs : List (Key × V)} {t : List (Str × α)} : R v y → KvR R kvs t → KvR R ((Sum.inr k, v) :: kvs) ((k, y) :: t)
variable {R R' : V → α → Prop}
theorem KvR.mono (h : ∀ v y, R v y → R' v y) : ∀ {kvs : List (Key × V)} {t : List (Str × α)}, KvR R kvs t → KvR R' kvs t
  | _, _, .nil => .nil
  | _, _, .cons r s => .cons (h _ _ r) (KvR.mono h s)
theorem KvR.len : ∀ {kvs : List (Key × V)} {t : List (Str × α)}, KvR R kvs t → kvs.length = t.length
  | _, _, .nil => rfl
  | _, _, .cons _ s => congrArg (· + 1) s.len
theorem inr_iff {a b : Str} : ((Sum.inr a : Key) = Sum.inr b) ↔ a = b := ⟨fun h => Sum.inr.inj h, fun h => by rw [h]⟩
theorem KvR.any (k : Str) : ∀ {kvs : List (Key × V)} {t : List (Str × α)}, KvR R kvs t → (kvs.any fun p => decide (p.1 = Sum.inr k)) = t.any fun p => decide (p.1 = k)
  | _, _, .nil => rfl
  | _, _, .cons (k := a) _ s => by
    rw [List.any_cons, List.any_cons, s.any k]
    congr 1
    exact decide_eq_decide.mpr inr_iff
theorem KvR.get (k : Str) : ∀ {kvs : List (Key × V)} {t : List (Str × α)}, KvR R kvs t → (valV kvs (Sum.inr k) = none ∧ getS t k = none) ∨ ∃ v y, valV kvs (Sum.inr k) = some v ∧ getS t k = some y ∧ R v y
  | _, _, .nil => .inl ⟨rfl, rfl⟩
  | _, _, .cons (k := a) (v := v) (y := y) (kvs := kvs) (t := t) r s => by
    by_cases h : a = k
    · refine .inr ⟨v, y, valV_pos (inr_iff.mpr h), ?_, r⟩
      unfold getS
      rw [List.find?_cons_of_pos (by simpa using h)]
      rfl
    · have e1 : valV ((Sum.inr a, v) :: kvs) (Sum.inr k) = valV kvs (Sum.inr k) := valV_neg fun z => h (inr_iff.mp z)
      have e2 : getS ((a, y) :: t) k = getS t k := by
        unfold getS
        rw [List.find?_cons_of_neg (by simpa using h)]
      rw [e1, e2]
      exact s.get k
theorem KvR.snoc {k : Str} {v : V} {y : α} (r : R v y) : ∀ {kvs : List (Key × V)} {t : List (Str × α)}, KvR R kvs t → KvR R (kvs ++ [(Sum.inr k, v)]) (t ++ [(k, y)])
  | _, _, .nil => .cons r .nil
  | _, _, .cons r1 s => .cons r1 (s.snoc r)
theorem KvR.map {k : Str} {v : V} {y : α} (r : R v y) : ∀ {kvs : List (Key × V)} {t : List (Str × α)}, KvR R kvs t → KvR R (kvs.map fun p => if p.1 = Sum.inr k then (p.1, v) else p) (t.map fun p => if p.1 = k then (p.1, y) else p)
  | _, _, .nil => .nil
  | _, _, .cons (k := a) r1 s => by
    rw [List.map_cons, List.map_cons]
    by_cases h : a = k
    · rw [if_pos (inr_iff.mpr h), if_pos h]
      exact .cons r (s.map r)
    · rw [if_neg fun z => h (inr_iff.mp z), if_neg h]
      exact .cons r1 (s.map r)
theorem KvR.put {k : Str} {v : V} {y : α} (r : R v y) {kvs : List (Key × V)} {t : List (Str × α)} (s : KvR R kvs t) : KvR R (putK kvs (Sum.inr k) v) (putS t k y) := by
  unfold putK putS
  rw [s.any k]
  split
  · exact s.map r
  · exact s.snoc r
theorem putS_len (t : List (Str × α)) (k : Str) (v : α) : (putS t k v).length ≤ t.length + 1 := by
  unfold putS
  split
  · rw [List.length_map]
    omega
  · simp
theorem getS_any (t : List (Str × α)) (k : Str) : (t.any fun p => decide (p.1 = k)) = (getS t k).isSome := by
  induction t with
  | nil => rfl
  | cons p r ih =>
    unfold getS at *
    rw [List.any_cons, ih, List.find?_cons]
    by_cases h : p.1 = k
    · simp [h]
    · simp [h]
theorem getS_cons (p : Str × α) (r : List (Str × α)) (k : Str) : getS (p :: r) k = if p.1 = k then some p.2 else getS r k := by
  unfold getS
  rw [List.find?_cons]
  by_cases h : p.1 = k
  · simp [h]
  · simp [h]
theorem getS_put (t : List (Str × α)) (k j : Str) (v : α) : getS (putS t k v) j = if j = k then some v else getS t j := by
  unfold putS
  rw [getS_any]
  split
  · rename_i h
    induction t with
    | nil => cases h
    | cons p r ih =>
      rw [List.map_cons, getS_cons, getS_cons]
      rw [getS_cons] at h
      by_cases hp : p.1 = k
      · rw [if_pos hp]
        dsimp only
        by_cases hj : j = k
        · rw [if_pos (hp.trans hj.symm), if_pos hj]
        · rw [if_neg fun z => hj (z.symm.trans hp), if_neg hj, if_neg fun z => hj (z.symm.trans hp)]
          have : ∀ l : List (Str × α), getS (l.map fun p => if p.1 = k then (p.1, v) else p) j = getS l j := by
            intro l
            induction l with
            | nil => rfl
            | cons q l ih2 =>
              rw [List.map_cons, getS_cons, getS_cons, ih2]
              by_cases hq : q.1 = k
              · rw [if_pos hq]
                dsimp only
                rw [if_neg fun z => hj (z.symm.trans hq), if_neg fun z => hj (z.symm.trans hq)]
              · rw [if_neg hq]
          exact this r
      · rw [if_neg hp] at h ⊢
        by_cases hj : p.1 = j
        · rw [if_pos hj, if_neg fun z => hp (hj.trans z), if_pos hj]
        · rw [if_neg hj, ih h, if_neg hj]
  · rename_i h
    have h0 : getS t k = none := by
      cases e : getS t k with
      | none => rfl
      | some y => rw [e] at h; exact absurd rfl h
    induction t with
    | nil =>
      rw [List.nil_append, getS_cons]
      by_cases hj : j = k
      · rw [if_pos hj.symm, if_pos hj]
      · rw [if_neg fun z => hj z.symm, if_neg hj]
    | cons p r ih =>
      rw [List.cons_append, getS_cons, getS_cons]
      rw [getS_cons] at h0
      by_cases hp : p.1 = k
      · rw [if_pos hp] at h0
        cases h0
      · rw [if_neg hp] at h0
        by_cases hj : p.1 = j
        · rw [if_pos hj, if_neg fun z => hp (hj.trans z), if_pos hj]
        · rw [if_neg hj, if_neg hj]
          exact ih (by rw [h0]; exact Bool.false_ne_true) h0
end
end Y

namespace Y
open PySem PySem.Spec L2 He
/-- C(e, ..), the error told by the slots -/
def tMakeS (C : Addr) (sp : Sp) (E : L2.St → XK) (t : TA) : TE := fun σ H Q => t σ H fun vs H1 => ∀ x dx, H1 x = none → H1 dx = none → dx ≠ x →
  sp (.ref x :: vs) (upd (upd H1 dx (.own x)) x (.ins C dx [])) (fun v H2 => v = .non ∧ Q (.ref x) H2) (E σ)
theorem s_makeS {C : Addr} {sp : Sp} {E : L2.St → XK} {t : TA} {σ : L2.St} {H : Hp} {Q : VK} (k : t σ H fun vs H1 => ∀ x dx, H1 x = none → H1 dx = none → dx ≠ x →
  sp (.ref x :: vs) (upd (upd H1 dx (.own x)) x (.ins C dx [])) (fun v H2 => v = .non ∧ Q (.ref x) H2) (E σ)) : tMakeS C sp E t σ H Q := k
section
variable {X : Cx} {W : WX} {k : Nat} {x : Str} {C : Addr} {sp : Sp} {e : Expr} {es : List Expr} {t : TA} {p pos : Pos}
theorem pe_mkS (G : HasC X.prog X.w X.K X.mg X.base k x C sp) (hr : Room (k + 1) X.A) (tk : Takes X W) (hg : Gl X x) (ha : PA X (e :: es) t)
    (hdb : (x == ("__debug__" : Str)) = false := by decide) (he : starEach (e :: es) X.env = (false, eval e X.env) :: starEach es X.env := by rfl) (hpl : (backTo pos (starEach es X.env)).any (·.1) = false := by rfl) :
    PE X (.Call (.Name x p) (e :: es) [] pos) (tMakeS C sp (WE W) t) := by
  obtain ⟨f, fd, ps, hm, M, hb, F⟩ := G
  refine ⟨fun pins s σ H Q I h => ?_⟩
  refine wpAny_Call_Name_kw (ld_glob I hg hm ?_ hdb)
  refine PySem.W.callWith_K (h₀ := X.base) I.ok.mod.kin M.kp (thn (ha.run pos pins s σ H _ I h) fun us s1 z => ?_) he hpl
  obtain ⟨vs, H1, I1, r, q⟩ := z
  refine ⟨I1.kIn, ?_⟩
  have hq := q (s1.heap.objs.size + 1) s1.heap.objs.size (I1.hok.fresh (Nat.le_succ _)) (I1.hok.fresh (Nat.le_refl _)) (Nat.ne_of_lt (Nat.lt_succ_self _))
  have J := Inv.made (C := C) I1
  have r2 : Vals (V.ref (s1.heap.objs.size + 1) :: vs) (Value.ref (s1.heap.objs.size + 1) :: us) := .cons rfl r
  have hl : (Value.ref (s1.heap.objs.size + 1) :: us).length = ps.length := r2.length.symm.trans (F.len _ _ _ _ hq)
  have bb := hb _ (Value.ref (s1.heap.objs.size + 1) :: us) J.kIn (by rw [List.append_nil]; exact hl)
  rw [List.append_nil] at bb
  refine wpAny_call (make_map (f := f) I1.kIn M.makes M.init (beq_iff_eq.mp M.fn) (codeAny_mono (F.run _ X.stack _ _ ⟨Value.ref (s1.heap.objs.size + 1) :: us, []⟩ _ _ _ (WE W σ) (hr.make C us []) (J.env0.make C us []) bb r2 hq) fun rr s' hq' => ?_))
  match rr, hq' with
  | .error e, hq' => exact passAt tk σ pins _ _ e s' J hq'
  | .ok (.ret u), hq' =>
    obtain ⟨v, H', I3, rv, ev, q3⟩ := J.after hq'
    subst ev
    exact ⟨rv, V.ref (s1.heap.objs.size + 1), H', I3, rfl, q3⟩
theorem s_methS {m : Str} {E : L2.St → XK} {ta : TE} {σ : L2.St} {H : Hp} {Q : VK} (k : ta σ H fun x H1 => ∃ a dx fs, x = .ref a ∧ H1 a = some (.ins C dx fs) ∧ fs.lookup m = none ∧ t σ H1 fun vs H2 => sp (x :: vs) H2 Q (E σ)) : tMethS C m sp E ta t σ H Q := k
theorem s_callO {E : L2.St → XK} {ta : TE} {σ : L2.St} {H : Hp} {Q : VK} (k : ta σ H fun x H1 => ∃ a dx fs, x = .ref a ∧ H1 a = some (.ins C dx fs) ∧ t σ H1 fun vs H2 => H2 a = some (.ins C dx fs) ∧ sp (x :: vs) H2 Q (E σ)) : tCallO C sp E ta t σ H Q := k
theorem pe_gT {T : String} (hg : Gl X x) (hm : X.mg x = none) (hv : bootBuiltins x = some (.type T)) (hn : x ≠ "__name__" := by decide) (hd : (x == ("__debug__" : Str)) = false := by decide) : PE X (.Name x p) (tC (.ty T)) := pe_bltn hg hm hv rfl hn hd
end
/-! dict steps -/
section
variable {α : Type} {R : V → α → Prop} {σ : L2.St} {H : Hp} {Q : VK} {a : Addr} {td ty tx : TE} {kvs : List (Key × V)} {t : List (Str × α)} {k : Str} {v : V} {y : α}
theorem s_dnew (q : ∀ p, H p = none → Q (.ref p) (upd H p (.dK []))) : tDNewK σ H Q := q
theorem s_dget (q : td σ H fun x H1 => ty σ H1 fun y H2 => ∃ a v, x = .ref a ∧ DGet H2 a y (some v) ∧ Q v H2) : tDGet td ty σ H Q := q
theorem s_din (q : ty σ H fun y H1 => td σ H1 fun x H2 => ∃ a o, x = .ref a ∧ DGet H2 a y o ∧ Q (.bl o.isSome) H2) : tDIn ty td σ H Q := q
theorem s_dnin (q : ty σ H fun y H1 => td σ H1 fun x H2 => ∃ a o, x = .ref a ∧ DGet H2 a y o ∧ Q (.bl (!o.isSome)) H2) : tDNotIn ty td σ H Q := q
theorem s_dput {D : Ends} {tv : TE} (q : tv σ H fun v H1 => td σ H1 fun x H2 => ty σ H2 fun y H3 => ∃ a H4, x = .ref a ∧ DPut H3 a y v H4 ∧ D.nx σ H4) : sDPut td ty tv D σ H := q
theorem s_dsetd (q : td σ H fun x H1 => ∃ a, x = .ref a ∧ IsD H1 a ∧ ty σ H1 fun y H2 => tx σ H2 fun z H3 => ∃ (kvs : List (Key × V)) (k : Key), H3 a = some (.dK kvs) ∧ y = kV k ∧ kvs.length < sizeLine ∧
  (∀ v, valV kvs k = some v → Q v H3) ∧ (valV kvs k = none → Q z (upd H3 a (.dK (putK kvs k z))))) : tDSetd td ty tx σ H Q := q
theorem s_dget2 (q : td σ H fun x H1 => ∃ a, x = .ref a ∧ IsD H1 a ∧ ty σ H1 fun y H2 => tx σ H2 fun z H3 => ∃ o, DGet H3 a y o ∧ Q (o.getD z) H3) : tDGet2 td ty tx σ H Q := q
/-- a look into a dict -/
theorem dgetS (h : H a = some (.dK kvs)) (r : KvR R kvs t) (k : Str) : (DGet H a (.str k) none ∧ getS t k = none) ∨ ∃ v y, DGet H a (.str k) (some v) ∧ getS t k = some y ∧ R v y := by
  have d : DGet H a (.str k) (valV kvs (Sum.inr k)) := DGet.k (k := Sum.inr k) h
  rcases r.get k with ⟨h1, h2⟩ | ⟨v, y, h1, h2, h3⟩
  · rw [h1] at d
    exact .inl ⟨d, h2⟩
  · rw [h1] at d
    exact .inr ⟨v, y, d, h2, h3⟩
theorem dputS (h : H a = some (.dK kvs)) (hl : kvs.length < sizeLine) : DPut H a (.str k) v (upd H a (.dK (putK kvs (Sum.inr k) v))) := DPut.k (k := Sum.inr k) h hl
theorem isDS (h : H a = some (.dK kvs)) : IsD H a := .inl ⟨kvs, .inl h⟩
end
end Y

namespace Y
open PySem PySem.Spec L2 He
/-! ### a text so many times -/
def rRepS : R2 := fun x y H Q => ∃ i n, x = .str i ∧ y = .int n ∧ MulOk i n ∧ Q (.str (Txt.mul i n)) H
theorem op_repS {X : Cx} : OpR X (binaryOp .Mult) rRepS := by
  intro pins s σ H x y v u Q I rx ry h
  obtain ⟨i, n, rfl, rfl, hok, q⟩ := h
  obtain ⟨t, rfl⟩ := rx
  obtain ⟨t', rfl⟩ := ry
  exact SB.mul hok fun t' tk => ⟨.str (Txt.mul i n), H, I.tok _, ⟨_, rfl⟩, q⟩
def rTimesX : R2 := fun x y H Q => rTimes x y H Q ∨ rRepS x y H Q
theorem oX_mul {X : Cx} : OpR X (binaryOp .Mult) rTimesX := OpR.or op_mul op_repS
theorem mulOk_one {c : Nat} {n : Int} (h0 : 0 ≤ n) (h1 : n ≤ 1000) : MulOk ⟨#[c]⟩ n := by
  have l : (⟨#[c]⟩ : Str).length = 1 := rfl
  refine ⟨?_, fun h2 _ => ?_, fun h2 _ => ?_⟩
  · rw [decide_eq_false (by omega), decide_eq_false (by omega)]
    rfl
  · rw [l]
    have : (1 : Int) ≤ (2 ^ 63 - 1) / n := (Int.le_ediv_iff_mul_le (by omega)).mpr (by omega)
    omega
  · rw [l]
    have := leBig (n := 1 * n.toNat) (by omega)
    exact decide_eq_false (by omega)
theorem mul_one_len {c : Nat} {n : Int} (h0 : 0 ≤ n) : (Txt.mul ⟨#[c]⟩ n).cps.toList = List.replicate n.toNat c := by
  unfold Txt.mul
  by_cases h1 : n < 1
  · have : n = 0 := by omega
    subst this
    rfl
  · rw [if_neg h1]
    by_cases h2 : n = 1
    · subst h2
      rfl
    · have e : (n == 1 || (⟨#[c]⟩ : Str).length == 0) = false := by
        rw [beq_false_of_ne h2]
        rfl
      rw [e, if_neg Bool.false_ne_true]
      show (List.foldl (· ++ ·) #[] (List.replicate n.toNat #[c])).toList = _
      have f : ∀ (m : Nat) (acc : Array Nat), (List.foldl (· ++ ·) acc (List.replicate m #[c])).toList = acc.toList ++ List.replicate m c := by
        intro m
        induction m with
        | zero => intro acc; simp
        | succ m ih =>
          intro acc
          rw [List.replicate_succ, List.foldl_cons, ih, List.replicate_succ]
          simp
      rw [f]
      simp
/-- the room of a suite -/
theorem roomS {k j : Nat} {A B : Around} (hr : Room j A) (h : k ≤ j) (hd : B.depth = A.depth) (hu : B.units = A.units) : L2H.RoomH k B := by
  have h1 := hr.dp
  have h2 := hr.un
  exact ⟨by rw [hd]; omega, by rw [hu]; omega⟩
end Y

namespace Y
open PySem PySem.Spec L2 He
theorem Gr.ofSame {D H H' : Hp} (h : Same D H) (e : Same H H') : Gr No D H D H' where
  same := fun b o _ x => e b o x
  kept := fun b x => by
    cases q : H b with
    | none => rfl
    | some o => rw [e b o q] at x; cases x
  dd := Same.refl D
  sub := h.trans e
  new := fun b o x => .inl x
/-! ### the order of pairs of an int and a text -/
abbrev IS := Int × Str
def ltIS (p q : IS) : Bool := if p.1 = q.1 then decide (p.2.cps.toList < q.2.cps.toList) else decide (p.1 < q.1)
theorem ltIS_iff {p q : IS} : ltIS p q = true ↔ p.1 < q.1 ∨ (p.1 = q.1 ∧ p.2.cps.toList < q.2.cps.toList) := by
  unfold ltIS
  by_cases e : p.1 = q.1
  · rw [if_pos e, decide_eq_true_eq]
    exact ⟨fun h => .inr ⟨e, h⟩, fun h => h.elim (fun z => absurd z (by omega)) (·.2)⟩
  · rw [if_neg e, decide_eq_true_eq]
    exact ⟨.inl, fun h => h.elim id fun z => absurd z.1 e⟩
theorem ltIS_no {p q : IS} : ltIS p q = false ↔ ¬ (p.1 < q.1 ∨ (p.1 = q.1 ∧ p.2.cps.toList < q.2.cps.toList)) := by
  rw [← ltIS_iff]
  cases ltIS p q <;> simp
theorem ltIS_asym {p q : IS} (h : ltIS p q = true) : ltIS q p = false := by
  rw [ltIS_iff] at h
  rw [ltIS_no]
  rintro (z | ⟨z1, z2⟩)
  · rcases h with h | ⟨h1, h2⟩ <;> omega
  · rcases h with h | ⟨h1, h2⟩
    · omega
    · exact List.lt_asymm h2 z2
theorem ltIS_tr {p q r : IS} (h1 : ltIS q p = false) (h2 : ltIS r q = false) : ltIS r p = false := by
  rw [ltIS_no] at *
  rintro (z | ⟨z1, z2⟩)
  · have a : ¬ q.1 < p.1 := fun x => h1 (.inl x)
    have b : ¬ r.1 < q.1 := fun x => h2 (.inl x)
    omega
  · have a : ¬ q.1 < p.1 := fun x => h1 (.inl x)
    have b : ¬ r.1 < q.1 := fun x => h2 (.inl x)
    have e1 : q.1 = p.1 := by omega
    have e2 : r.1 = q.1 := by omega
    have c : p.2.cps.toList ≤ q.2.cps.toList := List.not_lt.mp fun x => h1 (.inr ⟨e1, x⟩)
    have d : q.2.cps.toList ≤ r.2.cps.toList := List.not_lt.mp fun x => h2 (.inr ⟨e2, x⟩)
    exact List.not_lt.mpr (List.le_trans c d) z2
theorem ltIS_tot {p q : IS} (h1 : ltIS p q = false) (h2 : ltIS q p = false) : p = q := by
  rw [ltIS_no] at *
  have e : p.1 = q.1 := by
    have a : ¬ p.1 < q.1 := fun x => h1 (.inl x)
    have b : ¬ q.1 < p.1 := fun x => h2 (.inl x)
    omega
  have c : q.2.cps.toList ≤ p.2.cps.toList := List.not_lt.mp fun x => h1 (.inr ⟨e, x⟩)
  have d : p.2.cps.toList ≤ q.2.cps.toList := List.not_lt.mp fun x => h2 (.inr ⟨e.symm, x⟩)
  have f := List.le_antisymm c d
  exact Prod.ext e (TL.ext_tl f.symm)
theorem swo_IS : SrtO.Swo ltIS := ⟨fun _ _ h => ltIS_asym h, fun _ _ _ h1 h2 => ltIS_tr h1 h2⟩
/-- a tuple of an int and a text -/
def IsIS (h : Heap) (v : Value) (p : IS) : Prop := ∃ a o t u n, v = .ref a ∧ h.get? a = some o ∧ o.cls = .type "tuple" ∧ o.data = .seq #[.int p.1 t, .str p.2 u] n
theorem IsIS.keeps {h h' : Heap} {v : Value} {p : IS} (i : IsIS h v p) (k : ∀ b o, h.get? b = some o → o.cls = .type "tuple" → h'.get? b = some o) : IsIS h' v p := by
  obtain ⟨a, o, t, u, n, e, ho, hc, hd⟩ := i
  exact ⟨a, o, t, u, n, e, k _ _ ho hc, hc, hd⟩
theorem IsIS.one {h : Heap} {v : Value} {p q : IS} (i : IsIS h v p) (j : IsIS h v q) : p = q := by
  obtain ⟨a, o, t, u, n, e, ho, hc, hd⟩ := i
  obtain ⟨a', o', t', u', n', e', ho', hc', hd'⟩ := j
  subst e
  cases e'
  rw [ho] at ho'
  cases ho'
  rw [hd] at hd'
  simp only [Data.seq.injEq] at hd'
  obtain ⟨x, _⟩ := hd'
  have y := congrArg Array.toList x
  simp only [List.cons.injEq, Value.int.injEq, Value.str.injEq] at y
  exact Prod.ext y.1.1 y.2.1.1
open Classical in
noncomputable def kOf (h : Heap) (v : Value) : IS := if q : ∃ p : IS, IsIS h v p then q.choose else (0, "")
theorem kOf_is {h : Heap} {v : Value} {p : IS} (i : IsIS h v p) : kOf h v = p := by
  have q : ∃ p : IS, IsIS h v p := ⟨p, i⟩
  unfold kOf
  rw [dif_pos q]
  exact IsIS.one q.choose_spec i
section
open PyProof.Rows Srt SrtO
variable {prog : Program} {w : World} {A : Around} {E : Value → Shared → Prop} {s : Shared}
theorem is_cmp {vs : List Value} {k : Value → IS} (hp : ∀ v ∈ vs, IsIS s.heap v (k v)) : Cmp prog w A s (tuples' true) (fun p => p.1 ∈ vs) (lt2 fun v u => ltIS (k v) (k u)) := by
  intro p q hm hm'
  have h1 := hp _ hm
  have h2 := hp _ hm'
  show wpAny (model prog w) A (keyLt' (tuples' true) p.1 q.1) (fun r s' => s' = s ∧ r = ltIS (k p.1) (k q.1)) (fun _ _ => False) s
  unfold ltIS
  generalize (k p.1) = x at h1 ⊢
  generalize (k q.1) = x' at h2 ⊢
  obtain ⟨x, y⟩ := x
  obtain ⟨x', y'⟩ := x'
  obtain ⟨a, o, t, u, n, e, ho, hc, hd⟩ := h1
  obtain ⟨a', o', t', u', n', e', ho', hc', hd'⟩ := h2
  rw [e, e']
  dsimp only at hd hd' ⊢
  refine PySem.W.kat_lt ho hd ho' hd' ?_
  show PySem.W.KatLex prog w A true (decide (2 < 2)) _ [(.int x t, .int x' t'), (.str y u, .str y' u')] 0 s
  refine PySem.W.kat_cons (SeqAt.EqAt.int_int x t x' t' prog w _ _ ?_)
  refine PySem.W.kat_go (fun e1 => ?_) (fun e1 => ?_)
  · have ex : x = x' := by simpa using e1
    refine PySem.W.kat_yes (PySem.W.kat_cons (SeqAt.EqAt.str_str y u y' u' prog w _ _ ?_))
    refine PySem.W.kat_go (fun e2 => ?_) (fun e2 => ?_)
    · have ey : y = y' := by simpa using e2
      have e3 : (if x = x' then decide (y.cps.toList < y'.cps.toList) else decide (x < x')) = false := by
        rw [if_pos ex, ey]
        exact decide_eq_false (List.lt_irrefl _)
      exact PySem.W.kat_yes (PySem.W.kat_nil ⟨rfl, e3.symm⟩)
    · have e3 : (if x = x' then decide (y.cps.toList < y'.cps.toList) else decide (x < x')) = decide (y.cps.toList < y'.cps.toList) := if_pos ex
      refine PySem.W.kat_no (PySem.W.kat_one _ _ (lt_str ?_))
      exact (show s = s ∧ decide (y.cps.toList < y'.cps.toList) = (if x = x' then decide (y.cps.toList < y'.cps.toList) else decide (x < x')) from ⟨rfl, e3.symm⟩)
  · have ex : ¬ x = x' := by simpa using e1
    have e3 : (if x = x' then decide (y.cps.toList < y'.cps.toList) else decide (x < x')) = decide (x < x') := if_neg ex
    exact PySem.W.kat_no (oneLt_int ⟨rfl, e3.symm⟩)
theorem is_firsts {h : Heap} {k : Value → IS} : ∀ {vs : List Value}, (∀ v ∈ vs, IsIS h v (k v)) → ∃ fs : List Value, PySem.W.KatTups h vs fs ∧ fs.length = vs.length ∧ ∀ f ∈ fs, ∃ x t, f = Value.int x t
  | [], _ => ⟨[], PySem.W.KatTups.nil, rfl, fun _ hm => by simp at hm⟩
  | v :: vs, hp => by
    obtain ⟨fs, h1, h2, h3⟩ := is_firsts (vs := vs) fun v' hm => hp v' (List.mem_cons_of_mem _ hm)
    obtain ⟨a, o, t, u, n, e, ho, hc, hd⟩ := hp v (List.mem_cons_self ..)
    subst e
    refine ⟨_ :: fs, PySem.W.KatTups.cons ho hc hd rfl h1, by rw [List.length_cons, List.length_cons, h2], fun f hm => ?_⟩
    rcases List.mem_cons.mp hm with rfl | hm
    · exact ⟨_, t, rfl⟩
    · exact h3 f hm
theorem is_kind {vs : List Value} {k : Value → IS} {Q : SortKind → Shared → Prop} (h0 : 0 < vs.length) (hp : ∀ v ∈ vs, IsIS s.heap v (k v)) (h : Q (tuples' true) s) : wpAny (model prog w) A (keyKind' vs.toArray) Q E s := by
  obtain ⟨fs, h1, h2, h3⟩ := is_firsts hp
  refine PySem.W.kat_kind (T := .type "int") h1 (by omega) (fun f hm => ?_) (by rfl) ?_
  · obtain ⟨x, t, rfl⟩ := h3 f hm
    exact PySem.W.Looks.now
  · have e : (Value.type "int" != Value.type "tuple") = true := by first | decide +kernel | rfl | decide
    rw [e]
    exact h
theorem swo_k (k : Value → IS) : Swo fun v u => ltIS (k v) (k u) := ⟨fun _ _ h => ltIS_asym h, fun _ _ _ h1 h2 => ltIS_tr h1 h2⟩
theorem is_sortable {a : Addr} {vs : List Value} {k : Value → IS} (h0 : 0 < vs.length) (hp : ∀ v ∈ vs, IsIS s.heap v (k v)) (ha : ∀ o, s.heap.get? a = some o → o.cls ≠ .type "tuple") : SortableO prog w A s a vs fun v u => ltIS (k v) (k u) := by
  intro h' keep
  have hp' : ∀ v ∈ vs, IsIS h' v (k v) := fun v hm => (hp v hm).keeps fun b o e c => keep b o (fun z => by subst z; exact ha o e c) e
  exact ⟨tuples' true, fun Q E hq => is_kind (s := { s with heap := h' }) h0 hp' hq, is_cmp hp'⟩
/-- sorted(l) of pairs of an int and a text -/
theorem sorted_IS {l : Addr} {vs : List Value} {k : Value → IS} {Q : Value → Shared → Prop} (hl : s.heap.IsList l vs.toArray) (hz : vs.length ≤ sizeLine) (hp : ∀ v ∈ vs, IsIS s.heap v (k v))
    (h : ∀ (h' : Heap) (d : Addr) (out : List Value), Srtd (fun v u => ltIS (k v) (k u)) out → Stb (fun v u => ltIS (k v) (k u)) out vs → (∀ b o, s.heap.get? b = some o → h'.get? b = some o) → s.heap.objs.size ≤ d → (∃ n, h'.get? d = some (seqObj "list" out.toArray n)) → Q (.ref d) { s with heap := h' }) :
    wpAny (model prog w) A (call (.builtin "sorted") [.ref l]) Q E s := by
  refine sorted_ord (swo_k k) hl hz (fun h2 h₁ a ha kk => ?_) fun out hs hb => ?_
  · refine is_sortable (s := { s with heap := h₁ }) (by omega) (fun v hm => (hp v hm).keeps fun b o e _ => (kk b o e).2) fun o e => ?_
    have e' : some o = some (seqObj "list" vs.toArray 0) := e.symm.trans ha
    cases e'
    intro c
    exact absurd (Value.type.inj c) (by decide)
  · exact h _ _ out hs hb (fun b o e => sortedAll_old e) (Nat.le_succ _) (sortedAll_at s.heap vs out.toArray)
end
/-- sorted(xs), xs a list of pairs of an int and a text (k says which) -/
def rSortIS (K : PySem.W.Frag) : List V → Hp → VK → Prop := fun vs H Q => ∃ (a : Addr) (xs : List V) (k : V → IS), vs = [V.ref a] ∧ SqL K H a xs ∧ (∀ x ∈ xs, ∃ t, x = V.ref t ∧ H t = some (.tup [.int (k x).1, .str (k x).2])) ∧
  ∀ ys p, SrtO.Srtd (fun x y => ltIS (k x) (k y)) ys → SrtO.Stb (fun x y => ltIS (k x) (k y)) ys xs → H p = none → Q (.ref p) (upd H p (.lst ys))
section
variable {X : Cx}
open PyProof.Rows
theorem cr_sortIS : CallR X (.builtin "sorted") (rSortIS X.K) := by
  intro pins s σ H vs us Q I r h
  obtain ⟨a, xs, k, rfl, hs, hx, q⟩ := h
  obtain ⟨its, rv, hl, hz⟩ := I.list hs
  obtain ⟨u, rfl, ru⟩ := vals1 r
  obtain rfl : u = Value.ref a := ru
  obtain ⟨e1, e2⟩ := refs_back rv fun x m => by
    obtain ⟨t, e, _⟩ := hx x m
    exact ⟨t, e⟩
  refine sorted_IS (k := fun u => k (backV u)) hl.isList (by rw [← rv.length]; exact hz) (fun v hv => ?_) fun h' d out h1 h2 kp hd hn => ?_
  · obtain ⟨t, rfl⟩ := e2 v hv
    have hm : V.ref t ∈ xs := by rw [e1]; exact List.mem_map.mpr ⟨_, hv, rfl⟩
    obtain ⟨t', e, ht⟩ := hx _ hm
    cases e
    obtain ⟨_, its2, r2, o, ho, hc, n, hd⟩ := I.hok _ _ ht
    obtain ⟨u1, u2, rfl, ri, rj⟩ := vals2 r2
    obtain ⟨t1, rfl⟩ := ri
    obtain ⟨t2, rfl⟩ := rj
    exact ⟨t, o, t1, t2, n, rfl, ho, hc, hd⟩
  · have h3 : ∀ u ∈ out, ∃ a, u = Value.ref a := fun u hu => e2 u (h2.perm.mem_iff.mp hu)
    obtain ⟨n, hn⟩ := hn
    have hb : SrtO.Stb (fun x y => ltIS (k x) (k y)) (out.map backV) xs := by
      rw [e1]
      exact SrtO.Stb.map (lt := fun x y => ltIS (k x) (k y)) ⟨fun _ _ h => ltIS_asym h, fun _ _ _ h1 h2 => ltIS_tr h1 h2⟩ backV h2
    refine ⟨.ref d, upd H d (.lst (out.map backV)), I.laid (t' := s.toks) kp hd ⟨?_, out, n, vals_back h3, hn⟩, rfl, q _ d (SrtO.srtd_map h1) hb (I.hok.fresh hd)⟩
    rw [hb.len]
    exact hz
end
end Y

namespace Y
open PySem PySem.Spec L2 He
/-! ### sorted(texts, key=f), f a def of the head's that makes pairs of an int and a text -/
/-- the key of a text -/
def keyS (κ : Str → IS) : V → IS
  | .str z => κ z
  | _ => (0, "")
section
open PyProof.Rows Srt SrtO
/-- f makes of each text its pair -/
def MakesK (P : Program) (w : World) (K : PySem.W.Frag) (mg : Str → Option Value) (base : Heap) (k : Nat) (f : Addr) (κ : Str → IS) (ok : Str → Prop) : Prop :=
  ∃ (fd : FuncData) (ps : List Str) (sp : Sp), PySem.W.keepIn K (.ref f) = true ∧ Binds K fd ps [] ∧ FnOk P w K mg base (L2.CX P w) k f fd ps sp ∧
    ∀ z H Q E, ok z → (∀ p, H p = none → Q (.ref p) (upd H p (.tup [.int (κ z).1, .str (κ z).2]))) → sp [.str z] H Q E
/-- the keys ks of the texts zs -/
structure KysOf (H : Hp) (κ : Str → IS) (zs : List Str) (ks : List V) : Prop where
  len : ks.length = zs.length
  is_ : ∀ (i : Nat) (z : Str), zs[i]? = some z → ∃ t, ks[i]? = some (V.ref t) ∧ H t = some (.tup [.int (κ z).1, .str (κ z).2])
theorem KysOf.snoc {H H' : Hp} {κ : Str → IS} {zs : List Str} {ks : List V} {z : Str} {t : Addr} (h : KysOf H κ zs ks) (s : ∀ b o, (∃ xs, o = .tup xs) → H b = some o → H' b = some o) (ht : H' t = some (.tup [.int (κ z).1, .str (κ z).2])) : KysOf H' κ (zs ++ [z]) (ks ++ [V.ref t]) := by
  refine ⟨by rw [List.length_append, List.length_append, h.len]; rfl, fun i y hy => ?_⟩
  by_cases hi : i < zs.length
  · rw [List.getElem?_append_left hi] at hy
    obtain ⟨u, h1, h2⟩ := h.is_ i y hy
    exact ⟨u, by rw [List.getElem?_append_left (by rw [h.len]; exact hi)]; exact h1, s _ _ ⟨_, rfl⟩ h2⟩
  · have hl := (List.getElem?_eq_some_iff.mp hy).1
    rw [List.length_append] at hl
    have : i = zs.length := by
      have : ([z] : List Str).length = 1 := rfl
      omega
    subst this
    rw [List.getElem?_append_right (Nat.le_refl _), Nat.sub_self] at hy
    cases hy
    refine ⟨t, ?_, ht⟩
    rw [← h.len, List.getElem?_append_right (Nat.le_refl _), Nat.sub_self]
    rfl
theorem fold_keys {M : Model} {A : Around} {E : Value → Shared → Prop} {body : Value → PUnit → Sem (ForInStep PUnit)} {Q : PUnit → Shared → Prop} (I : Nat → Shared → Prop) : ∀ (vs : List Value) (i : Nat) (s : Shared), I i s →
    (∀ j x s, vs[j]? = some x → I (i + j) s → wpAny M A (body x ⟨⟩) (fun r s' => r = .yield ⟨⟩ ∧ I (i + j + 1) s') E s) → (∀ s, I (i + vs.length) s → Q ⟨⟩ s) → wpAny M A (forIn vs PUnit.unit body) Q E s
  | [], i, s, h, _, hd => by
    rw [List.forIn_nil]
    exact wpAny_pure (hd s h)
  | v :: vs, i, s, h, hs, hd => by
    rw [List.forIn_cons]
    refine wpAny_bind (wpAny_mono (hs 0 v s rfl h) (fun r s' hr => ?_) fun _ _ z => z)
    obtain ⟨rfl, h1⟩ := hr
    refine fold_keys I vs (i + 1) s' h1 (fun j x s2 e q => ?_) fun s2 q => hd s2 ?_
    · have := hs (j + 1) x s2 e (by rw [show i + (j + 1) = i + 1 + j by omega]; exact q)
      rw [show i + (j + 1) + 1 = i + 1 + j + 1 by omega] at this
      exact this
    · rw [List.length_cons, show i + (vs.length + 1) = i + 1 + vs.length by omega]
      exact q
end
def backS : Value → Str
  | .str z _ => z
  | _ => ""
theorem back_vals {α : Type} {g : α → Value} : ∀ {l : List α}, (∀ p ∈ l, ∃ z t, g p = .str z t) → Vals ((l.map fun p => backS (g p)).map V.str) (l.map g)
  | [], _ => .nil
  | p :: l, h => by
    obtain ⟨z, t, e⟩ := h p (List.mem_cons_self ..)
    rw [List.map_cons, List.map_cons, List.map_cons]
    refine .cons ?_ (back_vals fun q hq => h q (List.mem_cons_of_mem _ hq))
    rw [e]
    exact ⟨t, rfl⟩
section
open PyProof.Rows Srt SrtO
variable {X : Cx}
def rSortK (K : PySem.W.Frag) (f : Addr) (κ : Str → IS) (ok : Str → Prop) : List V → List V → Hp → VK → Prop := fun vs ws H Q => ∃ (a : Addr) (zs : List Str), vs = [.ref a] ∧ ws = [.ref f] ∧ SqL K H a (zs.map V.str) ∧ (∀ z ∈ zs, ok z) ∧
  ∀ H' p ys, Same H H' → H p = none → H' p = some (.lst (ys.map V.str)) → Srtd (fun x y => ltIS (κ x) (κ y)) ys → ys.Perm zs → Q (.ref p) H'
theorem cr_sortK {k : Nat} {f : Addr} {κ : Str → IS} {ok : Str → Prop} (F : MakesK X.prog X.w X.K X.mg X.base k f κ ok) (hr : Room (k + 2) X.A) : CallRK X (.builtin "sorted") [Str.ofString "key"] (rSortK X.K f κ ok) := by
  intro pins s σ H vs ws us kws Q I r1 r2 h
  obtain ⟨a, zs, rfl, rfl, hs, hok, q⟩ := h
  obtain ⟨its, rv, pl, hz⟩ := I.list hs
  rw [List.length_map] at hz
  obtain ⟨u, rfl, ru⟩ := vals1 r1
  obtain rfl : u = Value.ref a := ru
  obtain ⟨u2, rfl, ru2⟩ := vals1 r2
  obtain rfl : u2 = Value.ref f := ru2
  have hil : its.length = zs.length := by rw [← rv.length, List.length_map]
  have hl := pl.isList
  show wpAny (model X.prog X.w) X.A (call (.builtin "sorted") [.ref a] [(Str.ofString "key", .ref f)]) (EP X pins σ Q) X.xe s
  refine call_function_entry_kw kind_sorted plain_sorted entry_sorted (ksk_s1 _ _) ?_
  unfold Builtin.«sorted»
  refine wpAny_bind (m := checkCount "sorted" 1 1 _) (wpAny_pure ?_)
  refine wpAny_bind (collect_list hl ?_ (by rw [hil]; exact hz))
  refine wpAny_bind (wpAny_newList ?_ (by rw [hil]; exact hz))
  have hsz : ((s.heap.push (seqObj "list" #[] 0)).update s.heap.objs.size (Obj.mapSeq (· ++ its.toArray))).objs.size = s.heap.objs.size + 1 := by
    rw [Heap.size_update, size_push']
  have hoL : (((s.heap.push (seqObj "list" #[] 0)).update s.heap.objs.size (Obj.mapSeq (· ++ its.toArray))).push (seqObj "list" its.toArray 0)).get? (s.heap.objs.size + 1) = some (seqObj "list" its.toArray 0) := by
    rw [← hsz]; exact Heap.get?_push_size _ rfl
  have keep : ∀ b o, s.heap.get? b = some o → (((s.heap.push (seqObj "list" #[] 0)).update s.heap.objs.size (Obj.mapSeq (· ++ its.toArray))).push (seqObj "list" its.toArray 0)).get? b = some o := fun b o q => by
    have hlt : b < s.heap.objs.size := Heap.lt_size q
    refine Heap.get?_push_of_some _ ?_
    rw [Heap.get?_update_ne _ _ _ _ (Nat.ne_of_lt hlt)]
    exact Heap.get?_push_of_some _ q
  show wpAny _ _ _ _ _ { s with heap := ((s.heap.push (seqObj "list" #[] 0)).update s.heap.objs.size (Obj.mapSeq (· ++ its.toArray))).push (seqObj "list" its.toArray 0) }
  rw [hsz]
  have hf1 : H (s.heap.objs.size + 1) = none := I.hok.fresh (Nat.le_succ _)
  have hle1 : s.heap.objs.size ≤ s.heap.objs.size + 1 := Nat.le_succ _
  revert hoL keep hf1 hle1
  generalize ((s.heap.push (seqObj "list" #[] 0)).update s.heap.objs.size (Obj.mapSeq (· ++ its.toArray))).push (seqObj "list" its.toArray 0) = h1
  generalize s.heap.objs.size + 1 = d
  intro hoL keep hf1 hle1
  refine wpAny_bind (wpAny_holding (wpAny_call_entry_kw slot_list_sort ⟨_, hoL, rfl⟩ entry_list_sort ?_ (ksk_l1 _ _)))
  rw [ksk_t1]
  unfold ksk_tree
  refine wpAny_bind (listItems_at hoL rfl ?_)
  refine wpAny_bind (listUpdate_at hoL rfl ?_ (by rw [List.size_toArray, hil]; exact hz) (Nat.zero_le _))
  obtain ⟨e1, ho2⟩ : ∃ e1, (h1.update d (Obj.mapSeq fun _ => #[])).get? d = some (seqObj "list" #[] e1) := ⟨_, get?_update_seq hoL fun _ => #[]⟩
  have keep2 : ∀ b o, s.heap.get? b = some o → (h1.update d (Obj.mapSeq fun _ => #[])).get? b = some o := fun b o q => by
    rw [Heap.get?_update_ne _ _ _ _ (Nat.ne_of_lt (Nat.lt_of_lt_of_le (Heap.lt_size q) hle1))]
    exact keep b o q
  revert ho2 keep2
  dsimp only
  generalize (h1.update d (Obj.mapSeq fun _ => #[])) = h2
  intro ho2 keep2
  refine wpAny_bind (seqEpoch_at ho2 rfl ?_)
  refine wpAny_bind (wpAny_newTuple ?_ (by show its.length ≤ _; rw [hil]; exact hz))
  refine wpAny_bind (wpAny_newList ?_ (Nat.zero_le _))
  refine wpAny_holding ?_
  -- the emptied list, its object told; the list of keys
  have I2 := I.laid (o := .ext fun h => h.get? d = some (seqObj "list" #[] e1)) (t' := s.toks) keep2 hle1 ⟨ho2, ⟨_, ho2⟩, fun _ _ p k => k _ p⟩
  have I3 := (I2.kept (t' := s.toks) (h' := h2.push (seqObj "tuple" its.toArray 0)) fun b o e => Heap.get?_push_of_some _ e).lnew (its := []) (ys := []) (t' := s.toks) .nil (Nat.zero_le _)
  have hfk : (upd H d (.ext fun h => h.get? d = some (seqObj "list" #[] e1))) (h2.push (seqObj "tuple" its.toArray 0)).objs.size = none := (I2.kept (t' := s.toks) (h' := h2.push (seqObj "tuple" its.toArray 0)) fun b o e => Heap.get?_push_of_some _ e).fresh
  revert I3 hfk
  generalize (h2.push (seqObj "tuple" its.toArray 0)).objs.size = kS
  show ∀ _ _, wpAny (model X.prog X.w) X.A.in1.in1 (ksk_rest d (.ref f) false its.toArray e1 (.ref kS)) _ X.xe { s with heap := (h2.push (seqObj "tuple" its.toArray 0)).push (seqObj "list" #[] 0) }
  have eq3 : ((h2.push (seqObj "tuple" its.toArray 0)).push (seqObj "list" #[] 0)) = (h2.push (seqObj "tuple" its.toArray 0)).push { cls := .type "list", data := .seq (List.toArray ([] : List Value)) } := rfl
  rw [eq3]
  generalize (h2.push (seqObj "tuple" its.toArray 0)).push { cls := .type "list", data := .seq (List.toArray ([] : List Value)) } = h3
  intro I3 hfk
  have hkd : kS ≠ d := fun e => by rw [e, upd_same] at hfk; cases hfk
  have hfk0 : H kS = none := by rw [upd_ne hkd] at hfk; exact hfk
  unfold ksk_rest
  refine wpAny_bind (wpAny_rule ?_)
  rw [List.forIn_toArray]
  obtain ⟨fd, ps, sp, hkp, hb, F1, hF⟩ := F
  have mem : ∀ (i : Nat) (v : Value), its[i]? = some v → ∃ z t, zs[i]? = some z ∧ v = .str z t := fun i v hv => by
    have hi := (List.getElem?_eq_some_iff.mp hv).1
    rw [hil] at hi
    obtain ⟨u, hu, ru⟩ := rv.get (i := i) (x := .str zs[i]) (by rw [List.getElem?_map, List.getElem?_eq_getElem hi]; rfl)
    rw [hv] at hu
    cases hu
    obtain ⟨t, rfl⟩ := ru
    exact ⟨zs[i], t, List.getElem?_eq_getElem hi, rfl⟩
  refine wpAny_bind (fold_keys (fun i s' => ∃ (Hk : Hp) (ks : List V), Inv X pins σ Hk s' ∧ Same H Hk ∧ Hk d = some (.ext fun h => h.get? d = some (seqObj "list" #[] e1)) ∧ Hk kS = some (.lst ks) ∧ KysOf Hk κ (zs.take i) ks) its 0 _
    ⟨_, [], I3, fun b o e => ?_, ?_, upd_same, ⟨rfl, fun i z e => by simp at e⟩⟩ ?step ?done)
  · rw [upd_ne (ne_of_none e hfk0), upd_ne (ne_of_none e hf1)]
    exact e
  · rw [upd_ne hkd.symm, upd_same]
  case step =>
    rintro j v s' hv ⟨Hk, ks, J, sm, hd, hk, ky⟩
    rw [Nat.zero_add] at ky ⊢
    obtain ⟨z, t, hzj, rfl⟩ := mem j v hv
    have hr2 : Room k X.A.in1.in1 := (Room.in1 (Room.in1 hr))
    have hsp := hF z Hk (fun v' H' => ∃ t, v' = .ref t ∧ Hk t = none ∧ H' = upd Hk t (.tup [.int (κ z).1, .str (κ z).2])) E0 (hok z (List.mem_of_getElem? hzj)) fun p hp => ⟨p, rfl, hp, rfl⟩
    have rr : Vals [V.str z] [Value.str z t] := .cons ⟨t, rfl⟩ .nil
    have hl2 : ([Value.str z t] : List Value).length = ps.length := by rw [← rr.length]; exact F1.len _ _ _ _ hsp
    have b2 := hb s' [Value.str z t] J.kIn (by rw [List.append_nil]; exact hl2)
    rw [List.append_nil] at b2
    have run : wpAny (model X.prog X.w) X.A.in1.in1 (call (.ref f) [.str z t]) (EP X pins σ fun v' H' => ∃ t, v' = .ref t ∧ Hk t = none ∧ H' = upd Hk t (.tup [.int (κ z).1, .str (κ z).2])) (fun _ _ => False) s' := by
      refine wpAny_call (codeAny_mono (F1.run X.A.in1.in1 X.stack s' Hk ⟨[.str z t], []⟩ _ _ _ E0 hr2 J.env0.in1.in1 b2 rr hsp) fun r s'' hq => ?_)
      cases r with
      | error e =>
        obtain ⟨_, _, _, _, _, _, _, _, _, _, _, _, z⟩ := (show L2.CX X.prog X.w X.stack Hk s' E0 e s'' from hq)
        exact z.elim
      | ok fl =>
        cases fl with
        | ret u => exact J.after hq
        | next => exact False.elim hq
        | brk => exact False.elim hq
        | cont => exact False.elim hq
    refine wpAny_bind (wpAny_attempt (wpAny_mono run (fun v s'' he => ?_) fun _ _ x => x.elim))
    obtain ⟨v', H', J2, rv2, t2, rfl, nt2, rfl⟩ := he
    obtain rfl : v = Value.ref t2 := rv2
    dsimp only
    have nkt : kS ≠ t2 := fun e => by rw [← e, hk] at nt2; cases nt2
    have ndt : d ≠ t2 := fun e => by rw [← e, hd] at nt2; cases nt2
    have hk2 : (upd Hk t2 (.tup [.int (κ z).1, .str (κ z).2])) kS = some (.lst ks) := (upd_ne nkt).trans hk
    obtain ⟨z2, kits, n2, r2, hl3, ek⟩ := J2.lstM hk2
    have hkl : ks.length < sizeLine := by
      rw [ky.len, List.length_take]
      have := (List.getElem?_eq_some_iff.mp hzj).1
      omega
    refine wpAny_bind (listUpdate_at ek rfl ?_ (by rw [List.size_toArray]; omega) (by rw [Array.size_push, List.size_toArray]; omega))
    refine wpAny_pure ⟨rfl, _, ks ++ [.ref t2], J2.lset (t' := s''.toks) (its' := kits ++ [.ref t2]) (f := (·.push (.ref t2))) (ys := ks ++ [.ref t2]) hk2 ek (by simp) (r2.append (.cons (show RelV (V.ref t2) (Value.ref t2) from rfl) .nil)) (by rw [List.length_append]; simp only [List.length_singleton]; omega), fun b o e => ?_, ?_, upd_same, ?_⟩
    · have e1 := sm b o e
      rw [upd_ne (show b ≠ kS from ne_of_none e hfk0), upd_ne (ne_of_none e1 nt2)]
      exact e1
    · rw [upd_ne hkd.symm, upd_ne ndt]
      exact hd
    · rw [List.take_add_one, hzj]
      refine ky.snoc (fun b o ho e => ?_) ?_
      · obtain ⟨xs, rfl⟩ := ho
        rw [upd_ne (fun z => by rw [z, hk] at e; cases e), upd_ne (ne_of_none e nt2)]
        exact e
      · rw [upd_ne nkt.symm, upd_same]
  case done =>
    rintro s' ⟨Hk, ks, J, sm, hd, hk, ky⟩
    rw [Nat.zero_add, hil, List.take_length] at ky
    obtain ⟨z2, kits, n2, r2, hl3, ek⟩ := J.lstM hk
    have hkl : kits.length = its.length := by rw [← hl3, ky.len, hil]
    refine wpAny_bind (listItems_at ek rfl ?_)
    -- what the keys are
    have pr : ∀ (i : Nat) (v u : Value), kits[i]? = some v → its[i]? = some u → ∃ z t, zs[i]? = some z ∧ u = .str z t ∧ IsIS s'.heap v (κ z) := by
      intro i v u hv hu
      obtain ⟨z, t, hzi, rfl⟩ := mem i u hu
      obtain ⟨a2, hka, hta⟩ := ky.is_ i z hzi
      obtain ⟨v2, hv2, rv2⟩ := r2.get hka
      rw [hv] at hv2
      cases hv2
      obtain rfl : v = Value.ref a2 := rv2
      obtain ⟨_, its2, r3, o, ho, hc, n, hd2⟩ := J.hok _ _ hta
      obtain ⟨u1, u2, rfl, ri, rj⟩ := vals2 r3
      obtain ⟨t1, rfl⟩ := ri
      obtain ⟨t2, rfl⟩ := rj
      exact ⟨z, t, hzi, rfl, a2, o, t1, t2, n, rfl, ho, hc, hd2⟩
    have pz : ∀ p ∈ (kits.toArray.zip its.toArray).toList, ∃ z t, p.2 = .str z t ∧ IsIS s'.heap p.1 (κ z) := by
      intro p hp
      rw [ksk_zip] at hp
      obtain ⟨i, hi⟩ := List.mem_iff_getElem?.mp hp
      rw [List.getElem?_zip_eq_some] at hi
      obtain ⟨z, t, _, e, is⟩ := pr i p.1 p.2 (by simpa using hi.1) hi.2
      exact ⟨z, t, e, is⟩
    have hkis : ∀ v ∈ kits, IsIS s'.heap v (kOf s'.heap v) := by
      intro v hv
      obtain ⟨i, hi⟩ := List.mem_iff_getElem?.mp hv
      have hi2 := (List.getElem?_eq_some_iff.mp hi).1
      obtain ⟨z, t, _, _, is⟩ := pr i v its[i] hi (List.getElem?_eq_getElem (by omega))
      rw [kOf_is is]
      exact is
    have all : ∀ p ∈ (kits.toArray.zip its.toArray).toList, p.1 ∈ kits := fun p hp => by
      rw [ksk_zip] at hp
      have := (List.of_mem_zip (show (p.1, p.2) ∈ _ from hp)).1
      simpa using this
    have psz : (kits.toArray.zip its.toArray).toList.length = its.length := by
      rw [ksk_zip, List.length_zip]
      simp only [List.toList_toArray, List.size_toArray]
      omega
    have hsnd : (kits.toArray.zip its.toArray).toList.map (fun p => backS p.2) = zs := by
      refine List.ext_getElem? fun i => ?_
      rw [List.getElem?_map]
      by_cases hi : i < its.length
      · obtain ⟨z, t, hzi, eu, is⟩ := pr i kits[i] its[i] (List.getElem?_eq_getElem (by omega)) (List.getElem?_eq_getElem hi)
        have : (kits.toArray.zip its.toArray).toList[i]? = some (kits[i], its[i]) := by
          rw [ksk_zip, List.getElem?_zip_eq_some]
          exact ⟨by simp, by simp⟩
        rw [this, hzi]
        show some (backS its[i]) = some z
        rw [eu]
        rfl
      · rw [List.getElem?_eq_none (by omega), List.getElem?_eq_none (by omega)]
        rfl
    have tail : ∀ st' : SortSt, Srtd (lt2 fun v u => ltIS (kOf s'.heap v) (kOf s'.heap u)) (arrOf st').toList → (arrOf st').toList.Perm (kits.toArray.zip its.toArray).toList → failedOf st' = none →
        wpAny (model X.prog X.w) X.A.in1.in1 (ksk_tail d false e1 (.ref kS) st') (fun r s1 => ∃ H' ys, r = .done (.ret .none) ∧ Inv X pins σ H' s1 ∧ Same H H' ∧ H' d = some (.lst (ys.map V.str)) ∧ Srtd (fun x y => ltIS (κ x) (κ y)) ys ∧ ys.Perm zs) X.xe s' := by
      intro st' hs hp hf
      have asz : (arrOf st').size = its.length := by
        rw [← Array.length_toList, hp.length_eq, psz]
      unfold ksk_tail
      try dsimp only
      refine wpAny_bind (listUpdate_at ek rfl ?_ (by rw [List.size_toArray]; omega) (Nat.zero_le _))
      have J2 := J.lset (t' := s'.toks) (its' := []) (f := fun _ => #[]) (ys := []) hk ek rfl .nil (Nat.zero_le _)
      have hd2 : (upd Hk kS (.lst [])) d = some (.ext fun h => h.get? d = some (seqObj "list" #[] e1)) := (upd_ne hkd.symm).trans hd
      refine wpAny_bind (wpAny_letGo ?_)
      obtain ⟨hod, _, _⟩ := J2.hok d _ hd2
      refine wpAny_bind (seqEpoch_at hod rfl ?_)
      refine wpAny_bind (listUpdate_at hod rfl ?_ (Nat.zero_le _) (by simp only [Bool.false_eq_true, if_false, Array.size_map, asz, hil]; omega))
      rw [hf]
      simp only [bne_self_eq_false, Bool.false_eq_true, if_false]
      have pm : ∀ p ∈ (arrOf st').toList, ∃ z t, p.2 = .str z t ∧ IsIS s'.heap p.1 (κ z) := fun p m => pz p (hp.mem_iff.mp m)
      obtain ⟨n9, hn9⟩ : ∃ n, ((s'.heap.update kS (Obj.mapSeq fun _ => #[])).update d (Obj.mapSeq fun _ => (arrOf st').map (·.2))).get? d = some (seqObj "list" ((arrOf st').map (·.2)) n) := ⟨_, get?_update_seq hod fun _ => (arrOf st').map (·.2)⟩
      refine wpAny_pure ⟨upd (upd Hk kS (.lst [])) d (.lst (((arrOf st').toList.map fun p => backS p.2).map V.str)), (arrOf st').toList.map fun p => backS p.2, rfl, ?_, fun b o e => ?_, upd_same, ?_, ?_⟩
      · refine J2.write (t' := s'.toks) (x := d) (e := d) (by rw [hd2]; exact trivial) (.inl rfl) (fun b u hb hu => (Heap.get?_update_other _ _ (Ne.symm hb)).trans hu) ⟨_, hn9⟩ ⟨?_, (arrOf st').toList.map (·.2), n9, back_vals fun p m => ?_, ?_⟩
        · rw [List.length_map, List.length_map, Array.length_toList, asz, hil]
          exact hz
        · obtain ⟨z, t, e, _⟩ := pm p m
          exact ⟨z, t, e⟩
        · refine hn9.trans ?_
          have e2 : ((arrOf st').toList.map (·.2)).toArray = (arrOf st').map (·.2) := by
            apply Array.toList_inj.mp
            simp
          rw [e2]
      · rw [upd_ne (ne_of_none e hf1), upd_ne (ne_of_none e hfk0)]
        exact sm b o e
      · refine List.pairwise_map.mpr (List.Pairwise.imp_of_mem (fun {p q} m1 m2 h => ?_) hs)
        obtain ⟨z, t, e, is⟩ := pm p m1
        obtain ⟨z', t', e', is'⟩ := pm q m2
        rw [e, e']
        have h' : ltIS (kOf s'.heap q.1) (kOf s'.heap p.1) = false := h
        rw [kOf_is is, kOf_is is'] at h'
        exact h'
      · have := hp.map fun p => backS p.2
        rw [hsnd] at this
        exact this
    unfold ksk_end
    simp only [Bool.false_eq_true, if_false]
    refine wpAny_mono (Q := fun r s1 => ∃ H' ys, r = .done (.ret .none) ∧ Inv X pins σ H' s1 ∧ Same H H' ∧ H' d = some (.lst (ys.map V.str)) ∧ Srtd (fun x y => ltIS (κ x) (κ y)) ys ∧ ys.Perm zs) ?_ (fun r s1 h => ?_) fun _ _ z => z
    rotate_left
    · obtain ⟨H', ys, rfl, J3, s3, h3, h4, h5⟩ := h
      refine ⟨_, rfl, ?_⟩
      exact wpAny_pure ⟨_, rfl, .ref d, H', J3, rfl, q H' d ys s3 hf1 h3 h4 h5⟩
    by_cases h2 : its.toArray.size < 2
    · rw [if_pos h2, if_pos h2]
      refine wpAny_bind (wpAny_pure ?_)
      rw [StateT.run_pure]
      refine wpAny_bind (wpAny_pure ?_)
      try dsimp only
      refine tail (SortSt.mk' general' (kits.toArray.zip its.toArray) #[] 7 none) ?_ (List.Perm.refl _) rfl
      show Srtd _ (kits.toArray.zip its.toArray).toList
      rw [List.size_toArray] at h2
      generalize (kits.toArray.zip its.toArray).toList = l at psz
      match l, psz with
      | [], _ => exact List.Pairwise.nil
      | [x], _ => exact List.pairwise_singleton _ _
      | x :: y :: r, psz => simp only [List.length_cons] at psz; omega
    · rw [if_neg h2, if_neg h2]
      rw [List.size_toArray] at h2
      refine wpAny_bind (is_kind (by omega) hkis ?_)
      refine wpAny_bind (wpAny_mono (wpS_sortO (st0 := SortSt.mk' (tuples' true) (kits.toArray.zip its.toArray) #[] 7 none)
        (Q := fun _ st' => Srtd (lt2 fun v u => ltIS (kOf s'.heap v) (kOf s'.heap u)) (arrOf st').toList ∧ (arrOf st').toList.Perm (kits.toArray.zip its.toArray).toList ∧ failedOf st' = none) (swo2 (swo_k _)) (is_cmp hkis) rfl all rfl rfl fun st' a1 a2 a3 => ⟨a1, a2.perm, a3⟩) ?_ fun _ _ e => e)
      rintro ⟨⟨⟩, st'⟩ s2 ⟨rfl, hp1, hp2, hf⟩
      try dsimp only
      exact tail st' hp1 hp2 hf
end
end Y

namespace Y
open PySem PySem.Spec L2 He
/-! ### what the two readers compute -/
def SM : Str := "abcdefghijklmnopqrstuvwxyz"
def okFrom : List Nat → List Nat → Bool
  | _, [] => true
  | b, c :: r => if c ∉ SM.cps.toList ∨ ¬ b < [c] then false else okFrom [c] r
theorem okFrom_cons (b : List Nat) (c : Nat) (r : List Nat) : okFrom b (c :: r) = if c ∉ SM.cps.toList ∨ ¬ b < [c] then false else okFrom [c] r := rfl
def okLetters (s : Str) : Bool := decide (1 ≤ s.length) && decide (s.length ≤ 4) && okFrom [] s.cps.toList
theorem str_get {z : Str} {i : Nat} {c : Nat} (h : z.cps[i]? = some c) : z.cps.toList.drop i = c :: z.cps.toList.drop (i + 1) := by
  have h1 : z.cps.toList[i]? = some c := by simpa using h
  obtain ⟨hi, e⟩ := List.getElem?_eq_some_iff.mp h1
  rw [List.drop_eq_getElem_cons hi, e]
/-- the first place of a sign that is not of the letters -/
def badAt (ls : List Nat) : Nat → List Nat → Option Nat
  | _, [] => none
  | i, c :: r => if c ∈ ls then badAt ls (i + 1) r else some i
/-! ### the law's draws -/
/-- the draws' state: a list of four, the first one a list of ints -/
structure Stt (K : PySem.W.Frag) (D H : Hp) (st : Addr) : Prop where
  ex : ∃ (c : Addr) (a b e : Int) (cells : List Int), H st = some (.lst [.ref c, .int a, .int b, .int e]) ∧ SqL K D c (cells.map V.int) ∧ 1 ≤ cells.length
  free : D st = none
section
variable {K : PySem.W.Frag} {H : Hp} {st : Addr} {x0 x1 x2 x3 v : V} {Q : VK}
theorem s_u0 (k : Q x0 (upd H st (.lst [x0, x1, x2, x3]))) : rIx K (.ref st) (.int 0) (upd H st (.lst [x0, x1, x2, x3])) Q := s_ix_l (sql upd_same) atI_0 k
theorem s_u1 (k : Q x1 (upd H st (.lst [x0, x1, x2, x3]))) : rIx K (.ref st) (.int 1) (upd H st (.lst [x0, x1, x2, x3])) Q := s_ix_l (sql upd_same) (atI_i (j := 1) rfl rfl) k
theorem s_u2 (k : Q x2 (upd H st (.lst [x0, x1, x2, x3]))) : rIx K (.ref st) (.int 2) (upd H st (.lst [x0, x1, x2, x3])) Q := s_ix_l (sql upd_same) (atI_i (j := 2) rfl rfl) k
theorem s_u3 (k : Q x3 (upd H st (.lst [x0, x1, x2, x3]))) : rIx K (.ref st) (.int 3) (upd H st (.lst [x0, x1, x2, x3])) Q := s_ix_l (sql upd_same) (atI_i (j := 3) rfl rfl) k
theorem s_w1 {Q : Hp → Prop} (k : Q (upd H st (.lst [x0, v, x2, x3]))) : rSetL (.ref st) (.int 1) v (upd H st (.lst [x0, x1, x2, x3])) Q := s_setL upd_same (show ixN 4 1 = some 1 from rfl) (by rw [upd_upd]; exact k)
theorem s_w2 {Q : Hp → Prop} (k : Q (upd H st (.lst [x0, x1, v, x3]))) : rSetL (.ref st) (.int 2) v (upd H st (.lst [x0, x1, x2, x3])) Q := s_setL upd_same (show ixN 4 2 = some 2 from rfl) (by rw [upd_upd]; exact k)
theorem s_w3 {Q : Hp → Prop} (k : Q (upd H st (.lst [x0, x1, x2, v]))) : rSetL (.ref st) (.int 3) v (upd H st (.lst [x0, x1, x2, x3])) Q := s_setL upd_same (show ixN 4 3 = some 3 from rfl) (by rw [upd_upd]; exact k)
end
section
variable {K : PySem.W.Frag}
theorem Stt.up {D H D' H' : Hp} {st : Addr} (h : Stt K D H st) (g : Gr No D H D' H') : Stt K D' H' st := by
  obtain ⟨⟨c, a, b, e, cells, h1, h2, h3⟩, h4⟩ := h
  exact ⟨⟨c, a, b, e, cells, g.same _ _ (fun z => z) h1, g.dd.seq h2, h3⟩, g.stay h4 h1⟩
theorem Stt.is {D H : Hp} {st : Addr} (h : Stt K D H st) : H st ≠ none := by
  obtain ⟨⟨c, a, b, e, cells, h1, h2, h3⟩, h4⟩ := h
  rw [h1]
  simp
theorem Stt.put {D H : Hp} {st p : Addr} {o : HO} (h : Stt K D H st) (hp : p ≠ st) : Stt K D (upd H p o) st := by
  obtain ⟨⟨c, a, b, e, cells, h1, h2, h3⟩, h4⟩ := h
  exact ⟨⟨c, a, b, e, cells, (upd_ne hp.symm).trans h1, h2, h3⟩, h4⟩
theorem Stt.frz {D H : Hp} {st p : Addr} {o : HO} (h : Stt K D H st) (hp : p ≠ st) (hD : D p = none) : Stt K (upd D p o) H st := by
  obtain ⟨⟨c, a, b, e, cells, h1, h2, h3⟩, h4⟩ := h
  exact ⟨⟨c, a, b, e, cells, h1, (same_new hD).seq h2, h3⟩, (upd_ne hp.symm).trans h4⟩
theorem Stt.same {D H H' : Hp} {st : Addr} (h : Stt K D H st) (e : Same H H') : Stt K D H' st := by
  obtain ⟨⟨c, a, b, e1, cells, h1, h2, h3⟩, h4⟩ := h
  exact ⟨⟨c, a, b, e1, cells, e _ _ h1, h2, h3⟩, h4⟩
theorem dpl_set {D : Hp} : ∀ {xs : List V} {ds : List PyData} {i : Nat} {v : V} {d : PyData}, DpAll K D xs ds → Dp K D v d → DpAll K D (xs.set i v) (ds.set i d)
  | _, _, i, v, d, .nil, h => .nil
  | _, _, 0, v, d, .cons _ hr, h => .cons h hr
  | _, _, i + 1, v, d, .cons h1 hr, h => .cons h1 (dpl_set hr h)
end
/-- of no sign beyond the codes -/
def Okc (z : Str) : Prop := ∀ c ∈ z.cps.toList, c < 0x110000
theorem Okc.app {a b : Str} (ha : Okc a) (hb : Okc b) : Okc (a ++ b) := fun c hc => by
  have hc : c ∈ TL.tl (a ++ b) := hc
  rw [TL.tl_append] at hc
  rcases List.mem_append.mp hc with h | h
  · exact ha c h
  · exact hb c h
theorem Okc.cut {a : Str} (ha : Okc a) (lo hi : Option Int) : Okc (cutS a lo hi) := fun c hc => ha c (List.mem_of_mem_drop (List.mem_of_mem_take hc))
theorem Okc.chr {a : Str} (ha : Okc a) {i : Nat} (h : i < a.cps.toList.length) : Okc ⟨#[a.cps.toList[i]]⟩ := fun c hc => by
  have : c = a.cps.toList[i] := List.mem_singleton.mp hc
  rw [this]
  exact ha _ (List.getElem_mem h)
theorem okFrom_mem : ∀ {l b : List Nat}, okFrom b l = true → ∀ c ∈ l, c ∈ SM.cps.toList
  | [], _, _, c, z => nomatch z
  | d :: l, b, h, c, z => by
    rw [okFrom_cons] at h
    split at h
    · cases h
    · rename_i hd
      rcases List.mem_cons.mp z with z | z
      · rw [z]
        exact Classical.byContradiction fun y => hd (.inl y)
      · exact okFrom_mem h c z
theorem ok_free {s : Str} (h : okLetters s = true) {c : Nat} (hc : c ∉ SM.cps.toList) : c ∉ s.cps.toList := fun z => by
  unfold okLetters at h
  simp only [Bool.and_eq_true] at h
  exact hc (okFrom_mem h.2 c z)
theorem ok_len {s : Str} (h : okLetters s = true) : 1 ≤ s.length ∧ s.length ≤ 4 := by
  unfold okLetters at h
  simp only [Bool.and_eq_true, decide_eq_true_eq] at h
  exact h.1
theorem ok_okc {s : Str} (h : okLetters s = true) : Okc s := fun c hc => by
  unfold okLetters at h
  simp only [Bool.and_eq_true] at h
  have : ∀ c ∈ SM.cps.toList, c < 0x110000 := by decide +kernel
  exact this c (okFrom_mem h.2 c hc)
theorem strOk_of {z : Str} (h : Okc z) : PyData.strOk z = true := by
  unfold PyData.strOk
  rw [← Array.all_toList, List.all_eq_true]
  intro c hc
  exact decide_eq_true (h c hc)
theorem shaped_lay {d : PyData} (h : SeqAt.shaped d = true) : PyData.canLay0 d = true := by
  unfold SeqAt.shaped at h
  exact (Bool.and_eq_true_iff.mp h).1
section
variable {K : PySem.W.Frag} {H : Hp} {Q : VK} {x y : V} {d : PyData}
theorem s_ne_refl (hx : Dp K H x d) (hy : Dp K H y d) (sd : SeqAt.shaped d = true) (k : Q (.bl false) H) : rNes K x y H Q := s_ne_d hx hy sd sd (by rw [SeqAt.eqv_refl d (shaped_lay sd)]; exact k)
theorem s_eq_refl (hx : Dp K H x d) (hy : Dp K H y d) (sd : SeqAt.shaped d = true) (k : Q (.bl true) H) : rEqs K x y H Q := s_eq_d hx hy sd sd (by rw [SeqAt.eqv_refl d (shaped_lay sd)]; exact k)
end
theorem tyx_tup {K : PySem.W.Frag} {H : Hp} {a : Addr} {xs : List V} (h : SqT K H a xs) : TyX K H (.ref a) (.type "tuple") := by
  rcases h with (h | ⟨o, h⟩) | ⟨o, its, n, h, hc, _⟩
  · exact .base (.tup h)
  · exact .fTuple h
  · exact .kTuple h hc
end Y

namespace Y
open PySem PySem.Spec L2 He
/-! ### sorted with a key -/
def HasK (P : Program) (w : World) (K : PySem.W.Frag) (mg : Str → Option Value) (base : Heap) (k : Nat) (x : Str) (κ : Str → IS) (ok : Str → Prop) : Prop := ∃ f : Addr, mg x = some (.ref f) ∧ MakesK P w K mg base k f κ ok
def tSortK (K : PySem.W.Frag) (κ : Str → IS) (ok : Str → Prop) (t : TA) : TE := fun σ H Q => t σ H fun vs H1 => ∃ (a : Addr) (zs : List Str), vs = [.ref a] ∧ SqL K H1 a (zs.map V.str) ∧ (∀ z ∈ zs, ok z) ∧
  ∀ H' p ys, Same H1 H' → H1 p = none → H' p = some (.lst (ys.map V.str)) → SrtO.Srtd (fun x y => ltIS (κ x) (κ y)) ys → ys.Perm zs → Q (.ref p) H'
theorem has_key {P : Program} {w : World} {K : PySem.W.Frag} {mg : Str → Option Value} {base : Heap} {k : Nat} {x : Str} {sp : Sp} {κ : Str → IS} {ok : Str → Prop} (G : Has P w K mg base k x sp)
    (h : ∀ z H Q E, ok z → (∀ p, H p = none → Q (.ref p) (upd H p (.tup [.int (κ z).1, .str (κ z).2]))) → sp [.str z] H Q E) : HasK P w K mg base k x κ ok := by
  obtain ⟨f, fd, ps, h1, h2, h3, h4⟩ := G
  exact ⟨f, h1, fd, ps, sp, h2, h3, h4, h⟩
section
variable {X : Cx} {k : Nat} {y : Str} {κ : Str → IS} {ok : Str → Prop} {e : Expr} {t : TA} {p p2 pos kpos : Pos}
theorem pe_sortK (K : PySem.W.Frag) (G : HasK X.prog X.w X.K X.mg X.base k y κ ok) (hr : Room (k + 2) X.A) (hgs : Gl X "sorted") (hms : X.mg "sorted" = none) (hgy : Gl X y) (ha : PA X [e] t) (hK : X.K = K := by rfl) (hd : (y == ("__debug__" : Str)) = false := by decide)
    (he : backTo pos (starEach [e] X.env) = (false, eval e X.env) :: backTo pos (starEach [] X.env) := by rfl) (hpl : (backTo pos (starEach [e] X.env)).any (·.1) = false := by rfl)
    (hall : (backToKw pos (keywordEach [⟨some "key", .Name y p2, kpos⟩] X.env)).all (·.1.isSome) = true := by rfl) (hnone : (backToKw pos (keywordEach [⟨some "key", .Name y p2, kpos⟩] X.env)).any (·.1.isNone) = false := by rfl) (hks : (backToKw pos (keywordEach [⟨some "key", .Name y p2, kpos⟩] X.env)).filterMap (·.1) = [Str.ofString "key"] := by rfl) :
    PE X (.Call (.Name "sorted" p) [e] [⟨some "key", .Name y p2, kpos⟩] pos) (tSortK K κ ok t) := by
  subst hK
  obtain ⟨f, hm, F⟩ := G
  have key := pe_callBK (X := X) (p := p) (cr_sortK F hr) hgs hms PyProof.Rows.boot_sorted (pa_mon ha) (pk_cons (nm := some "key") (kpos := kpos) (pe_gC (pos := p2) hgy hm hd) pk_nil) (by decide) (by decide) he hpl hall hnone hks
  refine ⟨fun pins s σ H Q I h => key.run pins s σ H Q I ?_⟩
  have h' : t σ H fun vs H1 => ∃ (a : Addr) (zs : List Str), vs = [.ref a] ∧ SqL X.K H1 a (zs.map V.str) ∧ (∀ z ∈ zs, ok z) ∧
    ∀ H' p ys, Same H1 H' → H1 p = none → H' p = some (.lst (ys.map V.str)) → SrtO.Srtd (fun x y => ltIS (κ x) (κ y)) ys → ys.Perm zs → Q (.ref p) H' := h
  refine ⟨_, h', fun vs H1 z => ?_⟩
  obtain ⟨a, zs, rfl, h1, h2, h3⟩ := z
  exact ⟨a, zs, rfl, rfl, h1, h2, h3⟩
theorem s_sortK {K : PySem.W.Frag} {σ : L2.St} {H : Hp} {Q : VK} (q : t σ H fun vs H1 => ∃ (a : Addr) (zs : List Str), vs = [.ref a] ∧ SqL K H1 a (zs.map V.str) ∧ (∀ z ∈ zs, ok z) ∧
  ∀ H' p ys, Same H1 H' → H1 p = none → H' p = some (.lst (ys.map V.str)) → SrtO.Srtd (fun x y => ltIS (κ x) (κ y)) ys → ys.Perm zs → Q (.ref p) H') : tSortK K κ ok t σ H Q := q
theorem crK_sortIS (K : PySem.W.Frag) (h : X.K = K := by rfl) : CallR X (.builtin "sorted") (rSortIS K) := h ▸ cr_sortIS
end
/-! ### the order of words -/
abbrev kS (z : Str) : IS := ((z.length : Int), z)
def ordLt (x y : Str) : Bool := ltIS (kS x) (kS y)
theorem ordLt_iff {x y : Str} : ordLt x y = true ↔ x.length < y.length ∨ (x.length = y.length ∧ x.cps.toList < y.cps.toList) := by
  unfold ordLt
  rw [ltIS_iff]
  show (x.length : Int) < y.length ∨ ((x.length : Int) = y.length ∧ _) ↔ _
  exact ⟨fun h => h.elim (fun h => .inl (by omega)) fun h => .inr ⟨by omega, h.2⟩, fun h => h.elim (fun h => .inl (by omega)) fun h => .inr ⟨by omega, h.2⟩⟩
theorem ordLt_irr (x : Str) : ordLt x x = false := swo_IS.refl _
theorem ordLt_asym {x y : Str} (h : ordLt x y = true) : ordLt y x = false := ltIS_asym h
theorem ordLt_tot {x y : Str} (h1 : ordLt x y = false) (h2 : ordLt y x = false) : x = y := congrArg Prod.snd (ltIS_tot h1 h2)
theorem ordLe_tr {x y z : Str} (h1 : ordLt y x = false) (h2 : ordLt z y = false) : ordLt z x = false := ltIS_tr h1 h2
theorem ordLt_tr {x y z : Str} (h1 : ordLt x y = true) (h2 : ordLt y z = true) : ordLt x z = true := swo_IS.ltle h1 (ltIS_asym h2)
abbrev Up (l : List Str) : Prop := l.Pairwise fun x y => ordLt x y = true
abbrev UpE (l : List Str) : Prop := l.Pairwise fun x y => ordLt y x = false
theorem Up.e {l : List Str} (h : Up l) : UpE l := h.imp fun h => ordLt_asym h
theorem up_perm : ∀ {l m : List Str}, UpE l → UpE m → l.Perm m → l = m
  | [], m, _, _, h => (List.Perm.eq_nil h.symm).symm
  | x :: l, [], _, _, h => absurd h.length_eq (by simp)
  | x :: l, y :: m, hl, hm, h => by
    obtain ⟨a1, a2⟩ := List.pairwise_cons.mp hl
    obtain ⟨b1, b2⟩ := List.pairwise_cons.mp hm
    have h1 : ordLt x y = false := by
      rcases List.mem_cons.mp (h.mem_iff.mp (List.mem_cons_self (a := x) (l := l))) with e | hx
      · rw [e]
        exact ordLt_irr y
      · exact b1 x hx
    have h2 : ordLt y x = false := by
      rcases List.mem_cons.mp (h.mem_iff.mpr (List.mem_cons_self (a := y) (l := m))) with e | hy
      · rw [e]
        exact ordLt_irr x
      · exact a1 y hy
    have e := ordLt_tot h1 h2
    subst e
    rw [up_perm a2 b2 h.cons_inv]
/-- put in its place, once -/
def insO (z : Str) : List Str → List Str
  | [] => [z]
  | y :: r => if ordLt z y = true then z :: y :: r else if z = y then y :: r else y :: insO z r
theorem insO_cons (z y : Str) (r : List Str) : insO z (y :: r) = if ordLt z y = true then z :: y :: r else if z = y then y :: r else y :: insO z r := rfl
theorem insO_mem {z x : Str} : ∀ {l : List Str}, x ∈ insO z l ↔ x = z ∨ x ∈ l
  | [] => by simp [insO]
  | y :: r => by
    rw [insO_cons]
    split
    · simp
    · split
      · rename_i e
        subst e
        simp
      · simp only [List.mem_cons, insO_mem]
        constructor
        · rintro (h | h | h)
          · exact .inr (.inl h)
          · exact .inl h
          · exact .inr (.inr h)
        · rintro (h | h | h)
          · exact .inr (.inl h)
          · exact .inl h
          · exact .inr (.inr h)
theorem insO_up {z : Str} : ∀ {l : List Str}, Up l → Up (insO z l)
  | [], _ => List.pairwise_singleton _ _
  | y :: r, h => by
    obtain ⟨a1, a2⟩ := List.pairwise_cons.mp h
    rw [insO_cons]
    split
    · rename_i h1
      refine List.pairwise_cons.mpr ⟨fun x hx => ?_, h⟩
      rcases List.mem_cons.mp hx with e | hx
      · rw [e]
        exact h1
      · exact ordLt_tr h1 (a1 x hx)
    · split
      · exact h
      · rename_i h1 h2
        refine List.pairwise_cons.mpr ⟨fun x hx => ?_, insO_up a2⟩
        rcases insO_mem.mp hx with e | hx
        · rw [e]
          cases e1 : ordLt y z with
          | true => rfl
          | false => exact absurd (ordLt_tot (Bool.eq_false_iff.mpr h1) e1) h2
        · exact a1 x hx
/-- the different words in order -/
def inO (l : List Str) : List Str := l.foldr insO []
theorem inO_mem {x : Str} : ∀ {l : List Str}, x ∈ inO l ↔ x ∈ l
  | [] => Iff.rfl
  | y :: r => by
    show x ∈ insO y (inO r) ↔ _
    rw [insO_mem, inO_mem, List.mem_cons]
theorem inO_up : ∀ {l : List Str}, Up (inO l)
  | [] => List.Pairwise.nil
  | _ :: _ => insO_up inO_up
theorem up_nodup {l : List Str} (h : Up l) : l.Nodup := h.imp fun {a b} h e => by
  subst e
  rw [ordLt_irr] at h
  cases h
theorem perm_of_mem {α : Type} [DecidableEq α] {l m : List α} (hl : l.Nodup) (hm : m.Nodup) (h : ∀ x, x ∈ l ↔ x ∈ m) : l.Perm m := (List.perm_ext_iff_of_nodup hl hm).mpr h
/-- ascending, each once, the same words: it is that list -/
theorem inO_uniq {l m : List Str} (h : Up m) (e : ∀ x, x ∈ m ↔ x ∈ l) : m = inO l :=
  up_perm h.e inO_up.e (perm_of_mem (up_nodup h) (up_nodup inO_up) fun x => (e x).trans inO_mem.symm)
theorem inO_same {l : List Str} (h : Up l) : inO l = l := (inO_uniq h fun _ => Iff.rfl).symm
theorem srt_up {ys : List Str} (h : SrtO.Srtd (fun x y => ltIS (kS x) (kS y)) ys) : UpE ys := h
theorem upE_up {ys : List Str} (h : UpE ys) (n : ys.Nodup) : Up ys := by
  refine List.Pairwise.imp_of_mem (fun {a b} _ _ z => z) (List.Pairwise.imp₂ (fun a b (h1 : ordLt b a = false) (h2 : a ≠ b) => ?_) h n)
  cases e : ordLt a b with
  | true => rfl
  | false => exact absurd (ordLt_tot e h1) h2
/-! ### <= of pairs of an int and a text -/
def rLeIS (K : PySem.W.Frag) : R2 := fun x y H Q => ∃ (a b : Addr) (p q : IS), x = .ref a ∧ y = .ref b ∧ SqT K H a [.int p.1, .str p.2] ∧ SqT K H b [.int q.1, .str q.2] ∧ Q (.bl (!ltIS q p)) H
theorem leIS_eq (p q : IS) : (if decide (p.1 = q.1) = true then (if decide (p.2 = q.2) = true then true else !decide (q.2.cps.toList < p.2.cps.toList)) else decide (p.1 ≤ q.1)) = !ltIS q p := by
  unfold ltIS
  by_cases e : p.1 = q.1
  · rw [if_pos (decide_eq_true e), if_pos e.symm]
    by_cases f : p.2 = q.2
    · rw [if_pos (decide_eq_true f), f, decide_eq_false (List.lt_irrefl _)]
      rfl
    · rw [if_neg (by simpa using f)]
  · rw [if_neg (by simpa using e), if_neg fun z => e z.symm]
    by_cases f : p.1 ≤ q.1
    · rw [decide_eq_true f, decide_eq_false (by omega)]
      rfl
    · rw [decide_eq_false f, decide_eq_true (by omega)]
      rfl
theorem op_leIS {X : Cx} (hu : X.A.units < cLine) : OpR X (compareOp .LtE) (rLeIS X.K) := by
  intro pins s σ H x y v u Q I rx ry h
  obtain ⟨a, b, p, q, rfl, rfl, ha, hb, k⟩ := h
  cases rx
  cases ry
  obtain ⟨its, r1, p1, _⟩ := I.tuple ha
  obtain ⟨its2, r2, p2, _⟩ := I.tuple hb
  obtain ⟨u1, u2, rfl, ri, rj⟩ := vals2 r1
  obtain ⟨t1, rfl⟩ := ri
  obtain ⟨t2, rfl⟩ := rj
  obtain ⟨u3, u4, rfl, ri, rj⟩ := vals2 r2
  obtain ⟨t3, rfl⟩ := ri
  obtain ⟨t4, rfl⟩ := rj
  have R := Ob.RcOp.tuples_le (A := X.A) (s := s) (e := fun j => if j = 0 then decide (p.1 = q.1) else decide (p.2 = q.2)) (r := fun j => if j = 0 then decide (p.1 ≤ q.1) else !decide (q.2.cps.toList < p.2.cps.toList)) p1 p2 hu (fun j h1 h2 => by
    match j, h1, h2 with
    | 0, _, _ =>
      show SeqAt.EqAt _ _ (Value.int p.1 t1) (Value.int q.1 t3) _
      have z : (p.1 == q.1) = decide (p.1 = q.1) := by rw [Bool.eq_iff_iff]; simp
      rw [if_pos rfl, ← z]
      exact SeqAt.EqAt.int_int _ _ _ _
    | 1, _, _ =>
      show SeqAt.EqAt _ _ (Value.str p.2 t2) (Value.str q.2 t4) _
      have z : (p.2 == q.2) = decide (p.2 = q.2) := by rw [Bool.eq_iff_iff]; simp
      rw [if_neg (by decide), ← z]
      exact SeqAt.EqAt.str_str _ _ _ _
    | j + 2, h1, _ => exact absurd h1 (by simp)) (fun j h1 h2 _ => by
    match j, h1, h2 with
    | 0, _, _ =>
      show Ob.RcOp _ _ _ (Value.int p.1 t1) (Value.int q.1 t3) _
      rw [if_pos rfl]
      exact Ob.RcOp.le_int _ _ _ _
    | 1, _, _ =>
      show Ob.RcOp _ _ _ (Value.str p.2 t2) (Value.str q.2 t4) _
      rw [if_neg (by decide)]
      exact fun _ _ _ _ h => PySem.P.le_str h
    | j + 2, h1, _ => exact absurd h1 (by simp))
  have z : wpAny (model X.prog X.w) X.A (compareOp .LtE (.ref a) (.ref b)) (EP X pins σ Q) X.xe s := R X.prog X.w X.xe (EP X pins σ Q) ⟨.bl _, H, I, rfl, by
    rw [← leIS_eq] at k
    exact k⟩
  exact z
def rLesA (K : PySem.W.Frag) : R2 := fun x y H Q => rLes x y H Q ∨ rLeIS K x y H Q
theorem cK_leA {X : Cx} (K : PySem.W.Frag) (hu : X.A.units + 64 < cLine) (h : X.K = K := by rfl) : OpR X (compareOp .LtE) (rLesA K) := h ▸ OpR.or c_le (op_leIS (by omega))
section
variable {K : PySem.W.Frag} {H : Hp} {Q : VK} {a b : Addr} {x y v : V} {n : Int}
theorem s_leIS {p q : IS} (ha : SqT K H a [.int p.1, .str p.2]) (hb : SqT K H b [.int q.1, .str q.2]) (k : Q (.bl (!ltIS q p)) H) : rLesA K (.ref a) (.ref b) H Q := .inr ⟨a, b, p, q, rfl, rfl, ha, hb, k⟩
theorem s_popAt {xs : List V} {j : Nat} (h : H a = some (.lst xs)) (e : n = (j : Int)) (h2 : n < 2 ^ 63) (hv : xs[j]? = some v) (k : Q v (upd H a (.lst (xs.eraseIdx j)))) : rPopAt (.ref a) [.int n] H Q := by
  subst e
  refine ⟨a, xs, j, j, v, rfl, rfl, h, by omega, h2, ?_, hv, k⟩
  have := (List.getElem?_eq_some_iff.mp hv).1
  unfold seqIndex?
  have e : (if (j : Int) < 0 then (j : Int) + (xs.length : Int) else (j : Int)) = (j : Int) := if_neg (by omega)
  simp only [e]
  first
  | (rw [if_pos (by omega)]; simp)
  | simp [this]
def rInsert : V → List V → Hp → VK → Prop := fun x vs H Q => ∃ (l : Addr) (xs : List V) (i : Int) (y : V), x = .ref l ∧ vs = [.int i, y] ∧ H l = some (.lst xs) ∧ xs.length < sizeLine ∧ 0 ≤ i ∧ i < 2 ^ 63 ∧
    Q .non (upd H l (.lst (xs.take i.toNat ++ [y] ++ xs.drop i.toNat)))
theorem mt_ins {X : Cx} : MtR X "list.insert" rInsert := mt_insert
theorem s_insert {xs : List V} (h : H a = some (.lst xs)) (hz : xs.length < sizeLine) (h0 : 0 ≤ n) (h1 : n < 2 ^ 63) (k : Q .non (upd H a (.lst (xs.take n.toNat ++ [y] ++ xs.drop n.toNat)))) : rInsert (.ref a) [.int n, y] H Q :=
  ⟨a, xs, n, y, rfl, rfl, h, hz, h0, h1, k⟩
theorem s_listD {kvs : List (Key × V)} (h : H a = some (.dK kvs)) (k : ∀ q, H q = none → Q (.ref q) (upd H q (.lst (kvs.map fun kv => kV kv.1)))) : rListD [.ref a] H Q := ⟨a, kvs, rfl, h, k⟩
end
end Y

namespace Y
open PySem PySem.Spec L2 He
/-! ### keys of a dict with text keys -/
section
variable {α : Type} {R : V → α → Prop}
theorem KvR.keys : ∀ {kvs : List (Key × V)} {t : List (Str × α)}, KvR R kvs t → kvs.map (fun kv => kV kv.1) = (t.map (·.1)).map V.str
  | _, _, .nil => rfl
  | _, _, .cons r s => by
    rw [List.map_cons, List.map_cons, List.map_cons, s.keys]
    rfl
theorem putS_keys (t : List (Str × α)) (k : Str) (v : α) : (putS t k v).map (·.1) = if k ∈ t.map (·.1) then t.map (·.1) else t.map (·.1) ++ [k] := by
  have e : ((t.any fun p => decide (p.1 = k)) = true) ↔ k ∈ t.map (·.1) := by
    rw [List.any_eq_true]
    constructor
    · rintro ⟨p, hp, h⟩
      exact List.mem_map.mpr ⟨p, hp, of_decide_eq_true h⟩
    · intro h
      obtain ⟨p, hp, h⟩ := List.mem_map.mp h
      exact ⟨p, hp, decide_eq_true h⟩
  unfold putS
  by_cases h : (t.any fun p => decide (p.1 = k)) = true
  · rw [if_pos h, if_pos (e.mp h), List.map_map]
    refine List.map_congr_left fun p _ => ?_
    show (if p.1 = k then (p.1, v) else p).1 = p.1
    split <;> rfl
  · rw [if_neg h, if_neg fun z => h (e.mpr z), List.map_append]
    rfl
theorem putS_mem {t : List (Str × α)} {k x : Str} {v : α} : x ∈ (putS t k v).map (·.1) ↔ x = k ∨ x ∈ t.map (·.1) := by
  rw [putS_keys]
  split
  · rename_i h
    exact ⟨.inr, fun z => z.elim (fun e => e ▸ h) id⟩
  · rw [List.mem_append, List.mem_singleton]
    exact ⟨fun z => z.elim .inr .inl, fun z => z.elim .inr .inl⟩
theorem putS_nodup {t : List (Str × α)} {k : Str} {v : α} (h : (t.map (·.1)).Nodup) : ((putS t k v).map (·.1)).Nodup := by
  rw [putS_keys]
  split
  · exact h
  · rename_i hk
    rw [List.nodup_append]
    exact ⟨h, by simp, fun a ha b hb e => hk (by rw [← List.mem_singleton.mp hb, ← e]; exact ha)⟩
end
section
variable {K : PySem.W.Frag} {D : Hp} {v : V} {zs : List Str} {a : Addr}
theorem dp_ST (h : Dp K D v (.tuple (dSs zs))) : ∃ a, v = .ref a ∧ SqT K D a (zs.map V.str) := by
  obtain ⟨a, xs, e, hs, ha⟩ := dp_tuple h
  rw [dpl_strs ha] at hs
  exact ⟨a, e, hs⟩
theorem dp_ofST (h : SqT K D a (zs.map V.str)) : Dp K D (.ref a) (.tuple (dSs zs)) := .tup h dpl_of_strs
end
theorem flat_strs {zs : List Str} : (zs.map V.str).all flatV = true := by
  rw [List.all_map]
  exact List.all_eq_true.mpr fun _ _ => rfl
/-! ### {k: v, ..} -/
section
variable {σ : L2.St} {H : Hp}
theorem s_disp {trs : List (TE × TE)} {Q : VK} (q : ∀ p, H p = none → tPairs trs σ (upd H p (.dK [])) fun ps H2 => H2 p = some (.dK []) ∧ ∃ kvs : List (Key × V), ps = kvs.map (fun kv => (kV kv.1, kv.2)) ∧ kvs.length ≤ 15 ∧ Q (.ref p) (upd H2 p (.dK (mergeK [] kvs)))) : tDisp trs σ H Q := q
theorem s_pnil {Q : List (V × V) → Hp → Prop} (q : Q [] H) : tPairs [] σ H Q := q
theorem s_pcons {tk tv : TE} {r : List (TE × TE)} {Q : List (V × V) → Hp → Prop} (q : tk σ H fun x H1 => tv σ H1 fun y H2 => tPairs r σ H2 fun ps H3 => Q ((x, y) :: ps) H3) : tPairs ((tk, tv) :: r) σ H Q := q
end
/-! ### texts cut and joined -/
theorem sum_len {c : Nat} : ∀ {zs : List Str}, (∀ z ∈ zs, z.length ≤ c) → (zs.map (·.length)).sum ≤ zs.length * c
  | [], _ => by simp
  | z :: zs, h => by
    have h1 := h z (List.mem_cons_self ..)
    have h2 := sum_len fun y hy => h y (List.mem_cons_of_mem _ hy)
    rw [List.map_cons, List.sum_cons, List.length_cons, Nat.add_mul]
    omega
theorem join_len {c : Nat} {y : Str} {zs : List Str} (h : ∀ z ∈ zs, z.length ≤ c) : (Txt.join y zs).length ≤ zs.length * c + zs.length * y.length := by
  rw [TL.join_eq]
  exact Nat.le_trans (StrLaws.join_length_le y zs) (Nat.add_le_add_right (sum_len h) _)
/-! ### sorted pairs (len(word), word) -/
def kH (H : Hp) : V → IS
  | .ref a => match H a with
    | some (.tup [.int n, .str z]) => (n, z)
    | _ => (0, "")
  | _ => (0, "")
theorem kH_at {H : Hp} {t : Addr} {n : Int} {z : Str} (h : H t = some (.tup [.int n, .str z])) : kH H (.ref t) = (n, z) := by
  show (match H t with
    | some (.tup [.int n, .str z]) => (n, z)
    | _ => (0, "")) = (n, z)
  rw [h]
theorem KysOf.map {H : Hp} {zs : List Str} {xs : List V} (h : KysOf H kS zs xs) : xs.map (fun v => (kH H v).2) = zs := by
  refine List.ext_getElem? fun i => ?_
  rw [List.getElem?_map]
  by_cases hi : i < zs.length
  · obtain ⟨t, h1, h2⟩ := h.is_ i zs[i] (List.getElem?_eq_getElem hi)
    rw [h1, List.getElem?_eq_getElem hi]
    show some (kH H (.ref t)).2 = _
    rw [kH_at h2]
  · rw [List.getElem?_eq_none (by rw [h.len]; omega), List.getElem?_eq_none (by omega)]
    rfl
theorem KysOf.mem {H : Hp} {zs : List Str} {xs : List V} (h : KysOf H kS zs xs) : ∀ v ∈ xs, ∃ t z, v = .ref t ∧ H t = some (.tup [.int z.length, .str z]) := by
  intro v hv
  obtain ⟨i, hi⟩ := List.mem_iff_getElem?.mp hv
  have hl := (List.getElem?_eq_some_iff.mp hi).1
  rw [h.len] at hl
  obtain ⟨t, h1, h2⟩ := h.is_ i zs[i] (List.getElem?_eq_getElem hl)
  rw [h1] at hi
  cases hi
  exact ⟨t, _, rfl, h2⟩
theorem KysOf.of {H : Hp} : ∀ {xs : List V}, (∀ v ∈ xs, ∃ t z, v = .ref t ∧ H t = some (.tup [.int z.length, .str z])) → KysOf H kS (xs.map fun v => (kH H v).2) xs
  | xs, h => ⟨by rw [List.length_map], fun i z hz => by
    rw [List.getElem?_map] at hz
    obtain ⟨v, hv, e⟩ := Option.map_eq_some_iff.mp hz
    obtain ⟨t, z', rfl, ht⟩ := h v (List.mem_of_getElem? hv)
    rw [kH_at ht] at e
    dsimp only at e
    subst e
    exact ⟨t, hv, ht⟩⟩
theorem s_sortW {K : PySem.W.Frag} {H : Hp} {Q : VK} {a : Addr} {zs : List Str} {xs : List V} (h : SqL K H a xs) (ky : KysOf H kS zs xs)
    (k : ∀ ys ws p, ws.Perm zs → UpE ws → KysOf H kS ws ys → H p = none → Q (.ref p) (upd H p (.lst ys))) : rSortIS K [.ref a] H Q := by
  refine ⟨a, xs, kH H, rfl, h, fun x hx => ?_, fun ys p hs hb np => ?_⟩
  · obtain ⟨t, z, rfl, ht⟩ := ky.mem x hx
    refine ⟨t, rfl, ?_⟩
    rw [kH_at ht]
    exact ht
  · have hm : ∀ v ∈ ys, ∃ t z, v = .ref t ∧ H t = some (.tup [.int z.length, .str z]) := fun v hv => ky.mem v (hb.perm.mem_iff.mp hv)
    refine k ys (ys.map fun v => (kH H v).2) p ?_ ?_ (KysOf.of hm) np
    · rw [← ky.map]
      exact hb.perm.map _
    · refine List.pairwise_map.mpr (List.Pairwise.imp_of_mem (fun {x y} hx hy h => ?_) hs)
      obtain ⟨t, z, rfl, ht⟩ := hm x hx
      obtain ⟨t', z', rfl, ht'⟩ := hm y hy
      have h' : ltIS (kH H (.ref t')) (kH H (.ref t)) = false := h
      rw [kH_at ht, kH_at ht'] at h' ⊢
      exact h'
/-! ### the small letters -/
theorem SM_at : ∀ i : Nat, i < 26 → SM.cps.toList[i]? = some (97 + i) := by decide +kernel
theorem SM_mem {c : Nat} (h1 : 97 ≤ c) (h2 : c < 123) : c ∈ SM.cps.toList := by
  have := SM_at (c - 97) (by omega)
  rw [show 97 + (c - 97) = c by omega] at this
  exact List.mem_of_getElem? this
theorem lt_one {c d : Nat} (h : c < d) : ([c] : List Nat) < [d] := List.Lex.rel h
theorem okFrom_snoc {c d : Nat} (hd : d ∈ SM.cps.toList) (hc : c < d) : ∀ {l : List Nat} {b : List Nat}, okFrom b (l ++ [c]) = true → okFrom b (l ++ [c] ++ [d]) = true
  | [], b, h => by
    have h : okFrom b [c] = true := h
    show okFrom b (c :: [d]) = true
    rw [okFrom_cons] at h ⊢
    split at h
    · cases h
    · rename_i e
      rw [if_neg e, okFrom_cons, if_neg (fun z => z.elim (fun z => z hd) fun z => z (lt_one hc))]
      rfl
  | x :: l, b, h => by
    have h : okFrom b (x :: (l ++ [c])) = true := h
    show okFrom b (x :: (l ++ [c] ++ [d])) = true
    rw [okFrom_cons] at h ⊢
    split at h
    · cases h
    · rename_i e
      rw [if_neg e]
      exact okFrom_snoc hd hc h
theorem okFrom_one {c : Nat} (h : c ∈ SM.cps.toList) : okFrom [] [c] = true := by
  rw [okFrom_cons, if_neg (fun z => z.elim (fun z => z h) fun z => z (List.nil_lt_cons _ _))]
  rfl
end Y

namespace H91
open PySem PySem.Spec L2 He Y Hk91
local macro_rules | `(tactic| walk_at "rd1") => `(tactic| first
  | with_reducible refine s_seq ?_
  | with_reducible refine s_asg ?_
  | with_reducible refine s_gname ?_
  | ((with_reducible refine s_var (v := ?_) ?_ ?_); rotate_left; exact rfl)
  | with_reducible refine s_c ?_
  | with_reducible refine s_op ?_
  | with_reducible refine s_un ?_
  | with_reducible refine s_nil ?_
  | with_reducible refine s_cons ?_
  | with_reducible refine s_CB ?_
  | with_reducible refine s_ifS ?_
  | with_reducible refine s_test ?_
  | with_reducible refine s_B ?_
  | with_reducible refine s_xb ?_
  | with_reducible refine s_xi ?_
  | with_reducible refine s_xs ?_
  | with_reducible refine s_or ?_
  | with_reducible refine s_and ?_
  | with_reducible refine s_not ?_
  | with_reducible refine s_orV ?_
  | with_reducible refine s_andV ?_
  | with_reducible refine s_notV ?_
  | with_reducible refine s_ret ?_
  | with_reducible refine s_retN ?_
  | with_reducible refine s_next ?_
  | with_reducible refine s_drop ?_
  | with_reducible refine s_yes ?_
  | with_reducible refine s_for ?_
  | with_reducible refine s_lc ?_
  | with_reducible refine s_iStr ?_
  | with_reducible refine s_iList ?_
  | with_reducible refine s_iTup ?_
  | with_reducible refine s_iR1 ?_
  | with_reducible refine s_iR2 ?_
  | with_reducible refine s_iE ?_
  | with_reducible refine s_iET ?_
  | with_reducible refine s_iES ?_
  | with_reducible refine s_tup ?_
  | with_reducible refine s_lst ?_
  | with_reducible refine s_BM ?_
  | with_reducible refine s_BM0 ?_
  | with_reducible refine s_BMS ?_
  | with_reducible refine s_M1 ?_
  | with_reducible refine s_sl ?_
  | with_reducible refine s_noP ?_
  | with_reducible refine s_po ?_
  | with_reducible refine s_call ?_
  | with_reducible refine s_callS ?_
  | with_reducible refine s_make ?_
  | with_reducible refine s_makeS ?_
  | with_reducible refine s_methS ?_
  | with_reducible refine s_callO ?_
  | with_reducible refine s_dnew ?_
  | with_reducible refine s_dget ?_
  | with_reducible refine s_din ?_
  | with_reducible refine s_dnin ?_
  | with_reducible refine s_dput ?_
  | with_reducible refine s_dsetd ?_
  | with_reducible refine s_dget2 ?_
  | with_reducible refine s_fld ?_
  | with_reducible refine s_sFld ?_
  | with_reducible refine s_rz ?_
  | with_reducible refine s_asgS ?_
  | with_reducible refine s_gSub ?_
  | with_reducible refine s_ifE ?_
  | with_reducible refine s_add_i ?_
  | with_reducible refine s_sub ?_
  | with_reducible refine s_neg ?_
  | with_reducible refine s_eq_i ?_
  | with_reducible refine s_eq_s ?_
  | with_reducible refine s_ne_i ?_
  | with_reducible refine s_ne_s ?_
  | with_reducible refine s_lt_i ?_
  | with_reducible refine s_le_i ?_
  | with_reducible refine s_gt_i ?_
  | with_reducible refine s_ge_i ?_
  | with_reducible refine s_lt_s ?_
  | with_reducible refine s_le_s ?_
  | with_reducible refine s_gt_s ?_
  | with_reducible refine s_ge_s ?_
  | with_reducible refine s_in_c ?_
  | with_reducible refine s_ni_c ?_
  | with_reducible refine s_isN ?_
  | with_reducible refine s_noN ?_
  | with_reducible refine s_abs ?_
  | with_reducible refine s_min2 ?_
  | with_reducible refine s_max2 ?_
  | with_reducible refine s_int_i ?_
  | ((with_reducible refine s_len_s ?_ ?_); assumption)
  | ((with_reducible refine s_len_l (xs := ?_) ?_ ?_); rotate_left; assumption)
  | ((with_reducible refine s_len_t (xs := ?_) ?_ ?_); rotate_left; assumption)
  | with_reducible refine s_pair upd_same ?_
  | with_reducible refine s_callS ?_
  | with_reducible refine s_sortK ?_
  | with_reducible refine s_disp ?_
  | with_reducible refine s_pcons ?_
  | with_reducible refine s_pnil ?_
  | ((with_reducible refine s_ix_t (by assumption) (by first | exact atI_0 | exact atI_i (j := 1) rfl rfl | exact atI_i (j := 2) rfl rfl | exact atI_i (j := 3) rfl rfl) ?_))
  | with_reducible refine jtT ?_
  | with_reducible refine jtF ?_
  | with_reducible refine jtNT ?_
  | with_reducible refine jtNF ?_
  | dsimp only)
local macro_rules | `(tactic| walk_at "rd") => `(tactic| repeat (walk_at "rd1"))

section
variable {P : Program} {w : World} {K : PySem.W.Frag} {mg : Str → Option Value} {base : Heap}
theorem S_BadText : IniScope ["self", "line"] ["self", "line"] (i_BadText).scope := ⟨rfl, rfl, rfl, by decide, rfl, by decide +kernel, by decide +kernel, by decide +kernel, by decide +kernel, by decide +kernel⟩
theorem z_BadText (T : Txt P w K mg) : Rz P w K mg base "BadText" (ga K "BadText") ["line"] := by
  refine rz_of T.i_BadText T.g_BadText T.e_BadText.o S_BadText rfl rfl (by decide) (fun env => ⟨_, rfl⟩) rfl (fun _ _ _ _ _ _ _ us hl => match us, hl with | [_, _], _ => rfl) ?_
  intro kV doc pm an cdv ct cc A outer s H a ws Q E hl ha q
  obtain ⟨w1, rfl⟩ : ∃ w1, ws = [w1] := by
    match ws, hl with
    | [w1], _ => exact ⟨w1, rfl⟩
  refine ⟨_, pss_one (ps_ost (pv 0) (pv 1)), ?_⟩
  exact ⟨_, rfl, _, rfl, a, _, rfl, T.e_BadText.o, T.no_BadText_line, .inl ⟨ha, fun dx h1 h2 => q dx h1 h2⟩⟩
theorem S_BadWord : IniScope ["self", "word", "place"] ["self", "word", "place"] (i_BadWord).scope := ⟨rfl, rfl, rfl, by decide, rfl, by decide +kernel, by decide +kernel, by decide +kernel, by decide +kernel, by decide +kernel⟩
theorem z_BadWord (T : Txt P w K mg) : Rz P w K mg base "BadWord" (ga K "BadWord") ["word", "place"] := by
  refine rz_of T.i_BadWord T.g_BadWord T.e_BadWord.o S_BadWord rfl rfl (by decide) (fun env => ⟨_, rfl⟩) rfl (fun _ _ _ _ _ _ _ us hl => match us, hl with | [_, _, _], _ => rfl) ?_
  intro kV doc pm an cdv ct cc A outer s H a ws Q E hl ha q
  obtain ⟨w1, w2, rfl⟩ : ∃ w1 w2, ws = [w1, w2] := by
    match ws, hl with
    | [w1, w2], _ => exact ⟨w1, w2, rfl⟩
  refine ⟨_, pss_cons (ps_ost (pv 0) (pv 1)) (pss_one (ps_ost (pv 0) (pv 2))), ?_⟩
  refine ⟨_, rfl, _, rfl, a, _, rfl, T.e_BadWord.o, T.no_BadWord_word, .inl ⟨ha, fun dx h1 h2 => ?_⟩⟩
  refine ⟨_, rfl, _, rfl, a, _, rfl, T.e_BadWord.o, T.no_BadWord_place, .inr ⟨dx, _, upd_same, (upd_ne h2).trans upd_same, by simp, ?_⟩⟩
  have e : upd (upd (upd H dx (exd dx [("word", w1)])) a (exo a (ga K "BadWord") (some dx))) dx (exd dx [("place", w2), ("word", w1)]) = upd (upd H dx (exd dx [("place", w2), ("word", w1)])) a (exo a (ga K "BadWord") (some dx)) := by
    funext b
    by_cases hb : b = dx
    · rw [hb, upd_same, upd_ne h2, upd_same]
    · rw [upd_ne hb]
      by_cases hc : b = a
      · rw [hc, upd_same, upd_same]
      · rw [upd_ne hc, upd_ne hc, upd_ne hb, upd_ne hb]
  show Q .non _
  rw [e]
  exact q dx h1 h2
theorem S_TooMany : IniScope ["self", "limit"] ["self", "limit"] (i_TooMany).scope := ⟨rfl, rfl, rfl, by decide, rfl, by decide +kernel, by decide +kernel, by decide +kernel, by decide +kernel, by decide +kernel⟩
theorem z_TooMany (T : Txt P w K mg) : Rz P w K mg base "TooMany" (ga K "TooMany") ["limit"] := by
  refine rz_of T.i_TooMany T.g_TooMany T.e_TooMany.o S_TooMany rfl rfl (by decide) (fun env => ⟨_, rfl⟩) rfl (fun _ _ _ _ _ _ _ us hl => match us, hl with | [_, _], _ => rfl) ?_
  intro kV doc pm an cdv ct cc A outer s H a ws Q E hl ha q
  obtain ⟨w1, rfl⟩ : ∃ w1, ws = [w1] := by
    match ws, hl with
    | [w1], _ => exact ⟨w1, rfl⟩
  refine ⟨_, pss_one (ps_ost (pv 0) (pv 1)), ?_⟩
  exact ⟨_, rfl, _, rfl, a, _, rfl, T.e_TooMany.o, T.no_TooMany_limit, .inl ⟨ha, fun dx h1 h2 => q dx h1 h2⟩⟩
theorem S_check_letters : FnScope ["letters", "before", "letter"] ["letters"] (d_check_letters).scope := ⟨rfl, rfl, rfl, by decide +kernel, rfl, by decide +kernel, by decide +kernel⟩
def sp_check_letters (K : PySem.W.Frag) : Sp := fun vs H Q E => ∃ s : Str, vs = [.str s] ∧ s.length ≤ sizeLine ∧ (okLetters s = true → Q .non H) ∧ (okLetters s = false → E (.ref (ga K "BadLetters")) none H)
theorem w_check_letters (T : Txt P w K mg) : Has P w K mg base 3 "check_letters" (sp_check_letters K) := by
  have S := S_check_letters
  refine has_of (k := 2) T.d_check_letters T.gd_check_letters S (fun _ _ _ _ _ _ us hl => match us, hl with | [_], _ => rfl) (fun vs H Q E h => ?_) (fun f cdv A outer s H vs Q E hr h => ?_)
  · obtain ⟨s, rfl, _⟩ := h
    rfl
  · obtain ⟨z, rfl, hz, q1, q2⟩ := h
    refine ⟨_, (pss_cons (ps_if (PW.pt (pw_or (pt_cmpR c_lt (pe_callB (bK_len K) (by rfl) T.b_len (by decide +kernel) (pa_cons (pv 0) pa_nil)) pe_int (nomark _)) (pw_or1 (pt_cmpR c_gt (pe_callB (bK_len K) (by rfl) T.b_len (by decide +kernel) (pa_cons (pv 0) pa_nil)) (pe_gI rfl T.c_MOST_KINDS_OF_LETTERS) (nomark _)))))
      (pss_one (ps_raise rfl (takes_of rfl rfl rfl rfl) (pmk_own PySem.F.excBase_ValueError T.x_BadLetters T.g_BadLetters T.k_BadLetters (raises_own T.s_BadLetters T.t_BadLetters) rfl)))
      pss_nil)
    (pss_cons (ps_set (i := 1) S.nd rfl (Or.inl rfl) pe_str)
    (pss_one (ps_for (passes_of rfl) rfl (pi_str (pv 0)) (pg_name (i := 2) S.nd rfl (Or.inl rfl))
      (pss_cons (ps_if (PW.pt (pw_or (pt_cmpR (cK_ni K) (pv 2) (pe_gS rfl T.c_SMALL) rfl) (pw_or1 (pt_cmpR c_le (pv 2) (pv 1) (nomark _)))))
      (pss_one (ps_raise rfl (takes_of rfl rfl rfl rfl) (pmk_own PySem.F.excBase_ValueError T.x_BadLetters T.g_BadLetters T.k_BadLetters (raises_own T.s_BadLetters T.t_BadLetters) rfl)))
      pss_nil)
    (pss_one (ps_set (i := 1) S.nd rfl (Or.inl rfl) (pv 2)))))))), ?_⟩
    walk_at "rd"
    refine jtD (fun e => q2 ?_) (fun e1 => ?_)
    · have e' : ¬ 1 ≤ z.length := by omega
      simp [okLetters, e']
    walk_at "rd"
    refine jtD (fun e => q2 ?_) (fun e2 => ?_)
    · have e' : ¬ z.length ≤ 4 := by omega
      simp [okLetters, e']
    have hk : okLetters z = okFrom [] z.cps.toList := by
      have a1 : 1 ≤ z.length := by omega
      have a2 : z.length ≤ 4 := by omega
      simp [okLetters, a1, a2]
    rw [hk] at q1 q2
    walk_at "rd"
    refine lp_it walk_str (fun i σ H' => H' = H ∧ ∃ b l, σ = [some (.str z), some (.str b), l] ∧ okFrom b.cps.toList (z.cps.toList.drop i) = okFrom [] z.cps.toList) ⟨rfl, "", none, rfl, rfl⟩ (fun _ _ _ _ _ => trivial) ?_ ?_
    · rintro i x σ H1 H2 hi ⟨rfl, b, l, rfl, eb⟩ ⟨rfl, c, hc, rfl⟩
      rw [str_get hc] at eb
      rw [okFrom_cons] at eb
      walk_at "rd"
      refine jtN (fun e => q2 ?_) (fun e1 => ?_)
      · rw [← eb, if_pos (.inl e)]
      walk_at "rd"
      refine jtN (fun e => q2 ?_) (fun e2 => ?_)
      · rw [← eb, if_pos (.inr e)]
      rw [if_neg (fun z => z.elim (fun z => z e1) fun z => z e2)] at eb
      walk_at "rd"
      exact ⟨rfl, _, _, rfl, eb⟩
    · rintro σ H1 ⟨rfl, b, l, rfl, eb⟩
      refine q1 ?_
      rw [← eb, List.drop_of_length_le (by simp)]
      rfl
theorem S_check_word : FnScope ["letters", "word", "place", "letter"] ["letters", "word"] (d_check_word).scope := ⟨rfl, rfl, rfl, by decide +kernel, rfl, by decide +kernel, by decide +kernel⟩
def sp_check_word (K : PySem.W.Frag) : Sp := fun vs H Q E => ∃ (D : Hp) (l s : Str), vs = [.str l, .str s] ∧ s.length ≤ sizeLine ∧ Same D H ∧ (badAt l.cps.toList 0 s.cps.toList = none → ∀ D' H', Gr No D H D' H' → Q .non H') ∧
  (∀ k, badAt l.cps.toList 0 s.cps.toList = some k → ∀ D' H' d, Gr No D H D' H' → H' d = none → E (.ref (ga K "BadWord")) (some d) (upd H' d (.xd [("place", .int (k : Nat)), ("word", .str s)])))
theorem w_check_word (T : Txt P w K mg) : Has P w K mg base 3 "check_word" (sp_check_word K) := by
  have S := S_check_word
  refine has_of (k := 2) T.d_check_word T.gd_check_word S (fun _ _ _ _ _ _ us hl => match us, hl with | [_, _], _ => rfl) (fun vs H Q E h => ?_) (fun f cdv A outer s H vs Q E hr h => ?_)
  · obtain ⟨D, l, s, rfl, _⟩ := h
    rfl
  · obtain ⟨D, l, z, rfl, hz, sm, q1, q2⟩ := h
    refine ⟨_, (pss_one (ps_for (passes_of rfl) rfl (pi_enumS (by rfl) T.b_enumerate (pa_cons (pv 1) pa_nil)) (pgK_tup K (n := 2) rfl (pgs_cons (pg_name (i := 2) S.nd rfl (Or.inl rfl)) (pgs_cons (pg_name (i := 3) S.nd rfl (Or.inl rfl)) pgs_nil)))
      (pss_one (ps_if (pt_cmpR (cK_ni K) (pv 3) (pv 0) rfl)
      (pss_one (ps_raise rfl (takes_of rfl rfl rfl rfl) (pmk_rz (z_BadWord T) (hr.mono (by decide)) rfl (pa_cons (pv 1) (pa_cons (pv 2) pa_nil)))))
      pss_nil)))), ?_⟩
    walk_at "rd"
    refine ⟨z, rfl, lp_it walk_enumS (fun i σ H' => ∃ D' o2 o3, Gr No D H D' H' ∧ σ = [some (.str l), some (.str z), o2, o3] ∧ badAt l.cps.toList i (z.cps.toList.drop i) = badAt l.cps.toList 0 z.cps.toList) ⟨D, _, _, Gr.refl sm, rfl, rfl⟩ (fun _ _ _ _ _ => trivial) ?_ ?_⟩
    · rintro i x σ H1 H2 hi ⟨D1, o2, o3, g, rfl, eb⟩ ⟨t, x1, x2, rfl, nt, rfl, e1, e2⟩
      cases e1
      have e2 : z.cps[i]?.map (fun c => V.str ⟨#[c]⟩) = some x2 := e2
      obtain ⟨c, hc, rfl⟩ := Option.map_eq_some_iff.mp e2
      rw [str_get hc] at eb
      have eb' : (if c ∈ l.cps.toList then badAt l.cps.toList (i + 1) (z.cps.toList.drop (i + 1)) else some i) = badAt l.cps.toList 0 z.cps.toList := eb
      have g2 := g.lay (o := .tup [.int i, .str ⟨#[c]⟩]) nt
      walk_at "rd"
      refine jtN (fun e => ?_) (fun e => ?_)
      · rw [if_neg e] at eb'
        walk_at "rd"
        exact ⟨rfl, by simp, fun d nd => q2 i eb'.symm D1 _ d g2 nd⟩
      · rw [if_pos e] at eb'
        walk_at "rd"
        exact ⟨D1, _, _, g2, rfl, eb'⟩
    · rintro σ H1 ⟨D1, o2, o3, g, rfl, eb⟩
      rw [List.drop_of_length_le (by simp)] at eb
      exact q1 eb.symm _ _ g
theorem S_order_key : FnScope ["word"] ["word"] (d_order_key).scope := ⟨rfl, rfl, rfl, by decide +kernel, rfl, by decide +kernel, by decide +kernel⟩
def sp_order_key : Sp := fun vs H Q E => ∃ z : Str, vs = [.str z] ∧ z.length ≤ sizeLine ∧ ∀ p, H p = none → Q (.ref p) (upd H p (.tup [.int z.length, .str z]))
theorem w_order_key (T : Txt P w K mg) : Has P w K mg base 1 "order_key" sp_order_key := by
  have S := S_order_key
  refine has_of (k := 0) T.d_order_key T.gd_order_key S (fun _ _ _ _ _ _ us hl => match us, hl with | [_], _ => rfl) (fun vs H Q E h => ?_) (fun f cdv A outer s H vs Q E hr h => ?_)
  · obtain ⟨z, rfl, _⟩ := h
    rfl
  · obtain ⟨z, rfl, hz, q⟩ := h
    refine ⟨_, (pss_one (ps_ret (pe_tup (pa_cons (pe_callB (bK_len K) (by rfl) T.b_len (by decide +kernel) (pa_cons (pv 0) pa_nil)) (pa_cons (pv 0) pa_nil))))), ?_⟩
    walk_at "rd"
    exact ⟨le1000 (by simp), q⟩
theorem k_order_key (T : Txt P w K mg) : HasK P w K mg base 1 "order_key" kS (fun z => z.length ≤ sizeLine) := has_key (w_order_key T) fun z H Q E hz h => ⟨z, rfl, hz, h⟩
theorem S_in_order : FnScope ["words", "found", "word"] ["words"] (d_in_order).scope := ⟨rfl, rfl, rfl, by decide +kernel, rfl, by decide +kernel, by decide +kernel⟩
def sp_in_order (K : PySem.W.Frag) : Sp := fun vs H Q E => ∃ (D : Hp) (a : Addr) (zs : List Str), vs = [.ref a] ∧ SqL K H a (zs.map V.str) ∧ zs.length ≤ 1000 ∧ (∀ z ∈ zs, z.length ≤ sizeLine) ∧ Same D H ∧
  ∀ D' H' p, Gr No D H D' H' → H p = none → D' p = none → H' p = some (.lst ((inO zs).map V.str)) → Q (.ref p) H'
theorem w_in_order (T : Txt P w K mg) : Has P w K mg base 4 "in_order" (sp_in_order K) := by
  have S := S_in_order
  have GK_order_key := k_order_key (base := base) T
  refine has_of (k := 3) T.d_in_order T.gd_in_order S (fun _ _ _ _ _ _ us hl => match us, hl with | [_], _ => rfl) (fun vs H Q E h => ?_) (fun f cdv A outer s H vs Q E hr h => ?_)
  · obtain ⟨D, a, zs, rfl, _⟩ := h
    rfl
  · obtain ⟨D, a, zs, rfl, ha, hl, hz, sm, q⟩ := h
    refine ⟨_, (pss_cons (ps_set (i := 1) S.nd rfl (Or.inl rfl) pe_dnewK)
    (pss_cons (ps_for (passes_of rfl) rfl (piK_list K (pv 0)) (pg_name (i := 2) S.nd rfl (Or.inl rfl))
      (pss_one (ps_dput (hu_of hr) (pv 1) (pv 2) pe_bl rfl)))
    (pss_one (ps_ret (pe_sortK K GK_order_key (hr.mono (by decide)) (by rfl) T.b_sorted (by rfl) (pa_cons (pe_callTy (call_list_dK rfl) (by rfl) T.b_list (by decide +kernel) (pa_cons (pv 1) pa_nil)) pa_nil)))))), ?_⟩
    walk_at "rd"
    intro fd nfd
    have g1 := (Gr.refl (m := No) sm).lay (o := .dK []) nfd
    have hDf := (Gr.refl (m := No) sm).free nfd
    walk_at "rd"
    refine ⟨a, rfl, ⟨_, g1.all.seq ha⟩, lp_it walk_list (fun i σ H' => ∃ kvs t o2, Gr No D H D H' ∧ H' fd = some (.dK kvs) ∧ KvR (α := Bool) (fun v b => v = .bl b) kvs t ∧ (t.map (·.1)).Nodup ∧ (∀ x, x ∈ t.map (·.1) ↔ x ∈ zs.take i) ∧ t.length ≤ i ∧ σ = [some (.ref a), some (.ref fd), o2]) ⟨[], [], none, g1, upd_same, .nil, by simp, fun x => by simp, Nat.le_refl _, rfl⟩ (fun i σ H' _ ⟨_, _, _, g, _⟩ => g.all.seq ha) ?_ ?_⟩
    · rintro i x σ H1 H2 hi ⟨kvs, t, o2, g, hk, hkv, hn, hm, htl, rfl⟩ ⟨rfl, ex⟩
      rw [List.getElem?_map] at ex
      obtain ⟨z, hz1, rfl⟩ := Option.map_eq_some_iff.mp ex
      have hkl := hkv.len
      have hil := (List.getElem?_eq_some_iff.mp hz1).1
      walk_at "rd"
      refine ⟨fd, _, rfl, dputS hk (ltBig (by omega)), ?_⟩
      refine ⟨_, _, _, g.put hDf (.inl nfd), upd_same, KvR.put (R := fun v b => v = .bl b) (y := true) rfl hkv, putS_nodup hn, fun y => ?_, Nat.le_trans (putS_len _ _ _) (by omega), rfl⟩
      rw [putS_mem, hm, List.take_add_one, hz1, List.mem_append]
      simp only [Option.toList_some, List.mem_singleton]
      exact ⟨fun h => h.elim .inr .inl, fun h => h.elim .inr .inl⟩
    · rintro σ H1 ⟨kvs, t, o2, g, hk, hkv, hn, hm, htl, rfl⟩
      rw [List.length_map, List.take_length] at hm
      walk_at "rd"
      refine s_listD hk fun p np => ?_
      have hpf : p ≠ fd := fun e => by rw [e, hk] at np; cases np
      have g2 := g.lay (o := .lst (kvs.map fun kv => kV kv.1)) np
      refine ⟨p, t.map (·.1), rfl, sql (by rw [upd_same, hkv.keys]), fun z h => hz z ((hm z).mp h), fun H' r ys s' nr hr' hs hp => ?_⟩
      have g3 := g2.trans (Gr.ofSame g2.sub s')
      have e : ys = inO zs := inO_uniq (upE_up (srt_up hs) (hp.nodup_iff.mpr hn)) fun x => (hp.mem_iff).trans (hm x)
      rw [e] at hr'
      exact q D H' r g3 (g2.kept _ nr) (g2.free nr) hr'
theorem S_check_words : FnScope ["letters", "words", "word"] ["letters", "words"] (d_check_words).scope := ⟨rfl, rfl, rfl, by decide +kernel, rfl, by decide +kernel, by decide +kernel⟩
def sp_check_words (K : PySem.W.Frag) : Sp := fun vs H Q E => ∃ (D : Hp) (l : Str) (a : Addr) (zs : List Str), vs = [.str l, .ref a] ∧ SqL K H a (zs.map V.str) ∧ zs.length ≤ 64 ∧ (∀ z ∈ zs, z.length ≤ 24 ∧ badAt l.cps.toList 0 z.cps.toList = none) ∧ Same D H ∧
  ∀ D' H', Gr No D H D' H' → Q .non H'
theorem w_check_words (T : Txt P w K mg) : Has P w K mg base 4 "check_words" (sp_check_words K) := by
  have S := S_check_words
  have G_check_word := w_check_word (base := base) T
  refine has_of (k := 3) T.d_check_words T.gd_check_words S (fun _ _ _ _ _ _ us hl => match us, hl with | [_, _], _ => rfl) (fun vs H Q E h => ?_) (fun f cdv A outer s H vs Q E hr h => ?_)
  · obtain ⟨D, l, a, zs, rfl, _⟩ := h
    rfl
  · obtain ⟨D, l, a, zs, rfl, ha, hl, hz, sm, q⟩ := h
    refine ⟨_, (pss_cons (ps_if (pt_cmpR c_gt (pe_callB (bK_len K) (by rfl) T.b_len (by decide +kernel) (pa_cons (pv 1) pa_nil)) (pe_gI rfl T.c_MOST_WORDS) (nomark _))
      (pss_one ps_dead)
      pss_nil)
    (pss_one (ps_for (passes_of rfl) rfl (piK_list K (pv 1)) (pg_name (i := 2) S.nd rfl (Or.inl rfl))
      (pss_cons (ps_if (pt_cmpR c_gt (pe_callB (bK_len K) (by rfl) T.b_len (by decide +kernel) (pa_cons (pv 2) pa_nil)) (pe_gI rfl T.c_MOST_LETTERS) (nomark _))
      (pss_one ps_dead)
      pss_nil)
    (pss_one (ps_expr (pe_has G_check_word (hr.mono (by decide)) (takes_of rfl rfl rfl rfl) rfl (pa_cons (pv 0) (pa_cons (pv 2) pa_nil))))))))), ?_⟩
    walk_at "rd"
    refine jtD (fun e => ?_) (fun _ => ?_)
    · rw [List.length_map] at e
      omega
    walk_at "rd"
    refine ⟨a, rfl, ⟨_, ha⟩, lp_it walk_list (fun i σ H' => ∃ D' o2, Gr No D H D' H' ∧ σ = [some (.str l), some (.ref a), o2]) ⟨D, none, Gr.refl sm, rfl⟩ (fun i σ H' _ ⟨_, _, g, _⟩ => g.all.seq ha) ?_ ?_⟩
    · rintro i x σ H1 H2 hi ⟨D1, o2, g, rfl⟩ ⟨rfl, ex⟩
      rw [List.getElem?_map] at ex
      obtain ⟨z, hz1, rfl⟩ := Option.map_eq_some_iff.mp ex
      obtain ⟨h1, h2⟩ := hz z (List.mem_of_getElem? hz1)
      have h3 := le1000 (Nat.le_trans h1 (by decide) : z.length ≤ 1000)
      walk_at "rd"
      refine jtD (fun e => ?_) (fun _ => ?_)
      · omega
      walk_at "rd"
      refine ⟨D1, l, z, rfl, h3, g.sub, fun _ D' H' g' => ⟨D', _, g.trans g', rfl⟩, fun k e => ?_⟩
      rw [h2] at e
      cases e
    · rintro σ H1 ⟨D1, o2, g, rfl⟩
      exact q D1 H1 g
/-! ### a sample -/
structure IsS (K : PySem.W.Frag) (D : Hp) (v : V) (s : Str) (ys ns : List Str) : Prop where
  ex : ∃ (a dx : Addr) (p q : V), v = .ref a ∧ D a = some (.ins (ga K "Sample") dx [("letters", .str s), ("yes", p), ("no", q)]) ∧ Dp K D p (.tuple (dSs ys)) ∧ Dp K D q (.tuple (dSs ns))
/-- words that a sample may hold -/
structure Wds (l : Str) (zs : List Str) : Prop where
  few : zs.length ≤ 64
  ok : ∀ z ∈ zs, z.length ≤ 24 ∧ badAt l.cps.toList 0 z.cps.toList = none
theorem Wds.lens {l : Str} {zs : List Str} (h : Wds l zs) : zs.length ≤ 1000 ∧ ∀ z ∈ zs, z.length ≤ sizeLine :=
  ⟨Nat.le_trans h.few (by decide), fun z hz => le1000 (Nat.le_trans (h.ok z hz).1 (by decide))⟩
theorem S_Sample_init : FnScope ["self", "letters", "yes", "no"] ["self", "letters", "yes", "no"] (d_Sample_init).scope := ⟨rfl, rfl, rfl, by decide +kernel, rfl, by decide +kernel, by decide +kernel⟩
def sp_Sample (K : PySem.W.Frag) : Sp := fun vs H Q E => ∃ (D : Hp) (x dx : Addr) (s : Str) (a b : Addr) (ys ns : List Str), vs = [.ref x, .str s, .ref a, .ref b] ∧ okLetters s = true ∧ s.length ≤ 4 ∧ Same D H ∧ D x = none ∧ H x = some (.ins (ga K "Sample") dx []) ∧
  SqL K H a (ys.map V.str) ∧ SqL K H b (ns.map V.str) ∧ a ≠ x ∧ b ≠ x ∧ Wds s ys ∧ Wds s ns ∧ ∀ D' H' p q, Gr (· = x) D H D' H' → D' x = none → H' x = some (.ins (ga K "Sample") dx [("letters", .str s), ("yes", p), ("no", q)]) → Dp K D' p (.tuple (dSs (inO ys))) → Dp K D' q (.tuple (dSs (inO ns))) → Q .non H'
theorem w_Sample (T : Txt P w K mg) : HasC P w K mg base 5 "Sample" (ga K "Sample") (sp_Sample K) := by
  have S := S_Sample_init
  have G_check_letters := w_check_letters (base := base) T
  have G_check_words := w_check_words (base := base) T
  have G_in_order := w_in_order (base := base) T
  refine hasC_of (k := 4) T.d_Sample_init T.g_Sample T.mk_Sample S (fun _ _ _ _ _ _ us hl => match us, hl with | [_, _, _, _], _ => rfl) (fun vs H Q E h => ?_) (fun f cdv A outer s H vs Q E hr h => ?_)
  · obtain ⟨D, x, dx, s, a, b, ys, ns, rfl, _⟩ := h
    rfl
  · obtain ⟨D, x, dx, z, a, b, ys, ns, rfl, ok, hz4, sm, hDx, hHx, ha, hb, nax, nbx, wy, wn, q⟩ := h
    have hz := le1000 (Nat.le_trans hz4 (by decide) : z.length ≤ 1000)
    have seqx : ∀ {H' : Hp} {c : Addr} {us : List V}, c ≠ x → (∀ e o, e ≠ x → H e = some o → H' e = some o) → SqL K H c us → SqL K H' c us := fun hc k h => by
      rcases h with (h | ⟨o, h⟩) | h
      · exact .inl (.inl (k _ _ hc h))
      · exact .inl (.inr ⟨o, k _ _ hc h⟩)
      · exact .inr h
    refine ⟨_, (pss_cons (ps_expr (pe_has G_check_letters (hr.mono (by decide)) (takes_of rfl rfl rfl rfl) rfl (pa_cons (pv 1) pa_nil)))
    (pss_cons (ps_expr (pe_has G_check_words (hr.mono (by decide)) (takes_of rfl rfl rfl rfl) rfl (pa_cons (pv 1) (pa_cons (pv 2) pa_nil))))
    (pss_cons (ps_expr (pe_has G_check_words (hr.mono (by decide)) (takes_of rfl rfl rfl rfl) rfl (pa_cons (pv 1) (pa_cons (pv 3) pa_nil))))
    (pss_cons (psK_fld K (pv 0) (pv 1) rfl)
    (pss_cons (psK_fld K (pv 0) (pe_callTy (bK_tuple K) (by rfl) T.b_tuple (by decide +kernel) (pa_cons (pe_has G_in_order (hr.mono (by decide)) (takes_of rfl rfl rfl rfl) rfl (pa_cons (pv 2) pa_nil)) pa_nil)) rfl)
    (pss_one (psK_fld K (pv 0) (pe_callTy (bK_tuple K) (by rfl) T.b_tuple (by decide +kernel) (pa_cons (pe_has G_in_order (hr.mono (by decide)) (takes_of rfl rfl rfl rfl) rfl (pa_cons (pv 3) pa_nil)) pa_nil)) rfl))))))), ?_⟩
    walk_at "rd"
    refine ⟨z, rfl, hz, fun _ => ?_, fun e => by rw [ok] at e; cases e⟩
    walk_at "rd"
    refine ⟨D, z, a, ys, rfl, ha, wy.few, wy.ok, sm, fun D1 H1 g1 => ?_⟩
    walk_at "rd"
    refine ⟨D1, z, b, ns, rfl, g1.all.seq hb, wn.few, wn.ok, g1.sub, fun D2 H2 g2 => ?_⟩
    have gA := g1.trans g2
    walk_at "rd"
    refine ⟨x, _, _, _, rfl, gA.same x _ (fun z => z) hHx, T.cl_Sample, T.na_Sample_letters, of_decide_eq_true rfl, ?_⟩
    have g3 := (gA.weak (m' := (· = x)) (fun _ z => z.elim)).put (o := .ins (ga K "Sample") dx [("letters", .str z)]) (gA.stay hDx hHx) (.inr rfl)
    have hx3 : (upd H2 x (.ins (ga K "Sample") dx [("letters", .str z)])) x = _ := upd_same
    have hD3 := gA.stay hDx hHx
    walk_at "rd"
    refine ⟨D2, a, ys, rfl, seqx nax (fun e o hne h => g3.same e o hne h) ha, wy.lens.1, wy.lens.2, g3.sub, fun D4 H4 p4 g4 np4 nd4 hp4 => ?_⟩
    walk_at "rd"
    refine s_tup_l (sql hp4) fun p5 np5 => ?_
    have gB := (g3.trans g4.no).ice (o := .tup ((inO ys).map V.str)) np5
    have g5 := (g4.ice (o := .tup ((inO ys).map V.str)) np5)
    have hx5 := g5.same x _ (fun z => z) hx3
    have hD5 := g5.stay hD3 hx3
    have dY : Dp K (upd D4 p5 (.tup ((inO ys).map V.str))) (.ref p5) (.tuple (dSs (inO ys))) := dp_ofST (sqt upd_same)
    revert gB hx5 hD5 dY
    generalize (upd D4 p5 (.tup ((inO ys).map V.str))) = D5
    generalize (upd H4 p5 (.tup ((inO ys).map V.str))) = H5
    intro gB hx5 hD5 dY
    walk_at "rd"
    refine ⟨x, _, _, _, rfl, hx5, T.cl_Sample, T.na_Sample_yes, of_decide_eq_true rfl, ?_⟩
    have g6 := gB.put (o := .ins (ga K "Sample") dx [("letters", .str z), ("yes", .ref p5)]) hD5 (.inr rfl)
    have hx6 : (upd H5 x (.ins (ga K "Sample") dx [("letters", .str z), ("yes", .ref p5)])) x = _ := upd_same
    walk_at "rd"
    refine ⟨D5, b, ns, rfl, seqx nbx (fun e o hne h => g6.same e o hne h) hb, wn.lens.1, wn.lens.2, g6.sub, fun D7 H7 p7 g7 np7 nd7 hp7 => ?_⟩
    walk_at "rd"
    refine s_tup_l (sql hp7) fun p8 np8 => ?_
    have gC := (g6.trans g7.no).ice (o := .tup ((inO ns).map V.str)) np8
    have g8 := (g7.ice (o := .tup ((inO ns).map V.str)) np8)
    have hx8 := g8.same x _ (fun z => z) hx6
    have hD8 := g8.stay hD5 hx6
    have dN : Dp K (upd D7 p8 (.tup ((inO ns).map V.str))) (.ref p8) (.tuple (dSs (inO ns))) := dp_ofST (sqt upd_same)
    walk_at "rd"
    refine ⟨x, _, _, _, rfl, hx8, T.cl_Sample, T.na_Sample_no, of_decide_eq_true rfl, ?_⟩
    exact q _ _ _ _ (gC.put hD8 (.inr rfl)) hD8 upd_same (dp_up g8 dY) dN
end
end H91

namespace H91
open PySem PySem.Spec L2 He Y Hk91
local macro_rules | `(tactic| walk_at "rd1") => `(tactic| first
  | with_reducible refine s_seq ?_
  | with_reducible refine s_asg ?_
  | with_reducible refine s_gname ?_
  | ((with_reducible refine s_var (v := ?_) ?_ ?_); rotate_left; exact rfl)
  | with_reducible refine s_c ?_
  | with_reducible refine s_op ?_
  | with_reducible refine s_un ?_
  | with_reducible refine s_nil ?_
  | with_reducible refine s_cons ?_
  | with_reducible refine s_CB ?_
  | with_reducible refine s_ifS ?_
  | with_reducible refine s_test ?_
  | with_reducible refine s_B ?_
  | with_reducible refine s_xb ?_
  | with_reducible refine s_xi ?_
  | with_reducible refine s_xs ?_
  | with_reducible refine s_or ?_
  | with_reducible refine s_and ?_
  | with_reducible refine s_not ?_
  | with_reducible refine s_orV ?_
  | with_reducible refine s_andV ?_
  | with_reducible refine s_notV ?_
  | with_reducible refine s_ret ?_
  | with_reducible refine s_retN ?_
  | with_reducible refine s_next ?_
  | with_reducible refine s_drop ?_
  | with_reducible refine s_yes ?_
  | with_reducible refine s_for ?_
  | with_reducible refine s_lc ?_
  | with_reducible refine s_iStr ?_
  | with_reducible refine s_iList ?_
  | with_reducible refine s_iTup ?_
  | with_reducible refine s_iR1 ?_
  | with_reducible refine s_iR2 ?_
  | with_reducible refine s_iE ?_
  | with_reducible refine s_iET ?_
  | with_reducible refine s_iES ?_
  | with_reducible refine s_tup ?_
  | with_reducible refine s_lst ?_
  | with_reducible refine s_BM ?_
  | with_reducible refine s_BM0 ?_
  | with_reducible refine s_BMS ?_
  | with_reducible refine s_M1 ?_
  | with_reducible refine s_sl ?_
  | with_reducible refine s_noP ?_
  | with_reducible refine s_po ?_
  | with_reducible refine s_call ?_
  | with_reducible refine s_callS ?_
  | with_reducible refine s_make ?_
  | with_reducible refine s_makeS ?_
  | with_reducible refine s_methS ?_
  | with_reducible refine s_callO ?_
  | with_reducible refine s_dnew ?_
  | with_reducible refine s_dget ?_
  | with_reducible refine s_din ?_
  | with_reducible refine s_dnin ?_
  | with_reducible refine s_dput ?_
  | with_reducible refine s_dsetd ?_
  | with_reducible refine s_dget2 ?_
  | with_reducible refine s_fld ?_
  | with_reducible refine s_sFld ?_
  | with_reducible refine s_rz ?_
  | with_reducible refine s_asgS ?_
  | with_reducible refine s_gSub ?_
  | with_reducible refine s_ifE ?_
  | with_reducible refine s_add_i ?_
  | with_reducible refine s_sub ?_
  | with_reducible refine s_neg ?_
  | with_reducible refine s_eq_i ?_
  | with_reducible refine s_eq_s ?_
  | with_reducible refine s_ne_i ?_
  | with_reducible refine s_ne_s ?_
  | with_reducible refine s_lt_i ?_
  | with_reducible refine s_le_i ?_
  | with_reducible refine s_gt_i ?_
  | with_reducible refine s_ge_i ?_
  | with_reducible refine s_lt_s ?_
  | with_reducible refine s_le_s ?_
  | with_reducible refine s_gt_s ?_
  | with_reducible refine s_ge_s ?_
  | with_reducible refine s_in_c ?_
  | with_reducible refine s_ni_c ?_
  | with_reducible refine s_isN ?_
  | with_reducible refine s_noN ?_
  | with_reducible refine s_abs ?_
  | with_reducible refine s_min2 ?_
  | with_reducible refine s_max2 ?_
  | with_reducible refine s_int_i ?_
  | ((with_reducible refine s_len_s ?_ ?_); assumption)
  | ((with_reducible refine s_len_l (xs := ?_) ?_ ?_); rotate_left; assumption)
  | ((with_reducible refine s_len_t (xs := ?_) ?_ ?_); rotate_left; assumption)
  | with_reducible refine s_pair upd_same ?_
  | with_reducible refine s_callS ?_
  | with_reducible refine s_sortK ?_
  | with_reducible refine s_disp ?_
  | with_reducible refine s_pcons ?_
  | with_reducible refine s_pnil ?_
  | ((with_reducible refine s_ix_t (by assumption) (by first | exact atI_0 | exact atI_i (j := 1) rfl rfl | exact atI_i (j := 2) rfl rfl | exact atI_i (j := 3) rfl rfl) ?_))
  | with_reducible refine jtT ?_
  | with_reducible refine jtF ?_
  | with_reducible refine jtNT ?_
  | with_reducible refine jtNF ?_
  | dsimp only)
local macro_rules | `(tactic| walk_at "rd") => `(tactic| repeat (walk_at "rd1"))

/-! ### words as they are written -/
def wr (z : Str) : Str := if z = "" then "-" else z
def wordM (s p : Str) : Option Str := if p = "-" then some "" else if p = "" then none else if p.cps.toList.any (fun c => !decide (c ∈ s.cps.toList)) = true then none else some p
def oS : Option Str → V
  | none => .non
  | some z => .str z
theorem wr_len {z : Str} : (wr z).length ≤ z.length + 1 := by
  unfold wr
  split
  · show (1 : Nat) ≤ _
    omega
  · omega
def linesT (s : Str) (ys ns : List Str) : List Str := ([("sample " : Str) ++ s] ++ ys.map fun z => ("yes " : Str) ++ wr z) ++ ns.map fun z => ("no " : Str) ++ wr z
def textT (s : Str) (ys ns : List Str) : Str := Txt.join "\n" (linesT s ys ns)
section
variable {P : Program} {w : World} {K : PySem.W.Frag} {mg : Str → Option Value} {base : Heap}
theorem S_written : FnScope ["word"] ["word"] (d_written).scope := ⟨rfl, rfl, rfl, by decide +kernel, rfl, by decide +kernel, by decide +kernel⟩
def sp_written : Sp := fun vs H Q E => ∃ z : Str, vs = [.str z] ∧ Q (.str (wr z)) H
theorem w_written (T : Txt P w K mg) : Has P w K mg base 1 "written" sp_written := by
  have S := S_written
  refine has_of (k := 0) T.d_written T.gd_written S (fun _ _ _ _ _ _ us hl => match us, hl with | [_], _ => rfl) (fun vs H Q E h => ?_) (fun f cdv A outer s H vs Q E hr h => ?_)
  · obtain ⟨z, rfl, _⟩ := h
    rfl
  · obtain ⟨z, rfl, q⟩ := h
    refine ⟨_, (pss_cons (ps_if (pt_cmpR (cK_eq K hr.units) (pv 0) pe_str (nomark _))
      (pss_one (ps_ret pe_str))
      pss_nil)
    (pss_one (ps_ret (pv 0)))), ?_⟩
    unfold wr at q
    walk_at "rd"
    refine jtD (fun e => ?_) (fun e => ?_)
    · rw [if_pos e] at q
      walk_at "rd"
      exact q
    · rw [if_neg e] at q
      walk_at "rd"
      exact q
theorem S_word_of : FnScope ["letters", "part", "sign"] ["letters", "part"] (d_word_of).scope := ⟨rfl, rfl, rfl, by decide +kernel, rfl, by decide +kernel, by decide +kernel⟩
def sp_word_of (K : PySem.W.Frag) : Sp := fun vs H Q E => ∃ (D : Hp) (s z : Str), vs = [.str s, .str z] ∧ z.length ≤ sizeLine ∧ Same D H ∧ ∀ D' H', Gr No D H D' H' → Q (oS (wordM s z)) H'
theorem w_word_of (T : Txt P w K mg) : Has P w K mg base 3 "word_of" (sp_word_of K) := by
  have S := S_word_of
  refine has_of (k := 2) T.d_word_of T.gd_word_of S (fun _ _ _ _ _ _ us hl => match us, hl with | [_, _], _ => rfl) (fun vs H Q E h => ?_) (fun f cdv A outer s H vs Q E hr h => ?_)
  · obtain ⟨D, s, z, rfl, _⟩ := h
    rfl
  · obtain ⟨D, s, z, rfl, hz, sm, q⟩ := h
    refine ⟨_, (pss_cons (ps_if (pt_cmpR (cK_eq K hr.units) (pv 1) pe_str (nomark _))
      (pss_one (ps_ret pe_str))
      pss_nil)
    (pss_cons (ps_if (PW.pt (pw_or (pt_cmpR (cK_eq K hr.units) (pv 1) pe_str (nomark _)) (pw_or1 (pt_val (pe_callB (crK_any K rfl) (by rfl) T.b_any (by decide +kernel) (pa_cons (pe_lc (own := [("sign", 2)]) (by rfl) S.nd (pi_str (pv 1)) (blkOk_by (by rfl)) (fun _ _ _ _ _ => (pg_name (i := 2) S.nd rfl (Or.inl rfl))) (fun _ _ _ _ _ => pts_nil) (fun _ _ _ _ _ => (pe_cmpR (cK_ni K) (pv 2) (pv 0) rfl))) pa_nil))))))
      (pss_one (ps_ret pe_non))
      pss_nil)
    (pss_one (ps_ret (pv 1))))), ?_⟩
    walk_at "rd"
    refine jtD (fun e => ?_) (fun e1 => ?_)
    · have := q D H (Gr.refl sm)
      rw [wordM, if_pos e] at this
      walk_at "rd"
      exact this
    walk_at "rd"
    refine jtD (fun e => ?_) (fun e2 => ?_)
    · have := q D H (Gr.refl sm)
      rw [wordM, if_neg e1, if_pos e] at this
      walk_at "rd"
      exact this
    walk_at "rd"
    intro p np
    refine lq_map walk_str (z.cps.toList.map fun c => V.bl (!decide (c ∈ s.cps.toList))) (by simp) hz np (fun _ => trivial) ?_ ?_
    · rintro i x acc H' N hi ⟨rfl, c, hc, rfl⟩ hN hl
      walk_at "rd"
      refine ⟨rfl, ?_⟩
      walk_at "rd"
      refine lq_put hl (hN _ ?_)
      rw [List.getElem?_map, show z.cps.toList[i]? = some c by simpa using hc]
      rfl
    · have g1 := (Gr.refl (m := No) sm).lay (o := .lst (z.cps.toList.map fun c => V.bl (!decide (c ∈ s.cps.toList)))) np
      have q1 := q _ _ g1
      walk_at "rd"
      refine s_any (bs := z.cps.toList.map fun c => !decide (c ∈ s.cps.toList)) (sql (by rw [upd_same, List.map_map]; rfl)) ?_
      rw [List.any_map, show (id ∘ fun c => !decide (c ∈ s.cps.toList)) = (fun c => !decide (c ∈ s.cps.toList)) from rfl]
      walk_at "rd"
      refine jtB (fun e3 => ?_) (fun e3 => ?_)
      · rw [wordM, if_neg e1, if_neg e2, if_pos e3] at q1
        walk_at "rd"
        exact q1
      · rw [wordM, if_neg e1, if_neg e2, if_neg (by rw [e3]; exact Bool.false_ne_true)] at q1
        walk_at "rd"
        exact q1
theorem S_are_letters : FnScope ["text"] ["text"] (d_are_letters).scope := ⟨rfl, rfl, rfl, by decide +kernel, rfl, by decide +kernel, by decide +kernel⟩
def sp_are_letters : Sp := fun vs H Q E => ∃ (s : Str), vs = [.str s] ∧ s.length ≤ sizeLine ∧ Q (.bl (okLetters s)) H
theorem w_are_letters (T : Txt P w K mg) : Has P w K mg base 4 "are_letters" sp_are_letters := by
  have S := S_are_letters
  have G_check_letters := w_check_letters (base := base) T
  refine has_of (k := 3) T.d_are_letters T.gd_are_letters S (fun _ _ _ _ _ _ us hl => match us, hl with | [_], _ => rfl) (fun vs H Q E h => ?_) (fun f cdv A outer s H vs Q E hr h => ?_)
  · obtain ⟨s, rfl, _⟩ := h
    rfl
  · obtain ⟨z, rfl, hz, q⟩ := h
    refine ⟨_, (pss_cons (ps_try_only rfl rfl ⟨rfl, by decide, Or.inl T.g_BadLetters⟩ (takes_of rfl rfl rfl rfl)
      (fun W pn xe tk po => (pss_one (ps_expr (pe_has G_check_letters (hr.mono (by decide)) tk rfl (pa_cons (pv 0) pa_nil)))))
      (fun a oe cls d pn hz hf => (pss_one (ps_ret pe_bl))))
    (pss_one (ps_ret pe_bl))), ?_⟩
    walk_at "rd"
    refine ⟨z, rfl, hz, fun e => ?_, fun e => ⟨true, T.exm_BadLetters_BadLetters, fun _ a _ => ?_, fun z => by cases z⟩⟩
    · walk_at "rd"
      rw [e] at q
      exact q
    · walk_at "rd"
      rw [e] at q
      exact q
theorem S_sample_text : FnScope ["sample", "rows", "word"] ["sample"] (d_sample_text).scope := ⟨rfl, rfl, rfl, by decide +kernel, rfl, by decide +kernel, by decide +kernel⟩
def sp_sample_text (K : PySem.W.Frag) : Sp := fun vs H Q E => ∃ (D : Hp) (v : V) (s : Str) (ys ns : List Str), vs = [v] ∧ Same D H ∧ IsS K D v s ys ns ∧ s.length ≤ 4 ∧ ys.length ≤ 64 ∧ ns.length ≤ 64 ∧ (∀ z ∈ ys, z.length ≤ 24) ∧ (∀ z ∈ ns, z.length ≤ 24) ∧ ∀ D' H', Gr No D H D' H' → Q (.str (textT s ys ns)) H'
theorem w_sample_text (T : Txt P w K mg) : Has P w K mg base 3 "sample_text" (sp_sample_text K) := by
  have S := S_sample_text
  have G_written := w_written (base := base) T
  refine has_of (k := 2) T.d_sample_text T.gd_sample_text S (fun _ _ _ _ _ _ us hl => match us, hl with | [_], _ => rfl) (fun vs H Q E h => ?_) (fun f cdv A outer s H vs Q E hr h => ?_)
  · obtain ⟨D, v, s, ys, ns, rfl, _⟩ := h
    rfl
  · obtain ⟨D, v, z, ys, ns, rfl, sm, ⟨a, dx, p, q0, rfl, ha, dy, dn⟩, hz, hy, hn, hyl, hnl, q⟩ := h
    obtain ⟨pa, rfl, hp⟩ := dp_ST dy
    obtain ⟨qa, rfl, hq⟩ := dp_ST dn
    have e7 : ("sample " : Str).length = 7 := rfl
    have e4 : ("yes " : Str).length = 4 := rfl
    have e3 : ("no " : Str).length = 3 := rfl
    refine ⟨_, (pss_cons (ps_set (i := 1) S.nd rfl (Or.inl rfl) (pe_lst (pa_cons (pe_op (oK_add K) pe_str (peK_fld K (pv 0) rfl)) pa_nil)))
    (pss_cons (ps_set (i := 1) S.nd rfl (Or.inl rfl) (pe_op (oK_add K) (pv 1) (pe_lc (own := [("word", 2)]) (by rfl) S.nd (piK_tup K (peK_fld K (pv 0) rfl)) (blkOk_by (by rfl)) (fun _ _ _ _ _ => (pg_name (i := 2) S.nd rfl (Or.inl rfl))) (fun _ _ _ _ _ => pts_nil) (fun _ _ _ _ _ => (pe_op (oK_add K) pe_str (pe_has G_written (hr.mono (by decide)) takes0 rfl (pa_cons (pv 2) pa_nil)))))))
    (pss_one (ps_ret (pK_join K pe_str (pe_op (oK_add K) (pv 1) (pe_lc (own := [("word", 2)]) (by rfl) S.nd (piK_tup K (peK_fld K (pv 0) rfl)) (blkOk_by (by rfl)) (fun _ _ _ _ _ => (pg_name (i := 2) S.nd rfl (Or.inl rfl))) (fun _ _ _ _ _ => pts_nil) (fun _ _ _ _ _ => (pe_op (oK_add K) pe_str (pe_has G_written (hr.mono (by decide)) takes0 rfl (pa_cons (pv 2) pa_nil))))))))))), ?_⟩
    walk_at "rd"
    refine ⟨a, _, _, _, _, rfl, sm _ _ ha, T.cl_Sample, T.na_Sample_letters, rfl, ?_⟩
    walk_at "rd"
    refine s_add_s (by rw [e7]; exact le1000 (by omega)) ?_
    walk_at "rd"
    refine ⟨le1000 (by simp), fun r0 nr => ?_⟩
    have g1 := (Gr.refl (m := No) sm).lay (o := .lst [.str (("sample " : Str) ++ z)]) nr
    have h1 : (upd H r0 (.lst [.str (("sample " : Str) ++ z)])) r0 = some (.lst [.str (("sample " : Str) ++ z)]) := upd_same
    walk_at "rd"
    refine ⟨a, _, _, _, _, rfl, g1.same' _ _ ha, T.cl_Sample, T.na_Sample_yes, rfl, ?_⟩
    refine ⟨pa, rfl, ⟨_, sqt_up g1 hp⟩, fun p2 np2 => lq_map walk_tup (ys.map fun y => V.str (("yes " : Str) ++ wr y)) (by simp) (by rw [List.length_map]; exact le1000 (by omega)) np2 (fun acc => sqt_up (g1.lay np2) hp) ?_ ?_⟩
    · rintro i x acc H' N hi ⟨rfl, ex⟩ hN hlt
      rw [List.getElem?_map] at ex
      obtain ⟨y, hy1, rfl⟩ := Option.map_eq_some_iff.mp ex
      have hyl1 := hyl y (List.mem_of_getElem? hy1)
      have hw := wr_len (z := y)
      walk_at "rd"
      refine ⟨rfl, ?_⟩
      walk_at "rd"
      refine ⟨y, rfl, ?_⟩
      refine s_add_s (by rw [e4]; exact le1000 (by omega)) (lq_put hlt (hN _ ?_))
      rw [List.getElem?_map, hy1]
      rfl
    have g2 := g1.lay (o := .lst (ys.map fun y => V.str (("yes " : Str) ++ wr y))) np2
    have nrp : r0 ≠ p2 := fun e => by rw [← e, h1] at np2; cases np2
    refine s_add_l ((upd_ne nrp).trans h1) upd_same (by rw [List.length_map]; exact le1000 (by simp; omega)) fun p3 np3 => ?_
    have g3 := g2.lay (o := .lst ([.str (("sample " : Str) ++ z)] ++ ys.map fun y => V.str (("yes " : Str) ++ wr y))) np3
    walk_at "rd"
    have h3 : (upd (upd (upd H r0 (.lst [.str (("sample " : Str) ++ z)])) p2 (.lst (ys.map fun y => V.str (("yes " : Str) ++ wr y)))) p3 (.lst ([.str (("sample " : Str) ++ z)] ++ ys.map fun y => V.str (("yes " : Str) ++ wr y)))) p3 = some _ := upd_same
    revert g3 h3
    generalize (upd (upd (upd H r0 (.lst [.str (("sample " : Str) ++ z)])) p2 (.lst (ys.map fun y => V.str (("yes " : Str) ++ wr y)))) p3 (.lst ([.str (("sample " : Str) ++ z)] ++ ys.map fun y => V.str (("yes " : Str) ++ wr y)))) = H3
    intro g3 h3
    refine ⟨⟨_, rfl⟩, ?_⟩
    walk_at "rd"
    refine ⟨a, _, _, _, _, rfl, g3.same' _ _ ha, T.cl_Sample, T.na_Sample_no, rfl, ?_⟩
    refine ⟨qa, rfl, ⟨_, sqt_up g3 hq⟩, fun p4 np4 => lq_map walk_tup (ns.map fun y => V.str (("no " : Str) ++ wr y)) (by simp) (by rw [List.length_map]; exact le1000 (by omega)) np4 (fun acc => sqt_up (g3.lay np4) hq) ?_ ?_⟩
    · rintro i x acc H' N hi ⟨rfl, ex⟩ hN hlt
      rw [List.getElem?_map] at ex
      obtain ⟨y, hy1, rfl⟩ := Option.map_eq_some_iff.mp ex
      have hyl1 := hnl y (List.mem_of_getElem? hy1)
      have hw := wr_len (z := y)
      walk_at "rd"
      refine ⟨rfl, ?_⟩
      walk_at "rd"
      refine ⟨y, rfl, ?_⟩
      refine s_add_s (by rw [e3]; exact le1000 (by omega)) (lq_put hlt (hN _ ?_))
      rw [List.getElem?_map, hy1]
      rfl
    have g4 := g3.lay (o := .lst (ns.map fun y => V.str (("no " : Str) ++ wr y))) np4
    have n34 : p3 ≠ p4 := fun e => by rw [← e, h3] at np4; cases np4
    refine s_add_l ((upd_ne n34).trans h3) upd_same (by simp; exact le1000 (by omega)) fun p5 np5 => ?_
    have g5 := g4.lay (o := .lst ([.str (("sample " : Str) ++ z)] ++ (ys.map fun y => V.str (("yes " : Str) ++ wr y)) ++ ns.map fun y => V.str (("no " : Str) ++ wr y))) np5
    refine s_join_l (zs := linesT z ys ns) (sql (by rw [upd_same]; simp [linesT, List.map_map, Function.comp_def])) ?_ (q _ _ g5)
    have := sum_len (c := 40) (zs := linesT z ys ns) (fun x hx => by
      unfold linesT at hx
      rcases List.mem_append.mp hx with hx | hx
      · rcases List.mem_append.mp hx with hx | hx
        · rw [List.mem_singleton.mp hx, app_len, e7]
          omega
        · obtain ⟨y, hy1, rfl⟩ := List.mem_map.mp hx
          have := hyl y hy1
          have := wr_len (z := y)
          rw [app_len, e4]
          omega
      · obtain ⟨y, hy1, rfl⟩ := List.mem_map.mp hx
        have := hnl y hy1
        have := wr_len (z := y)
        rw [app_len, e3]
        omega)
    have hl : (linesT z ys ns).length = 1 + ys.length + ns.length := by simp [linesT]; omega
    have e1 : ("\n" : Str).length = 1 := rfl
    rw [e1]
    omega
end
end H91

namespace H91
open PySem PySem.Spec L2 He Y Hk91
local macro_rules | `(tactic| walk_at "rd1") => `(tactic| first
  | with_reducible refine s_seq ?_
  | with_reducible refine s_asg ?_
  | with_reducible refine s_gname ?_
  | ((with_reducible refine s_var (v := ?_) ?_ ?_); rotate_left; exact rfl)
  | with_reducible refine s_c ?_
  | with_reducible refine s_op ?_
  | with_reducible refine s_un ?_
  | with_reducible refine s_nil ?_
  | with_reducible refine s_cons ?_
  | with_reducible refine s_CB ?_
  | with_reducible refine s_ifS ?_
  | with_reducible refine s_test ?_
  | with_reducible refine s_B ?_
  | with_reducible refine s_xb ?_
  | with_reducible refine s_xi ?_
  | with_reducible refine s_xs ?_
  | with_reducible refine s_or ?_
  | with_reducible refine s_and ?_
  | with_reducible refine s_not ?_
  | with_reducible refine s_orV ?_
  | with_reducible refine s_andV ?_
  | with_reducible refine s_notV ?_
  | with_reducible refine s_ret ?_
  | with_reducible refine s_retN ?_
  | with_reducible refine s_next ?_
  | with_reducible refine s_drop ?_
  | with_reducible refine s_yes ?_
  | with_reducible refine s_for ?_
  | with_reducible refine s_lc ?_
  | with_reducible refine s_iStr ?_
  | with_reducible refine s_iList ?_
  | with_reducible refine s_iTup ?_
  | with_reducible refine s_iR1 ?_
  | with_reducible refine s_iR2 ?_
  | with_reducible refine s_iE ?_
  | with_reducible refine s_iET ?_
  | with_reducible refine s_iES ?_
  | with_reducible refine s_tup ?_
  | with_reducible refine s_lst ?_
  | with_reducible refine s_BM ?_
  | with_reducible refine s_BM0 ?_
  | with_reducible refine s_BMS ?_
  | with_reducible refine s_M1 ?_
  | with_reducible refine s_sl ?_
  | with_reducible refine s_noP ?_
  | with_reducible refine s_po ?_
  | with_reducible refine s_call ?_
  | with_reducible refine s_callS ?_
  | with_reducible refine s_make ?_
  | with_reducible refine s_makeS ?_
  | with_reducible refine s_methS ?_
  | with_reducible refine s_callO ?_
  | with_reducible refine s_dnew ?_
  | with_reducible refine s_dget ?_
  | with_reducible refine s_din ?_
  | with_reducible refine s_dnin ?_
  | with_reducible refine s_dput ?_
  | with_reducible refine s_dsetd ?_
  | with_reducible refine s_dget2 ?_
  | with_reducible refine s_fld ?_
  | with_reducible refine s_sFld ?_
  | with_reducible refine s_rz ?_
  | with_reducible refine s_asgS ?_
  | with_reducible refine s_gSub ?_
  | with_reducible refine s_ifE ?_
  | with_reducible refine s_add_i ?_
  | with_reducible refine s_sub ?_
  | with_reducible refine s_neg ?_
  | with_reducible refine s_eq_i ?_
  | with_reducible refine s_eq_s ?_
  | with_reducible refine s_ne_i ?_
  | with_reducible refine s_ne_s ?_
  | with_reducible refine s_lt_i ?_
  | with_reducible refine s_le_i ?_
  | with_reducible refine s_gt_i ?_
  | with_reducible refine s_ge_i ?_
  | with_reducible refine s_lt_s ?_
  | with_reducible refine s_le_s ?_
  | with_reducible refine s_gt_s ?_
  | with_reducible refine s_ge_s ?_
  | with_reducible refine s_in_c ?_
  | with_reducible refine s_ni_c ?_
  | with_reducible refine s_isN ?_
  | with_reducible refine s_noN ?_
  | with_reducible refine s_abs ?_
  | with_reducible refine s_min2 ?_
  | with_reducible refine s_max2 ?_
  | with_reducible refine s_int_i ?_
  | ((with_reducible refine s_len_s ?_ ?_); assumption)
  | ((with_reducible refine s_len_l (xs := ?_) ?_ ?_); rotate_left; assumption)
  | ((with_reducible refine s_len_t (xs := ?_) ?_ ?_); rotate_left; assumption)
  | with_reducible refine s_pair upd_same ?_
  | with_reducible refine s_callS ?_
  | with_reducible refine s_sortK ?_
  | with_reducible refine s_disp ?_
  | with_reducible refine s_pcons ?_
  | with_reducible refine s_pnil ?_
  | ((with_reducible refine s_ix_t (by assumption) (by first | exact atI_0 | exact atI_i (j := 1) rfl rfl | exact atI_i (j := 2) rfl rfl | exact atI_i (j := 3) rfl rfl) ?_))
  | with_reducible refine jtT ?_
  | with_reducible refine jtF ?_
  | with_reducible refine jtNT ?_
  | with_reducible refine jtNF ?_
  | dsimp only)
local macro_rules | `(tactic| walk_at "rd") => `(tactic| repeat (walk_at "rd1"))

/-! ### what the readers answer -/
theorem tl_nl : TL.tl ("\n" : Str) = [10] := rfl
theorem tl_sp : TL.tl (" " : Str) = [32] := rfl
def lastS (W : List Str) : Str := (W[W.length - 1]?).getD ""
def stepS (s : Str) (W : List Str) (b : Str) : Option (List Str) := match wordM s b with
  | none => none
  | some w => if 24 < w.length ∨ W.length = 64 then none else if W ≠ [] ∧ ordLt (lastS W) w = false then none else some (W ++ [w])
def lineS (s : Str) (Y N : List Str) (line : Str) : Option (List Str × List Str) := match Txt.split line " " with
  | [a, b] => if a = "yes" then (match stepS s Y b with
      | none => none
      | some W => if N = [] then some (W, N) else none) else if a = "no" then (match stepS s N b with
      | none => none
      | some W => some (Y, W)) else none
  | _ => none
def goS (s : Str) : List Str → Nat → List Str → List Str → Except Nat (List Str × List Str)
  | [], _, Y, N => .ok (Y, N)
  | l :: ls, k, Y, N => match lineS s Y N l with
    | none => .error (k + 2)
    | some (Y', N') => goS s ls (k + 1) Y' N'
theorem goS_cons (s l : Str) (ls : List Str) (k : Nat) (Y N : List Str) : goS s (l :: ls) k Y N = match lineS s Y N l with
    | none => .error (k + 2)
    | some (Y', N') => goS s ls (k + 1) Y' N' := rfl
def readL : List Str → Except Nat (Str × List Str × List Str)
  | [] => .error 1
  | l0 :: lr => match Txt.split l0 " " with
    | [a, s] => if a = "sample" ∧ okLetters s = true then (match goS s lr 0 [] [] with
      | .error k => .error k
      | .ok (Y, N) => .ok (s, Y, N)) else .error 1
    | _ => .error 1
theorem readL_cons (l0 : Str) (lr : List Str) : readL (l0 :: lr) = match Txt.split l0 " " with
    | [a, s] => if a = "sample" ∧ okLetters s = true then (match goS s lr 0 [] [] with
      | .error k => .error k
      | .ok (Y, N) => .ok (s, Y, N)) else .error 1
    | _ => .error 1 := rfl
def readS (t : Str) : Except Nat (Str × List Str × List Str) := readL (Txt.split t "\n")
/-! ### what was read is in order and may be written -/
structure Sor (s : Str) (W : List Str) : Prop where
  up : Up W
  wds : Wds s W
theorem Sor.nil {s : Str} : Sor s [] := ⟨List.Pairwise.nil, ⟨Nat.zero_le _, fun z h => nomatch h⟩⟩
theorem badAt_all {ls : List Nat} : ∀ {l : List Nat} {i : Nat}, l.any (fun c => !decide (c ∈ ls)) = false → badAt ls i l = none
  | [], _, _ => rfl
  | c :: r, i, h => by
    rw [List.any_cons, Bool.or_eq_false_iff] at h
    have hc : c ∈ ls := by simpa using h.1
    show (if c ∈ ls then badAt ls (i + 1) r else some i) = none
    rw [if_pos hc]
    exact badAt_all h.2
theorem wordM_ok {s p w : Str} (h : wordM s p = some w) : badAt s.cps.toList 0 w.cps.toList = none ∧ wr w = p := by
  unfold wordM at h
  split at h
  · rename_i e
    cases h
    exact ⟨rfl, by rw [e]; rfl⟩
  · split at h
    · cases h
    · rename_i e1 e2
      split at h
      · cases h
      · rename_i e3
        cases h
        exact ⟨badAt_all (Bool.eq_false_iff.mpr e3), if_neg e2⟩
theorem last_le {W : List Str} (h : Up W) (hne : W ≠ []) : ∀ x ∈ W, x = lastS W ∨ ordLt x (lastS W) = true := by
  induction W with
  | nil => exact absurd rfl hne
  | cons y r ih =>
    obtain ⟨a1, a2⟩ := List.pairwise_cons.mp h
    intro x hx
    cases r with
    | nil =>
      left
      have : x = y := List.mem_singleton.mp hx
      rw [this]
      rfl
    | cons z q =>
      have el : lastS (y :: z :: q) = lastS (z :: q) := by
        unfold lastS
        show ((y :: z :: q)[q.length + 1]?).getD "" = ((z :: q)[q.length]?).getD ""
        rw [List.getElem?_cons_succ]
      rw [el]
      rcases List.mem_cons.mp hx with e | hx
      · rw [e]
        right
        refine a1 _ ?_
        unfold lastS
        have : (z :: q).length - 1 < (z :: q).length := by simp
        rw [List.getElem?_eq_getElem this]
        exact List.getElem_mem _
      · exact ih a2 (by simp) x hx
theorem stepS_ok {s b : Str} {W W' : List Str} (h : stepS s W b = some W') (g : Sor s W) : ∃ w, W' = W ++ [w] ∧ wr w = b ∧ Sor s W' := by
  unfold stepS at h
  split at h
  · cases h
  · rename_i w hw
    split at h
    · cases h
    · rename_i h1
      split at h
      · cases h
      · rename_i h2
        cases h
        obtain ⟨k1, k2⟩ := wordM_ok hw
        have g2 := g.wds.few
        refine ⟨w, rfl, k2, ?_, ?_, ?_⟩
        · rw [show Up (W ++ [w]) = (W ++ [w]).Pairwise (fun x y => ordLt x y = true) from rfl, List.pairwise_append]
          refine ⟨g.up, List.pairwise_singleton _ _, fun a ha b hb => ?_⟩
          rw [List.mem_singleton.mp hb]
          have hne : W ≠ [] := fun e => by rw [e] at ha; cases ha
          have hl : ordLt (lastS W) w = true := by
            cases e : ordLt (lastS W) w with
            | true => rfl
            | false => exact absurd ⟨hne, e⟩ h2
          rcases last_le g.up hne a ha with e | e
          · rw [e]
            exact hl
          · exact ordLt_tr e hl
        · rw [List.length_append]
          have : ¬ W.length = 64 := fun z => h1 (.inr z)
          have e1 : ([w] : List Str).length = 1 := rfl
          omega
        · intro z hz
          rcases List.mem_append.mp hz with hz | hz
          · exact g.wds.ok z hz
          · rw [List.mem_singleton.mp hz]
            exact ⟨Nat.le_of_not_lt fun z => h1 (.inl z), k1⟩
theorem two_join {l : Str} {a b : Str} (h : Txt.split l " " = [a, b]) : l = a ++ (" " ++ b) := by
  have h1 := split_one (x := l) tl_sp (by decide)
  rw [h] at h1
  have h2 := cutAt_join (s := 32) (acc := []) (l := TL.tl l)
  rw [← h1] at h2
  refine TL.ext_tl ?_
  rw [TL.tl_append, TL.tl_append, tl_sp]
  exact h2.symm
theorem pre_sp {x a b : Str} (h : TL.tl x = TL.tl a ++ [32]) : x ++ b = a ++ (" " ++ b) := by
  refine TL.ext_tl ?_
  show TL.tl _ = TL.tl _
  rw [TL.tl_append, TL.tl_append, TL.tl_append, h, tl_sp, List.append_assoc]
/-- the lines of the words read -/
def rowsT (Y N : List Str) : List Str := (Y.map fun z => ("yes " : Str) ++ wr z) ++ N.map fun z => ("no " : Str) ++ wr z
theorem lineS_ok {s l : Str} {Y N Y' N' : List Str} (h : lineS s Y N l = some (Y', N')) (gY : Sor s Y) (gN : Sor s N) : rowsT Y' N' = rowsT Y N ++ [l] ∧ Sor s Y' ∧ Sor s N' := by
  unfold lineS at h
  split at h
  · rename_i a b hab
    have hl := two_join hab
    split at h
    · rename_i ea
      split at h
      · cases h
      · rename_i W hW
        split at h
        · rename_i hN
          cases h
          obtain ⟨w, rfl, hw, gW⟩ := stepS_ok hW gY
          refine ⟨?_, gW, gN⟩
          subst hN
          unfold rowsT
          rw [List.map_append, List.map_nil, List.append_nil, List.append_nil, hl, ea, ← hw, ← pre_sp (x := "yes ") rfl]
          rfl
        · cases h
    · split at h
      · rename_i ea
        split at h
        · cases h
        · rename_i W hW
          cases h
          obtain ⟨w, rfl, hw, gW⟩ := stepS_ok hW gN
          refine ⟨?_, gY, gW⟩
          unfold rowsT
          rw [List.map_append, ← List.append_assoc, hl, ea, ← hw, ← pre_sp (x := "no ") rfl]
          rfl
      · cases h
  · cases h
theorem goS_ok {s : Str} : ∀ {ls : List Str} {k : Nat} {Y N Y' N' : List Str}, goS s ls k Y N = .ok (Y', N') → Sor s Y → Sor s N → rowsT Y' N' = rowsT Y N ++ ls ∧ Sor s Y' ∧ Sor s N'
  | [], k, Y, N, Y', N', h, gY, gN => by
    cases h
    exact ⟨(List.append_nil _).symm, gY, gN⟩
  | l :: ls, k, Y, N, Y', N', h, gY, gN => by
    rw [goS_cons] at h
    split at h
    · cases h
    · rename_i Y1 N1 h1
      obtain ⟨e, a, b⟩ := lineS_ok h1 gY gN
      obtain ⟨e2, a2, b2⟩ := goS_ok h a b
      exact ⟨by rw [e2, e, List.append_assoc]; rfl, a2, b2⟩
/-- what was read is written again -/
theorem readS_ok {t s : Str} {Y N : List Str} (h : readS t = .ok (s, Y, N)) : okLetters s = true ∧ Sor s Y ∧ Sor s N ∧ textT s Y N = t := by
  unfold readS at h
  have hj : Txt.join "\n" (Txt.split t "\n") = t := by
    refine TL.ext_tl ?_
    rw [TL.join_eq, TL.tl_join, tl_nl, split_one (x := t) tl_nl (by decide)]
    exact cutAt_join
  cases hs : Txt.split t "\n" with
  | nil =>
    rw [hs] at h
    cases h
  | cons l0 lr =>
    rw [hs] at h hj
    rw [readL_cons] at h
    split at h
    · rename_i a s0 hab
      split at h
      · rename_i hc
        split at h
        · cases h
        · rename_i Y0 N0 hg
          cases h
          obtain ⟨e, g1, g2⟩ := goS_ok hg Sor.nil Sor.nil
          refine ⟨hc.2, g1, g2, ?_⟩
          rw [← hj]
          unfold textT linesT
          have e0 : ("sample " : Str) ++ s = l0 := by
            rw [two_join hab, hc.1]
            exact pre_sp rfl
          rw [e0, List.append_assoc]
          have e' : rowsT Y N = lr := e
          unfold rowsT at e'
          rw [e']
          rfl
      · cases h
    · cases h
theorem goS_pos {s : Str} : ∀ {ls : List Str} {k : Nat} {Y N : List Str} {n : Nat}, goS s ls k Y N = .error n → 0 < n
  | [], k, Y, N, n, h => by cases h
  | l :: ls, k, Y, N, n, h => by
    rw [goS_cons] at h
    split at h
    · cases h
      omega
    · exact goS_pos h
theorem readS_pos {t : Str} {n : Nat} (h : readS t = .error n) : 0 < n := by
  unfold readS at h
  cases hs : Txt.split t "\n" with
  | nil =>
    rw [hs] at h
    cases h
    decide
  | cons l0 lr =>
    rw [hs, readL_cons] at h
    split at h
    · split at h
      · split at h
        · rename_i hg
          cases h
          exact goS_pos hg
        · cases h
      · cases h
        decide
    · cases h
      decide
end H91

namespace H91
open PySem PySem.Spec L2 He Y Hk91
local macro_rules | `(tactic| walk_at "rd1") => `(tactic| first
  | with_reducible refine s_seq ?_
  | with_reducible refine s_asg ?_
  | with_reducible refine s_gname ?_
  | ((with_reducible refine s_var (v := ?_) ?_ ?_); rotate_left; exact rfl)
  | with_reducible refine s_c ?_
  | with_reducible refine s_op ?_
  | with_reducible refine s_un ?_
  | with_reducible refine s_nil ?_
  | with_reducible refine s_cons ?_
  | with_reducible refine s_CB ?_
  | with_reducible refine s_ifS ?_
  | with_reducible refine s_test ?_
  | with_reducible refine s_B ?_
  | with_reducible refine s_xb ?_
  | with_reducible refine s_xi ?_
  | with_reducible refine s_xs ?_
  | with_reducible refine s_or ?_
  | with_reducible refine s_and ?_
  | with_reducible refine s_not ?_
  | with_reducible refine s_orV ?_
  | with_reducible refine s_andV ?_
  | with_reducible refine s_notV ?_
  | with_reducible refine s_ret ?_
  | with_reducible refine s_retN ?_
  | with_reducible refine s_next ?_
  | with_reducible refine s_drop ?_
  | with_reducible refine s_yes ?_
  | with_reducible refine s_for ?_
  | with_reducible refine s_lc ?_
  | with_reducible refine s_iStr ?_
  | with_reducible refine s_iList ?_
  | with_reducible refine s_iTup ?_
  | with_reducible refine s_iR1 ?_
  | with_reducible refine s_iR2 ?_
  | with_reducible refine s_iE ?_
  | with_reducible refine s_iET ?_
  | with_reducible refine s_iES ?_
  | with_reducible refine s_tup ?_
  | with_reducible refine s_lst ?_
  | with_reducible refine s_BM ?_
  | with_reducible refine s_BM0 ?_
  | with_reducible refine s_BMS ?_
  | with_reducible refine s_M1 ?_
  | with_reducible refine s_sl ?_
  | with_reducible refine s_noP ?_
  | with_reducible refine s_po ?_
  | with_reducible refine s_call ?_
  | with_reducible refine s_callS ?_
  | with_reducible refine s_make ?_
  | with_reducible refine s_makeS ?_
  | with_reducible refine s_methS ?_
  | with_reducible refine s_callO ?_
  | with_reducible refine s_dnew ?_
  | with_reducible refine s_dget ?_
  | with_reducible refine s_din ?_
  | with_reducible refine s_dnin ?_
  | with_reducible refine s_dput ?_
  | with_reducible refine s_dsetd ?_
  | with_reducible refine s_dget2 ?_
  | with_reducible refine s_fld ?_
  | with_reducible refine s_sFld ?_
  | with_reducible refine s_rz ?_
  | with_reducible refine s_asgS ?_
  | with_reducible refine s_gSub ?_
  | with_reducible refine s_ifE ?_
  | with_reducible refine s_add_i ?_
  | with_reducible refine s_sub ?_
  | with_reducible refine s_neg ?_
  | with_reducible refine s_eq_i ?_
  | with_reducible refine s_eq_s ?_
  | with_reducible refine s_ne_i ?_
  | with_reducible refine s_ne_s ?_
  | with_reducible refine s_lt_i ?_
  | with_reducible refine s_le_i ?_
  | with_reducible refine s_gt_i ?_
  | with_reducible refine s_ge_i ?_
  | with_reducible refine s_lt_s ?_
  | with_reducible refine s_le_s ?_
  | with_reducible refine s_gt_s ?_
  | with_reducible refine s_ge_s ?_
  | with_reducible refine s_in_c ?_
  | with_reducible refine s_ni_c ?_
  | with_reducible refine s_isN ?_
  | with_reducible refine s_noN ?_
  | with_reducible refine s_abs ?_
  | with_reducible refine s_min2 ?_
  | with_reducible refine s_max2 ?_
  | with_reducible refine s_int_i ?_
  | ((with_reducible refine s_len_s ?_ ?_); assumption)
  | ((with_reducible refine s_len_l (xs := ?_) ?_ ?_); rotate_left; assumption)
  | ((with_reducible refine s_len_t (xs := ?_) ?_ ?_); rotate_left; assumption)
  | with_reducible refine s_pair upd_same ?_
  | with_reducible refine s_callS ?_
  | with_reducible refine s_sortK ?_
  | with_reducible refine s_disp ?_
  | with_reducible refine s_pcons ?_
  | with_reducible refine s_pnil ?_
  | ((with_reducible refine s_ix_t (by assumption) (by first | exact atI_0 | exact atI_i (j := 1) rfl rfl | exact atI_i (j := 2) rfl rfl | exact atI_i (j := 3) rfl rfl) ?_))
  | with_reducible refine jtT ?_
  | with_reducible refine jtF ?_
  | with_reducible refine jtNT ?_
  | with_reducible refine jtNF ?_
  | dsimp only)
local macro_rules | `(tactic| walk_at "rd") => `(tactic| repeat (walk_at "rd1"))

/-- the two lists of words by their names -/
abbrev kvL (ya na : Addr) : List (Key × V) := [(Sum.inr "yes", .ref ya), (Sum.inr "no", .ref na)]
theorem kvL_get {H : Hp} {ld ya na : Addr} (h : H ld = some (.dK (kvL ya na))) (a : Str) : DGet H ld (.str a) (if a = "yes" then some (.ref ya) else if a = "no" then some (.ref na) else none) := by
  have d : DGet H ld (.str a) (valV (kvL ya na) (Sum.inr a)) := DGet.k (k := Sum.inr a) h
  have e : valV (kvL ya na) (Sum.inr a) = (if a = "yes" then some (V.ref ya) else if a = "no" then some (.ref na) else none) := by
    by_cases h1 : a = "yes"
    · rw [if_pos h1, valV_pos (inr_iff.mpr h1.symm)]
    · rw [if_neg h1, valV_neg fun z => h1 (inr_iff.mp z).symm]
      by_cases h2 : a = "no"
      · rw [if_pos h2, valV_pos (inr_iff.mpr h2.symm)]
      · rw [if_neg h2, valV_neg fun z => h2 (inr_iff.mp z).symm]
        rfl
  rw [e] at d
  exact d
theorem last_at {W : List Str} (h : W ≠ []) : atI (W.map V.str) (((W.map V.str).length : Int) - 1) = some (.str (lastS W)) := by
  have h1 : W.length - 1 < W.length := by
    cases W with
    | nil => exact absurd rfl h
    | cons _ _ => simp
  refine atI_i (j := W.length - 1) (by rw [List.length_map]; omega) ?_
  rw [List.getElem?_map]
  unfold lastS
  rw [List.getElem?_eq_getElem h1]
  rfl
theorem lastS_snoc {W : List Str} {z : Str} : lastS (W ++ [z]) = z := by
  unfold lastS
  rw [List.length_append, show W.length + [z].length - 1 = W.length from rfl, List.getElem?_append_right (Nat.le_refl _), Nat.sub_self]
  rfl
theorem last_neg {W : List Str} (h : W ≠ []) : atI (W.map V.str) (-1) = some (.str (lastS W)) := by
  obtain ⟨M, z, e⟩ := SrtO.snoc_of (l := W) (List.length_pos_iff.mpr h)
  rw [e, lastS_snoc, List.map_append]
  exact atI_last _ _
theorem lastS_mem {W : List Str} (h : W ≠ []) : lastS W ∈ W := by
  have h1 : W.length - 1 < W.length := by
    cases W with
    | nil => exact absurd rfl h
    | cons _ _ => simp
  unfold lastS
  rw [List.getElem?_eq_getElem h1]
  exact List.getElem_mem _
theorem sor_inO {s : Str} {W : List Str} (h : Sor s W) : inO W = W := inO_same h.up
section
variable {P : Program} {w : World} {K : PySem.W.Frag} {mg : Str → Option Value} {base : Heap}
/-- the state of the loop -/
structure RsI (K : PySem.W.Frag) (text s : Str) (lr : List Str) (D1 H1 : Hp) (p hd ld ya na : Addr) (i : Nat) (σ : L2.St) (H' : Hp) : Prop where
  ex : ∃ (D' : Hp) (o4 o5 o6 o7 o8 : Option V) (Y N : List Str), Gr (fun b => b = ya ∨ b = na) D1 H1 D' H' ∧ D' ya = none ∧ D' na = none ∧ H' ya = some (.lst (Y.map V.str)) ∧ H' na = some (.lst (N.map V.str)) ∧ Sor s Y ∧ Sor s N ∧
    σ = [some (.str text), some (.ref p), some (.ref hd), some (.ref ld), o4, o5, o6, o7, o8] ∧ goS s (lr.drop i) i Y N = goS s lr 0 [] []
theorem S_read_sample : FnScope ["text", "rows", "head", "lists", "at", "line", "parts", "word", "words"] ["text"] (d_read_sample).scope := ⟨rfl, rfl, rfl, by decide +kernel, rfl, by decide +kernel, by decide +kernel⟩
def sp_read_sample (K : PySem.W.Frag) : Sp := fun vs H Q E => ∃ (D : Hp) (t : Str), vs = [.str t] ∧ t.length ≤ 100000 ∧ Same D H ∧ (∀ D' H' v s Y N, readS t = .ok (s, Y, N) → Gr No D H D' H' → IsS K D' v s Y N → Q v H') ∧
  (∀ D' H' d k, readS t = .error k → Gr No D H D' H' → H' d = none → E (.ref (ga K "BadText")) (some d) (upd H' d (.xd [("line", .int (k : Nat))])))
theorem w_read_sample (T : Txt P w K mg) : Has P w K mg base 7 "read_sample" (sp_read_sample K) := by
  have S := S_read_sample
  have G_are_letters := w_are_letters (base := base) T
  have G_word_of := w_word_of (base := base) T
  have G_order_key := w_order_key (base := base) T
  have G_Sample := w_Sample (base := base) T
  refine has_of (k := 6) T.d_read_sample T.gd_read_sample S (fun _ _ _ _ _ _ us hl => match us, hl with | [_], _ => rfl) (fun vs H Q E h => ?_) (fun f cdv A outer s H vs Q E hr h => ?_)
  · obtain ⟨D, t, rfl, _⟩ := h
    rfl
  · obtain ⟨D, text, rfl, ht, sm, qk, qe⟩ := h
    have hz : text.length + 2 ≤ sizeLine := Nat.le_trans (Nat.add_le_add_right ht 2) (by decide)
    refine ⟨_, (pss_cons (ps_set (i := 1) S.nd rfl (Or.inl rfl) (pe_m1 PySem.F.slot_str_split PySem.F.type_str_split m_split (pv 0) pe_str))
    (pss_cons (ps_set (i := 2) S.nd rfl (Or.inl rfl) (pe_m1 PySem.F.slot_str_split PySem.F.type_str_split m_split (pe_ix (ixK_seq K) (pv 1) pe_int (fun _ _ => rfl)) pe_str))
    (pss_cons (ps_if (PW.pt (pw_or (pt_cmpR (cK_ne K hr.units) (pe_callB (bK_len K) (by rfl) T.b_len (by decide +kernel) (pa_cons (pv 2) pa_nil)) pe_int (nomark _)) (pw_or (pt_cmpR (cK_ne K hr.units) (pe_ix (ixK_seq K) (pv 2) pe_int (fun _ _ => rfl)) pe_str (nomark _)) (pw_or1 (pt_not (pt_val (pe_has G_are_letters (hr.mono (by decide)) (takes_of rfl rfl rfl rfl) rfl (pa_cons (pe_ix (ixK_seq K) (pv 2) pe_int (fun _ _ => rfl)) pa_nil))))))))
      (pss_one (ps_raise rfl (takes_of rfl rfl rfl rfl) (pmk_rz (z_BadText T) (hr.mono (by decide)) rfl (pa_cons pe_int pa_nil))))
      pss_nil)
    (pss_cons (ps_set (i := 3) S.nd rfl (Or.inl rfl) (pe_disp (pps_cons pe_str (pe_lst pa_nil) (pps_cons pe_str (pe_lst pa_nil) pps_nil)) (by rfl) (by rfl) (fun z => by cases z) (by decide)))
    (pss_cons (ps_for (passes_of rfl) rfl (piK_enum K (by rfl) T.b_enumerate (pa_cons (pe_slice (slK_any K) (pv 1) (po_some pe_int) po_none) pa_nil)) (pgK_tup K (n := 2) rfl (pgs_cons (pg_name (i := 4) S.nd rfl (Or.inl rfl)) (pgs_cons (pg_name (i := 5) S.nd rfl (Or.inl rfl)) pgs_nil)))
      (pss_cons (ps_set (i := 6) S.nd rfl (Or.inl rfl) (pe_m1 PySem.F.slot_str_split PySem.F.type_str_split m_split (pv 5) pe_str))
    (pss_cons (ps_if (PW.pt (pw_or (pt_cmpR (cK_ne K hr.units) (pe_callB (bK_len K) (by rfl) T.b_len (by decide +kernel) (pa_cons (pv 6) pa_nil)) pe_int (nomark _)) (pw_or1 (pt_cmp (pc_dnotin (hu_of hr) (pe_ix (ixK_seq K) (pv 6) pe_int (fun _ _ => rfl)) (pv 3))))))
      (pss_one (ps_raise rfl (takes_of rfl rfl rfl rfl) (pmk_rz (z_BadText T) (hr.mono (by decide)) rfl (pa_cons (pe_op (oK_add K) (pv 4) pe_int) pa_nil))))
      pss_nil)
    (pss_cons (ps_set (i := 7) S.nd rfl (Or.inl rfl) (pe_has G_word_of (hr.mono (by decide)) (takes_of rfl rfl rfl rfl) rfl (pa_cons (pe_ix (ixK_seq K) (pv 2) pe_int (fun _ _ => rfl)) (pa_cons (pe_ix (ixK_seq K) (pv 6) pe_int (fun _ _ => rfl)) pa_nil))))
    (pss_cons (ps_set (i := 8) S.nd rfl (Or.inl rfl) (pe_dget (hu_of hr) (pv 3) (pe_ix (ixK_seq K) (pv 6) pe_int (fun _ _ => rfl)) (fun _ _ => rfl)))
    (pss_cons (ps_if (PW.pt (pw_or (pt_cmpR c_is (pv 7) pe_non (nomark _)) (pw_or (pt_cmpR c_gt (pe_callB (bK_len K) (by rfl) T.b_len (by decide +kernel) (pa_cons (pv 7) pa_nil)) (pe_gI rfl T.c_MOST_LETTERS) (nomark _)) (pw_or1 (pt_cmpR (cK_eq K hr.units) (pe_callB (bK_len K) (by rfl) T.b_len (by decide +kernel) (pa_cons (pv 8) pa_nil)) (pe_gI rfl T.c_MOST_WORDS) (nomark _))))))
      (pss_one (ps_raise rfl (takes_of rfl rfl rfl rfl) (pmk_rz (z_BadText T) (hr.mono (by decide)) rfl (pa_cons (pe_op (oK_add K) (pv 4) pe_int) pa_nil))))
      pss_nil)
    (pss_cons (ps_if (PW.pt (pw_and (pt_cmpR c_gt (pe_callB (bK_len K) (by rfl) T.b_len (by decide +kernel) (pa_cons (pv 8) pa_nil)) pe_int (nomark _)) (pw_and1 (pt_cmpR (cK_leA K hr.units) (pe_has G_order_key (hr.mono (by decide)) (takes_of rfl rfl rfl rfl) rfl (pa_cons (pv 7) pa_nil)) (pe_has G_order_key (hr.mono (by decide)) (takes_of rfl rfl rfl rfl) rfl (pa_cons (pe_ix (ixK_seq K) (pv 8) (pe_op o_sub (pe_callB (bK_len K) (by rfl) T.b_len (by decide +kernel) (pa_cons (pv 8) pa_nil)) pe_int) (fun _ _ => rfl)) pa_nil)) (nomark _)))))
      (pss_one (ps_raise rfl (takes_of rfl rfl rfl rfl) (pmk_rz (z_BadText T) (hr.mono (by decide)) rfl (pa_cons (pe_op (oK_add K) (pv 4) pe_int) pa_nil))))
      pss_nil)
    (pss_cons (ps_if (PW.pt (pw_and (pt_cmpR (cK_eq K hr.units) (pe_ix (ixK_seq K) (pv 6) pe_int (fun _ _ => rfl)) pe_str (nomark _)) (pw_and1 (pt_cmpR c_gt (pe_callB (bK_len K) (by rfl) T.b_len (by decide +kernel) (pa_cons (pe_dget (hu_of hr) (pv 3) pe_str (fun _ _ => rfl)) pa_nil)) pe_int (nomark _)))))
      (pss_one (ps_raise rfl (takes_of rfl rfl rfl rfl) (pmk_rz (z_BadText T) (hr.mono (by decide)) rfl (pa_cons (pe_op (oK_add K) (pv 4) pe_int) pa_nil))))
      pss_nil)
    (pss_one (ps_expr (peK_bm K PySem.F.plainAttrs_list PySem.F.slot_list_append PySem.F.type_list_append mt_append (pv 8) (pa_cons (pv 7) pa_nil))))))))))))
    (pss_one (ps_ret (pe_mkS G_Sample (hr.mono (by decide)) (takes_of rfl rfl rfl rfl) rfl (pa_cons (pe_ix (ixK_seq K) (pv 2) pe_int (fun _ _ => rfl)) (pa_cons (pe_dget (hu_of hr) (pv 3) pe_str (fun _ _ => rfl)) (pa_cons (pe_dget (hu_of hr) (pv 3) pe_str (fun _ _ => rfl)) pa_nil))))))))))), ?_⟩
    walk_at "rd"
    refine ⟨⟨_, rfl⟩, ?_⟩
    walk_at "rd"
    refine s_split rfl hz fun p np => ?_
    have hc := split_count (x := text) tl_nl (by decide)
    have hpt := split_part (x := text) tl_nl (by decide)
    unfold readS at qk qe
    cases hls : Txt.split text "\n" with
    | nil => exact absurd hls (split_ne tl_nl (by decide))
    | cons l0 lr =>
    rw [hls] at qk qe hc hpt
    have hl0 := hpt l0 (List.mem_cons_self ..)
    have g1 := (Gr.refl (m := No) sm).ice (o := .lst ((l0 :: lr).map V.str)) np
    walk_at "rd"
    refine s_ix_l (sql upd_same) atI_0 ?_
    refine ⟨⟨_, rfl⟩, ?_⟩
    walk_at "rd"
    refine s_split rfl (by omega) fun hd nd => ?_
    have g2 := g1.ice (o := .lst ((Txt.split l0 " ").map V.str)) nd
    have hhd : SqL K (upd (upd H p (.lst ((l0 :: lr).map V.str))) hd (.lst ((Txt.split l0 " ").map V.str))) hd ((Txt.split l0 " ").map V.str) := sql upd_same
    have hpd : p ≠ hd := fun e => by rw [e, upd_same] at nd; cases nd
    have hp2 : SqL K (upd (upd H p (.lst ((l0 :: lr).map V.str))) hd (.lst ((Txt.split l0 " ").map V.str))) p ((l0 :: lr).map V.str) := sql ((upd_ne hpd).trans upd_same)
    have hdD : SqL K (upd (upd D p (.lst ((l0 :: lr).map V.str))) hd (.lst ((Txt.split l0 " ").map V.str))) hd ((Txt.split l0 " ").map V.str) := sql upd_same
    revert g2 hhd hp2 hdD
    generalize (upd (upd H p (.lst ((l0 :: lr).map V.str))) hd (.lst ((Txt.split l0 " ").map V.str))) = H2
    generalize (upd (upd D p (.lst ((l0 :: lr).map V.str))) hd (.lst ((Txt.split l0 " ").map V.str))) = D2
    intro g2 hhd hp2 hdD
    have hhp := split_part (x := l0) tl_sp (by decide)
    have bad1 : ∀ d, readL (l0 :: lr) = .error 1 → H2 d = none → E (.ref (ga K "BadText")) (some d) (upd H2 d (.xd [("line", .int 1)])) := fun d e nd => qe D2 H2 d 1 e g2 nd
    walk_at "rd"
    refine jtN (fun e => ?_) (fun e1 => ?_)
    · walk_at "rd"
      refine ⟨rfl, by decide, fun d nd => bad1 d ?_ nd⟩
      have e' : (Txt.split l0 " ").length ≠ 2 := fun z => e (by rw [List.length_map, z]; rfl)
      rw [readL_cons]
      split
      · rename_i h
        rw [h] at e'
        exact absurd rfl e'
      · rfl
    obtain ⟨a, ls, hab⟩ : ∃ a ls, Txt.split l0 " " = [a, ls] := by
      have e' : (Txt.split l0 " ").length = 2 := by
        have := e1
        rw [List.length_map] at this
        omega
      match h : Txt.split l0 " ", e' with
      | [a, b], _ => exact ⟨a, b, rfl⟩
    rw [hab] at hhd hdD hhp
    have hll := hhp ls (by simp)
    have hsl : ls.length ≤ sizeLine := by omega
    walk_at "rd"
    refine s_ix_l hhd atI_0 ?_
    walk_at "rd"
    have erd : readL (l0 :: lr) = if a = "sample" ∧ okLetters ls = true then (match goS ls lr 0 [] [] with
      | .error k => .error k
      | .ok (Y, N) => .ok (ls, Y, N)) else .error 1 := by
      rw [readL_cons, hab]
      all_goals rfl
    refine jtN (fun e => ?_) (fun e2 => ?_)
    · walk_at "rd"
      exact ⟨rfl, by decide, fun d nd => bad1 d (by rw [erd, if_neg fun z => e z.1]) nd⟩
    walk_at "rd"
    refine s_ix_l hhd (atI_i (j := 1) rfl rfl) ?_
    walk_at "rd"
    refine ⟨ls, rfl, hsl, ?_⟩
    refine s_xb ?_
    refine jtNB (fun e => ?_) (fun e3 => ?_)
    · walk_at "rd"
      exact ⟨rfl, by decide, fun d nd => bad1 d (by rw [erd, if_neg fun z => by rw [z.2] at e; cases e]) nd⟩
    rw [if_pos ⟨e2, e3⟩] at erd
    have hl4 := (ok_len e3).2
    walk_at "rd"
    intro ld nld
    have g3 := g2.lay (o := .dK []) nld
    walk_at "rd"
    refine ⟨Nat.zero_le _, fun ya nya => ?_⟩
    have nly : ld ≠ ya := fun e => by rw [← e, upd_same] at nya; cases nya
    have g4 := g3.lay (o := .lst []) nya
    walk_at "rd"
    refine ⟨Nat.zero_le _, fun na nna => ?_⟩
    have nln : ld ≠ na := fun e => by rw [← e, upd_ne nly, upd_same] at nna; cases nna
    have nyn : ya ≠ na := fun e => by rw [← e, upd_same] at nna; cases nna
    have g5 := g4.lay (o := .lst []) nna
    have hld5 : (upd (upd (upd H2 ld (.dK [])) ya (.lst [])) na (.lst [])) ld = some (.dK []) := (upd_ne nln).trans ((upd_ne nly).trans upd_same)
    have hya5 : (upd (upd (upd H2 ld (.dK [])) ya (.lst [])) na (.lst [])) ya = some (.lst []) := (upd_ne nyn).trans upd_same
    walk_at "rd"
    refine ⟨hld5, kvL ya na, rfl, (by show 2 ≤ 15; decide), ?_⟩
    rw [show mergeK [] (kvL ya na) = kvL ya na from rfl]
    have hDl : D2 ld = none := g2.free nld
    have hDy : D2 ya = none := g3.free nya
    have hDn : D2 na = none := g4.free nna
    have hHl : H ld = none := g2.kept _ nld
    have hHy : H ya = none := g3.kept _ nya
    have hHn : H na = none := g4.kept _ nna
    have g6 := ((g5.put (o := .dK (kvL ya na)) hDl (.inl hHl)).cold (p := ld) upd_same hHl)
    have hya6 : (upd (upd (upd (upd H2 ld (.dK [])) ya (.lst [])) na (.lst [])) ld (.dK (kvL ya na))) ya = some (.lst []) := (upd_ne nly.symm).trans hya5
    have hna6 : (upd (upd (upd (upd H2 ld (.dK [])) ya (.lst [])) na (.lst [])) ld (.dK (kvL ya na))) na = some (.lst []) := (upd_ne nln.symm).trans upd_same
    have hDy6 : (upd D2 ld (.dK (kvL ya na))) ya = none := (upd_ne nly.symm).trans hDy
    have hDn6 : (upd D2 ld (.dK (kvL ya na))) na = none := (upd_ne nln.symm).trans hDn
    have hldD : (upd D2 ld (.dK (kvL ya na))) ld = some (.dK (kvL ya na)) := upd_same
    have hdD6 : SqL K (upd D2 ld (.dK (kvL ya na))) hd ([a, ls].map V.str) := (same_new hDl).seq hdD
    have hp6 : SqL K (upd (upd (upd (upd H2 ld (.dK [])) ya (.lst [])) na (.lst [])) ld (.dK (kvL ya na))) p ((l0 :: lr).map V.str) := by
      have k := ((((Gr.refl (m := No) (Same.refl H2)).lay (o := .dK []) nld).lay (o := .lst []) nya).lay (o := .lst []) nna).put (o := .dK (kvL ya na)) (p := ld)
      refine (Same.trans (fun b o e => ?_) (Same.refl _)).seq hp2
      have e1 : b ≠ ld := ne_of_none e nld
      have e2 : b ≠ ya := ne_of_none ((upd_ne e1).trans e) nya
      have e3 : b ≠ na := ne_of_none ((upd_ne e2).trans ((upd_ne e1).trans e)) nna
      rw [upd_ne e1, upd_ne e3, upd_ne e2, upd_ne e1]
      exact e
    revert g6 hya6 hna6 hDy6 hDn6 hldD hdD6 hp6
    generalize (upd (upd (upd (upd H2 ld (.dK [])) ya (.lst [])) na (.lst [])) ld (.dK (kvL ya na))) = H6
    generalize (upd D2 ld (.dK (kvL ya na))) = D6
    intro g6 hya6 hna6 hDy6 hDn6 hldD hdD6 hp6
    walk_at "rd"
    refine s_sl_l hp6 fun c nc => ?_
    have ecut : cutV ((l0 :: lr).map V.str) (some 1) none = lr.map V.str := by
      rw [cut_tail]
      rfl
    rw [ecut]
    have g7 := g6.ice (o := .lst (lr.map V.str)) nc
    have gc := (Gr.refl (m := No) g6.sub).ice (o := .lst (lr.map V.str)) nc
    have hya7 := gc.same ya _ (fun z => z) hya6
    have hna7 := gc.same na _ (fun z => z) hna6
    have hDy7 := gc.stay hDy6 hya6
    have hDn7 := gc.stay hDn6 hna6
    have hldD7 := gc.dd _ _ hldD
    have hdD7 := gc.dd.seq hdD6
    have hcD : SqL K (upd D6 c (.lst (lr.map V.str))) c (lr.map V.str) := sql upd_same
    revert g7 hya7 hna7 hDy7 hDn7 hldD7 hdD7 hcD
    generalize (upd H6 c (.lst (lr.map V.str))) = H1
    generalize (upd D6 c (.lst (lr.map V.str))) = D1
    intro g7 hya7 hna7 hDy7 hDn7 hldD7 hdD7 hcD
    have gsub := g7.sub
    have hcnt : lr.length + 1 ≤ text.length + 1 := hc
    walk_at "rd"
    refine ⟨c, _, rfl, gsub.seq hcD, lp_it walk_enum (RsI K text ls lr D1 H1 p hd ld ya na) ⟨D1, _, _, _, _, _, [], [], Gr.refl gsub, hDy7, hDn7, hya7, hna7, Sor.nil, Sor.nil, rfl, rfl⟩ (fun i σ H' _ ⟨D', _, _, _, _, _, _, _, g, _⟩ => sql_up g hcD) ?_ ?_⟩
    · rintro i x σ H3 H4 hi ⟨D3, o4, o5, o6, o7, o8, Y, N, g, hDa, hDe, hHa, hHe, sY, sN, rfl, ego⟩ ⟨t, x1, x2, rfl, nt, rfl, e1, e2⟩
      cases e1
      have e2 : (lr.map V.str)[i]? = some x2 := e2
      rw [List.getElem?_map] at e2
      obtain ⟨ln, hln, rfl⟩ := Option.map_eq_some_iff.mp e2
      obtain ⟨hi1, eln⟩ := List.getElem?_eq_some_iff.mp hln
      have hll2 := hpt ln (List.mem_cons_of_mem _ (List.mem_of_getElem? hln))
      rw [List.drop_eq_getElem_cons hi1, eln, goS_cons] at ego
      have g8 := g.lay (o := .tup [.int i, .str ln]) nt
      have gl := ((Gr.refl (m := No) g.sub).lay (o := .tup [.int i, .str ln]) nt)
      have hHe8 := gl.same na _ (fun z => z) hHe
      have hHa8 := gl.same ya _ (fun z => z) hHa
      walk_at "rd"
      refine ⟨⟨_, rfl⟩, ?_⟩
      walk_at "rd"
      refine s_split rfl (by omega) fun pp npp => ?_
      with_reducible refine s_gname ?_
      have hps := split_part (x := ln) tl_sp (by decide)
      have gp := ((Gr.refl (m := No) g8.sub).ice (o := .lst ((Txt.split ln " ").map V.str)) npp)
      have hHe9 := gp.same na _ (fun z => z) hHe8
      have hHa9 := gp.same ya _ (fun z => z) hHa8
      have hDe9 := gp.stay hDe hHe8
      have hDa9 := gp.stay hDa hHa8
      have g9 := g8.trans gp.no
      have hppD : SqL K (upd D3 pp (.lst ((Txt.split ln " ").map V.str))) pp ((Txt.split ln " ").map V.str) := sql upd_same
      revert hHe9 hHa9 hDe9 hDa9 g9 hppD
      generalize (upd (upd H3 t (.tup [.int i, .str ln])) pp (.lst ((Txt.split ln " ").map V.str))) = H9
      generalize (upd D3 pp (.lst ((Txt.split ln " ").map V.str))) = D9
      intro hHe9 hHa9 hDe9 hDa9 g9 hppD
      have hppH := g9.sub.seq hppD
      have bad : ∀ Da Ha d, Gr No D9 H9 Da Ha → lineS ls Y N ln = none → Ha d = none → E (.ref (ga K "BadText")) (some d) (upd Ha d (.xd [("line", .int ((i : Int) + 2))])) := by
        intro Da Ha d ga' el nd
        rw [el] at ego
        exact qe Da Ha d (i + 2) (by rw [erd, ← ego]) (g7.transN (g9.trans ga'.no) fun x hx => hx.elim (fun e => e ▸ hHy) fun e => e ▸ hHn) nd
      have el0 : lineS ls Y N ln = match Txt.split ln " " with
        | [a, b] => if a = "yes" then (match stepS ls Y b with
            | none => none
            | some W => if N = [] then some (W, N) else none) else if a = "no" then (match stepS ls N b with
            | none => none
            | some W => some (Y, W)) else none
        | _ => none := rfl
      revert el0 hps hppD hppH
      generalize Txt.split ln " " = ps
      intro hps hppD hppH el0
      walk_at "rd"
      refine jtN (fun e => ?_) (fun e4 => ?_)
      · walk_at "rd"
        refine ⟨rfl, by simp, fun d nd => bad D9 H9 d (Gr.refl g9.sub) ?_ nd⟩
        rw [el0]
        split
        · refine absurd ?_ e
          rw [List.length_map]
          rfl
        · rfl
      obtain ⟨k1, b, rfl⟩ : ∃ k1 b, ps = [k1, b] := by
        have e' : ps.length = 2 := by
          have := e4
          rw [List.length_map] at this
          omega
        match h : ps, e' with
        | [a, b], _ => exact ⟨a, b, rfl⟩
      have el1 : lineS ls Y N ln = if k1 = "yes" then (match stepS ls Y b with
            | none => none
            | some W => if N = [] then some (W, N) else none) else if k1 = "no" then (match stepS ls N b with
            | none => none
            | some W => some (Y, W)) else none := el0
      have hbl := hps b (by simp)
      have hldH := g9.same' _ _ hldD7
      walk_at "rd"
      refine s_ix_l hppH atI_0 ?_
      walk_at "rd"
      refine ⟨ld, _, rfl, kvL_get hldH k1, ?_⟩
      by_cases hk : k1 = "yes" ∨ k1 = "no"
      rotate_left
      · rw [if_neg fun z => hk (.inl z), if_neg fun z => hk (.inr z)]
        walk_at "rd"
        refine jtT ?_
        walk_at "rd"
        refine ⟨rfl, by simp, fun d nd => bad D9 H9 d (Gr.refl g9.sub) ?_ nd⟩
        rw [el1, if_neg fun z => hk (.inl z), if_neg fun z => hk (.inr z)]
      obtain ⟨wa, W, hwa, hwaD, hW, sW⟩ : ∃ wa W, (if k1 = "yes" then some (V.ref ya) else if k1 = "no" then some (.ref na) else none) = some (V.ref wa) ∧ D9 wa = none ∧ H9 wa = some (.lst (W.map V.str)) ∧ (Sor ls W ∧ ((k1 = "yes" ∧ wa = ya ∧ W = Y) ∨ (k1 = "no" ∧ ¬ k1 = "yes" ∧ wa = na ∧ W = N))) := by
        rcases hk with hk | hk
        · exact ⟨ya, Y, by rw [if_pos hk], hDa9, hHa9, sY, .inl ⟨hk, rfl, rfl⟩⟩
        · have : ¬ k1 = "yes" := fun z => by rw [z] at hk; exact absurd hk (by decide)
          exact ⟨na, N, by rw [if_neg this, if_pos hk], hDe9, hHe9, sN, .inr ⟨hk, this, rfl, rfl⟩⟩
      rw [hwa]
      walk_at "rd"
      refine jtF ?_
      walk_at "rd"
      refine s_ix_l (g9.same'.seq hdD7) (atI_i (j := 1) rfl rfl) ?_
      walk_at "rd"
      refine s_ix_l hppH (atI_i (j := 1) rfl rfl) ?_
      walk_at "rd"
      refine ⟨D9, ls, b, rfl, by omega, g9.sub, fun Da Ha ga' => ?_⟩
      have hldA := ga'.same'.trans (Same.refl _) |> fun _ => (g9.trans ga'.no).same' _ _ hldD7
      have hHeA := ga'.same na _ (fun z => z) hHe9
      have hHaA := ga'.same ya _ (fun z => z) hHa9
      have hDeA := ga'.stay hDe9 hHe9
      have hDaA := ga'.stay hDa9 hHa9
      have hWA := ga'.same wa _ (fun z => z) hW
      have hwDA := ga'.stay hwaD hW
      have hppA := ga'.same'.seq hppD
      have badA : ∀ Db Hb d, Gr No Da Ha Db Hb → lineS ls Y N ln = none → Hb d = none → E (.ref (ga K "BadText")) (some d) (upd Hb d (.xd [("line", .int ((i : Int) + 2))])) := fun Db Hb d gb => bad Db Hb d (ga'.trans gb)
      have en : stepS ls W b = none → lineS ls Y N ln = none := by
        intro h
        rw [el1]
        rcases sW.2 with ⟨k, _, e⟩ | ⟨k, k', _, e⟩
        · subst e
          rw [if_pos k, h]
        · subst e
          rw [if_neg k', if_pos k, h]
      have gA := g9.trans ga'.no
      have hWl := sql (K := K) hWA
      have hNl := sql (K := K) hHeA
      have hYl := sql (K := K) hHaA
      walk_at "rd"
      refine s_ix_l hppA atI_0 ?_
      walk_at "rd"
      refine ⟨ld, _, rfl, by have := kvL_get hldA k1; rw [hwa] at this; exact this, ?_⟩
      walk_at "rd"
      cases hw : wordM ls b with
      | none =>
        refine jtD (fun _ => ?_) (fun z => absurd rfl z)
        walk_at "rd"
        refine ⟨rfl, by simp, fun d nd => badA Da Ha d (Gr.refl gA.sub) (en ?_) nd⟩
        unfold stepS
        rw [hw]
      | some wd =>
      have hwl : wd.length ≤ b.length := by
        unfold wordM at hw
        split at hw
        · cases hw
          exact Nat.zero_le _
        · split at hw
          · cases hw
          · split at hw
            · cases hw
            · cases hw
              exact Nat.le_refl _
      have es : stepS ls W b = if 24 < wd.length ∨ W.length = 64 then none else if W ≠ [] ∧ ordLt (lastS W) wd = false then none else some (W ++ [wd]) := by
        unfold stepS
        rw [hw]
      refine jtD (fun z => nomatch z) (fun _ => ?_)
      dsimp only [oS]
      have hwz : wd.length ≤ sizeLine := by omega
      walk_at "rd"
      refine jtD (fun e5 => ?_) (fun e5 => ?_)
      · walk_at "rd"
        refine ⟨rfl, by simp, fun d nd => badA Da Ha d (Gr.refl gA.sub) (en ?_) nd⟩
        rw [es, if_pos (.inl (by omega))]
      walk_at "rd"
      refine jtD (fun e6 => ?_) (fun e6 => ?_)
      · walk_at "rd"
        refine ⟨rfl, by simp, fun d nd => badA Da Ha d (Gr.refl gA.sub) (en ?_) nd⟩
        rw [List.length_map] at e6
        rw [es, if_pos (.inr (by omega))]
      rw [if_neg (fun z => z.elim (fun z => e5 (by omega)) fun z => e6 (by rw [List.length_map, z]; rfl))] at es
      -- behind the test of the order
      with_reducible refine s_next ?_
      try dsimp only
      refine s_cut (fun σ' Hb => ∃ Db, Gr No Da Ha Db Hb ∧ stepS ls W b = some (W ++ [wd]) ∧ σ' = [some (.str text), some (.ref p), some (.ref hd), some (.ref ld), some (.int i), some (.str ln), some (.ref pp), some (.str wd), some (.ref wa)]) ?_ (fun Nx rest => ?_)
      · rintro σ' Hb ⟨Db, gb, est, rfl⟩
        have hppB := gb.same'.trans (Same.refl _) |> fun _ => (ga'.trans gb).same'.seq hppD
        have hldB := (gA.trans gb.no).same' _ _ hldD7
        have hHeB := gb.same na _ (fun z => z) hHeA
        have hHaB := gb.same ya _ (fun z => z) hHaA
        have hDeB := gb.stay hDeA hHeA
        have hDaB := gb.stay hDaA hHaA
        have hWB := gb.same wa _ (fun z => z) hWA
        have hwDB := gb.stay hwDA hWA
        have hNB := sql (K := K) hHeB
        have gB := gA.trans gb.no
        have fin : ∀ {Q0 : Prop}, lineS ls Y N ln = some (if k1 = "yes" then (W ++ [wd], N) else (Y, W ++ [wd])) → (RsI K text ls lr D1 H1 p hd ld ya na (i + 1) [some (.str text), some (.ref p), some (.ref hd), some (.ref ld), some (.int i), some (.str ln), some (.ref pp), some (.str wd), some (.ref wa)] (upd Hb wa (.lst (W.map V.str ++ [.str wd]))) → Q0) → Q0 := by
          intro Q0 hl k
          refine k ?_
          obtain ⟨w', ew, _, sW'⟩ := stepS_ok est sW.1
          rw [hl] at ego
          rcases sW.2 with ⟨k1', rfl, rfl⟩ | ⟨k1', k2', rfl, rfl⟩
          · rw [if_pos k1'] at ego
            exact ⟨Db, _, _, _, _, _, W ++ [wd], N, gB.put hwDB (.inr (.inl rfl)), hDaB, hDeB, by rw [upd_same, List.map_append]; rfl, (upd_ne nyn.symm).trans hHeB, sW', sN, rfl, ego⟩
          · rw [if_neg k2'] at ego
            exact ⟨Db, _, _, _, _, _, Y, W ++ [wd], gB.put hwDB (.inr (.inr rfl)), hDaB, hDeB, (upd_ne nyn).trans hHaB, by rw [upd_same, List.map_append]; rfl, sY, sW', rfl, ego⟩
        have hW64 := sW.1.wds.few
        walk_at "rd"
        refine s_ix_l hppB atI_0 ?_
        walk_at "rd"
        refine jtD (fun e8 => ?_) (fun e8 => ?_)
        · walk_at "rd"
          refine ⟨ld, _, rfl, by have := kvL_get hldB "no"; exact this, ?_⟩
          walk_at "rd"
          rcases sW.2 with ⟨k1', hwy, hWY⟩ | ⟨k1', k2', _, _⟩
          rotate_left
          · exact absurd e8 k2'
          have ely : lineS ls Y N ln = if N = [] then some (W ++ [wd], N) else none := by
            rw [el1, if_pos e8, ← hWY, est]
          refine jtD (fun e9 => ?_) (fun e9 => ?_)
          · walk_at "rd"
            refine ⟨rfl, by simp, fun d nd => badA Db Hb d gb ?_ nd⟩
            rw [ely, if_neg fun z => by rw [z] at e9; exact absurd e9 (by decide)]
          · have hN : N = [] := by
              rw [List.length_map] at e9
              exact List.eq_nil_of_length_eq_zero (by omega)
            walk_at "rd"
            refine ⟨ty_l hWB, ?_⟩
            walk_at "rd"
            refine s_append hWB (by rw [List.length_map]; exact small1000 (by omega)) ?_
            walk_at "rd"
            exact fin (by rw [ely, if_pos hN, if_pos e8]) fun z => z
        · walk_at "rd"
          rcases sW.2 with ⟨k1', hwy, hWY⟩ | ⟨k1', k2', _, hWN⟩
          · exact absurd k1' e8
          refine ⟨ty_l hWB, ?_⟩
          walk_at "rd"
          refine s_append hWB (by rw [List.length_map]; exact small1000 (by omega)) ?_
          walk_at "rd"
          exact fin (by rw [el1, if_neg e8, if_pos k1', ← hWN, est, if_neg e8]) fun z => z
      · walk_at "rd"
        refine jtD (fun e7 => ?_) (fun e7 => ?_)
        · have hne : W ≠ [] := fun z => by rw [z] at e7; exact absurd e7 (by decide)
          have hll := (sW.1.wds.ok _ (lastS_mem hne)).1
          walk_at "rd"
          refine ⟨wd, rfl, by omega, fun q1 nq1 => ?_⟩
          have gb1 := (Gr.refl (m := No) gA.sub).ice (o := .tup [.int wd.length, .str wd]) nq1
          have hWl1 := gb1.all.seq hWl
          walk_at "rd"
          refine s_ix_l hWl1 (last_at hne) ?_
          walk_at "rd"
          refine ⟨lastS W, rfl, le1000 (by omega), fun q2 nq2 => ?_⟩
          have gb2 := gb1.ice (o := .tup [.int (lastS W).length, .str (lastS W)]) nq2
          have n12 : q1 ≠ q2 := fun e => by rw [← e, upd_same] at nq2; cases nq2
          refine s_leIS (p := kS wd) (q := kS (lastS W)) (sqt ((upd_ne n12).trans upd_same)) (sqt upd_same) ?_
          walk_at "rd"
          refine jtNB (fun e8 => ?_) (fun e8 => ?_)
          · walk_at "rd"
            refine ⟨rfl, by simp, fun d nd => badA _ _ d gb2 (en ?_) nd⟩
            rw [es, if_pos ⟨hne, e8⟩]
          · walk_at "rd"
            refine rest _ _ ⟨_, gb2, ?_, rfl⟩
            rw [es, if_neg fun z => by
              have h1 : ltIS (kS (lastS W)) (kS wd) = false := z.2
              rw [e8] at h1
              cases h1]
        · walk_at "rd"
          refine rest _ _ ⟨Da, Gr.refl gA.sub, ?_, rfl⟩
          rw [es, if_neg fun z => e7 (by
            rw [List.length_map]
            have : 0 < W.length := List.length_pos_iff.mpr z.1
            omega)]
    · rintro σ H3 ⟨D3, o4, o5, o6, o7, o8, Y, N, g, hDa, hDe, hHa, hHe, sY, sN, rfl, ego⟩
      have el : lr.drop (lr.map V.str).length = [] := List.drop_of_length_le (by simp)
      rw [el] at ego
      have ego' : goS ls lr 0 [] [] = .ok (Y, N) := ego.symm
      have hd3 := g.same'.seq hdD7
      have hld3 := g.same' _ _ hldD7
      have gN : Gr No D H D3 H3 := g7.transN g fun x hx => hx.elim (fun e => e ▸ hHy) fun e => e ▸ hHn
      walk_at "rd"
      refine s_ix_l hd3 (atI_i (j := 1) rfl rfl) ?_
      walk_at "rd"
      refine ⟨ld, _, rfl, kvL_get hld3 "yes", ?_⟩
      walk_at "rd"
      refine ⟨ld, _, rfl, kvL_get hld3 "no", ?_⟩
      walk_at "rd"
      intro x dx nx ndx ne
      have nx' : (upd H3 dx (.own x)) x = none := (upd_ne (Ne.symm ne)).trans nx
      have gM := (gN.lay (o := .own x) ndx).lay (o := .ins (ga K "Sample") dx []) nx'
      have kk : ∀ b o, H3 b = some o → (upd (upd H3 dx (.own x)) x (.ins (ga K "Sample") dx [])) b = some o := fun b o e => by
        rw [upd_ne (ne_of_none e nx), upd_ne (ne_of_none e ndx)]
        exact e
      refine ⟨D3, x, dx, ls, ya, na, Y, N, rfl, e3, hl4, gM.sub, gN.free nx, upd_same, sql (kk _ _ hHa), sql (kk _ _ hHe), ne_of_none hHa nx, ne_of_none hHe nx, sY.wds, sN.wds, fun D' H' vp vq gF hDx hHx dp dq => ⟨rfl, ?_⟩⟩
      rw [sor_inO sY] at dp
      rw [sor_inO sN] at dq
      have sX : Same D' (upd D' x (.ins (ga K "Sample") dx [("letters", .str ls), ("yes", vp), ("no", vq)])) := same_new hDx
      exact qk (upd D' x (.ins (ga K "Sample") dx [("letters", .str ls), ("yes", vp), ("no", vq)])) H' (.ref x) ls Y N (by rw [erd, ego']) ((gM.transN gF fun y hy => hy ▸ gN.kept x nx).cold hHx (gN.kept x nx)) ⟨x, dx, vp, vq, rfl, upd_same, _root_.Y.Dp.mono sX dp, _root_.Y.Dp.mono sX dq⟩
end
end H91

namespace H91
open PySem PySem.Spec L2 He Y Hk91
local macro_rules | `(tactic| walk_at "rd1") => `(tactic| first
  | with_reducible refine s_seq ?_
  | with_reducible refine s_asg ?_
  | with_reducible refine s_gname ?_
  | ((with_reducible refine s_var (v := ?_) ?_ ?_); rotate_left; exact rfl)
  | with_reducible refine s_c ?_
  | with_reducible refine s_op ?_
  | with_reducible refine s_un ?_
  | with_reducible refine s_nil ?_
  | with_reducible refine s_cons ?_
  | with_reducible refine s_CB ?_
  | with_reducible refine s_ifS ?_
  | with_reducible refine s_test ?_
  | with_reducible refine s_B ?_
  | with_reducible refine s_xb ?_
  | with_reducible refine s_xi ?_
  | with_reducible refine s_xs ?_
  | with_reducible refine s_or ?_
  | with_reducible refine s_and ?_
  | with_reducible refine s_not ?_
  | with_reducible refine s_orV ?_
  | with_reducible refine s_andV ?_
  | with_reducible refine s_notV ?_
  | with_reducible refine s_ret ?_
  | with_reducible refine s_retN ?_
  | with_reducible refine s_next ?_
  | with_reducible refine s_drop ?_
  | with_reducible refine s_yes ?_
  | with_reducible refine s_for ?_
  | with_reducible refine s_lc ?_
  | with_reducible refine s_iStr ?_
  | with_reducible refine s_iList ?_
  | with_reducible refine s_iTup ?_
  | with_reducible refine s_iR1 ?_
  | with_reducible refine s_iR2 ?_
  | with_reducible refine s_iE ?_
  | with_reducible refine s_iET ?_
  | with_reducible refine s_iES ?_
  | with_reducible refine s_tup ?_
  | with_reducible refine s_lst ?_
  | with_reducible refine s_BM ?_
  | with_reducible refine s_BM0 ?_
  | with_reducible refine s_BMS ?_
  | with_reducible refine s_M1 ?_
  | with_reducible refine s_sl ?_
  | with_reducible refine s_noP ?_
  | with_reducible refine s_po ?_
  | with_reducible refine s_call ?_
  | with_reducible refine s_callS ?_
  | with_reducible refine s_make ?_
  | with_reducible refine s_makeS ?_
  | with_reducible refine s_methS ?_
  | with_reducible refine s_callO ?_
  | with_reducible refine s_dnew ?_
  | with_reducible refine s_dget ?_
  | with_reducible refine s_din ?_
  | with_reducible refine s_dnin ?_
  | with_reducible refine s_dput ?_
  | with_reducible refine s_dsetd ?_
  | with_reducible refine s_dget2 ?_
  | with_reducible refine s_fld ?_
  | with_reducible refine s_sFld ?_
  | with_reducible refine s_rz ?_
  | with_reducible refine s_asgS ?_
  | with_reducible refine s_gSub ?_
  | with_reducible refine s_ifE ?_
  | with_reducible refine s_add_i ?_
  | with_reducible refine s_sub ?_
  | with_reducible refine s_neg ?_
  | with_reducible refine s_eq_i ?_
  | with_reducible refine s_eq_s ?_
  | with_reducible refine s_ne_i ?_
  | with_reducible refine s_ne_s ?_
  | with_reducible refine s_lt_i ?_
  | with_reducible refine s_le_i ?_
  | with_reducible refine s_gt_i ?_
  | with_reducible refine s_ge_i ?_
  | with_reducible refine s_lt_s ?_
  | with_reducible refine s_le_s ?_
  | with_reducible refine s_gt_s ?_
  | with_reducible refine s_ge_s ?_
  | with_reducible refine s_in_c ?_
  | with_reducible refine s_ni_c ?_
  | with_reducible refine s_isN ?_
  | with_reducible refine s_noN ?_
  | with_reducible refine s_abs ?_
  | with_reducible refine s_min2 ?_
  | with_reducible refine s_max2 ?_
  | with_reducible refine s_int_i ?_
  | ((with_reducible refine s_len_s ?_ ?_); assumption)
  | ((with_reducible refine s_len_l (xs := ?_) ?_ ?_); rotate_left; assumption)
  | ((with_reducible refine s_len_t (xs := ?_) ?_ ?_); rotate_left; assumption)
  | with_reducible refine s_pair upd_same ?_
  | with_reducible refine s_callS ?_
  | with_reducible refine s_sortK ?_
  | with_reducible refine s_disp ?_
  | with_reducible refine s_pcons ?_
  | with_reducible refine s_pnil ?_
  | ((with_reducible refine s_ix_t (by assumption) (by first | exact atI_0 | exact atI_i (j := 1) rfl rfl | exact atI_i (j := 2) rfl rfl | exact atI_i (j := 3) rfl rfl) ?_))
  | with_reducible refine jtT ?_
  | with_reducible refine jtF ?_
  | with_reducible refine jtNT ?_
  | with_reducible refine jtNF ?_
  | dsimp only)
local macro_rules | `(tactic| walk_at "rd") => `(tactic| repeat (walk_at "rd1"))

local macro_rules | `(tactic| walk_at "nx") => `(tactic| repeat (first
  | walk_at "rd1"
  | with_reducible refine s_u0 ?_
  | with_reducible refine s_u1 ?_
  | with_reducible refine s_u2 ?_
  | with_reducible refine s_u3 ?_
  | with_reducible refine s_w1 ?_
  | with_reducible refine s_w2 ?_
  | with_reducible refine s_w3 ?_))
section
variable {P : Program} {w : World} {K : PySem.W.Frag} {mg : Str → Option Value} {base : Heap}
theorem S_law_start : FnScope ["script", "cells", "cell"] ["script"] (d_law_start).scope := ⟨rfl, rfl, rfl, by decide +kernel, rfl, by decide +kernel, by decide +kernel⟩
def sp_law_start (K : PySem.W.Frag) : Sp := fun vs H Q E => ∃ (a : Addr) (ns : List Int), vs = [.ref a] ∧ SqL K H a (ns.map V.int) ∧ ns.length ≤ 63 ∧ ∀ D' H' st, Gr No H H D' H' → Stt K D' H' st → H st = none → Q (.ref st) H'
theorem w_law_start (T : Txt P w K mg) : Has P w K mg base 3 "_law_start" (sp_law_start K) := by
  have S := S_law_start
  refine has_of (k := 2) T.d_law_start T.gd_law_start S (fun _ _ _ _ _ _ us hl => match us, hl with | [_], _ => rfl) (fun vs H Q E h => ?_) (fun f cdv A outer s H vs Q E hr h => ?_)
  · obtain ⟨a, ns, rfl, _⟩ := h
    rfl
  · obtain ⟨a, ns, rfl, ha, hl, q⟩ := h
    refine ⟨_, (pss_cons (ps_setLc (i := 1) (own := [("cell", 2)]) rfl S.nd rfl rfl (sw_true rfl rfl rfl (by decide +kernel)) (piK_list K (pv 0)) (blkOk_by (by rfl)) (fun _ _ _ _ _ => (pg_name (i := 2) S.nd rfl (Or.inl rfl))) (fun _ _ _ _ _ => pts_nil) (fun _ _ _ _ _ => (pe_callB b_abs (by rfl) T.b_abs (by decide +kernel) (pa_cons (pv 2) pa_nil))))
    (pss_cons (ps_if (pt_cmpR (cK_eq K hr.units) (pe_callB (bK_len K) (by rfl) T.b_len (by decide +kernel) (pa_cons (pv 1) pa_nil)) pe_int (nomark _))
      (pss_one (ps_set (i := 1) S.nd rfl (Or.inl rfl) (pe_lst (pa_cons pe_int pa_nil))))
      pss_nil)
    (pss_one (ps_ret (pe_lst (pa_cons (pv 1) (pa_cons pe_int (pa_cons pe_int (pa_cons pe_int pa_nil))))))))), ?_⟩
    have fin : ∀ (H1 : Hp) (D1 : Hp) (p : Addr) (xs : List V) (cells : List Int), xs = cells.map V.int → Gr No H H D1 H1 → H p = none → SqL K D1 p xs → 1 ≤ cells.length → ∀ st, H1 st = none → Q (.ref st) (upd H1 st (.lst [.ref p, .int 0, .int 0, .int 0])) := by
      intro H1 D1 p xs cells e g np hp h1 st nst
      exact q D1 _ st (g.lay nst) ⟨⟨p, 0, 0, 0, cells, upd_same, e ▸ hp, h1⟩, g.free nst⟩ (g.kept _ nst)
    walk_at "rd"
    refine ⟨a, rfl, ⟨_, ha⟩, fun p np => lq_map walk_list (ns.map fun n => V.int (if n < 0 then -n else n)) (by simp) (by rw [List.length_map]; exact le1000 (by omega)) np (fun acc => ((Gr.refl (m := No) (Same.refl H)).lay np).all.seq ha) ?_ ?_⟩
    · rintro i x acc H' N hi ⟨rfl, ex⟩ hN hlt
      rw [List.getElem?_map] at ex
      obtain ⟨n, hn, rfl⟩ := Option.map_eq_some_iff.mp ex
      walk_at "rd"
      refine ⟨rfl, ?_⟩
      walk_at "rd"
      refine lq_put hlt (hN _ ?_)
      rw [List.getElem?_map, hn]
      rfl
    · have g1 := (Gr.refl (m := No) (Same.refl H)).ice (o := .lst (ns.map fun n => V.int (if n < 0 then -n else n))) np
      have hp1 : SqL K (upd H p (.lst (ns.map fun n => V.int (if n < 0 then -n else n)))) p (ns.map fun n => V.int (if n < 0 then -n else n)) := sql upd_same
      walk_at "rd"
      refine jtD (fun e => ?_) (fun e => ?_)
      · walk_at "rd"
        refine ⟨le1000 (by simp), fun p2 np2 => ?_⟩
        have g2 := g1.ice (o := .lst [.int 0]) np2
        walk_at "rd"
        refine ⟨le1000 (by simp), fun st nst => ?_⟩
        walk_at "rd"
        exact fin _ _ p2 [.int 0] [0] rfl g2 (g1.kept _ np2) (sql upd_same) (by simp) st nst
      · walk_at "rd"
        refine ⟨le1000 (by simp), fun st nst => ?_⟩
        walk_at "rd"
        refine fin _ _ p _ (ns.map fun n => if n < 0 then -n else n) (by rw [List.map_map]; rfl) g1 np hp1 ?_ st nst
        rw [List.length_map] at e ⊢
        omega
theorem S_law_next : FnScope ["state", "many", "cells", "cell", "turn", "mixed", "told"] ["state", "many"] (d_law_next).scope := ⟨rfl, rfl, rfl, by decide +kernel, rfl, by decide +kernel, by decide +kernel⟩
def sp_law_next (K : PySem.W.Frag) : Sp := fun vs H Q E => ∃ (D : Hp) (st : Addr) (many : Int), vs = [.ref st, .int many] ∧ 0 < many ∧ many ≤ 2 ^ 62 ∧ Same D H ∧ Stt K D H st ∧ ∀ D' H' r, Gr (· = st) D H D' H' → Stt K D' H' st → 0 ≤ r → r < many → Q (.int r) H'
theorem w_law_next (T : Txt P w K mg) : Has P w K mg base 3 "_law_next" (sp_law_next K) := by
  have S := S_law_next
  refine has_of (k := 2) T.d_law_next T.gd_law_next S (fun _ _ _ _ _ _ us hl => match us, hl with | [_, _], _ => rfl) (fun vs H Q E h => ?_) (fun f cdv A outer s H vs Q E hr h => ?_)
  · obtain ⟨D, st, many, rfl, _⟩ := h
    rfl
  · obtain ⟨D, st, many, rfl, hm, hm2, sm, X, q⟩ := h
    obtain ⟨⟨c, a, b, e, cells, hst, hc, h1⟩, hD⟩ := X
    refine ⟨_, (pss_cons (ps_set (i := 2) S.nd rfl (Or.inl rfl) (pe_ix (ixK_seq K) (pv 0) pe_int (fun _ _ => rfl)))
    (pss_cons (ps_set (i := 3) S.nd rfl (Or.inl rfl) (pe_ix (ixK_seq K) (pv 2) (pe_op o_mod (pe_callTy b_int (by rfl) T.b_int (by decide +kernel) (pa_cons (pe_ix (ixK_seq K) (pv 0) pe_int (fun _ _ => rfl)) pa_nil)) (pe_callB (bK_len K) (by rfl) T.b_len (by decide +kernel) (pa_cons (pv 2) pa_nil))) (fun _ _ => rfl)))
    (pss_cons (ps_if (PW.pt (pw_and (pt_cmpR c_ge (pv 3) (pe_op o_pow pe_int pe_int) (nomark _)) (pw_and1 (pt_cmpR c_lt (pe_ix (ixK_seq K) (pv 0) pe_int (fun _ _ => rfl)) (pe_callB (bK_len K) (by rfl) T.b_len (by decide +kernel) (pa_cons (pv 2) pa_nil)) (nomark _)))))
      (pss_cons (ps_if (pt_cmpR (cK_eq K hr.units) (pe_ix (ixK_seq K) (pv 0) pe_int (fun _ _ => rfl)) pe_int (nomark _))
      (pss_one (ps_asg (pv 3) (pg_sub (pv 0) pe_int set_list)))
      pss_nil)
    (pss_cons (ps_set (i := 6) S.nd rfl (Or.inl rfl) (pe_op o_mod (pe_callTy b_int (by rfl) T.b_int (by decide +kernel) (pa_cons (pe_ix (ixK_seq K) (pv 0) pe_int (fun _ _ => rfl)) pa_nil)) (pv 1)))
    (pss_cons (ps_asg (pe_op o_fdiv (pe_callTy b_int (by rfl) T.b_int (by decide +kernel) (pa_cons (pe_ix (ixK_seq K) (pv 0) pe_int (fun _ _ => rfl)) pa_nil)) (pv 1)) (pg_sub (pv 0) pe_int set_list))
    (pss_cons (ps_asg (pe_op (oK_add K) (pe_ix (ixK_seq K) (pv 0) pe_int (fun _ _ => rfl)) pe_int) (pg_sub (pv 0) pe_int set_list))
    (pss_cons (ps_if (PW.pt (pw_or (pt_cmpR (cK_eq K hr.units) (pe_ix (ixK_seq K) (pv 0) pe_int (fun _ _ => rfl)) pe_int (nomark _)) (pw_or1 (pt_cmpR c_ge (pe_ix (ixK_seq K) (pv 0) pe_int (fun _ _ => rfl)) pe_int (nomark _)))))
      (pss_cons (ps_asg (pe_op (oK_add K) (pe_ix (ixK_seq K) (pv 0) pe_int (fun _ _ => rfl)) pe_int) (pg_sub (pv 0) pe_int set_list))
    (pss_one (ps_asg pe_int (pg_sub (pv 0) pe_int set_list))))
      pss_nil)
    (pss_one (ps_ret (pv 6))))))))
      pss_nil)
    (pss_cons (ps_set (i := 4) S.nd rfl (Or.inl rfl) (pe_op (oK_add K) (pe_ix (ixK_seq K) (pv 0) pe_int (fun _ _ => rfl)) (pe_op o_mul pe_int (pe_ix (ixK_seq K) (pv 0) pe_int (fun _ _ => rfl)))))
    (pss_cons (ps_set (i := 5) S.nd rfl (Or.inl rfl) (pe_op o_mul (pe_op (oK_add K) (pe_op o_mod (pe_callTy b_int (by rfl) T.b_int (by decide +kernel) (pa_cons (pv 3) pa_nil)) pe_int) pe_int) (pe_op (oK_add K) pe_int (pe_op o_mul pe_int (pv 4)))))
    (pss_cons (ps_set (i := 5) S.nd rfl (Or.inl rfl) (pe_op o_mod (pe_callTy b_int (by rfl) T.b_int (by decide +kernel) (pa_cons (pv 5) pa_nil)) pe_int))
    (pss_cons (ps_set (i := 5) S.nd rfl (Or.inl rfl) (pe_op o_mod (pe_callTy b_int (by rfl) T.b_int (by decide +kernel) (pa_cons (pe_op (oK_add K) (pe_op (oK_add K) (pe_op o_mul (pv 5) (pv 5)) (pe_op o_mul pe_int (pv 4))) pe_int) pa_nil)) pe_int))
    (pss_cons (ps_asg (pe_op (oK_add K) (pe_ix (ixK_seq K) (pv 0) pe_int (fun _ _ => rfl)) pe_int) (pg_sub (pv 0) pe_int set_list))
    (pss_cons (ps_if (pt_cmpR c_ge (pe_ix (ixK_seq K) (pv 0) pe_int (fun _ _ => rfl)) pe_int (nomark _))
      (pss_cons (ps_asg (pe_op (oK_add K) (pe_ix (ixK_seq K) (pv 0) pe_int (fun _ _ => rfl)) pe_int) (pg_sub (pv 0) pe_int set_list))
    (pss_one (ps_asg pe_int (pg_sub (pv 0) pe_int set_list))))
      pss_nil)
    (pss_one (ps_ret (pe_op o_mod (pe_callTy b_int (by rfl) T.b_int (by decide +kernel) (pa_cons (pe_op o_fdiv (pv 5) pe_int) pa_nil)) (pv 1))))))))))))), ?_⟩
    have hcH := sm.seq hc
    have fin : ∀ (a b e r : Int), 0 ≤ r → r < many → Q (.int r) (upd H st (.lst [.ref c, .int a, .int b, .int e])) := fun a b e r h0 h2 =>
      q D _ r ((Gr.refl sm).put hD (.inr rfl)) ⟨⟨c, a, b, e, cells, upd_same, hc, h1⟩, hD⟩ h0 h2
    have hs : ∀ (xs : List V), SqL K (upd H st (.lst xs)) c (cells.map V.int) := fun xs => ((Gr.refl (m := (· = st)) sm).put (o := .lst xs) hD (.inr rfl)).same'.seq hc
    have hlc : (0 : Int) < ((cells.map V.int).length : Int) := by
      rw [List.length_map]
      omega
    have eH : upd H st (.lst [.ref c, .int a, .int b, .int e]) = H := by
      funext y
      by_cases hy : y = st
      · rw [hy, upd_same, hst]
      · rw [upd_ne hy]
    have hcU := hs [.ref c, .int a, .int b, .int e]
    rw [← eH]
    walk_at "nx"
    refine s_mod hlc ?_
    have hr0 := Int.emod_nonneg a (Int.ne_of_gt hlc)
    have hr1 := Int.emod_lt_of_pos a hlc
    obtain ⟨cell, hcell⟩ : ∃ cell, cells[(a % ((cells.map V.int).length : Int)).toNat]? = some cell := by
      refine ⟨cells[(a % ((cells.map V.int).length : Int)).toNat]'?_, List.getElem?_eq_getElem ?_⟩ <;> · rw [List.length_map] at hr0 hr1 ⊢; omega
    refine s_ix_l hcU (v := .int cell) (atI_i (j := (a % ((cells.map V.int).length : Int)).toNat) (by omega) (by rw [List.getElem?_map, hcell]; rfl)) ?_
    have hdv : ∀ n : Int, CDivW n many := fun n => ⟨hm, (Nat.log2_lt (by omega)).mpr (Nat.lt_of_le_of_lt (show many.natAbs ≤ 2 ^ 62 by omega) (Nat.pow_lt_pow_right (by decide) (by decide)))⟩
    have big : ∀ r : Int, 0 ≤ r % many ∧ r % many < many := fun r => ⟨Int.emod_nonneg r (Int.ne_of_gt hm), Int.emod_lt_of_pos r hm⟩
    with_reducible refine s_gname ?_
    refine s_cut (fun σ' H' => σ' = [some (.ref st), some (.int many), some (.ref c), some (.int cell), none, none, none] ∧ H' = upd H st (.lst [.ref c, .int a, .int b, .int e])) ?_ (fun N rest => ?_)
    · rintro σ' H' ⟨rfl, rfl⟩
      have m29 : (0 : Int) < 2147483629 := by decide
      have m47 : (0 : Int) < 2147483647 := by decide
      have b29 : ∀ x : Int, 0 ≤ x % 2147483629 ∧ x % 2147483629 < 2147483629 := fun x => ⟨Int.emod_nonneg x (by decide), Int.emod_lt_of_pos x m29⟩
      have b47 : ∀ x : Int, 0 ≤ x % 2147483647 ∧ x % 2147483647 < 2147483647 := fun x => ⟨Int.emod_nonneg x (by decide), Int.emod_lt_of_pos x m47⟩
      walk_at "nx"
      refine s_mul (.inl (by decide)) ?_
      walk_at "nx"
      refine s_mod m29 ?_
      walk_at "nx"
      refine s_mul (.inl (by decide)) ?_
      walk_at "nx"
      refine s_mul (.inl (by have := b29 cell; omega)) ?_
      walk_at "nx"
      refine s_mod m47 ?_
      walk_at "nx"
      refine s_mul (.inl (by have := b47 ((cell % 2147483629 + 1) * (48271 + 2 * (e + 7 * a))); omega)) ?_
      walk_at "nx"
      refine s_mul (.inl (by decide)) ?_
      walk_at "nx"
      refine s_mod m29 ?_
      walk_at "nx"
      refine jtD (fun e3 => ?_) (fun e3 => ?_)
      · walk_at "nx"
        refine s_div ⟨by decide, by decide⟩ ?_
        walk_at "nx"
        refine s_mod hm ?_
        exact fin _ _ _ _ (big _).1 (big _).2
      · walk_at "nx"
        refine s_div ⟨by decide, by decide⟩ ?_
        walk_at "nx"
        refine s_mod hm ?_
        exact fin _ _ _ _ (big _).1 (big _).2
    walk_at "nx"
    refine s_pow ⟨by decide, by decide, by decide⟩ ?_
    walk_at "nx"
    refine jtD (fun e1 => ?_) (fun e1 => ?_)
    · walk_at "nx"
      refine jtD (fun e2 => ?_) (fun e2 => ?_)
      · refine s_cut (fun σ' H' => ∃ b', σ' = [some (.ref st), some (.int many), some (.ref c), some (.int cell), none, none, none] ∧ H' = upd H st (.lst [.ref c, .int a, .int b', .int e])) ?_ (fun N rest => ?_)
        · rintro σ' H' ⟨b', rfl, rfl⟩
          walk_at "nx"
          refine s_mod hm ?_
          walk_at "nx"
          refine s_div (hdv _) ?_
          walk_at "nx"
          refine jtD (fun e3 => ?_) (fun e3 => ?_)
          · walk_at "nx"
            exact fin _ _ _ _ (big _).1 (big _).2
          · walk_at "nx"
            refine jtD (fun e4 => ?_) (fun e4 => ?_)
            · walk_at "nx"
              exact fin _ _ _ _ (big _).1 (big _).2
            · walk_at "nx"
              exact fin _ _ _ _ (big _).1 (big _).2
        · walk_at "nx"
          refine jtD (fun e3 => ?_) (fun e3 => ?_)
          · walk_at "nx"
            exact rest _ _ ⟨_, rfl, rfl⟩
          · walk_at "nx"
            exact rest _ _ ⟨_, rfl, rfl⟩
      · walk_at "nx"
        exact rest _ _ ⟨rfl, rfl⟩
    · walk_at "nx"
      exact rest _ _ ⟨rfl, rfl⟩
theorem S_law_integer : FnScope ["actual"] ["actual"] (d_law_integer).scope := ⟨rfl, rfl, rfl, by decide +kernel, rfl, by decide +kernel, by decide +kernel⟩
def sp_integer : Sp := fun vs H Q E => ∃ n : Int, vs = [.int n] ∧ Q (.bl true) H
theorem w_law_integer (T : Txt P w K mg) : Has P w K mg base 3 "_law_integer" sp_integer := by
  have S := S_law_integer
  refine has_of (k := 2) T.d_law_integer T.gd_law_integer S (fun _ _ _ _ _ _ us hl => match us, hl with | [_], _ => rfl) (fun vs H Q E h => ?_) (fun f cdv A outer s H vs Q E hr h => ?_)
  · obtain ⟨n, rfl, _⟩ := h
    rfl
  · obtain ⟨n, rfl, q⟩ := h
    refine ⟨_, (pss_one (ps_ret (pe_and (pe_callB call_isi (by rfl) T.b_isinstance (by decide +kernel) (pa_cons (pv 0) (pa_cons (pe_gT (T := "int") (by rfl) T.b_int (by decide +kernel)) pa_nil))) (pe_one (pe_not (pe_callB call_isi (by rfl) T.b_isinstance (by decide +kernel) (pa_cons (pv 0) (pa_cons (pe_gT (T := "bool") (by rfl) T.b_bool (by decide +kernel)) pa_nil)))))))), ?_⟩
    walk_at "rd"
    refine ⟨.int n, .ty "int", .type "int", .type "int", true, rfl, .ty _, .base (.int n), rfl, ?_⟩
    walk_at "rd"
    refine ⟨.int n, .ty "bool", .type "int", .type "bool", false, rfl, .ty _, .base (.int n), rfl, ?_⟩
    walk_at "rd"
    exact q
theorem S_law_word : FnScope ["state", "letters", "size", "word", "k"] ["state", "letters", "size"] (d_law_word).scope := ⟨rfl, rfl, rfl, by decide +kernel, rfl, by decide +kernel, by decide +kernel⟩
def sp_word (K : PySem.W.Frag) : Sp := fun vs H Q E => ∃ (D : Hp) (st : Addr) (l : Str) (n : Nat), vs = [.ref st, .str l, .int (n : Nat)] ∧ 1 ≤ l.length ∧ l.length ≤ 1000 ∧ n ≤ 1000 ∧ Same D H ∧ Stt K D H st ∧
  ∀ D' H' z, Gr (· = st) D H D' H' → Stt K D' H' st → z.length = n → (∀ c ∈ z.cps.toList, c ∈ l.cps.toList) → Q (.str z) H'
theorem w_law_word (T : Txt P w K mg) : Has P w K mg base 4 "_law_word" (sp_word K) := by
  have S := S_law_word
  have G_law_next := w_law_next (base := base) T
  refine has_of (k := 3) T.d_law_word T.gd_law_word S (fun _ _ _ _ _ _ us hl => match us, hl with | [_, _, _], _ => rfl) (fun vs H Q E h => ?_) (fun f cdv A outer s H vs Q E hr h => ?_)
  · obtain ⟨D, st, l, n, rfl, _⟩ := h
    rfl
  · obtain ⟨D, st, l, n, rfl, hl1, hl2, hn, sm, X, q⟩ := h
    have hlz := le1000 hl2
    refine ⟨_, (pss_cons (ps_set (i := 3) S.nd rfl (Or.inl rfl) pe_str)
    (pss_cons (ps_for (passes_of rfl) rfl (pi_range1 (by rfl) T.b_range (pa_cons (pv 2) pa_nil)) (pg_name (i := 4) S.nd rfl (Or.inl rfl))
      (pss_one (ps_set (i := 3) S.nd rfl (Or.inl rfl) (pe_op (oK_add K) (pv 3) (pe_ix (ixK_seq K) (pv 1) (pe_has G_law_next (hr.mono (by decide)) (takes_of rfl rfl rfl rfl) rfl (pa_cons (pv 0) (pa_cons (pe_callB (bK_len K) (by rfl) T.b_len (by decide +kernel) (pa_cons (pv 1) pa_nil)) pa_nil))) (fun _ _ => rfl))))))
    (pss_one (ps_ret (pv 3))))), ?_⟩
    walk_at "rd"
    refine ⟨_, rfl, by omega, by omega, lp_it walk_r0 (fun i σ H' => ∃ D' z o4, Gr (· = st) D H D' H' ∧ Stt K D' H' st ∧ z.length = i ∧ (∀ c ∈ z.cps.toList, c ∈ l.cps.toList) ∧ σ = [some (.ref st), some (.str l), some (.int (n : Nat)), some (.str z), o4]) ⟨D, "", none, Gr.refl sm, X, rfl, fun c z => (nomatch z), rfl⟩ (fun _ _ _ _ _ => trivial) ?_ ?_⟩
    · rintro i x σ H1 H2 hi ⟨D1, z, o4, g, X1, hz, hc, rfl⟩ ⟨rfl, rfl⟩
      have hi2 : i < n := by omega
      walk_at "rd"
      refine ⟨D1, st, _, rfl, by omega, by omega, g.sub, X1, fun D3 H3 r g3 X3 r0 r1 => ?_⟩
      have hr : r.toNat < l.length := by omega
      refine s_ix_s hlz (atI_i (j := r.toNat) (by omega) (List.getElem?_eq_getElem (by rw [len_list]; exact hr))) ?_
      refine s_add_s (leBig (by have : (⟨#[l.cps.toList[r.toNat]'(by rw [len_list]; exact hr)]⟩ : Str).length = 1 := rfl; omega)) ?_
      walk_at "rd"
      refine ⟨D3, _, _, g.trans g3, X3, ?_, ?_, rfl⟩
      · rw [app_len, hz]
        rfl
      · intro c hcm
        have hcm : c ∈ TL.tl (z ++ _) := hcm
        rw [TL.tl_append] at hcm
        rcases List.mem_append.mp hcm with hcm | hcm
        · exact hc c hcm
        · have : c = l.cps.toList[r.toNat]'(by rw [len_list]; exact hr) := List.mem_singleton.mp hcm
          rw [this]
          exact List.getElem_mem _
    · rintro σ H1 ⟨D1, z, o4, g, X1, hz, hc, rfl⟩
      walk_at "rd"
      exact q D1 H1 z g X1 (by rw [hz]; exact Int.toNat_natCast n) hc
theorem S_law_alphabet : FnScope ["state", "many", "signs", "at", "told", "k"] ["state", "many"] (d_law_alphabet).scope := ⟨rfl, rfl, rfl, by decide +kernel, rfl, by decide +kernel, by decide +kernel⟩
def sp_alphabet (K : PySem.W.Frag) : Sp := fun vs H Q E => ∃ (D : Hp) (st : Addr) (n : Nat), vs = [.ref st, .int (n : Nat)] ∧ 1 ≤ n ∧ n ≤ 4 ∧ Same D H ∧ Stt K D H st ∧
  ∀ D' H' z, Gr (· = st) D H D' H' → Stt K D' H' st → z.length = n → okLetters z = true → Q (.str z) H'
theorem w_law_alphabet (T : Txt P w K mg) : Has P w K mg base 4 "_law_alphabet" (sp_alphabet K) := by
  have S := S_law_alphabet
  have G_law_next := w_law_next (base := base) T
  refine has_of (k := 3) T.d_law_alphabet T.gd_law_alphabet S (fun _ _ _ _ _ _ us hl => match us, hl with | [_, _], _ => rfl) (fun vs H Q E h => ?_) (fun f cdv A outer s H vs Q E hr h => ?_)
  · obtain ⟨D, st, n, rfl, _⟩ := h
    rfl
  · obtain ⟨D, st, n, rfl, hn1, hn4, sm, X, q⟩ := h
    have hSM : SM.length ≤ sizeLine := by decide
    refine ⟨_, (pss_cons (ps_set (i := 2) S.nd rfl (Or.inl rfl) pe_str)
    (pss_cons (ps_set (i := 3) S.nd rfl (Or.inl rfl) (pe_has G_law_next (hr.mono (by decide)) (takes_of rfl rfl rfl rfl) rfl (pa_cons (pv 0) (pa_cons (pe_op o_sub pe_int (pe_op o_mul pe_int (pe_op o_sub (pv 1) pe_int))) pa_nil))))
    (pss_cons (ps_set (i := 4) S.nd rfl (Or.inl rfl) (pe_ix (ixK_seq K) (pv 2) (pv 3) (fun _ _ => rfl)))
    (pss_cons (ps_for (passes_of rfl) rfl (pi_range1 (by rfl) T.b_range (pa_cons (pe_op o_sub (pv 1) pe_int) pa_nil)) (pg_name (i := 5) S.nd rfl (Or.inl rfl))
      (pss_cons (ps_set (i := 3) S.nd rfl (Or.inl rfl) (pe_op (oK_add K) (pe_op (oK_add K) (pv 3) pe_int) (pe_has G_law_next (hr.mono (by decide)) (takes_of rfl rfl rfl rfl) rfl (pa_cons (pv 0) (pa_cons pe_int pa_nil)))))
    (pss_one (ps_set (i := 4) S.nd rfl (Or.inl rfl) (pe_op (oK_add K) (pv 4) (pe_ix (ixK_seq K) (pv 2) (pv 3) (fun _ _ => rfl)))))))
    (pss_one (ps_ret (pv 4))))))), ?_⟩
    walk_at "rd"
    refine s_mul (.inl (by decide)) ?_
    walk_at "rd"
    refine ⟨D, st, _, rfl, by omega, by omega, sm, X, fun D1 H1 r g1 X1 r0 r1 => ?_⟩
    walk_at "rd"
    have hr := SM_at r.toNat (by omega)
    refine s_ix_s (s := SM) hSM (atI_i (j := r.toNat) (by omega) hr) ?_
    walk_at "rd"
    refine ⟨_, rfl, by omega, by omega, lp_it walk_r0 (fun i σ H' => ∃ D' a z l o4, Gr (· = st) D H D' H' ∧ Stt K D' H' st ∧ z.cps.toList = l ++ [97 + a] ∧ okFrom [] z.cps.toList = true ∧ z.length = i + 1 ∧ a + 6 * (n - 1 - i) < 26 ∧ σ = [some (.ref st), some (.int (n : Nat)), some (.str SM), some (.int (a : Nat)), some (.str z), o4]) ⟨D1, r.toNat, ⟨#[97 + r.toNat]⟩, [], none, g1, X1, rfl, okFrom_one (SM_mem (by omega) (by omega)), rfl, by omega, ?_⟩ (fun _ _ _ _ _ => trivial) ?_ ?_⟩
    · rw [Int.toNat_of_nonneg r0]
      rfl
    · rintro i x σ H2 H3 hi ⟨D2, a, z, l, o4, g, X2, hz, hok, hl, ha, rfl⟩ ⟨rfl, rfl⟩
      have hi2 : i < n - 1 := by omega
      walk_at "rd"
      refine ⟨D2, st, _, rfl, by decide, by decide, g.sub, X2, fun D4 H4 r4 g4 X4 r40 r41 => ?_⟩
      walk_at "rd"
      have hr4 := SM_at (a + 1 + r4.toNat) (by omega)
      refine s_ix_s (s := SM) hSM (atI_i (j := a + 1 + r4.toNat) (by omega) hr4) ?_
      have l1 : (⟨#[97 + (a + 1 + r4.toNat)]⟩ : Str).length = 1 := rfl
      refine s_add_s (by rw [l1]; exact le1000 (by omega)) ?_
      walk_at "rd"
      have e : TL.tl (z ++ ⟨#[97 + (a + 1 + r4.toNat)]⟩) = l ++ [97 + a] ++ [97 + (a + 1 + r4.toNat)] := by
        rw [TL.tl_append]
        show z.cps.toList ++ [97 + (a + 1 + r4.toNat)] = _
        rw [hz]
      refine ⟨D4, a + 1 + r4.toNat, _, l ++ [97 + a], some (.int (i : Nat)), g.trans g4, X4, e, ?_, by rw [app_len, l1, hl], by omega, ?_⟩
      · show okFrom [] (TL.tl (z ++ _)) = true
        rw [e]
        rw [hz] at hok
        exact okFrom_snoc (SM_mem (by omega) (by omega)) (by omega) hok
      · have : (a : Int) + 1 + r4 = ((a + 1 + r4.toNat : Nat) : Int) := by omega
        rw [this]
        rfl
    · rintro σ H2 ⟨D2, a, z, l, o4, g, X2, hz, hok, hl, ha, rfl⟩
      walk_at "rd"
      have hl' : z.length = n := by omega
      refine q D2 H2 z g X2 hl' ?_
      have a1 : 1 ≤ z.length := by omega
      have a2 : z.length ≤ 4 := by omega
      simp [okLetters, a1, a2, hok]
end
end H91

namespace H91
open PySem PySem.Spec L2 He Y Hk91
local macro_rules | `(tactic| walk_at "rd1") => `(tactic| first
  | with_reducible refine s_seq ?_
  | with_reducible refine s_asg ?_
  | with_reducible refine s_gname ?_
  | ((with_reducible refine s_var (v := ?_) ?_ ?_); rotate_left; exact rfl)
  | with_reducible refine s_c ?_
  | with_reducible refine s_op ?_
  | with_reducible refine s_un ?_
  | with_reducible refine s_nil ?_
  | with_reducible refine s_cons ?_
  | with_reducible refine s_CB ?_
  | with_reducible refine s_ifS ?_
  | with_reducible refine s_test ?_
  | with_reducible refine s_B ?_
  | with_reducible refine s_xb ?_
  | with_reducible refine s_xi ?_
  | with_reducible refine s_xs ?_
  | with_reducible refine s_or ?_
  | with_reducible refine s_and ?_
  | with_reducible refine s_not ?_
  | with_reducible refine s_orV ?_
  | with_reducible refine s_andV ?_
  | with_reducible refine s_notV ?_
  | with_reducible refine s_ret ?_
  | with_reducible refine s_retN ?_
  | with_reducible refine s_next ?_
  | with_reducible refine s_drop ?_
  | with_reducible refine s_yes ?_
  | with_reducible refine s_for ?_
  | with_reducible refine s_lc ?_
  | with_reducible refine s_iStr ?_
  | with_reducible refine s_iList ?_
  | with_reducible refine s_iTup ?_
  | with_reducible refine s_iR1 ?_
  | with_reducible refine s_iR2 ?_
  | with_reducible refine s_iE ?_
  | with_reducible refine s_iET ?_
  | with_reducible refine s_iES ?_
  | with_reducible refine s_tup ?_
  | with_reducible refine s_lst ?_
  | with_reducible refine s_BM ?_
  | with_reducible refine s_BM0 ?_
  | with_reducible refine s_BMS ?_
  | with_reducible refine s_M1 ?_
  | with_reducible refine s_sl ?_
  | with_reducible refine s_noP ?_
  | with_reducible refine s_po ?_
  | with_reducible refine s_call ?_
  | with_reducible refine s_callS ?_
  | with_reducible refine s_make ?_
  | with_reducible refine s_makeS ?_
  | with_reducible refine s_methS ?_
  | with_reducible refine s_callO ?_
  | with_reducible refine s_dnew ?_
  | with_reducible refine s_dget ?_
  | with_reducible refine s_din ?_
  | with_reducible refine s_dnin ?_
  | with_reducible refine s_dput ?_
  | with_reducible refine s_dsetd ?_
  | with_reducible refine s_dget2 ?_
  | with_reducible refine s_fld ?_
  | with_reducible refine s_sFld ?_
  | with_reducible refine s_rz ?_
  | with_reducible refine s_asgS ?_
  | with_reducible refine s_gSub ?_
  | with_reducible refine s_ifE ?_
  | with_reducible refine s_add_i ?_
  | with_reducible refine s_sub ?_
  | with_reducible refine s_neg ?_
  | with_reducible refine s_eq_i ?_
  | with_reducible refine s_eq_s ?_
  | with_reducible refine s_ne_i ?_
  | with_reducible refine s_ne_s ?_
  | with_reducible refine s_lt_i ?_
  | with_reducible refine s_le_i ?_
  | with_reducible refine s_gt_i ?_
  | with_reducible refine s_ge_i ?_
  | with_reducible refine s_lt_s ?_
  | with_reducible refine s_le_s ?_
  | with_reducible refine s_gt_s ?_
  | with_reducible refine s_ge_s ?_
  | with_reducible refine s_in_c ?_
  | with_reducible refine s_ni_c ?_
  | with_reducible refine s_isN ?_
  | with_reducible refine s_noN ?_
  | with_reducible refine s_abs ?_
  | with_reducible refine s_min2 ?_
  | with_reducible refine s_max2 ?_
  | with_reducible refine s_int_i ?_
  | ((with_reducible refine s_len_s ?_ ?_); assumption)
  | ((with_reducible refine s_len_l (xs := ?_) ?_ ?_); rotate_left; assumption)
  | ((with_reducible refine s_len_t (xs := ?_) ?_ ?_); rotate_left; assumption)
  | with_reducible refine s_pair upd_same ?_
  | with_reducible refine s_callS ?_
  | with_reducible refine s_sortK ?_
  | with_reducible refine s_disp ?_
  | with_reducible refine s_pcons ?_
  | with_reducible refine s_pnil ?_
  | ((with_reducible refine s_ix_t (by assumption) (by first | exact atI_0 | exact atI_i (j := 1) rfl rfl | exact atI_i (j := 2) rfl rfl | exact atI_i (j := 3) rfl rfl) ?_))
  | with_reducible refine jtT ?_
  | with_reducible refine jtF ?_
  | with_reducible refine jtNT ?_
  | with_reducible refine jtNF ?_
  | dsimp only)
local macro_rules | `(tactic| walk_at "rd") => `(tactic| repeat (walk_at "rd1"))

section
variable {P : Program} {w : World} {K : PySem.W.Frag} {mg : Str → Option Value} {base : Heap}
theorem S_law_ordered : FnScope ["words", "told", "pair", "word"] ["words"] (d_law_ordered).scope := ⟨rfl, rfl, rfl, by decide +kernel, rfl, by decide +kernel, by decide +kernel⟩
def sp_ordered (K : PySem.W.Frag) : Sp := fun vs H Q E => ∃ (D : Hp) (a : Addr) (zs : List Str), vs = [.ref a] ∧ SqL K H a (zs.map V.str) ∧ zs.length ≤ 1000 ∧ (∀ z ∈ zs, z.length ≤ sizeLine) ∧ Same D H ∧
  ∀ D' H' p, Gr No D H D' H' → H p = none → D' p = none → H' p = some (.lst ((inO zs).map V.str)) → Q (.ref p) H'
theorem w_law_ordered (T : Txt P w K mg) : Has P w K mg base 3 "_law_ordered" (sp_ordered K) := by
  have S := S_law_ordered
  refine has_of (k := 2) T.d_law_ordered T.gd_law_ordered S (fun _ _ _ _ _ _ us hl => match us, hl with | [_], _ => rfl) (fun vs H Q E h => ?_) (fun f cdv A outer s H vs Q E hr h => ?_)
  · obtain ⟨D, a, zs, rfl, _⟩ := h
    rfl
  · obtain ⟨D, a, zs, rfl, ha, hl, hz, sm, q⟩ := h
    refine ⟨_, (pss_cons (ps_set (i := 1) S.nd rfl (Or.inl rfl) (pe_lst pa_nil))
    (pss_cons (ps_for (passes_of rfl) rfl (piK_list K (pe_callB (crK_sortIS K) (by rfl) T.b_sorted (by decide +kernel) (pa_cons (pe_lc (own := [("word", 3)]) (by rfl) S.nd (piK_list K (pv 0)) (blkOk_by (by rfl)) (fun _ _ _ _ _ => (pg_name (i := 3) S.nd rfl (Or.inl rfl))) (fun _ _ _ _ _ => pts_nil) (fun _ _ _ _ _ => (pe_tup (pa_cons (pe_callB (bK_len K) (by rfl) T.b_len (by decide +kernel) (pa_cons (pv 3) pa_nil)) (pa_cons (pv 3) pa_nil))))) pa_nil))) (pg_name (i := 2) S.nd rfl (Or.inl rfl))
      (pss_one (ps_if (PW.pt (pw_or (pt_cmpR (cK_eq K hr.units) (pe_callB (bK_len K) (by rfl) T.b_len (by decide +kernel) (pa_cons (pv 1) pa_nil)) pe_int (nomark _)) (pw_or1 (pt_cmpR (cK_ne K hr.units) (pe_ix (ixK_seq K) (pv 1) (pe_un o_neg pe_int) (fun _ _ => rfl)) (pe_ix (ixK_seq K) (pv 2) pe_int (fun _ _ => rfl)) (nomark _)))))
      (pss_one (ps_expr (peK_bm K PySem.F.plainAttrs_list PySem.F.slot_list_append PySem.F.type_list_append mt_append (pv 1) (pa_cons (pe_ix (ixK_seq K) (pv 2) pe_int (fun _ _ => rfl)) pa_nil))))
      pss_nil)))
    (pss_one (ps_ret (pv 1))))), ?_⟩
    walk_at "rd"
    refine ⟨Nat.zero_le _, fun td ntd => ?_⟩
    have g1 := (Gr.refl (m := No) sm).lay (o := .lst []) ntd
    have hDt := (Gr.refl (m := No) sm).free ntd
    have ht1 : (upd H td (.lst [])) td = some (.lst []) := upd_same
    walk_at "rd"
    refine ⟨a, rfl, ⟨_, g1.all.seq ha⟩, fun p np => lq_gr (m := No) walk_list D (fun i acc D2 => KysOf D2 kS (zs.take i) acc) np g1.sub ⟨rfl, fun i z e => by simp at e⟩ (fun D3 H3 g3 => (g1.trans g3).all.seq ha) ?_ ?_⟩
    · rintro i x acc D3 H3 H4 hi g3 hp hDp hR ⟨rfl, ex⟩
      rw [List.getElem?_map] at ex
      obtain ⟨z, hz1, rfl⟩ := Option.map_eq_some_iff.mp ex
      have hzl := hz z (List.mem_of_getElem? hz1)
      walk_at "rd"
      refine ⟨rfl, ?_⟩
      walk_at "rd"
      refine ⟨le1000 (by simp), fun t nt => lc_put np (fun z => z) g3 hp hDp ((Gr.refl g3.sub).ice nt) ?_ ?_⟩
      · rw [hR.len, List.length_take]
        exact small1000 (Nat.le_trans (Nat.min_le_right _ _) hl)
      · rw [List.take_add_one, hz1]
        have gi := (Gr.refl (m := No) g3.sub).ice (o := .tup [.int z.length, .str z]) nt
        exact hR.snoc (fun b o _ e => gi.dd b o e) upd_same
    · intro acc D3 H3 g3 hp hDp hR
      rw [List.length_map, List.take_length] at hR
      have gA := g1.trans g3
      have ht3 := g3.same td _ (fun z => z) ht1
      have hDt3 := g3.stay hDt ht1
      have kyH : KysOf H3 kS zs acc := ⟨hR.len, fun i z e => by
        obtain ⟨t, h1, h2⟩ := hR.is_ i z e
        exact ⟨t, h1, g3.sub _ _ h2⟩⟩
      walk_at "rd"
      refine s_sortW (sql hp) kyH fun ys ws r pw uw kw nr => ?_
      have g4 := gA.lay (o := .lst ys) nr
      have gl := (Gr.refl (m := No) gA.sub).lay (o := .lst ys) nr
      have ht4 := gl.same td _ (fun z => z) ht3
      have hw1000 : ws.length ≤ 1000 := by rw [pw.length_eq]; exact hl
      have hwz : ∀ z ∈ ws, z.length ≤ sizeLine := fun z hz' => hz z (pw.mem_iff.mp hz')
      have kw4 : KysOf (upd H3 r (.lst ys)) kS ws ys := ⟨kw.len, fun i z e => by
        obtain ⟨t, h1, h2⟩ := kw.is_ i z e
        exact ⟨t, h1, (upd_ne (ne_of_none h2 nr)).trans h2⟩⟩
      have hr4 : (upd H3 r (.lst ys)) r = some (.lst ys) := upd_same
      revert g4 ht4 kw4 hr4
      generalize (upd H3 r (.lst ys)) = H4
      intro g4 ht4 kw4 hr4
      have hyl := kw4.len
      refine ⟨r, rfl, ⟨_, sql hr4⟩, lp_it walk_list (fun i σ H' => ∃ ts o2 o3, Gr No D H D3 H' ∧ Same H4 (upd H' td (.lst [])) ∧ H' r = some (.lst ys) ∧ KysOf H' kS ws ys ∧ H' td = some (.lst (ts.map V.str)) ∧ Up ts ∧ (∀ x, x ∈ ts ↔ x ∈ ws.take i) ∧ (ts = [] ↔ i = 0) ∧ (∀ j, i = j + 1 → ∃ z, ws[j]? = some z ∧ lastS ts = z) ∧ ts.length ≤ i ∧ σ = [some (.ref a), some (.ref td), o2, o3])
        ⟨[], none, none, g4, fun b o e => ?_, hr4, kw4, ht4, List.Pairwise.nil, fun x => by simp, by simp, (fun j z => by omega), Nat.zero_le _, rfl⟩ (fun i σ H' _ ⟨_, _, _, _, _, h, _⟩ => sql h) ?_ ?_⟩
      · by_cases hb : b = td
        · rw [hb, upd_same, ← ht4, ← hb]
          exact e
        · rw [upd_ne hb]
          exact e
      · rintro i x σ H5 H6 hi ⟨ts, o2, o3, g5, s5, hr5, kw5, ht5, up5, mem5, nil5, last5, tl5, rfl⟩ ⟨rfl, ex⟩
        have hi2 : i < ws.length := by omega
        obtain ⟨t, h1, h2⟩ := kw5.is_ i ws[i] (List.getElem?_eq_getElem hi2)
        rw [h1] at ex
        cases ex
        have hT := sqt (K := K) h2
        have hL := sql (K := K) ht5
        have put : ∀ (hord : ∀ x ∈ ts, ordLt x ws[i] = true), ∃ ts' p2 p3, Gr No D H D3 (upd H6 td (.lst (ts.map V.str ++ [.str ws[i]]))) ∧ Same H4 (upd (upd H6 td (.lst (ts.map V.str ++ [.str ws[i]]))) td (.lst [])) ∧ (upd H6 td (.lst (ts.map V.str ++ [.str ws[i]]))) r = some (.lst ys) ∧ KysOf (upd H6 td (.lst (ts.map V.str ++ [.str ws[i]]))) kS ws ys ∧ (upd H6 td (.lst (ts.map V.str ++ [.str ws[i]]))) td = some (.lst (ts'.map V.str)) ∧ Up ts' ∧ (∀ x, x ∈ ts' ↔ x ∈ ws.take (i + 1)) ∧ (ts' = [] ↔ i + 1 = 0) ∧ (∀ j, i + 1 = j + 1 → ∃ z, ws[j]? = some z ∧ lastS ts' = z) ∧ ts'.length ≤ i + 1 ∧
            ([some (V.ref a), some (V.ref td), some (V.ref t), o3] : L2.St) = [some (.ref a), some (.ref td), p2, p3] := by
          intro hord
          have nrt : r ≠ td := fun e => by
            rw [e, ht5] at hr5
            have h' := Option.some.inj hr5
            have h'' : ts.map V.str = ys := HO.lst.inj h'
            have := List.mem_of_getElem? h1
            rw [← h''] at this
            obtain ⟨_, _, e⟩ := List.mem_map.mp this
            cases e
          refine ⟨ts ++ [ws[i]], _, _, g5.put hDt3 (.inl ntd), by rw [upd_upd]; exact s5, (upd_ne nrt).trans hr5, ⟨kw5.len, fun j z e => ?_⟩, by rw [upd_same, List.map_append]; rfl, ?_, fun x => ?_, ?_, fun j ej => ?_, ?_, rfl⟩
          · obtain ⟨t', h1', h2'⟩ := kw5.is_ j z e
            exact ⟨t', h1', (upd_ne (fun e => by rw [e, ht5] at h2'; cases h2')).trans h2'⟩
          · rw [show Up (ts ++ [ws[i]]) = (ts ++ [ws[i]]).Pairwise (fun x y => ordLt x y = true) from rfl, List.pairwise_append]
            exact ⟨up5, List.pairwise_singleton _ _, fun x hx y hy => by rw [List.mem_singleton.mp hy]; exact hord x hx⟩
          · rw [List.take_add_one, List.getElem?_eq_getElem hi2, List.mem_append, List.mem_append, mem5]
            rfl
          · simp
          · have : j = i := by omega
            subst this
            refine ⟨ws[j], List.getElem?_eq_getElem hi2, ?_⟩
            unfold lastS
            rw [List.length_append, show ts.length + [ws[j]].length - 1 = ts.length from rfl, List.getElem?_append_right (Nat.le_refl _), Nat.sub_self]
            rfl
          · rw [List.length_append]
            simpa using tl5
        have hwi := hwz ws[i] (List.getElem_mem hi2)
        walk_at "rd"
        have pos : ∀ (j : Nat), i = j + 1 → ∃ z, ws[j]? = some z ∧ lastS ts = z := last5
        refine jtD (fun e => ?_) (fun e => ?_)
        · have hnil : ts = [] := by
            rw [List.length_map] at e
            exact List.eq_nil_of_length_eq_zero (by omega)
          walk_at "rd"
          refine ⟨ty_l ht5, ?_⟩
          walk_at "rd"
          refine s_append ht5 (by rw [List.length_map]; exact small1000 (by omega)) ?_
          walk_at "rd"
          exact put fun x hx => by rw [hnil] at hx; cases hx
        · have hne : ts ≠ [] := fun z => e (by rw [z]; rfl)
          have hi0 : i ≠ 0 := fun z => hne (nil5.mpr z)
          obtain ⟨zl, hzl, elast⟩ := last5 (i - 1) (by omega)
          have hlast : atI (ts.map V.str) (-1) = some (.str (lastS ts)) := by
            exact last_neg hne
          walk_at "rd"
          refine s_ix_l hL hlast ?_
          walk_at "rd"
          refine jtN (fun e2 => ?_) (fun e2 => ?_)
          · walk_at "rd"
            refine ⟨ty_l ht5, ?_⟩
            walk_at "rd"
            refine s_append ht5 (by rw [List.length_map]; exact small1000 (by omega)) ?_
            walk_at "rd"
            refine put fun x hx => ?_
            have hle : ordLt ws[i] (lastS ts) = false := by
              rw [elast]
              obtain ⟨hz1, hz2⟩ := List.getElem?_eq_some_iff.mp hzl
              rw [← hz2]
              exact List.pairwise_iff_getElem.mp uw (i - 1) i hz1 hi2 (by omega)
            have hlt : ordLt (lastS ts) ws[i] = true := by
              cases ec : ordLt (lastS ts) ws[i] with
              | true => rfl
              | false => exact absurd (ordLt_tot ec hle) e2
            rcases last_le up5 hne x hx with ex | ex
            · rw [ex]
              exact hlt
            · exact ordLt_tr ex hlt
          · walk_at "rd"
            refine ⟨ts, _, _, g5, s5, hr5, kw5, ht5, up5, fun x => ?_, ⟨fun z => absurd z hne, fun z => by omega⟩, fun j ej => ?_, by omega, rfl⟩
            · rw [mem5, List.take_add_one, List.getElem?_eq_getElem hi2, List.mem_append]
              refine ⟨.inl, fun z => z.elim id fun z => ?_⟩
              have ez : x = ws[i] := List.mem_singleton.mp z
              rw [ez, ← e2, ← mem5]
              exact lastS_mem hne
            · have : j = i := by omega
              subst this
              exact ⟨ws[j], List.getElem?_eq_getElem hi2, e2⟩
      · rintro σ H5 ⟨ts, o2, o3, g5, s5, hr5, kw5, ht5, up5, mem5, nil5, last5, tl5, rfl⟩
        walk_at "rd"
        have e : ts = inO zs := inO_uniq up5 fun x => by rw [mem5, hyl, List.take_length]; exact pw.mem_iff
        rw [e] at ht5
        exact q D3 H5 td g5 ntd hDt3 ht5
end
end H91

namespace H91
open PySem PySem.Spec L2 He Y Hk91
local macro_rules | `(tactic| walk_at "rd1") => `(tactic| first
  | with_reducible refine s_seq ?_
  | with_reducible refine s_asg ?_
  | with_reducible refine s_gname ?_
  | ((with_reducible refine s_var (v := ?_) ?_ ?_); rotate_left; exact rfl)
  | with_reducible refine s_c ?_
  | with_reducible refine s_op ?_
  | with_reducible refine s_un ?_
  | with_reducible refine s_nil ?_
  | with_reducible refine s_cons ?_
  | with_reducible refine s_CB ?_
  | with_reducible refine s_ifS ?_
  | with_reducible refine s_test ?_
  | with_reducible refine s_B ?_
  | with_reducible refine s_xb ?_
  | with_reducible refine s_xi ?_
  | with_reducible refine s_xs ?_
  | with_reducible refine s_or ?_
  | with_reducible refine s_and ?_
  | with_reducible refine s_not ?_
  | with_reducible refine s_orV ?_
  | with_reducible refine s_andV ?_
  | with_reducible refine s_notV ?_
  | with_reducible refine s_ret ?_
  | with_reducible refine s_retN ?_
  | with_reducible refine s_next ?_
  | with_reducible refine s_drop ?_
  | with_reducible refine s_yes ?_
  | with_reducible refine s_for ?_
  | with_reducible refine s_lc ?_
  | with_reducible refine s_iStr ?_
  | with_reducible refine s_iList ?_
  | with_reducible refine s_iTup ?_
  | with_reducible refine s_iR1 ?_
  | with_reducible refine s_iR2 ?_
  | with_reducible refine s_iE ?_
  | with_reducible refine s_iET ?_
  | with_reducible refine s_iES ?_
  | with_reducible refine s_tup ?_
  | with_reducible refine s_lst ?_
  | with_reducible refine s_BM ?_
  | with_reducible refine s_BM0 ?_
  | with_reducible refine s_BMS ?_
  | with_reducible refine s_M1 ?_
  | with_reducible refine s_sl ?_
  | with_reducible refine s_noP ?_
  | with_reducible refine s_po ?_
  | with_reducible refine s_call ?_
  | with_reducible refine s_callS ?_
  | with_reducible refine s_make ?_
  | with_reducible refine s_makeS ?_
  | with_reducible refine s_methS ?_
  | with_reducible refine s_callO ?_
  | with_reducible refine s_dnew ?_
  | with_reducible refine s_dget ?_
  | with_reducible refine s_din ?_
  | with_reducible refine s_dnin ?_
  | with_reducible refine s_dput ?_
  | with_reducible refine s_dsetd ?_
  | with_reducible refine s_dget2 ?_
  | with_reducible refine s_fld ?_
  | with_reducible refine s_sFld ?_
  | with_reducible refine s_rz ?_
  | with_reducible refine s_asgS ?_
  | with_reducible refine s_gSub ?_
  | with_reducible refine s_ifE ?_
  | with_reducible refine s_add_i ?_
  | with_reducible refine s_sub ?_
  | with_reducible refine s_neg ?_
  | with_reducible refine s_eq_i ?_
  | with_reducible refine s_eq_s ?_
  | with_reducible refine s_ne_i ?_
  | with_reducible refine s_ne_s ?_
  | with_reducible refine s_lt_i ?_
  | with_reducible refine s_le_i ?_
  | with_reducible refine s_gt_i ?_
  | with_reducible refine s_ge_i ?_
  | with_reducible refine s_lt_s ?_
  | with_reducible refine s_le_s ?_
  | with_reducible refine s_gt_s ?_
  | with_reducible refine s_ge_s ?_
  | with_reducible refine s_in_c ?_
  | with_reducible refine s_ni_c ?_
  | with_reducible refine s_isN ?_
  | with_reducible refine s_noN ?_
  | with_reducible refine s_abs ?_
  | with_reducible refine s_min2 ?_
  | with_reducible refine s_max2 ?_
  | with_reducible refine s_int_i ?_
  | ((with_reducible refine s_len_s ?_ ?_); assumption)
  | ((with_reducible refine s_len_l (xs := ?_) ?_ ?_); rotate_left; assumption)
  | ((with_reducible refine s_len_t (xs := ?_) ?_ ?_); rotate_left; assumption)
  | with_reducible refine s_pair upd_same ?_
  | with_reducible refine s_callS ?_
  | with_reducible refine s_sortK ?_
  | with_reducible refine s_disp ?_
  | with_reducible refine s_pcons ?_
  | with_reducible refine s_pnil ?_
  | ((with_reducible refine s_ix_t (by assumption) (by first | exact atI_0 | exact atI_i (j := 1) rfl rfl | exact atI_i (j := 2) rfl rfl | exact atI_i (j := 3) rfl rfl) ?_))
  | with_reducible refine jtT ?_
  | with_reducible refine jtF ?_
  | with_reducible refine jtNT ?_
  | with_reducible refine jtNF ?_
  | dsimp only)
local macro_rules | `(tactic| walk_at "rd") => `(tactic| repeat (walk_at "rd1"))

section
variable {P : Program} {w : World} {K : PySem.W.Frag} {mg : Str → Option Value} {base : Heap}
/-- words of no great size -/
structure Fit (zs : List Str) : Prop where
  few : zs.length ≤ 200
  ok : ∀ z ∈ zs, z.length ≤ 100
theorem S_law_text : FnScope ["letters", "yes", "no", "rows", "word"] ["letters", "yes", "no"] (d_law_text).scope := ⟨rfl, rfl, rfl, by decide +kernel, rfl, by decide +kernel, by decide +kernel⟩
def sp_law_text (K : PySem.W.Frag) : Sp := fun vs H Q E => ∃ (D : Hp) (s : Str) (a b : Addr) (ys ns : List Str), vs = [.str s, .ref a, .ref b] ∧ s.length ≤ 100 ∧ SqL K H a (ys.map V.str) ∧ SqL K H b (ns.map V.str) ∧ Fit ys ∧ Fit ns ∧ Same D H ∧
  ∀ D' H', Gr No D H D' H' → Q (.str (textT s ys ns)) H'
theorem w_law_text (T : Txt P w K mg) : Has P w K mg base 3 "_law_text" (sp_law_text K) := by
  have S := S_law_text
  refine has_of (k := 2) T.d_law_text T.gd_law_text S (fun _ _ _ _ _ _ us hl => match us, hl with | [_, _, _], _ => rfl) (fun vs H Q E h => ?_) (fun f cdv A outer s H vs Q E hr h => ?_)
  · obtain ⟨D, s, a, b, ys, ns, rfl, _⟩ := h
    rfl
  · obtain ⟨D, z, a, b, ys, ns, rfl, hz, ha, hb, fy, fn, sm, q⟩ := h
    have e7 : ("sample " : Str).length = 7 := rfl
    have e4 : ("yes " : Str).length = 4 := rfl
    have e3 : ("no " : Str).length = 3 := rfl
    have e1 : ("-" : Str).length = 1 := rfl
    have hfy := fy.few
    have hfn := fn.few
    refine ⟨_, (pss_cons (ps_set (i := 3) S.nd rfl (Or.inl rfl) (pe_lst (pa_cons (pe_op (oK_add K) pe_str (pv 0)) pa_nil)))
    (pss_cons (ps_for (passes_of rfl) rfl (piK_list K (pv 1)) (pg_name (i := 4) S.nd rfl (Or.inl rfl))
      (pss_cons (ps_if (pt_cmpR (cK_eq K hr.units) (pv 4) pe_str (nomark _))
      (pss_one (ps_set (i := 4) S.nd rfl (Or.inl rfl) pe_str))
      pss_nil)
    (pss_one (ps_expr (peK_bm K PySem.F.plainAttrs_list PySem.F.slot_list_append PySem.F.type_list_append mt_append (pv 3) (pa_cons (pe_op (oK_add K) pe_str (pv 4)) pa_nil))))))
    (pss_cons (ps_for (passes_of rfl) rfl (piK_list K (pv 2)) (pg_name (i := 4) S.nd rfl (Or.inl rfl))
      (pss_cons (ps_if (pt_cmpR (cK_eq K hr.units) (pv 4) pe_str (nomark _))
      (pss_one (ps_set (i := 4) S.nd rfl (Or.inl rfl) pe_str))
      pss_nil)
    (pss_one (ps_expr (peK_bm K PySem.F.plainAttrs_list PySem.F.slot_list_append PySem.F.type_list_append mt_append (pv 3) (pa_cons (pe_op (oK_add K) pe_str (pv 4)) pa_nil))))))
    (pss_one (ps_ret (pK_join K pe_str (pv 3))))))), ?_⟩
    walk_at "rd"
    refine s_add_s (by rw [e7]; exact le1000 (by omega)) ?_
    walk_at "rd"
    refine ⟨le1000 (by simp), fun r0 nr => ?_⟩
    have g1 := (Gr.refl (m := No) sm).lay (o := .lst [.str (("sample " : Str) ++ z)]) nr
    have hD0 := (Gr.refl (m := No) sm).free nr
    walk_at "rd"
    refine ⟨a, rfl, ⟨_, g1.all.seq ha⟩, lp_it walk_list (fun i σ H' => ∃ o4, Gr No D H D H' ∧ H' r0 = some (.lst (([("sample " : Str) ++ z] ++ (ys.take i).map fun z => ("yes " : Str) ++ wr z).map V.str)) ∧ σ = [some (.str z), some (.ref a), some (.ref b), some (.ref r0), o4]) ⟨none, g1, upd_same, rfl⟩ (fun i σ H' _ ⟨_, g, _⟩ => g.all.seq ha) ?_ ?_⟩
    · rintro i x σ H1 H2 hi ⟨o4, g, h0, rfl⟩ ⟨rfl, ex⟩
      rw [List.getElem?_map] at ex
      obtain ⟨y, hy, rfl⟩ := Option.map_eq_some_iff.mp ex
      have hyl := fy.ok y (List.mem_of_getElem? hy)
      have hil := (List.getElem?_eq_some_iff.mp hy).1
      have fin : ∀ u : Str, u = ("yes " : Str) ++ wr y → ∀ o, (∃ o4, Gr No D H D (upd H2 r0 (.lst (([("sample " : Str) ++ z] ++ (ys.take i).map fun z => ("yes " : Str) ++ wr z).map V.str ++ [.str u]))) ∧ (upd H2 r0 (.lst (([("sample " : Str) ++ z] ++ (ys.take i).map fun z => ("yes " : Str) ++ wr z).map V.str ++ [.str u]))) r0 = some (.lst (([("sample " : Str) ++ z] ++ (ys.take (i + 1)).map fun z => ("yes " : Str) ++ wr z).map V.str)) ∧ ([some (.str z), some (.ref a), some (.ref b), some (.ref r0), o] : L2.St) = [some (.str z), some (.ref a), some (.ref b), some (.ref r0), o4]) := by
        intro u hu o
        refine ⟨o, g.put hD0 (.inl nr), ?_, rfl⟩
        rw [upd_same, List.take_add_one, hy, hu]
        simp
      have hlen : (([("sample " : Str) ++ z] ++ (ys.take i).map fun z => ("yes " : Str) ++ wr z).map V.str).length < sizeLine := small1000 (by simp; omega)
      walk_at "rd"
      refine jtD (fun e => ?_) (fun e => ?_)
      · walk_at "rd"
        refine ⟨ty_l h0, ?_⟩
        walk_at "rd"
        refine s_add_s (by rw [e4, e1]; decide) ?_
        walk_at "rd"
        refine s_append h0 hlen ?_
        walk_at "rd"
        exact fin _ (by rw [wr, if_pos e]) _
      · walk_at "rd"
        refine ⟨ty_l h0, ?_⟩
        walk_at "rd"
        refine s_add_s (by rw [e4]; exact le1000 (by omega)) ?_
        walk_at "rd"
        refine s_append h0 hlen ?_
        walk_at "rd"
        exact fin _ (by rw [wr, if_neg e]) _
    · rintro σ H1 ⟨o4, g, h0, rfl⟩
      rw [List.length_map, List.take_length] at h0
      walk_at "rd"
      refine ⟨b, rfl, ⟨_, g.all.seq hb⟩, lp_it walk_list (fun i σ H' => ∃ o4, Gr No D H D H' ∧ H' r0 = some (.lst (([("sample " : Str) ++ z] ++ (ys.map fun z => ("yes " : Str) ++ wr z) ++ (ns.take i).map fun z => ("no " : Str) ++ wr z).map V.str)) ∧ σ = [some (.str z), some (.ref a), some (.ref b), some (.ref r0), o4]) ⟨o4, g, by simpa using h0, rfl⟩ (fun i σ H' _ ⟨_, g, _⟩ => g.all.seq hb) ?_ ?_⟩
      · rintro i x σ H1 H2 hi ⟨o4, g, h0, rfl⟩ ⟨rfl, ex⟩
        rw [List.getElem?_map] at ex
        obtain ⟨y, hy, rfl⟩ := Option.map_eq_some_iff.mp ex
        have hyl := fn.ok y (List.mem_of_getElem? hy)
        have hil := (List.getElem?_eq_some_iff.mp hy).1
        have fin : ∀ u : Str, u = ("no " : Str) ++ wr y → ∀ o, (∃ o4, Gr No D H D (upd H2 r0 (.lst (([("sample " : Str) ++ z] ++ (ys.map fun z => ("yes " : Str) ++ wr z) ++ (ns.take i).map fun z => ("no " : Str) ++ wr z).map V.str ++ [.str u]))) ∧ (upd H2 r0 (.lst (([("sample " : Str) ++ z] ++ (ys.map fun z => ("yes " : Str) ++ wr z) ++ (ns.take i).map fun z => ("no " : Str) ++ wr z).map V.str ++ [.str u]))) r0 = some (.lst (([("sample " : Str) ++ z] ++ (ys.map fun z => ("yes " : Str) ++ wr z) ++ (ns.take (i + 1)).map fun z => ("no " : Str) ++ wr z).map V.str)) ∧ ([some (.str z), some (.ref a), some (.ref b), some (.ref r0), o] : L2.St) = [some (.str z), some (.ref a), some (.ref b), some (.ref r0), o4]) := by
          intro u hu o
          refine ⟨o, g.put hD0 (.inl nr), ?_, rfl⟩
          rw [upd_same, List.take_add_one, hy, hu]
          simp
        have hlen : (([("sample " : Str) ++ z] ++ (ys.map fun z => ("yes " : Str) ++ wr z) ++ (ns.take i).map fun z => ("no " : Str) ++ wr z).map V.str).length < sizeLine := small1000 (by simp; omega)
        walk_at "rd"
        refine jtD (fun e => ?_) (fun e => ?_)
        · walk_at "rd"
          refine ⟨ty_l h0, ?_⟩
          walk_at "rd"
          refine s_add_s (by rw [e3, e1]; decide) ?_
          walk_at "rd"
          refine s_append h0 hlen ?_
          walk_at "rd"
          exact fin _ (by rw [wr, if_pos e]) _
        · walk_at "rd"
          refine ⟨ty_l h0, ?_⟩
          walk_at "rd"
          refine s_add_s (by rw [e3]; exact le1000 (by omega)) ?_
          walk_at "rd"
          refine s_append h0 hlen ?_
          walk_at "rd"
          exact fin _ (by rw [wr, if_neg e]) _
      · rintro σ H1 ⟨o4, g, h0, rfl⟩
        rw [List.length_map, List.take_length] at h0
        have hw := @wr_len
        walk_at "rd"
        refine ⟨⟨_, rfl⟩, ?_⟩
        walk_at "rd"
        refine s_join_l (zs := linesT z ys ns) (sql h0) ?_ (q _ _ g)
        have := sum_len (c := 110) (zs := linesT z ys ns) (fun x hx => by
          unfold linesT at hx
          rcases List.mem_append.mp hx with hx | hx
          · rcases List.mem_append.mp hx with hx | hx
            · rw [List.mem_singleton.mp hx, app_len, e7]
              omega
            · obtain ⟨y, hy1, rfl⟩ := List.mem_map.mp hx
              have := fy.ok y hy1
              have := wr_len (z := y)
              rw [app_len, e4]
              omega
          · obtain ⟨y, hy1, rfl⟩ := List.mem_map.mp hx
            have := fn.ok y hy1
            have := wr_len (z := y)
            rw [app_len, e3]
            omega)
        have hl : (linesT z ys ns).length = 1 + ys.length + ns.length := by simp [linesT]; omega
        have e1 : ("\n" : Str).length = 1 := rfl
        rw [e1]
        omega
theorem S_law_good_letters : FnScope ["text", "before", "sign"] ["text"] (d_law_good_letters).scope := ⟨rfl, rfl, rfl, by decide +kernel, rfl, by decide +kernel, by decide +kernel⟩
def sp_good_letters : Sp := fun vs H Q E => ∃ (s : Str), vs = [.str s] ∧ s.length ≤ sizeLine ∧ Q (.bl (okLetters s)) H
theorem w_law_good_letters (T : Txt P w K mg) : Has P w K mg base 3 "_law_good_letters" sp_good_letters := by
  have S := S_law_good_letters
  refine has_of (k := 2) T.d_law_good_letters T.gd_law_good_letters S (fun _ _ _ _ _ _ us hl => match us, hl with | [_], _ => rfl) (fun vs H Q E h => ?_) (fun f cdv A outer s H vs Q E hr h => ?_)
  · obtain ⟨s, rfl, _⟩ := h
    rfl
  · obtain ⟨z, rfl, hz, q⟩ := h
    refine ⟨_, (pss_cons (ps_if (PW.pt (pw_or (pt_cmpR c_lt (pe_callB (bK_len K) (by rfl) T.b_len (by decide +kernel) (pa_cons (pv 0) pa_nil)) pe_int (nomark _)) (pw_or1 (pt_cmpR c_gt (pe_callB (bK_len K) (by rfl) T.b_len (by decide +kernel) (pa_cons (pv 0) pa_nil)) pe_int (nomark _)))))
      (pss_one (ps_ret pe_bl))
      pss_nil)
    (pss_cons (ps_set (i := 1) S.nd rfl (Or.inl rfl) pe_str)
    (pss_cons (ps_for (passes_of rfl) rfl (pi_str (pv 0)) (pg_name (i := 2) S.nd rfl (Or.inl rfl))
      (pss_cons (ps_if (PW.pt (pw_or (pt_cmpR (cK_ni K) (pv 2) pe_str rfl) (pw_or1 (pt_cmpR c_le (pv 2) (pv 1) (nomark _)))))
      (pss_one (ps_ret pe_bl))
      pss_nil)
    (pss_one (ps_set (i := 1) S.nd rfl (Or.inl rfl) (pv 2)))))
    (pss_one (ps_ret pe_bl))))), ?_⟩
    walk_at "rd"
    refine jtD (fun e => ?_) (fun e1 => ?_)
    · have e' : ¬ 1 ≤ z.length := by omega
      walk_at "rd"
      simpa [okLetters, e'] using q
    walk_at "rd"
    refine jtD (fun e => ?_) (fun e2 => ?_)
    · have e' : ¬ z.length ≤ 4 := by omega
      walk_at "rd"
      simpa [okLetters, e'] using q
    have hk : okLetters z = okFrom [] z.cps.toList := by
      have a1 : 1 ≤ z.length := by omega
      have a2 : z.length ≤ 4 := by omega
      simp [okLetters, a1, a2]
    rw [hk] at q
    walk_at "rd"
    refine lp_it walk_str (fun i σ H' => H' = H ∧ ∃ b l, σ = [some (.str z), some (.str b), l] ∧ okFrom b.cps.toList (z.cps.toList.drop i) = okFrom [] z.cps.toList) ⟨rfl, "", none, rfl, rfl⟩ (fun _ _ _ _ _ => trivial) ?_ ?_
    · rintro i x σ H1 H2 hi ⟨rfl, b, l, rfl, eb⟩ ⟨rfl, c, hc, rfl⟩
      rw [str_get hc] at eb
      rw [okFrom_cons] at eb
      walk_at "rd"
      refine jtN (fun e => ?_) (fun e1 => ?_)
      · walk_at "rd"
        rw [if_pos (.inl e)] at eb
        rw [← eb] at q
        exact q
      walk_at "rd"
      refine jtN (fun e => ?_) (fun e2 => ?_)
      · walk_at "rd"
        rw [if_pos (.inr e)] at eb
        rw [← eb] at q
        exact q
      rw [if_neg (fun z => z.elim (fun z => z e1) fun z => z e2)] at eb
      walk_at "rd"
      exact ⟨rfl, _, _, rfl, eb⟩
    · rintro σ H1 ⟨rfl, b, l, rfl, eb⟩
      walk_at "rd"
      rw [List.drop_of_length_le (by simp)] at eb
      rw [← eb] at q
      exact q
end
end H91

namespace H91
open PySem PySem.Spec L2 He Y Hk91
local macro_rules | `(tactic| walk_at "rd1") => `(tactic| first
  | with_reducible refine s_seq ?_
  | with_reducible refine s_asg ?_
  | with_reducible refine s_gname ?_
  | ((with_reducible refine s_var (v := ?_) ?_ ?_); rotate_left; exact rfl)
  | with_reducible refine s_c ?_
  | with_reducible refine s_op ?_
  | with_reducible refine s_un ?_
  | with_reducible refine s_nil ?_
  | with_reducible refine s_cons ?_
  | with_reducible refine s_CB ?_
  | with_reducible refine s_ifS ?_
  | with_reducible refine s_test ?_
  | with_reducible refine s_B ?_
  | with_reducible refine s_xb ?_
  | with_reducible refine s_xi ?_
  | with_reducible refine s_xs ?_
  | with_reducible refine s_or ?_
  | with_reducible refine s_and ?_
  | with_reducible refine s_not ?_
  | with_reducible refine s_orV ?_
  | with_reducible refine s_andV ?_
  | with_reducible refine s_notV ?_
  | with_reducible refine s_ret ?_
  | with_reducible refine s_retN ?_
  | with_reducible refine s_next ?_
  | with_reducible refine s_drop ?_
  | with_reducible refine s_yes ?_
  | with_reducible refine s_for ?_
  | with_reducible refine s_lc ?_
  | with_reducible refine s_iStr ?_
  | with_reducible refine s_iList ?_
  | with_reducible refine s_iTup ?_
  | with_reducible refine s_iR1 ?_
  | with_reducible refine s_iR2 ?_
  | with_reducible refine s_iE ?_
  | with_reducible refine s_iET ?_
  | with_reducible refine s_iES ?_
  | with_reducible refine s_tup ?_
  | with_reducible refine s_lst ?_
  | with_reducible refine s_BM ?_
  | with_reducible refine s_BM0 ?_
  | with_reducible refine s_BMS ?_
  | with_reducible refine s_M1 ?_
  | with_reducible refine s_sl ?_
  | with_reducible refine s_noP ?_
  | with_reducible refine s_po ?_
  | with_reducible refine s_call ?_
  | with_reducible refine s_callS ?_
  | with_reducible refine s_make ?_
  | with_reducible refine s_makeS ?_
  | with_reducible refine s_methS ?_
  | with_reducible refine s_callO ?_
  | with_reducible refine s_dnew ?_
  | with_reducible refine s_dget ?_
  | with_reducible refine s_din ?_
  | with_reducible refine s_dnin ?_
  | with_reducible refine s_dput ?_
  | with_reducible refine s_dsetd ?_
  | with_reducible refine s_dget2 ?_
  | with_reducible refine s_fld ?_
  | with_reducible refine s_sFld ?_
  | with_reducible refine s_rz ?_
  | with_reducible refine s_asgS ?_
  | with_reducible refine s_gSub ?_
  | with_reducible refine s_ifE ?_
  | with_reducible refine s_add_i ?_
  | with_reducible refine s_sub ?_
  | with_reducible refine s_neg ?_
  | with_reducible refine s_eq_i ?_
  | with_reducible refine s_eq_s ?_
  | with_reducible refine s_ne_i ?_
  | with_reducible refine s_ne_s ?_
  | with_reducible refine s_lt_i ?_
  | with_reducible refine s_le_i ?_
  | with_reducible refine s_gt_i ?_
  | with_reducible refine s_ge_i ?_
  | with_reducible refine s_lt_s ?_
  | with_reducible refine s_le_s ?_
  | with_reducible refine s_gt_s ?_
  | with_reducible refine s_ge_s ?_
  | with_reducible refine s_in_c ?_
  | with_reducible refine s_ni_c ?_
  | with_reducible refine s_isN ?_
  | with_reducible refine s_noN ?_
  | with_reducible refine s_abs ?_
  | with_reducible refine s_min2 ?_
  | with_reducible refine s_max2 ?_
  | with_reducible refine s_int_i ?_
  | ((with_reducible refine s_len_s ?_ ?_); assumption)
  | ((with_reducible refine s_len_l (xs := ?_) ?_ ?_); rotate_left; assumption)
  | ((with_reducible refine s_len_t (xs := ?_) ?_ ?_); rotate_left; assumption)
  | with_reducible refine s_pair upd_same ?_
  | with_reducible refine s_callS ?_
  | with_reducible refine s_sortK ?_
  | with_reducible refine s_disp ?_
  | with_reducible refine s_pcons ?_
  | with_reducible refine s_pnil ?_
  | ((with_reducible refine s_ix_t (by assumption) (by first | exact atI_0 | exact atI_i (j := 1) rfl rfl | exact atI_i (j := 2) rfl rfl | exact atI_i (j := 3) rfl rfl) ?_))
  | with_reducible refine jtT ?_
  | with_reducible refine jtF ?_
  | with_reducible refine jtNT ?_
  | with_reducible refine jtNF ?_
  | dsimp only)
local macro_rules | `(tactic| walk_at "rd") => `(tactic| repeat (walk_at "rd1"))

theorem inV2 {a x y : Str} : inV (.str a) [.str x, .str y] = (decide (x = a) || (decide (y = a) || false)) := rfl
/-- what _law_read answers, as data -/
def lrD : Except Nat (Str × List Str × List Str) → PyData
  | .ok (s, Y, N) => .tuple [.int 0, .str s, .list (dSs Y), .list (dSs N)]
  | .error k => .tuple [.int (k : Nat), .str "", .list (dSs []), .list (dSs [])]
section
variable {P : Program} {w : World} {K : PySem.W.Frag} {mg : Str → Option Value} {base : Heap}
/-- the state of the loop -/
structure LrI (K : PySem.W.Frag) (text s : Str) (lr : List Str) (D1 H1 : Hp) (p hd : Addr) (i : Nat) (σ : L2.St) (H' : Hp) : Prop where
  ex : ∃ (D' : Hp) (ya na : Addr) (o5 o6 o7 o8 o9 : Option V) (Y N : List Str), Gr No D1 H1 D' H' ∧ D' ya = some (.lst (Y.map V.str)) ∧ D' na = some (.lst (N.map V.str)) ∧ Sor s Y ∧ Sor s N ∧
    σ = [some (.str text), some (.ref p), some (.ref hd), some (.ref ya), some (.ref na), o5, o6, o7, o8, o9] ∧ goS s (lr.drop i) i Y N = goS s lr 0 [] []
theorem S_law_read : FnScope ["text", "rows", "head", "yes", "no", "k", "parts", "word", "before", "sign"] ["text"] (d_law_read).scope := ⟨rfl, rfl, rfl, by decide +kernel, rfl, by decide +kernel, by decide +kernel⟩
def sp_law_read (K : PySem.W.Frag) : Sp := fun vs H Q E => ∃ (D : Hp) (t : Str), vs = [.str t] ∧ t.length ≤ 100000 ∧ Same D H ∧ ∀ D' H' u, Gr No D H D' H' → Dp K D' u (lrD (readS t)) → Q u H'
theorem w_law_read (T : Txt P w K mg) : Has P w K mg base 4 "_law_read" (sp_law_read K) := by
  have S := S_law_read
  have G_law_good_letters := w_law_good_letters (base := base) T
  refine has_of (k := 3) T.d_law_read T.gd_law_read S (fun _ _ _ _ _ _ us hl => match us, hl with | [_], _ => rfl) (fun vs H Q E h => ?_) (fun f cdv A outer s H vs Q E hr h => ?_)
  · obtain ⟨D, t, rfl, _⟩ := h
    rfl
  · obtain ⟨D, text, rfl, ht, sm, q⟩ := h
    have hz : text.length + 2 ≤ sizeLine := Nat.le_trans (Nat.add_le_add_right ht 2) (by decide)
    have badQ : ∀ (Da Ha : Hp) (n : Int) (k : Nat) (p1 p2 t : Addr), Gr No D H Da Ha → n = (k : Int) → Ha p1 = none → (upd Ha p1 (.lst [])) p2 = none → (upd (upd Ha p1 (.lst [])) p2 (.lst [])) t = none → readS text = .error k → Q (.ref t) (upd (upd (upd Ha p1 (.lst [])) p2 (.lst [])) t (.tup [.int n, .str "", .ref p1, .ref p2])) := by
      intro Da Ha n k p1 p2 t g e n1 n2 n3 er
      subst e
      have n12 : p1 ≠ p2 := fun e => by rw [← e, upd_same] at n2; cases n2
      have n1t : p1 ≠ t := fun e => by rw [← e, upd_ne n12, upd_same] at n3; cases n3
      have n2t : p2 ≠ t := fun e => by rw [← e, upd_same] at n3; cases n3
      refine q _ _ _ (((g.ice n1).ice n2).ice n3) ?_
      rw [er]
      refine .tup (sqt upd_same) (.cons (.int _) (.cons (.str _) (.cons (.lst (sql ((upd_ne n1t).trans ((upd_ne n12).trans upd_same))) .nil) (.cons (.lst (sql ((upd_ne n2t).trans upd_same)) .nil) .nil))))
    refine ⟨_, (pss_cons (ps_set (i := 1) S.nd rfl (Or.inl rfl) (pe_m1 PySem.F.slot_str_split PySem.F.type_str_split m_split (pv 0) pe_str))
    (pss_cons (ps_set (i := 2) S.nd rfl (Or.inr rfl) (pe_m1 PySem.F.slot_str_split PySem.F.type_str_split m_split (pe_ix (ixK_seq K) (pv 1) pe_int (fun _ _ => rfl)) pe_str))
    (pss_cons (ps_if (PW.pt (pw_or (pt_cmpR (cK_ne K hr.units) (pe_callB (bK_len K) (by rfl) T.b_len (by decide +kernel) (pa_cons (pv 2) pa_nil)) pe_int (nomark _)) (pw_or (pt_cmpR (cK_ne K hr.units) (pe_ix (ixK_seq K) (pv 2) pe_int (fun _ _ => rfl)) pe_str (nomark _)) (pw_or1 (pt_not (pt_val (pe_has G_law_good_letters (hr.mono (by decide)) (takes_of rfl rfl rfl rfl) rfl (pa_cons (pe_ix (ixK_seq K) (pv 2) pe_int (fun _ _ => rfl)) pa_nil))))))))
      (pss_one (ps_ret (pe_tup (pa_cons pe_int (pa_cons pe_str (pa_cons (pe_lst pa_nil) (pa_cons (pe_lst pa_nil) pa_nil)))))))
      pss_nil)
    (pss_cons (ps_set (i := 3) S.nd rfl (Or.inl rfl) (pe_lst pa_nil))
    (pss_cons (ps_set (i := 4) S.nd rfl (Or.inl rfl) (pe_lst pa_nil))
    (pss_cons (ps_for (passes_of rfl) rfl (pi_range2 (by rfl) T.b_range (pa_cons pe_int (pa_cons (pe_callB (bK_len K) (by rfl) T.b_len (by decide +kernel) (pa_cons (pv 1) pa_nil)) pa_nil))) (pg_name (i := 5) S.nd rfl (Or.inl rfl))
      (pss_cons (ps_set (i := 6) S.nd rfl (Or.inl rfl) (pe_m1 PySem.F.slot_str_split PySem.F.type_str_split m_split (pe_ix (ixK_seq K) (pv 1) (pv 5) (fun _ _ => rfl)) pe_str))
    (pss_cons (ps_if (PW.pt (pw_or (pt_cmpR (cK_ne K hr.units) (pe_callB (bK_len K) (by rfl) T.b_len (by decide +kernel) (pa_cons (pv 6) pa_nil)) pe_int (nomark _)) (pw_or (pt_cmpR (cK_ni K) (pe_ix (ixK_seq K) (pv 6) pe_int (fun _ _ => rfl)) (pe_lst (pa_cons pe_str (pa_cons pe_str pa_nil))) rfl) (pw_or1 (PW.pt (pw_and (pt_cmpR (cK_eq K hr.units) (pe_ix (ixK_seq K) (pv 6) pe_int (fun _ _ => rfl)) pe_str (nomark _)) (pw_and1 (pt_cmpR c_gt (pe_callB (bK_len K) (by rfl) T.b_len (by decide +kernel) (pa_cons (pv 4) pa_nil)) pe_int (nomark _)))))))))
      (pss_one (ps_ret (pe_tup (pa_cons (pe_op (oK_add K) (pv 5) pe_int) (pa_cons pe_str (pa_cons (pe_lst pa_nil) (pa_cons (pe_lst pa_nil) pa_nil)))))))
      pss_nil)
    (pss_cons (ps_set (i := 7) S.nd rfl (Or.inl rfl) (pe_ix (ixK_seq K) (pv 6) pe_int (fun _ _ => rfl)))
    (pss_cons (ps_if (pt_cmpR (cK_eq K hr.units) (pv 7) pe_str (nomark _))
      (pss_one (ps_set (i := 7) S.nd rfl (Or.inl rfl) pe_str))
      (pss_one (ps_if (PW.pt (pw_or (pt_cmpR (cK_eq K hr.units) (pv 7) pe_str (nomark _)) (pw_or (pt_cmpR c_gt (pe_callB (bK_len K) (by rfl) T.b_len (by decide +kernel) (pa_cons (pv 7) pa_nil)) pe_int (nomark _)) (pw_or1 (pt_val (pe_callB (crK_any K rfl) (by rfl) T.b_any (by decide +kernel) (pa_cons (pe_lc (own := [("sign", 9)]) (by rfl) S.nd (pi_str (pv 7)) (blkOk_by (by rfl)) (fun _ _ _ _ _ => (pg_name (i := 9) S.nd rfl (Or.inl rfl))) (fun _ _ _ _ _ => pts_nil) (fun _ _ _ _ _ => (pe_cmpR (cK_ni K) (pv 9) (pe_ix (ixK_seq K) (pv 2) pe_int (fun _ _ => rfl)) rfl))) pa_nil)))))))
      (pss_one (ps_ret (pe_tup (pa_cons (pe_op (oK_add K) (pv 5) pe_int) (pa_cons pe_str (pa_cons (pe_lst pa_nil) (pa_cons (pe_lst pa_nil) pa_nil)))))))
      pss_nil)))
    (pss_cons (ps_set (i := 8) S.nd rfl (Or.inl rfl) (pv 4))
    (pss_cons (ps_if (pt_cmpR (cK_eq K hr.units) (pe_ix (ixK_seq K) (pv 6) pe_int (fun _ _ => rfl)) pe_str (nomark _))
      (pss_one (ps_set (i := 8) S.nd rfl (Or.inl rfl) (pv 3)))
      pss_nil)
    (pss_cons (ps_if (PW.pt (pw_or (pt_cmpR c_gt (pe_callB (bK_len K) (by rfl) T.b_len (by decide +kernel) (pa_cons (pv 8) pa_nil)) pe_int (nomark _)) (pw_or1 (PW.pt (pw_and (pt_cmpR c_gt (pe_callB (bK_len K) (by rfl) T.b_len (by decide +kernel) (pa_cons (pv 8) pa_nil)) pe_int (nomark _)) (pw_and1 (pt_cmpR (cK_leA K hr.units) (pe_tup (pa_cons (pe_callB (bK_len K) (by rfl) T.b_len (by decide +kernel) (pa_cons (pv 7) pa_nil)) (pa_cons (pv 7) pa_nil))) (pe_tup (pa_cons (pe_callB (bK_len K) (by rfl) T.b_len (by decide +kernel) (pa_cons (pe_ix (ixK_seq K) (pv 8) (pe_un o_neg pe_int) (fun _ _ => rfl)) pa_nil)) (pa_cons (pe_ix (ixK_seq K) (pv 8) (pe_un o_neg pe_int) (fun _ _ => rfl)) pa_nil))) (nomark _))))))))
      (pss_one (ps_ret (pe_tup (pa_cons (pe_op (oK_add K) (pv 5) pe_int) (pa_cons pe_str (pa_cons (pe_lst pa_nil) (pa_cons (pe_lst pa_nil) pa_nil)))))))
      pss_nil)
    (pss_one (ps_if (pt_cmpR (cK_eq K hr.units) (pe_ix (ixK_seq K) (pv 6) pe_int (fun _ _ => rfl)) pe_str (nomark _))
      (pss_one (ps_set (i := 3) S.nd rfl (Or.inl rfl) (pe_op (oK_add K) (pv 3) (pe_lst (pa_cons (pv 7) pa_nil)))))
      (pss_one (ps_set (i := 4) S.nd rfl (Or.inl rfl) (pe_op (oK_add K) (pv 4) (pe_lst (pa_cons (pv 7) pa_nil)))))))))))))))
    (pss_one (ps_ret (pe_tup (pa_cons pe_int (pa_cons (pe_ix (ixK_seq K) (pv 2) pe_int (fun _ _ => rfl)) (pa_cons (pv 3) (pa_cons (pv 4) pa_nil))))))))))))), ?_⟩
    walk_at "rd"
    refine ⟨⟨_, rfl⟩, ?_⟩
    walk_at "rd"
    refine s_split rfl hz fun p np => ?_
    have hc := split_count (x := text) tl_nl (by decide)
    have hpt := split_part (x := text) tl_nl (by decide)
    unfold readS at q badQ
    cases hls : Txt.split text "\n" with
    | nil => exact absurd hls (split_ne tl_nl (by decide))
    | cons l0 lr =>
    rw [hls] at q badQ hc hpt
    have hl0 := hpt l0 (List.mem_cons_self ..)
    have g1 := (Gr.refl (m := No) sm).ice (o := .lst ((l0 :: lr).map V.str)) np
    walk_at "rd"
    refine s_ix_l (sql upd_same) atI_0 ?_
    refine ⟨⟨_, rfl⟩, ?_⟩
    walk_at "rd"
    refine s_split rfl (by omega) fun hd nd => ?_
    have g2 := g1.ice (o := .lst ((Txt.split l0 " ").map V.str)) nd
    have hpd : p ≠ hd := fun e => by rw [e, upd_same] at nd; cases nd
    have hpD : SqL K (upd (upd D p (.lst ((l0 :: lr).map V.str))) hd (.lst ((Txt.split l0 " ").map V.str))) p ((l0 :: lr).map V.str) := sql ((upd_ne hpd).trans upd_same)
    have hdD : SqL K (upd (upd D p (.lst ((l0 :: lr).map V.str))) hd (.lst ((Txt.split l0 " ").map V.str))) hd ((Txt.split l0 " ").map V.str) := sql upd_same
    revert g2 hpD hdD
    generalize (upd (upd H p (.lst ((l0 :: lr).map V.str))) hd (.lst ((Txt.split l0 " ").map V.str))) = H2
    generalize (upd (upd D p (.lst ((l0 :: lr).map V.str))) hd (.lst ((Txt.split l0 " ").map V.str))) = D2
    intro g2 hpD hdD
    have hhd := g2.sub.seq hdD
    have hp2 := g2.sub.seq hpD
    have hhp := split_part (x := l0) tl_sp (by decide)
    have bad1 : ∀ p1 p2 t, readL (l0 :: lr) = .error 1 → H2 p1 = none → (upd H2 p1 (.lst [])) p2 = none → (upd (upd H2 p1 (.lst [])) p2 (.lst [])) t = none → Q (.ref t) (upd (upd (upd H2 p1 (.lst [])) p2 (.lst [])) t (.tup [.int 1, .str "", .ref p1, .ref p2])) := fun p1 p2 t e n1 n2 n3 => badQ D2 H2 1 1 p1 p2 t g2 rfl n1 n2 n3 e
    walk_at "rd"
    refine jtN (fun e => ?_) (fun e1 => ?_)
    · walk_at "rd"
      refine ⟨Nat.zero_le _, fun p1 n1 => ?_⟩
      walk_at "rd"
      refine ⟨Nat.zero_le _, fun p2 n2 => ?_⟩
      walk_at "rd"
      refine ⟨le1000 (by simp), fun t n3 => bad1 p1 p2 t ?_ n1 n2 n3⟩
      have e' : (Txt.split l0 " ").length ≠ 2 := fun z => e (by rw [List.length_map, z]; rfl)
      rw [readL_cons]
      split
      · rename_i h
        rw [h] at e'
        exact absurd rfl e'
      · rfl
    obtain ⟨a, ls, hab⟩ : ∃ a ls, Txt.split l0 " " = [a, ls] := by
      have e' : (Txt.split l0 " ").length = 2 := by
        have := e1
        rw [List.length_map] at this
        omega
      match h : Txt.split l0 " ", e' with
      | [a, b], _ => exact ⟨a, b, rfl⟩
    rw [hab] at hhd hdD hhp
    have hll := hhp ls (by simp)
    have hsl : ls.length ≤ sizeLine := by omega
    walk_at "rd"
    refine s_ix_l hhd atI_0 ?_
    walk_at "rd"
    have erd : readL (l0 :: lr) = if a = "sample" ∧ okLetters ls = true then (match goS ls lr 0 [] [] with
      | .error k => .error k
      | .ok (Y, N) => .ok (ls, Y, N)) else .error 1 := by
      rw [readL_cons, hab]
      all_goals rfl
    refine jtN (fun e => ?_) (fun e2 => ?_)
    · walk_at "rd"
      refine ⟨Nat.zero_le _, fun p1 n1 => ?_⟩
      walk_at "rd"
      refine ⟨Nat.zero_le _, fun p2 n2 => ?_⟩
      walk_at "rd"
      exact ⟨le1000 (by simp), fun t n3 => bad1 p1 p2 t (by rw [erd, if_neg fun z => e z.1]) n1 n2 n3⟩
    walk_at "rd"
    refine s_ix_l hhd (atI_i (j := 1) rfl rfl) ?_
    walk_at "rd"
    refine ⟨ls, rfl, hsl, ?_⟩
    refine s_xb ?_
    refine jtNB (fun e => ?_) (fun e3 => ?_)
    · walk_at "rd"
      refine ⟨Nat.zero_le _, fun p1 n1 => ?_⟩
      walk_at "rd"
      refine ⟨Nat.zero_le _, fun p2 n2 => ?_⟩
      walk_at "rd"
      exact ⟨le1000 (by simp), fun t n3 => bad1 p1 p2 t (by rw [erd, if_neg fun z => by rw [z.2] at e; cases e]) n1 n2 n3⟩
    rw [if_pos ⟨e2, e3⟩] at erd
    walk_at "rd"
    refine ⟨Nat.zero_le _, fun ya nya => ?_⟩
    walk_at "rd"
    refine ⟨Nat.zero_le _, fun na nna => ?_⟩
    have nyn : ya ≠ na := fun e => by rw [← e, upd_same] at nna; cases nna
    have g3 := (g2.ice (o := .lst []) nya).ice (o := .lst []) nna
    have hyD : (upd (upd D2 ya (.lst [])) na (.lst [])) ya = some (.lst []) := (upd_ne nyn).trans upd_same
    have hnD : (upd (upd D2 ya (.lst [])) na (.lst [])) na = some (.lst []) := upd_same
    have s23 : Same D2 (upd (upd D2 ya (.lst [])) na (.lst [])) := (((Gr.refl (m := No) g2.sub).ice (o := .lst []) nya).ice (o := .lst []) nna).dd
    have hpD3 := s23.seq hpD
    have hdD3 := s23.seq hdD
    revert g3 hyD hnD hpD3 hdD3
    generalize (upd (upd H2 ya (.lst [])) na (.lst [])) = H1
    generalize (upd (upd D2 ya (.lst [])) na (.lst [])) = D1
    intro g3 hyD hnD hpD3 hdD3
    have gsub := g3.sub
    have hp1 := gsub.seq hpD3
    have hcnt : lr.length + 1 ≤ text.length + 1 := hc
    have hrl : ((l0 :: lr).map V.str).length = lr.length + 1 := by simp
    walk_at "rd"
    have ecount : ((((l0 :: lr).map V.str).length : Int) - 1).toNat = lr.length := by rw [hrl]; omega
    refine ⟨1, _, rfl, ⟨by decide, by decide, by rw [hrl]; omega, by rw [hrl]; omega⟩, ?_⟩
    rw [ecount]
    refine lp_it walk_range (LrI K text ls lr D1 H1 p hd) ⟨D1, ya, na, _, _, _, _, _, [], [], Gr.refl gsub, hyD, hnD, Sor.nil, Sor.nil, rfl, rfl⟩ (fun i σ H' _ _ => trivial) ?_ ?_
    · rintro i x σ H3 H4 hi ⟨D3, ya, na, o5, o6, o7, o8, o9, Y, N, g, hYD, hND, sY, sN, rfl, ego⟩ ⟨rfl, ex⟩
      dsimp only at ex
      subst ex
      have hi1 : i < lr.length := hi
      have hln : ((l0 :: lr).map V.str)[i + 1]? = some (.str lr[i]) := by
        rw [List.getElem?_map, List.getElem?_cons_succ, List.getElem?_eq_getElem hi1]
        rfl
      have hll2 := hpt lr[i] (List.mem_cons_of_mem _ (List.getElem_mem hi1))
      rw [List.drop_eq_getElem_cons hi1, goS_cons] at ego
      generalize lr[i] = ln at hln hll2 ego
      have hpH := g.same'.seq hpD3
      walk_at "rd"
      refine s_ix_l hpH (atI_i (j := i + 1) (by omega) hln) ?_
      refine ⟨⟨_, rfl⟩, ?_⟩
      walk_at "rd"
      refine s_split rfl (by omega) fun pp npp => ?_
      with_reducible refine s_gname ?_
      have hps := split_part (x := ln) tl_sp (by decide)
      have gp := g.ice (o := .lst ((Txt.split ln " ").map V.str)) npp
      have gp' := (Gr.refl (m := No) g.sub).ice (o := .lst ((Txt.split ln " ").map V.str)) npp
      have hppD : SqL K (upd D3 pp (.lst ((Txt.split ln " ").map V.str))) pp ((Txt.split ln " ").map V.str) := sql upd_same
      have hYD9 := gp'.dd _ _ hYD
      have hND9 := gp'.dd _ _ hND
      revert gp hppD hYD9 hND9
      generalize (upd H4 pp (.lst ((Txt.split ln " ").map V.str))) = H9
      generalize (upd D3 pp (.lst ((Txt.split ln " ").map V.str))) = D9
      intro gp hppD hYD9 hND9
      have bad : ∀ Da Ha, Gr No D1 H1 Da Ha → lineS ls Y N ln = none → ∀ p1, Ha p1 = none → ∀ p2, (upd Ha p1 (.lst [])) p2 = none → ∀ t, (upd (upd Ha p1 (.lst [])) p2 (.lst [])) t = none → Q (.ref t) (upd (upd (upd Ha p1 (.lst [])) p2 (.lst [])) t (.tup [.int (1 + (i : Int) + 1), .str "", .ref p1, .ref p2])) := by
        intro Da Ha ga' el p1 n1 p2 n2 t n3
        rw [el] at ego
        exact badQ Da Ha _ (i + 2) p1 p2 t (g3.trans ga') (by omega) n1 n2 n3 (by rw [erd, ← ego])
      have el0 : lineS ls Y N ln = match Txt.split ln " " with
        | [a, b] => if a = "yes" then (match stepS ls Y b with
            | none => none
            | some W => if N = [] then some (W, N) else none) else if a = "no" then (match stepS ls N b with
            | none => none
            | some W => some (Y, W)) else none
        | _ => none := rfl
      revert el0 hps hppD
      generalize Txt.split ln " " = ps
      intro hps hppD el0
      refine s_cut (fun σ' H' => ∃ (Dq : Hp) (k1 b : Str) (W : List Str) (wa : Addr), Gr No D1 H1 Dq H' ∧ Dq ya = some (.lst (Y.map V.str)) ∧ Dq na = some (.lst (N.map V.str)) ∧ SqL K Dq pp ([k1, b].map V.str) ∧ b.length ≤ ln.length ∧ (k1 = "yes" ∧ W = Y ∧ wa = ya ∨ ¬ k1 = "yes" ∧ W = N ∧ wa = na) ∧
          (lineS ls Y N ln = match stepS ls W b with
            | none => none
            | some W' => some (if k1 = "yes" then (W', N) else (Y, W'))) ∧ σ' = [some (.str text), some (.ref p), some (.ref hd), some (.ref ya), some (.ref na), some (.int (1 + (i : Int))), some (.ref pp), o7, o8, o9]) ?_ (fun Nx rest => ?_)
      · rintro σ' Hq ⟨Dq, k1, b, W, wa, gq, hYq, hNq, hppq, hbl, hW, el1, rfl⟩
        have sW : Sor ls W := by
          rcases hW with ⟨_, rfl, _⟩ | ⟨_, rfl, _⟩
          · exact sY
          · exact sN
        have hdq := gq.same'.seq hdD3
        have hppH := gq.sub.seq hppq
        walk_at "rd"
        refine s_ix_l hppH (atI_i (j := 1) rfl rfl) ?_
        with_reducible refine s_gname ?_
        refine s_cut (fun σ' H' => ∃ (Dr : Hp) (w : Str), Gr No Dq Hq Dr H' ∧ wordM ls b = some w ∧ w.length ≤ 24 ∧ σ' = [some (.str text), some (.ref p), some (.ref hd), some (.ref ya), some (.ref na), some (.int (1 + (i : Int))), some (.ref pp), some (.str w), o8, o9]) ?_ (fun Nx2 rest2 => ?_)
        · rintro σ' Hr ⟨Dr, w, gr, hw, hw24, rfl⟩
          have hYr := gr.dd _ _ hYq
          have hNr := gr.dd _ _ hNq
          have hppR := gr.same'.seq hppq
          have es : stepS ls W b = if 24 < w.length ∨ W.length = 64 then none else if W ≠ [] ∧ ordLt (lastS W) w = false then none else some (W ++ [w]) := by
            unfold stepS
            rw [hw]
          have hW64 := sW.wds.few
          have hwa : Dr wa = some (.lst (W.map V.str)) := by
            rcases hW with ⟨_, rfl, rfl⟩ | ⟨_, rfl, rfl⟩
            · exact hYr
            · exact hNr
          have hWl := sql (K := K) (gr.sub _ _ hwa)
          with_reducible refine s_seq ?_
          with_reducible refine s_asg ?_
          refine s_var rfl ?_
          with_reducible refine s_gname ?_
          try dsimp only
          refine s_cut (fun σ' H' => H' = Hr ∧ σ' = [some (.str text), some (.ref p), some (.ref hd), some (.ref ya), some (.ref na), some (.int (1 + (i : Int))), some (.ref pp), some (.str w), some (.ref wa), o9]) ?_ (fun Nx3 rest3 => ?_)
          · rintro σ' Hs ⟨rfl, rfl⟩
            have hppS := gr.same'.seq hppq
            have nz : w.length ≤ sizeLine := le1000 (by omega)
            have bad3 := fun Da Ha (ga' : Gr No Dr Hs Da Ha) => bad Da Ha (gq.trans (gr.trans ga'))
            have en : stepS ls W b = none → lineS ls Y N ln = none := fun h => by rw [el1, h]
            refine s_cut (fun σ' H' => ∃ (Dt : Hp), Gr No Dr Hs Dt H' ∧ stepS ls W b = some (W ++ [w]) ∧ σ' = [some (.str text), some (.ref p), some (.ref hd), some (.ref ya), some (.ref na), some (.int (1 + (i : Int))), some (.ref pp), some (.str w), some (.ref wa), o9]) ?_ (fun Nx4 rest4 => ?_)
            · rintro σ' Ht ⟨Dt, gt, est, rfl⟩
              obtain ⟨w', ew, _, sW'⟩ := stepS_ok est sW
              have ew' : w' = w := by
                have := List.append_cancel_left ew
                exact (List.cons.inj this).1.symm
              subst ew'
              have gAll := gq.trans (gr.trans gt)
              have hYt := gt.dd _ _ hYr
              have hNt := gt.dd _ _ hNr
              have hwt := gt.dd _ _ hwa
              have hppT := gt.same'.seq (gr.dd.seq hppq)
              walk_at "rd"
              refine s_ix_l hppT atI_0 ?_
              walk_at "rd"
              refine jtD (fun e => ?_) (fun e => ?_)
              · rcases hW with ⟨h1, rfl, rfl⟩ | ⟨h1, rfl, rfl⟩
                rotate_left
                · exact absurd e h1
                walk_at "rd"
                refine ⟨Nat.le_refl 1 |> fun _ => le1000 (by simp), fun l1 nl1 => ?_⟩
                have gl1 := (Gr.refl (m := No) gt.sub).lay (o := .lst [.str w']) nl1
                refine s_add_l (gl1.same' _ _ hYt) upd_same (le1000 (by simp; omega)) fun l2 nl2 => ?_
                walk_at "rd"
                have gl2 := gl1.ice (o := .lst (W.map V.str ++ [.str w'])) nl2
                refine ⟨_, l2, na, _, _, _, _, _, W ++ [w'], N, g.trans ((Gr.refl g.sub).trans (Gr.refl g.sub)) |> fun _ => gAll.trans gl2, by rw [upd_same, List.map_append]; rfl, gl2.dd _ _ hNt, sW', sN, rfl, ?_⟩
                rw [el1, est] at ego
                dsimp only at ego
                rw [if_pos e] at ego
                exact ego
              · rcases hW with ⟨h1, rfl, rfl⟩ | ⟨h1, rfl, rfl⟩
                · exact absurd h1 e
                walk_at "rd"
                refine ⟨Nat.le_refl 1 |> fun _ => le1000 (by simp), fun l1 nl1 => ?_⟩
                have gl1 := (Gr.refl (m := No) gt.sub).lay (o := .lst [.str w']) nl1
                refine s_add_l (gl1.same' _ _ hNt) upd_same (le1000 (by simp; omega)) fun l2 nl2 => ?_
                walk_at "rd"
                have gl2 := gl1.ice (o := .lst (W.map V.str ++ [.str w'])) nl2
                refine ⟨_, ya, l2, _, _, _, _, _, Y, W ++ [w'], gAll.trans gl2, gl2.dd _ _ hYt, by rw [upd_same, List.map_append]; rfl, sY, sW', rfl, ?_⟩
                rw [el1, est] at ego
                dsimp only at ego
                rw [if_neg e] at ego
                exact ego
            · have gr0 := Gr.refl (m := No) gr.sub
              walk_at "rd"
              refine jtD (fun e => ?_) (fun e63 => ?_)
              · walk_at "rd"
                refine ⟨Nat.zero_le _, fun p1 n1 => ?_⟩
                walk_at "rd"
                refine ⟨Nat.zero_le _, fun p2 n2 => ?_⟩
                walk_at "rd"
                refine ⟨le1000 (by simp), bad3 Dr Hs gr0 (en ?_) p1 n1 p2 n2⟩
                rw [List.length_map] at e
                rw [es, if_pos (.inr (by omega))]
              rw [List.length_map] at e63
              rw [if_neg (fun z => z.elim (fun z => by omega) fun z => by omega)] at es
              walk_at "rd"
              refine jtD (fun e7 => ?_) (fun e7 => ?_)
              · have hne : W ≠ [] := fun z => by rw [z] at e7; exact absurd e7 (by decide)
                have hll := (sW.wds.ok _ (lastS_mem hne)).1
                walk_at "rd"
                refine ⟨le1000 (by simp), fun q1 nq1 => ?_⟩
                have gb1 := gr0.ice (o := .tup [.int w.length, .str w]) nq1
                have hWl1 := gb1.all.seq hWl
                have hlz : (lastS W).length ≤ sizeLine := le1000 (by omega)
                walk_at "rd"
                refine s_ix_l hWl1 (last_neg hne) ?_
                walk_at "rd"
                refine s_ix_l hWl1 (last_neg hne) ?_
                walk_at "rd"
                refine ⟨le1000 (by simp), fun q2 nq2 => ?_⟩
                have gb2 := gb1.ice (o := .tup [.int (lastS W).length, .str (lastS W)]) nq2
                have n12 : q1 ≠ q2 := fun e => by rw [← e, upd_same] at nq2; cases nq2
                refine s_leIS (p := kS w) (q := kS (lastS W)) (sqt ((upd_ne n12).trans upd_same)) (sqt upd_same) ?_
                walk_at "rd"
                refine jtNB (fun e8 => ?_) (fun e8 => ?_)
                · walk_at "rd"
                  refine ⟨Nat.zero_le _, fun p1 n1 => ?_⟩
                  walk_at "rd"
                  refine ⟨Nat.zero_le _, fun p2 n2 => ?_⟩
                  walk_at "rd"
                  exact ⟨le1000 (by simp), bad3 _ _ gb2 (en (by rw [es, if_pos ⟨hne, e8⟩])) p1 n1 p2 n2⟩
                · walk_at "rd"
                  refine rest4 _ _ ⟨_, gb2, ?_, rfl⟩
                  rw [es, if_neg fun z => by
                    have h1 : ltIS (kS (lastS W)) (kS w) = false := z.2
                    rw [e8] at h1
                    cases h1]
              · walk_at "rd"
                refine rest4 _ _ ⟨Dr, gr0, ?_, rfl⟩
                rw [es, if_neg fun z => e7 (by
                  rw [List.length_map]
                  have : 0 < W.length := List.length_pos_iff.mpr z.1
                  omega)]
          · have hppS := gr.same'.seq hppq
            walk_at "rd"
            refine s_ix_l hppR atI_0 ?_
            walk_at "rd"
            refine jtD (fun e => ?_) (fun e => ?_)
            · walk_at "rd"
              rcases hW with ⟨h1, rfl, rfl⟩ | ⟨h1, rfl, rfl⟩
              · exact rest3 _ _ ⟨rfl, rfl⟩
              · exact absurd e h1
            · walk_at "rd"
              rcases hW with ⟨h1, rfl, rfl⟩ | ⟨h1, rfl, rfl⟩
              · exact absurd h1 e
              · exact rest3 _ _ ⟨rfl, rfl⟩
        · have giveUp := bad Dq Hq gq
          have en : wordM ls b = none → lineS ls Y N ln = none := fun h => by
            rw [el1, show stepS ls W b = none from by unfold stepS; rw [h]]
          have en24 : ∀ w, wordM ls b = some w → 24 < w.length → lineS ls Y N ln = none := fun w h h2 => by
            rw [el1, show stepS ls W b = none from by unfold stepS; rw [h]; exact if_pos (.inl h2)]
          have hbz : b.length ≤ sizeLine := by omega
          walk_at "rd"
          refine jtD (fun e => ?_) (fun e1 => ?_)
          · walk_at "rd"
            exact rest2 _ _ ⟨Dq, "", Gr.refl gq.sub, by rw [wordM, if_pos e], by decide, rfl⟩
          walk_at "rd"
          refine jtD (fun e => ?_) (fun e2 => ?_)
          · walk_at "rd"
            refine ⟨Nat.zero_le _, fun p1 n1 => ?_⟩
            walk_at "rd"
            refine ⟨Nat.zero_le _, fun p2 n2 => ?_⟩
            walk_at "rd"
            exact ⟨le1000 (by simp), giveUp (en (by rw [wordM, if_neg e1, if_pos e])) p1 n1 p2 n2⟩
          walk_at "rd"
          refine jtD (fun e => ?_) (fun e3 => ?_)
          · walk_at "rd"
            refine ⟨Nat.zero_le _, fun p1 n1 => ?_⟩
            walk_at "rd"
            refine ⟨Nat.zero_le _, fun p2 n2 => ?_⟩
            walk_at "rd"
            refine ⟨le1000 (by simp), giveUp ?_ p1 n1 p2 n2⟩
            cases hw : wordM ls b with
            | none => exact en hw
            | some w =>
              refine en24 w hw ?_
              unfold wordM at hw
              rw [if_neg e1, if_neg e2] at hw
              split at hw
              · cases hw
              · cases hw
                omega
          walk_at "rd"
          intro ap nap
          refine lq_map walk_str (b.cps.toList.map fun c => V.bl (!decide (c ∈ ls.cps.toList))) (by simp) hbz nap (fun _ => trivial) ?_ ?_
          · rintro j x acc H' N' hj ⟨rfl, c, hcc, rfl⟩ hN' hlt
            walk_at "rd"
            refine ⟨rfl, ?_⟩
            walk_at "rd"
            have gl := (Gr.refl (m := No) gq.sub).lay (o := .lst acc) nap
            refine s_ix_l (gl.all.seq hdq) (atI_i (j := 1) rfl rfl) ?_
            walk_at "rd"
            refine lq_put hlt (hN' _ ?_)
            rw [List.getElem?_map, show b.cps.toList[j]? = some c by simpa using hcc]
            rfl
          · have gl := (Gr.refl (m := No) gq.sub).lay (o := .lst (b.cps.toList.map fun c => V.bl (!decide (c ∈ ls.cps.toList)))) nap
            walk_at "rd"
            refine s_any (bs := b.cps.toList.map fun c => !decide (c ∈ ls.cps.toList)) (sql (by rw [upd_same, List.map_map]; rfl)) ?_
            rw [List.any_map, show (id ∘ fun c => !decide (c ∈ ls.cps.toList)) = (fun c => !decide (c ∈ ls.cps.toList)) from rfl]
            walk_at "rd"
            refine jtB (fun e4 => ?_) (fun e4 => ?_)
            · walk_at "rd"
              refine ⟨Nat.zero_le _, fun p1 n1 => ?_⟩
              walk_at "rd"
              refine ⟨Nat.zero_le _, fun p2 n2 => ?_⟩
              walk_at "rd"
              exact ⟨le1000 (by simp), bad _ _ (gq.trans gl) (en (by rw [wordM, if_neg e1, if_neg e2, if_pos e4])) p1 n1 p2 n2⟩
            · walk_at "rd"
              exact rest2 _ _ ⟨Dq, b, gl, by rw [wordM, if_neg e1, if_neg e2, if_neg (by rw [e4]; exact Bool.false_ne_true)], by omega, rfl⟩
      · have giveUp := bad D9 H9 gp
        have hppH := gp.sub.seq hppD
        have hNH := sql (K := K) (gp.sub _ _ hND9)
        walk_at "rd"
        refine jtN (fun e => ?_) (fun e4 => ?_)
        · walk_at "rd"
          refine ⟨Nat.zero_le _, fun p1 n1 => ?_⟩
          walk_at "rd"
          refine ⟨Nat.zero_le _, fun p2 n2 => ?_⟩
          walk_at "rd"
          refine ⟨le1000 (by simp), giveUp ?_ p1 n1 p2 n2⟩
          rw [el0]
          split
          · refine absurd ?_ e
            rw [List.length_map]
            rfl
          · rfl
        obtain ⟨k1, b, rfl⟩ : ∃ k1 b, ps = [k1, b] := by
          have e' : ps.length = 2 := by
            have := e4
            rw [List.length_map] at this
            omega
          match h : ps, e' with
          | [a, b], _ => exact ⟨a, b, rfl⟩
        have el1 : lineS ls Y N ln = if k1 = "yes" then (match stepS ls Y b with
              | none => none
              | some W => if N = [] then some (W, N) else none) else if k1 = "no" then (match stepS ls N b with
              | none => none
              | some W => some (Y, W)) else none := el0
        have hbl := hps b (by simp)
        walk_at "rd"
        refine s_ix_l hppH atI_0 ?_
        walk_at "rd"
        refine ⟨le1000 (by simp), fun yn nyn2 => ?_⟩
        have gq := (Gr.refl (m := No) gp.sub).lay (o := .lst [.str "yes", .str "no"]) nyn2
        refine s_ni_l (sql upd_same) rfl rfl ?_
        rw [inV2]
        have hppq := gq.all.seq hppH
        have hNq := gq.all.seq hNH
        have gpq := gp.trans gq
        revert hppq hNq gpq gq
        generalize (upd H9 yn (.lst [.str "yes", .str "no"])) = Hq
        intro gq hppq hNq gpq
        have giveUp2 := bad D9 Hq gpq
        by_cases hk : k1 = "yes" ∨ k1 = "no"
        rotate_left
        · rw [decide_eq_false fun z => hk (.inl z.symm), decide_eq_false fun z => hk (.inr z.symm)]
          walk_at "rd"
          refine jtT ?_
          walk_at "rd"
          refine ⟨Nat.zero_le _, fun p1 n1 => ?_⟩
          walk_at "rd"
          refine ⟨Nat.zero_le _, fun p2 n2 => ?_⟩
          walk_at "rd"
          exact ⟨le1000 (by simp), giveUp2 (by rw [el1, if_neg fun z => hk (.inl z), if_neg fun z => hk (.inr z)]) p1 n1 p2 n2⟩
        have eb : (!(decide (("yes" : Str) = k1) || (decide (("no" : Str) = k1) || false))) = false := by
          rcases hk with hk | hk
          · subst hk
            rfl
          · subst hk
            rfl
        rw [eb]
        walk_at "rd"
        refine s_ix_l hppq atI_0 ?_
        walk_at "rd"
        refine jtD (fun e => ?_) (fun e => ?_)
        · walk_at "rd"
          refine jtD (fun e5 => ?_) (fun e5 => ?_)
          · walk_at "rd"
            refine ⟨Nat.zero_le _, fun p1 n1 => ?_⟩
            walk_at "rd"
            refine ⟨Nat.zero_le _, fun p2 n2 => ?_⟩
            walk_at "rd"
            refine ⟨le1000 (by simp), giveUp2 ?_ p1 n1 p2 n2⟩
            have : N ≠ [] := fun z => by rw [z] at e5; exact absurd e5 (by decide)
            rw [el1, if_pos e]
            split
            · rfl
            · exact if_neg this
          · have hN0 : N = [] := by
              rw [List.length_map] at e5
              exact List.eq_nil_of_length_eq_zero (by omega)
            walk_at "rd"
            refine rest _ _ ⟨D9, k1, b, Y, ya, gpq, hYD9, hND9, hppD, hbl, .inl ⟨e, rfl, rfl⟩, ?_, rfl⟩
            rw [el1, if_pos e]
            cases stepS ls Y b with
            | none => rfl
            | some W =>
              dsimp only
              rw [if_pos hN0, if_pos e]
        · walk_at "rd"
          have hk2 : k1 = "no" := hk.resolve_left e
          refine rest _ _ ⟨D9, k1, b, N, na, gpq, hYD9, hND9, hppD, hbl, .inr ⟨e, rfl, rfl⟩, ?_, rfl⟩
          rw [el1, if_neg e, if_pos hk2]
          cases stepS ls N b with
          | none => rfl
          | some W =>
            dsimp only
            rw [if_neg e]
    · rintro σ H3 ⟨D3, ya, na, o5, o6, o7, o8, o9, Y, N, g, hYD, hND, sY, sN, rfl, ego⟩
      have el : lr.drop lr.length = [] := List.drop_of_length_le (Nat.le_refl _)
      rw [el] at ego
      have ego' : goS ls lr 0 [] [] = .ok (Y, N) := ego.symm
      have hd3 := g.same'.seq hdD3
      walk_at "rd"
      refine s_ix_l hd3 (atI_i (j := 1) rfl rfl) ?_
      walk_at "rd"
      refine ⟨le1000 (by simp), fun t nt => ?_⟩
      have gt := g.ice (o := .tup [.int 0, .str ls, .ref ya, .ref na]) nt
      have gt' := (Gr.refl (m := No) g.sub).ice (o := .tup [.int 0, .str ls, .ref ya, .ref na]) nt
      refine q _ _ _ (g3.trans gt) ?_
      rw [erd, ego']
      exact .tup (sqt upd_same) (.cons (.int _) (.cons (.str _) (.cons (dp_ofS (sql (gt'.dd _ _ hYD))) (.cons (dp_ofS (sql (gt'.dd _ _ hND))) .nil))))
end
end H91

namespace Y
open PySem PySem.Spec L2 He
section
variable {K : PySem.W.Frag}
theorem kitC {t a : Value} {r : List Value} {x y : Bool} (h1 : PySem.W.kitOne K t a = some x) (h2 : PySem.W.kitAny K t r = some y) : PySem.W.kitAny K t (a :: r) = some (x || y) := by
  unfold PySem.W.kitAny
  rw [h1]
  cases x
  · exact h2
  · rfl
theorem kit1 {t a : Value} {x : Bool} (h1 : PySem.W.kitOne K t a = some x) : PySem.W.kitAny K t [a] = some x := by
  unfold PySem.W.kitAny
  rw [h1]
  cases x <;> rfl
theorem DOk.up {H H' : Hp} {d : Option Addr} (s : Same H H') (h : DOk H d) : DOk H' d := by
  cases d with
  | none => trivial
  | some dd =>
    obtain ⟨fs, e⟩ := h
    exact ⟨fs, s _ _ e⟩
end
section
variable {X : Cx} (K : PySem.W.Frag)
theorem cK_isi (h : X.K = K := by rfl) : CallR X (.builtin "isinstance") (rIsi K) := h ▸ call_isi
theorem cK_isiT (h : X.K = K := by rfl) : CallR X (.builtin "isinstance") (rIsiT K) := h ▸ call_isiT
end
end Y

namespace H91
open PySem PySem.Spec L2 He Y Hk91
local macro_rules | `(tactic| walk_at "rd1") => `(tactic| first
  | with_reducible refine s_seq ?_
  | with_reducible refine s_asg ?_
  | with_reducible refine s_gname ?_
  | ((with_reducible refine s_var (v := ?_) ?_ ?_); rotate_left; exact rfl)
  | with_reducible refine s_c ?_
  | with_reducible refine s_op ?_
  | with_reducible refine s_un ?_
  | with_reducible refine s_nil ?_
  | with_reducible refine s_cons ?_
  | with_reducible refine s_CB ?_
  | with_reducible refine s_ifS ?_
  | with_reducible refine s_test ?_
  | with_reducible refine s_B ?_
  | with_reducible refine s_xb ?_
  | with_reducible refine s_xi ?_
  | with_reducible refine s_xs ?_
  | with_reducible refine s_or ?_
  | with_reducible refine s_and ?_
  | with_reducible refine s_not ?_
  | with_reducible refine s_orV ?_
  | with_reducible refine s_andV ?_
  | with_reducible refine s_notV ?_
  | with_reducible refine s_ret ?_
  | with_reducible refine s_retN ?_
  | with_reducible refine s_next ?_
  | with_reducible refine s_drop ?_
  | with_reducible refine s_yes ?_
  | with_reducible refine s_for ?_
  | with_reducible refine s_lc ?_
  | with_reducible refine s_iStr ?_
  | with_reducible refine s_iList ?_
  | with_reducible refine s_iTup ?_
  | with_reducible refine s_iR1 ?_
  | with_reducible refine s_iR2 ?_
  | with_reducible refine s_iE ?_
  | with_reducible refine s_iET ?_
  | with_reducible refine s_iES ?_
  | with_reducible refine s_tup ?_
  | with_reducible refine s_lst ?_
  | with_reducible refine s_BM ?_
  | with_reducible refine s_BM0 ?_
  | with_reducible refine s_BMS ?_
  | with_reducible refine s_M1 ?_
  | with_reducible refine s_sl ?_
  | with_reducible refine s_noP ?_
  | with_reducible refine s_po ?_
  | with_reducible refine s_call ?_
  | with_reducible refine s_callS ?_
  | with_reducible refine s_make ?_
  | with_reducible refine s_makeS ?_
  | with_reducible refine s_methS ?_
  | with_reducible refine s_callO ?_
  | with_reducible refine s_dnew ?_
  | with_reducible refine s_dget ?_
  | with_reducible refine s_din ?_
  | with_reducible refine s_dnin ?_
  | with_reducible refine s_dput ?_
  | with_reducible refine s_dsetd ?_
  | with_reducible refine s_dget2 ?_
  | with_reducible refine s_fld ?_
  | with_reducible refine s_sFld ?_
  | with_reducible refine s_rz ?_
  | with_reducible refine s_asgS ?_
  | with_reducible refine s_gSub ?_
  | with_reducible refine s_ifE ?_
  | with_reducible refine s_add_i ?_
  | with_reducible refine s_sub ?_
  | with_reducible refine s_neg ?_
  | with_reducible refine s_eq_i ?_
  | with_reducible refine s_eq_s ?_
  | with_reducible refine s_ne_i ?_
  | with_reducible refine s_ne_s ?_
  | with_reducible refine s_lt_i ?_
  | with_reducible refine s_le_i ?_
  | with_reducible refine s_gt_i ?_
  | with_reducible refine s_ge_i ?_
  | with_reducible refine s_lt_s ?_
  | with_reducible refine s_le_s ?_
  | with_reducible refine s_gt_s ?_
  | with_reducible refine s_ge_s ?_
  | with_reducible refine s_in_c ?_
  | with_reducible refine s_ni_c ?_
  | with_reducible refine s_isN ?_
  | with_reducible refine s_noN ?_
  | with_reducible refine s_abs ?_
  | with_reducible refine s_min2 ?_
  | with_reducible refine s_max2 ?_
  | with_reducible refine s_int_i ?_
  | ((with_reducible refine s_len_s ?_ ?_); assumption)
  | ((with_reducible refine s_len_l (xs := ?_) ?_ ?_); rotate_left; assumption)
  | ((with_reducible refine s_len_t (xs := ?_) ?_ ?_); rotate_left; assumption)
  | with_reducible refine s_pair upd_same ?_
  | with_reducible refine s_callS ?_
  | with_reducible refine s_sortK ?_
  | with_reducible refine s_disp ?_
  | with_reducible refine s_pcons ?_
  | with_reducible refine s_pnil ?_
  | ((with_reducible refine s_ix_t (by assumption) (by first | exact atI_0 | exact atI_i (j := 1) rfl rfl | exact atI_i (j := 2) rfl rfl | exact atI_i (j := 3) rfl rfl) ?_))
  | with_reducible refine jtT ?_
  | with_reducible refine jtF ?_
  | with_reducible refine jtNT ?_
  | with_reducible refine jtNF ?_
  | dsimp only)
local macro_rules | `(tactic| walk_at "rd") => `(tactic| repeat (walk_at "rd1"))

section
variable {P : Program} {w : World} {K : PySem.W.Frag} {mg : Str → Option Value} {base : Heap}
theorem q_law_integer (T : Txt P w K mg) (p : Addr × Obj) : HasQ P w K mg base p 1 "_law_integer" sp_integer := by
  have S := S_law_integer
  refine hasQ_of (k := 0) T.d_law_integer T.gd_law_integer S (fun _ _ _ _ _ _ us hl => match us, hl with | [_], _ => rfl) (fun vs H Q E h => ?_) (fun f cdv A outer s H vs Q E hr h => ?_)
  · obtain ⟨n, rfl, _⟩ := h
    rfl
  · obtain ⟨n, rfl, q⟩ := h
    refine ⟨_, (pss_one (ps_ret (pe_and (pe_callB call_isi (by rfl) T.b_isinstance (by decide +kernel) (pa_cons (pv 0) (pa_cons (pe_gT (T := "int") (by rfl) T.b_int (by decide +kernel)) pa_nil))) (pe_one (pe_not (pe_callB call_isi (by rfl) T.b_isinstance (by decide +kernel) (pa_cons (pv 0) (pa_cons (pe_gT (T := "bool") (by rfl) T.b_bool (by decide +kernel)) pa_nil)))))))), ?_⟩
    walk_at "rd"
    refine ⟨.int n, .ty "int", .type "int", .type "int", true, rfl, .ty _, .base (.int n), rfl, ?_⟩
    walk_at "rd"
    refine ⟨.int n, .ty "bool", .type "int", .type "bool", false, rfl, .ty _, .base (.int n), rfl, ?_⟩
    walk_at "rd"
    exact q
theorem S_law_words_are : FnScope ["actual", "due", "k"] ["actual", "due"] (d_law_words_are).scope := ⟨rfl, rfl, rfl, by decide +kernel, rfl, by decide +kernel, by decide +kernel⟩
def sp_words_are (K : PySem.W.Frag) : Sp := fun vs H Q E => ∃ (D : Hp) (u v : V) (ws : List Str), vs = [u, v] ∧ Same D H ∧ Dp K D u (.tuple (dSs ws)) ∧ Dp K D v (.list (dSs ws)) ∧ ws.length ≤ 1000 ∧ ∀ D' H', Gr No D H D' H' → Q (.bl true) H'
theorem w_law_words_are (T : Txt P w K mg) : Has P w K mg base 3 "_law_words_are" (sp_words_are K) := by
  have S := S_law_words_are
  refine has_of (k := 2) T.d_law_words_are T.gd_law_words_are S (fun _ _ _ _ _ _ us hl => match us, hl with | [_, _], _ => rfl) (fun vs H Q E h => ?_) (fun f cdv A outer s H vs Q E hr h => ?_)
  · obtain ⟨D, u, v, ws, rfl, _⟩ := h
    rfl
  · obtain ⟨D, u, v, ws, rfl, sm, du, dv, hw, q⟩ := h
    obtain ⟨a, rfl, ha⟩ := dp_ST du
    obtain ⟨b, rfl, hb⟩ := dp_S dv
    have haH := same_seqT sm ha
    have hbH := sm.seq hb
    refine ⟨_, (pss_cons (ps_if (PW.pt (pw_or (pt_not (pt_val (pe_callB call_isi (by rfl) T.b_isinstance (by decide +kernel) (pa_cons (pv 0) (pa_cons (pe_gT (T := "tuple") (by rfl) T.b_tuple (by decide +kernel)) pa_nil))))) (pw_or1 (pt_cmpR (cK_ne K hr.units) (pe_callB (bK_len K) (by rfl) T.b_len (by decide +kernel) (pa_cons (pv 0) pa_nil)) (pe_callB (bK_len K) (by rfl) T.b_len (by decide +kernel) (pa_cons (pv 1) pa_nil)) (nomark _)))))
      (pss_one (ps_ret pe_bl))
      pss_nil)
    (pss_one (ps_ret (pe_callB (crK_all K rfl) (by rfl) T.b_all (by decide +kernel) (pa_cons (pe_lc (own := [("k", 2)]) (by rfl) S.nd (pi_range1 (by rfl) T.b_range (pa_cons (pe_callB (bK_len K) (by rfl) T.b_len (by decide +kernel) (pa_cons (pv 1) pa_nil)) pa_nil)) (blkOk_by (by rfl)) (fun _ _ _ _ _ => (pg_name (i := 2) S.nd rfl (Or.inl rfl))) (fun _ _ _ _ _ => pts_nil) (fun _ _ _ _ _ => (pe_and (pe_callB (cK_isi K) (by rfl) T.b_isinstance (by decide +kernel) (pa_cons (pe_ix (ixK_seq K) (pv 0) (pv 2) (fun _ _ => rfl)) (pa_cons (pe_gT (T := "str") (by rfl) T.b_str (by decide +kernel)) pa_nil))) (pe_one (pe_cmpR (cK_eq K hr.units) (pe_ix (ixK_seq K) (pv 0) (pv 2) (fun _ _ => rfl)) (pe_ix (ixK_seq K) (pv 1) (pv 2) (fun _ _ => rfl)) (nomark _)))))) pa_nil))))), ?_⟩
    walk_at "rd"
    refine ⟨.ref a, .ty "tuple", .type "tuple", .type "tuple", true, rfl, .ty _, tyx_tup haH, rfl, ?_⟩
    walk_at "rd"
    refine jtN (fun e => absurd rfl e) (fun _ => ?_)
    walk_at "rd"
    refine ⟨_, rfl, by omega, by rw [List.length_map]; omega, fun p np => ?_⟩
    refine lq_map walk_r0 (ws.map fun _ => V.bl true) (by simp) (by simp; exact le1000 hw) np (fun _ => trivial) ?_ ?_
    · rintro i x acc H' N hi ⟨rfl, rfl⟩ hN hlt
      have hi2 : i < ws.length := by simpa using hi
      have gl := (Gr.refl (m := No) sm).lay (o := .lst acc) np
      have haL := same_seqT gl.all haH
      have hbL := gl.all.seq hbH
      have ea : (ws.map V.str)[i]? = some (.str ws[i]) := by rw [List.getElem?_map, List.getElem?_eq_getElem hi2]; rfl
      walk_at "rd"
      refine ⟨rfl, ?_⟩
      walk_at "rd"
      refine s_ix_t haL (atI_nat ea) ?_
      walk_at "rd"
      refine ⟨.str ws[i], .ty "str", .type "str", .type "str", true, rfl, .ty _, .base (.str _), rfl, ?_⟩
      walk_at "rd"
      refine s_ix_t haL (atI_nat ea) ?_
      walk_at "rd"
      refine s_ix_l hbL (atI_nat ea) ?_
      walk_at "rd"
      rw [decide_eq_true rfl]
      refine lq_put hlt (hN _ ?_)
      rw [List.getElem?_map, List.getElem?_eq_getElem hi2]
      rfl
    · have gl := (Gr.refl (m := No) sm).lay (o := .lst (ws.map fun _ => V.bl true)) np
      refine s_all (bs := ws.map fun _ => true) (sql (by rw [upd_same, List.map_map]; rfl)) ?_
      have : (ws.map fun _ => true).all id = true := by simp
      rw [this]
      exact q _ _ gl
theorem S_law_reads : FnScope ["text", "due", "e", "again", "sample"] ["text"] (d_law_reads).scope := ⟨rfl, rfl, rfl, by decide +kernel, rfl, by decide +kernel, by decide +kernel⟩
def sp_law_reads (K : PySem.W.Frag) : Sp := fun vs H Q E => ∃ (D : Hp) (t : Str), vs = [.str t] ∧ t.length ≤ 100000 ∧ Same D H ∧ ∀ D' H', Gr No D H D' H' → Q (.bl true) H'
theorem w_law_reads (T : Txt P w K mg) : Has P w K mg base 8 "_law_reads" (sp_law_reads K) := by
  have S := S_law_reads
  have G_law_read := w_law_read (base := base) T
  have G_read_sample := w_read_sample (base := base) T
  have GQ_law_integer := fun p => q_law_integer (base := base) T p
  have G_law_words_are := w_law_words_are (base := base) T
  have G_sample_text := w_sample_text (base := base) T
  refine has_of (k := 7) T.d_law_reads T.gd_law_reads S (fun _ _ _ _ _ _ us hl => match us, hl with | [_], _ => rfl) (fun vs H Q E h => ?_) (fun f cdv A outer s H vs Q E hr h => ?_)
  · obtain ⟨D, t, rfl, _⟩ := h
    rfl
  · obtain ⟨D, text, rfl, ht, sm, q⟩ := h
    refine ⟨_, (pss_cons (ps_set (i := 1) S.nd rfl (Or.inl rfl) (pe_has G_law_read (hr.mono (by decide)) (takes_of rfl rfl rfl rfl) rfl (pa_cons (pv 0) pa_nil)))
    (pss_cons (ps_try_as (i := 2) rfl rfl S.nd rfl rfl ⟨rfl, by decide, Or.inl T.g_LanguageError⟩ (takes_of rfl rfl rfl rfl)
      (fun W pn xe tk po => (pss_one (ps_set (i := 4) S.nd rfl (Or.inl rfl) (pe_has G_read_sample (hr.mono (by decide)) tk rfl (pa_cons (pv 0) pa_nil)))))
      (fun a oe cls d pn hz hf => (pss_cons (ps_if (PW.pt (pw_or (pt_not (pt_val (pe_callB (call_isX hz hf) (by rfl) T.b_isinstance (by decide +kernel) (pa_cons (pv 2) (pa_cons (pe_gC rfl T.g_BadText) pa_nil))))) (pw_or1 (pt_val (pe_callB (call_isXT hz hf) (by rfl) T.b_isinstance (by decide +kernel) (pa_cons (pv 2) (pa_cons (pe_tup (pa_cons (pe_gC rfl T.g_BadLetters) (pa_cons (pe_gC rfl T.g_BadWord) (pa_cons (pe_gC rfl T.g_TooMany) pa_nil)))) pa_nil)))))))
      (pss_one (ps_ret pe_bl))
      pss_nil)
    (pss_one (ps_ret (pe_and (pe_hasQ (GQ_law_integer (a, oe)) (List.mem_cons_self) (roomS hr (by decide) rfl rfl) takes0 rfl (pa_cons (pe_xfE hz hf (pv 2)) pa_nil)) (pe_and (pe_cmpR c_gt (pe_ix (ixK_seq K) (pv 1) pe_int (fun _ _ => rfl)) pe_int (nomark _)) (pe_one (pe_cmpR (cK_eq K hr.units) (pe_xfE hz hf (pv 2)) (pe_ix (ixK_seq K) (pv 1) pe_int (fun _ _ => rfl)) (nomark _))))))))))
    (pss_cons (ps_if (PW.pt (pw_or (pt_cmpR c_gt (pe_ix (ixK_seq K) (pv 1) pe_int (fun _ _ => rfl)) pe_int (nomark _)) (pw_or1 (pt_not (pt_val (pe_callB call_isi (by rfl) T.b_isinstance (by decide +kernel) (pa_cons (pv 4) (pa_cons (pe_gC rfl T.g_Sample) pa_nil))))))))
      (pss_one (ps_ret pe_bl))
      pss_nil)
    (pss_cons (ps_if (PW.pt (pw_or (pt_not (pt_val (pe_callB call_isi (by rfl) T.b_isinstance (by decide +kernel) (pa_cons (peK_fld K (pv 4) rfl) (pa_cons (pe_gT (T := "str") (by rfl) T.b_str (by decide +kernel)) pa_nil))))) (pw_or1 (pt_cmpR (cK_ne K hr.units) (peK_fld K (pv 4) rfl) (pe_ix (ixK_seq K) (pv 1) pe_int (fun _ _ => rfl)) (nomark _)))))
      (pss_one (ps_ret pe_bl))
      pss_nil)
    (pss_cons (ps_if (PW.pt (pw_or (pt_not (pt_val (pe_has G_law_words_are (hr.mono (by decide)) (takes_of rfl rfl rfl rfl) rfl (pa_cons (peK_fld K (pv 4) rfl) (pa_cons (pe_ix (ixK_seq K) (pv 1) pe_int (fun _ _ => rfl)) pa_nil))))) (pw_or1 (pt_not (pt_val (pe_has G_law_words_are (hr.mono (by decide)) (takes_of rfl rfl rfl rfl) rfl (pa_cons (peK_fld K (pv 4) rfl) (pa_cons (pe_ix (ixK_seq K) (pv 1) pe_int (fun _ _ => rfl)) pa_nil))))))))
      (pss_one (ps_ret pe_bl))
      pss_nil)
    (pss_cons (ps_set (i := 3) S.nd rfl (Or.inl rfl) (pe_has G_sample_text (hr.mono (by decide)) (takes_of rfl rfl rfl rfl) rfl (pa_cons (pv 4) pa_nil)))
    (pss_one (ps_ret (pe_and (pe_callB call_isi (by rfl) T.b_isinstance (by decide +kernel) (pa_cons (pv 3) (pa_cons (pe_gT (T := "str") (by rfl) T.b_str (by decide +kernel)) pa_nil))) (pe_one (pe_cmpR (cK_eq K hr.units) (pv 3) (pv 0) (nomark _)))))))))))), ?_⟩
    walk_at "rd"
    refine ⟨D, text, rfl, ht, sm, fun D1 H1 u g1 du => ?_⟩
    walk_at "rd"
    refine ⟨D1, text, rfl, ht, g1.sub, fun D2 H2 v z Y N e g2 M => ?_, fun D2 H2 d k e g2 nd => ?_⟩
    · rw [e] at du
      obtain ⟨ta, xs, rfl, hta, hx⟩ := dp_tuple du
      obtain ⟨ok, sY, sN, et⟩ := readS_ok e
      cases hx with
      | cons h0 r0 =>
      cases r0 with
      | cons h1 r1 =>
      cases r1 with
      | cons h2 r2 =>
      cases r2 with
      | cons h3 r3 =>
      cases r3
      cases h0
      cases h1
      have hT2 := same_seqT (g2.same') hta
      have M0 := M
      obtain ⟨a, dx, vp, vq, rfl, ha, dp, dq⟩ := M
      have haH := g2.sub _ _ ha
      have gA := g1.trans g2
      walk_at "rd"
      refine jtD (fun e => absurd e (by decide)) (fun _ => ?_)
      walk_at "rd"
      refine ⟨.ref a, .ref (ga K "Sample"), .ref (ga K "Sample"), .ref (ga K "Sample"), true, rfl, .own _, .base (.ins haH T.cl_Sample T.o_Sample.ha T.o_Sample.hn T.o_Sample.ht T.o_Sample.hm), T.kit_Sample_Sample, ?_⟩
      walk_at "rd"
      refine ⟨a, _, _, _, _, rfl, haH, T.cl_Sample, T.na_Sample_letters, rfl, ?_⟩
      walk_at "rd"
      refine ⟨.str z, .ty "str", .type "str", .type "str", true, rfl, .ty _, .base (.str _), rfl, ?_⟩
      walk_at "rd"
      refine ⟨a, _, _, _, _, rfl, haH, T.cl_Sample, T.na_Sample_letters, rfl, ?_⟩
      walk_at "rd"
      refine jtN (fun e => absurd rfl e) (fun _ => ?_)
      walk_at "rd"
      refine ⟨a, _, _, _, _, rfl, haH, T.cl_Sample, T.na_Sample_yes, rfl, ?_⟩
      walk_at "rd"
      refine ⟨D2, vp, _, Y, rfl, g2.sub, dp, dp_up g2 h2, sY.wds.lens.1, fun D3 H3 g3 => ?_⟩
      have hT3 := same_seqT g3.all hT2
      have haH3 := g3.all _ _ haH
      walk_at "rd"
      refine ⟨a, _, _, _, _, rfl, haH3, T.cl_Sample, T.na_Sample_no, rfl, ?_⟩
      walk_at "rd"
      refine ⟨D3, vq, _, N, rfl, g3.sub, dp_up g3 dq, dp_up g3 (dp_up g2 h3), sN.wds.lens.1, fun D4 H4 g4 => ?_⟩
      have gB := gA.trans (g3.trans g4)
      have s24 := (g3.trans g4).dd
      walk_at "rd"
      refine ⟨D4, .ref a, z, Y, N, rfl, g4.sub, ⟨a, dx, vp, vq, rfl, s24 _ _ ha, _root_.Y.Dp.mono s24 dp, _root_.Y.Dp.mono s24 dq⟩, (ok_len ok).2, sY.wds.few, sN.wds.few, fun x hx => (sY.wds.ok x hx).1, fun x hx => (sN.wds.ok x hx).1, fun D5 H5 g5 => ?_⟩
      rw [et]
      walk_at "rd"
      refine ⟨.str text, .ty "str", .type "str", .type "str", true, rfl, .ty _, .base (.str _), rfl, ?_⟩
      walk_at "rd"
      rw [decide_eq_true rfl]
      exact q _ _ (gB.trans g5)
    · rw [e] at du
      obtain ⟨ta, xs, rfl, hta, hx⟩ := dp_tuple du
      cases hx with
      | cons h0 r0 =>
      cases h0
      have gd := (g1.trans g2).lay (o := .xd [("line", .int (k : Nat))]) nd
      have hd0 : (upd H2 d (.xd [("line", .int (k : Nat))])) d = some (.xd [("line", .int (k : Nat))]) := upd_same
      have hT2 := same_seqT ((g2.lay (o := .xd [("line", .int (k : Nat))]) nd).same') hta
      have hk : 0 < k := readS_pos e
      revert gd hd0 hT2
      generalize (upd H2 d (.xd [("line", .int (k : Nat))])) = H3
      intro gd hd0 hT2
      refine ⟨true, T.exm_BadText_LanguageError, fun oe a na => ?_, fun z => nomatch z⟩
      walk_at "rd"
      refine ⟨ga K "BadText", _, .ref (ga K "BadText"), true, rfl, T.e_BadText.e, rfl, .own _, T.kit_BadText_BadText, ⟨_, hd0⟩, ?_⟩
      walk_at "rd"
      refine ⟨le1000 (by simp), fun c nc => ?_⟩
      have gc := gd.lay (o := .tup [.ref (ga K "BadLetters"), .ref (ga K "BadWord"), .ref (ga K "TooMany")]) nc
      have hd1 : (upd H3 c (.tup [.ref (ga K "BadLetters"), .ref (ga K "BadWord"), .ref (ga K "TooMany")])) d = some (.xd [("line", .int (k : Nat))]) := (upd_ne (fun e => by rw [e, nc] at hd0; cases hd0)).trans hd0
      have hT3 := same_seqT (same_new (o := .tup [.ref (ga K "BadLetters"), .ref (ga K "BadWord"), .ref (ga K "TooMany")]) nc) hT2
      refine ⟨ga K "BadText", c, _, [.ref (ga K "BadLetters"), .ref (ga K "BadWord"), .ref (ga K "TooMany")], false, rfl, T.e_BadText.e, rfl, upd_same, .cons (.own _) (.cons (.own _) (.cons (.own _) .nil)), kitC T.kit_BadText_BadLetters (kitC T.kit_BadText_BadWord (kit1 T.kit_BadText_TooMany)), ⟨_, hd1⟩, ?_⟩
      walk_at "rd"
      refine ⟨_, rfl, ga K "BadText", rfl, T.e_BadText.x, T.no_BadText_line, rfl, d, _, _, rfl, hd1, rfl, ?_⟩
      walk_at "rd"
      refine ⟨_, rfl, ?_⟩
      walk_at "rd"
      rw [decide_eq_true (show (0 : Int) < (k : Int) by omega)]
      walk_at "rd"
      refine ⟨_, rfl, ga K "BadText", rfl, T.e_BadText.x, T.no_BadText_line, rfl, d, _, _, rfl, hd1, rfl, ?_⟩
      walk_at "rd"
      rw [decide_eq_true rfl]
      exact q _ _ gc
end
end H91

namespace H91
open PySem PySem.Spec L2 He Y Hk91
local macro_rules | `(tactic| walk_at "rd1") => `(tactic| first
  | with_reducible refine s_seq ?_
  | with_reducible refine s_asg ?_
  | with_reducible refine s_gname ?_
  | ((with_reducible refine s_var (v := ?_) ?_ ?_); rotate_left; exact rfl)
  | with_reducible refine s_c ?_
  | with_reducible refine s_op ?_
  | with_reducible refine s_un ?_
  | with_reducible refine s_nil ?_
  | with_reducible refine s_cons ?_
  | with_reducible refine s_CB ?_
  | with_reducible refine s_ifS ?_
  | with_reducible refine s_test ?_
  | with_reducible refine s_B ?_
  | with_reducible refine s_xb ?_
  | with_reducible refine s_xi ?_
  | with_reducible refine s_xs ?_
  | with_reducible refine s_or ?_
  | with_reducible refine s_and ?_
  | with_reducible refine s_not ?_
  | with_reducible refine s_orV ?_
  | with_reducible refine s_andV ?_
  | with_reducible refine s_notV ?_
  | with_reducible refine s_ret ?_
  | with_reducible refine s_retN ?_
  | with_reducible refine s_next ?_
  | with_reducible refine s_drop ?_
  | with_reducible refine s_yes ?_
  | with_reducible refine s_for ?_
  | with_reducible refine s_lc ?_
  | with_reducible refine s_iStr ?_
  | with_reducible refine s_iList ?_
  | with_reducible refine s_iTup ?_
  | with_reducible refine s_iR1 ?_
  | with_reducible refine s_iR2 ?_
  | with_reducible refine s_iE ?_
  | with_reducible refine s_iET ?_
  | with_reducible refine s_iES ?_
  | with_reducible refine s_tup ?_
  | with_reducible refine s_lst ?_
  | with_reducible refine s_BM ?_
  | with_reducible refine s_BM0 ?_
  | with_reducible refine s_BMS ?_
  | with_reducible refine s_M1 ?_
  | with_reducible refine s_sl ?_
  | with_reducible refine s_noP ?_
  | with_reducible refine s_po ?_
  | with_reducible refine s_call ?_
  | with_reducible refine s_callS ?_
  | with_reducible refine s_make ?_
  | with_reducible refine s_makeS ?_
  | with_reducible refine s_methS ?_
  | with_reducible refine s_callO ?_
  | with_reducible refine s_dnew ?_
  | with_reducible refine s_dget ?_
  | with_reducible refine s_din ?_
  | with_reducible refine s_dnin ?_
  | with_reducible refine s_dput ?_
  | with_reducible refine s_dsetd ?_
  | with_reducible refine s_dget2 ?_
  | with_reducible refine s_fld ?_
  | with_reducible refine s_sFld ?_
  | with_reducible refine s_rz ?_
  | with_reducible refine s_asgS ?_
  | with_reducible refine s_gSub ?_
  | with_reducible refine s_ifE ?_
  | with_reducible refine s_add_i ?_
  | with_reducible refine s_sub ?_
  | with_reducible refine s_neg ?_
  | with_reducible refine s_eq_i ?_
  | with_reducible refine s_eq_s ?_
  | with_reducible refine s_ne_i ?_
  | with_reducible refine s_ne_s ?_
  | with_reducible refine s_lt_i ?_
  | with_reducible refine s_le_i ?_
  | with_reducible refine s_gt_i ?_
  | with_reducible refine s_ge_i ?_
  | with_reducible refine s_lt_s ?_
  | with_reducible refine s_le_s ?_
  | with_reducible refine s_gt_s ?_
  | with_reducible refine s_ge_s ?_
  | with_reducible refine s_in_c ?_
  | with_reducible refine s_ni_c ?_
  | with_reducible refine s_isN ?_
  | with_reducible refine s_noN ?_
  | with_reducible refine s_abs ?_
  | with_reducible refine s_min2 ?_
  | with_reducible refine s_max2 ?_
  | with_reducible refine s_int_i ?_
  | ((with_reducible refine s_len_s ?_ ?_); assumption)
  | ((with_reducible refine s_len_l (xs := ?_) ?_ ?_); rotate_left; assumption)
  | ((with_reducible refine s_len_t (xs := ?_) ?_ ?_); rotate_left; assumption)
  | with_reducible refine s_pair upd_same ?_
  | with_reducible refine s_callS ?_
  | with_reducible refine s_sortK ?_
  | with_reducible refine s_disp ?_
  | with_reducible refine s_pcons ?_
  | with_reducible refine s_pnil ?_
  | ((with_reducible refine s_ix_t (by assumption) (by first | exact atI_0 | exact atI_i (j := 1) rfl rfl | exact atI_i (j := 2) rfl rfl | exact atI_i (j := 3) rfl rfl) ?_))
  | with_reducible refine jtT ?_
  | with_reducible refine jtF ?_
  | with_reducible refine jtNT ?_
  | with_reducible refine jtNF ?_
  | dsimp only)
local macro_rules | `(tactic| walk_at "rd") => `(tactic| repeat (walk_at "rd1"))

/-! ### sizes of texts cut and joined -/
def wgt (rs : List Str) : Nat := (rs.map (·.length)).sum + rs.length
theorem cutAt_wgt (s : Nat) : ∀ (acc l : List Nat), ((cutAt s acc l).map (·.length)).sum + (cutAt s acc l).length = acc.length + l.length + 1
  | acc, [] => by simp [cutAt]
  | acc, c :: r => by
    unfold cutAt
    split
    · have := cutAt_wgt s [] r
      simp only [List.map_cons, List.sum_cons, List.length_cons, List.length_nil] at this ⊢
      omega
    · have := cutAt_wgt s (acc ++ [c]) r
      simp only [List.length_append, List.length_cons, List.length_nil] at this ⊢
      omega
theorem wgt_split (t : Str) : wgt (Txt.split t "\n") = t.length + 1 := by
  have h1 := split_one (x := t) tl_nl (by decide)
  have h2 := cutAt_wgt 10 [] (TL.tl t)
  rw [← h1] at h2
  rw [List.map_map, List.length_map, ← TL.len_tl] at h2
  have e : ((List.length ∘ TL.tl : Str → Nat)) = fun z : Str => z.length := by
    funext z
    exact (TL.len_tl z).symm
  have h3 : ((Txt.split t "\n").map (List.length ∘ TL.tl)).sum + (Txt.split t "\n").length = [].length + t.length + 1 := h2
  rw [e] at h3
  unfold wgt
  simpa using h3
theorem divOk {n m : Int} (h1 : 0 < m) (h2 : m ≤ 1000) : CDivW n m := ⟨h1, (Nat.log2_lt (by omega)).mpr (Nat.lt_of_le_of_lt (show m.natAbs ≤ 2 ^ 62 by omega) (Nat.pow_lt_pow_right (by decide) (by decide)))⟩
theorem wgt_cons (x : Str) (r : List Str) : wgt (x :: r) = x.length + 1 + wgt r := by
  unfold wgt
  simp only [List.map_cons, List.sum_cons, List.length_cons]
  omega
theorem wgt_app (a b : List Str) : wgt (a ++ b) = wgt a + wgt b := by
  unfold wgt
  rw [List.map_append, List.sum_append, List.length_append]
  omega
theorem wgt_set : ∀ {rs : List Str} {i : Nat} {x : Str}, wgt (rs.set i x) ≤ wgt rs + x.length
  | [], _, _ => by simp [wgt]
  | y :: r, 0, x => by
    show wgt (x :: r) ≤ wgt (y :: r) + x.length
    rw [wgt_cons, wgt_cons]
    omega
  | y :: r, i + 1, x => by
    show wgt (y :: r.set i x) ≤ wgt (y :: r) + x.length
    have := wgt_set (rs := r) (i := i) (x := x)
    rw [wgt_cons, wgt_cons]
    omega
theorem wgt_erase : ∀ {rs : List Str} {i : Nat}, wgt (rs.eraseIdx i) ≤ wgt rs
  | [], _ => by simp
  | y :: r, 0 => by
    show wgt r ≤ wgt (y :: r)
    rw [wgt_cons]
    omega
  | y :: r, i + 1 => by
    show wgt (y :: r.eraseIdx i) ≤ wgt (y :: r)
    have := wgt_erase (rs := r) (i := i)
    rw [wgt_cons, wgt_cons]
    omega
theorem wgt_ins {rs : List Str} {i : Nat} {x : Str} : wgt (rs.take i ++ [x] ++ rs.drop i) = wgt rs + x.length + 1 := by
  have h : wgt rs = wgt (rs.take i) + wgt (rs.drop i) := by rw [← wgt_app, List.take_append_drop]
  rw [wgt_app, wgt_app, h, wgt_cons]
  have : wgt [] = 0 := rfl
  omega
theorem join_wgt {rs : List Str} : (Txt.join "\n" rs).length ≤ wgt rs := by
  have h := StrLaws.join_length_le ("\n" : Str) rs
  have e : ("\n" : Str).length = 1 := rfl
  rw [e, Nat.mul_one] at h
  rw [TL.join_eq]
  exact h
theorem badAt_none {ls : List Nat} : ∀ {l : List Nat} {i : Nat}, (∀ c ∈ l, c ∈ ls) → badAt ls i l = none
  | [], _, _ => rfl
  | c :: r, i, h => by
    show (if c ∈ ls then badAt ls (i + 1) r else some i) = none
    rw [if_pos (h c (List.mem_cons_self ..))]
    exact badAt_none fun d hd => h d (List.mem_cons_of_mem _ hd)
section
variable {P : Program} {w : World} {K : PySem.W.Frag} {mg : Str → Option Value} {base : Heap}
theorem S_law_word_at : FnScope ["letters", "number", "word", "turn"] ["letters", "number"] (d_law_word_at).scope := ⟨rfl, rfl, rfl, by decide +kernel, rfl, by decide +kernel, by decide +kernel⟩
def sp_word_at : Sp := fun vs H Q E => ∃ (l : Str) (n : Int), vs = [.str l, .int n] ∧ 0 ≤ n ∧ 1 ≤ l.length ∧ l.length ≤ 4 ∧ ∀ z, z.length ≤ 40 → Q (.str z) H
theorem w_law_word_at (T : Txt P w K mg) : Has P w K mg base 3 "_law_word_at" sp_word_at := by
  have S := S_law_word_at
  refine has_of (k := 2) T.d_law_word_at T.gd_law_word_at S (fun _ _ _ _ _ _ us hl => match us, hl with | [_, _], _ => rfl) (fun vs H Q E h => ?_) (fun f cdv A outer s H vs Q E hr h => ?_)
  · obtain ⟨l, n, rfl, _⟩ := h
    rfl
  · obtain ⟨l, n, rfl, hn, hl1, hl4, q⟩ := h
    have hz := le1000 (Nat.le_trans hl4 (by decide) : l.length ≤ 1000)
    refine ⟨_, (pss_cons (ps_set (i := 2) S.nd rfl (Or.inl rfl) pe_str)
    (pss_cons (ps_for (passes_of rfl) rfl (pi_range1 (by rfl) T.b_range (pa_cons pe_int pa_nil)) (pg_name (i := 3) S.nd rfl (Or.inl rfl))
      (pss_one (ps_if (pt_cmpR c_gt (pv 1) pe_int (nomark _))
      (pss_cons (ps_set (i := 1) S.nd rfl (Or.inl rfl) (pe_op o_sub (pv 1) pe_int))
    (pss_cons (ps_set (i := 2) S.nd rfl (Or.inl rfl) (pe_op (oK_add K) (pe_ix (ixK_seq K) (pv 0) (pe_op o_mod (pe_callTy b_int (by rfl) T.b_int (by decide +kernel) (pa_cons (pv 1) pa_nil)) (pe_callB (bK_len K) (by rfl) T.b_len (by decide +kernel) (pa_cons (pv 0) pa_nil))) (fun _ _ => rfl)) (pv 2)))
    (pss_one (ps_set (i := 1) S.nd rfl (Or.inl rfl) (pe_op o_fdiv (pv 1) (pe_callB (bK_len K) (by rfl) T.b_len (by decide +kernel) (pa_cons (pv 0) pa_nil)))))))
      pss_nil)))
    (pss_one (ps_ret (pv 2))))), ?_⟩
    walk_at "rd"
    refine ⟨_, rfl, by decide, by decide, lp_it walk_r0 (fun i σ H' => H' = H ∧ ∃ n z o3, 0 ≤ n ∧ z.length ≤ i ∧ σ = [some (.str l), some (.int n), some (.str z), o3]) ⟨rfl, n, "", none, hn, Nat.le_refl _, rfl⟩ (fun _ _ _ _ _ => trivial) ?_ ?_⟩
    · rintro i x σ H1 H2 hi ⟨rfl, n, z, o3, hn, hzl, rfl⟩ ⟨rfl, rfl⟩
      have hi40 : i < 40 := hi
      have hlp : (0 : Int) < (l.length : Int) := by omega
      walk_at "rd"
      refine jtD (fun e => ?_) (fun e => ?_)
      · walk_at "rd"
        refine s_mod hlp ?_
        have m0 := Int.emod_nonneg (n - 1) (Int.ne_of_gt hlp)
        have m1 := Int.emod_lt_of_pos (n - 1) hlp
        have hr : ((n - 1) % (l.length : Int)).toNat < l.cps.toList.length := by rw [len_list]; omega
        refine s_ix_s hz (atI_i (j := ((n - 1) % (l.length : Int)).toNat) (by omega) (List.getElem?_eq_getElem hr)) ?_
        walk_at "rd"
        have l1 : (⟨#[l.cps.toList[((n - 1) % (l.length : Int)).toNat]]⟩ : Str).length = 1 := rfl
        refine s_add_s (by rw [l1]; exact le1000 (by omega)) ?_
        walk_at "rd"
        refine s_div (divOk hlp (by omega)) ?_
        walk_at "rd"
        refine ⟨rfl, _, _, _, ?_, ?_, rfl⟩
        · exact Int.ediv_nonneg (by omega) (by omega)
        · rw [app_len, l1]
          omega
      · walk_at "rd"
        exact ⟨rfl, n, z, _, hn, by omega, rfl⟩
    · rintro σ H1 ⟨rfl, n, z, o3, hn, hzl, rfl⟩
      walk_at "rd"
      exact q z hzl
theorem S_law_climbing : FnScope ["state", "letters", "many", "last", "words", "number", "k"] ["state", "letters", "many", "last"] (d_law_climbing).scope := ⟨rfl, rfl, rfl, by decide +kernel, rfl, by decide +kernel, by decide +kernel⟩
def sp_climbing (K : PySem.W.Frag) : Sp := fun vs H Q E => ∃ (D : Hp) (st : Addr) (l : Str) (n c : Nat), vs = [.ref st, .str l, .int (n : Nat), .int (c : Nat)] ∧ 1 ≤ l.length ∧ l.length ≤ 4 ∧ n ≤ 100 ∧ c ≤ 40 ∧ Same D H ∧ Stt K D H st ∧
  ∀ D' H' p ws, Gr (· = st) D H D' H' → Stt K D' H' st → H p = none → p ≠ st → D' p = some (.lst (ws.map V.str)) → Fit ws → ws.length ≤ 101 → Q (.ref p) H'
theorem w_law_climbing (T : Txt P w K mg) : Has P w K mg base 5 "_law_climbing" (sp_climbing K) := by
  have S := S_law_climbing
  have G_law_next := w_law_next (base := base) T
  have G_law_word := w_law_word (base := base) T
  have G_law_word_at := w_law_word_at (base := base) T
  refine has_of (k := 4) T.d_law_climbing T.gd_law_climbing S (fun _ _ _ _ _ _ us hl => match us, hl with | [_, _, _, _], _ => rfl) (fun vs H Q E h => ?_) (fun f cdv A outer s H vs Q E hr h => ?_)
  · obtain ⟨D, st, l, n, c, rfl, _⟩ := h
    rfl
  · obtain ⟨D, st, l, n, c, rfl, hl1, hl4, hn, hc, sm, X, q⟩ := h
    refine ⟨_, (pss_cons (ps_set (i := 4) S.nd rfl (Or.inl rfl) (pe_lst pa_nil))
    (pss_cons (ps_set (i := 5) S.nd rfl (Or.inl rfl) (pe_has G_law_next (hr.mono (by decide)) (takes_of rfl rfl rfl rfl) rfl (pa_cons (pv 0) (pa_cons pe_int pa_nil))))
    (pss_cons (ps_for (passes_of rfl) rfl (pi_range1 (by rfl) T.b_range (pa_cons (pv 2) pa_nil)) (pg_name (i := 6) S.nd rfl (Or.inl rfl))
      (pss_cons (ps_expr (peK_bm K PySem.F.plainAttrs_list PySem.F.slot_list_append PySem.F.type_list_append mt_append (pv 4) (pa_cons (pe_has G_law_word_at (hr.mono (by decide)) (takes_of rfl rfl rfl rfl) rfl (pa_cons (pv 1) (pa_cons (pv 5) pa_nil))) pa_nil)))
    (pss_one (ps_set (i := 5) S.nd rfl (Or.inl rfl) (pe_op (oK_add K) (pe_op (oK_add K) (pv 5) pe_int) (pe_has G_law_next (hr.mono (by decide)) (takes_of rfl rfl rfl rfl) rfl (pa_cons (pv 0) (pa_cons pe_int pa_nil))))))))
    (pss_cons (ps_if (pt_cmpR c_gt (pv 3) pe_int (nomark _))
      (pss_one (ps_set (i := 4) S.nd rfl (Or.inl rfl) (pe_op (oK_add K) (pe_slice (slK_any K) (pv 4) (po_some pe_int) po_none) (pe_lst (pa_cons (pe_has G_law_word (hr.mono (by decide)) (takes_of rfl rfl rfl rfl) rfl (pa_cons (pv 0) (pa_cons (pv 1) (pa_cons (pv 3) pa_nil)))) pa_nil)))))
      pss_nil)
    (pss_one (ps_ret (pv 4))))))), ?_⟩
    walk_at "rd"
    refine ⟨Nat.zero_le _, fun p np => ?_⟩
    have nps : p ≠ st := fun e => X.is (e ▸ np)
    have g1 := (Gr.refl (m := (· = st)) sm).lay (o := .lst []) np
    have hD1 := (Gr.refl (m := No) sm).free np
    have hp1 : (upd H p (.lst [])) p = some (.lst []) := upd_same
    walk_at "rd"
    refine ⟨D, st, _, rfl, by decide, by decide, g1.sub, X.put nps, fun D2 H2 r g2 X2 r0 r1 => ?_⟩
    have g3 := g1.trans g2
    have hp2 := g2.same p _ nps hp1
    have hD2 := g2.stay hD1 hp1
    walk_at "rd"
    refine ⟨_, rfl, by omega, by omega, lp_it walk_r0 (fun i σ H' => ∃ D' ws m o6, Gr (· = st) D H D' H' ∧ Stt K D' H' st ∧ D' p = none ∧ H' p = some (.lst (ws.map V.str)) ∧ ws.length = i ∧ (∀ z ∈ ws, z.length ≤ 40) ∧ 0 ≤ m ∧ σ = [some (.ref st), some (.str l), some (.int (n : Nat)), some (.int (c : Nat)), some (.ref p), some (.int m), o6]) ⟨D2, [], r, none, g3, X2, hD2, hp2, rfl, fun z h => (nomatch h), r0, rfl⟩ (fun _ _ _ _ _ => trivial) ?_ ?_⟩
    · rintro i x σ H3 H4 hi ⟨D3, ws, m, o6, g, X3, hD3, hp3, hwl, hws, hm, rfl⟩ ⟨rfl, rfl⟩
      have hin : i < n := by omega
      walk_at "rd"
      refine ⟨ty_l hp3, ?_⟩
      walk_at "rd"
      refine ⟨l, m, rfl, hm, hl1, hl4, fun z hz => ?_⟩
      walk_at "rd"
      refine s_append hp3 (by rw [List.length_map]; exact small1000 (by omega)) ?_
      have g4 := g.put (o := .lst (ws.map V.str ++ [.str z])) hD3 (.inl np)
      walk_at "rd"
      refine ⟨D3, st, _, rfl, by decide, by decide, g4.sub, X3.put nps, fun D5 H5 r5 g5 X5 r50 r51 => ?_⟩
      have hp5 := g5.same p _ nps (upd_same (o := .lst (ws.map V.str ++ [.str z])))
      have hD5 := g5.stay hD3 (upd_same (o := .lst (ws.map V.str ++ [.str z])))
      walk_at "rd"
      refine ⟨D5, ws ++ [z], _, _, g4.trans g5, X5, hD5, by rw [hp5, List.map_append]; rfl, by rw [List.length_append, hwl]; rfl, fun y hy => ?_, by omega, rfl⟩
      rcases List.mem_append.mp hy with hy | hy
      · exact hws y hy
      · rw [List.mem_singleton.mp hy]
        exact hz
    · rintro σ H3 ⟨D3, ws, m, o6, g, X3, hD3, hp3, hwl, hws, hm, rfl⟩
      have hwn : ws.length = n := by rw [hwl]; exact Int.toNat_natCast n
      walk_at "rd"
      refine jtD (fun e => ?_) (fun e => ?_)
      · walk_at "rd"
        refine s_sl_l (sql hp3) fun c1 nc1 => ?_
        rw [cut_tail]
        have nc1s : c1 ≠ st := fun e => X3.is (e ▸ nc1)
        have g4 := g.lay (o := .lst ((ws.map V.str).drop 1)) nc1
        have hc1 : (upd H3 c1 (.lst ((ws.map V.str).drop 1))) c1 = some _ := upd_same
        have hDc1 := g.free nc1
        walk_at "rd"
        refine ⟨D3, st, l, c, rfl, hl1, by omega, by omega, g4.sub, X3.put nc1s, fun D5 H5 z g5 X5 hz hzc => ?_⟩
        have hc5 := g5.same c1 _ nc1s hc1
        walk_at "rd"
        refine ⟨le1000 (by simp), fun c2 nc2 => ?_⟩
        have nc2s : c2 ≠ st := fun e => X5.is (e ▸ nc2)
        have g6 := (g4.trans g5).lay (o := .lst [.str z]) nc2
        have n12 : c1 ≠ c2 := fun e => by rw [← e, hc5] at nc2; cases nc2
        refine s_add_l ((upd_ne n12).trans hc5) upd_same (le1000 (by simp; omega)) fun c3 nc3 => ?_
        have nc3s : c3 ≠ st := fun e => (X5.put nc2s).is (e ▸ nc3)
        walk_at "rd"
        refine q _ _ c3 (ws.drop 1 ++ [z]) (g6.ice nc3) (((X5.put nc2s).put nc3s).frz nc3s (g6.free nc3)) (g6.kept _ nc3) nc3s ?_ ⟨?_, fun y hy => ?_⟩ ?_
        · rw [upd_same, List.map_append, List.map_drop]
          rfl
        · rw [List.length_append, List.length_drop]
          have : ([z] : List Str).length = 1 := rfl
          omega
        · rcases List.mem_append.mp hy with hy | hy
          · exact Nat.le_trans (hws y (List.mem_of_mem_drop hy)) (by decide)
          · rw [List.mem_singleton.mp hy]
            omega
        · rw [List.length_append, List.length_drop]
          have : ([z] : List Str).length = 1 := rfl
          omega
      · walk_at "rd"
        exact q (upd D3 p (.lst (ws.map V.str))) H3 p ws (g.cold hp3 np) (X3.frz nps hD3) np nps upd_same ⟨by omega, fun y hy => Nat.le_trans (hws y hy) (by decide)⟩ (by omega)
end
end H91

namespace H91
open PySem PySem.Spec L2 He Y Hk91
local macro_rules | `(tactic| walk_at "rd1") => `(tactic| first
  | with_reducible refine s_seq ?_
  | with_reducible refine s_asg ?_
  | with_reducible refine s_gname ?_
  | ((with_reducible refine s_var (v := ?_) ?_ ?_); rotate_left; exact rfl)
  | with_reducible refine s_c ?_
  | with_reducible refine s_op ?_
  | with_reducible refine s_un ?_
  | with_reducible refine s_nil ?_
  | with_reducible refine s_cons ?_
  | with_reducible refine s_CB ?_
  | with_reducible refine s_ifS ?_
  | with_reducible refine s_test ?_
  | with_reducible refine s_B ?_
  | with_reducible refine s_xb ?_
  | with_reducible refine s_xi ?_
  | with_reducible refine s_xs ?_
  | with_reducible refine s_or ?_
  | with_reducible refine s_and ?_
  | with_reducible refine s_not ?_
  | with_reducible refine s_orV ?_
  | with_reducible refine s_andV ?_
  | with_reducible refine s_notV ?_
  | with_reducible refine s_ret ?_
  | with_reducible refine s_retN ?_
  | with_reducible refine s_next ?_
  | with_reducible refine s_drop ?_
  | with_reducible refine s_yes ?_
  | with_reducible refine s_for ?_
  | with_reducible refine s_lc ?_
  | with_reducible refine s_iStr ?_
  | with_reducible refine s_iList ?_
  | with_reducible refine s_iTup ?_
  | with_reducible refine s_iR1 ?_
  | with_reducible refine s_iR2 ?_
  | with_reducible refine s_iE ?_
  | with_reducible refine s_iET ?_
  | with_reducible refine s_iES ?_
  | with_reducible refine s_tup ?_
  | with_reducible refine s_lst ?_
  | with_reducible refine s_BM ?_
  | with_reducible refine s_BM0 ?_
  | with_reducible refine s_BMS ?_
  | with_reducible refine s_M1 ?_
  | with_reducible refine s_sl ?_
  | with_reducible refine s_noP ?_
  | with_reducible refine s_po ?_
  | with_reducible refine s_call ?_
  | with_reducible refine s_callS ?_
  | with_reducible refine s_make ?_
  | with_reducible refine s_makeS ?_
  | with_reducible refine s_methS ?_
  | with_reducible refine s_callO ?_
  | with_reducible refine s_dnew ?_
  | with_reducible refine s_dget ?_
  | with_reducible refine s_din ?_
  | with_reducible refine s_dnin ?_
  | with_reducible refine s_dput ?_
  | with_reducible refine s_dsetd ?_
  | with_reducible refine s_dget2 ?_
  | with_reducible refine s_fld ?_
  | with_reducible refine s_sFld ?_
  | with_reducible refine s_rz ?_
  | with_reducible refine s_asgS ?_
  | with_reducible refine s_gSub ?_
  | with_reducible refine s_ifE ?_
  | with_reducible refine s_add_i ?_
  | with_reducible refine s_sub ?_
  | with_reducible refine s_neg ?_
  | with_reducible refine s_eq_i ?_
  | with_reducible refine s_eq_s ?_
  | with_reducible refine s_ne_i ?_
  | with_reducible refine s_ne_s ?_
  | with_reducible refine s_lt_i ?_
  | with_reducible refine s_le_i ?_
  | with_reducible refine s_gt_i ?_
  | with_reducible refine s_ge_i ?_
  | with_reducible refine s_lt_s ?_
  | with_reducible refine s_le_s ?_
  | with_reducible refine s_gt_s ?_
  | with_reducible refine s_ge_s ?_
  | with_reducible refine s_in_c ?_
  | with_reducible refine s_ni_c ?_
  | with_reducible refine s_isN ?_
  | with_reducible refine s_noN ?_
  | with_reducible refine s_abs ?_
  | with_reducible refine s_min2 ?_
  | with_reducible refine s_max2 ?_
  | with_reducible refine s_int_i ?_
  | ((with_reducible refine s_len_s ?_ ?_); assumption)
  | ((with_reducible refine s_len_l (xs := ?_) ?_ ?_); rotate_left; assumption)
  | ((with_reducible refine s_len_t (xs := ?_) ?_ ?_); rotate_left; assumption)
  | with_reducible refine s_pair upd_same ?_
  | with_reducible refine s_callS ?_
  | with_reducible refine s_sortK ?_
  | with_reducible refine s_disp ?_
  | with_reducible refine s_pcons ?_
  | with_reducible refine s_pnil ?_
  | ((with_reducible refine s_ix_t (by assumption) (by first | exact atI_0 | exact atI_i (j := 1) rfl rfl | exact atI_i (j := 2) rfl rfl | exact atI_i (j := 3) rfl rfl) ?_))
  | with_reducible refine jtT ?_
  | with_reducible refine jtF ?_
  | with_reducible refine jtNT ?_
  | with_reducible refine jtNF ?_
  | dsimp only)
local macro_rules | `(tactic| walk_at "rd") => `(tactic| repeat (walk_at "rd1"))

theorem cut_lenE (z : Str) (lo hi : Option Int) : (cutS z lo hi).length = min (HT.sIx z.length z.length hi - HT.sIx z.length 0 lo) (z.length - HT.sIx z.length 0 lo) := by
  show (((z.cps.toList.drop (HT.sIx z.length 0 lo)).take (HT.sIx z.length z.length hi - HT.sIx z.length 0 lo)).toArray).size = _
  rw [List.size_toArray, List.length_take, List.length_drop, Array.length_toList]
  rfl
theorem cut_both (z : Str) (c : Int) : (cutS z none (some c)).length + (cutS z (some c) none).length ≤ z.length := by
  rw [cut_lenE, cut_lenE, HT.sIx_none, HT.sIx_none]
  have h : HT.sIx z.length z.length (some c) = HT.sIx z.length 0 (some c) := rfl
  rw [h]
  have := HT.sIx_le z.length 0 (Nat.zero_le _) (some c)
  omega
theorem cut_both1 (z : Str) (c : Int) (h0 : 0 ≤ c) : (cutS z none (some c)).length + (cutS z (some (c + 1)) none).length ≤ z.length := by
  rw [cut_lenE, cut_lenE, HT.sIx_none, HT.sIx_none]
  have h : HT.sIx z.length z.length (some c) = min c.toNat z.length := if_neg (by omega)
  have h1 : HT.sIx z.length 0 (some (c + 1)) = min (c + 1).toNat z.length := if_neg (by omega)
  rw [h, h1]
  omega
theorem map_erase {α β : Type} {f : α → β} : ∀ {l : List α} {i : Nat}, (l.map f).eraseIdx i = (l.eraseIdx i).map f
  | [], _ => by simp
  | x :: r, 0 => rfl
  | x :: r, i + 1 => congrArg (f x :: ·) map_erase
section
variable {P : Program} {w : World} {K : PySem.W.Frag} {mg : Str → Option Value} {base : Heap}
theorem S_law_spoilt : FnScope ["state", "text", "signs", "rows", "flaw", "place", "one", "told", "cut", "sign", "other"] ["state", "text"] (d_law_spoilt).scope := ⟨rfl, rfl, rfl, by decide +kernel, rfl, by decide +kernel, by decide +kernel⟩
/-- the state behind the change of a row -/
structure SpR (K : PySem.W.Frag) (D H : Hp) (st r : Addr) (text : Str) (signs : Str) (fl pl : Int) (one : Str) (σ : L2.St) (H' : Hp) : Prop where
  ex : ∃ (D' : Hp) (rs : List Str) (o10 : Option V), Gr (· = st) D H D' H' ∧ Stt K D' H' st ∧ H' r = some (.lst (rs.map V.str)) ∧ wgt rs ≤ 3 * text.length + 9 ∧
    σ = [some (.ref st), some (.str text), some (.str signs), some (.ref r), some (.int fl), some (.int pl), some (.str one), none, none, none, o10]
def sp_law_spoilt (K : PySem.W.Frag) : Sp := fun vs H Q E => ∃ (D : Hp) (st : Addr) (t : Str), vs = [.ref st, .str t] ∧ t.length ≤ 30000 ∧ Same D H ∧ Stt K D H st ∧
  ∀ D' H' z, Gr (· = st) D H D' H' → Stt K D' H' st → z.length ≤ 3 * t.length + 12 → Q (.str z) H'
theorem w_law_spoilt (T : Txt P w K mg) : Has P w K mg base 4 "_law_spoilt" (sp_law_spoilt K) := by
  have S := S_law_spoilt
  have G_law_next := w_law_next (base := base) T
  refine has_of (k := 3) T.d_law_spoilt T.gd_law_spoilt S (fun _ _ _ _ _ _ us hl => match us, hl with | [_, _], _ => rfl) (fun vs H Q E h => ?_) (fun f cdv A outer s H vs Q E hr h => ?_)
  · obtain ⟨D, st, t, rfl, _⟩ := h
    rfl
  · obtain ⟨D, st, text, rfl, ht, sm, X, q⟩ := h
    have big : ∀ {n : Nat}, n ≤ 200000 → n ≤ sizeLine := fun h => leBig (by omega)
    refine ⟨_, (pss_cons (ps_set (i := 2) S.nd rfl (Or.inl rfl) (pe_op (oK_add K) pe_str (pv 1)))
    (pss_cons (ps_set (i := 3) S.nd rfl (Or.inl rfl) (pe_m1 PySem.F.slot_str_split PySem.F.type_str_split m_split (pv 1) pe_str))
    (pss_cons (ps_set (i := 4) S.nd rfl (Or.inl rfl) (pe_has G_law_next (hr.mono (by decide)) (takes_of rfl rfl rfl rfl) rfl (pa_cons (pv 0) (pa_cons pe_int pa_nil))))
    (pss_cons (ps_set (i := 5) S.nd rfl (Or.inl rfl) (pe_has G_law_next (hr.mono (by decide)) (takes_of rfl rfl rfl rfl) rfl (pa_cons (pv 0) (pa_cons (pe_callB (bK_len K) (by rfl) T.b_len (by decide +kernel) (pa_cons (pv 3) pa_nil)) pa_nil))))
    (pss_cons (ps_set (i := 6) S.nd rfl (Or.inl rfl) (pe_ix (ixK_seq K) (pv 3) (pv 5) (fun _ _ => rfl)))
    (pss_cons (ps_if (pt_cmpR (cK_eq K hr.units) (pv 4) pe_int (nomark _))
      (pss_one (ps_expr (peK_bm K PySem.F.plainAttrs_list PySem.F.slot_list_pop PySem.F.type_list_pop mt_popAt (pv 3) (pa_cons (pv 5) pa_nil))))
      (pss_one (ps_if (pt_cmpR (cK_eq K hr.units) (pv 4) pe_int (nomark _))
      (pss_one (ps_expr (peK_bm K PySem.F.plainAttrs_list PySem.F.slot_list_insert PySem.F.type_list_insert mt_ins (pv 3) (pa_cons (pe_has G_law_next (hr.mono (by decide)) (takes_of rfl rfl rfl rfl) rfl (pa_cons (pv 0) (pa_cons (pe_op (oK_add K) (pe_callB (bK_len K) (by rfl) T.b_len (by decide +kernel) (pa_cons (pv 3) pa_nil)) pe_int) pa_nil))) (pa_cons (pv 6) pa_nil)))))
      (pss_one (ps_if (pt_cmpR (cK_eq K hr.units) (pv 4) pe_int (nomark _))
      (pss_cons (ps_set (i := 10) S.nd rfl (Or.inl rfl) (pe_has G_law_next (hr.mono (by decide)) (takes_of rfl rfl rfl rfl) rfl (pa_cons (pv 0) (pa_cons (pe_callB (bK_len K) (by rfl) T.b_len (by decide +kernel) (pa_cons (pv 3) pa_nil)) pa_nil))))
    (pss_cons (ps_asg (pe_ix (ixK_seq K) (pv 3) (pv 10) (fun _ _ => rfl)) (pg_sub (pv 3) (pv 5) set_list))
    (pss_one (ps_asg (pv 6) (pg_sub (pv 3) (pv 10) set_list)))))
      (pss_one (ps_if (PW.pt (pw_and (pt_cmpR (cK_eq K hr.units) (pv 4) pe_int (nomark _)) (pw_and1 (pt_cmpR (cK_eq K hr.units) (pe_slice (slK_any K) (pv 6) po_none (po_some pe_int)) pe_str (nomark _)))))
      (pss_one (ps_asg (pe_op (oK_add K) pe_str (pe_slice (slK_any K) (pv 6) (po_some pe_int) po_none)) (pg_sub (pv 3) (pv 5) set_list)))
      (pss_one (ps_if (PW.pt (pw_and (pt_cmpR (cK_eq K hr.units) (pv 4) pe_int (nomark _)) (pw_and1 (pt_cmpR (cK_eq K hr.units) (pe_slice (slK_any K) (pv 6) po_none (po_some pe_int)) pe_str (nomark _)))))
      (pss_one (ps_asg (pe_op (oK_add K) pe_str (pe_slice (slK_any K) (pv 6) (po_some pe_int) po_none)) (pg_sub (pv 3) (pv 5) set_list)))
      (pss_one (ps_if (pt_cmpR (cK_eq K hr.units) (pv 4) pe_int (nomark _))
      (pss_one (ps_asg (pe_op (oK_add K) (pv 6) (pe_ix (ixK_seq K) (pe_lst (pa_cons pe_str (pa_cons pe_str (pa_cons pe_str (pa_cons pe_str (pa_cons pe_str pa_nil)))))) (pe_has G_law_next (hr.mono (by decide)) (takes_of rfl rfl rfl rfl) rfl (pa_cons (pv 0) (pa_cons pe_int pa_nil))) (fun _ _ => rfl))) (pg_sub (pv 3) (pv 5) set_list)))
      pss_nil)))))))))))
    (pss_cons (ps_set (i := 7) S.nd rfl (Or.inl rfl) (pK_join K pe_str (pv 3)))
    (pss_cons (ps_if (pt_cmpR c_lt (pv 4) pe_int (nomark _))
      (pss_one (ps_ret (pv 7)))
      pss_nil)
    (pss_cons (ps_set (i := 8) S.nd rfl (Or.inl rfl) (pe_has G_law_next (hr.mono (by decide)) (takes_of rfl rfl rfl rfl) rfl (pa_cons (pv 0) (pa_cons (pe_op (oK_add K) (pe_callB (bK_len K) (by rfl) T.b_len (by decide +kernel) (pa_cons (pv 7) pa_nil)) pe_int) pa_nil))))
    (pss_cons (ps_set (i := 9) S.nd rfl (Or.inl rfl) (pe_ix (ixK_seq K) (pv 2) (pe_has G_law_next (hr.mono (by decide)) (takes_of rfl rfl rfl rfl) rfl (pa_cons (pv 0) (pa_cons (pe_callB (bK_len K) (by rfl) T.b_len (by decide +kernel) (pa_cons (pv 2) pa_nil)) pa_nil))) (fun _ _ => rfl)))
    (pss_cons (ps_if (pt_cmpR (cK_eq K hr.units) (pv 4) pe_int (nomark _))
      (pss_one (ps_ret (pe_op (oK_add K) (pe_slice (slK_any K) (pv 7) po_none (po_some (pv 8))) (pe_slice (slK_any K) (pv 7) (po_some (pe_op (oK_add K) (pv 8) pe_int)) po_none))))
      pss_nil)
    (pss_cons (ps_if (pt_cmpR c_lt (pv 4) pe_int (nomark _))
      (pss_one (ps_ret (pe_op (oK_add K) (pe_op (oK_add K) (pe_slice (slK_any K) (pv 7) po_none (po_some (pv 8))) (pv 9)) (pe_slice (slK_any K) (pv 7) (po_some (pe_op (oK_add K) (pv 8) pe_int)) po_none))))
      pss_nil)
    (pss_one (ps_ret (pe_op (oK_add K) (pe_op (oK_add K) (pe_slice (slK_any K) (pv 7) po_none (po_some (pv 8))) (pv 9)) (pe_slice (slK_any K) (pv 7) (po_some (pv 8)) po_none)))))))))))))))), ?_⟩
    walk_at "rd"
    have eS : (" -\nyesnoample0123456789ABCDXYZ.,:;!#&*+=<>()[]|~^_/@abcdefghijklmnopqrstuvwxyz" : Str).length ≤ 200 ∧ 1 ≤ (" -\nyesnoample0123456789ABCDXYZ.,:;!#&*+=<>()[]|~^_/@abcdefghijklmnopqrstuvwxyz" : Str).length := by decide +kernel
    refine s_add_s (big (by omega)) ?_
    have hsl : ((" -\nyesnoample0123456789ABCDXYZ.,:;!#&*+=<>()[]|~^_/@abcdefghijklmnopqrstuvwxyz" : Str) ++ text).length ≤ 200 + text.length ∧ 1 ≤ ((" -\nyesnoample0123456789ABCDXYZ.,:;!#&*+=<>()[]|~^_/@abcdefghijklmnopqrstuvwxyz" : Str) ++ text).length := by
      rw [app_len]
      omega
    clear eS
    revert hsl
    generalize ((" -\nyesnoample0123456789ABCDXYZ.,:;!#&*+=<>()[]|~^_/@abcdefghijklmnopqrstuvwxyz" : Str) ++ text) = signs
    intro hsl
    walk_at "rd"
    refine ⟨⟨_, rfl⟩, ?_⟩
    walk_at "rd"
    refine s_split rfl (leBig (by omega)) fun r nr => ?_
    have nrs : r ≠ st := fun e => X.is (e ▸ nr)
    have hw0 := wgt_split text
    have hpt := split_part (x := text) tl_nl (by decide)
    have hne := split_ne (x := text) tl_nl (by decide)
    have hcn := split_count (x := text) tl_nl (by decide)
    have g1 := (Gr.refl (m := (· = st)) sm).lay (o := .lst ((Txt.split text "\n").map V.str)) nr
    have hD1 := (Gr.refl (m := No) sm).free nr
    have hr1 : (upd H r (.lst ((Txt.split text "\n").map V.str))) r = some (.lst ((Txt.split text "\n").map V.str)) := upd_same
    have X1 := X.put (o := .lst ((Txt.split text "\n").map V.str)) nrs
    revert hw0 hpt hne hcn g1 hr1 X1
    generalize Txt.split text "\n" = rs
    generalize (upd H r (.lst (rs.map V.str))) = H1
    intro hw0 hpt hne hcn g1 hr1 X1
    have hrl : 1 ≤ rs.length := List.length_pos_iff.mpr hne
    walk_at "rd"
    refine ⟨D, st, _, rfl, by decide, by decide, g1.sub, X1, fun D2 H2 fl g2 X2 fl0 fl1 => ?_⟩
    have gA := g1.trans g2
    have hr2 := g2.same r _ nrs hr1
    have hD2 := g2.stay hD1 hr1
    have hL2 := sql (K := K) hr2
    walk_at "rd"
    refine ⟨D2, st, _, rfl, by rw [List.length_map]; omega, by rw [List.length_map]; omega, g2.sub, X2, fun D3 H3 pl g3 X3 pl0 pl1 => ?_⟩
    rw [List.length_map] at pl1
    have gB := gA.trans g3
    have hr3 := g3.same r _ nrs hr2
    have hD3 := g3.stay hD2 hr2
    have hL3 := sql (K := K) hr3
    have hpr : pl.toNat < rs.length := by omega
    have hone : (rs.map V.str)[pl.toNat]? = some (.str rs[pl.toNat]) := by rw [List.getElem?_map, List.getElem?_eq_getElem hpr]; rfl
    have h1l := hpt _ (List.getElem_mem hpr)
    revert hone h1l
    generalize rs[pl.toNat] = one
    intro hone h1l
    have h1z : one.length ≤ sizeLine := big (by omega)
    have ixp : ixN (rs.map V.str).length pl = some pl.toNat := by
      unfold ixN
      rw [if_pos pl0, if_pos (by rw [List.length_map]; omega)]
    have setm : ∀ (i : Nat) (x : Str), (rs.map V.str).set i (.str x) = (rs.set i x).map V.str := fun i x => by rw [List.map_set]
    walk_at "rd"
    refine s_ix_l hL3 (atI_i (j := pl.toNat) (by omega) hone) ?_
    with_reducible refine s_gname ?_
    try dsimp only
    refine s_cut (SpR K D H st r text signs fl pl one) ?_ (fun Nx rest => ?_)
    · rintro σ' H4 ⟨D4, rs4, o10, g4, X4, hr4, hw4, rfl⟩
      have hj := join_wgt (rs := rs4)
      walk_at "rd"
      refine ⟨⟨_, rfl⟩, ?_⟩
      walk_at "rd"
      refine s_join_l (sql hr4) ?_ ?_
      · unfold wgt at hw4
        have : ("\n" : Str).length = 1 := rfl
        rw [this]
        omega
      generalize Txt.join "\n" rs4 = told at hj ⊢
      have htz : told.length ≤ sizeLine := big (by omega)
      have hsz : signs.length ≤ sizeLine := big (by omega)
      walk_at "rd"
      refine jtD (fun e => ?_) (fun e => ?_)
      · walk_at "rd"
        exact q D4 H4 told g4 X4 (by omega)
      walk_at "rd"
      refine ⟨D4, st, _, rfl, by omega, by omega, g4.sub, X4, fun D5 H5 cut g5 X5 c0 c1 => ?_⟩
      walk_at "rd"
      refine ⟨D5, st, _, rfl, by omega, by omega, g5.sub, X5, fun D6 H6 sg g6 X6 s0 s1 => ?_⟩
      have hsr : sg.toNat < signs.cps.toList.length := by rw [len_list]; omega
      refine s_ix_s hsz (atI_i (j := sg.toNat) (by omega) (List.getElem?_eq_getElem hsr)) ?_
      have one1 : (⟨#[signs.cps.toList[sg.toNat]]⟩ : Str).length = 1 := rfl
      have gE := (g4.trans g5).trans g6
      have c1 := cutS_length told none (some cut)
      have c2 := cutS_length told (some (cut + 1)) none
      have c3 := cutS_length told (some cut) none
      have k1 : (cutS told none (some cut)).length + (cutS told (some cut) none).length ≤ told.length := cut_both told cut
      have k2 : (cutS told none (some cut)).length + (cutS told (some (cut + 1)) none).length ≤ told.length := cut_both1 told cut c0
      walk_at "rd"
      refine jtD (fun e => ?_) (fun e => ?_)
      · walk_at "rd"
        refine s_sl_s htz ?_
        walk_at "rd"
        refine s_sl_s htz ?_
        refine s_add_s (big (by omega)) ?_
        exact q D6 H6 _ gE X6 (by rw [app_len]; omega)
      walk_at "rd"
      refine jtD (fun e => ?_) (fun e => ?_)
      · walk_at "rd"
        refine s_sl_s htz ?_
        walk_at "rd"
        refine s_add_s (big (by rw [one1]; omega)) ?_
        walk_at "rd"
        refine s_sl_s htz ?_
        refine s_add_s (big (by rw [app_len, one1]; omega)) ?_
        exact q D6 H6 _ gE X6 (by rw [app_len, app_len, one1]; omega)
      · walk_at "rd"
        refine s_sl_s htz ?_
        walk_at "rd"
        refine s_add_s (big (by rw [one1]; omega)) ?_
        walk_at "rd"
        refine s_sl_s htz ?_
        refine s_add_s (big (by rw [app_len, one1]; omega)) ?_
        exact q D6 H6 _ gE X6 (by rw [app_len, app_len, one1]; omega)
    · have H0r : H r = none := nr
      walk_at "rd"
      refine jtD (fun e => ?_) (fun e0 => ?_)
      · walk_at "rd"
        refine ⟨ty_l hr3, ?_⟩
        walk_at "rd"
        refine s_popAt hr3 (j := pl.toNat) (by omega) (by omega) hone ?_
        walk_at "rd"
        refine rest _ _ ⟨D3, rs.eraseIdx pl.toNat, _, gB.put hD3 (.inl H0r), X3.put nrs, by rw [upd_same, map_erase], ?_, rfl⟩
        have := wgt_erase (rs := rs) (i := pl.toNat)
        omega
      walk_at "rd"
      refine jtD (fun e => ?_) (fun e1 => ?_)
      · walk_at "rd"
        refine ⟨ty_l hr3, ?_⟩
        walk_at "rd"
        refine ⟨D3, st, _, rfl, by rw [List.length_map]; omega, by rw [List.length_map]; omega, g3.sub, X3, fun D5 H5 m g5 X5 m0 m1 => ?_⟩
        rw [List.length_map] at m1
        have hr5 := g5.same r _ nrs hr3
        have hD5 := g5.stay hD3 hr3
        walk_at "rd"
        refine s_insert hr5 (by rw [List.length_map]; exact ltBig (by omega)) m0 (by omega) ?_
        walk_at "rd"
        refine rest _ _ ⟨D5, rs.take m.toNat ++ [one] ++ rs.drop m.toNat, _, (gB.trans g5).put hD5 (.inl H0r), X5.put nrs, by rw [upd_same, List.map_append, List.map_append, List.map_take, List.map_drop]; rfl, ?_, rfl⟩
        rw [wgt_ins]
        omega
      walk_at "rd"
      refine jtD (fun e => ?_) (fun e2 => ?_)
      · walk_at "rd"
        refine ⟨D3, st, _, rfl, by rw [List.length_map]; omega, by rw [List.length_map]; omega, g3.sub, X3, fun D5 H5 m g5 X5 m0 m1 => ?_⟩
        rw [List.length_map] at m1
        have hr5 := g5.same r _ nrs hr3
        have hD5 := g5.stay hD3 hr3
        have hmr : m.toNat < rs.length := by omega
        have hoth : (rs.map V.str)[m.toNat]? = some (.str rs[m.toNat]) := by rw [List.getElem?_map, List.getElem?_eq_getElem hmr]; rfl
        have h2l := hpt _ (List.getElem_mem hmr)
        walk_at "rd"
        refine s_ix_l (sql hr5) (atI_i (j := m.toNat) (by omega) hoth) ?_
        walk_at "rd"
        refine s_setL hr5 ixp ?_
        walk_at "rd"
        refine s_setL (xs := (rs.map V.str).set pl.toNat (.str rs[m.toNat])) (l := m.toNat) upd_same (by unfold ixN; rw [if_pos m0, if_pos (by rw [List.length_set, List.length_map]; omega)]) ?_
        walk_at "rd"
        refine rest _ _ ⟨D5, (rs.set pl.toNat rs[m.toNat]).set m.toNat one, _, ((gB.trans g5).put hD5 (.inl H0r)).put hD5 (.inl H0r), (X5.put nrs).put nrs, by rw [upd_same, List.map_set, List.map_set], ?_, rfl⟩
        have w1 := wgt_set (rs := rs) (i := pl.toNat) (x := rs[m.toNat])
        have w2 := wgt_set (rs := rs.set pl.toNat rs[m.toNat]) (i := m.toNat) (x := one)
        omega
      have no : ("no" : Str).length = 2 := rfl
      have yes : ("yes" : Str).length = 3 := rfl
      have putR : ∀ (u : Str) (o10 : Option V), u.length ≤ text.length + 3 → ∀ H9, H9 = upd H3 r (.lst ((rs.map V.str).set pl.toNat (.str u))) → SpR K D H st r text signs fl pl one [some (.ref st), some (.str text), some (.str signs), some (.ref r), some (.int fl), some (.int pl), some (.str one), none, none, none, o10] H9 := by
        intro u o10 hu H9 e9
        subst e9
        refine ⟨D3, rs.set pl.toNat u, o10, gB.put hD3 (.inl H0r), X3.put nrs, by rw [upd_same, setm], ?_, rfl⟩
        have := wgt_set (rs := rs) (i := pl.toNat) (x := u)
        omega
      have rest4 : ∀ σ', σ' = [some (.ref st), some (.str text), some (.str signs), some (.ref r), some (.int fl), some (.int pl), some (.str one), none, none, none, none] → SpR K D H st r text signs fl pl one σ' H3 := fun σ' e => ⟨D3, rs, none, gB, X3, hr3, by omega, e⟩
      walk_at "rd"
      refine jtD (fun e3 => ?_) (fun e3 => ?_)
      · walk_at "rd"
        refine s_sl_s h1z ?_
        walk_at "rd"
        refine jtD (fun e4 => ?_) (fun e4 => ?_)
        · have c3 := cutS_length one (some 3) none
          walk_at "rd"
          refine s_sl_s h1z ?_
          refine s_add_s (big (by omega)) ?_
          walk_at "rd"
          refine s_setL hr3 ixp ?_
          exact rest _ _ (putR _ _ (by rw [app_len]; omega) _ rfl)
        walk_at "rd"
        refine jtD (fun _ => ?_) (fun z => absurd e3 z)
        walk_at "rd"
        refine s_sl_s h1z ?_
        walk_at "rd"
        refine jtD (fun e5 => ?_) (fun e5 => ?_)
        · have c3 := cutS_length one (some 2) none
          walk_at "rd"
          refine s_sl_s h1z ?_
          refine s_add_s (big (by omega)) ?_
          walk_at "rd"
          refine s_setL hr3 ixp ?_
          exact rest _ _ (putR _ _ (by rw [app_len]; omega) _ rfl)
        walk_at "rd"
        refine jtD (fun z => absurd z (by omega)) (fun _ => ?_)
        walk_at "rd"
        exact rest _ _ (rest4 _ rfl)
      · walk_at "rd"
        refine jtD (fun z => absurd z e3) (fun _ => ?_)
        walk_at "rd"
        refine jtD (fun e4 => ?_) (fun e4 => ?_)
        · walk_at "rd"
          refine ⟨le1000 (by simp), fun sl nsl => ?_⟩
          have nss : sl ≠ st := fun e => X3.is (e ▸ nsl)
          have nrl : r ≠ sl := fun e => by rw [← e, hr3] at nsl; cases nsl
          have gl := (Gr.refl (m := (· = st)) g3.sub).lay (o := .lst [.str " ", .str "-", .str " -", .str "a", .str "  "]) nsl
          have hsl2 : (upd H3 sl (.lst [.str " ", .str "-", .str " -", .str "a", .str "  "])) sl = some _ := upd_same
          walk_at "rd"
          refine ⟨D3, st, _, rfl, by decide, by decide, gl.sub, X3.put nss, fun D5 H5 m g5 X5 m0 m1 => ?_⟩
          obtain ⟨u, hu, hul⟩ : ∃ u : Str, atI [V.str " ", .str "-", .str " -", .str "a", .str "  "] m = some (.str u) ∧ u.length ≤ 2 := by
            have hr : m = 0 ∨ m = 1 ∨ m = 2 ∨ m = 3 ∨ m = 4 := by omega
            rcases hr with rfl | rfl | rfl | rfl | rfl <;> exact ⟨_, rfl, by decide⟩
          refine s_ix_l (sql (g5.same sl _ nss hsl2)) hu ?_
          have gC := gl.trans g5
          have hr5 := gC.same r _ nrs hr3
          have hD5 := gC.stay hD3 hr3
          refine s_add_s (big (by omega)) ?_
          walk_at "rd"
          refine s_setL hr5 ixp ?_
          refine rest _ _ ⟨D5, rs.set pl.toNat (one ++ u), none, (gB.trans gC).put hD5 (.inl H0r), X5.put nrs, by rw [upd_same, setm], ?_, rfl⟩
          have := wgt_set (rs := rs) (i := pl.toNat) (x := one ++ u)
          rw [app_len] at this
          omega
        · walk_at "rd"
          exact rest _ _ (rest4 _ rfl)
end
end H91

namespace H91
open PySem PySem.Spec L2 He Y Hk91
local macro_rules | `(tactic| walk_at "rd1") => `(tactic| first
  | with_reducible refine s_seq ?_
  | with_reducible refine s_asg ?_
  | with_reducible refine s_gname ?_
  | ((with_reducible refine s_var (v := ?_) ?_ ?_); rotate_left; exact rfl)
  | with_reducible refine s_c ?_
  | with_reducible refine s_op ?_
  | with_reducible refine s_un ?_
  | with_reducible refine s_nil ?_
  | with_reducible refine s_cons ?_
  | with_reducible refine s_CB ?_
  | with_reducible refine s_ifS ?_
  | with_reducible refine s_test ?_
  | with_reducible refine s_B ?_
  | with_reducible refine s_xb ?_
  | with_reducible refine s_xi ?_
  | with_reducible refine s_xs ?_
  | with_reducible refine s_or ?_
  | with_reducible refine s_and ?_
  | with_reducible refine s_not ?_
  | with_reducible refine s_orV ?_
  | with_reducible refine s_andV ?_
  | with_reducible refine s_notV ?_
  | with_reducible refine s_ret ?_
  | with_reducible refine s_retN ?_
  | with_reducible refine s_next ?_
  | with_reducible refine s_drop ?_
  | with_reducible refine s_yes ?_
  | with_reducible refine s_for ?_
  | with_reducible refine s_lc ?_
  | with_reducible refine s_iStr ?_
  | with_reducible refine s_iList ?_
  | with_reducible refine s_iTup ?_
  | with_reducible refine s_iR1 ?_
  | with_reducible refine s_iR2 ?_
  | with_reducible refine s_iE ?_
  | with_reducible refine s_iET ?_
  | with_reducible refine s_iES ?_
  | with_reducible refine s_tup ?_
  | with_reducible refine s_lst ?_
  | with_reducible refine s_BM ?_
  | with_reducible refine s_BM0 ?_
  | with_reducible refine s_BMS ?_
  | with_reducible refine s_M1 ?_
  | with_reducible refine s_sl ?_
  | with_reducible refine s_noP ?_
  | with_reducible refine s_po ?_
  | with_reducible refine s_call ?_
  | with_reducible refine s_callS ?_
  | with_reducible refine s_make ?_
  | with_reducible refine s_makeS ?_
  | with_reducible refine s_methS ?_
  | with_reducible refine s_callO ?_
  | with_reducible refine s_dnew ?_
  | with_reducible refine s_dget ?_
  | with_reducible refine s_din ?_
  | with_reducible refine s_dnin ?_
  | with_reducible refine s_dput ?_
  | with_reducible refine s_dsetd ?_
  | with_reducible refine s_dget2 ?_
  | with_reducible refine s_fld ?_
  | with_reducible refine s_sFld ?_
  | with_reducible refine s_rz ?_
  | with_reducible refine s_asgS ?_
  | with_reducible refine s_gSub ?_
  | with_reducible refine s_ifE ?_
  | with_reducible refine s_add_i ?_
  | with_reducible refine s_sub ?_
  | with_reducible refine s_neg ?_
  | with_reducible refine s_eq_i ?_
  | with_reducible refine s_eq_s ?_
  | with_reducible refine s_ne_i ?_
  | with_reducible refine s_ne_s ?_
  | with_reducible refine s_lt_i ?_
  | with_reducible refine s_le_i ?_
  | with_reducible refine s_gt_i ?_
  | with_reducible refine s_ge_i ?_
  | with_reducible refine s_lt_s ?_
  | with_reducible refine s_le_s ?_
  | with_reducible refine s_gt_s ?_
  | with_reducible refine s_ge_s ?_
  | with_reducible refine s_in_c ?_
  | with_reducible refine s_ni_c ?_
  | with_reducible refine s_isN ?_
  | with_reducible refine s_noN ?_
  | with_reducible refine s_abs ?_
  | with_reducible refine s_min2 ?_
  | with_reducible refine s_max2 ?_
  | with_reducible refine s_int_i ?_
  | ((with_reducible refine s_len_s ?_ ?_); assumption)
  | ((with_reducible refine s_len_l (xs := ?_) ?_ ?_); rotate_left; assumption)
  | ((with_reducible refine s_len_t (xs := ?_) ?_ ?_); rotate_left; assumption)
  | with_reducible refine s_pair upd_same ?_
  | with_reducible refine s_callS ?_
  | with_reducible refine s_sortK ?_
  | with_reducible refine s_disp ?_
  | with_reducible refine s_pcons ?_
  | with_reducible refine s_pnil ?_
  | ((with_reducible refine s_ix_t (by assumption) (by first | exact atI_0 | exact atI_i (j := 1) rfl rfl | exact atI_i (j := 2) rfl rfl | exact atI_i (j := 3) rfl rfl) ?_))
  | with_reducible refine jtT ?_
  | with_reducible refine jtF ?_
  | with_reducible refine jtNT ?_
  | with_reducible refine jtNF ?_
  | dsimp only)
local macro_rules | `(tactic| walk_at "rd") => `(tactic| repeat (walk_at "rd1"))

theorem text_len {s : Str} {ys ns : List Str} (hs : s.length ≤ 100) (fy : Fit ys) (fn : Fit ns) : (textT s ys ns).length ≤ 111 * (1 + ys.length + ns.length) := by
  have e7 : ("sample " : Str).length = 7 := rfl
  have e4 : ("yes " : Str).length = 4 := rfl
  have e3 : ("no " : Str).length = 3 := rfl
  have := join_len (c := 110) (y := "\n") (zs := linesT s ys ns) (fun x hx => by
    unfold linesT at hx
    rcases List.mem_append.mp hx with hx | hx
    · rcases List.mem_append.mp hx with hx | hx
      · rw [List.mem_singleton.mp hx, app_len, e7]
        omega
      · obtain ⟨y, hy1, rfl⟩ := List.mem_map.mp hx
        have := fy.ok y hy1
        have := wr_len (z := y)
        rw [app_len, e4]
        omega
    · obtain ⟨y, hy1, rfl⟩ := List.mem_map.mp hx
      have := fn.ok y hy1
      have := wr_len (z := y)
      rw [app_len, e3]
      omega)
  have hl : (linesT s ys ns).length = 1 + ys.length + ns.length := by simp [linesT]; omega
  have e1 : ("\n" : Str).length = 1 := rfl
  rw [hl, e1] at this
  unfold textT
  omega
section
variable {P : Program} {w : World} {K : PySem.W.Frag} {mg : Str → Option Value} {base : Heap}
theorem S_law_large : FnScope ["state", "letters", "yes", "no"] ["state", "letters"] (d_law_large).scope := ⟨rfl, rfl, rfl, by decide +kernel, rfl, by decide +kernel, by decide +kernel⟩
def sp_large (K : PySem.W.Frag) : Sp := fun vs H Q E => ∃ (D : Hp) (st : Addr) (l : Str), vs = [.ref st, .str l] ∧ 1 ≤ l.length ∧ l.length ≤ 4 ∧ Same D H ∧ Stt K D H st ∧
  ∀ D' H' z, Gr (· = st) D H D' H' → Stt K D' H' st → z.length ≤ 30000 → Q (.str z) H'
theorem w_law_large (T : Txt P w K mg) : Has P w K mg base 6 "_law_large" (sp_large K) := by
  have S := S_law_large
  have G_law_next := w_law_next (base := base) T
  have G_law_climbing := w_law_climbing (base := base) T
  have G_law_text := w_law_text (base := base) T
  refine has_of (k := 5) T.d_law_large T.gd_law_large S (fun _ _ _ _ _ _ us hl => match us, hl with | [_, _], _ => rfl) (fun vs H Q E h => ?_) (fun f cdv A outer s H vs Q E hr h => ?_)
  · obtain ⟨D, st, l, rfl, _⟩ := h
    rfl
  · obtain ⟨D, st, l, rfl, hl1, hl4, sm, X, q⟩ := h
    have hlz := le1000 (Nat.le_trans hl4 (by decide) : l.length ≤ 1000)
    refine ⟨_, (pss_cons (ps_if (pt_cmpR c_lt (pe_callB (bK_len K) (by rfl) T.b_len (by decide +kernel) (pa_cons (pv 1) pa_nil)) pe_int (nomark _))
      (pss_one (ps_set (i := 1) S.nd rfl (Or.inl rfl) pe_str))
      pss_nil)
    (pss_cons (ps_set (i := 2) S.nd rfl (Or.inl rfl) (pe_has G_law_climbing (hr.mono (by decide)) (takes_of rfl rfl rfl rfl) rfl (pa_cons (pv 0) (pa_cons (pv 1) (pa_cons (pe_op (oK_add K) pe_int (pe_has G_law_next (hr.mono (by decide)) (takes_of rfl rfl rfl rfl) rfl (pa_cons (pv 0) (pa_cons pe_int pa_nil)))) (pa_cons (pe_op (oK_add K) pe_int (pe_has G_law_next (hr.mono (by decide)) (takes_of rfl rfl rfl rfl) rfl (pa_cons (pv 0) (pa_cons pe_int pa_nil)))) pa_nil))))))
    (pss_cons (ps_set (i := 3) S.nd rfl (Or.inl rfl) (pe_has G_law_climbing (hr.mono (by decide)) (takes_of rfl rfl rfl rfl) rfl (pa_cons (pv 0) (pa_cons (pv 1) (pa_cons (pe_ix (ixK_seq K) (pe_lst (pa_cons pe_int (pa_cons pe_int (pa_cons pe_int (pa_cons pe_int (pa_cons pe_int pa_nil)))))) (pe_has G_law_next (hr.mono (by decide)) (takes_of rfl rfl rfl rfl) rfl (pa_cons (pv 0) (pa_cons pe_int pa_nil))) (fun _ _ => rfl)) (pa_cons (pe_op (oK_add K) pe_int (pe_has G_law_next (hr.mono (by decide)) (takes_of rfl rfl rfl rfl) rfl (pa_cons (pv 0) (pa_cons pe_int pa_nil)))) pa_nil))))))
    (pss_one (ps_ret (pe_has G_law_text (hr.mono (by decide)) (takes_of rfl rfl rfl rfl) rfl (pa_cons (pv 1) (pa_cons (pv 2) (pa_cons (pv 3) pa_nil))))))))), ?_⟩
    refine s_cut (fun σ' H' => H' = H ∧ ∃ l2 : Str, 1 ≤ l2.length ∧ l2.length ≤ 4 ∧ σ' = [some (.ref st), some (.str l2), none, none]) ?_ (fun Nx rest => ?_)
    · rintro σ' H1 ⟨rfl, l2, hl21, hl24, rfl⟩
      walk_at "rd"
      refine ⟨D, st, _, rfl, by decide, by decide, sm, X, fun D2 H2 r2 g2 X2 r20 r21 => ?_⟩
      walk_at "rd"
      refine ⟨D2, st, _, rfl, by decide, by decide, g2.sub, X2, fun D3 H3 r3 g3 X3 r30 r31 => ?_⟩
      obtain ⟨r2, rfl⟩ := Int.eq_ofNat_of_zero_le r20
      obtain ⟨r3, rfl⟩ := Int.eq_ofNat_of_zero_le r30
      walk_at "rd"
      refine ⟨D3, st, l2, 62 + r2, 20 + r3, rfl, hl21, hl24, by omega, by omega, g3.sub, X3, fun D4 H4 p ws g4 X4 np nps hp fw wl1 => ?_⟩
      walk_at "rd"
      refine ⟨le1000 (by simp), fun sl nsl => ?_⟩
      have nss : sl ≠ st := fun e => X4.is (e ▸ nsl)
      have g5 := (Gr.refl (m := (· = st)) g4.sub).lay (o := .lst [.int 0, .int 62, .int 63, .int 64, .int 65]) nsl
      have hsl : (upd H4 sl (.lst [.int 0, .int 62, .int 63, .int 64, .int 65])) sl = some _ := upd_same
      walk_at "rd"
      refine ⟨D4, st, _, rfl, by decide, by decide, g5.sub, X4.put nss, fun D6 H6 m g6 X6 m0 m1 => ?_⟩
      obtain ⟨n, hn, hn100⟩ : ∃ n : Nat, atI [V.int 0, .int 62, .int 63, .int 64, .int 65] m = some (.int (n : Nat)) ∧ n ≤ 100 := by
        have hr : m = 0 ∨ m = 1 ∨ m = 2 ∨ m = 3 ∨ m = 4 := by omega
        rcases hr with rfl | rfl | rfl | rfl | rfl
        · exact ⟨0, rfl, by decide⟩
        · exact ⟨62, rfl, by decide⟩
        · exact ⟨63, rfl, by decide⟩
        · exact ⟨64, rfl, by decide⟩
        · exact ⟨65, rfl, by decide⟩
      refine s_ix_l (sql (g6.same sl _ nss hsl)) hn ?_
      walk_at "rd"
      refine ⟨D6, st, _, rfl, by decide, by decide, g6.sub, X6, fun D7 H7 r7 g7 X7 r70 r71 => ?_⟩
      obtain ⟨r7, rfl⟩ := Int.eq_ofNat_of_zero_le r70
      walk_at "rd"
      refine ⟨D7, st, l2, n, 20 + r7, rfl, hl21, hl24, hn100, by omega, g7.sub, X7, fun D8 H8 p8 ws8 g8 X8 np8 nps8 hp8 fw8 wl2 => ?_⟩
      have g48 := (((g5.trans g6).trans g7).trans g8)
      have gA := ((g2.trans g3).trans g4).trans g48
      walk_at "rd"
      refine ⟨D8, l2, p, p8, ws, ws8, rfl, by omega, sql (g48.same' _ _ hp), sql (g8.sub _ _ hp8), fw, fw8, g8.sub, fun D9 H9 g9 => ?_⟩
      refine q D9 H9 _ (gA.trans g9.no) (X8.up g9) ?_
      have := text_len (s := l2) (by omega) fw fw8
      have h1 := fw.few
      have h2 := fw8.few
      omega
    · walk_at "rd"
      refine jtD (fun e => ?_) (fun e => ?_)
      · walk_at "rd"
        exact rest _ _ ⟨rfl, "kz", by decide, by decide, rfl⟩
      · walk_at "rd"
        exact rest _ _ ⟨rfl, l, hl1, hl4, rfl⟩
theorem S_law : FnScope ["script", "state", "letters", "yes", "no", "text", "written_v", "turn", "large", "spoilt", "k"] ["script"] (d_law).scope := ⟨rfl, rfl, rfl, by decide +kernel, rfl, by decide +kernel, by decide +kernel⟩
def sp_law (K : PySem.W.Frag) : Sp := fun vs H Q _ => ∃ (a : Addr) (ns : List Int), vs = [.ref a] ∧ SqL K H a (ns.map V.int) ∧ ns.length ≤ 63 ∧ ∀ H', Q (.bl true) H'
/-- a word of the letters, of at most so many -/
structure Wd (l : Str) (n : Nat) (z : Str) : Prop where
  len : z.length ≤ n
  ok : ∀ c ∈ z.cps.toList, c ∈ l.cps.toList
theorem wds_of {l : Str} {ws : List Str} (h : ∀ z ∈ ws, Wd l 6 z) (hl : ws.length ≤ 60) : Wds l ws := ⟨by omega, fun z hz => ⟨by have := (h z hz).len; omega, badAt_none (h z hz).ok⟩⟩
theorem inO_len {l : List Str} : (inO l).length ≤ l.length := by
  induction l with
  | nil => exact Nat.le_refl _
  | cons x r ih =>
    show (insO x (inO r)).length ≤ r.length + 1
    have : ∀ m : List Str, (insO x m).length ≤ m.length + 1 := by
      intro m
      induction m with
      | nil => exact Nat.le_refl _
      | cons y m ih =>
        rw [insO_cons]
        split
        · exact Nat.le_refl _
        · split
          · exact Nat.le_succ _
          · show (insO x m).length + 1 ≤ m.length + 1 + 1
            omega
    have := this (inO r)
    omega
theorem w_law (T : Txt P w K mg) {fd : FuncData} (F : FunD K Hk91.d_law.name Hk91.d_law.qual Hk91.d_law.params Hk91.d_law.body Hk91.d_law.scope [] [] (fAd K Hk91.d_law.at_) fd) : FnOk P w K mg base (L2.CX P w) 10 (fAd K Hk91.d_law.at_) fd ["script"] (sp_law K) := by
  have S := S_law
  have G_law_start := w_law_start (base := base) T
  have G_law_next := w_law_next (base := base) T
  have G_law_word := w_law_word (base := base) T
  have G_law_alphabet := w_law_alphabet (base := base) T
  have G_law_ordered := w_law_ordered (base := base) T
  have G_law_text := w_law_text (base := base) T
  have G_sample_text := w_sample_text (base := base) T
  have G_Sample := w_Sample (base := base) T
  have G_law_reads := w_law_reads (base := base) T
  have G_law_spoilt := w_law_spoilt (base := base) T
  have G_law_large := w_law_large (base := base) T
  refine F.ok (k := 9) S (fun vs H Q E h => ?_) (fun cdv A outer s H vs Q E hr h => ?_)
  · obtain ⟨a, ns, rfl, _⟩ := h
    rfl
  · obtain ⟨a, ns, rfl, ha, hns, q⟩ := h
    refine ⟨_, (pss_cons (ps_set (i := 1) S.nd rfl (Or.inr rfl) (pe_has G_law_start (hr.mono (by decide)) (takes_of rfl rfl rfl rfl) rfl (pa_cons (pv 0) pa_nil)))
    (pss_cons (ps_set (i := 2) S.nd rfl (Or.inr rfl) (pe_has G_law_alphabet (hr.mono (by decide)) (takes_of rfl rfl rfl rfl) rfl (pa_cons (pv 1) (pa_cons (pe_ix (ixK_seq K) (pe_lst (pa_cons pe_int (pa_cons pe_int (pa_cons pe_int (pa_cons pe_int (pa_cons pe_int (pa_cons pe_int (pa_cons pe_int (pa_cons pe_int pa_nil))))))))) (pe_has G_law_next (hr.mono (by decide)) (takes_of rfl rfl rfl rfl) rfl (pa_cons (pv 1) (pa_cons pe_int pa_nil))) (fun _ _ => rfl)) pa_nil))))
    (pss_cons (ps_setLc (i := 3) (own := [("k", 10)]) rfl S.nd rfl rfl (sw_true rfl rfl rfl (by decide +kernel)) (pi_range1 (by rfl) T.b_range (pa_cons (pe_has G_law_next (hr.mono (by decide)) (takes_of rfl rfl rfl rfl) rfl (pa_cons (pv 1) (pa_cons pe_int pa_nil))) pa_nil)) (blkOk_by (by rfl)) (fun _ _ _ _ _ => (pg_name (i := 10) S.nd rfl (Or.inl rfl))) (fun _ _ _ _ _ => pts_nil) (fun _ _ _ _ _ => (pe_has G_law_word (hr.mono (by decide)) takes0 rfl (pa_cons (pv 1) (pa_cons (pv 2) (pa_cons (pe_has G_law_next (hr.mono (by decide)) takes0 rfl (pa_cons (pv 1) (pa_cons pe_int pa_nil))) pa_nil))))))
    (pss_cons (ps_setLc (i := 4) (own := [("k", 10)]) rfl S.nd rfl rfl (sw_true rfl rfl rfl (by decide +kernel)) (pi_range1 (by rfl) T.b_range (pa_cons (pe_has G_law_next (hr.mono (by decide)) (takes_of rfl rfl rfl rfl) rfl (pa_cons (pv 1) (pa_cons pe_int pa_nil))) pa_nil)) (blkOk_by (by rfl)) (fun _ _ _ _ _ => (pg_name (i := 10) S.nd rfl (Or.inl rfl))) (fun _ _ _ _ _ => pts_nil) (fun _ _ _ _ _ => (pe_has G_law_word (hr.mono (by decide)) takes0 rfl (pa_cons (pv 1) (pa_cons (pv 2) (pa_cons (pe_has G_law_next (hr.mono (by decide)) takes0 rfl (pa_cons (pv 1) (pa_cons pe_int pa_nil))) pa_nil))))))
    (pss_cons (ps_if (pt_cmpR c_gt (pe_callB (bK_len K) (by rfl) T.b_len (by decide +kernel) (pa_cons (pv 3) pa_nil)) pe_int (nomark _))
      (pss_cons (ps_expr (peK_bm K PySem.F.plainAttrs_list PySem.F.slot_list_append PySem.F.type_list_append mt_append (pv 4) (pa_cons (pe_ix (ixK_seq K) (pv 3) pe_int (fun _ _ => rfl)) pa_nil)))
    (pss_one (ps_expr (peK_bm K PySem.F.plainAttrs_list PySem.F.slot_list_append PySem.F.type_list_append mt_append (pv 3) (pa_cons (pe_ix (ixK_seq K) (pv 3) pe_int (fun _ _ => rfl)) pa_nil)))))
      pss_nil)
    (pss_cons (ps_set (i := 5) S.nd rfl (Or.inl rfl) (pe_has G_law_text (hr.mono (by decide)) (takes_of rfl rfl rfl rfl) rfl (pa_cons (pv 2) (pa_cons (pe_has G_law_ordered (hr.mono (by decide)) (takes_of rfl rfl rfl rfl) rfl (pa_cons (pv 3) pa_nil)) (pa_cons (pe_has G_law_ordered (hr.mono (by decide)) (takes_of rfl rfl rfl rfl) rfl (pa_cons (pv 4) pa_nil)) pa_nil)))))
    (pss_cons (ps_set (i := 6) S.nd rfl (Or.inl rfl) (pe_has G_sample_text (hr.mono (by decide)) (takes_of rfl rfl rfl rfl) rfl (pa_cons (pe_mkS G_Sample (hr.mono (by decide)) (takes_of rfl rfl rfl rfl) rfl (pa_cons (pv 2) (pa_cons (pe_callTy (bK_list K) (by rfl) T.b_list (by decide +kernel) (pa_cons (pv 3) pa_nil)) (pa_cons (pe_callTy (bK_list K) (by rfl) T.b_list (by decide +kernel) (pa_cons (pv 4) pa_nil)) pa_nil)))) pa_nil)))
    (pss_cons (ps_if (PW.pt (pw_or (pt_not (pt_val (pe_callB call_isi (by rfl) T.b_isinstance (by decide +kernel) (pa_cons (pv 6) (pa_cons (pe_gT (T := "str") (by rfl) T.b_str (by decide +kernel)) pa_nil))))) (pw_or (pt_cmpR (cK_ne K hr.units) (pv 6) (pv 5) (nomark _)) (pw_or1 (pt_not (pt_val (pe_has G_law_reads (hr.mono (by decide)) (takes_of rfl rfl rfl rfl) rfl (pa_cons (pv 5) pa_nil))))))))
      (pss_one (ps_ret pe_bl))
      pss_nil)
    (pss_cons (ps_for (passes_of rfl) rfl (pi_range1 (by rfl) T.b_range (pa_cons pe_int pa_nil)) (pg_name (i := 7) S.nd rfl (Or.inl rfl))
      (pss_cons (ps_set (i := 9) S.nd rfl (Or.inl rfl) (pe_has G_law_spoilt (hr.mono (by decide)) (takes_of rfl rfl rfl rfl) rfl (pa_cons (pv 1) (pa_cons (pv 5) pa_nil))))
    (pss_cons (ps_if (pt_cmpR c_gt (pv 7) pe_int (nomark _))
      (pss_one (ps_set (i := 9) S.nd rfl (Or.inl rfl) (pe_has G_law_spoilt (hr.mono (by decide)) (takes_of rfl rfl rfl rfl) rfl (pa_cons (pv 1) (pa_cons (pv 9) pa_nil)))))
      pss_nil)
    (pss_one (ps_if (pt_not (pt_val (pe_has G_law_reads (hr.mono (by decide)) (takes_of rfl rfl rfl rfl) rfl (pa_cons (pv 9) pa_nil))))
      (pss_one (ps_ret pe_bl))
      pss_nil)))))
    (pss_cons (ps_set (i := 8) S.nd rfl (Or.inl rfl) (pe_has G_law_large (hr.mono (by decide)) (takes_of rfl rfl rfl rfl) rfl (pa_cons (pv 1) (pa_cons (pv 2) pa_nil))))
    (pss_cons (ps_if (PW.pt (pw_or (pt_not (pt_val (pe_has G_law_reads (hr.mono (by decide)) (takes_of rfl rfl rfl rfl) rfl (pa_cons (pv 8) pa_nil)))) (pw_or1 (pt_not (pt_val (pe_has G_law_reads (hr.mono (by decide)) (takes_of rfl rfl rfl rfl) rfl (pa_cons (pe_has G_law_spoilt (hr.mono (by decide)) (takes_of rfl rfl rfl rfl) rfl (pa_cons (pv 1) (pa_cons (pv 8) pa_nil))) pa_nil)))))))
      (pss_one (ps_ret pe_bl))
      pss_nil)
    (pss_one (ps_ret (pe_has G_law_reads (hr.mono (by decide)) (takes_of rfl rfl rfl rfl) rfl (pa_cons (pv 5) pa_nil))))))))))))))), ?_⟩
    walk_at "rd"
    refine ⟨a, ns, rfl, ha, hns, fun D1 H1 st g1 X1 nst => ?_⟩
    walk_at "rd"
    refine ⟨le1000 (by simp), fun p np => ?_⟩
    have nps : p ≠ st := fun e => X1.is (e ▸ np)
    have g2 := (Gr.refl (m := (· = st)) g1.sub).lay (o := .lst [.int 2, .int 2, .int 2, .int 2, .int 2, .int 1, .int 3, .int 4]) np
    have hp2 : (upd H1 p (.lst [.int 2, .int 2, .int 2, .int 2, .int 2, .int 1, .int 3, .int 4])) p = some _ := upd_same
    walk_at "rd"
    refine ⟨D1, st, _, rfl, by decide, by decide, g2.sub, X1.put nps, fun D3 H3 r g3 X3 r0 r1 => ?_⟩
    obtain ⟨n, hn, hn1, hn4⟩ : ∃ n : Nat, atI [V.int 2, .int 2, .int 2, .int 2, .int 2, .int 1, .int 3, .int 4] r = some (.int (n : Nat)) ∧ 1 ≤ n ∧ n ≤ 4 := by
      have hr : r = 0 ∨ r = 1 ∨ r = 2 ∨ r = 3 ∨ r = 4 ∨ r = 5 ∨ r = 6 ∨ r = 7 := by omega
      rcases hr with rfl | rfl | rfl | rfl | rfl | rfl | rfl | rfl
      · exact ⟨2, rfl, by decide, by decide⟩
      · exact ⟨2, rfl, by decide, by decide⟩
      · exact ⟨2, rfl, by decide, by decide⟩
      · exact ⟨2, rfl, by decide, by decide⟩
      · exact ⟨2, rfl, by decide, by decide⟩
      · exact ⟨1, rfl, by decide, by decide⟩
      · exact ⟨3, rfl, by decide, by decide⟩
      · exact ⟨4, rfl, by decide, by decide⟩
    refine s_ix_l (sql (g3.same p _ nps hp2)) hn ?_
    walk_at "rd"
    refine ⟨D3, st, n, rfl, hn1, hn4, g3.sub, X3, fun D4 H4 l g4 X4 hll okl => ?_⟩
    have hl := ok_len okl
    have hlz := le1000 (Nat.le_trans hl.2 (by decide) : l.length ≤ 1000)
    walk_at "rd"
    refine ⟨D4, st, _, rfl, by decide, by decide, g4.sub, X4, fun D5 H5 ny g5 X5 ny0 ny1 => ?_⟩
    obtain ⟨ny, rfl⟩ := Int.eq_ofNat_of_zero_le ny0
    walk_at "rd"
    refine ⟨_, rfl, by omega, by omega, fun py npy => ?_⟩
    have npys : py ≠ st := fun e => X5.is (e ▸ npy)
    have one : ∀ (D0 H0 : Hp) (pm : Addr) (Qd : Hp → Prop) (n : Nat) (σ : L2.St), Same D0 H0 → Stt K D0 H0 st → H0 pm = none → pm ≠ st → n ≤ 6 → True := fun _ _ _ _ _ _ _ _ _ _ _ => trivial
    refine lc_it walk_r0 (fun i H => ∃ (D : Hp) (ws : List Str), Gr (· = st) D5 H5 D H ∧ Stt K D H st ∧ H py = some (.lst (ws.map V.str)) ∧ D py = none ∧ ws.length = i ∧ ∀ z ∈ ws, Wd l 6 z)
      ⟨D5, [], (Gr.refl g5.sub).lay npy, X5.put npys, upd_same, (Gr.refl (m := No) g5.sub).free npy, rfl, fun x z => nomatch z⟩ (fun _ _ _ _ => trivial) ?_ ?_
    · rintro i x H6 H7 hi ⟨D6, ws, g6, X6, hp6, hD6, hw6, hws⟩ ⟨rfl, rfl⟩
      walk_at "rd"
      refine ⟨rfl, ?_⟩
      walk_at "rd"
      refine ⟨D6, st, _, rfl, by decide, by decide, g6.sub, X6, fun D8 H8 m g8 X8 m0 m1 => ?_⟩
      obtain ⟨m, rfl⟩ := Int.eq_ofNat_of_zero_le m0
      refine ⟨D8, st, l, m, rfl, hl.1, by omega, by omega, g8.sub, X8, fun D9 H9 z g9 X9 zl zc => ?_⟩
      have g68 := g8.trans g9
      have hp9 := g68.same py _ npys hp6
      have hD9 := g68.stay hD6 hp6
      walk_at "rd"
      refine ⟨_, hp9, by rw [List.length_map]; exact small1000 (by omega), D9, ws ++ [z], (g6.trans g68).put hD9 (.inl npy), X9.put npys, ?_, hD9, ?_, ?_⟩
      · rw [upd_same, List.map_append]
        rfl
      · rw [List.length_append, hw6]
        rfl
      · intro y hy
        rcases List.mem_append.mp hy with hy | hy
        · exact hws y hy
        · rw [List.mem_singleton.mp hy]
          exact ⟨by omega, zc⟩
    rintro H6 ⟨D6, ys, g6, X6, hpy6, hDy6, hwl, hys⟩
    have hyl : ys.length ≤ 6 := by rw [hwl, Int.toNat_natCast]; omega
    walk_at "rd"
    refine ⟨D6, st, _, rfl, by decide, by decide, g6.sub, X6, fun D7 H7 nn g7 X7 nn0 nn1 => ?_⟩
    obtain ⟨nn, rfl⟩ := Int.eq_ofNat_of_zero_le nn0
    have hpy7 := g7.same py _ npys hpy6
    have hDy7 := g7.stay hDy6 hpy6
    walk_at "rd"
    refine ⟨_, rfl, by omega, by omega, fun pn npn => ?_⟩
    have npns : pn ≠ st := fun e => X7.is (e ▸ npn)
    have nyn : py ≠ pn := fun e => by rw [← e, hpy7] at npn; cases npn
    refine lc_it walk_r0 (fun i H => ∃ (D : Hp) (ws : List Str), Gr (· = st) D7 H7 D H ∧ Stt K D H st ∧ H pn = some (.lst (ws.map V.str)) ∧ D pn = none ∧ ws.length = i ∧ ∀ z ∈ ws, Wd l 6 z)
      ⟨D7, [], (Gr.refl g7.sub).lay npn, X7.put npns, upd_same, (Gr.refl (m := No) g7.sub).free npn, rfl, fun x z => nomatch z⟩ (fun _ _ _ _ => trivial) ?_ ?_
    · rintro i x H6 H7 hi ⟨D6, ws, g6, X6, hp6, hD6, hw6, hws⟩ ⟨rfl, rfl⟩
      walk_at "rd"
      refine ⟨rfl, ?_⟩
      walk_at "rd"
      refine ⟨D6, st, _, rfl, by decide, by decide, g6.sub, X6, fun D8 H8 m g8 X8 m0 m1 => ?_⟩
      obtain ⟨m, rfl⟩ := Int.eq_ofNat_of_zero_le m0
      refine ⟨D8, st, l, m, rfl, hl.1, by omega, by omega, g8.sub, X8, fun D9 H9 z g9 X9 zl zc => ?_⟩
      have g68 := g8.trans g9
      have hp9 := g68.same pn _ npns hp6
      have hD9 := g68.stay hD6 hp6
      walk_at "rd"
      refine ⟨_, hp9, by rw [List.length_map]; exact small1000 (by omega), D9, ws ++ [z], (g6.trans g68).put hD9 (.inl npn), X9.put npns, ?_, hD9, ?_, ?_⟩
      · rw [upd_same, List.map_append]
        rfl
      · rw [List.length_append, hw6]
        rfl
      · intro y hy
        rcases List.mem_append.mp hy with hy | hy
        · exact hws y hy
        · rw [List.mem_singleton.mp hy]
          exact ⟨by omega, zc⟩
    rintro H8 ⟨D8, ns, g8, X8, hpn8, hDn8, hnl', hnz⟩
    have hnl : ns.length ≤ 6 := by rw [hnl', Int.toNat_natCast]; omega
    have hpy8 := g8.same py _ npys hpy7
    have hDy8 := g8.stay hDy7 hpy7
    have gAll : Gr (· = st) D1 H1 D8 H8 := (((g2.trans g3).trans ((g4.trans g5).trans g6)).trans (g7.trans g8))
    have hwy : ∀ z ∈ ys, Wd l 6 z := hys
    have hLy := sql (K := K) hpy8
    have nyp : py ≠ pn := nyn
    have hwn : ∀ z ∈ ns, Wd l 6 z := hnz
    have hpyn1 : H1 py = none := (g2.trans (g3.trans (g4.trans g5))).kept _ npy
    with_reducible refine s_gname ?_
    try dsimp only
    refine s_cut (fun σ' H' => ∃ (ys ns : List Str) (o : Option V), Gr (· = st) D1 H1 D8 H' ∧ Stt K D8 H' st ∧ H' py = some (.lst (ys.map V.str)) ∧ H' pn = some (.lst (ns.map V.str)) ∧ ys.length ≤ 8 ∧ ns.length ≤ 8 ∧ (∀ z ∈ ys, Wd l 6 z) ∧ (∀ z ∈ ns, Wd l 6 z) ∧ σ' = [some (.ref a), some (.ref st), some (.str l), some (.ref py), some (.ref pn), none, none, none, none, none, o]) ?_ (fun Nx rest => ?_)
    · clear hLy hys hnz hwy hwn hyl hnl hpy8 hpn8 hDy8 hDn8 hwl hnl' X8 gAll g8 hpy7 hDy7 hpy6 hDy6
      rintro σ' H9 ⟨ys, ns, o, gA, X9, hpy, hpn, hyl, hnl, hwy, hwn, rfl⟩
      have hyz : ∀ z ∈ ys, z.length ≤ sizeLine := fun z hz => le1000 (Nat.le_trans (hwy z hz).len (by decide))
      have hnz : ∀ z ∈ ns, z.length ≤ sizeLine := fun z hz => le1000 (Nat.le_trans (hwn z hz).len (by decide))
      have fy : Fit (inO ys) := ⟨Nat.le_trans inO_len (by omega), fun z hz => Nat.le_trans (hwy z (inO_mem.mp hz)).len (by decide)⟩
      have fn : Fit (inO ns) := ⟨Nat.le_trans inO_len (by omega), fun z hz => Nat.le_trans (hwn z (inO_mem.mp hz)).len (by decide)⟩
      have hiy : (inO ys).length ≤ 8 := Nat.le_trans inO_len hyl
      have hin : (inO ns).length ≤ 8 := Nat.le_trans inO_len hnl
      walk_at "rd"
      refine ⟨D8, py, ys, rfl, sql hpy, by omega, hyz, gA.sub, fun D10 H10 p1 g10 np1 nd1 hp1 => ?_⟩
      walk_at "rd"
      refine ⟨D10, pn, ns, rfl, sql (g10.all _ _ hpn), by omega, hnz, g10.sub, fun D11 H11 p2 g11 np2 nd2 hp2 => ?_⟩
      have g1011 := g10.trans g11
      refine ⟨D11, l, p1, p2, inO ys, inO ns, rfl, by omega, sql (g11.all _ _ hp1), sql hp2, fy, fn, g11.sub, fun D12 H12 g12 => ?_⟩
      have gB := g1011.trans g12
      have htl := text_len (s := l) (by omega) fy fn
      have hpyB := gB.all _ _ hpy
      have hpnB := gB.all _ _ hpn
      walk_at "rd"
      refine s_lst_l (sql hpyB) fun c1 nc1 => ?_
      have g13 := gB.lay (o := .lst (ys.map V.str)) nc1
      have hc1 : (upd H12 c1 (.lst (ys.map V.str))) c1 = some _ := upd_same
      have hpn13 : (upd H12 c1 (.lst (ys.map V.str))) pn = some _ := (upd_ne (ne_of_none hpnB nc1)).trans hpnB
      walk_at "rd"
      refine s_lst_l (sql hpn13) fun c2 nc2 => ?_
      have g14 := g13.lay (o := .lst (ns.map V.str)) nc2
      have n12 : c1 ≠ c2 := fun e => by rw [← e, hc1] at nc2; cases nc2
      walk_at "rd"
      intro x dx nx ndx ne
      have nx' : (upd (upd (upd H12 c1 (.lst (ys.map V.str))) c2 (.lst (ns.map V.str))) dx (.own x)) x = none := (upd_ne (Ne.symm ne)).trans nx
      have g15 := (g14.lay (o := .own x) ndx).lay (o := .ins (ga K "Sample") dx []) nx'
      have kk : ∀ b o, (upd (upd H12 c1 (.lst (ys.map V.str))) c2 (.lst (ns.map V.str))) b = some o → (upd (upd (upd (upd H12 c1 (.lst (ys.map V.str))) c2 (.lst (ns.map V.str))) dx (.own x)) x (.ins (ga K "Sample") dx [])) b = some o := fun b o e => by
        rw [upd_ne (ne_of_none e nx), upd_ne (ne_of_none e ndx)]
        exact e
      have hc1x : (upd (upd H12 c1 (.lst (ys.map V.str))) c2 (.lst (ns.map V.str))) c1 = some (.lst (ys.map V.str)) := (upd_ne n12).trans hc1
      have hc2x : (upd (upd H12 c1 (.lst (ys.map V.str))) c2 (.lst (ns.map V.str))) c2 = some (.lst (ns.map V.str)) := upd_same
      refine ⟨D12, x, dx, l, c1, c2, ys, ns, rfl, okl, hl.2, g15.sub, g14.free nx, upd_same, sql (kk _ _ hc1x), sql (kk _ _ hc2x), ne_of_none hc1x nx, ne_of_none hc2x nx, wds_of hwy (by omega), wds_of hwn (by omega), fun D16 H16 vp vq gF hDx hHx dp dq => ⟨rfl, ?_⟩⟩
      have sX : Same D16 (upd D16 x (.ins (ga K "Sample") dx [("letters", .str l), ("yes", vp), ("no", vq)])) := same_new hDx
      have gC := (g15.transN gF fun y hy => hy ▸ g14.kept x nx).cold hHx (g14.kept x nx)
      refine ⟨_, .ref x, l, inO ys, inO ns, rfl, gC.sub, ⟨x, dx, vp, vq, rfl, upd_same, _root_.Y.Dp.mono sX dp, _root_.Y.Dp.mono sX dq⟩, hl.2, by omega, by omega, fun z hz => Nat.le_trans (hwy z (inO_mem.mp hz)).len (by decide), fun z hz => Nat.le_trans (hwn z (inO_mem.mp hz)).len (by decide), fun D17 H17 g17 => ?_⟩
      have gD := gC.trans g17
      have X17 := X9.up gD
      clear gC sX dp dq hHx hDx gF kk g15 hc1x hc2x
      revert gD X17 htl
      generalize textT l (inO ys) (inO ns) = text
      intro htl gD X17
      have htz : text.length ≤ sizeLine := leBig (by omega)
      walk_at "rd"
      refine ⟨.str text, .ty "str", .type "str", .type "str", true, rfl, .ty _, .base (.str _), rfl, ?_⟩
      walk_at "rd"
      refine jtN (fun e => absurd rfl e) (fun _ => ?_)
      walk_at "rd"
      refine ⟨D17, text, rfl, by omega, gD.sub, fun D18 H18 g18 => ?_⟩
      have X18 := X17.up g18
      walk_at "rd"
      refine ⟨_, rfl, by decide, by decide, lp_it walk_r0 (fun i σ H' => ∃ D' o7 o9, Gr (· = st) D18 H18 D' H' ∧ Stt K D' H' st ∧ σ = [some (.ref a), some (.ref st), some (.str l), some (.ref py), some (.ref pn), some (.str text), some (.str text), o7, none, o9, o]) ⟨D18, none, none, Gr.refl g18.sub, X18, rfl⟩ (fun _ _ _ _ _ => trivial) ?_ ?_⟩
      · rintro i x σ H19 H20 hi ⟨D19, o7, o9, g19, X19, rfl⟩ ⟨rfl, rfl⟩
        walk_at "rd"
        refine ⟨D19, st, text, rfl, by omega, g19.sub, X19, fun D21 H21 z g21 X21 hz => ?_⟩
        with_reducible refine s_gname ?_
        try dsimp only
        refine s_cut (fun σ' H' => ∃ D' z, Gr (· = st) D21 H21 D' H' ∧ Stt K D' H' st ∧ z.length ≤ 100000 ∧ σ' = [some (.ref a), some (.ref st), some (.str l), some (.ref py), some (.ref pn), some (.str text), some (.str text), some (.int (i : Nat)), none, some (.str z), o]) ?_ (fun Nx rest => ?_)
        · rintro σ' H22 ⟨D22, z2, g22, X22, hz2, rfl⟩
          walk_at "rd"
          refine ⟨D22, z2, rfl, hz2, g22.sub, fun D23 H23 g23 => ?_⟩
          walk_at "rd"
          exact ⟨D23, _, _, (g19.trans g21).trans (g22.trans g23.no), X22.up g23, rfl⟩
        · walk_at "rd"
          refine jtD (fun e => ?_) (fun e => ?_)
          · walk_at "rd"
            refine ⟨D21, st, z, rfl, by omega, g21.sub, X21, fun D23 H23 z3 g23 X23 hz3 => ?_⟩
            walk_at "rd"
            exact rest _ _ ⟨D23, z3, g23, X23, by omega, rfl⟩
          · walk_at "rd"
            exact rest _ _ ⟨D21, z, Gr.refl g21.sub, X21, by omega, rfl⟩
      · rintro σ H19 ⟨D19, o7, o9, g19, X19, rfl⟩
        walk_at "rd"
        refine ⟨D19, st, l, rfl, hl.1, hl.2, g19.sub, X19, fun D20 H20 lg g20 X20 hlg => ?_⟩
        walk_at "rd"
        refine ⟨D20, lg, rfl, by omega, g20.sub, fun D21 H21 g21 => ?_⟩
        have X21 := X20.up g21
        walk_at "rd"
        refine ⟨D21, st, lg, rfl, by omega, g21.sub, X21, fun D22 H22 z g22 X22 hz => ?_⟩
        refine ⟨D22, z, rfl, by omega, g22.sub, fun D23 H23 g23 => ?_⟩
        walk_at "rd"
        exact ⟨D23, text, rfl, by omega, g23.sub, fun D24 H24 g24 => q _⟩
    · walk_at "rd"
      refine jtD (fun e => ?_) (fun e => ?_)
      · have h2 : 2 ≤ ys.length := by
          rw [List.length_map] at e
          omega
        have e0 : (ys.map V.str)[0]? = some (.str ys[0]) := by rw [List.getElem?_map, List.getElem?_eq_getElem (by omega)]; rfl
        have e1 : (ys.map V.str)[1]? = some (.str ys[1]) := by rw [List.getElem?_map, List.getElem?_eq_getElem (by omega)]; rfl
        walk_at "rd"
        refine ⟨ty_l hpn8, ?_⟩
        walk_at "rd"
        refine s_ix_l hLy (atI_nat e1) ?_
        walk_at "rd"
        refine s_append hpn8 (by rw [List.length_map]; exact small1000 (by omega)) ?_
        walk_at "rd"
        have hpyU : (upd H8 pn (.lst (ns.map V.str ++ [.str ys[1]]))) py = some _ := (upd_ne nyn).trans hpy8
        refine ⟨ty_l hpyU, ?_⟩
        walk_at "rd"
        refine s_ix_l (sql hpyU) (atI_nat e0) ?_
        walk_at "rd"
        refine s_append hpyU (by rw [List.length_map]; exact small1000 (by omega)) ?_
        walk_at "rd"
        refine rest _ _ ⟨ys ++ [ys[0]], ns ++ [ys[1]], _, (gAll.put hDn8 (.inl ?_)).put hDy8 (.inl hpyn1), (X8.put npns).put npys, ?_, ?_, ?_, ?_, ?_, ?_, rfl⟩
        · exact (g2.trans (g3.trans (g4.trans (g5.trans (g6.trans g7))))).kept _ npn
        · rw [upd_same, List.map_append]
          rfl
        · rw [upd_ne nyn.symm, upd_same, List.map_append]
          rfl
        · rw [List.length_append]
          have : ([ys[0]] : List Str).length = 1 := rfl
          omega
        · rw [List.length_append]
          have : ([ys[1]] : List Str).length = 1 := rfl
          omega
        · intro z hz
          rcases List.mem_append.mp hz with hz | hz
          · exact hwy z hz
          · rw [List.mem_singleton.mp hz]
            exact hwy _ (List.getElem_mem _)
        · intro z hz
          rcases List.mem_append.mp hz with hz | hz
          · exact hwn z hz
          · rw [List.mem_singleton.mp hz]
            exact hwy _ (List.getElem_mem _)
      · walk_at "rd"
        exact rest _ _ ⟨ys, ns, _, gAll, X8, hpy8, hpn8, by omega, by omega, hwy, hwn, rfl⟩
end
end H91

namespace H91
open PySem PySem.Spec L2 He Y Hk91
theorem facts {w : World} {K : PySem.W.Frag} {h : Heap} {mg : Str → Option Value} {f : Addr} (X : K.In h) (G : h.Ns mainGlobals mg) (hfa : mg ("law" : Str) = some (.ref f)) (c : SaysI fa fn fb fi file K) :
    ∃ fd : FuncData, (∀ (s : Shared) (v : Value), BindsTo s fd ⟨[v], []⟩ [("script", v)]) ∧ ∀ base : Heap, K.In base → base.Ns mainGlobals mg → FnOk (PySem.Challenge.rw_fromyesalone_k91_texts_of_samples).prog w K mg base CXany 10 f fd ["script"] (sp_law K) := by
  have T : Txt (PySem.Challenge.rw_fromyesalone_k91_texts_of_samples).prog w K mg := txt X G rfl rfl c
  obtain ⟨fd, F⟩ := T.d_law
  have e := hfa.symm.trans T.gd_law
  cases e
  have b := FunD.bindsA (ps := ["script"]) F fun _ _ _ _ _ _ us hl => match us, hl with | [_], _ => rfl
  exact ⟨fd, fun s v => b s [v] rfl, fun base _ _ => fn_any (w_law T F)⟩
end H91
open PySem PySem.W PySem.Calls PyProof.Rows
theorem PySem.Challenge.cw_fromyesalone_k91_texts_of_samples_holds : PySem.Challenge.rw_fromyesalone_k91_texts_of_samples.Holds := by
  w_on; o_law
  refine HandSHeadRun.head_any (r := Hk91.R) (q := view Hk91.R.prog [41]) (H := Hk91.hk) (ob := Hk91.ob) (M := 3000) (loose := Hk91.names) (d := HandSHeadRun.topDef Hk91.R.prog 41) (kwd := []) Hk91.ob_eq
    (by kernel_rfl) (fun s => by kernel_rfl) Hk91.run (by kernel_rfl) (by kernel_rfl) (by kernel_rfl) (by rfl) (by first | assumption | decide +kernel) (by decide +kernel) ⟨rfl, rfl, rfl, rfl, rfl, by decide +kernel⟩ ?hw ?hc
  case hw => w_witness2
  case hc =>
    refine L2.walk_ofE (l := PySem.Challenge.rw_fromyesalone_k91_texts_of_samples) (n := 63) (k := 10) (x := "script") (CX := Y.CXany) rfl (by decide) (by kernel_rfl) ⟨rfl, by decide, by decide⟩ ?F Y.any_none
    intro w mg fa h Y G hmg0
    obtain ⟨K, KX, c⟩ := Y
    have hmg : mg ("law" : PySem.Str) = some (.ref fa) := by
      have e : (HandSHeadRun.topDef Hk91.R.prog 41).name = ("law" : PySem.Str) := by kernel_rfl
      rw [← e]
      exact hmg0
    obtain ⟨fd, hb, hF⟩ := H91.facts (w := w) KX G hmg c
    exact ⟨K, fd, H91.sp_law K, KX, hb, fun H a ns hl _ hS => ⟨a, ns, rfl, hS, hl, fun _ => rfl⟩, hF⟩
