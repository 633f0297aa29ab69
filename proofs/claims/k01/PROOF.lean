import PyProof.Rows.All
import Wide.All
import OpenK.AllK
import Wide.FinOn
import PyProof.EqAt
import PyProof.EqKinds
import PyProof.TupleCall
import PyProof.CollectStr
import KE.KExcSuper
import HandS.ForMost
import HandS.Exc
import HandS.TryOnly
import HandS.ExcOwn
import HandS.WordsExc
import HandS.Defaults
import HandS.IsInst
import HandS.FStr
import HandS.Small
import HandS.Wide
import HandS.Walk
import HandS.Flow
import KE.IntTextLaws
import KE.KExcLine
import HandS.HeadWalk
import HandS.HeadHook4
import KE.GoesMore
import PyProof.Draws
import PyProof.EnumMake
import PyProof.ListStr
import HandS.Head0
import HandS.Head1
import HandS.Head2
import HandS.HeadEnd
import HandS.HeadHook1
import HandS.HeadHook2
import HandS.EndTab
import PySem.Challenge.RW_sumstead_k01_whole_texts_of_worths
set_option Elab.async false
set_option linter.all false
set_option maxRecDepth 100000
set_option maxHeartbeats 4000000
/-! Sm: further rules over the layer, and short steps. -/
namespace Sm
open PySem PySem.Spec PyProof.Rows L2
/-! ### wide operators -/
def CDivU (i j : Int) : Prop := j ≠ 0 ∧ Builtin.divisionGoesByPylong i j = false
def CPowU (i j : Int) : Prop := 0 ≤ j ∧ (Builtin.Int.intBits i : Int) * j ≤ 2 ^ 27
section
variable {X : Cx}
theorem op_fdivU : OpR X (binaryOp .FloorDiv) (rI CDivU fun i j => .int (i.fdiv j)) := opI fun i j _ _ _ _ _ hc q => floordiv_int hc.1 q (.inl hc.2)
theorem op_mulU : OpR X (binaryOp .Mult) (rI IntMulOk fun i j => .int (i * j)) := opI fun _ _ _ _ _ _ _ hc q => mul_int q hc
theorem op_powW : OpR X (binaryOp .Pow) (rI CPowU fun i j => .int (i ^ j.toNat)) := opI fun _ _ _ _ _ _ _ hc q => pow_int hc.1 hc.2 q
def rAddS : R2 := fun x y H Q => ∃ i j, x = .str i ∧ y = .str j ∧ i.length + j.length ≤ sizeLine ∧ Q (.str (i ++ j)) H
def rAddU : R2 := fun x y H Q => rI0 (fun i j => .int (i + j)) x y H Q ∨ rAddS x y H Q
theorem op_addU : OpR X (binaryOp .Add) rAddU := op_add.or op_add_str
def rEqU (K : PySem.W.Frag) : R2 := fun x y H Q => rEq x y H Q ∨ rEqD K x y H Q
def rNeU (K : PySem.W.Frag) : R2 := fun x y H Q => rNe x y H Q ∨ rNeD K x y H Q
theorem op_eqU {k : Nat} (hr : Room k X.A) : OpR X (compareOp .Eq) (rEqU X.K) := op_eq.or (op_eqD hr.units)
theorem op_neU {k : Nat} (hr : Room k X.A) : OpR X (compareOp .NotEq) (rNeU X.K) := op_ne.or (op_neD hr.units)
def rIsN : R2 := fun x y H Q => y = .non ∧ Q (.bl (decide (x = .non))) H
def rNotN : R2 := fun x y H Q => y = .non ∧ Q (.bl (!decide (x = .non))) H
theorem op_isU : OpR X (compareOp .Is) rIsN := op_isN
theorem op_nisU : OpR X (compareOp .IsNot) rNotN := op_notN
/-- one sign in a text | a flat thing in a list or tuple -/
def rInS : R2 := fun x y H Q => ∃ (c : Nat) (z : Str), x = .str ⟨#[c]⟩ ∧ y = .str z ∧ Q (.bl (decide (c ∈ z.cps.toList))) H
def rInU (K : PySem.W.Frag) : R2 := fun x y H Q => rInS x y H Q ∨ rIn K false x y H Q
theorem op_inU : OpR X (compareOp .In) (rInU X.K) := op_in_sign.or op_in_seq
def rNiS : R2 := fun x y H Q => ∃ (c : Nat) (z : Str), x = .str ⟨#[c]⟩ ∧ y = .str z ∧ Q (.bl (!decide (c ∈ z.cps.toList))) H
def rNiU (K : PySem.W.Frag) : R2 := fun x y H Q => rNiS x y H Q ∨ rIn K true x y H Q
theorem op_niU : OpR X (compareOp .NotIn) (rNiU X.K) := op_notIn_sign.or op_notIn_seq
def rSlU (K : PySem.W.Frag) : V → Option Int → Option Int → Hp → VK → Prop := fun x lo hi H Q => rSlS x lo hi H Q ∨ (rSlL K x lo hi H Q ∨ rSlT K x lo hi H Q)
theorem sl_U : SlR X (rSlU X.K) := sl_str.or (sl_list.or sl_tup)
def rLenU (K : PySem.W.Frag) : List V → Hp → VK → Prop := fun xs H Q => ∃ x n, xs = [x] ∧ LenV K x H n ∧ Q (.int n) H
theorem call_lenU : CallR X (.builtin "len") (rLenU X.K) := call_len
def rAbs : List V → Hp → VK → Prop := fun xs H Q => ∃ i, xs = [.int i] ∧ Q (.int (if i < 0 then -i else i)) H
theorem call_absU : CallR X (.builtin "abs") rAbs := call_abs
def rMin2 : List V → Hp → VK → Prop := fun xs H Q => ∃ i j, xs = [.int i, .int j] ∧ Q (.int (if j < i then j else i)) H
def rMax2 : List V → Hp → VK → Prop := fun xs H Q => ∃ i j, xs = [.int i, .int j] ∧ Q (.int (if j > i then j else i)) H
theorem call_minU (hc : X.calm = true) : CallR X (.builtin "min") rMin2 := call_min2 hc
theorem call_maxU (hc : X.calm = true) : CallR X (.builtin "max") rMax2 := call_max2 hc
def rIntN : List V → Hp → VK → Prop := fun xs H Q => (∃ i, xs = [.int i] ∧ Q (.int i) H) ∨ ∃ k, xs = [.bl k] ∧ Q (.int (if k then 1 else 0)) H
def rIntS : List V → Hp → VK → Prop := fun xs H Q => ∃ a n, xs = [.str a] ∧ PySem.intText? a = some n ∧ a.length ≤ 640 ∧ Q (.int n) H
def rIntU : List V → Hp → VK → Prop := fun xs H Q => rIntN xs H Q ∨ rIntS xs H Q
theorem call_intU : CallR X (.type "int") rIntU := call_int1.or call_int_str
def rStrI : List V → Hp → VK → Prop := fun xs H Q => ∃ i, xs = [.int i] ∧ i.natAbs.log2 < 1920 ∧ Q (.str (toString i)) H
theorem call_strU : CallR X (.type "str") rStrI := call_str_int
end
/-! ### a def of the text, as callers know it -/
structure Fn (P : Program) (w : World) (K : PySem.W.Frag) (mg : Str → Option Value) (base : Heap) (k : Nat) (x : Str) (ps : List Str) (sp : Sp) : Prop where
  ex : ∃ f fd, FnOk P w K mg base (L2.CX P w) k f fd ps sp ∧ mg x = some (.ref f) ∧ PySem.W.keepIn K (.ref f) = true ∧ Binds K fd ps []
section
variable {X : Cx} {k j : Nat} {x : Str} {ps : List Str} {sp : Sp} {p pos : Pos} {e : Expr} {es : List Expr} {t : TA} {E : XK}
/-- f(e, ..) that lets nothing out -/
theorem pe_fn (G : Fn X.prog X.w X.K X.mg X.base k x ps sp) (hr : Room j X.A) (ha : PA X (e :: es) t) (hk : k ≤ j := by decide) (hg : Gl X x := by rfl) (hdb : (x == ("__debug__" : Str)) = false := by decide)
    (he : starEach (e :: es) X.env = (false, eval e X.env) :: starEach es X.env := by rfl) (hpl : (backTo pos (starEach es X.env)).any (·.1) = false := by rfl) :
    PE X (.Call (.Name x p) (e :: es) [] pos) (tCall sp [] E0 t) := by
  obtain ⟨f, fd, F, m, kp, b⟩ := G.ex
  exact pe_call F (hr.mono hk) hg m kp b .nil passL ha hdb he hpl
/-- f(e, ..), what it lets out leaves this def, too -/
theorem pe_fnE (G : Fn X.prog X.w X.K X.mg X.base k x ps sp) (hr : Room j X.A) (ha : PA X (e :: es) t) (hx : Passes (L2.CX X.prog X.w) X E) (hk : k ≤ j := by decide) (hg : Gl X x := by rfl) (hdb : (x == ("__debug__" : Str)) = false := by decide)
    (he : starEach (e :: es) X.env = (false, eval e X.env) :: starEach es X.env := by rfl) (hpl : (backTo pos (starEach es X.env)).any (·.1) = false := by rfl) :
    PE X (.Call (.Name x p) (e :: es) [] pos) (tCall sp [] E t) := by
  obtain ⟨f, fd, F, m, kp, b⟩ := G.ex
  exact pe_call F (hr.mono hk) hg m kp b .nil hx ha hdb he hpl
/-- f(e, ..) within a try's body -/
theorem pe_fnS {W : WX} (G : Fn X.prog X.w X.K X.mg X.base k x ps sp) (hr : Room j X.A) (tk : Takes X W) (ha : PA X (e :: es) t) (hk : k ≤ j := by decide) (hg : Gl X x := by rfl) (hdb : (x == ("__debug__" : Str)) = false := by decide)
    (he : starEach (e :: es) X.env = (false, eval e X.env) :: starEach es X.env := by rfl) (hpl : (backTo pos (starEach es X.env)).any (·.1) = false := by rfl) :
    PE X (.Call (.Name x p) (e :: es) [] pos) (tCallS sp (WE W) t) := by
  obtain ⟨f, fd, F, m, kp, b⟩ := G.ex
  exact pe_callS F (hr.mono hk) hg m kp b (fun σ => passAt tk σ) ha hdb he hpl
theorem passE {E₁ : Value → Shared → Prop} (hs : X.stack = X.env :: X.outer) (hf : X.env.frame = some X.env.locals) (hex : X.ex = [])
    (hx : X.xe = fun e s' => wpAny (model X.prog X.w) X.A (leaving X.env e) (fun _ s'' => L2.CX X.prog X.w X.outer X.H_0 X.s_0 E e s'') E₁ s') : Passes (L2.CX X.prog X.w) X E :=
  passes_call (takes_of hs hf hex hx) fun _ _ _ _ h => h
/-- a name of the module that holds an int, a text -/
theorem pe_gi {i : Int} (hm : ∃ t, X.mg x = some (.int i t)) (hg : Gl X x := by rfl) (hdb : (x == ("__debug__" : Str)) = false := by decide) : PE X (.Name x pos) (tC (.int i)) := by
  obtain ⟨t, hm⟩ := hm
  exact pe_glob hg hm ⟨_, rfl⟩ hdb
theorem pe_gs {z : Str} (hm : ∃ t, X.mg x = some (.str z t)) (hg : Gl X x := by rfl) (hdb : (x == ("__debug__" : Str)) = false := by decide) : PE X (.Name x pos) (tC (.str z)) := by
  obtain ⟨t, hm⟩ := hm
  exact pe_glob hg hm ⟨_, rfl⟩ hdb
/-- a built-in class as a value -/
theorem pe_ty {n : String} (hm : X.mg x = none) (hv : bootBuiltins x = some (.type n)) (hg : Gl X x := by rfl) (hn : x ≠ "__name__" := by decide) (hdb : (x == ("__debug__" : Str)) = false := by decide) : PE X (.Name x pos) (tC (.ty n)) :=
  pe_bltn hg hm hv rfl hn hdb
end
/-! ### steps: what a reading asks, by its head -/
section
variable {K : PySem.W.Frag} {σ : L2.St} {H : Hp} {ta tb tc te tx : TE} {t u : TT} {x y z v : V} {r : R2} {Q : VK} {D : Ends} {tu tw tz : TS} {g : TG} {k : Nat} {l : TA} {T : V → Prop}
theorem g_var {i : Nat} (h : σ[i]? = some (some v)) (q : Q v H) : tVar i σ H Q := ⟨v, h, q⟩
theorem g_c (q : Q v H) : tC v σ H Q := q
theorem g_op (h : ta σ H fun x H1 => tb σ H1 fun y H2 => r x y H2 Q) : tOp r ta tb σ H Q := h
theorem g_un {r : V → Hp → VK → Prop} (h : ta σ H fun x H1 => r x H1 Q) : tUn r ta σ H Q := h
theorem g_I0 {f : Int → Int → V} {i j : Int} (q : Q (f i j) H) : rI0 f (.int i) (.int j) H Q := ⟨i, j, rfl, rfl, q⟩
theorem g_I {C : Int → Int → Prop} {f : Int → Int → V} {i j : Int} (hc : C i j) (q : Q (f i j) H) : rI C f (.int i) (.int j) H Q := ⟨i, j, rfl, rfl, hc, q⟩
theorem g_U {f : Int → V} {i : Int} (q : Q (f i) H) : rU f (.int i) H Q := ⟨i, rfl, q⟩
theorem g_addI {i j : Int} (q : Q (.int (i + j)) H) : rAddU (.int i) (.int j) H Q := .inl ⟨i, j, rfl, rfl, q⟩
theorem g_addS {i j : Str} (hl : i.length + j.length ≤ sizeLine) (q : Q (.str (i ++ j)) H) : rAddU (.str i) (.str j) H Q := .inr ⟨i, j, rfl, rfl, hl, q⟩
theorem g_isN (q : Q (.bl (decide (x = .non))) H) : rIsN x .non H Q := ⟨rfl, q⟩
theorem g_notN (q : Q (.bl (!decide (x = .non))) H) : rNotN x .non H Q := ⟨rfl, q⟩
theorem g_isN1 (q : Q (.bl true) H) : rIsN .non .non H Q := ⟨rfl, q⟩
theorem g_notN1 (q : Q (.bl false) H) : rNotN .non .non H Q := ⟨rfl, q⟩
theorem g_isNr {a : Addr} (q : Q (.bl false) H) : rIsN (.ref a) .non H Q := ⟨rfl, by rw [decide_eq_false (fun z => by cases z)]; exact q⟩
theorem g_notNr {a : Addr} (q : Q (.bl true) H) : rNotN (.ref a) .non H Q := ⟨rfl, by rw [decide_eq_false (fun z => by cases z)]; exact q⟩
theorem dI {i j : Int} : decide (V.int i = V.int j) = decide (i = j) := by
  by_cases h : i = j
  · rw [h, decide_eq_true rfl, decide_eq_true rfl]
  · rw [decide_eq_false h, decide_eq_false fun z => h (V.int.inj z)]
theorem dS {i j : Str} : decide (V.str i = V.str j) = decide (i = j) := by
  by_cases h : i = j
  · rw [h, decide_eq_true rfl, decide_eq_true rfl]
  · rw [decide_eq_false h, decide_eq_false fun z => h (V.str.inj z)]
theorem g_eqII {i j : Int} (q : Q (.bl (decide (i = j))) H) : rEqU K (.int i) (.int j) H Q := .inl ⟨rfl, by rw [dI]; exact q⟩
theorem g_neII {i j : Int} (q : Q (.bl (!decide (i = j))) H) : rNeU K (.int i) (.int j) H Q := .inl ⟨rfl, by rw [dI]; exact q⟩
theorem g_eqSS {i j : Str} (q : Q (.bl (decide (i = j))) H) : rEqU K (.str i) (.str j) H Q := .inl ⟨rfl, by rw [dS]; exact q⟩
theorem g_neSS {i j : Str} (q : Q (.bl (!decide (i = j))) H) : rNeU K (.str i) (.str j) H Q := .inl ⟨rfl, by rw [dS]; exact q⟩
theorem g_eqD {d e : PyData} (hd : Dp K H x d) (he : Dp K H y e) (sd : SeqAt.shaped d = true) (se : SeqAt.shaped e = true) (q : Q (.bl (PyData.eqv d e)) H) : rEqU K x y H Q := .inr ⟨d, e, hd, he, sd, se, q⟩
theorem g_neD {d e : PyData} (hd : Dp K H x d) (he : Dp K H y e) (sd : SeqAt.shaped d = true) (se : SeqAt.shaped e = true) (q : Q (.bl (!PyData.eqv d e)) H) : rNeU K x y H Q := .inr ⟨d, e, hd, he, sd, se, q⟩
theorem g_inS {c : Nat} {z : Str} (q : Q (.bl (decide (c ∈ z.cps.toList))) H) : rInU K (.str ⟨#[c]⟩) (.str z) H Q := .inl ⟨c, z, rfl, rfl, q⟩
theorem g_niS {c : Nat} {z : Str} (q : Q (.bl (!decide (c ∈ z.cps.toList))) H) : rNiU K (.str ⟨#[c]⟩) (.str z) H Q := .inl ⟨c, z, rfl, rfl, q⟩
theorem g_inT {p : Addr} {xs : List V} (h : SqT K H p xs) (hx : flatV x = true) (ha : xs.all flatV = true) (q : Q (.bl (inV x xs)) H) : rInU K x (.ref p) H Q := .inr ⟨p, xs, rfl, .inr h, hx, ha, q⟩
theorem g_inL {p : Addr} {xs : List V} (h : SqL K H p xs) (hx : flatV x = true) (ha : xs.all flatV = true) (q : Q (.bl (inV x xs)) H) : rInU K x (.ref p) H Q := .inr ⟨p, xs, rfl, .inl h, hx, ha, q⟩
theorem g_and (h : ta σ H fun x H1 => ∃ c, x = .bl c ∧ if c = true then tb σ H1 Q else Q (.bl false) H1) : tAndV ta tb σ H Q := h
theorem g_or (h : ta σ H fun x H1 => ∃ c, x = .bl c ∧ if c = true then Q (.bl true) H1 else tb σ H1 Q) : tOrV ta tb σ H Q := h
theorem g_not (h : ta σ H fun x H1 => ∃ c, x = .bl c ∧ Q (.bl (!c)) H1) : tNotV ta σ H Q := h
theorem g_if (h : t σ H fun c H1 => if c = true then ta σ H1 Q else tb σ H1 Q) : tIf t ta tb σ H Q := h
theorem g_bl {R : Bool → Prop} {c : Bool} (h : R c) : ∃ d, V.bl c = .bl d ∧ R d := ⟨c, rfl, h⟩
theorem g_cons {R : List V → Hp → Prop} (h : ta σ H fun x H1 => l σ H1 fun xs H2 => R (x :: xs) H2) : tCons ta l σ H R := h
theorem g_nil {R : List V → Hp → Prop} (h : R [] H) : tNil σ H R := h
theorem g_CB {r : List V → Hp → VK → Prop} (h : l σ H fun xs H1 => r xs H1 Q) : tCB r l σ H Q := h
theorem g_call {sp : Sp} {E : XK} (h : l σ H fun vs H1 => sp (vs ++ []) H1 Q E) : tCall sp [] E l σ H Q := h
theorem g_callS {sp : Sp} {E : L2.St → XK} (h : l σ H fun vs H1 => sp vs H1 Q (E σ)) : tCallS sp E l σ H Q := h
theorem g_tup (h : l σ H fun xs H1 => xs.length ≤ sizeLine ∧ ∀ p, H1 p = none → Q (.ref p) (upd H1 p (.tup xs))) : tTup l σ H Q := h
theorem g_seq (h : tu { D with nx := tw D } σ H) : tSeq tu tw D σ H := h
theorem g_asg (h : te σ H fun x H1 => g x σ H1 D.nx) : tAsg te g D σ H := h
theorem g_name {i : Nat} {R : L2.St → Hp → Prop} (q : R (σ.set i (some v)) H) : gName i v σ H R := q
theorem g_ret (h : te σ H D.rt) : tRet te D σ H := h
theorem g_ifS (h : t σ H fun b H1 => if b = true then tu D σ H1 else tw D σ H1) : tIfS t tu tw D σ H := h
theorem g_test {R : Bool → Hp → Prop} (h : te σ H fun x H' => ∃ k, x = .bl k ∧ R k H') : tTest te σ H R := h
theorem g_B {R : Bool → Hp → Prop} (h : te σ H fun x H' => ∃ k, x = .bl k ∧ R k H') : tB te σ H R := h
theorem g_tand {R : Bool → Hp → Prop} (h : t σ H fun b H1 => if b = true then u σ H1 R else R false H1) : tAnd t u σ H R := h
theorem g_tor {R : Bool → Hp → Prop} (h : t σ H fun b H1 => if b = true then R true H1 else u σ H1 R) : tOr t u σ H R := h
theorem g_next (h : D.nx σ H) : tNext D σ H := h
theorem g_drop (h : te σ H fun _ H1 => D.nx σ H1) : tDrop te D σ H := h
theorem g_retN (h : D.rt .non H) : tRetN D σ H := h
theorem g_lst (h : l σ H fun xs H1 => xs.length ≤ sizeLine ∧ ∀ p, H1 p = none → Q (.ref p) (upd H1 p (.lst xs))) : tLst l σ H Q := h
theorem g_par {i j : Nat} (h : l σ H fun vs H1 => ∃ v w, vs = [v, w] ∧ D.nx ((σ.set i (some v)).set j (some w)) H1) : tPar i j l D σ H := h
theorem g_par2 {R : V → V → Prop} (h : R x y) : ∃ v w, ([x, y] : List V) = [v, w] ∧ R v w := ⟨x, y, rfl, h⟩
theorem g_new {R : Addr → Prop} {n : Nat} (hn : n ≤ sizeLine) (h : ∀ p, R p) : n ≤ sizeLine ∧ ∀ p, R p := ⟨hn, h⟩
theorem g_aug {i : Nat} {f : Int → Int → Int} {a : Int} (h : σ[i]? = some (some (.int a))) (q : te σ H fun y H1 => ∃ b, y = .int b ∧ D.nx (σ.set i (some (.int (f a b)))) H1) : tAug i te (ipI f) D σ H :=
  ⟨.int a, h, by
    show te σ H fun y H1 => ∃ i' j, V.int a = .int i' ∧ y = .int j ∧ D.nx (σ.set i (some (.int (f i' j)))) H1
    have e : (fun (y : V) (H1 : Hp) => ∃ i' j, V.int a = .int i' ∧ y = .int j ∧ D.nx (σ.set i (some (.int (f i' j)))) H1) = fun y H1 => ∃ b, y = .int b ∧ D.nx (σ.set i (some (.int (f a b)))) H1 := by
      funext y H1
      refine propext ⟨fun ⟨i', j, e1, e2, q⟩ => ?_, fun ⟨b, e2, q⟩ => ⟨a, b, rfl, e2, q⟩⟩
      cases e1
      exact ⟨j, e2, q⟩
    rw [e]
    exact q⟩
theorem g_int {R : Int → Prop} {i : Int} (h : R i) : ∃ b, V.int i = .int b ∧ R b := ⟨i, rfl, h⟩
theorem g_str {R : Str → Prop} {i : Str} (h : R i) : ∃ b, V.str i = .str b ∧ R b := ⟨i, rfl, h⟩
theorem g_abs {i : Int} (q : Q (.int (i.natAbs : Nat)) H) : rAbs [.int i] H Q := ⟨i, rfl, by rw [show (if i < 0 then -i else i) = ((i.natAbs : Nat) : Int) by split <;> omega]; exact q⟩
theorem g_min {i j : Int} (q : Q (.int (if j < i then j else i)) H) : rMin2 [.int i, .int j] H Q := ⟨i, j, rfl, q⟩
theorem g_max {i j : Int} (q : Q (.int (if j > i then j else i)) H) : rMax2 [.int i, .int j] H Q := ⟨i, j, rfl, q⟩
theorem g_intI {i : Int} (q : Q (.int i) H) : rIntU [.int i] H Q := .inl (.inl ⟨i, rfl, q⟩)
theorem g_intB {b : Bool} (q : Q (.int (if b then 1 else 0)) H) : rIntU [.bl b] H Q := .inl (.inr ⟨b, rfl, q⟩)
theorem g_intS {z : Str} {n : Int} (h : PySem.intText? z = some n) (hl : z.length ≤ 640) (q : Q (.int n) H) : rIntU [.str z] H Q := .inr ⟨z, n, rfl, h, hl, q⟩
theorem g_strI {i : Int} (h : i.natAbs.log2 < 1920) (q : Q (.str (toString i)) H) : rStrI [.int i] H Q := ⟨i, rfl, h, q⟩
theorem g_lenS {z : Str} (h : z.length ≤ sizeLine) (q : Q (.int z.length) H) : rLenU K [.str z] H Q := ⟨_, _, rfl, ⟨h, rfl⟩, q⟩
theorem g_lenL {p : Addr} {xs : List V} (h : SqL K H p xs) (q : Q (.int xs.length) H) : rLenU K [.ref p] H Q := ⟨_, _, rfl, .inl ⟨xs, h, rfl⟩, q⟩
theorem g_lenT {p : Addr} {xs : List V} (h : SqT K H p xs) (q : Q (.int xs.length) H) : rLenU K [.ref p] H Q := ⟨_, _, rfl, .inr ⟨xs, h, rfl⟩, q⟩
theorem g_ixL {p : Addr} {xs : List V} {i : Int} (h : SqL K H p xs) (e : atI xs i = some v) (q : Q v H) : rIx K (.ref p) (.int i) H Q := .inl ⟨p, xs, i, v, rfl, rfl, h, e, q⟩
theorem g_ixT {p : Addr} {xs : List V} {i : Int} (h : SqT K H p xs) (e : atI xs i = some v) (q : Q v H) : rIx K (.ref p) (.int i) H Q := .inr (.inl ⟨p, xs, i, v, rfl, rfl, h, e, q⟩)
theorem g_ixS {z : Str} {i : Int} {c : Nat} (hl : z.length ≤ sizeLine) (e : atI z.cps.toList i = some c) (q : Q (.str ⟨#[c]⟩) H) : rIx K (.str z) (.int i) H Q := .inr (.inr ⟨z, i, c, rfl, rfl, hl, e, q⟩)
theorem g_sl {r : V → Option Int → Option Int → Hp → VK → Prop} {tl th : TO} (h : te σ H fun x H1 => tl σ H1 fun l H2 => th σ H2 fun u H3 => r x l u H3 Q) : tSl r te tl th σ H Q := h
theorem g_po0 {R : Option Int → Hp → Prop} (h : R none H) : tNoPart σ H R := h
theorem g_po1 {R : Option Int → Hp → Prop} (h : te σ H fun x H1 => ∃ i, x = .int i ∧ R (some i) H1) : tPart te σ H R := h
theorem g_slS {z : Str} {lo hi : Option Int} (hl : z.length ≤ sizeLine) (q : Q (.str (cutS z lo hi)) H) : rSlU K (.str z) lo hi H Q := .inl ⟨z, rfl, hl, q⟩
theorem g_slL {p : Addr} {xs : List V} {lo hi : Option Int} (h : SqL K H p xs) (q : ∀ q, H q = none → Q (.ref q) (upd H q (.lst (cutV xs lo hi)))) : rSlU K (.ref p) lo hi H Q := .inr (.inl ⟨p, xs, rfl, h, q⟩)
theorem g_T {A B : Prop} (h : A) : if true = true then A else B := iteT h
theorem g_F {A B : Prop} (h : B) : if false = true then A else B := iteF h
theorem g_nT {A B : Prop} (h : B) : if (!true) = true then A else B := iteF h
theorem g_nF {A B : Prop} (h : A) : if (!false) = true then A else B := iteT h
theorem g_ite {p A B : Prop} [Decidable p] (h1 : p → A) (h2 : ¬ p → B) : if decide p = true then A else B := by
  by_cases h : p
  · rw [decide_eq_true h]; exact iteT (h1 h)
  · rw [decide_eq_false h]; exact iteF (h2 h)
theorem g_niteD {p A B : Prop} [Decidable p] (h1 : ¬ p → A) (h2 : p → B) : if (!decide p) = true then A else B := by
  by_cases h : p
  · rw [decide_eq_true h]; exact iteF (h2 h)
  · rw [decide_eq_false h]; exact iteT (h1 h)
theorem g_yes {p A B : Prop} [Decidable p] (h : p) (a : A) : if decide p = true then A else B := by rw [decide_eq_true h]; exact iteT a
theorem g_no {p A B : Prop} [Decidable p] (h : ¬ p) (a : B) : if decide p = true then A else B := by rw [decide_eq_false h]; exact iteF a
theorem g_nyes {p A B : Prop} [Decidable p] (h : ¬ p) (a : A) : if (!decide p) = true then A else B := by rw [decide_eq_false h]; exact iteT a
theorem g_nno {p A B : Prop} [Decidable p] (h : p) (a : B) : if (!decide p) = true then A else B := by rw [decide_eq_true h]; exact iteF a
theorem g_iteB {A B : Prop} {b : Bool} (h1 : b = true → A) (h2 : b = false → B) : if b = true then A else B := by
  cases b with
  | true => exact iteT (h1 rfl)
  | false => exact iteF (h2 rfl)
theorem g_niteB {A B : Prop} {b : Bool} (h1 : b = false → A) (h2 : b = true → B) : if (!b) = true then A else B := by
  cases b with
  | true => exact iteF (h2 rfl)
  | false => exact iteT (h1 rfl)
theorem g_byes {A B : Prop} {b : Bool} (h : b = true) (a : A) : if b = true then A else B := by rw [h]; exact iteT a
theorem g_bno {A B : Prop} {b : Bool} (h : b = false) (a : B) : if b = true then A else B := by rw [h]; exact iteF a
theorem g_nbyes {A B : Prop} {b : Bool} (h : b = false) (a : A) : if (!b) = true then A else B := by rw [h]; exact iteT a
theorem g_nbno {A B : Prop} {b : Bool} (h : b = true) (a : B) : if (!b) = true then A else B := by rw [h]; exact iteF a
theorem g_btru {R : Bool → Prop} {k : Bool} (q : R k) : ∃ j, TruV K (.bl k) H j ∧ R j := ⟨k, rfl, q⟩
theorem g_isi {x : V} {t : Value} {n : String} {b : Bool} (ty : TyX K H x t) (e : PySem.W.kitOne K t (.type n) = some b) (q : Q (.bl b) H) : rIsi K [x, .ty n] H Q := ⟨x, .ty n, t, _, b, rfl, .ty n, ty, e, q⟩
theorem g_tnot {R : Bool → Hp → Prop} (h : t σ H fun b H1 => R (!b) H1) : tNot t σ H R := h
end
/-! ### heaps that only grow, but for one object -/
theorem Same.new {H : Hp} {p : Addr} {o : HO} (h : H p = none) : Same H (upd H p o) := fun a u e => by
  rw [upd_ne (ne_of_none e h)]
  exact e
theorem Same.seqT {K : PySem.W.Frag} {H H' : Hp} {a : Addr} {xs : List V} (e : Same H H') (h : SqT K H a xs) : SqT K H' a xs := by
  rcases h with (h | ⟨o, h⟩) | h
  · exact .inl (.inl (e _ _ h))
  · exact .inl (.inr ⟨o, e _ _ h⟩)
  · exact .inr h
theorem seqL_at {K : PySem.W.Frag} {H H' : Hp} {a : Addr} {xs : List V} (h : SqL K H a xs) (e : Same H H') : SqL K H' a xs := e.seq h
theorem seqT_at {K : PySem.W.Frag} {H H' : Hp} {a : Addr} {xs : List V} (h : SqT K H a xs) (e : Same H H') : SqT K H' a xs := Same.seqT e h
theorem tup_at {K : PySem.W.Frag} {H H' : Hp} {a : Addr} {xs : List V} (h : H a = some (.tup xs)) (e : Same H H') : SqT K H' a xs := .inl (.inl (e _ _ h))
theorem lst_at {K : PySem.W.Frag} {H H' : Hp} {a : Addr} {xs : List V} (h : H a = some (.lst xs)) (e : Same H H') : SqL K H' a xs := .inl (.inl (e _ _ h))
mutual
theorem Same.dp {K : PySem.W.Frag} {H H' : Hp} (e : Same H H') : ∀ {x : V} {d : PyData}, Dp K H x d → Dp K H' x d
  | _, _, .non => .non
  | _, _, .bl b => .bl b
  | _, _, .int i => .int i
  | _, _, .str x => .str x
  | _, _, .lst h r => .lst (e.seq h) (Same.dps e r)
  | _, _, .tup h r => .tup (Same.seqT e h) (Same.dps e r)
theorem Same.dps {K : PySem.W.Frag} {H H' : Hp} (e : Same H H') : ∀ {xs : List V} {ds : List PyData}, DpAll K H xs ds → DpAll K H' xs ds
  | _, _, .nil => .nil
  | _, _, .cons h r => .cons (Same.dp e h) (Same.dps e r)
end
theorem dp_at {K : PySem.W.Frag} {H H' : Hp} {x : V} {d : PyData} (h : Dp K H x d) (e : Same H H') : Dp K H' x d := Same.dp e h
/-- all but what stands at p -/
def dl (H : Hp) (p : Addr) : Hp := fun b => if b = p then none else H b
theorem dl_sub {H : Hp} {p : Addr} : Same (dl H p) H := fun b o h => by
  unfold dl at h
  split at h
  · cases h
  · exact h
theorem dl_of {H H' : Hp} {p : Addr} (e : Same H H') : Same (dl H p) H' := dl_sub.trans e
theorem dl_both {H H' : Hp} {p : Addr} (e : Same (dl H p) H') : Same (dl H p) (dl H' p) := fun b o h => by
  have hb : b ≠ p := fun z => by
    unfold dl at h
    rw [if_pos z] at h
    cases h
  unfold dl
  rw [if_neg hb]
  exact e b o h
theorem dl_ne {H : Hp} {a p : Addr} (h : a ≠ p) : dl H p a = H a := if_neg h
theorem dl_mut {H H' : Hp} {p : Addr} {o : HO} (e : Same (dl H p) H') : Same (dl H p) (upd H' p o) := fun b u h => by
  have hb : b ≠ p := fun z => by
    unfold dl at h
    rw [if_pos z] at h
    cases h
  rw [upd_ne hb]
  exact e b u h
theorem dl_tup {H : Hp} {a p : Addr} {xs : List V} {ys : List V} (h : H a = some (.tup xs)) (hp : H p = some (.lst ys)) : dl H p a = some (.tup xs) := by
  rw [dl_ne (ne_of h hp (by intro z; cases z))]
  exact h
def RetV (v : V) (H : Hp) (Q : VK) : Prop := ∀ H', Same H H' → Q v H'
/-- what an object's kind is -/
inductive Kn where
  | non | bl | int | str | lst | tup | dic
abbrev Kn.name : Kn → String
  | .non => "NoneType"
  | .bl => "bool"
  | .int => "int"
  | .str => "str"
  | .lst => "list"
  | .tup => "tuple"
  | .dic => "dict"
def Kn.is : Kn → Kn → Bool
  | .non, .non => true
  | .bl, .bl => true
  | .bl, .int => true
  | .int, .int => true
  | .str, .str => true
  | .lst, .lst => true
  | .tup, .tup => true
  | .dic, .dic => true
  | _, _ => false
theorem Kn.kit : ∀ k n : Kn, n.name ≠ "NoneType" → kitB k.name n.name = some (k.is n) := by
  intro k n
  cases k <;> cases n <;> decide +kernel
theorem ty_int {K : PySem.W.Frag} {H : Hp} {i : Int} : TyX K H (.int i) (.type Kn.int.name) := .base (.int i)
theorem ty_bl {K : PySem.W.Frag} {H : Hp} {b : Bool} : TyX K H (.bl b) (.type Kn.bl.name) := .base (.bl b)
theorem ty_str {K : PySem.W.Frag} {H : Hp} {x : Str} : TyX K H (.str x) (.type Kn.str.name) := .base (.str x)
theorem ty_non {K : PySem.W.Frag} {H : Hp} : TyX K H .non (.type Kn.non.name) := .base .non
theorem ty_tup {K : PySem.W.Frag} {H : Hp} {a : Addr} {xs : List V} (h : SqT K H a xs) : TyX K H (.ref a) (.type Kn.tup.name) := by
  rcases h with (h | ⟨o, h⟩) | ⟨o, its, n, hk, hc, _⟩
  · exact .base (.tup h)
  · exact .fTuple h
  · exact .kTuple hk hc
theorem ty_lst {K : PySem.W.Frag} {H : Hp} {a : Addr} {xs : List V} (h : SqL K H a xs) : TyX K H (.ref a) (.type Kn.lst.name) := by
  rcases h with (h | ⟨o, h⟩) | ⟨o, its, n, hk, hc, _⟩
  · exact .base (.lst h)
  · exact .base (.frz h)
  · exact .kList hk hc
def kindD : PyData → Kn
  | .none => .non
  | .bool _ => .bl
  | .int _ => .int
  | .str _ => .str
  | .list _ => .lst
  | .tuple _ => .tup
  | .dict _ => .dic
theorem ty_dp {K : PySem.W.Frag} {H : Hp} {x : V} {d : PyData} (h : Dp K H x d) : TyX K H x (.type (kindD d).name) := by
  cases h with
  | non => exact ty_non
  | bl b => exact ty_bl
  | int i => exact ty_int
  | str x => exact ty_str
  | lst h r => exact ty_lst h
  | tup h r => exact ty_tup h
section
variable {K : PySem.W.Frag} {H : Hp} {Q : VK} {x : V} {k : Kn} {b : Bool}
theorem isi_n (n : Kn) (hn : n.name ≠ "NoneType") (ty : TyX K H x (.type k.name)) (h : k.is n = b) (q : Q (.bl b) H) : rIsi K [x, .ty n.name] H Q := g_isi ty (kit_ty (by rw [Kn.kit k n hn, h])) q
theorem g_intT (ty : TyX K H x (.type k.name)) (h : k.is .int = true) (q : Q (.bl true) H) : rIsi K [x, .ty "int"] H Q := isi_n .int (by decide) ty h q
theorem g_intF (ty : TyX K H x (.type k.name)) (h : k.is .int = false) (q : Q (.bl false) H) : rIsi K [x, .ty "int"] H Q := isi_n .int (by decide) ty h q
theorem g_boolT (ty : TyX K H x (.type k.name)) (h : k.is .bl = true) (q : Q (.bl true) H) : rIsi K [x, .ty "bool"] H Q := isi_n .bl (by decide) ty h q
theorem g_boolF (ty : TyX K H x (.type k.name)) (h : k.is .bl = false) (q : Q (.bl false) H) : rIsi K [x, .ty "bool"] H Q := isi_n .bl (by decide) ty h q
theorem g_strT (ty : TyX K H x (.type k.name)) (h : k.is .str = true) (q : Q (.bl true) H) : rIsi K [x, .ty "str"] H Q := isi_n .str (by decide) ty h q
theorem g_strF (ty : TyX K H x (.type k.name)) (h : k.is .str = false) (q : Q (.bl false) H) : rIsi K [x, .ty "str"] H Q := isi_n .str (by decide) ty h q
theorem g_listT (ty : TyX K H x (.type k.name)) (h : k.is .lst = true) (q : Q (.bl true) H) : rIsi K [x, .ty "list"] H Q := isi_n .lst (by decide) ty h q
theorem g_listF (ty : TyX K H x (.type k.name)) (h : k.is .lst = false) (q : Q (.bl false) H) : rIsi K [x, .ty "list"] H Q := isi_n .lst (by decide) ty h q
theorem g_tupleT (ty : TyX K H x (.type k.name)) (h : k.is .tup = true) (q : Q (.bl true) H) : rIsi K [x, .ty "tuple"] H Q := isi_n .tup (by decide) ty h q
theorem g_tupleF (ty : TyX K H x (.type k.name)) (h : k.is .tup = false) (q : Q (.bl false) H) : rIsi K [x, .ty "tuple"] H Q := isi_n .tup (by decide) ty h q
theorem g_dictT (ty : TyX K H x (.type k.name)) (h : k.is .dic = true) (q : Q (.bl true) H) : rIsi K [x, .ty "dict"] H Q := isi_n .dic (by decide) ty h q
theorem g_dictF (ty : TyX K H x (.type k.name)) (h : k.is .dic = false) (q : Q (.bl false) H) : rIsi K [x, .ty "dict"] H Q := isi_n .dic (by decide) ty h q
end
section
variable {K : PySem.W.Frag} {σ : L2.St} {H : Hp} {Q : VK} {D : Ends}
theorem g_newT {xs : List V} (hn : xs.length ≤ sizeLine) (k : ∀ p H2, H p = none → Same H H2 → H2 p = some (.tup xs) → Q (.ref p) H2) : xs.length ≤ sizeLine ∧ ∀ p, H p = none → Q (.ref p) (upd H p (.tup xs)) :=
  ⟨hn, fun p hp => k p _ hp (Same.new hp) upd_same⟩
theorem g_newL {xs : List V} (hn : xs.length ≤ sizeLine) (k : ∀ p H2, H p = none → Same H H2 → H2 p = some (.lst xs) → Q (.ref p) H2) : xs.length ≤ sizeLine ∧ ∀ p, H p = none → Q (.ref p) (upd H p (.lst xs)) :=
  ⟨hn, fun p hp => k p _ hp (Same.new hp) upd_same⟩
theorem g_newA {R : Addr → Hp → Prop} {o : HO} (k : ∀ p H2, H p = none → Same H H2 → H2 p = some o → R p H2) : ∀ p, H p = none → R p (upd H p o) := fun p hp => k p _ hp (Same.new hp) upd_same
/-- a turn of a while, n the measure ahead of it -/
def WTurn (W : L2.St → Hp → Prop) (m : L2.St → Hp → Nat) (n : Nat) (tb : TS) (D : Ends) (σ : L2.St) (H : Hp) : Prop :=
  ∃ N : L2.St → Hp → Prop, (∀ σ2 H2, N σ2 H2 → ∃ m', m' < n ∧ m σ2 H2 = m' ∧ W σ2 H2) ∧ tb { D with nx := N, ct := N, bk := D.nx } σ H
theorem g_wturn {W : L2.St → Hp → Prop} {m : L2.St → Hp → Nat} {n : Nat} {tb : TS} (h : tb { D with nx := fun σ2 H2 => m σ2 H2 < n ∧ W σ2 H2, ct := fun σ2 H2 => m σ2 H2 < n ∧ W σ2 H2, bk := D.nx } σ H) : WTurn W m n tb D σ H :=
  ⟨_, fun σ2 H2 q => ⟨_, q.1, rfl, q.2⟩, h⟩
theorem g_while {c : TT} {tb : TS} (W : L2.St → Hp → Prop) (m : L2.St → Hp → Nat) (h0 : W σ H)
    (hs : ∀ σ' H', W σ' H' → c σ' H' fun b H1 => if b = true then WTurn W m (m σ' H') tb D σ' H1 else D.nx σ' H1) : tWhile c tb D σ H := by
  refine ⟨fun n σ' H' => m σ' H' = n ∧ W σ' H', ⟨_, rfl, h0⟩, fun n σ' H' h => ?_⟩
  obtain ⟨rfl, hw⟩ := h
  exact hs σ' H' hw
/-- a for over a walk -/
theorem g_for {wi : TI} {g : TG} {tb : TS} {J : It} {n : Nat} {G : Hp → Prop} {Y : Nat → Hp → V → Hp → Prop} (w : Walk J n G Y) (Pv : Nat → L2.St → Hp → Prop) (h0 : Pv 0 σ H) (hG : ∀ i σ H, i ≤ n → Pv i σ H → G H)
    (hs : ∀ i x σ H H', i < n → Pv i σ H → Y i H x H' → g x σ H' fun σ2 H2 => tb { D with nx := Pv (i + 1), ct := Pv (i + 1), bk := D.nx } σ2 H2) (hd : ∀ σ H, Pv n σ H → D.nx σ H) :
    ∃ W : Nat → Nat → L2.St → Hp → Prop, (∃ m, W 0 m σ H) ∧ ∀ i m σ H, W i m σ H →
      (J.stop i H ∧ D.nx σ H) ∨ (J.go i H ∧ ∃ N : L2.St → Hp → Prop, (∀ σ' H', N σ' H' → ∃ m', m' < m ∧ W (i + 1) m' σ' H') ∧ ∀ x H', J.yld i H x H' → g x σ H' fun σ2 H2 => tb { D with nx := N, ct := N, bk := D.nx } σ2 H2) :=
  for_it w Pv h0 hG hs hd
/-- what a for asks, over a walk of n turns -/
theorem g_forW {J : It} {n : Nat} {G : Hp → Prop} {Y : Nat → Hp → V → Hp → Prop} {g : TG} {tb : TS} (w : Walk J n G Y) (Pv : Nat → L2.St → Hp → Prop) (h0 : Pv 0 σ H) (hG : ∀ i σ H, i ≤ n → Pv i σ H → G H)
    (hs : ∀ i x σ H H', i < n → Pv i σ H → Y i H x H' → g x σ H' fun σ2 H2 => tb { D with nx := Pv (i + 1), ct := Pv (i + 1), bk := D.nx } σ2 H2) (hd : ∀ σ H, Pv n σ H → D.nx σ H) :
    (fun (J : It) (H1 : Hp) => ∃ W : Nat → Nat → L2.St → Hp → Prop, (∃ m, W 0 m σ H1) ∧ ∀ i m σ H, W i m σ H →
      (J.stop i H ∧ D.nx σ H) ∨ (J.go i H ∧ ∃ N : L2.St → Hp → Prop, (∀ σ' H', N σ' H' → ∃ m', m' < m ∧ W (i + 1) m' σ' H') ∧ ∀ x H', J.yld i H x H' → g x σ H' fun σ2 H2 => tb { D with nx := N, ct := N, bk := D.nx } σ2 H2)) J H :=
  for_it w Pv h0 hG hs hd
theorem g_rng1 {R : It → Hp → Prop} {ta : TA} (h : ta σ H fun vs H1 => ∃ j : Int, vs = [.int j] ∧ -(2 ^ 62) ≤ j ∧ j < 2 ^ 62 ∧ R (Itr 0 j.toNat) H1) : iRng1 ta σ H R := h
theorem g_rng1i {R : Int → Prop} {j : Int} (h1 : -(2 ^ 62) ≤ j) (h2 : j < 2 ^ 62) (h : R j) : ∃ i : Int, ([.int j] : List V) = [.int i] ∧ -(2 ^ 62) ≤ i ∧ i < 2 ^ 62 ∧ R i := ⟨j, rfl, h1, h2, h⟩
end
/-! ### sides of arithmetic -/
theorem mulL {i j : Int} (h1 : -18446744073709551616 < i) (h2 : i < 18446744073709551616) : IntMulOk i j := CMul.ok (.inl ⟨by simpa using h1, by simpa using h2⟩)
theorem mulR {i j : Int} (h1 : -18446744073709551616 < j) (h2 : j < 18446744073709551616) : IntMulOk i j := CMul.ok (.inr ⟨by simpa using h1, by simpa using h2⟩)
theorem mulB {i j : Int} {a b : Nat} (ha : i.natAbs < 2 ^ a) (hb : j.natAbs < 2 ^ b) (h0 : 0 < a) (h1 : 0 < b) (h : a + b ≤ 1000000) : IntMulOk i j := (wide_mul ha hb h0 h1 h).ok
theorem pyS {i j : Int} (h0 : 0 < j) (h : j < 1073741824) : Builtin.divisionGoesByPylong i j = false := PyProof.noPylong_small (by omega)
theorem pyB {i j : Int} {b : Nat} (hb : j.natAbs < 2 ^ b) (h0 : 0 < b) (h9 : b ≤ 9000) : Builtin.divisionGoesByPylong i j = false := PyProof.noPylong_of_log2 (Nat.lt_of_lt_of_le (PySem.Flt.log2_lt_of h0 hb) h9)
section
variable {H : Hp} {Q : VK} {i j : Int}
theorem g_mul (h : IntMulOk i j) (q : Q (.int (i * j)) H) : rI IntMulOk (fun i j => .int (i * j)) (.int i) (.int j) H Q := ⟨i, j, rfl, rfl, h, q⟩
theorem g_mod (h : 0 < j) (q : Q (.int (i % j)) H) : rI (fun _ j => j ≠ 0) (fun i j => .int (i.fmod j)) (.int i) (.int j) H Q := ⟨i, j, rfl, rfl, by omega, by (show Q (.int (i.fmod j)) H); rw [Int.fmod_eq_emod_of_nonneg _ (by omega)]; exact q⟩
theorem g_fdiv (h : 0 < j) (hp : Builtin.divisionGoesByPylong i j = false) (q : Q (.int (i / j)) H) : rI CDivU (fun i j => .int (i.fdiv j)) (.int i) (.int j) H Q := ⟨i, j, rfl, rfl, ⟨by omega, hp⟩, by (show Q (.int (i.fdiv j)) H); rw [Int.fdiv_eq_ediv_of_nonneg _ (by omega)]; exact q⟩
theorem g_pow {r : Int} (h : 0 ≤ j) (hb : (Builtin.Int.intBits i : Int) * j ≤ 2 ^ 27) (hr : i ^ j.toNat = r) (q : Q (.int r) H) : rI CPowU (fun i j => .int (i ^ j.toNat)) (.int i) (.int j) H Q := ⟨i, j, rfl, rfl, ⟨h, hb⟩, by (show Q (.int (i ^ j.toNat)) H); rw [hr]; exact q⟩
end
/-! ### cuts of texts -/
open TL in
theorem cut_tl (z : Str) (a b : Nat) : tl (cutS z (some (a : Int)) (some (b : Int))) = ((tl z).take b).drop a := by
  have hl : z.length = (tl z).length := len_tl z
  unfold cutS
  rw [tl_mk]
  show List.take (HT.sIx z.length z.length (some (b : Int)) - HT.sIx z.length 0 (some (a : Int))) (List.drop (HT.sIx z.length 0 (some (a : Int))) (tl z)) = _
  rw [HT.sIx_nat, HT.sIx_nat, hl, List.drop_take]
  by_cases h1 : a ≤ (tl z).length
  · rw [show min a (tl z).length = a from Nat.min_eq_left h1]
    by_cases h2 : b ≤ (tl z).length
    · rw [show min b (tl z).length = b from Nat.min_eq_left h2]
    · rw [show min b (tl z).length = (tl z).length from Nat.min_eq_right (by omega)]
      rw [List.take_of_length_le (by rw [List.length_drop]; omega), List.take_of_length_le (by rw [List.length_drop]; omega)]
  · rw [show min a (tl z).length = (tl z).length from Nat.min_eq_right (by omega), List.drop_eq_nil_of_le (Nat.le_refl _), List.drop_eq_nil_of_le (by omega), List.take_nil, List.take_nil]
open TL in
theorem cut_to (z : Str) (b : Nat) : tl (cutS z none (some (b : Int))) = (tl z).take b := by
  have hl : z.length = (tl z).length := len_tl z
  unfold cutS
  rw [tl_mk]
  show List.take (HT.sIx z.length z.length (some (b : Int)) - 0) (List.drop 0 (tl z)) = _
  rw [HT.sIx_nat, hl, Nat.sub_zero, List.drop_zero]
  by_cases h2 : b ≤ (tl z).length
  · rw [Nat.min_eq_left h2]
  · rw [Nat.min_eq_right (by omega), List.take_of_length_le (Nat.le_refl _), List.take_of_length_le (by omega)]
open TL in
theorem cut_from (z : Str) (a : Nat) : tl (cutS z (some (a : Int)) none) = (tl z).drop a := by
  have hl : z.length = (tl z).length := len_tl z
  unfold cutS
  rw [tl_mk]
  show List.take (z.length - HT.sIx z.length 0 (some (a : Int))) (List.drop (HT.sIx z.length 0 (some (a : Int))) (tl z)) = _
  rw [HT.sIx_nat, hl]
  by_cases h1 : a ≤ (tl z).length
  · rw [Nat.min_eq_left h1, List.take_of_length_le (by rw [List.length_drop]; omega)]
  · rw [Nat.min_eq_right (by omega), List.drop_eq_nil_of_le (Nat.le_refl _), List.drop_eq_nil_of_le (by omega), List.take_nil]
theorem tl_one (c : Nat) : TL.tl ⟨#[c]⟩ = [c] := rfl
open TL in
theorem cut1 (z : Str) (s c : Nat) : cutS z (some (s : Int)) (some ((s : Int) + 1)) = ⟨#[c]⟩ ↔ (tl z)[s]? = some c := by
  have e : ((s : Int) + 1) = ((s + 1 : Nat) : Int) := by omega
  rw [e]
  have k : tl (cutS z (some (s : Int)) (some ((s + 1 : Nat) : Int))) = (tl z)[s]?.toList := by
    rw [cut_tl, List.drop_take, show s + 1 - s = 1 by omega]
    cases h : (tl z)[s]? with
    | none =>
      rw [List.drop_eq_nil_of_le (List.getElem?_eq_none_iff.mp h)]
      rfl
    | some d =>
      obtain ⟨hl, hd⟩ := List.getElem?_eq_some_iff.mp h
      rw [List.drop_eq_getElem_cons hl, hd]
      rfl
  constructor
  · intro h
    rw [h] at k
    have k' : [c] = (tl z)[s]?.toList := k
    cases h2 : (tl z)[s]? with
    | none => rw [h2] at k'; cases k'
    | some d => rw [h2] at k'; cases k'; rfl
  · intro h
    refine ext_tl ?_
    rw [k, h]
    rfl
open TL in
theorem cut0 (z : Str) (c : Nat) : cutS z none (some 1) = ⟨#[c]⟩ ↔ (tl z).head? = some c := by
  have k : tl (cutS z none (some 1)) = (tl z).take 1 := cut_to z 1
  constructor
  · intro h
    rw [h] at k
    have k' : [c] = (tl z).take 1 := k
    cases h2 : tl z with
    | nil => rw [h2] at k'; cases k'
    | cons d r => rw [h2] at k'; cases k'; rfl
  · intro h
    refine ext_tl ?_
    rw [k]
    cases h2 : tl z with
    | nil => rw [h2] at h; cases h
    | cons d r => rw [h2] at h; cases h; rfl
theorem fin {Q : VK} {v v' : V} {H : Hp} (q : Q v H) (e : v = v') : Q v' H := e ▸ q
theorem dp_pair_inv {K : PySem.W.Frag} {H : Hp} {x : V} {t b : Int} (h : Dp K H x (.tuple [.int t, .int b])) : ∃ p, x = .ref p ∧ SqT K H p [.int t, .int b] := by
  cases h with
  | tup h r =>
    cases r with
    | cons h0 r =>
      cases r with
      | cons h1 r =>
        cases r
        cases h0
        cases h1
        exact ⟨_, rfl, h⟩
theorem log_of {i : Int} {a : Nat} (h : i.natAbs < 2 ^ a) (h0 : 0 < a) (h9 : a ≤ 1920) : i.natAbs.log2 < 1920 := Nat.lt_of_lt_of_le (PySem.Flt.log2_lt_of h0 h) h9
theorem len_num {i : Int} (h : i.natAbs.log2 < 1920) : (PySem.Str.ofString (toString i)).length ≤ 2000 := by
  have e := PySem.int_text_length_le (k := 1920) (by decide) h
  rw [PySem.ofString_length]
  omega
theorem len_le {n : Nat} (h : n ≤ 16777216) : n ≤ sizeLine := h
theorem len_app (x y : Str) : (x ++ y).length = x.length + y.length := PySem.Str.length_append x y
theorem len_emp : Str.empty.length = 0 := rfl
theorem sget {H H' : Hp} {a : Addr} {o : HO} (h : H a = some o) (e : Same H H') : H' a = some o := e _ _ h
section
variable {X : Cx} {K : PySem.W.Frag}
theorem op_inK (h : X.K = K) : OpR X (compareOp .In) (rInU K) := h ▸ op_inU
theorem op_niK (h : X.K = K) : OpR X (compareOp .NotIn) (rNiU K) := h ▸ op_niU
theorem sl_K (h : X.K = K) : SlR X (rSlU K) := h ▸ sl_U
theorem call_lenK (h : X.K = K) : CallR X (.builtin "len") (rLenU K) := h ▸ call_lenU
theorem lit (n : Nat) : (OfNat.ofNat n : Int) = ((OfNat.ofNat n : Nat) : Int) := rfl
theorem g_powL {H : Hp} {Q : VK} {i j : Int} {n : Nat} (e : j = (n : Int)) (hb : (Builtin.Int.intBits i : Int) * j ≤ 2 ^ 27) (q : Q (.int (i ^ n)) H) : rI CPowU (fun i j => .int (i ^ j.toNat)) (.int i) (.int j) H Q := by
  refine ⟨i, j, rfl, rfl, ⟨?_, hb⟩, ?_⟩
  · rw [e]; omega
  · show Q (.int (i ^ j.toNat)) H
    rw [e, Int.toNat_natCast]; exact q
variable {H : Hp} {R : Hp → Prop} {p : Addr} {a b c v : V} {r : List V}
theorem g_setL0 (h : H p = some (.lst (a :: r))) (q : ∀ H', Same (dl H p) H' → H' p = some (.lst (v :: r)) → R H') : rSetL (.ref p) (.int 0) v H R :=
  ⟨p, _, 0, 0, rfl, rfl, h, by unfold ixN; rw [if_pos (by decide), if_pos (by rw [List.length_cons]; omega)]; rfl, q _ (dl_mut dl_sub) upd_same⟩
theorem g_setL1 (h : H p = some (.lst (a :: b :: r))) (q : ∀ H', Same (dl H p) H' → H' p = some (.lst (a :: v :: r)) → R H') : rSetL (.ref p) (.int 1) v H R :=
  ⟨p, _, 1, 1, rfl, rfl, h, by unfold ixN; rw [if_pos (by decide), if_pos (by simp only [List.length_cons]; omega)]; rfl, q _ (dl_mut dl_sub) upd_same⟩
theorem g_setL2 (h : H p = some (.lst (a :: b :: c :: r))) (q : ∀ H', Same (dl H p) H' → H' p = some (.lst (a :: b :: v :: r)) → R H') : rSetL (.ref p) (.int 2) v H R :=
  ⟨p, _, 2, 2, rfl, rfl, h, by unfold ixN; rw [if_pos (by decide), if_pos (by simp only [List.length_cons]; omega)]; rfl, q _ (dl_mut dl_sub) upd_same⟩
end
open TL in
theorem cut_mem {z : Str} {lo hi : Option Int} {c : Nat} (h : c ∈ tl (cutS z lo hi)) : c ∈ tl z := by
  unfold cutS at h
  rw [tl_mk] at h
  exact List.mem_of_mem_drop (List.mem_of_mem_take h)
open TL in
theorem cut_len {z : Str} {lo hi : Option Int} : (cutS z lo hi).length ≤ z.length := by
  rw [len_tl (cutS z lo hi), len_tl z]
  unfold cutS
  rw [tl_mk, List.length_take, List.length_drop]
  show min _ ((tl z).length - _) ≤ _
  omega
open TL in
/-- all signs are in ASCII -/
def Asc (z : Str) : Prop := ∀ c ∈ tl z, c < 128
open TL in
theorem asc_app {x y : Str} (h : Asc x) (k : Asc y) : Asc (x ++ y) := fun c hc => by
  rw [tl_append] at hc
  rcases List.mem_append.mp hc with e | e
  · exact h c e
  · exact k c e
theorem asc_cut {z : Str} {lo hi : Option Int} (h : Asc z) : Asc (cutS z lo hi) := fun c hc => h c (cut_mem hc)
open TL in
theorem asc_num (n : Nat) : Asc (Str.ofString (toString ((n : Nat) : Int))) := fun c hc => by
  rw [tl_num] at hc
  have := numL_digits n c hc
  omega
theorem asc_sign {z : Str} {c : Nat} (h : Asc z) (hc : c ∈ TL.tl z) : Asc ⟨#[c]⟩ := fun d hd => by
  rw [tl_one] at hd
  rcases List.mem_cons.mp hd with rfl | k
  · exact h _ hc
  · cases k
theorem shaped_strs {l : List Nat} (h : ∀ c ∈ l, c < 128) : SeqAt.shaped (.list (l.map fun c => PyData.str ⟨#[c]⟩)) = true := by
  have k : PyData.canLayAll0 (l.map fun c => PyData.str ⟨#[c]⟩) = true ∧ PyData.depthAll (l.map fun c => PyData.str ⟨#[c]⟩) ≤ 1 := by
    induction l with
    | nil => exact ⟨rfl, by decide⟩
    | cons c r ih =>
      obtain ⟨i1, i2⟩ := ih fun d hd => h d (List.mem_cons_of_mem _ hd)
      have hc := h c (List.mem_cons_self ..)
      refine ⟨?_, ?_⟩
      · rw [List.map_cons, PyData.canLayAll0, i1, Bool.and_true]
        simp [PyData.canLay0, PyData.strOk]
        omega
      · rw [List.map_cons, PyData.depthAll]
        simp only [PyData.depth]
        omega
  unfold SeqAt.shaped
  rw [PyData.canLay0, k.1, Bool.true_and, decide_eq_true_eq, PyData.depth]
  omega
section
variable {K : PySem.W.Frag} {H H' : Hp}
theorem dpn : Dp K H .non .none := .non
theorem dpi (i : Int) : Dp K H (.int i) (.int i) := .int i
theorem dps (z : Str) : Dp K H (.str z) (.str z) := .str z
theorem dpb (b : Bool) : Dp K H (.bl b) (.bool b) := .bl b
theorem dp_t2 {p : Addr} {a b : Int} (h : H p = some (.tup [.int a, .int b])) (e : Same H H') : Dp K H' (.ref p) (.tuple [.int a, .int b]) := .tup (.inl (.inl (sget h e))) (.cons (.int a) (.cons (.int b) .nil))
end
theorem g_nx {a c d : L2.St → Hp → Prop} {b : V → Hp → Prop} {σ : L2.St} {H : Hp} (h : a σ H) : ({ nx := a, rt := b, bk := c, ct := d } : Ends).nx σ H := h
end Sm
/-! SmExc: own exceptions over any built-in base, with and without an __init__ that says super().__init__(x); self.f = x. -/
namespace Sm
open PySem PySem.Spec PyProof.Rows L2
open PySem.W PySem.Calls PyProof.V Builtin.ObjectAttr
/-! ### the text of such an __init__ -/
def iArgs (f : Str) (p1 p2 : Pos) : Arguments := { posonlyargs := [], args := [{ arg := "self", annotation := none, pos := p1 }, { arg := f, annotation := none, pos := p2 }], vararg := none, kwonlyargs := [], kw_defaults := [], kwarg := none, defaults := [] }
def iBody (f : Str) (a1 a2 a3 a4 a5 a6 b1 b2 b3 b4 : Pos) : List Stmt :=
  [.Expr (.Call (.Attribute (.Call (.Name "super" a1) [] [] a2) "__init__" a3) [.Name f a4] [] a5) a6,
   .Assign [.Attribute (.Name "self" b1) f b2] (.Name f b3) b4]
def iScope (f : Str) : Scope := { kind := .function, names := [(PySem.Str.ofString "self", .local), (f, .local), (PySem.Str.ofString "__class__", .free), (PySem.Str.ofString "super", .globalImplicit)], isGenerator := false, isCoroutine := false, more := [] }
abbrev excTl := PySem.W.excTail
/-- what the written part says of an own exception class, at C, over the base B -/
structure XBase (K : Frag) (mg : Str → Option Value) (x : Str) (C : Addr) (B newId initId : String) (bmB : List Value) : Prop where
  gC : mg x = some (.ref C)
  facts : ExcBaseFacts B newId initId bmB
  kC : keepIn K (.ref C) = true
  exC : subIn K (.ref C) (.type "BaseException") = some true
  tyC : typeIn K (.ref C) = some (.type "type")
structure XSup (P : Program) (K : Frag) (mg : Str → Option Value) (x f : Str) (C fI cda cc : Addr) (B newId initId : String) (bmB : List Value) : Prop extends XBase K mg x C B newId initId bmB where
  init : excInitIn K C bmB newId = true
  over : excOver K C bmB = true
  kxs : KxsFacts B initId
  store : StoreFacts B bmB "object.__setattr__" "object"
  subB : subIn K (.ref C) (.type B) = some true
  sa : findIn K (.ref C) "__setattr__" = some (some (.builtin "object.__setattr__"))
  ga : findIn K (.ref C) "__getattribute__" = some (some (.builtin "BaseException.__getattribute__"))
  gg : findIn K (.ref C) "__getattr__" = some none
  noN : findIn K (.ref C) f = some none
  iC : findIn K (.ref C) "__init__" = some (some (.ref fI))
  tI : typeIn K (.ref fI) = some (.type "function")
  hdC : hasDictIn K C = true
  op : nsIn K cStatics "thirdparty.any" = some none
  sup : ks_superIn K C C "__init__" = some (some (.builtin initId))
  subC : mroIn K C (.ref C) = some true
  nsuper : nsIn K mainGlobals "super" = some none
  fn : ∃ (oc : Value) (od : Option Addr) (dV kV doc pm : Value) (an : Option Addr) (ct : Value) (osl : Array (Option Value)) (p1 p2 a1 a2 a3 a4 a5 a6 b1 b2 b3 b4 : Pos) (q : Str),
    K.lookup fI = some ⟨oc, od, .func (ksFn "__init__" q (iArgs f p1 p2) (iBody f a1 a2 a3 a4 a5 a6 b1 b2 b3 b4) (iScope f) dV kV doc pm an (.ref cda) ct cc), osl⟩ ∧ codeIn K (.ref cda) q = true ∧ (a3.endLine == a5.line) = true ∧
      ∀ x v, bindArgs (ksFn "__init__" q (iArgs f p1 p2) (iBody f a1 a2 a3 a4 a5 a6 b1 b2 b3 b4) (iScope f) dV kV doc pm an (.ref cda) ct cc) ⟨[.ref x, v], []⟩ = pure [(("self" : Str), Value.ref x), (f, v)]
  code : ∃ (ccl : Value) (cdd : Option Addr) (vs : Array Value) (ccs : Array (Option Value)) (file : Str) (tf : Tok), K.lookup cda = some ⟨ccl, cdd, .fields vs, ccs⟩ ∧ vs[2]? = some (.str file tf) ∧ ((P.main.file : Str) == file) = true
  cell : ∃ (cl : Value) (cld : Option Addr) (csl : Array (Option Value)), K.lookup cc = some ⟨cl, cld, .cell (some (.ref C)), csl⟩
  top : (P.main.scope.names.lookup ("super" : Str)).isSome = false
  fne : (f == ("self" : Str)) = false ∧ (f == ("__debug__" : Str)) = false ∧ (f == ("super" : Str)) = false ∧ (f == ("__class__" : Str)) = false
/-- what __init__ leaves of a fresh exception at x -/
structure SupEnd (h h' : Heap) (x C dx : Addr) (f : Str) (v : Value) : Prop where
  keep : ∀ b o, b ≠ x → h.get? b = some o → h'.get? b = some o
  obj : ∃ t1 : Addr, h'.get? x = some { cls := .ref C, dict := some dx, data := .fields #[.ref t1, .none, .none, .none, .bool false, .none] }
  dbig : h.objs.size ≤ dx
  dne : dx ≠ x
  ns : h'.Ns1 dx (fun y => if y = f then some v else none)
section
variable {prog : Program} {w : World} {A : Around} {E : Value → Shared → Prop} {R : Result → Shared → Prop} {s : Shared} {K : Frag} {mg mb : Str → Option Value} {f nm : Str} {C fI cda cc x : Addr} {B newId initId : String} {bmB : List Value} {v : Value}
/-- self.f = v on an exception without a dict -/
theorem sup_store (T : XSup prog K mg nm f C fI cda cc B newId initId bmB) {fv : Array Value} (X : K.In s.heap) (hx : s.heap.get? x = some { cls := .ref C, data := .fields fv })
    {Q : Unit → Shared → Prop}
    (hq : ∀ h' tk' dx, (∀ b o, b ≠ x → s.heap.get? b = some o → h'.get? b = some o) → s.heap.objs.size ≤ dx → dx ≠ x → h'.get? x = some { cls := .ref C, dict := some dx, data := .fields fv } →
      h'.Ns1 dx (fun y => if y = f then some v else none) → Q () { s with heap := h', toks := tk' }) :
    wpAny (model prog w) A (setAttr (.ref x) f v) Q E s := by
  obtain ⟨hp, g, d, t, os⟩ := s
  have I : InstAt hp x { cls := .ref C, data := .fields fv } C none := ⟨hx, rfl, rfl, trivial⟩
  obtain ⟨cd, hc, hdd⟩ := any_some T.hdC
  refine set_plain X (ox := { cls := .ref C, data := .fields fv }) (od := none) I T.sa ?_
  refine osa_openX (r := none) T.store X I T.over (by unfold takerIn; rw [T.noN]; rfl) (fun b => ?_)
  have hcls : Looks (model prog w) hp (classData C) cd := looks_clsIn X hc
  have hxs : x ≠ hp.objs.size := Nat.ne_of_lt (Heap.lt_size hx)
  obtain ⟨nm, bs, mro, ns, qn, hd, sn, sb, ab, col, del⟩ := cd
  dsimp only at hdd
  subst hdd
  dsimp only
  unfold storeInOwnDict ownDictForStores
  repeat (first | with_reducible refine PySem.HandSPX.store_in_new ?_ ?_ | with_reducible refine wpAny_loadPart_at hx ?_ | with_reducible refine hcls.at ?_ | wp_step)
  · exact ⟨_, #[], _, (Heap.get?_update_ne _ _ _ _ hxs.symm).trans (Heap.get?_push_at rfl rfl), rfl, fun e he => absurd he (by simp), fun _ => rfl⟩
  · intro h' tk' hn' hs
    have hx1 : (hp.push { cls := .type "dict", data := .dict #[] }).get? x = some { cls := .ref C, data := .fields fv } := Heap.get?_push_of_some _ hx
    refine hq h' tk' hp.objs.size (fun b o hb ho => ?_) (Nat.le_refl _) hxs.symm ?_ hn'
    · exact (hs.2 b (Nat.ne_of_lt (Heap.lt_size ho))).trans ((Heap.get?_update_ne _ _ _ _ hb).trans (Heap.get?_push_of_some _ ho))
    · exact (hs.2 x hxs).trans (Heap.get?_update_self _ hx1 rfl)
/-- the bound built-in __init__, called -/
theorem sup_call (T : XSup prog K mg nm f C fI cda cc B newId initId bmB) {u t0 : Addr} {Q : Value → Shared → Prop} (X : K.In s.heap) (hu : s.heap.get? u = some (kxs_mw initId x)) (hx : s.heap.get? x = some (HandSPX.excO C t0))
    (hq : ∀ h' t1, (∀ b o, b ≠ x → s.heap.get? b = some o → h'.get? b = some o) → h'.get? x = some (HandSPX.excO C t1) → Q .none { s with heap := h' }) :
    wpAny (model prog w) A (call (.ref u) [v]) Q E s := by
  obtain ⟨nm', N', qn, bs, bm, hdct, sn, sub, ab, col, dd, k0, k1, k2, k3, k5, hC, hT⟩ := excInit_of X T.init
  obtain ⟨hh, g, d, tk, os⟩ := s
  refine wpAny_call (codeAny_of_tree ?_); (show wpAny _ A.in1 (callAny (.ref u) ⟨[v], []⟩) _ _ _); simp only [callAny]
  refine wpAny_bind (wpAny_load hu ?_); simp only [kxs_mw, show (Value.type "method-wrapper" == Value.type "method" || Value.type "method-wrapper" == Value.type "builtin_function_or_method" || Value.type "method-wrapper" == Value.type "method-wrapper") = true by decide, if_true]
  refine PySem.W.KFB.if_so (by decide) (wpAny_bind (check_bound_init T.facts.toExcCallFacts hC hx rfl (wpAny_bind (wpAny_pure (wpAny_pure ⟨plainId_quiet T.facts.init.plain _, codeAny_builtin T.facts.initEntry ?_⟩)))))
  refine exc_init_tree (cls := .ref C) (t0 := t0) (dv := none) (c2 := .none) (c3 := .none) (b4 := .bool false) hx (by rw [sizeLine_eq]; exact (by decide : 1 ≤ 16777216)) (fun h' k e' t' => ?_)
  exact hq h' _ k e'
/-- the call of __init__ on a fresh exception -/
theorem sup_init (T : XSup prog K mg nm f C fI cda cc B newId initId bmB) {t0 : Addr} (X : K.In s.heap) (G : s.heap.Ns mainGlobals mg) (Gb : s.heap.Ns builtinsNs mb) (hb : ∀ y : Str, y ≠ "__name__" → mb y = bootBuiltins y)
    (hlim : s.heap.NoLimit) (hx : s.heap.get? x = some (HandSPX.excO C t0)) (hnx : ∀ o, K.lookup x = some o → False) (hroom : A.depth < recursionLimit)
    (hq : ∀ h' tk dx, SupEnd s.heap h' x C dx f v → R (.ok (.ret .none)) { s with heap := h', toks := tk }) :
    codeAny (model prog w) A (.call (.ref fI) ⟨[.ref x, v], []⟩) R s := by
  obtain ⟨oc, od, dV, kV, doc, pm, an, ct, osl, p1, p2, a1, a2, a3, a4, a5, a6, b1, b2, b3, b4, q, ho, hcd, hline, hbd⟩ := T.fn
  obtain ⟨f1, f2, f3, f4⟩ := T.fne
  have f1' : ¬ f = "self" := beq_eq_false_iff_ne.mp f1
  have g3 : (("super" : Str) == f) = false := beq_eq_false_iff_ne.mpr fun z => (beq_eq_false_iff_ne.mp f3) z.symm
  have g4 : (("__class__" : Str) == f) = false := beq_eq_false_iff_ne.mpr fun z => (beq_eq_false_iff_ne.mp f4) z.symm
  have g1 : (("self" : Str) == f) = false := beq_eq_false_iff_ne.mpr fun z => (beq_eq_false_iff_ne.mp f1) z.symm
  have lf : (iScope f).names.lookup f = some .local := by simp [iScope, List.lookup, f1]
  have ls : (iScope f).names.lookup ("self" : Str) = some .local := by simp [iScope, List.lookup]
  have lsu : (iScope f).names.lookup ("super" : Str) = some .globalImplicit := by
    show List.lookup ("super" : Str) [(("self" : Str), NameKind.local), (f, .local), (("__class__" : Str), .free), (("super" : Str), .globalImplicit)] = _
    rw [List.lookup_cons, show (("super" : Str) == "self") = false by decide, List.lookup_cons, g3, List.lookup_cons, show (("super" : Str) == "__class__") = false by decide]
    rfl
  have lc : (iScope f).names.lookup ("__class__" : Str) = some .free := by
    show List.lookup ("__class__" : Str) [(("self" : Str), NameKind.local), (f, .local), (("__class__" : Str), .free), (("super" : Str), .globalImplicit)] = _
    rw [List.lookup_cons, show (("__class__" : Str) == "self") = false by decide, List.lookup_cons, g4]
    rfl
  obtain ⟨ccl, cdd, vs, ccs, file, tf, hcode, hvs, hfile⟩ := T.code
  obtain ⟨cl, cld, csl, hcell⟩ := T.cell
  refine ks_codeAny_call_defAt (fd := ksFn "__init__" q (iArgs f p1 p2) (iBody f a1 a2 a3 a4 a5 a6 b1 b2 b3 b4) (iScope f) dV kV doc pm an (.ref cda) ct cc) (body := iBody f a1 a2 a3 a4 a5 a6 b1 b2 b3 b4)
    (binds := [("self", .ref x), (f, v)]) hroom (X _ _ ho) rfl hlim (codeRec_of X hcd) rfl (BindsTo.of_eq (hbd x v)) ?_ ?_ (fun h0 hns hk => ?_) rfl rfl rfl
  · intro y hy
    simp only [ksFn, iScope, List.mem_cons, List.not_mem_nil, or_false] at hy
    rcases hy with rfl | rfl | rfl | rfl <;> (intro z; cases z)
  · intro y hy
    simp only [List.mem_cons, List.not_mem_nil, or_false] at hy
    rcases hy with rfl | rfl
    · exact ls
    · exact lf
  · obtain ⟨hp, g, d, t, os⟩ := s
    have bv : ∀ y, ([(("self" : Str), Value.ref x), (f, v)].reverse.lookup y) = if y = f then some v else if y = "self" then some (.ref x) else none := by
      intro y
      show List.lookup y [(f, v), (("self" : Str), Value.ref x)] = _
      rw [List.lookup_cons, List.lookup_cons]
      by_cases e1 : y = f
      · simp [e1]
      · have e1' : (y == f) = false := by simpa using e1
        rw [e1', if_neg e1]
        by_cases e2 : y = "self"
        · simp [e2]
        · have e2' : (y == ("self" : Str)) = false := by simpa using e2
          rw [e2', if_neg e2]
          rfl
    have hx0 := hk _ _ hx
    have X0 : K.In h0 := X.keeps hk
    have hxs : x ≠ hp.objs.size := Nat.ne_of_lt (Heap.lt_size hx)
    obtain ⟨cd, hc, hdd⟩ := any_some T.hdC
    obtain ⟨nm', N', qn, bs, bm, hdct, sn, sub, ab, col, dd, k0, k1, k2, k3, k5, hC, hT⟩ := excInit_of X0 T.init
    have he : ∀ env : Env, eval (.Call (.Attribute (.Call (.Name "super" a1) [] [] a2) "__init__" a3) [.Name f a4] [] a5) env = (do
        let ov ← attributeBase (.Call (.Name "super" a1) [] [] a2) "__init__" env (eval (.Call (.Name "super" a1) [] [] a2) env)
        standAt a3.atName
        let (f1, first) ← holding [ov] (getMethod ov "__init__" (plainOf (.Call (.Name "super" a1) [] [] a2) env))
        callWith a5 f1 first (backTo a5 (starEach [.Name f a4] env)) []) := by
      intro env
      rw [arm_eval_Call]
      refine bind_congr fun ov => ?_
      refine bind_congr fun _ => ?_
      exact mcall_line rfl hline
    refine ks_wpAt_execs_cons (ks_wpAt_Expr_any (ks_wpAt_MethodCall (he := he _) ?_))
    refine ks_wpAt_super_base (env := ksEnv q (iScope f) hp.objs.size fI (.ref cda) cc) lsu lc (by decide) rfl (X0 _ _ ho) rfl rfl rfl (X0 _ _ hcode) rfl hvs hfile T.top ?_
    refine ks_loadName_global rfl lsu (loadGlobal_builtin (env := ksEnv q (iScope f) hp.objs.size fI (.ref cda) cc) (G.keeps hk) (mg_none_of X G T.nsuper) (Gb.keeps hk) ((hb _ (by decide +kernel)).trans (by decide +kernel)) ⟨rfl, ?_⟩)
    refine wpAny_loadName_free rfl lc rfl ⟨_, X0 _ _ hcell, rfl⟩ ?_
    refine wpAny_loadName_local rfl ls hns (v := .ref x) (by rw [bv, if_neg (Ne.symm f1'), if_pos rfl]) ?_
    refine ks_wpAny_isType_cls hC rfl ⟨rfl, ?_⟩
    refine ks_wpAny_call_super hC rfl hx0 rfl (fun c e => by cases e) (looks_mroIn X0 T.subC) (fun h1 e1 k1 => ?_)
    have X1 : K.In h1 := X0.keeps k1
    have hx1 := k1 _ _ hx0
    have I1 : InstAt h1 x (HandSPX.excO C t0) C none := ⟨hx1, rfl, rfl, trivial⟩
    have hI : Looks (model prog w) h1 (isInstance (.ref x) (.type B)) true := I1.type.andThen (looks_subIn X1 T.subB)
    have hm : alongIn K "__init__" ((cd.mro.dropWhile (· != .ref C)).drop 1) = some (some (.builtin initId)) := by
      have z := T.sup
      unfold ks_superIn at z
      rw [hc] at z
      exact z
    refine kxs_getMethod T.kxs e1 (looks_opaque X1 T.op) (l₀ := cd.mro) (fun A Q E s k q => wpAny_bind ((looks_clsIn X1 hc) A _ E s k (wpAny_pure q))) rfl X1 hm hI (ks_ne X1 I1 hc) (by decide) ?_
    have k2 : ∀ b o, h1.get? b = some o → (h1.push (kxs_mw initId x)).get? b = some o := fun b o e => Heap.get?_push_of_some _ e
    have hns2 : (h1.push (kxs_mw initId x)).Ns hp.objs.size (fun y => [(("self" : Str), Value.ref x), (f, v)].reverse.lookup y) := (hns.keeps k1).keeps k2
    refine kxs_callWith (i := initId) (x := x) rfl (evalArgs_plain (spliced_cons (wpAny_Name (wpAny_loadName_local rfl lf hns2 (v := v) (by rw [bv, if_pos rfl]) (spliced_nil ?_)) f2)))
    refine ⟨Heap.get?_push_size _ rfl, sup_call T (X1.keeps k2) (Heap.get?_push_size _ rfl) (k2 _ _ hx1) (fun h3 t1 k3 hx3 => ?_)⟩
    have hCn : x ≠ C := ks_ne X1 I1 hc
    have X3 : K.In h3 := fun a o e => k3 a o (fun z => by
      subst z
      exact hnx _ e) ((X1.keeps k2) a o e)
    have hns3 : h3.Ns hp.objs.size (fun y => [(("self" : Str), Value.ref x), (f, v)].reverse.lookup y) := hns2.at fun o e => k3 _ _ (Ne.symm hxs) e
    refine ks_wpAt_execs_cons (ks_wpAt_Assign_Attr (PySem.wpAt_of_wpAny ?_))
    refine wpAny_Name (wpAny_loadName_local rfl lf hns3 (v := v) (by rw [bv, if_pos rfl]) (wpAny_Name (wpAny_loadName_local rfl ls hns3 (v := .ref x) (by rw [bv, if_neg (Ne.symm f1'), if_pos rfl]) (sup_store T X3 hx3 (fun h4 tk dx k4 dn dne hx4 hn4 => ?_))))) f2
    refine PySem.wpAt_of_wpAny (wpAny_execs_nil (hq h4 tk dx ⟨fun b o hb e => k4 b o hb (k3 b o hb (k2 _ _ (k1 _ _ (hk _ _ e)))), ⟨t1, hx4⟩, Nat.le_trans (Nat.le_of_lt hns3.lt) dn, dne, hn4⟩))
/-- an exception made -/
structure SupMade (h h' : Heap) (e C d : Addr) (f : Str) (v : Value) : Prop where
  keep : ∀ b o, h.get? b = some o → h'.get? b = some o
  new : h.objs.size ≤ e
  obj : ∃ t1 : Addr, h'.get? e = some { cls := .ref C, dict := some d, data := .fields #[.ref t1, .none, .none, .none, .bool false, .none] }
  dbig : h.objs.size ≤ d
  dne : d ≠ e
  ns : h'.Ns1 d (fun y => if y = f then some v else none)
theorem sup_made (T : XSup prog K mg nm f C fI cda cc B newId initId bmB) (X : K.In s.heap) (G : s.heap.Ns mainGlobals mg) (Gb : s.heap.Ns builtinsNs mb) (hb : ∀ y : Str, y ≠ "__name__" → mb y = bootBuiltins y)
    (hlim : s.heap.NoLimit) (hroom : A.depth + 1 < recursionLimit) (hq : ∀ h' tk e d, SupMade s.heap h' e C d f v → R (.ok (.ret (.ref e))) { s with heap := h', toks := tk }) :
    codeAny (model prog w) A (.call (.ref C) ⟨[v], []⟩) R s := by
  obtain ⟨nm', N', qn, bs, bm, hdct, sn, sub, ab, col, dd, k0, k1, k2, k3, k5, hC, hT⟩ := excInit_of X T.init
  obtain ⟨hp, g, dr, tk, os⟩ := s
  have k : ∀ b o, hp.get? b = some o → ((hp.push (kdv_tup [v])).push (HandSPX.excO C hp.objs.size)).get? b = some o := fun b o e => Heap.get?_push_of_some _ (Heap.get?_push_of_some _ e)
  have hget : ((hp.push (kdv_tup [v])).push (HandSPX.excO C hp.objs.size)).get? (hp.objs.size + 1) = some (HandSPX.excO C hp.objs.size) := by heap_get
  have hnx : ∀ o, K.lookup (hp.objs.size + 1) = some o → False := fun o e => by
    have z : hp.get? (hp.objs.size + 1) = some o := X _ _ e
    exact absurd (Nat.lt_of_succ_lt (Heap.lt_size z)) (Nat.lt_irrefl _)
  refine HandSPX.call_own T.facts hT hC (looks_findIn X T.iC) (fun self => bind_fn X self T.tI) (by rw [sizeLine_eq]; exact (by decide : 1 ≤ 16777216)) ?_
  refine sup_init (s := ⟨(hp.push (kdv_tup [v])).push (HandSPX.excO C hp.objs.size), g, dr, tk, os⟩) T (X.keeps k) (G.keeps k) (Gb.keeps k) hb (hlim.keeps k) hget hnx hroom fun h' tk' dx M => ?_
  have old : ∀ b o, hp.get? b = some o → h'.get? b = some o := fun b o e => M.keep b o (Nat.ne_of_lt (Nat.lt_succ_of_lt (Heap.lt_size e))) (k b o e)
  have z : hp.objs.size + 1 + 1 ≤ dx := by
    have q := M.dbig
    first
      | exact q
      | (rw [Heap.size_push, Heap.size_push] at q; exact q)
      | (simpa only [Heap.size_push] using q)
  exact ⟨rfl, hq h' tk' (hp.objs.size + 1) dx ⟨old, Nat.le_succ _, M.obj, Nat.le_trans (Nat.le_trans (Nat.le_succ _) (Nat.le_succ _)) z, M.dne, M.ns⟩⟩
end
theorem relO_one {f : Str} {v : V} {v' : Value} (r : RelV v v') (y : Str) : RelO (List.lookup y [(f, v)]) (if y = f then some v' else none) := by
  by_cases hw : y = f
  · rw [hw, if_pos rfl]
    have q : List.lookup f [(f, v)] = some v := by simp [List.lookup]
    rw [q]
    exact r
  · rw [if_neg hw]
    have qw : (y == f) = false := beq_eq_false_iff_ne.mpr hw
    have q2 : List.lookup y [(f, v)] = none := by simp [List.lookup, qw]
    rw [q2]
    trivial
section
variable {X : Cx} {C fI cda cc : Addr} {B newId initId : String} {bmB : List Value} {x f : Str}
/-- C(e) -/
def tMkSup (f : Str) (C : Addr) (ta : TA) : L2.St → Hp → XK → Prop := fun σ H Q => ta σ H fun vs H1 => ∃ v, vs = [v] ∧ ∀ d, H1 d = none → Q (.ref C) (some d) (upd H1 d (.xd [(f, v)]))
theorem pmk_sup {a : Expr} {ta : TA} {p pos : Pos} {k : Nat} (T : XSup X.prog X.K X.mg x f C fI cda cc B newId initId bmB) (hr : Room k X.A) (ha : PA X [a] ta) (hg : Gl X x := by rfl) (hdb : (x == ("__debug__" : Str)) = false := by decide)
    (he : starEach (a :: []) X.env = (false, eval a X.env) :: starEach [] X.env := by rfl) (hpl : (backTo pos (starEach [] X.env)).any (·.1) = false := by rfl) :
    PMk X (.Call (.Name x p) [a] [] pos) (tMkSup f C ta) := by
  intro pins s σ H Q I h
  refine wpAny_Call_Name_kw (ld_glob I hg T.gC ?_ hdb)
  refine PySem.W.callWith_K (h₀ := X.base) I.ok.mod.kin T.kC (thn (ha.run pos pins s σ H _ I h) fun us s1 hh => ?_) he hpl
  obtain ⟨vs, H1, I1, r1, v, ev, q1⟩ := hh; subst ev
  refine ⟨I1.kIn, ?_⟩
  cases r1 with
  | cons rv rn =>
    rename_i v' us'
    cases rn
    show wpAny _ _ (call (.ref C) [v']) _ _ _
    have hlim := I1.nolimit
    obtain ⟨mb, Gb, hb⟩ := I1.mod.blt
    have G := I1.mod.glob.keeps I1.bk
    have Gb' := Gb.keeps I1.bk
    have KI := I1.kIn
    obtain ⟨hp, g, dr, tk, os⟩ := s1
    refine wpAny_call (sup_made T KI G Gb' hb hlim (by have := hr.dp; omega) fun h' tk' e d M => ?_)
    show MkP X pins σ Q (.ref e) ⟨h', g, dr, tk', os⟩
    obtain ⟨t1, hoe⟩ := M.obj
    have hns := M.ns
    obtain ⟨G', g1, g2⟩ := restrict h' fun b => decide (b ≠ e)
    have gk : ∀ b, b ≠ e → G'.get? b = h'.get? b := fun b hb => g1 b (decide_eq_true hb)
    have ge : G'.get? e = none := g2 e (by simp)
    have old : ∀ b o, hp.get? b = some o → G'.get? b = some o := fun b o q => (gk b (Nat.ne_of_lt (Nat.lt_of_lt_of_le (Heap.lt_size q) M.new))).trans (M.keep b o q)
    have ob : ObjOk X.prog X.w (upd H1 d (.xd [(f, v)])) G' d (.xd [(f, v)]) :=
      ⟨_, hns.at (fun o q => (gk d M.dne).trans q), fun y => relO_one rv y⟩
    have J : Inv X pins σ (upd H1 d (.xd [(f, v)])) ⟨G', g, dr, tk', os⟩ := I1.laid (t' := tk') old M.dbig ob
    refine ⟨e, _, _, ⟨G', g, dr, tk', os⟩, _, .ref C, some d, rfl, J, fun b o q => ?_, ge, hoe, ⟨rfl, rfl⟩, rfl, rfl, ?_, rfl, I1.bare, raises_own T.exC T.tyC, q1 d (I1.hok.fresh M.dbig)⟩
    · by_cases hb : b = e
      · have q' : G'.get? b = some o := q
        rw [hb, ge] at q'; cases q'
      · exact (gk b hb).symm.trans q
    · rw [upd_ne (Ne.symm M.dne)]
      exact I1.hok.fresh M.new
/-- n.f, n the exception that the suite holds -/
def tBySup (f : Str) (C : Addr) (a : Addr) (cls : Value) (d : Option Addr) (te : TE) : TE := fun σ H Q => te σ H fun x H1 => x = .ref a ∧ cls = .ref C ∧ ∃ (dd : Addr) (v : V), d = some dd ∧ H1 dd = some (.xd [(f, v)]) ∧ Q v H1
theorem pe_bySup {a : Addr} {oe : Obj} {cls : Value} {d : Option Addr} {pn : List (Addr × Obj)} {e : Expr} {te : TE} {pos : Pos} (T : XSup X.prog X.K X.mg x f C fI cda cc B newId initId bmB) (hz : Zc cls d oe) (hf : ∃ vs, oe.data = .fields vs) (he : PE (X.suite a ((a, oe) :: pn)) e te)
    (hb : attributeBase e f X.env (eval e X.env) = eval e X.env := by rfl) :
    PE (X.suite a ((a, oe) :: pn)) (.Attribute e f pos) (tBySup f C a cls d te) := by
  refine ⟨fun pins s σ H Q I h => ?_⟩
  refine attr_of hb (thn (he.run pins s σ H _ I h) fun u s1 hh => ?_)
  obtain ⟨y, H1, I1, rx, ex, ec, dd, v, ed, ea, q⟩ := hh; subst ex
  obtain rfl : u = Value.ref a := rx
  subst ec; subst ed
  obtain ⟨ha, _⟩ := I1.pin (a, oe) (List.mem_append_left _ List.mem_cons_self)
  obtain ⟨vs, hd⟩ := hf
  have hx : ObjOk X.prog X.w H1 s1.heap dd (.xd [(f, v)]) := I1.hok dd _ ea
  obtain ⟨mA, hns, hr⟩ := hx
  obtain ⟨od, ho, hl⟩ := lookIn_ns hns
  have l : List.lookup f [(f, v)] = some v := by simp [List.lookup]
  obtain ⟨u, hu, ru⟩ := RelO.some_of (v := v) (o := mA f) (by rw [← l]; exact hr f)
  have J : PySem.W.InstAt s1.heap a oe C (some od) := ⟨ha, hz.1, by unfold PySem.W.notCls; rw [hd] <;> rfl, by rw [hz.2]; exact ho⟩
  exact HandSPX.exc_get I1.kIn J T.ga T.gg T.exC (PySem.W.findObj_own T.hdC T.noN rfl (by rw [hl, hu])) (handed_of ru) ⟨v, H1, I1.tok _, ru, q⟩
end
/-- a class without an __init__ of its own, made with one value of any kind -/
structure XPl (K : Frag) (mg : Str → Option Value) (x : Str) (C : Addr) (B newId initId : String) (bmB : List Value) : Prop extends XBase K mg x C B newId initId bmB where
  exc : excIn K C bmB newId = true
theorem pmk_pl {X : Cx} {x : Str} {C : Addr} {B newId initId : String} {bmB : List Value} {e : Expr} {es : List Expr} {t : TA} {p pos : Pos} (T : XPl X.K X.mg x C B newId initId bmB) (ha : PA X (e :: es) t) (hg : Gl X x := by rfl) (hdb : (x == ("__debug__" : Str)) = false := by decide)
    (he : starEach (e :: es) X.env = (false, eval e X.env) :: starEach es X.env := by rfl) (hpl : (backTo pos (starEach es X.env)).any (·.1) = false := by rfl) :
    PMk X (.Call (.Name x p) (e :: es) [] pos) (fun σ H Q => t σ H fun vs H1 => vs.length ≤ sizeLine ∧ Q (.ref C) none H1) := pmk_ownA T.facts T.exc T.gC T.kC (raises_own T.exC T.tyC) hg ha hdb he hpl
/-! ### without the addresses that none asks for -/
structure XS (P : Program) (K : Frag) (mg : Str → Option Value) (x f : Str) (C : Addr) (B newId initId : String) (bmB : List Value) : Prop where
  ex : ∃ fI cda cc, XSup P K mg x f C fI cda cc B newId initId bmB
theorem XS.gC {P : Program} {K : Frag} {mg : Str → Option Value} {x f : Str} {C : Addr} {B newId initId : String} {bmB : List Value} (T : XS P K mg x f C B newId initId bmB) : mg x = some (.ref C) := by
  obtain ⟨_, _, _, T⟩ := T.ex
  exact T.gC
section
variable {X : Cx} {C : Addr} {B newId initId : String} {bmB : List Value} {x f : Str}
theorem pmk_xs {a : Expr} {ta : TA} {p pos : Pos} {k : Nat} (T : XS X.prog X.K X.mg x f C B newId initId bmB) (hr : Room k X.A) (ha : PA X [a] ta) (hg : Gl X x := by rfl) (hdb : (x == ("__debug__" : Str)) = false := by decide)
    (he : starEach (a :: []) X.env = (false, eval a X.env) :: starEach [] X.env := by rfl) (hpl : (backTo pos (starEach [] X.env)).any (·.1) = false := by rfl) :
    PMk X (.Call (.Name x p) [a] [] pos) (tMkSup f C ta) := by
  obtain ⟨_, _, _, T⟩ := T.ex
  exact pmk_sup T hr ha hg hdb he hpl
theorem pe_byXs {a : Addr} {oe : Obj} {cls : Value} {d : Option Addr} {pn : List (Addr × Obj)} {e : Expr} {te : TE} {pos : Pos} (T : XS X.prog X.K X.mg x f C B newId initId bmB) (hz : Zc cls d oe) (hf : ∃ vs, oe.data = .fields vs) (he : PE (X.suite a ((a, oe) :: pn)) e te)
    (hb : attributeBase e f X.env (eval e X.env) = eval e X.env := by rfl) :
    PE (X.suite a ((a, oe) :: pn)) (.Attribute e f pos) (tBySup f C a cls d te) := by
  obtain ⟨_, _, _, T⟩ := T.ex
  exact pe_bySup T hz hf he hb
end
/-- an error of the class x leaves, with v at f in it | with nothing told -/
def Rz (K : Frag) (x f : Str) (v : V) (H : Hp) (E : XK) : Prop := ∀ d H', Same H H' → H' d = some (.xd [(f, v)]) → E (.ref (He.ga K x)) (some d) H'
def Rp (K : Frag) (x : Str) (H : Hp) (E : XK) : Prop := ∀ H', Same H H' → E (.ref (He.ga K x)) none H'
theorem g_mkSup {f : Str} {C : Addr} {l : TA} {σ : L2.St} {H : Hp} {R : XK} (h : l σ H fun vs H1 => ∃ v, vs = [v] ∧ ∀ d, H1 d = none → R (.ref C) (some d) (upd H1 d (.xd [(f, v)]))) : tMkSup f C l σ H R := h
theorem g_sup1 {f : Str} {v : V} {H : Hp} {R : Addr → Hp → Prop} (q : ∀ d H2, Same H H2 → H2 d = some (.xd [(f, v)]) → R d H2) : ∃ v', ([v] : List V) = [v'] ∧ ∀ d, H d = none → R d (upd H d (.xd [(f, v')])) := ⟨v, rfl, fun d hd => q d _ (Same.new hd) upd_same⟩
end Sm
/-! SmMore: enumerate(text), list(text). -/
namespace Sm
open PySem PySem.Spec PyProof.Rows L2
/-- a text's signs with their places, each pair new -/
def Itx (x : Str) : It := ⟨fun i _ => i < x.cps.size, fun i H v H' => ∃ T c, v = .ref T ∧ H T = none ∧ H' = upd H T (.tup [.int (i : Nat), .str ⟨#[c]⟩]) ∧ x.cps[i]? = some c, fun i _ => x.cps.size = i⟩
theorem turn_enumS {P : Program} {w : World} {K : PySem.W.Frag} {elts : List Expr} {kk : Nat} {tpos : Pos} (x : Str) (t : Tok) (e it : Addr) :
    Turn P w K (.Tuple elts kk tpos) (Itx x) [e, it] e (fun i h => (∃ old, IsEnum h e it ((i : Nat) : Int) old) ∧ h.IsStrIter it (strIterType x) x t i ∧ e ≠ it) where
  mem := by simp
  obj := fun i h st b hb => by
    obtain ⟨⟨old, he⟩, ⟨o, ho, hc, hd⟩, _⟩ := st
    have e' : b = e ∨ b = it := by simpa using hb
    rcases e' with z | z
    · rw [z]; exact ⟨_, he, fun v q => nomatch q⟩
    · rw [z]; exact ⟨o, ho, fun v q => by rw [hd] at q; cases q⟩
  keep := fun i h h' st k => let ⟨⟨old, he⟩, ⟨o, ho, r⟩, hne⟩ := st; ⟨⟨old, k e (by simp) _ he⟩, ⟨o, k it (by simp) _ ho, r⟩, hne⟩
  item := by
    intro X hP hw hK hc i pins s σ H E I hf st hg
    subst hP hw hK
    obtain ⟨⟨old, he⟩, hit, hne⟩ := st
    have hg' : i < x.cps.size := hg
    have hel : e < s.heap.objs.size := Heap.lt_size he
    have hil : it < s.heap.objs.size := by obtain ⟨_, q, _⟩ := hit; exact Heap.lt_size q
    refine wpAny_pyNext_enum_itemD (fp := [it]) (n := x.cps.size) (P := fun i v => ∃ c u, x.cps[i]? = some c ∧ v = .str ⟨#[c]⟩ u) (St := fun i h => h.IsStrIter it (strIterType x) x t i) (Draws.text (A := X.A.in1) (I.ok.hd hc) it x t) he hit hg' hne (by simpa using hne) fun u h' tk hu ho hit' hT hsz hk => ?_
    obtain ⟨c, tu, hcx, rfl⟩ := hu
    refine ⟨_, rfl, wpAny_letOwnedTupleGo_enum (s := { s with heap := h', toks := tk + 1 }) ho fun h'' he' sb => ?_⟩
    have hT2 : h''.get? s.heap.objs.size = some { cls := .type "tuple", data := .seq #[.int i tk, .str ⟨#[c]⟩ tu] } := (sb.2 _ (Nat.ne_of_gt hel)).trans hT
    have new : ObjOk X.prog X.w (upd H s.heap.objs.size (.tup [.int (i : Nat), .str ⟨#[c]⟩])) h'' s.heap.objs.size (.tup [.int (i : Nat), .str ⟨#[c]⟩]) :=
      ⟨by show 2 ≤ sizeLine; decide, [.int i tk, .str ⟨#[c]⟩ tu], .cons ⟨_, rfl⟩ (.cons ⟨_, rfl⟩ .nil), ⟨_, hT2, rfl, _, rfl⟩⟩
    have I1 : Inv X pins σ (upd H s.heap.objs.size (.tup [.int (i : Nat), .str ⟨#[c]⟩])) { s with heap := h'', toks := tk + 1 } :=
      I.turnedNew (ch := [e, it]) (fun b ob hb q => (sb.2 b (fun z => hb (by simp [z]))).trans (hk b ob (fun z => hb (by simp [z])) (fun z => hb (by simp [z])) q)) hf (Nat.le_refl _) new
    refine ⟨.ref s.heap.objs.size, _, I1, rfl, ⟨_, c, rfl, I.hok.fresh (Nat.le_refl _), rfl, hcx⟩, ⟨⟨Value.str ⟨#[c]⟩ tu, ?_⟩, ?_, hne⟩, fun b hb => ?_⟩
    · have e1 : ((i + 1 : Nat) : Int) = (i : Int) + 1 := by omega
      rw [e1]; exact he'
    · obtain ⟨o, q1, q2⟩ := hit'
      exact ⟨o, (sb.2 it (Ne.symm hne)).trans q1, q2⟩
    · have hb' : b < s.heap.objs.size := by
        have e' : b = e ∨ b = it := by simpa using hb
        rcases e' with z | z
        · rw [z]; exact hel
        · rw [z]; exact hil
      rw [upd_ne (Nat.ne_of_lt hb')]
      exact (hf b hb).1
  done := by
    intro X hP hw hK hc i pins s σ H E I hf st hg
    subst hP hw hK
    obtain ⟨⟨old, he⟩, hit, hne⟩ := st
    have hg' : x.cps.size = i := hg
    subst hg'
    obtain ⟨f0, f1, f2, f3, f4, f5⟩ := hf it (by simp)
    exact wpAny_pyNext_enum_endD (fp := [it]) (n := x.cps.size) (P := fun i v => ∃ c u, x.cps[i]? = some c ∧ v = .str ⟨#[c]⟩ u) (St := fun i h => h.IsStrIter it (strIterType x) x t i) (Draws.text (A := X.A.in1) (I.ok.hd hc) it x t) he hit fun h' eb => ⟨rfl, I.turned (t' := s.toks) (fun b o hb q => eb b o hb q) f0 f1 f3 f4 f5⟩
  self := fun A i s Q E st h => let ⟨⟨_, he⟩, _⟩ := st; wpAny_pyIter_enum he h
def iEnumS (ta : TA) : TI := fun σ H R => ta σ H fun vs H1 => ∃ x, vs = [.str x] ∧ R (Itx x) H1
theorem pi_enumS {X : Cx} {e : Expr} {ta : TA} {p pos tpos : Pos} {elts : List Expr} {kk : Nat} (hm : X.mg "enumerate" = none) (ha : PA X [e] ta) (hg : Gl X "enumerate" := by rfl) (hs : starEach [e] X.env = [(false, eval e X.env)] := by rfl) :
    PI X (.Tuple elts kk tpos) (.Call (.Name "enumerate" p) [e] [] pos) (iEnumS ta) := by
  refine ⟨fun pins s σ H R I h => ?_⟩
  refine Call_ (ld_blt I hg hm boot_enumerate (PyProof.Rows.callWith_type1 (thn (ha.run pos pins s σ H _ I h) fun us s1 ⟨vs, H1, I1, r1, q1⟩ => ?_) hs rfl))
  obtain ⟨x, ex, q⟩ := q1
  subst ex
  cases r1 with
  | cons r rr =>
    cases rr
    obtain ⟨t, rfl⟩ := r
    refine call_enumerate_str fun h' he hit hsz hk => wpAny_pyIter_enum he ?_
    have I2 : Inv X pins σ H1 { s1 with heap := h' } := I1.kept (t' := s1.toks) hk
    refine ⟨s1.heap.objs.size + 1, [s1.heap.objs.size + 1, s1.heap.objs.size], _, _, H1, rfl, I2, turn_enumS x t (s1.heap.objs.size + 1) s1.heap.objs.size, ⟨⟨.none, he⟩, hit, Nat.succ_ne_self _⟩, fun b hb => ?_, q⟩
    have e' : b = s1.heap.objs.size + 1 ∨ b = s1.heap.objs.size := by simpa using hb
    have hle : s1.heap.objs.size ≤ b := by
      rcases e' with z | z
      · rw [z]; exact Nat.le_add_right _ _
      · rw [z]; exact Nat.le_refl _
    exact I1.fpOk hle (I1.hok.fresh hle)
theorem walk_enumS {z : Str} : Walk (Itx z) z.cps.size (fun _ => True) (fun i H v H' => ∃ T c, v = .ref T ∧ H T = none ∧ H' = upd H T (.tup [.int (i : Nat), .str ⟨#[c]⟩]) ∧ z.cps[i]? = some c) where
  goes := fun i H h _ => h
  stops := fun H _ => rfl
  yields := fun i H x H' _ _ h => h
/-- the signs of a text, each a text -/
def signsV (z : Str) : List V := z.cps.toList.map fun c => V.str ⟨#[c]⟩
def rListS : List V → Hp → VK → Prop := fun xs H Q => ∃ z, xs = [.str z] ∧ z.length ≤ sizeLine ∧ ∀ l, H l = none → Q (.ref l) (upd H l (.lst (signsV z)))
theorem call_listS {X : Cx} (hc : X.calm = true) : CallR X (.type "list") rListS := by
  intro pins s σ H xs us Q I r h
  obtain ⟨z, rfl, hz, q⟩ := h
  obtain ⟨u, rfl, t, rfl⟩ := vals1 r
  refine call_list_str (I.ok.hd hc) z t (hn := hz) fun h' tk acc c' kp e hacc => ?_
  have hl : acc.size = z.cps.size := hacc.1
  have vals : Vals (signsV z) acc.toList := by
    have key : ∀ (ys : List V) (ws : List Value), ys.length = ws.length → (∀ (j : Nat) (y : V) (w : Value), ys[j]? = some y → ws[j]? = some w → RelV y w) → Vals ys ws := by
      intro ys
      induction ys with
      | nil =>
        intro ws hl _
        cases ws with
        | nil => exact .nil
        | cons _ _ => cases hl
      | cons y ys ih =>
        intro ws hl hh
        cases ws with
        | nil => cases hl
        | cons w ws => exact .cons (hh 0 y w rfl rfl) (ih ws (Nat.succ.inj hl) fun j a b ha hb => hh (j + 1) a b ha hb)
    refine key _ _ ?_ fun j y w hy hw => ?_
    · unfold signsV
      rw [List.length_map, Array.length_toList, Array.length_toList, hl]
    · obtain ⟨c, tu, hcx, rfl⟩ := hacc.2 j w (by simpa using hw)
      unfold signsV at hy
      rw [List.getElem?_map, Array.getElem?_toList, hcx] at hy
      cases hy
      exact ⟨_, rfl⟩
  have hlen : (signsV z).length ≤ sizeLine := by
    unfold signsV
    rw [List.length_map, Array.length_toList]
    exact hz
  exact ⟨.ref s.heap.objs.size, _, I.laid (t' := tk) kp (Nat.le_refl _) (show ObjOk X.prog X.w _ h' _ (.lst (signsV z)) from ⟨hlen, acc.toList, c', vals, by simpa using e⟩), rfl, q _ (I.hok.fresh (Nat.le_refl _))⟩
theorem g_listS {z : Str} {H : Hp} {Q : VK} (hl : z.length ≤ sizeLine) (q : ∀ l, H l = none → Q (.ref l) (upd H l (.lst (signsV z)))) : rListS [.str z] H Q := ⟨z, rfl, hl, q⟩
/-- what a turn of a comprehension leaves: D holds L -/
def LcAt (H : Hp) (D : Addr) (L : List V) (H' : Hp) : Prop := Same H H' ∧ H' D = some (.lst L)
theorem lc_add {H H1 : Hp} {D : Addr} {L L' : List V} {y : V} (hD : H D = none) (e : Same H H1) (h : H1 D = some (.lst L)) (hz : L.length < sizeLine) (hL : L' = L ++ [y]) : ∃ acc, H1 D = some (.lst acc) ∧ acc.length < sizeLine ∧ LcAt H D L' (upd H1 D (.lst (acc ++ [y]))) :=
  ⟨L, h, hz, fun a o ha => by
    have hne : a ≠ D := fun z => by
      rw [z, hD] at ha
      cases ha
    rw [upd_ne hne]
    exact e _ _ ha, by rw [upd_same, hL]⟩
theorem lc_keep {H H1 : Hp} {D : Addr} {L L' : List V} (e : Same H H1) (h : H1 D = some (.lst L)) (hL : L' = L) : LcAt H D L' H1 := ⟨e, by rw [hL]; exact h⟩
/-- a comprehension over a walk: F i the list behind i turns -/
theorem g_lcW {J : It} {n : Nat} {G : Hp → Prop} {Y : Nat → Hp → V → Hp → Prop} {g : TG} {tt : TT} {te : TE} {vs : List Nat} {σ : L2.St} {H : Hp} {Q : VK} (w : Walk J n G Y) (F : Nat → List V) (h0 : F 0 = []) (hG : ∀ H', Same H H' → G H')
    (hs : ∀ D i x H1 H2, H D = none → i < n → Same H H1 → H1 D = some (.lst (F i)) → Y i H1 x H2 → g x (wipe σ vs) H2 fun σ2 H3 => wipe σ2 vs = wipe σ vs ∧ tt σ2 H3 fun b H4 => if b = true then te σ2 H4 fun y H5 => ∃ acc, H5 D = some (.lst acc) ∧ acc.length < sizeLine ∧ LcAt H D (F (i + 1)) (upd H5 D (.lst (acc ++ [y]))) else LcAt H D (F (i + 1)) H4)
    (hd : ∀ D H', H D = none → Same H H' → H' D = some (.lst (F n)) → Q (.ref D) H') :
    ∀ D, H D = none → ∃ W : Nat → Nat → Hp → Prop, (∃ m, W 0 m (upd H D (.lst []))) ∧ ∀ i m H, W i m H →
      (J.stop i H ∧ Q (.ref D) H) ∨ (J.go i H ∧ ∃ Nx : Hp → Prop, (∀ H', Nx H' → ∃ m', m' < m ∧ W (i + 1) m' H') ∧ ∀ x H', J.yld i H x H' → g x (wipe σ vs) H' fun σ2 H2 => wipe σ2 vs = wipe σ vs ∧ tt σ2 H2 fun b H3 =>
        if b = true then te σ2 H3 fun y H4 => ∃ acc, H4 D = some (.lst acc) ∧ acc.length < sizeLine ∧ Nx (upd H4 D (.lst (acc ++ [y]))) else Nx H3) := fun D hD =>
  lc_it w (Qd := fun H => Q (.ref D) H) (fun i H' => LcAt H D (F i) H') ⟨Same.new hD, by rw [upd_same, h0]⟩ (fun i H' _ p => hG H' p.1) (fun i x H1 H2 hi p y => hs D i x H1 H2 hD hi p.1 p.2 y) (fun H' p => hd D H' hD p.1 p.2)
theorem g_lc {J : It} {n : Nat} {G : Hp → Prop} {Y : Nat → Hp → V → Hp → Prop} {wi : TI} {g : TG} {tt : TT} {te : TE} {vs : List Nat} {σ : L2.St} {H : Hp} {Q : VK} (w : Walk J n G Y) (hwi : ∀ R : It → Hp → Prop, R J H → wi σ H R) (F : Nat → List V) (h0 : F 0 = []) (hG : ∀ H', Same H H' → G H')
    (hs : ∀ D i x H1 H2, H D = none → i < n → Same H H1 → H1 D = some (.lst (F i)) → Y i H1 x H2 → g x (wipe σ vs) H2 fun σ2 H3 => wipe σ2 vs = wipe σ vs ∧ tt σ2 H3 fun b H4 => if b = true then te σ2 H4 fun y H5 => ∃ acc, H5 D = some (.lst acc) ∧ acc.length < sizeLine ∧ LcAt H D (F (i + 1)) (upd H5 D (.lst (acc ++ [y]))) else LcAt H D (F (i + 1)) H4)
    (hd : ∀ D H', H D = none → Same H H' → H' D = some (.lst (F n)) → Q (.ref D) H') : tLc wi g tt te vs σ H Q := hwi _ (g_lcW w F h0 hG hs hd)
theorem g_forS {J : It} {n : Nat} {G : Hp → Prop} {Y : Nat → Hp → V → Hp → Prop} {wi : TI} {g : TG} {tb : TS} {D : Ends} {σ : L2.St} {H : Hp} (w : Walk J n G Y) (hwi : ∀ R : It → Hp → Prop, R J H → wi σ H R) (Pv : Nat → L2.St → Hp → Prop) (h0 : Pv 0 σ H) (hG : ∀ i σ H, i ≤ n → Pv i σ H → G H)
    (hs : ∀ i x σ H H', i < n → Pv i σ H → Y i H x H' → g x σ H' fun σ2 H2 => tb { D with nx := Pv (i + 1), ct := Pv (i + 1), bk := D.nx } σ2 H2) (hd : ∀ σ H, Pv n σ H → D.nx σ H) : tFor wi g tb D σ H := hwi _ (for_it w Pv h0 hG hs hd)
theorem g_listSk {z : Str} {H : Hp} {Q : VK} (hl : z.length ≤ sizeLine) (k : ∀ l H2, H l = none → Same H H2 → H2 l = some (.lst (signsV z)) → Q (.ref l) H2) : rListS [.str z] H Q := g_listS hl fun l hn => k l _ hn (Same.new hn) upd_same
end Sm
/-! SmStep: steps that need nothing, found by their heads. -/
namespace Sm
open PySem PySem.Spec PyProof.Rows L2
/-- g is shown by s -/
class Stp (g : Prop) (s : outParam Prop) : Prop where
  h : s → g
class Stn (g : Prop) (s : outParam Prop) : Prop where
  h : s → g
/-- one step and as many as go -/
class Stq (g : Prop) (s : outParam Prop) : Prop where
  h : s → g
instance (priority := low) stn_refl {g : Prop} : Stn g g := ⟨id⟩
instance stn_more {g s r : Prop} [a : Stp g s] [b : Stn s r] : Stn g r := ⟨fun q => a.h (b.h q)⟩
instance stq_of {g s r : Prop} [a : Stp g s] [b : Stn s r] : Stq g r := ⟨fun q => a.h (b.h q)⟩
/-- slot i of σ holds v; σ' is σ with v at i -/
class Get (σ : L2.St) (i : Nat) (v : outParam V) : Prop where
  h : σ[i]? = some (some v)
class Put (σ : L2.St) (i : Nat) (v : V) (σ' : outParam L2.St) : Prop where
  h : σ.set i (some v) = σ'
instance get_0 {v : V} {r : L2.St} : Get (some v :: r) 0 v := ⟨rfl⟩
instance get_s {a : Option V} {r : L2.St} {i : Nat} {v : V} [g : Get r i v] : Get (a :: r) (i + 1) v := ⟨by rw [List.getElem?_cons_succ]; exact g.h⟩
instance put_0 {v : V} {a : Option V} {r : L2.St} : Put (a :: r) 0 v (some v :: r) := ⟨rfl⟩
instance put_s {a : Option V} {r r' : L2.St} {i : Nat} {v : V} [g : Put r i v r'] : Put (a :: r) (i + 1) v (a :: r') := ⟨by rw [List.set_cons_succ, g.h]⟩
section
variable {K : PySem.W.Frag} {σ σ' : L2.St} {H : Hp} {ta tb tc te tx : TE} {t u : TT} {x y z v : V} {r : R2} {Q : VK} {D : Ends} {tu tw tz : TS} {g : TG} {k : Nat} {l : TA}
instance i_var {i : Nat} [a : Get σ i v] : Stp (tVar i σ H Q) (Q v H) := ⟨fun q => ⟨v, a.h, q⟩⟩
instance i_c : Stp (tC v σ H Q) (Q v H) := ⟨id⟩
instance i_op : Stp (tOp r ta tb σ H Q) (ta σ H fun x H1 => tb σ H1 fun y H2 => r x y H2 Q) := ⟨id⟩
instance i_un {r : V → Hp → VK → Prop} : Stp (tUn r ta σ H Q) (ta σ H fun x H1 => r x H1 Q) := ⟨id⟩
instance i_I0 {f : Int → Int → V} {i j : Int} : Stp (rI0 f (.int i) (.int j) H Q) (Q (f i j) H) := ⟨g_I0⟩
instance i_U {f : Int → V} {i : Int} : Stp (rU f (.int i) H Q) (Q (f i) H) := ⟨g_U⟩
instance i_addI {i j : Int} : Stp (rAddU (.int i) (.int j) H Q) (Q (.int (i + j)) H) := ⟨g_addI⟩
instance i_isN1 : Stp (rIsN .non .non H Q) (Q (.bl true) H) := ⟨g_isN1⟩
instance i_notN1 : Stp (rNotN .non .non H Q) (Q (.bl false) H) := ⟨g_notN1⟩
instance i_isNr {a : Addr} : Stp (rIsN (.ref a) .non H Q) (Q (.bl false) H) := ⟨g_isNr⟩
instance i_notNr {a : Addr} : Stp (rNotN (.ref a) .non H Q) (Q (.bl true) H) := ⟨g_notNr⟩
theorem g_isNi {i : Int} (q : Q (.bl false) H) : rIsN (.int i) .non H Q := ⟨rfl, by rw [decide_eq_false (fun z => by cases z)]; exact q⟩
theorem g_notNi {i : Int} (q : Q (.bl true) H) : rNotN (.int i) .non H Q := ⟨rfl, by rw [decide_eq_false (fun z => by cases z)]; exact q⟩
theorem g_isNs {i : Str} (q : Q (.bl false) H) : rIsN (.str i) .non H Q := ⟨rfl, by rw [decide_eq_false (fun z => by cases z)]; exact q⟩
theorem g_notNs {i : Str} (q : Q (.bl true) H) : rNotN (.str i) .non H Q := ⟨rfl, by rw [decide_eq_false (fun z => by cases z)]; exact q⟩
theorem g_isNb {i : Bool} (q : Q (.bl false) H) : rIsN (.bl i) .non H Q := ⟨rfl, by rw [decide_eq_false (fun z => by cases z)]; exact q⟩
theorem g_notNb {i : Bool} (q : Q (.bl true) H) : rNotN (.bl i) .non H Q := ⟨rfl, by rw [decide_eq_false (fun z => by cases z)]; exact q⟩
instance i_isNi {i : Int} : Stp (rIsN (.int i) .non H Q) (Q (.bl false) H) := ⟨g_isNi⟩
instance i_notNi {i : Int} : Stp (rNotN (.int i) .non H Q) (Q (.bl true) H) := ⟨g_notNi⟩
instance i_isNs {i : Str} : Stp (rIsN (.str i) .non H Q) (Q (.bl false) H) := ⟨g_isNs⟩
instance i_notNs {i : Str} : Stp (rNotN (.str i) .non H Q) (Q (.bl true) H) := ⟨g_notNs⟩
instance i_isNb {i : Bool} : Stp (rIsN (.bl i) .non H Q) (Q (.bl false) H) := ⟨g_isNb⟩
instance i_notNb {i : Bool} : Stp (rNotN (.bl i) .non H Q) (Q (.bl true) H) := ⟨g_notNb⟩
instance i_eqII {i j : Int} : Stp (rEqU K (.int i) (.int j) H Q) (Q (.bl (decide (i = j))) H) := ⟨g_eqII⟩
instance i_neII {i j : Int} : Stp (rNeU K (.int i) (.int j) H Q) (Q (.bl (!decide (i = j))) H) := ⟨g_neII⟩
instance i_eqSS {i j : Str} : Stp (rEqU K (.str i) (.str j) H Q) (Q (.bl (decide (i = j))) H) := ⟨g_eqSS⟩
instance i_neSS {i j : Str} : Stp (rNeU K (.str i) (.str j) H Q) (Q (.bl (!decide (i = j))) H) := ⟨g_neSS⟩
instance i_inS {c : Nat} {z : Str} : Stp (rInU K (.str ⟨#[c]⟩) (.str z) H Q) (Q (.bl (decide (c ∈ z.cps.toList))) H) := ⟨g_inS⟩
instance i_niS {c : Nat} {z : Str} : Stp (rNiU K (.str ⟨#[c]⟩) (.str z) H Q) (Q (.bl (!decide (c ∈ z.cps.toList))) H) := ⟨g_niS⟩
instance i_and : Stp (tAndV ta tb σ H Q) (ta σ H fun x H1 => ∃ c, x = .bl c ∧ if c = true then tb σ H1 Q else Q (.bl false) H1) := ⟨id⟩
instance i_or : Stp (tOrV ta tb σ H Q) (ta σ H fun x H1 => ∃ c, x = .bl c ∧ if c = true then Q (.bl true) H1 else tb σ H1 Q) := ⟨id⟩
instance i_not : Stp (tNotV ta σ H Q) (ta σ H fun x H1 => ∃ c, x = .bl c ∧ Q (.bl (!c)) H1) := ⟨id⟩
instance i_if : Stp (tIf t ta tb σ H Q) (t σ H fun c H1 => if c = true then ta σ H1 Q else tb σ H1 Q) := ⟨id⟩
instance i_exb {R : Bool → Prop} {c : Bool} : Stp (∃ d, V.bl c = .bl d ∧ R d) (R c) := ⟨g_bl⟩
instance i_exi {R : Int → Prop} {c : Int} : Stp (∃ d, V.int c = .int d ∧ R d) (R c) := ⟨g_int⟩
instance i_exs {R : Str → Prop} {c : Str} : Stp (∃ d, V.str c = .str d ∧ R d) (R c) := ⟨g_str⟩
instance i_btru {R : Bool → Prop} {k : Bool} : Stp (∃ j, TruV K (.bl k) H j ∧ R j) (R k) := ⟨g_btru⟩
instance i_par2 {R : V → V → Prop} : Stp (∃ v w, ([x, y] : List V) = [v, w] ∧ R v w) (R x y) := ⟨g_par2⟩
instance i_cons {R : List V → Hp → Prop} : Stp (tCons ta l σ H R) (ta σ H fun x H1 => l σ H1 fun xs H2 => R (x :: xs) H2) := ⟨id⟩
instance i_nil {R : List V → Hp → Prop} : Stp (tNil σ H R) (R [] H) := ⟨id⟩
instance i_CB {r : List V → Hp → VK → Prop} : Stp (tCB r l σ H Q) (l σ H fun xs H1 => r xs H1 Q) := ⟨id⟩
instance i_call {sp : Sp} {E : XK} : Stp (tCall sp [] E l σ H Q) (l σ H fun vs H1 => sp (vs ++ []) H1 Q E) := ⟨id⟩
instance i_callS {sp : Sp} {E : L2.St → XK} : Stp (tCallS sp E l σ H Q) (l σ H fun vs H1 => sp vs H1 Q (E σ)) := ⟨id⟩
/-- a new tuple, a new list of xs -/
def NewT (xs : List V) (H : Hp) (Q : VK) : Prop := xs.length ≤ sizeLine ∧ ∀ p, H p = none → Q (.ref p) (upd H p (.tup xs))
def NewL (xs : List V) (H : Hp) (Q : VK) : Prop := xs.length ≤ sizeLine ∧ ∀ p, H p = none → Q (.ref p) (upd H p (.lst xs))
theorem g_newTt {xs : List V} (hn : xs.length ≤ sizeLine) (k : ∀ p H2, H p = none → Same H H2 → H2 p = some (.tup xs) → Q (.ref p) H2) : NewT xs H Q := g_newT hn k
theorem g_newLl {xs : List V} (hn : xs.length ≤ sizeLine) (k : ∀ p H2, H p = none → Same H H2 → H2 p = some (.lst xs) → Q (.ref p) H2) : NewL xs H Q := g_newL hn k
instance i_tup : Stp (tTup l σ H Q) (l σ H fun xs H1 => NewT xs H1 Q) := ⟨id⟩
instance i_lst : Stp (tLst l σ H Q) (l σ H fun xs H1 => NewL xs H1 Q) := ⟨id⟩
instance i_seq : Stp (tSeq tu tw D σ H) (tu { D with nx := tw D } σ H) := ⟨id⟩
instance i_asg : Stp (tAsg te g D σ H) (te σ H fun x H1 => g x σ H1 D.nx) := ⟨id⟩
instance i_name {i : Nat} {R : L2.St → Hp → Prop} [a : Put σ i v σ'] : Stp (gName i v σ H R) (R σ' H) := ⟨fun q => by
  show R (σ.set i (some v)) H
  rw [a.h]
  exact q⟩
instance i_ret : Stp (tRet te D σ H) (te σ H D.rt) := ⟨id⟩
instance i_ifS : Stp (tIfS t tu tw D σ H) (t σ H fun b H1 => if b = true then tu D σ H1 else tw D σ H1) := ⟨id⟩
instance i_test {R : Bool → Hp → Prop} : Stp (tTest te σ H R) (te σ H fun x H' => ∃ k, x = .bl k ∧ R k H') := ⟨id⟩
instance i_B {R : Bool → Hp → Prop} : Stp (tB te σ H R) (te σ H fun x H' => ∃ k, x = .bl k ∧ R k H') := ⟨id⟩
instance i_tand {R : Bool → Hp → Prop} : Stp (tAnd t u σ H R) (t σ H fun b H1 => if b = true then u σ H1 R else R false H1) := ⟨id⟩
instance i_tor {R : Bool → Hp → Prop} : Stp (tOr t u σ H R) (t σ H fun b H1 => if b = true then R true H1 else u σ H1 R) := ⟨id⟩
instance i_tnot {R : Bool → Hp → Prop} : Stp (tNot t σ H R) (t σ H fun b H1 => R (!b) H1) := ⟨id⟩
instance i_next : Stp (tNext D σ H) (D.nx σ H) := ⟨id⟩
instance i_drop : Stp (tDrop te D σ H) (te σ H fun _ H1 => D.nx σ H1) := ⟨id⟩
instance i_retN : Stp (tRetN D σ H) (D.rt .non H) := ⟨id⟩
instance i_par {i j : Nat} : Stp (tPar i j l D σ H) (l σ H fun vs H1 => ∃ v w, vs = [v, w] ∧ gName i v σ H1 fun σ1 H2 => gName j w σ1 H2 D.nx) := ⟨id⟩
instance i_sl {r : V → Option Int → Option Int → Hp → VK → Prop} {tl th : TO} : Stp (tSl r te tl th σ H Q) (te σ H fun x H1 => tl σ H1 fun l H2 => th σ H2 fun u H3 => r x l u H3 Q) := ⟨id⟩
instance i_po0 {R : Option Int → Hp → Prop} : Stp (tNoPart σ H R) (R none H) := ⟨id⟩
instance i_po1 {R : Option Int → Hp → Prop} : Stp (tPart te σ H R) (te σ H fun x H1 => ∃ i, x = .int i ∧ R (some i) H1) := ⟨id⟩
instance i_abs {i : Int} : Stp (rAbs [.int i] H Q) (Q (.int (i.natAbs : Nat)) H) := ⟨g_abs⟩
instance i_min {i j : Int} : Stp (rMin2 [.int i, .int j] H Q) (Q (.int (if j < i then j else i)) H) := ⟨g_min⟩
instance i_max {i j : Int} : Stp (rMax2 [.int i, .int j] H Q) (Q (.int (if j > i then j else i)) H) := ⟨g_max⟩
instance i_intI {i : Int} : Stp (rIntU [.int i] H Q) (Q (.int i) H) := ⟨g_intI⟩
instance i_intB {b : Bool} : Stp (rIntU [.bl b] H Q) (Q (.int (if b then 1 else 0)) H) := ⟨g_intB⟩
instance i_T {A B : Prop} : Stp (if true = true then A else B) A := ⟨iteT⟩
instance i_F {A B : Prop} : Stp (if false = true then A else B) B := ⟨iteF⟩
instance i_nT {A B : Prop} : Stp (if (!true) = true then A else B) B := ⟨iteF⟩
instance i_nF {A B : Prop} : Stp (if (!false) = true then A else B) A := ⟨iteT⟩
theorem g_augV {i : Nat} {f : Int → Int → Int} {a : Int} (h : Get σ i (.int a)) (q : te σ H fun y H1 => ∃ b, y = .int b ∧ gName i (.int (f a b)) σ H1 D.nx) : tAug i te (ipI f) D σ H := g_aug h.h q
instance i_aug {i : Nat} {f : Int → Int → Int} {a : Int} [h : Get σ i (.int a)] : Stp (tAug i te (ipI f) D σ H) (te σ H fun y H1 => ∃ b, y = .int b ∧ gName i (.int (f a b)) σ H1 D.nx) := ⟨g_augV h⟩
/-- a part of an f-string -/
def FmtV (x : V) (H : Hp) (Q : VK) : Prop := (∃ y : Str, x = .str y ∧ y.length ≤ sizeLine ∧ Q (.str y) H) ∨ ∃ i : Int, x = .int i ∧ i.natAbs.log2 < 1920 ∧ Q (.str (toString i)) H
theorem g_fmtI {i : Int} (h : i.natAbs.log2 < 1920) (q : Q (.str (toString i)) H) : FmtV (.int i) H Q := .inr ⟨i, rfl, h, q⟩
theorem g_fmtS {z : Str} (h : z.length ≤ sizeLine) (q : Q (.str z) H) : FmtV (.str z) H Q := .inl ⟨z, rfl, h, q⟩
instance i_fmt : Stp (tFmt te σ H Q) (te σ H fun x H1 => FmtV x H1 Q) := ⟨id⟩
instance i_js0 {acc : Str} {R : Str → Hp → Prop} : Stp (tJs [] acc σ H R) (R acc H) := ⟨id⟩
instance i_js1 {acc : Str} {R : Str → Hp → Prop} {ts : List TE} : Stp (tJs (te :: ts) acc σ H R) (te σ H fun x H1 => ∃ y : Str, x = .str y ∧ (acc ++ y).length ≤ sizeLine ∧ tJs ts (acc ++ y) σ H1 R) := ⟨id⟩
theorem g_len {z : Str} {A : Prop} (h : z.length ≤ sizeLine) (a : A) : z.length ≤ sizeLine ∧ A := ⟨h, a⟩
/-- the unpacking of a tuple that is known -/
theorem g_gTup {n : Nat} {t : TGs} {p : Addr} {xs : List V} {R : L2.St → Hp → Prop} (h : SqT K H p xs) (hl : xs.length = n) (q : t xs σ H R) : gTup K n t (.ref p) σ H R := ⟨p, xs, rfl, h, hl, q⟩
instance i_gCons {g : TG} {t : TGs} {xs : List V} {R : L2.St → Hp → Prop} : Stp (gCons g t (x :: xs) σ H R) (g x σ H fun σ1 H1 => t xs σ1 H1 R) := ⟨fun q => ⟨x, xs, rfl, q⟩⟩
instance i_gNil {R : L2.St → Hp → Prop} : Stp (gNil [] σ H R) (R σ H) := ⟨fun q => ⟨rfl, q⟩⟩
instance i_gSub {to ti : TE} {ts : TSet} {R : L2.St → Hp → Prop} : Stp (gSub to ti ts v σ H R) (to σ H fun o H1 => ti σ H1 fun i H2 => ts o i v H2 fun H3 => R σ H3) := ⟨id⟩
theorem g_tM1 {r : V → List V → Hp → VK → Prop} (h : ta σ H fun x H1 => (∃ a, x = .str a) ∧ tb σ H1 fun y H2 => r x [y] H2 Q) : tM1 r ta tb σ H Q := h
instance i_tM1 {r : V → List V → Hp → VK → Prop} : Stp (tM1 r ta tb σ H Q) (ta σ H fun x H1 => (∃ a, x = .str a) ∧ tb σ H1 fun y H2 => r x [y] H2 Q) := ⟨id⟩
instance i_isStr {z : Str} {A : Prop} : Stp ((∃ a, V.str z = .str a) ∧ A) A := ⟨fun q => ⟨⟨z, rfl⟩, q⟩⟩
theorem g_split {a b : Str} (h1 : (b.length == 0) = false) (h2 : a.length + 2 ≤ sizeLine) (k : ∀ p H', H p = none → Same H H' → H' p = some (.lst ((PySem.Txt.split a b).map V.str)) → Q (.ref p) H') : ∃ a' b', V.str a = .str a' ∧ [V.str b] = [.str b'] ∧ (b'.length == 0) = false ∧ a'.length + 2 ≤ sizeLine ∧ rNewStrs (PySem.Txt.split a' b') H Q :=
  ⟨a, b, rfl, rfl, h1, h2, fun p hp => k p _ hp (Same.new hp) upd_same⟩
-- a test's truth, known kinds of a value
instance (priority := high) i_isiII {i : Int} : Stp (rIsi K [.int i, .ty "int"] H Q) (Q (.bl true) H) := ⟨g_intT ty_int rfl⟩
instance i_isiIB {i : Int} : Stp (rIsi K [.int i, .ty "bool"] H Q) (Q (.bl false) H) := ⟨g_boolF ty_int rfl⟩
instance i_isiIS {i : Int} : Stp (rIsi K [.int i, .ty "str"] H Q) (Q (.bl false) H) := ⟨g_strF ty_int rfl⟩
instance i_isiIT {i : Int} : Stp (rIsi K [.int i, .ty "tuple"] H Q) (Q (.bl false) H) := ⟨g_tupleF ty_int rfl⟩
instance i_isiIL {i : Int} : Stp (rIsi K [.int i, .ty "list"] H Q) (Q (.bl false) H) := ⟨g_listF ty_int rfl⟩
instance i_isiID {i : Int} : Stp (rIsi K [.int i, .ty "dict"] H Q) (Q (.bl false) H) := ⟨g_dictF ty_int rfl⟩
instance i_isiBI {i : Bool} : Stp (rIsi K [.bl i, .ty "int"] H Q) (Q (.bl true) H) := ⟨g_intT ty_bl rfl⟩
instance i_isiBB {i : Bool} : Stp (rIsi K [.bl i, .ty "bool"] H Q) (Q (.bl true) H) := ⟨g_boolT ty_bl rfl⟩
instance i_isiBS {i : Bool} : Stp (rIsi K [.bl i, .ty "str"] H Q) (Q (.bl false) H) := ⟨g_strF ty_bl rfl⟩
instance i_isiBT {i : Bool} : Stp (rIsi K [.bl i, .ty "tuple"] H Q) (Q (.bl false) H) := ⟨g_tupleF ty_bl rfl⟩
instance i_isiBL {i : Bool} : Stp (rIsi K [.bl i, .ty "list"] H Q) (Q (.bl false) H) := ⟨g_listF ty_bl rfl⟩
instance i_isiBD {i : Bool} : Stp (rIsi K [.bl i, .ty "dict"] H Q) (Q (.bl false) H) := ⟨g_dictF ty_bl rfl⟩
instance i_isiSI {i : Str} : Stp (rIsi K [.str i, .ty "int"] H Q) (Q (.bl false) H) := ⟨g_intF ty_str rfl⟩
instance i_isiSB {i : Str} : Stp (rIsi K [.str i, .ty "bool"] H Q) (Q (.bl false) H) := ⟨g_boolF ty_str rfl⟩
instance i_isiSS {i : Str} : Stp (rIsi K [.str i, .ty "str"] H Q) (Q (.bl true) H) := ⟨g_strT ty_str rfl⟩
instance i_isiST {i : Str} : Stp (rIsi K [.str i, .ty "tuple"] H Q) (Q (.bl false) H) := ⟨g_tupleF ty_str rfl⟩
instance i_isiSL {i : Str} : Stp (rIsi K [.str i, .ty "list"] H Q) (Q (.bl false) H) := ⟨g_listF ty_str rfl⟩
instance i_isiSD {i : Str} : Stp (rIsi K [.str i, .ty "dict"] H Q) (Q (.bl false) H) := ⟨g_dictF ty_str rfl⟩
instance i_isiNI : Stp (rIsi K [.non, .ty "int"] H Q) (Q (.bl false) H) := ⟨g_intF ty_non rfl⟩
instance i_isiNB : Stp (rIsi K [.non, .ty "bool"] H Q) (Q (.bl false) H) := ⟨g_boolF ty_non rfl⟩
instance i_isiNS : Stp (rIsi K [.non, .ty "str"] H Q) (Q (.bl false) H) := ⟨g_strF ty_non rfl⟩
instance i_isiNT : Stp (rIsi K [.non, .ty "tuple"] H Q) (Q (.bl false) H) := ⟨g_tupleF ty_non rfl⟩
instance i_isiNL : Stp (rIsi K [.non, .ty "list"] H Q) (Q (.bl false) H) := ⟨g_listF ty_non rfl⟩
instance i_isiND : Stp (rIsi K [.non, .ty "dict"] H Q) (Q (.bl false) H) := ⟨g_dictF ty_non rfl⟩
end
end Sm
set_option synthInstance.maxSize 100000
set_option synthInstance.maxHeartbeats 0
local macro_rules | `(tactic| wtm_at "sm") => `(tactic| first | exact L2.Same.refl _ | assumption | (refine L2.Same.trans ?_ (by assumption); wtm_at "sm") | (refine Sm.dl_both ?_; wtm_at "sm") | (refine Sm.dl_of ?_; wtm_at "sm"))
local macro_rules | `(tactic| wtm_at "at") => `(tactic| first | assumption | exact Sm.dpn | exact Sm.dpi _ | exact Sm.dps _ | exact Sm.dpb _ | exact Sm.tup_at (by assumption) (by wtm_at "sm") | exact Sm.lst_at (by assumption) (by wtm_at "sm") | exact Sm.seqT_at (by assumption) (by wtm_at "sm") | exact Sm.seqL_at (by assumption) (by wtm_at "sm") | exact Sm.dp_at (by assumption) (by wtm_at "sm") | exact Sm.dp_t2 (by assumption) (by wtm_at "sm"))
local macro_rules | `(tactic| wtm_at "ty") => `(tactic| first | exact Sm.ty_int | exact Sm.ty_bl | exact Sm.ty_str | exact Sm.ty_non | exact Sm.ty_tup (by wtm_at "at") | exact Sm.ty_lst (by wtm_at "at") | exact Sm.ty_dp (by wtm_at "at"))
local macro_rules | `(tactic| wtm_at "sd") => `(tactic| first | assumption | omega | decide | rfl | decide +kernel | (refine Sm.len_le ?_; first | omega | (simp only [Sm.len_app, Sm.len_emp]; omega) | exact Nat.le_of_ble_eq_true rfl) | (simp only [List.length_cons, List.length_nil]; omega))
local macro_rules | `(tactic| wtm_at "tt") => `(tactic| first | (with_reducible assumption) | (with_reducible rfl) | omega | decide | (simp only [List.length_cons, List.length_nil]; omega))
local macro_rules | `(tactic| wtm_at "st") => `(tactic| first
  | with_reducible refine Sm.Stq.h ?_
  | ((with_reducible apply Sm.g_ixT); (focus (wtm_at "at")); (focus (first | assumption | rfl)))
  | ((with_reducible apply Sm.g_ixL); (focus (wtm_at "at")); (focus (first | assumption | rfl)))
  | ((with_reducible apply Sm.g_ixS); (focus (wtm_at "sd")); (focus (assumption)))
  | ((with_reducible apply Sm.g_newTt); (focus (exact Nat.le_of_ble_eq_true rfl)); intro p H2 hn he hp)
  | ((with_reducible apply Sm.g_newLl); (focus (exact Nat.le_of_ble_eq_true rfl)); intro p H2 hn he hp)
  | ((with_reducible apply Sm.g_newT); (focus (exact Nat.le_of_ble_eq_true rfl)); intro p H2 hn he hp)
  | ((with_reducible apply Sm.g_newL); (focus (exact Nat.le_of_ble_eq_true rfl)); intro p H2 hn he hp)
  | ((with_reducible apply Sm.g_newA); intro p H2 hn he hp)
  | ((with_reducible apply Sm.g_mkSup))
  | ((with_reducible apply Sm.g_sup1); intro d H2 he hd)
  | ((with_reducible apply Sm.g_mod); (focus (wtm_at "sd")))
  | ((with_reducible apply Sm.g_mul); (focus (first | assumption | exact Sm.mulL (by omega) (by omega) | exact Sm.mulR (by omega) (by omega))))
  | ((with_reducible apply Sm.g_fdiv); (focus (wtm_at "sd")); (focus (first | assumption | solve_by_elim | exact Sm.pyS (by omega) (by omega))))
  | ((with_reducible apply Sm.g_addS); (focus (wtm_at "sd")))
  | ((with_reducible apply Sm.g_fmtI); (focus (wtm_at "sd")))
  | ((with_reducible apply Sm.g_fmtS); (focus (wtm_at "sd")))
  | ((with_reducible apply Sm.g_strI); (focus (wtm_at "sd")))
  | ((with_reducible apply Sm.g_len); (focus (wtm_at "sd")))
  | ((with_reducible apply Sm.g_gTup); (focus (wtm_at "at")); (focus (rfl)))
  | ((with_reducible apply Sm.g_lenS); (focus (wtm_at "sd")))
  | ((with_reducible apply Sm.g_lenT); (focus (wtm_at "at")))
  | ((with_reducible apply Sm.g_lenL); (focus (wtm_at "at")))
  | ((with_reducible apply Sm.g_slS); (focus (wtm_at "sd")))
  | ((with_reducible apply Sm.g_neD); (focus (wtm_at "at")); (focus (wtm_at "at")); (focus (first | assumption | rfl)); (focus (first | assumption | rfl)))
  | ((with_reducible apply Sm.g_eqD); (focus (wtm_at "at")); (focus (wtm_at "at")); (focus (first | assumption | rfl)); (focus (first | assumption | rfl)))
  | ((with_reducible apply Sm.g_inT); (focus (wtm_at "at")); (focus (rfl)); (focus (rfl)))
  | ((with_reducible apply Sm.g_inL); (focus (wtm_at "at")); (focus (rfl)); (focus (rfl)))
  | ((with_reducible apply Sm.g_listSk); (focus (wtm_at "sd")); intro p H2 hn he hp)
  | ((with_reducible apply Sm.g_split); (focus (decide)); (focus (wtm_at "sd")); intro p H2 hn he hp)
  | ((with_reducible apply Sm.g_powL); (focus (exact Sm.lit _)); (focus (decide +kernel)))
  | ((with_reducible apply Sm.g_setL0); (focus (assumption)); intro H' hs hp)
  | ((with_reducible apply Sm.g_setL1); (focus (assumption)); intro H' hs hp)
  | ((with_reducible apply Sm.g_setL2); (focus (assumption)); intro H' hs hp)
  | ((with_reducible apply Sm.g_intS); (focus (assumption)); (focus (wtm_at "sd")))
  | ((with_reducible apply Sm.g_tupleT); (focus (wtm_at "ty")); (focus (rfl)))
  | ((with_reducible apply Sm.g_tupleF); (focus (wtm_at "ty")); (focus (rfl)))
  | ((with_reducible apply Sm.g_intF); (focus (wtm_at "ty")); (focus (rfl)))
  | ((with_reducible apply Sm.g_boolF); (focus (wtm_at "ty")); (focus (rfl)))
  | ((with_reducible apply Sm.g_strF); (focus (wtm_at "ty")); (focus (rfl)))
  | ((with_reducible apply Sm.g_strT); (focus (wtm_at "ty")); (focus (rfl)))
  | ((with_reducible apply Sm.g_listT); (focus (wtm_at "ty")); (focus (rfl)))
  | ((with_reducible apply Sm.g_listF); (focus (wtm_at "ty")); (focus (rfl)))
  | ((with_reducible apply Sm.g_dictF); (focus (wtm_at "ty")); (focus (rfl)))
  | ((with_reducible apply Sm.g_yes); (focus (wtm_at "tt")))
  | ((with_reducible apply Sm.g_no); (focus (wtm_at "tt")))
  | ((with_reducible apply Sm.g_nyes); (focus (wtm_at "tt")))
  | ((with_reducible apply Sm.g_nno); (focus (wtm_at "tt")))
  | ((with_reducible apply Sm.g_nbyes); (focus (with_reducible assumption)))
  | ((with_reducible apply Sm.g_nbno); (focus (with_reducible assumption)))
  | ((with_reducible apply Sm.g_byes); (focus (with_reducible assumption)))
  | ((with_reducible apply Sm.g_bno); (focus (with_reducible assumption)))
  | ((with_reducible apply Sm.g_ite) <;> intro hc)
  | ((with_reducible apply Sm.g_niteD) <;> intro hc)
  | ((with_reducible apply Sm.g_niteB) <;> intro hc)
  | ((with_reducible apply Sm.g_iteB) <;> intro hc))
namespace K01
open PySem PySem.Spec PyProof.Rows L2
@[irreducible] def BW : Int := ((10 ^ 4000 : Nat) : Int)
def topS (i : Nat) : Stmt := PySem.Challenge.pw_sumstead_k01_whole_texts_of_worths.main.body.getD i (.Pass ⟨0, 0, 0, 0⟩)
abbrev FD (K : PySem.W.Frag) (x : Str) (st : Stmt) (f : Addr) (fd : FuncData) : Prop := FunD K x x (defArgs st) (defBody st) (defScope st) [] [] f fd
abbrev s_is_whole : Stmt := topS 9
abbrev N_is_whole : List Str := ["value"]
abbrev P_is_whole : List Str := ["value"]
theorem st_is_whole (a0 : V) : L2.start N_is_whole [a0] = [some a0] := rfl
theorem sc_is_whole : FnScope N_is_whole P_is_whole (defScope s_is_whole) := ⟨rfl, rfl, rfl, by decide +kernel, rfl, by decide +kernel, by decide +kernel⟩
abbrev s_greatest_divisor : Stmt := topS 10
abbrev N_greatest_divisor : List Str := ["one", "other"]
abbrev P_greatest_divisor : List Str := ["one", "other"]
theorem st_greatest_divisor (a0 a1 : V) : L2.start N_greatest_divisor [a0, a1] = [some a0, some a1] := rfl
theorem sc_greatest_divisor : FnScope N_greatest_divisor P_greatest_divisor (defScope s_greatest_divisor) := ⟨rfl, rfl, rfl, by decide +kernel, rfl, by decide +kernel, by decide +kernel⟩
abbrev s_lowest : Stmt := topS 11
abbrev N_lowest : List Str := ["top", "bottom", "divisor"]
abbrev P_lowest : List Str := ["top", "bottom"]
theorem st_lowest (a0 a1 : V) : L2.start N_lowest [a0, a1] = [some a0, some a1, none] := rfl
theorem sc_lowest : FnScope N_lowest P_lowest (defScope s_lowest) := ⟨rfl, rfl, rfl, by decide +kernel, rfl, by decide +kernel, by decide +kernel⟩
abbrev s_is_worth : Stmt := topS 12
abbrev N_is_worth : List Str := ["value"]
abbrev P_is_worth : List Str := ["value"]
theorem st_is_worth (a0 : V) : L2.start N_is_worth [a0] = [some a0] := rfl
theorem sc_is_worth : FnScope N_is_worth P_is_worth (defScope s_is_worth) := ⟨rfl, rfl, rfl, by decide +kernel, rfl, by decide +kernel, by decide +kernel⟩
abbrev s_is_long_worth : Stmt := topS 13
abbrev N_is_long_worth : List Str := ["value"]
abbrev P_is_long_worth : List Str := ["value"]
theorem st_is_long_worth (a0 : V) : L2.start N_is_long_worth [a0] = [some a0] := rfl
theorem sc_is_long_worth : FnScope N_is_long_worth P_is_long_worth (defScope s_is_long_worth) := ⟨rfl, rfl, rfl, by decide +kernel, rfl, by decide +kernel, by decide +kernel⟩
abbrev s_require_worth : Stmt := topS 14
abbrev N_require_worth : List Str := ["value"]
abbrev P_require_worth : List Str := ["value"]
theorem st_require_worth (a0 : V) : L2.start N_require_worth [a0] = [some a0] := rfl
theorem sc_require_worth : FnScope N_require_worth P_require_worth (defScope s_require_worth) := ⟨rfl, rfl, rfl, by decide +kernel, rfl, by decide +kernel, by decide +kernel⟩
abbrev s_require_operand : Stmt := topS 15
abbrev N_require_operand : List Str := ["value"]
abbrev P_require_operand : List Str := ["value"]
theorem st_require_operand (a0 : V) : L2.start N_require_operand [a0] = [some a0] := rfl
theorem sc_require_operand : FnScope N_require_operand P_require_operand (defScope s_require_operand) := ⟨rfl, rfl, rfl, by decide +kernel, rfl, by decide +kernel, by decide +kernel⟩
abbrev s_sum_in : Stmt := topS 16
abbrev N_sum_in : List Str := ["one", "other"]
abbrev P_sum_in : List Str := ["one", "other"]
theorem st_sum_in (a0 a1 : V) : L2.start N_sum_in [a0, a1] = [some a0, some a1] := rfl
theorem sc_sum_in : FnScope N_sum_in P_sum_in (defScope s_sum_in) := ⟨rfl, rfl, rfl, by decide +kernel, rfl, by decide +kernel, by decide +kernel⟩
abbrev s_plus : Stmt := topS 17
abbrev N_plus : List Str := ["one", "other"]
abbrev P_plus : List Str := ["one", "other"]
theorem st_plus (a0 a1 : V) : L2.start N_plus [a0, a1] = [some a0, some a1] := rfl
theorem sc_plus : FnScope N_plus P_plus (defScope s_plus) := ⟨rfl, rfl, rfl, by decide +kernel, rfl, by decide +kernel, by decide +kernel⟩
abbrev s_worth_words : Stmt := topS 18
abbrev N_worth_words : List Str := ["value"]
abbrev P_worth_words : List Str := ["value"]
theorem st_worth_words (a0 : V) : L2.start N_worth_words [a0] = [some a0] := rfl
theorem sc_worth_words : FnScope N_worth_words P_worth_words (defScope s_worth_words) := ⟨rfl, rfl, rfl, by decide +kernel, rfl, by decide +kernel, by decide +kernel⟩
abbrev s_worth_text : Stmt := topS 19
abbrev N_worth_text : List Str := ["worth"]
abbrev P_worth_text : List Str := ["worth"]
theorem st_worth_text (a0 : V) : L2.start N_worth_text [a0] = [some a0] := rfl
theorem sc_worth_text : FnScope N_worth_text P_worth_text (defScope s_worth_text) := ⟨rfl, rfl, rfl, by decide +kernel, rfl, by decide +kernel, by decide +kernel⟩
abbrev s_digits_end : Stmt := topS 20
abbrev N_digits_end : List Str := ["text", "spot", "is_above", "end"]
abbrev P_digits_end : List Str := ["text", "spot", "is_above"]
theorem st_digits_end (a0 a1 a2 : V) : L2.start N_digits_end [a0, a1, a2] = [some a0, some a1, some a2, none] := rfl
theorem sc_digits_end : FnScope N_digits_end P_digits_end (defScope s_digits_end) := ⟨rfl, rfl, rfl, by decide +kernel, rfl, by decide +kernel, by decide +kernel⟩
abbrev s_number_at : Stmt := topS 21
abbrev N_number_at : List Str := ["text", "spot", "begin", "end", "top", "last"]
abbrev P_number_at : List Str := ["text", "spot"]
theorem st_number_at (a0 a1 : V) : L2.start N_number_at [a0, a1] = [some a0, some a1, none, none, none, none] := rfl
theorem sc_number_at : FnScope N_number_at P_number_at (defScope s_number_at) := ⟨rfl, rfl, rfl, by decide +kernel, rfl, by decide +kernel, by decide +kernel⟩
abbrev s_nothing_end : Stmt := topS 22
abbrev N_nothing_end : List Str := ["text", "index", "sign"]
abbrev P_nothing_end : List Str := ["text"]
theorem st_nothing_end (a0 : V) : L2.start N_nothing_end [a0] = [some a0, none, none] := rfl
theorem sc_nothing_end : FnScope N_nothing_end P_nothing_end (defScope s_nothing_end) := ⟨rfl, rfl, rfl, by decide +kernel, rfl, by decide +kernel, by decide +kernel⟩
abbrev s_read_worth : Stmt := topS 23
abbrev N_read_worth : List Str := ["text", "found", "end"]
abbrev P_read_worth : List Str := ["text"]
theorem st_read_worth (a0 : V) : L2.start N_read_worth [a0] = [some a0, none, none] := rfl
theorem sc_read_worth : FnScope N_read_worth P_read_worth (defScope s_read_worth) := ⟨rfl, rfl, rfl, by decide +kernel, rfl, by decide +kernel, by decide +kernel⟩
abbrev s__law_dice : Stmt := topS 25
abbrev N__law_dice : List Str := ["_law_script", "_law_at", "_law_cell", "_law_great", "_law_left", "_law_mixed"]
abbrev P__law_dice : List Str := ["_law_script", "_law_at"]
theorem st__law_dice (a0 a1 : V) : L2.start N__law_dice [a0, a1] = [some a0, some a1, none, none, none, none] := rfl
theorem sc__law_dice : FnScope N__law_dice P__law_dice (defScope s__law_dice) := ⟨rfl, rfl, rfl, by decide +kernel, rfl, by decide +kernel, by decide +kernel⟩
abbrev s__law_roll : Stmt := topS 26
abbrev N__law_roll : List Str := ["_law_dice_here", "_law_total", "_law_size", "_law_drawn", "_law_one", "_law_two"]
abbrev P__law_roll : List Str := ["_law_dice_here", "_law_total"]
theorem st__law_roll (a0 a1 : V) : L2.start N__law_roll [a0, a1] = [some a0, some a1, none, none, none, none] := rfl
theorem sc__law_roll : FnScope N__law_roll P__law_roll (defScope s__law_roll) := ⟨rfl, rfl, rfl, by decide +kernel, rfl, by decide +kernel, by decide +kernel⟩
abbrev s__law_one_of : Stmt := topS 27
abbrev N__law_one_of : List Str := ["_law_dice_here", "_law_items"]
abbrev P__law_one_of : List Str := ["_law_dice_here", "_law_items"]
theorem st__law_one_of (a0 a1 : V) : L2.start N__law_one_of [a0, a1] = [some a0, some a1] := rfl
theorem sc__law_one_of : FnScope N__law_one_of P__law_one_of (defScope s__law_one_of) := ⟨rfl, rfl, rfl, by decide +kernel, rfl, by decide +kernel, by decide +kernel⟩
abbrev s__law_lowest : Stmt := topS 28
abbrev N__law_lowest : List Str := ["_law_top", "_law_bottom", "_law_one", "_law_other"]
abbrev P__law_lowest : List Str := ["_law_top", "_law_bottom"]
theorem st__law_lowest (a0 a1 : V) : L2.start N__law_lowest [a0, a1] = [some a0, some a1, none, none] := rfl
theorem sc__law_lowest : FnScope N__law_lowest P__law_lowest (defScope s__law_lowest) := ⟨rfl, rfl, rfl, by decide +kernel, rfl, by decide +kernel, by decide +kernel⟩
abbrev s__law_integer : Stmt := topS 29
abbrev N__law_integer : List Str := ["_law_dice_here", "_law_lot"]
abbrev P__law_integer : List Str := ["_law_dice_here"]
theorem st__law_integer (a0 : V) : L2.start N__law_integer [a0] = [some a0, none] := rfl
theorem sc__law_integer : FnScope N__law_integer P__law_integer (defScope s__law_integer) := ⟨rfl, rfl, rfl, by decide +kernel, rfl, by decide +kernel, by decide +kernel⟩
abbrev s__law_written : Stmt := topS 30
abbrev N__law_written : List Str := ["_law_number", "_law_text_here"]
abbrev P__law_written : List Str := ["_law_number"]
theorem st__law_written (a0 : V) : L2.start N__law_written [a0] = [some a0, none] := rfl
theorem sc__law_written : FnScope N__law_written P__law_written (defScope s__law_written) := ⟨rfl, rfl, rfl, by decide +kernel, rfl, by decide +kernel, by decide +kernel⟩
abbrev s__law_is_row : Stmt := topS 31
abbrev N__law_is_row : List Str := ["_law_text_here", "_law_sign"]
abbrev P__law_is_row : List Str := ["_law_text_here"]
theorem st__law_is_row (a0 : V) : L2.start N__law_is_row [a0] = [some a0, none] := rfl
theorem sc__law_is_row : FnScope N__law_is_row P__law_is_row (defScope s__law_is_row) := ⟨rfl, rfl, rfl, by decide +kernel, rfl, by decide +kernel, by decide +kernel⟩
abbrev s__law_can_begin : Stmt := topS 32
abbrev N__law_can_begin : List Str := ["_law_text_here", "_law_rest", "_law_parts"]
abbrev P__law_can_begin : List Str := ["_law_text_here"]
theorem st__law_can_begin (a0 : V) : L2.start N__law_can_begin [a0] = [some a0, none, none] := rfl
theorem sc__law_can_begin : FnScope N__law_can_begin P__law_can_begin (defScope s__law_can_begin) := ⟨rfl, rfl, rfl, by decide +kernel, rfl, by decide +kernel, by decide +kernel⟩
abbrev s__law_due : Stmt := topS 33
abbrev N__law_due : List Str := ["_law_text_here", "_law_at", "_law_parts"]
abbrev P__law_due : List Str := ["_law_text_here"]
theorem st__law_due (a0 : V) : L2.start N__law_due [a0] = [some a0, none, none] := rfl
theorem sc__law_due : FnScope N__law_due P__law_due (defScope s__law_due) := ⟨rfl, rfl, rfl, by decide +kernel, rfl, by decide +kernel, by decide +kernel⟩
abbrev s__law_told : Stmt := topS 34
abbrev N__law_told : List Str := ["_law_text_here", "e"]
abbrev P__law_told : List Str := ["_law_text_here"]
theorem st__law_told (a0 : V) : L2.start N__law_told [a0] = [some a0, none] := rfl
theorem sc__law_told : FnScope N__law_told P__law_told (defScope s__law_told) := ⟨rfl, rfl, rfl, by decide +kernel, rfl, by decide +kernel, by decide +kernel⟩
abbrev s__law_spoilt : Stmt := topS 35
abbrev N__law_spoilt : List Str := ["_law_dice_here", "_law_text_here", "_law_at", "_law_sign", "_law_way"]
abbrev P__law_spoilt : List Str := ["_law_dice_here", "_law_text_here"]
theorem st__law_spoilt (a0 a1 : V) : L2.start N__law_spoilt [a0, a1] = [some a0, some a1, none, none, none] := rfl
theorem sc__law_spoilt : FnScope N__law_spoilt P__law_spoilt (defScope s__law_spoilt) := ⟨rfl, rfl, rfl, by decide +kernel, rfl, by decide +kernel, by decide +kernel⟩
abbrev s__law_text : Stmt := topS 36
abbrev N__law_text : List Str := ["_law_dice_here", "_law_text_here"]
abbrev P__law_text : List Str := ["_law_dice_here"]
theorem st__law_text (a0 : V) : L2.start N__law_text [a0] = [some a0, none] := rfl
theorem sc__law_text : FnScope N__law_text P__law_text (defScope s__law_text) := ⟨rfl, rfl, rfl, by decide +kernel, rfl, by decide +kernel, by decide +kernel⟩
abbrev s__law_right : Stmt := topS 37
abbrev N__law_right : List Str := ["_law_dice_here", "_law_number", "_law_great", "_law_turn", "_law_text_here", "_law_more", "_law_odd"]
abbrev P__law_right : List Str := ["_law_dice_here"]
theorem st__law_right (a0 : V) : L2.start N__law_right [a0] = [some a0, none, none, none, none, none, none] := rfl
theorem sc__law_right : FnScope N__law_right P__law_right (defScope s__law_right) := ⟨rfl, rfl, rfl, by decide +kernel, rfl, by decide +kernel, by decide +kernel⟩
abbrev s_law : Stmt := topS 38
abbrev N_law : List Str := ["_law_script", "_law_at"]
abbrev P_law : List Str := ["_law_script"]
theorem st_law (a0 : V) : L2.start N_law [a0] = [some a0, none] := rfl
theorem sc_law : FnScope N_law P_law (defScope s_law) := ⟨rfl, rfl, rfl, by decide +kernel, rfl, by decide +kernel, by decide +kernel⟩
structure Txt (P : Program) (K : PySem.W.Frag) (mg : Str → Option Value) : Prop where
  f_abs : mg "abs" = none
  f_bool : mg "bool" = none
  f_enumerate : mg "enumerate" = none
  f_int : mg "int" = none
  f_isinstance : mg "isinstance" = none
  f_len : mg "len" = none
  f_list : mg "list" = none
  f_max : mg "max" = none
  f_min : mg "min" = none
  f_range : mg "range" = none
  f_str : mg "str" = none
  f_tuple : mg "tuple" = none
  c_BEYOND_WORTHS : ∃ t, mg "BEYOND_WORTHS" = some (.int BW t)
  c_DIGITS : ∃ t, mg "DIGITS" = some (.str "0123456789" t)
  c_MOST_PASSED : ∃ t, mg "MOST_PASSED" = some (.int 60 t)
  c_NOTHING : ∃ t, mg "NOTHING" = some (.str "nothing" t)
  x_InvalidWorth : Sm.XPl K mg "InvalidWorth" (He.ga K "InvalidWorth") "ValueError" "ValueError.__new__" "ValueError.__init__" [.type "ValueError", .type "Exception", .type "BaseException", .type "object"]
  x_ParseError : Sm.XS P K mg "ParseError" "spot" (He.ga K "ParseError") "ValueError" "ValueError.__new__" "ValueError.__init__" [.type "ValueError", .type "Exception", .type "BaseException", .type "object"]
  m_ParseError : PySem.W.exmOne K (.ref (He.ga K "ParseError")) (.ref (He.ga K "ParseError")) = some true
  m_InvalidWorth : PySem.W.exmOne K (.ref (He.ga K "InvalidWorth")) (.ref (He.ga K "InvalidWorth")) = some true
end K01
namespace K01
open PySem PySem.Spec PyProof.Rows L2
open TL (tl)
/-- fractions in lowest terms -/
def low (t b : Int) : Int × Int := if b < 0 then (-t / (Int.gcd t b : Nat), -b / (Int.gcd t b : Nat)) else (t / (Int.gcd t b : Nat), b / (Int.gcd t b : Nat))
def wD (p : Int × Int) : PyData := .tuple [.int p.1, .int p.2]
def isWhole : PyData → Bool
  | .int _ => true
  | _ => false
def isWorth : PyData → Bool
  | .tuple [.int t, .int b] => decide (b ≥ 1) && decide (((Int.gcd t b : Nat) : Int) = 1)
  | _ => false
def isLong : PyData → Bool
  | .tuple [.int t, .int b] => isWorth (.tuple [.int t, .int b]) && (decide ((t.natAbs : Int) < BW) && decide (b < BW))
  | _ => false
def okOp (d : PyData) : Bool := match d with
  | .none => true
  | d => isLong d
def sumD : PyData → PyData → PyData
  | .none, y => y
  | x, .none => x
  | .tuple [.int a, .int b], .tuple [.int c, .int d] => if b = d then wD (low (a + c) b) else wD (low (a * d + c * b) (b * d))
  | _, _ => .none
/-- an operand of bounded size -/
def Wok (d : PyData) : Prop := d = .none ∨ ∃ a b : Int, d = .tuple [.int a, .int b] ∧ 1 ≤ b ∧ a.natAbs < 2 ^ 4000 ∧ b.natAbs < 2 ^ 4000
def wText (a b : Int) : Str := if b = 1 then toString a else toString a ++ Str.ofString "/" ++ toString b
/-- a value that is told -/
def Tell (K : PySem.W.Frag) (d : PyData) (H : Hp) (Q : VK) : Prop := ∀ v H', Same H H' → Dp K H' v d → Q v H'
def sp_is_whole (K : PySem.W.Frag) : Sp := fun vs H Q _ => ∃ x d, vs = [x] ∧ Dp K H x d ∧ Sm.RetV (.bl (isWhole d)) H Q
def sp_greatest_divisor (K : PySem.W.Frag) : Sp := fun vs H Q _ => ∃ a b : Int, vs = [.int a, .int b] ∧ 0 ≤ a ∧ 0 ≤ b ∧ Sm.RetV (.int (Int.gcd a b : Nat)) H Q
def sp_lowest (K : PySem.W.Frag) : Sp := fun vs H Q _ => ∃ t b : Int, vs = [.int t, .int b] ∧ b ≠ 0 ∧ b.natAbs < 2 ^ 9000 ∧ Tell K (wD (low t b)) H Q
def sp_is_worth (K : PySem.W.Frag) : Sp := fun vs H Q _ => ∃ x d, vs = [x] ∧ Dp K H x d ∧ Sm.RetV (.bl (isWorth d)) H Q
def sp_is_long_worth (K : PySem.W.Frag) : Sp := fun vs H Q _ => ∃ x d, vs = [x] ∧ Dp K H x d ∧ Sm.RetV (.bl (isLong d)) H Q
def sp_require_worth (K : PySem.W.Frag) : Sp := fun vs H Q E => ∃ x d, vs = [x] ∧ Dp K H x d ∧ (isLong d = true → Sm.RetV .non H Q) ∧ (isLong d = false → Sm.Rp K "InvalidWorth" H E)
def sp_require_operand (K : PySem.W.Frag) : Sp := fun vs H Q E => ∃ x d, vs = [x] ∧ Dp K H x d ∧ (okOp d = true → Sm.RetV .non H Q) ∧ (okOp d = false → Sm.Rp K "InvalidWorth" H E)
def sp_sum_in (K : PySem.W.Frag) : Sp := fun vs H Q _ => ∃ x y d e, vs = [x, y] ∧ Dp K H x d ∧ Dp K H y e ∧ Wok d ∧ Wok e ∧ Tell K (sumD d e) H Q
def sp_plus (K : PySem.W.Frag) : Sp := fun vs H Q E => ∃ x y d e, vs = [x, y] ∧ Dp K H x d ∧ Dp K H y e ∧ okOp d = true ∧ okOp e = true ∧ Wok d ∧ Wok e ∧ Tell K (sumD d e) H Q
/-- what is written -/
def wordsD : PyData → Str
  | .tuple [.int a, .int b] => wText a b
  | _ => Str.ofString "nothing"
def Wsm (d : PyData) : Prop := d = .none ∨ ∃ a b : Int, d = .tuple [.int a, .int b] ∧ a.natAbs < 2 ^ 1900 ∧ b.natAbs < 2 ^ 1900
def sp_worth_words (K : PySem.W.Frag) : Sp := fun vs H Q _ => ∃ x d, vs = [x] ∧ Dp K H x d ∧ Wsm d ∧ Sm.RetV (.str (wordsD d)) H Q
def sp_worth_text (K : PySem.W.Frag) : Sp := fun vs H Q E => ∃ x d, vs = [x] ∧ Dp K H x d ∧ (okOp d = true → Wsm d ∧ Sm.RetV (.str (wordsD d)) H Q) ∧ (okOp d = false → Sm.Rp K "InvalidWorth" H E)
/-! ### reading -/
def dig (c : Nat) : Bool := decide (48 ≤ c) && decide (c ≤ 57)
/-- digits from here on, k of them ahead: how many there are, or where it is wrong -/
def scan : Nat → List Nat → Except Nat Nat
  | k, [] => .ok k
  | k, c :: r => if dig c = true then (if k = 60 ∨ (k = 0 ∧ c = 48) then .error k else scan (k + 1) r) else .ok k
def digitsEnd (l : List Nat) (s : Nat) (above : Bool) : Except Nat Nat :=
  if l[s]? = some 48 ∧ above = false then .ok (s + 1)
  else match scan 0 (l.drop s) with
    | .error k => .error (s + k)
    | .ok 0 => .error s
    | .ok (k + 1) => .ok (s + (k + 1))
/-- the number that a row of digits, with a minus or without, tells -/
def iv (l : List Nat) : Int := match l with
  | 45 :: cs => -((NumText.digitsVal cs : Nat) : Int)
  | cs => ((NumText.digitsVal cs : Nat) : Int)
def neg1 (l : List Nat) : Nat := if l.head? = some 45 then 1 else 0
def numberAt (l : List Nat) : Except Nat ((Int × Int) × Nat) :=
  match digitsEnd l (neg1 l) (decide (0 < neg1 l)) with
  | .error e => .error e
  | .ok e => if l[e]? = some 47 then
      match digitsEnd l (e + 1) true with
      | .error e2 => .error e2
      | .ok m => .ok (low (iv (l.take e)) (iv ((l.take m).drop (e + 1))), m)
    else .ok ((iv (l.take e), 1), e)
def NOTH : List Nat := [110, 111, 116, 104, 105, 110, 103]
/-- how much of «nothing» stands at the head of l -/
def nothK : List Nat → List Nat → Nat → Except Nat Nat
  | _, [], i => .ok i
  | l, c :: r, i => if l[i]? = some c then nothK l r (i + 1) else .error i
def readW (l : List Nat) : Except Nat (Option (Int × Int)) :=
  let r : Except Nat (Option (Int × Int) × Nat) := if l.head? = some 110 then
      match nothK l NOTH 0 with
      | .error e => .error e
      | .ok n => .ok (none, n)
    else match numberAt l with
      | .error e => .error e
      | .ok p => .ok (some p.1, p.2)
  match r with
  | .error e => .error e
  | .ok (v, e) => if e < l.length then .error e else .ok v
def sp_digits_end (K : PySem.W.Frag) : Sp := fun vs H Q E => ∃ (z : Str) (s : Nat) (ab : Bool), vs = [.str z, .int (s : Int), .bl ab] ∧ z.length ≤ 1000 ∧ s ≤ z.length ∧
  (∀ n, digitsEnd (tl z) s ab = .ok n → Sm.RetV (.int (n : Int)) H Q) ∧ (∀ n, digitsEnd (tl z) s ab = .error n → Sm.Rz K "ParseError" "spot" (.int (n : Int)) H E)
def sp_number_at (K : PySem.W.Frag) : Sp := fun vs H Q E => ∃ z : Str, vs = [.str z, .int 0] ∧ z.length ≤ 1000 ∧
  (∀ p n, numberAt (tl z) = .ok (p, n) → Tell K (.tuple [wD p, .int (n : Int)]) H Q) ∧ (∀ n, numberAt (tl z) = .error n → Sm.Rz K "ParseError" "spot" (.int (n : Int)) H E)
def sp_nothing_end (K : PySem.W.Frag) : Sp := fun vs H Q E => ∃ z : Str, vs = [.str z] ∧ z.length ≤ 1000 ∧
  (∀ n, nothK (tl z) NOTH 0 = .ok n → Sm.RetV (.int (n : Int)) H Q) ∧ (∀ n, nothK (tl z) NOTH 0 = .error n → Sm.Rz K "ParseError" "spot" (.int (n : Int)) H E)
def oD : Option (Int × Int) → PyData
  | none => .none
  | some p => wD p
def sp_read_worth (K : PySem.W.Frag) : Sp := fun vs H Q E => ∃ x d, vs = [x] ∧ Dp K H x d ∧
  (∀ z, d = .str z → z.length ≤ 1000 ∧ (∀ o, readW (tl z) = .ok o → Tell K (oD o) H Q) ∧ ∀ n, readW (tl z) = .error n → Sm.Rz K "ParseError" "spot" (.int (n : Int)) H E) ∧
  ((∀ z, d ≠ .str z) → Sm.Rz K "ParseError" "spot" .non H E)
end K01
namespace K01
open PySem PySem.Spec PyProof.Rows L2
open TL (tl)
theorem low_pos {t b : Int} (hb : 0 < b) : low t b = (t / (Int.gcd t b : Nat), b / (Int.gcd t b : Nat)) := by
  unfold low
  rw [if_neg (by omega)]
theorem low_neg {t b : Int} (hb : b < 0) : low t b = (-t / (Int.gcd t b : Nat), -b / (Int.gcd t b : Nat)) := by
  unfold low
  rw [if_pos hb]
theorem gcd_pos {t b : Int} (hb : b ≠ 0) : 0 < ((Int.gcd t b : Nat) : Int) := by
  have h : Int.gcd t b ≠ 0 := fun z => hb (Int.gcd_eq_zero_iff.mp z).2
  omega
theorem gcd_le {t b : Int} (hb : b ≠ 0) : Int.gcd t b ≤ b.natAbs := Nat.le_of_dvd (by omega) (Int.gcd_dvd_natAbs_right t b)
theorem gcd_py {t b i : Int} (hb : b ≠ 0) (hz : b.natAbs < 2 ^ 9000) : Builtin.divisionGoesByPylong i (Int.gcd t b : Nat) = false := Sm.pyB (b := 9000) (by rw [Int.natAbs_natCast]; exact Nat.lt_of_le_of_lt (gcd_le hb) hz) (by decide) (by decide)
theorem gcd_step (x y : Int) : Int.gcd y (x % y) = Int.gcd x y := by
  have e : x % y = x - y * (x / y) := by
    have := Int.emod_add_mul_ediv x y
    omega
  rw [e, Int.gcd_sub_mul_left_right, Int.gcd_comm]
theorem dp_pair {K : PySem.W.Frag} {H : Hp} {p : Addr} {a b : Int} (h : H p = some (.tup [.int a, .int b])) : Dp K H (.ref p) (.tuple [.int a, .int b]) := .tup (.inl (.inl h)) (.cons (.int a) (.cons (.int b) .nil))
theorem dpAll_len {K : PySem.W.Frag} {H : Hp} : ∀ {xs : List V} {ds : List PyData}, DpAll K H xs ds → xs.length = ds.length
  | _, _, .nil => rfl
  | _, _, .cons _ r => by
    rw [List.length_cons, List.length_cons, dpAll_len r]
section
variable {K : PySem.W.Frag} {H : Hp} {Q : VK} {E : XK} {x : V} {d : PyData}
theorem c_is_whole (hd : Dp K H x d) (q : ∀ H', Same H H' → Q (.bl (isWhole d)) H') : sp_is_whole K ([x] ++ []) H Q E := ⟨x, d, rfl, hd, q⟩
theorem c_is_worth (hd : Dp K H x d) (q : ∀ H', Same H H' → Q (.bl (isWorth d)) H') : sp_is_worth K ([x] ++ []) H Q E := ⟨x, d, rfl, hd, q⟩
theorem c_is_long_worth (hd : Dp K H x d) (q : ∀ H', Same H H' → Q (.bl (isLong d)) H') : sp_is_long_worth K ([x] ++ []) H Q E := ⟨x, d, rfl, hd, q⟩
theorem c_gcd {a b : Int} (ha : 0 ≤ a) (hb : 0 ≤ b) (q : ∀ H', Same H H' → Q (.int (Int.gcd a b : Nat)) H') : sp_greatest_divisor K ([.int a, .int b] ++ []) H Q E := ⟨a, b, rfl, ha, hb, q⟩
theorem c_gcdA {a b : Int} (hb : 0 ≤ b) (q : ∀ H', Same H H' → Q (.int (Int.gcd a b : Nat)) H') : sp_greatest_divisor K ([.int (a.natAbs : Nat), .int b] ++ []) H Q E := ⟨_, b, rfl, by omega, hb, by rw [show Int.gcd (a.natAbs : Nat) b = Int.gcd a b by simp [Int.gcd]]; exact q⟩
theorem c_require_worth (hd : Dp K H x d) (ho : isLong d = true) (q : ∀ H', Same H H' → Q .non H') : sp_require_worth K ([x] ++ []) H Q E := ⟨x, d, rfl, hd, fun _ => q, fun z => by rw [ho] at z; cases z⟩
theorem c_require_operand (hd : Dp K H x d) (ho : okOp d = true) (q : ∀ H', Same H H' → Q .non H') : sp_require_operand K ([x] ++ []) H Q E := ⟨x, d, rfl, hd, fun _ => q, fun z => by rw [ho] at z; cases z⟩
theorem c_sum_in {y : V} {e : PyData} (hd : Dp K H x d) (he : Dp K H y e) (wd : Wok d) (we : Wok e) (q : ∀ v H', Same H H' → Dp K H' v (sumD d e) → Q v H') : sp_sum_in K ([x, y] ++ []) H Q E := ⟨x, y, d, e, rfl, hd, he, wd, we, q⟩
theorem c_lowest {a b : Int} (h0 : b ≠ 0) (hb : b.natAbs < 2 ^ 9000) (q : ∀ v H', Same H H' → Dp K H' v (wD (low a b)) → Q v H') : sp_lowest K ([.int a, .int b] ++ []) H Q E := ⟨a, b, rfl, h0, hb, q⟩
end
theorem isWorth_elim {d : PyData} (h : isWorth d = true) : ∃ t b : Int, d = .tuple [.int t, .int b] ∧ 1 ≤ b ∧ Int.gcd t b = 1 := by
  unfold isWorth at h
  split at h
  · rename_i t b
    simp only [Bool.and_eq_true, decide_eq_true_eq] at h
    exact ⟨t, b, rfl, h.1, by omega⟩
  · cases h
theorem isWorth_intro {t b : Int} (h1 : 1 ≤ b) (h2 : Int.gcd t b = 1) : isWorth (.tuple [.int t, .int b]) = true := by
  simp [isWorth, h1, h2]
theorem isLong_worth {d : PyData} (h : isWorth d = false) : isLong d = false := by
  unfold isLong
  split
  · rw [h]; rfl
  · rfl
theorem isWorth_1 (d : PyData) : isWorth (.tuple [d]) = false := by cases d <;> rfl
theorem isWorth_3 (a b c : PyData) (l : List PyData) : isWorth (.tuple (a :: b :: c :: l)) = false := by cases a <;> cases b <;> rfl
theorem sumD_tt (a b c d : Int) : sumD (.tuple [.int a, .int b]) (.tuple [.int c, .int d]) = if b = d then wD (low (a + c) b) else wD (low (a * d + c * b) (b * d)) := rfl
theorem okOp_of {d : PyData} (h : d ≠ .none) : okOp d = isLong d := by cases d <;> first | rfl | exact absurd rfl h
theorem drop_some {l : List Nat} {i c : Nat} (h : l[i]? = some c) : l.drop i = c :: l.drop (i + 1) := by
  obtain ⟨hi, rfl⟩ := List.getElem?_eq_some_iff.mp h
  exact List.drop_eq_getElem_cons hi
theorem dig_in {c : Nat} : c ∈ (Str.ofString "0123456789").cps.toList ↔ dig c = true := by
  rw [show (Str.ofString "0123456789").cps.toList = [48, 49, 50, 51, 52, 53, 54, 55, 56, 57] by decide]
  unfold dig
  simp only [List.mem_cons, List.not_mem_nil, or_false, Bool.and_eq_true, decide_eq_true_eq]
  omega
theorem scan_dig {k c : Nat} {r : List Nat} (h : dig c = true) : scan k (c :: r) = if k = 60 ∨ (k = 0 ∧ c = 48) then .error k else scan (k + 1) r := if_pos h
theorem scan_non {k c : Nat} {r : List Nat} (h : ¬ dig c = true) : scan k (c :: r) = .ok k := if_neg h
theorem scan_nil {k : Nat} : scan k [] = .ok k := rfl
end K01
namespace K01
open PySem PySem.Spec PyProof.Rows L2
open TL (tl)
theorem dig_iff {c : Nat} : dig c = true ↔ 48 ≤ c ∧ c ≤ 57 := by
  unfold dig
  simp only [Bool.and_eq_true, decide_eq_true_eq]
theorem all_nil : NumText.AllDigits [] := fun _ h => nomatch h
theorem all_cons {c : Nat} {r : List Nat} (h : dig c = true) (t : NumText.AllDigits r) : NumText.AllDigits (c :: r) := fun x hx => by
  rcases List.mem_cons.mp hx with rfl | hx
  · exact dig_iff.mp h
  · exact t x hx
/-- what is told where digits end -/
theorem scan_ok : ∀ (l : List Nat) (k m : Nat), scan k l = .ok m → k ≤ m ∧ m - k ≤ l.length ∧ (k ≤ 60 → m ≤ 60) ∧ NumText.AllDigits (l.take (m - k)) ∧ (k = 0 → 0 < m → l[0]? ≠ some 48) ∧ (∀ c, l[m - k]? = some c → dig c = false)
  | [], k, m, h => by
    cases h
    exact ⟨Nat.le_refl _, by simp, id, by simp [all_nil], fun e p => by omega, fun c h => by simp at h⟩
  | c :: r, k, m, h => by
    by_cases hc : dig c = true
    · rw [scan_dig hc] at h
      by_cases hk : k = 60 ∨ k = 0 ∧ c = 48
      · rw [if_pos hk] at h
        cases h
      · rw [if_neg hk] at h
        obtain ⟨h1, h2, h3, h4, h5, h6⟩ := scan_ok r (k + 1) m h
        have e : m - k = (m - (k + 1)) + 1 := by omega
        refine ⟨by omega, by rw [e, List.length_cons]; omega, fun z => h3 (by omega), ?_, fun z _ y => ?_, fun d hd => ?_⟩
        · rw [e, List.take_succ_cons]
          exact all_cons hc h4
        · simp only [List.getElem?_cons_zero, Option.some.injEq] at y
          exact hk (.inr ⟨z, y⟩)
        · rw [e, List.getElem?_cons_succ] at hd
          exact h6 d hd
    · rw [scan_non hc] at h
      cases h
      refine ⟨Nat.le_refl _, by simp, id, by simp [all_nil], fun e p => by omega, fun d hd => ?_⟩
      simp only [Nat.sub_self, List.getElem?_cons_zero, Option.some.injEq] at hd
      subst hd
      exact Bool.eq_false_iff.mpr hc
theorem digitsEnd_ok {l : List Nat} {s n : Nat} {ab : Bool} (h : digitsEnd l s ab = .ok n) : s < n ∧ n ≤ s + 60 ∧ n ≤ l.length ∧ NumText.AllDigits ((l.take n).drop s) ∧ (ab = true → l[s]? ≠ some 48) := by
  unfold digitsEnd at h
  split at h
  · rename_i h0
    cases h
    obtain ⟨hl, hc⟩ := List.getElem?_eq_some_iff.mp h0.1
    refine ⟨Nat.lt_succ_self _, by omega, hl, ?_, fun z => ?_⟩
    · rw [List.drop_take, show s + 1 - s = 1 by omega, drop_some h0.1]
      exact all_cons (by decide) all_nil
    · rw [h0.2] at z
      cases z
  · rename_i h0
    split at h
    · cases h
    · cases h
    · rename_i k hk
      cases h
      obtain ⟨h1, h2, h3, h4, h5, h6⟩ := scan_ok _ _ _ hk
      rw [List.length_drop] at h2
      refine ⟨by omega, by have := h3 (by omega); omega, by omega, ?_, fun z y => ?_⟩
      · rw [List.drop_take, show s + (k + 1) - s = k + 1 - 0 by omega]
        exact h4
      · refine h5 rfl (by omega) ?_
        rw [List.getElem?_drop, Nat.add_zero]
        exact y
theorem foldl_lt : ∀ (cs : List Nat) (a : Nat), NumText.AllDigits cs → cs.foldl (fun acc c => acc * 10 + (c - 48)) a < (a + 1) * 10 ^ cs.length
  | [], a, _ => by simp
  | c :: r, a, h => by
    have hc := h c (List.mem_cons_self ..)
    have i := foldl_lt r (a * 10 + (c - 48)) fun x hx => h x (List.mem_cons_of_mem _ hx)
    rw [List.foldl_cons, List.length_cons, Nat.pow_succ, ← Nat.mul_assoc, Nat.mul_right_comm]
    exact Nat.lt_of_lt_of_le i (Nat.mul_le_mul_right _ (by omega))
theorem digitsVal_lt {cs : List Nat} (h : NumText.AllDigits cs) : NumText.digitsVal cs < 10 ^ cs.length := by
  have e := foldl_lt cs 0 h
  rw [Nat.zero_add, Nat.one_mul] at e
  exact e
theorem iv_digits {cs : List Nat} (h : NumText.AllDigits cs) : iv cs = ((NumText.digitsVal cs : Nat) : Int) := by
  unfold iv
  split
  · have := h 45 (List.mem_cons_self ..)
    omega
  · rfl
theorem take_head {l : List Nat} {n : Nat} (h : l.head? = some 45) (hn : 0 < n) : l.take n = 45 :: (l.take n).drop 1 := by
  cases l with
  | nil => cases h
  | cons c r =>
    cases h
    obtain ⟨m, rfl⟩ : ∃ m, n = m + 1 := ⟨n - 1, by omega⟩
    rw [List.take_succ_cons]
    rfl
/-- int(text) of a sign and digits -/
theorem int_top {z : Str} {n : Nat} {ab : Bool} (h : digitsEnd (tl z) (neg1 (tl z)) ab = .ok n) : intText? (cutS z (some ((0 : Nat) : Int)) (some (n : Int))) = some (iv ((tl z).take n)) ∧ (cutS z (some ((0 : Nat) : Int)) (some (n : Int))).length ≤ 640 := by
  obtain ⟨h1, h2, h3, h4, h5⟩ := digitsEnd_ok h
  have n1 : neg1 (tl z) ≤ 1 := by
    unfold neg1
    split <;> omega
  have et : (cutS z (some ((0 : Nat) : Int)) (some (n : Int))).cps.toList = (tl z).take n := by
    have := Sm.cut_tl z 0 n
    rwa [List.drop_zero] at this
  have hl : (cutS z (some ((0 : Nat) : Int)) (some (n : Int))).length ≤ 640 := by
    rw [TL.len_tl]
    show (cutS z (some ((0 : Nat) : Int)) (some (n : Int))).cps.toList.length ≤ 640
    rw [et, List.length_take]
    omega
  refine ⟨?_, hl⟩
  by_cases hm : (tl z).head? = some 45
  · have e1 : neg1 (tl z) = 1 := if_pos hm
    rw [e1] at h1 h4
    have e2 := take_head hm (show 0 < n by omega)
    have e3 : ((tl z).take n).drop 1 ≠ [] := by
      intro z1
      have := congrArg List.length z1
      rw [List.length_drop, List.length_take, List.length_nil] at this
      omega
    have := intText_neg (x := cutS z (some ((0 : Nat) : Int)) (some (n : Int))) (by rw [et]; exact e2) h4 e3 (by omega)
    rw [this, e2]
    rfl
  · have e1 : neg1 (tl z) = 0 := if_neg hm
    rw [e1, List.drop_zero] at h4
    have := intText_digits (x := cutS z (some ((0 : Nat) : Int)) (some (n : Int))) (by rw [et]; exact h4) (by
      rw [et]
      intro z1
      have := congrArg List.length z1
      rw [List.length_take, List.length_nil] at this
      omega) (by omega)
    rw [this, et, iv_digits h4]
theorem int_bot {z : Str} {e n : Nat} (h : digitsEnd (tl z) (e + 1) true = .ok n) : intText? (cutS z (some ((e : Int) + 1)) (some (n : Int))) = some (iv (((tl z).take n).drop (e + 1))) ∧ (cutS z (some ((e : Int) + 1)) (some (n : Int))).length ≤ 640 ∧ iv (((tl z).take n).drop (e + 1)) ≠ 0 ∧ (iv (((tl z).take n).drop (e + 1))).natAbs < 2 ^ 9000 := by
  obtain ⟨h1, h2, h3, h4, h5⟩ := digitsEnd_ok h
  have et : (cutS z (some ((e : Int) + 1)) (some (n : Int))).cps.toList = ((tl z).take n).drop (e + 1) := Sm.cut_tl z (e + 1) n
  have hlen : (((tl z).take n).drop (e + 1)).length = n - (e + 1) := by
    rw [List.length_drop, List.length_take]
    omega
  have hl : (cutS z (some ((e : Int) + 1)) (some (n : Int))).length ≤ 640 := by
    rw [TL.len_tl]
    show (cutS z (some ((e : Int) + 1)) (some (n : Int))).cps.toList.length ≤ 640
    rw [et, hlen]
    omega
  have hne : ((tl z).take n).drop (e + 1) ≠ [] := by
    intro z1
    rw [z1, List.length_nil] at hlen
    omega
  have hi := intText_digits (x := cutS z (some ((e : Int) + 1)) (some (n : Int))) (by rw [et]; exact h4) (by rw [et]; exact hne) (by omega)
  rw [et] at hi
  rw [iv_digits h4]
  refine ⟨hi, hl, ?_, ?_⟩
  · obtain ⟨c, r, hcr⟩ := List.exists_cons_of_ne_nil hne
    have hc := h4 c (by rw [hcr]; exact List.mem_cons_self ..)
    have h0 : (tl z)[e + 1]? = some c := by
      have := congrArg (fun l => l[0]?) hcr
      simp only [List.getElem?_drop, List.getElem?_take, Nat.add_zero, List.getElem?_cons_zero] at this
      rwa [if_pos h1] at this
    have h8 : c ≠ 48 := fun y => h5 rfl (by rw [h0, y])
    have := NumText.digitsVal_pos (c := c) (cs := r) (by omega)
    rw [hcr]
    omega
  · have := digitsVal_lt h4
    rw [hlen] at this
    rw [Int.natAbs_natCast]
    have p : 10 ^ (n - (e + 1)) ≤ 10 ^ 60 := Nat.pow_le_pow_right (by decide) (by omega)
    have q : 10 ^ 60 ≤ 2 ^ 9000 := by
      have : 2 ^ 200 ≤ 2 ^ 9000 := Nat.pow_le_pow_right (by decide) (by decide)
      have : 10 ^ 60 ≤ 2 ^ 200 := by decide
      omega
    omega
theorem dp_tup2 {K : PySem.W.Frag} {H : Hp} {p : Addr} {x y : V} {d e : PyData} (h : H p = some (.tup [x, y])) (hd : Dp K H x d) (he : Dp K H y e) : Dp K H (.ref p) (.tuple [d, e]) := .tup (.inl (.inl h)) (.cons hd (.cons he .nil))
theorem dp_tup2_inv {K : PySem.W.Frag} {H : Hp} {v : V} {d : PyData} {n : Int} (h : Dp K H v (.tuple [d, .int n])) : ∃ p x, v = .ref p ∧ SqT K H p [x, .int n] ∧ Dp K H x d := by
  cases h with
  | tup h r =>
    cases r with
    | cons h0 r =>
      cases r with
      | cons h1 r =>
        cases r
        cases h1
        exact ⟨_, _, rfl, h, h0⟩
theorem read_n {l : List Nat} {n : Nat} (h0 : l.head? = some 110) (h : nothK l NOTH 0 = .ok n) : readW l = if n < l.length then .error n else .ok none := by
  unfold readW
  rw [if_pos h0, h]
theorem read_ne {l : List Nat} {n : Nat} (h0 : l.head? = some 110) (h : nothK l NOTH 0 = .error n) : readW l = .error n := by
  unfold readW
  rw [if_pos h0, h]
theorem read_w {l : List Nat} {p : Int × Int} {n : Nat} (h0 : ¬ l.head? = some 110) (h : numberAt l = .ok (p, n)) : readW l = if n < l.length then .error n else .ok (some p) := by
  unfold readW
  rw [if_neg h0, h]
theorem read_we {l : List Nat} {n : Nat} (h0 : ¬ l.head? = some 110) (h : numberAt l = .error n) : readW l = .error n := by
  unfold readW
  rw [if_neg h0, h]
end K01
namespace K01
open PySem PySem.Spec PyProof.Rows L2
open TL (tl)
def Dice (H : Hp) (p : Addr) : Prop := ∃ a b c : Int, H p = some (.lst [.int a, .int b, .int c])
/-- goes on with the dice at p, all else as before -/
def After (H : Hp) (p : Addr) (Q : Hp → Prop) : Prop := ∀ H', Same (Sm.dl H p) H' → Dice H' p → Q H'
def row (x : List Nat) : Bool := !x.isEmpty && x.all dig
def okN (ab : Bool) (x : List Nat) : Bool := row x && decide (x.length ≤ 60) && !(decide (x.head? = some 48) && (decide (1 < x.length) || ab))
def canR (ab : Bool) (x : List Nat) : Bool := match TL.spl [47] 0 [] x with
  | [p] => p.isEmpty || okN ab p
  | [p, y] => okN ab p && (y.isEmpty || okN true y)
  | _ => false
def canB (l : List Nat) : Bool := decide (NOTH.take l.length = l) || (if l.head? = some 45 then canR true l.tail else canR false l)
def sp__law_dice (K : PySem.W.Frag) : Sp := fun vs H Q _ => ∃ (p : Addr) (ns : List Int) (i : Nat), vs = [.ref p, .int (i : Int)] ∧ SqL K H p (ns.map V.int) ∧ ∀ q H', H q = none → Same H H' → Dice H' q → Q (.ref q) H'
def sp__law_roll (K : PySem.W.Frag) : Sp := fun vs H Q _ => ∃ (p : Addr) (n : Int), vs = [.ref p, .int n] ∧ Dice H p ∧ 0 < n ∧ n < 1073741824 ∧ ∀ r : Int, 0 ≤ r → r < n → After H p (Q (.int r))
def sp__law_one_of (K : PySem.W.Frag) : Sp := fun vs H Q _ => ∃ (p q : Addr) (xs : List V), vs = [.ref p, .ref q] ∧ Dice H p ∧ SqL K (Sm.dl H p) q xs ∧ 0 < xs.length ∧ xs.length < 1073741824 ∧ ∀ (i : Nat) (v : V), xs[i]? = some v → After H p (Q v)
def sp__law_lowest (K : PySem.W.Frag) : Sp := fun vs H Q _ => ∃ t b : Int, vs = [.int t, .int b] ∧ 1 ≤ b ∧ b.natAbs < 2 ^ 9000 ∧ Tell K (wD (low t b)) H Q
def sp__law_integer (K : PySem.W.Frag) : Sp := fun vs H Q _ => ∃ p : Addr, vs = [.ref p] ∧ Dice H p ∧ ∀ r : Int, 0 ≤ r → r < 10 ^ 60 → After H p (Q (.int r))
def sp__law_written (K : PySem.W.Frag) : Sp := fun vs H Q _ => ∃ x d, vs = [x] ∧ Dp K H x d ∧ d ≠ .none ∧ Wsm d ∧ Sm.RetV (.str (wordsD d)) H Q
def sp__law_is_row (K : PySem.W.Frag) : Sp := fun vs H Q _ => ∃ z : Str, vs = [.str z] ∧ z.length ≤ 1000 ∧ Sm.Asc z ∧ Sm.RetV (.bl (row (tl z))) H Q
def sp__law_can_begin (K : PySem.W.Frag) : Sp := fun vs H Q _ => ∃ z : Str, vs = [.str z] ∧ z.length ≤ 1000 ∧ Sm.Asc z ∧ Sm.RetV (.bl (canB (tl z))) H Q
/-- what is told of a text -/
def ToldT (K : PySem.W.Frag) (l : List Nat) (H : Hp) (Q : VK) : Prop := (∀ n, readW l = .error n → Sm.RetV (.int (n : Int)) H Q) ∧ ∀ o, readW l = .ok o → Tell K (.list [oD o]) H Q
def sp__law_due (K : PySem.W.Frag) : Sp := fun vs H Q _ => ∃ z : Str, vs = [.str z] ∧ z.length ≤ 1000 ∧ Sm.Asc z ∧ ToldT K (tl z) H Q
def sp__law_told (K : PySem.W.Frag) : Sp := fun vs H Q _ => ∃ x d, vs = [x] ∧ Dp K H x d ∧ (∀ z, d = .str z → z.length ≤ 1000 ∧ ToldT K (tl z) H Q) ∧ ((∀ z, d ≠ .str z) → Sm.RetV .non H Q)
def sp__law_spoilt (K : PySem.W.Frag) : Sp := fun vs H Q _ => ∃ (p : Addr) (z : Str), vs = [.ref p, .str z] ∧ Dice H p ∧ z.length ≤ 900 ∧ Sm.Asc z ∧ ∀ z' : Str, z'.length ≤ z.length + 1 → Sm.Asc z' → After H p (Q (.str z'))
def sp__law_text (K : PySem.W.Frag) : Sp := fun vs H Q _ => ∃ p : Addr, vs = [.ref p] ∧ Dice H p ∧ ∀ z : Str, z.length ≤ 200 → Sm.Asc z → After H p (Q (.str z))
def sp_law (K : PySem.W.Frag) : Sp := fun vs H Q _ => ∃ (p : Addr) (ns : List Int), vs = [.ref p] ∧ SqL K H p (ns.map V.int) ∧ ns.length ≤ 63 ∧ ∀ H', Q (.bl true) H'
def sp__law_right (K : PySem.W.Frag) : Sp := fun vs H Q _ => ∃ p : Addr, vs = [.ref p] ∧ Dice H p ∧ After H p (Q (.bl true))
theorem row_eq {x : List Nat} (h : x.isEmpty = false) : row x = (x.filter fun c => !dig c).isEmpty := by
  unfold row
  rw [h, Bool.not_false, Bool.true_and]
  induction x with
  | nil => rfl
  | cons c r ih =>
    by_cases hc : dig c = true
    · rw [List.filter_cons_of_neg (by simp [hc]), List.all_cons, hc, Bool.true_and]
      cases r with
      | nil => rfl
      | cons d r => exact ih rfl
    · rw [List.filter_cons_of_pos (by simp [hc]), List.all_cons, Bool.eq_false_iff.mpr hc]
      rfl
theorem dp_strs {K : PySem.W.Frag} {H : Hp} : ∀ l : List Nat, DpAll K H (l.map fun c => V.str ⟨#[c]⟩) (l.map fun c => PyData.str ⟨#[c]⟩)
  | [] => .nil
  | c :: r => .cons (.str _) (dp_strs r)
theorem spl_ne (S : List Nat) : ∀ (l : List Nat) (k : Nat) (acc : List Nat), TL.spl S k acc l ≠ []
  | [], k, acc => by rw [TL.spl_nil]; exact List.cons_ne_nil _ _
  | c :: r, 0, acc => by
    by_cases h : TL.pre S (c :: r) = true
    · rw [TL.spl_hit h]; exact List.cons_ne_nil _ _
    · rw [TL.spl_miss (Bool.eq_false_iff.mpr h)]; exact spl_ne S r 0 _
  | c :: r, k + 1, acc => spl_ne S r k acc
/-- the parts of a text at each slash -/
theorem parts {z : Str} : ((PySem.Txt.split z (Str.ofString "/")).map tl) = TL.spl [47] 0 [] (tl z) := by
  have e : tl (Str.ofString "/") = [47] := by decide
  have := TL.split_spl z (Str.ofString "/") (by rw [e]; exact List.cons_ne_nil _ _) (TL.kind_ok (by decide +kernel))
  rw [this, e]
theorem parts_len {z p : Str} (h : p ∈ PySem.Txt.split z (Str.ofString "/")) : p.length ≤ z.length ∧ ∀ c ∈ tl p, c ∈ tl z := by
  have k : ∀ (l : List Nat) (acc : List Nat), ∀ x ∈ TL.spl [47] 0 acc l, x.length ≤ acc.length + l.length ∧ ∀ c ∈ x, c ∈ acc ∨ c ∈ l := by
    intro l
    induction l with
    | nil =>
      intro acc x hx
      rw [TL.spl_nil] at hx
      rcases List.mem_cons.mp hx with rfl | e
      · exact ⟨Nat.le_refl _, fun c hc => .inl hc⟩
      · cases e
    | cons c r ih =>
      intro acc x hx
      by_cases h : TL.pre [47] (c :: r) = true
      · rw [TL.spl_hit h] at hx
        rcases List.mem_cons.mp hx with rfl | e
        · exact ⟨by rw [List.length_cons]; omega, fun c hc => .inl hc⟩
        · obtain ⟨i1, i2⟩ := ih [] x e
          refine ⟨by rw [List.length_cons]; rw [List.length_nil] at i1; omega, fun d hd => ?_⟩
          rcases i2 d hd with e | e
          · cases e
          · exact .inr (List.mem_cons_of_mem _ e)
      · rw [TL.spl_miss (Bool.eq_false_iff.mpr h)] at hx
        obtain ⟨i1, i2⟩ := ih _ x hx
        refine ⟨by rw [List.length_append, List.length_cons, List.length_nil] at i1; rw [List.length_cons]; omega, fun d hd => ?_⟩
        rcases i2 d hd with e | e
        · rcases List.mem_append.mp e with e | e
          · exact .inl e
          · rcases List.mem_cons.mp e with rfl | e
            · exact .inr (List.mem_cons_self ..)
            · cases e
        · exact .inr (List.mem_cons_of_mem _ e)
  have hm : tl p ∈ TL.spl [47] 0 [] (tl z) := by
    rw [← parts]
    exact List.mem_map_of_mem h
  obtain ⟨i1, i2⟩ := k _ _ _ hm
  refine ⟨by rw [TL.len_tl, TL.len_tl]; rw [List.length_nil] at i1; omega, fun c hc => ?_⟩
  rcases i2 c hc with e | e
  · cases e
  · exact e
theorem asc_dec {z : Str} (h : (tl z).all (fun c => decide (c < 128)) = true) : Sm.Asc z := fun c hc => of_decide_eq_true (List.all_eq_true.mp h c hc)
theorem canB_neg {z : Str} (h : ¬ NOTH.take (tl z).length = tl z) (hm : (tl z).head? = some 45) : canB (tl z) = canR true (tl (cutS z (some 1) none)) := by
  unfold canB
  rw [decide_eq_false h, Bool.false_or, if_pos hm]
  have e1 : tl (cutS z (some ((1 : Nat) : Int)) none) = (tl z).drop 1 := Sm.cut_from z 1
  rw [List.drop_one] at e1
  exact congrArg (canR true) e1.symm
theorem canB_pos {z : Str} (h : ¬ NOTH.take (tl z).length = tl z) (hm : ¬ (tl z).head? = some 45) : canB (tl z) = canR false (tl z) := by
  unfold canB
  rw [decide_eq_false h, Bool.false_or, if_neg hm]
theorem c48 {c : Nat} : (⟨#[c]⟩ : Str) = Str.ofString "0" ↔ c = 48 := by
  rw [show Str.ofString "0" = ⟨#[48]⟩ by decide]
  constructor
  · intro y
    injection y with y
    injection y with y
    injection y with y
  · rintro rfl
    rfl
theorem emp_iff {z : Str} : z = Str.ofString "" ↔ tl z = [] := ⟨fun e => by rw [e]; rfl, fun e => TL.ext_tl e⟩
theorem p_case (p : Str) : (p = Str.ofString "" ∧ tl p = []) ∨ ∃ c, ¬ p = Str.ofString "" ∧ (tl p).head? = some c ∧ (tl p).isEmpty = false ∧ atI p.cps.toList 0 = some c := by
  cases h : tl p with
  | nil => exact .inl ⟨emp_iff.mpr h, rfl⟩
  | cons c r =>
    refine .inr ⟨c, fun z => ?_, rfl, rfl, ?_⟩
    · rw [emp_iff.mp z] at h
      cases h
    · rw [show p.cps.toList = c :: r from h]
      exact atI_nat (j := 0) rfl
section
variable {K : PySem.W.Frag} {H : Hp} {Q : VK} {E : XK} {p q : Addr}
theorem c_roll {n : Int} (hd : Dice H p) (h0 : 0 < n) (h1 : n < 1073741824) (k : ∀ r H', 0 ≤ r → r < n → Same (Sm.dl H p) H' → Dice H' p → Q (.int r) H') : sp__law_roll K ([.ref p, .int n] ++ []) H Q E := ⟨p, n, rfl, hd, h0, h1, fun r a b H' hs hd => k r H' a b hs hd⟩
theorem c_is_row {z : Str} (hz : z.length ≤ 1000) (hA : Sm.Asc z) (k : ∀ H', Same H H' → Q (.bl (row (TL.tl z))) H') : sp__law_is_row K ([.str z] ++ []) H Q E := ⟨z, rfl, hz, hA, k⟩
theorem c_integer (hd : Dice H p) (k : ∀ r H', 0 ≤ r → r < 10 ^ 60 → Same (Sm.dl H p) H' → Dice H' p → Q (.int r) H') : sp__law_integer K ([.ref p] ++ []) H Q E := ⟨p, rfl, hd, fun r a b H' hs hd => k r H' a b hs hd⟩
theorem c_one_of {xs : List V} (hd : Dice H p) (hx : SqL K (Sm.dl H p) q xs) (h0 : 0 < xs.length) (h1 : xs.length < 1073741824) (k : ∀ (i : Nat) v H', xs[i]? = some v → Same (Sm.dl H p) H' → Dice H' p → Q v H') : sp__law_one_of K ([.ref p, .ref q] ++ []) H Q E := ⟨p, q, xs, rfl, hd, hx, h0, h1, fun i v e H' hs hd => k i v H' e hs hd⟩
end
theorem dice_lst {K : PySem.W.Frag} {H H2 : Hp} {p q : Addr} {xs : List V} (hd : Dice H p) (hn : H q = none) (h : H2 q = some (.lst xs)) : SqL K (Sm.dl H2 p) q xs := by
  obtain ⟨a, b, c, hp⟩ := hd
  have hne : q ≠ p := fun z => by
    rw [z, hp] at hn
    cases hn
  exact .inl (.inl (by rw [Sm.dl_ne hne]; exact h))
theorem dice_mv {H H2 : Hp} {p : Addr} (hd : Dice H p) (e : Same H H2) : Dice H2 p := by
  obtain ⟨a, b, c, hp⟩ := hd
  exact ⟨a, b, c, e _ _ hp⟩
end K01
namespace K01
open PySem PySem.Spec PyProof.Rows L2
open TL (tl)
theorem split47 : ∀ l : List Nat, 47 ∉ l ∨ ∃ a b, 47 ∉ a ∧ l = a ++ 47 :: b
  | [] => .inl (List.not_mem_nil)
  | c :: r => by
    by_cases hc : c = 47
    · exact .inr ⟨[], r, List.not_mem_nil, by rw [hc]; rfl⟩
    · rcases split47 r with h | ⟨a, b, h, e⟩
      · exact .inl (fun z => (List.mem_cons.mp z).elim (fun y => hc y.symm) h)
      · exact .inr ⟨c :: a, b, fun z => (List.mem_cons.mp z).elim (fun y => hc y.symm) h, by rw [e]; rfl⟩
theorem spl_one {l : List Nat} (h : 47 ∉ l) : TL.spl [47] 0 [] l = [l] := by
  rw [TL.spl_last1 h, List.nil_append]
theorem spl_two {a b : List Nat} (h : 47 ∉ a) : TL.spl [47] 0 [] (a ++ 47 :: b) = a :: TL.spl [47] 0 [] b := by
  have := TL.spl_part1 (S := []) (rest := b) (acc := []) h
  rw [List.nil_append] at this
  exact this
theorem canR1 {ab : Bool} {x : List Nat} (h : 47 ∉ x) : canR ab x = (x.isEmpty || okN ab x) := by
  unfold canR
  rw [spl_one h]
theorem canR2 {ab : Bool} {a b : List Nat} (h : 47 ∉ a) (k : 47 ∉ b) : canR ab (a ++ 47 :: b) = (okN ab a && (b.isEmpty || okN true b)) := by
  unfold canR
  rw [spl_two h, spl_one k]
theorem canR3 {ab : Bool} {a b : List Nat} (h : 47 ∉ a) (k : 47 ∈ b) : canR ab (a ++ 47 :: b) = false := by
  rcases split47 b with z | ⟨c, d, hc, rfl⟩
  · exact absurd k z
  · unfold canR
    rw [spl_two h, spl_two hc]
    cases e : TL.spl [47] 0 [] d with
    | nil => exact absurd e (spl_ne _ _ _ _)
    | cons u v => rfl
theorem free47 {l : List Nat} (h : NumText.AllDigits l) : 47 ∉ l := fun z => by
  have := h 47 z
  omega
theorem okN_true {ab : Bool} {x : List Nat} (h : NumText.AllDigits x) (hne : x ≠ []) (hl : x.length ≤ 60) (h8 : x.head? = some 48 → x.length ≤ 1 ∧ ab = false) : okN ab x = true := by
  unfold okN row
  have e1 : x.isEmpty = false := by cases x with | nil => exact absurd rfl hne | cons => rfl
  have e2 : x.all dig = true := List.all_eq_true.mpr fun c hc => dig_iff.mpr (h c hc)
  rw [e1, e2, decide_eq_true hl]
  by_cases h0 : x.head? = some 48
  · obtain ⟨a, b⟩ := h8 h0
    rw [b, decide_eq_false (show ¬ 1 < x.length by omega)]
    simp
  · rw [decide_eq_false h0]
    rfl
theorem okN_long {ab : Bool} {x : List Nat} (hl : 60 < x.length) : okN ab x = false := by
  unfold okN
  rw [decide_eq_false (show ¬ x.length ≤ 60 by omega)]
  simp
theorem okN_non {ab : Bool} {x : List Nat} {c : Nat} (hc : c ∈ x) (hd : dig c = false) : okN ab x = false := by
  unfold okN row
  have : x.all dig = false := List.all_eq_false.mpr ⟨c, hc, by rw [hd]; exact Bool.false_ne_true⟩
  rw [this]
  simp
theorem okN_zero {ab : Bool} {x : List Nat} (h0 : x.head? = some 48) (h1 : 1 < x.length ∨ ab = true) : okN ab x = false := by
  unfold okN
  rw [decide_eq_true h0]
  rcases h1 with h1 | h1
  · rw [decide_eq_true h1]; simp
  · rw [h1]; simp
theorem scan_err : ∀ (l : List Nat) (j m : Nat), scan j l = .error m → j ≤ 60 → (m = 60 ∧ 60 - j < l.length ∧ NumText.AllDigits (l.take (61 - j)) ∧ (j = 0 → l[0]? ≠ some 48)) ∨ (j = 0 ∧ m = 0 ∧ l[0]? = some 48)
  | [], j, m, h, _ => by cases h
  | c :: r, j, m, h, hj => by
    by_cases hc : dig c = true
    · rw [scan_dig hc] at h
      by_cases hk : j = 60 ∨ j = 0 ∧ c = 48
      · rw [if_pos hk] at h
        cases h
        rcases hk with rfl | ⟨rfl, rfl⟩
        · refine .inl ⟨rfl, by simp, ?_, fun z => by omega⟩
          rw [show 61 - 60 = 0 + 1 from rfl, List.take_succ_cons, List.take_zero]
          exact all_cons hc all_nil
        · exact .inr ⟨rfl, rfl, rfl⟩
      · rw [if_neg hk] at h
        have hj6 : j ≠ 60 := fun z => hk (.inl z)
        rcases scan_err r (j + 1) m h (by omega) with ⟨h1, h2, h3, _⟩ | ⟨h1, _, _⟩
        · refine .inl ⟨h1, by rw [List.length_cons]; omega, ?_, fun z y => ?_⟩
          · rw [show 61 - j = (61 - (j + 1)) + 1 by omega, List.take_succ_cons]
            exact all_cons hc h3
          · simp only [List.getElem?_cons_zero, Option.some.injEq] at y
            exact hk (.inr ⟨z, y⟩)
        · omega
    · rw [scan_non hc] at h
      cases h
theorem take_all {l : List Nat} {n i : Nat} (h : NumText.AllDigits (l.take n)) (hi : i ≤ n) : NumText.AllDigits (l.take i) := fun c hc => h c (by
  rw [show i = min i n by omega, ← List.take_take] at hc
  exact List.mem_of_mem_take hc)
theorem take_ne {l : List Nat} {i : Nat} (h1 : 1 ≤ i) (h2 : l ≠ []) : l.take i ≠ [] := by
  cases l with
  | nil => exact absurd rfl h2
  | cons c r =>
    obtain ⟨j, rfl⟩ : ∃ j, i = j + 1 := ⟨i - 1, by omega⟩
    simp
theorem take_hd {l : List Nat} {i : Nat} (h1 : 1 ≤ i) : (l.take i).head? = l[0]? := by
  cases l with
  | nil => simp
  | cons c r =>
    obtain ⟨j, rfl⟩ : ∃ j, i = j + 1 := ⟨i - 1, by omega⟩
    rfl
theorem take_mem {l : List Nat} {i c : Nat} (h : l[i]? = some c) : c ∈ l.take (i + 1) := by
  rw [List.take_succ, h]
  exact List.mem_append_right _ (List.mem_cons_self ..)
/-- where digits end well -/
theorem dE_ok {r : List Nat} {ab : Bool} {n : Nat} (h : digitsEnd r 0 ab = .ok n) : 1 ≤ n ∧ n ≤ r.length ∧ n ≤ 60 ∧ NumText.AllDigits (r.take n) ∧ (∀ i, 1 ≤ i → i ≤ n → okN ab (r.take i) = true) ∧ (n < r.length → okN ab (r.take (n + 1)) = false) := by
  obtain ⟨h1, h2, h3, h4, h5⟩ := digitsEnd_ok h
  rw [List.drop_zero] at h4
  have h6 : r[0]? = some 48 → n = 1 ∧ ab = false := fun z => by
    have hab : ab = false := by
      cases ab with
      | false => rfl
      | true => exact absurd z (h5 rfl)
    unfold digitsEnd at h
    rw [if_pos ⟨z, hab⟩] at h
    cases h
    exact ⟨rfl, hab⟩
  have h7 : r[0]? ≠ some 48 → ∀ c, r[n]? = some c → dig c = false := fun z c hc => by
    unfold digitsEnd at h
    rw [if_neg (fun y => z y.1)] at h
    split at h
    · cases h
    · cases h
    · rename_i k hk
      cases h
      have := (scan_ok _ _ _ hk).2.2.2.2.2 c
      rw [List.drop_zero, Nat.sub_zero] at this
      rw [Nat.zero_add] at hc
      exact this hc
  have hne : r ≠ [] := fun z => by rw [z, List.length_nil] at h3; omega
  refine ⟨h1, h3, by omega, h4, fun i i1 i2 => okN_true (take_all h4 i2) (take_ne i1 hne) (by rw [List.length_take]; omega) fun z => ?_, fun hn => ?_⟩
  · rw [take_hd i1] at z
    obtain ⟨a, b⟩ := h6 z
    exact ⟨by rw [List.length_take]; omega, b⟩
  · obtain ⟨c, hc⟩ : ∃ c, r[n]? = some c := ⟨_, List.getElem?_eq_getElem hn⟩
    by_cases z : r[0]? = some 48
    · exact okN_zero (by rw [take_hd (by omega)]; exact z) (.inl (by rw [List.length_take]; omega))
    · exact okN_non (take_mem hc) (h7 z c hc)
/-- where digits are wrong -/
theorem dE_err {r : List Nat} {ab : Bool} {k : Nat} (h : digitsEnd r 0 ab = .error k) : (k = 0 ∧ r = []) ∨ (k = 0 ∧ 0 < r.length ∧ okN ab (r.take 1) = false) ∨ (k = 60 ∧ 60 < r.length ∧ NumText.AllDigits (r.take 61) ∧ (∀ i, 1 ≤ i → i ≤ 60 → okN ab (r.take i) = true) ∧ okN ab (r.take 61) = false) := by
  unfold digitsEnd at h
  split at h
  · cases h
  · rename_i h0
    rw [List.drop_zero] at h
    split at h
    · rename_i m hm
      cases h
      rw [Nat.zero_add]
      rcases scan_err _ _ _ hm (by omega) with ⟨h1, h2, h3, h4⟩ | ⟨_, h1, h2⟩
      · have hne : r ≠ [] := fun z => by rw [z, List.length_nil] at h2; omega
        refine .inr (.inr ⟨h1, h2, h3, fun i i1 i2 => okN_true (take_all h3 (by omega)) (take_ne i1 hne) (by rw [List.length_take]; omega) fun z => ?_, okN_long (by rw [List.length_take]; omega)⟩)
        rw [take_hd i1] at z
        exact absurd z (h4 rfl)
      · obtain ⟨hl, _⟩ := List.getElem?_eq_some_iff.mp h2
        refine .inr (.inl ⟨h1, hl, okN_zero (by rw [take_hd (by omega)]; exact h2) (.inr ?_)⟩)
        cases ab with
        | true => rfl
        | false => exact absurd ⟨h2, rfl⟩ h0
    · rename_i hk
      cases h
      cases r with
      | nil => exact .inl ⟨rfl, rfl⟩
      | cons c t =>
        refine .inr (.inl ⟨rfl, by simp, okN_non (List.mem_cons_self ..) ?_⟩)
        have := (scan_ok _ _ _ hk).2.2.2.2.2 c
        exact this rfl
    · cases h
theorem dE_shift (l : List Nat) (s : Nat) (ab : Bool) : digitsEnd l s ab = match digitsEnd (l.drop s) 0 ab with | .error k => .error (s + k) | .ok n => .ok (s + n) := by
  unfold digitsEnd
  have e0 : (l.drop s)[0]? = l[s]? := by rw [List.getElem?_drop]; rfl
  rw [e0, List.drop_zero]
  by_cases h0 : l[s]? = some 48 ∧ ab = false
  · rw [if_pos h0, if_pos h0]
  · rw [if_neg h0, if_neg h0]
    cases scan 0 (l.drop s) with
    | error k => simp
    | ok k =>
      cases k with
      | zero => simp
      | succ k => simp
/-- a number's parts behind its sign: where the second one begins, if there is one -/
def numR (ab : Bool) (r : List Nat) : Except Nat (Option Nat) :=
  match digitsEnd r 0 ab with
  | .error e => .error e
  | .ok n => if r[n]? = some 47 then
      match digitsEnd (r.drop (n + 1)) 0 true with
      | .error k => .error (n + 1 + k)
      | .ok m => if n + 1 + m < r.length then .error (n + 1 + m) else .ok (some n)
    else if n < r.length then .error n else .ok none
theorem read_num {l : List Nat} (h : ¬ l.head? = some 110) : readW l = match numR (decide (0 < neg1 l)) (l.drop (neg1 l)) with
    | .error e => .error (neg1 l + e)
    | .ok none => .ok (some (iv l, 1))
    | .ok (some n) => .ok (some (low (iv (l.take (neg1 l + n))) (iv (l.drop (neg1 l + n + 1))))) := by
  have hs : neg1 l ≤ l.length := by
    unfold neg1
    split
    · rename_i h
      cases l with
      | nil => cases h
      | cons => simp
    · omega
  unfold readW numberAt numR
  rw [if_neg h, dE_shift l (neg1 l)]
  cases h1 : digitsEnd (l.drop (neg1 l)) 0 (decide (0 < neg1 l)) with
  | error e => rfl
  | ok n =>
    have hn := (dE_ok h1).2.1
    rw [List.length_drop] at hn
    simp only [List.getElem?_drop, List.length_drop]
    by_cases h47 : l[neg1 l + n]? = some 47
    · obtain ⟨hl, _⟩ := List.getElem?_eq_some_iff.mp h47
      rw [if_pos h47, if_pos h47, dE_shift l (neg1 l + n + 1), List.drop_drop, show neg1 l + (n + 1) = neg1 l + n + 1 by omega]
      cases h2 : digitsEnd (l.drop (neg1 l + n + 1)) 0 true with
      | error e => simp only [show neg1 l + n + 1 + e = neg1 l + (n + 1 + e) by omega]
      | ok m =>
        have hm := (dE_ok h2).2.1
        rw [List.length_drop] at hm
        simp only []
        by_cases hlt : neg1 l + n + 1 + m < l.length
        · rw [if_pos hlt, if_pos (by omega)]
          simp only [show neg1 l + n + 1 + m = neg1 l + (n + 1 + m) by omega]
        · rw [if_neg hlt, if_neg (by omega), List.take_of_length_le (show l.length ≤ neg1 l + n + 1 + m by omega)]
    · rw [if_neg h47, if_neg h47]
      simp only []
      by_cases hlt : neg1 l + n < l.length
      · rw [if_pos hlt, if_pos (by omega)]
      · rw [if_neg hlt, if_neg (by omega), List.take_of_length_le (by omega)]
/-- what a text behind its sign comes to -/
inductive Out (ab : Bool) (r : List Nat) : Prop where
  | bad (j : Nat) (hj : j < r.length) (h : numR ab r = .error j) (g : ∀ i, 1 ≤ i → i ≤ j → canR ab (r.take i) = true) (b : canR ab (r.take (j + 1)) = false)
  | cut (h : numR ab r = .error r.length) (g : ∀ i, 1 ≤ i → i ≤ r.length → canR ab (r.take i) = true) (e : r = [] ∨ ∃ a, NumText.AllDigits a ∧ a ≠ [] ∧ r = a ++ [47])
  | one (h : numR ab r = .ok none) (g : ∀ i, 1 ≤ i → i ≤ r.length → canR ab (r.take i) = true) (d : NumText.AllDigits r) (hne : r ≠ []) (hl : r.length ≤ 60)
  | two (n : Nat) (b : List Nat) (h : numR ab r = .ok (some n)) (g : ∀ i, 1 ≤ i → i ≤ r.length → canR ab (r.take i) = true) (e : r = r.take n ++ 47 :: b) (hn : n < r.length) (d : NumText.AllDigits (r.take n)) (hne : 1 ≤ n) (hl : n ≤ 60) (d2 : NumText.AllDigits b) (hb : b ≠ []) (hl2 : b.length ≤ 60) (h8 : b[0]? ≠ some 48)
theorem can_dig {ab : Bool} {r : List Nat} {i n : Nat} (d : NumText.AllDigits (r.take n)) (hi : i ≤ n) (h : okN ab (r.take i) = true) : canR ab (r.take i) = true := by
  rw [canR1 (free47 (take_all d hi)), h, Bool.or_true]
theorem outN (ab : Bool) (r : List Nat) : Out ab r := by
  cases h1 : digitsEnd r 0 ab with
  | error e =>
    have hN : numR ab r = .error e := by unfold numR; rw [h1]
    rcases dE_err h1 with ⟨rfl, rfl⟩ | ⟨rfl, hl, hb⟩ | ⟨rfl, hl, hd, hg, hb⟩
    · exact .cut hN (fun i a b => by rw [List.length_nil] at b; omega) (.inl rfl)
    · refine .bad 0 hl hN (fun i a b => by omega) ?_
      obtain ⟨c, t, rfl⟩ := List.exists_cons_of_ne_nil (List.ne_nil_of_length_pos hl)
      show canR ab [c] = false
      by_cases hc : c = 47
      · subst hc
        have := canR2 (ab := ab) (a := []) (b := []) List.not_mem_nil List.not_mem_nil
        rw [List.nil_append] at this
        rw [this]
        rfl
      · rw [canR1 (fun z => (List.mem_cons.mp z).elim (fun y => hc y.symm) (fun y => absurd y List.not_mem_nil))]
        exact hb
    · refine .bad 60 hl hN (fun i a b => can_dig hd (by omega) (hg i a b)) ?_
      rw [canR1 (free47 hd), hb]
      cases h : r.take (60 + 1) with
      | nil =>
        have := congrArg List.length h
        rw [List.length_take, List.length_nil] at this
        omega
      | cons => rfl
  | ok n =>
    obtain ⟨n1, n2, n3, n4, n5, n6⟩ := dE_ok h1
    by_cases h47 : r[n]? = some 47
    · obtain ⟨hl, _⟩ := List.getElem?_eq_some_iff.mp h47
      have hN : numR ab r = match digitsEnd (r.drop (n + 1)) 0 true with
          | .error k => .error (n + 1 + k)
          | .ok m => if n + 1 + m < r.length then .error (n + 1 + m) else .ok (some n) := by
        unfold numR
        rw [h1]
        exact if_pos h47
      have hr : r = r.take n ++ 47 :: r.drop (n + 1) := by
        rw [← drop_some h47, List.take_append_drop]
      have hf := free47 n4
      have ht : ∀ i, r.take (n + 1 + i) = r.take n ++ 47 :: (r.drop (n + 1)).take i := fun i => by
        have e : (r.take n).length = n := by rw [List.length_take]; omega
        calc r.take (n + 1 + i) = (r.take n ++ 47 :: r.drop (n + 1)).take (n + 1 + i) := by rw [← hr]
          _ = r.take n ++ (47 :: r.drop (n + 1)).take (1 + i) := by
            rw [List.take_append, e, List.take_take, show min (n + 1 + i) n = n by omega, show n + 1 + i - n = 1 + i by omega]
          _ = _ := by rw [Nat.add_comm 1 i, List.take_succ_cons]
      have hok : okN ab (r.take n) = true := n5 n n1 (Nat.le_refl _)
      have hlow : ∀ i, 1 ≤ i → i ≤ n + 1 → canR ab (r.take i) = true := fun i a b => by
        by_cases hi : i ≤ n
        · exact can_dig n4 hi (n5 i a hi)
        · have : i = n + 1 + 0 := by omega
          rw [this, ht 0, List.take_zero, canR2 hf List.not_mem_nil, hok]
          rfl
      have hmid : ∀ i, (∀ c ∈ (r.drop (n + 1)).take i, 48 ≤ c ∧ c ≤ 57) → okN true ((r.drop (n + 1)).take i) = true → canR ab (r.take (n + 1 + i)) = true := fun i hd ho => by
        rw [ht i, canR2 hf (free47 hd), hok, ho, Bool.or_true]
        rfl
      have hbadt : ∀ i c, (r.drop (n + 1))[i]? = some c → okN true ((r.drop (n + 1)).take (i + 1)) = false → canR ab (r.take (n + 1 + i + 1)) = false := fun i c hc ho => by
        rw [Nat.add_assoc, ht (i + 1)]
        by_cases hm : 47 ∈ (r.drop (n + 1)).take (i + 1)
        · exact canR3 hf hm
        · rw [canR2 hf hm, ho]
          cases h : (r.drop (n + 1)).take (i + 1) with
          | nil =>
            have := take_mem hc
            rw [h] at this
            cases this
          | cons => rw [hok]; rfl
      have hdl : (r.drop (n + 1)).length = r.length - (n + 1) := List.length_drop
      cases h2 : digitsEnd (r.drop (n + 1)) 0 true with
      | error e =>
        rw [h2] at hN
        rcases dE_err h2 with ⟨rfl, he⟩ | ⟨rfl, hl2, hb⟩ | ⟨rfl, hl2, hd, hg, hb⟩
        · rw [he, List.length_nil] at hdl
          have hle : n + 1 + 0 = r.length := by omega
          refine .cut (by rw [← hle]; exact hN) (fun i a b => hlow i a (by omega)) (.inr ⟨r.take n, n4, fun z => by
            have := congrArg List.length z
            rw [List.length_take, List.length_nil] at this
            omega, by rw [he] at hr; exact hr⟩)
        · exact .bad (n + 1 + 0) (by omega) hN (fun i a b => hlow i a (by omega)) (hbadt 0 _ (List.getElem?_eq_getElem hl2) hb)
        · refine .bad (n + 1 + 60) (by omega) hN (fun i a b => ?_) (hbadt 60 _ (List.getElem?_eq_getElem hl2) hb)
          by_cases hi : i ≤ n + 1
          · exact hlow i a hi
          · obtain ⟨j, rfl⟩ : ∃ j, i = n + 1 + j := ⟨i - (n + 1), by omega⟩
            exact hmid j (take_all hd (by omega)) (hg j (by omega) (by omega))
      | ok m =>
        rw [h2] at hN
        obtain ⟨m1, m2, m3, m4, m5, m6⟩ := dE_ok h2
        have hgood : ∀ i, 1 ≤ i → i ≤ n + 1 + m → canR ab (r.take i) = true := fun i a b => by
          by_cases hi : i ≤ n + 1
          · exact hlow i a hi
          · obtain ⟨j, rfl⟩ : ∃ j, i = n + 1 + j := ⟨i - (n + 1), by omega⟩
            exact hmid j (take_all m4 (by omega)) (m5 j (by omega) (by omega))
        by_cases hlt : n + 1 + m < r.length
        · exact .bad (n + 1 + m) hlt (hN.trans (if_pos hlt)) hgood (hbadt m _ (List.getElem?_eq_getElem (by omega)) (m6 (by omega)))
        · have hfull : (r.drop (n + 1)).take m = r.drop (n + 1) := List.take_of_length_le (by omega)
          rw [hfull] at m4
          have hl60 : (r.drop (n + 1)).length ≤ 60 := by
            have := congrArg List.length hfull
            rw [List.length_take] at this
            omega
          refine .two n (r.drop (n + 1)) (hN.trans (if_neg hlt)) (fun i a b => hgood i a (by omega)) hr (by omega) n4 n1 n3 m4 (fun z => ?_) hl60 ((digitsEnd_ok h2).2.2.2.2 rfl)
          rw [z, List.length_nil] at m2
          omega
    · have hN : numR ab r = if n < r.length then .error n else .ok none := by
        unfold numR
        rw [h1]
        exact if_neg h47
      have hgood : ∀ i, 1 ≤ i → i ≤ n → canR ab (r.take i) = true := fun i a b => can_dig n4 b (n5 i a b)
      by_cases hlt : n < r.length
      · refine .bad n hlt (hN.trans (if_pos hlt)) hgood ?_
        have hc := List.getElem?_eq_getElem hlt
        have hno : 47 ∉ r.take (n + 1) := fun z => by
          rw [List.take_succ, hc] at z
          rcases List.mem_append.mp z with z | z
          · exact free47 n4 z
          · rcases List.mem_cons.mp z with z | z
            · exact h47 (by rw [hc, ← z])
            · cases z
        rw [canR1 hno, n6 hlt]
        cases h : r.take (n + 1) with
        | nil =>
          have := take_mem hc
          rw [h] at this
          cases this
        | cons => rfl
      · have hfull : r.take n = r := List.take_of_length_le (by omega)
        rw [hfull] at n4
        exact .one (hN.trans (if_neg hlt)) (fun i a b => hgood i a (by omega)) n4 (fun z => by rw [z, List.length_nil] at n2; omega) (by omega)
theorem canR_n {ab : Bool} {x : List Nat} : canR ab (110 :: x) = false := by
  rcases split47 (110 :: x) with h | ⟨a, b, h, e⟩
  · rw [canR1 h, okN_non (List.mem_cons_self ..) (by decide)]
    rfl
  · rw [e]
    have hm : 110 ∈ a := by
      cases a with
      | nil =>
        injection e with e1
        cases e1
      | cons c t =>
        injection e with e1
        rw [← e1]
        exact List.mem_cons_self ..
    by_cases hb : 47 ∈ b
    · exact canR3 h hb
    · rw [canR2 h hb, okN_non hm (by decide)]
      rfl
theorem nothK_ok : ∀ (l r : List Nat) (i n : Nat), nothK l r i = .ok n → n = i + r.length ∧ ∀ k, k < r.length → l[i + k]? = r[k]?
  | l, [], i, n, h => by
    cases h
    exact ⟨rfl, fun k hk => by rw [List.length_nil] at hk; omega⟩
  | l, c :: r, i, n, h => by
    by_cases hc : l[i]? = some c
    · have h' : nothK l r (i + 1) = .ok n := by rw [← h]; exact (if_pos hc).symm
      obtain ⟨a, b⟩ := nothK_ok l r (i + 1) n h'
      refine ⟨by rw [List.length_cons]; omega, fun k hk => ?_⟩
      cases k with
      | zero => exact hc
      | succ k =>
        rw [List.length_cons] at hk
        rw [List.getElem?_cons_succ, ← b k (by omega), show i + (k + 1) = i + 1 + k by omega]
    · have h' : (Except.error i : Except Nat Nat) = .ok n := by rw [← h]; exact (if_neg hc).symm
      cases h'
theorem nothK_err : ∀ (l r : List Nat) (i j : Nat), nothK l r i = .error j → i ≤ j ∧ j < i + r.length ∧ (∀ k, i + k < j → l[i + k]? = r[k]?) ∧ l[j]? ≠ r[j - i]?
  | l, [], i, j, h => by cases h
  | l, c :: r, i, j, h => by
    by_cases hc : l[i]? = some c
    · have h' : nothK l r (i + 1) = .error j := by rw [← h]; exact (if_pos hc).symm
      obtain ⟨a, b, e, f⟩ := nothK_err l r (i + 1) j h'
      refine ⟨by omega, by rw [List.length_cons]; omega, fun k hk => ?_, ?_⟩
      · cases k with
        | zero => exact hc
        | succ k => rw [List.getElem?_cons_succ, ← e k (by omega), show i + (k + 1) = i + 1 + k by omega]
      · rw [show j - i = (j - (i + 1)) + 1 by omega, List.getElem?_cons_succ]
        exact f
    · have h' : (Except.error i : Except Nat Nat) = .error j := by rw [← h]; exact (if_neg hc).symm
      cases h'
      refine ⟨Nat.le_refl _, by rw [List.length_cons]; omega, fun k hk => by omega, ?_⟩
      rw [Nat.sub_self]
      exact hc
/-- the text of an int: a minus or none, digits -/
def IntOk (a : List Nat) : Prop := (NumText.AllDigits a ∨ ∃ d, a = 45 :: d ∧ NumText.AllDigits d ∧ d ≠ []) ∧ a ≠ [] ∧ a.length ≤ 61
/-- what a text comes to -/
inductive OutL (l : List Nat) : Prop where
  | bad (j : Nat) (hj : j < l.length) (h : readW l = .error j) (g : ∀ i, 1 ≤ i → i ≤ j → canB (l.take i) = true) (b : canB (l.take (j + 1)) = false)
  | noth (e : l = NOTH) (h : readW l = .ok none) (g : ∀ i, 1 ≤ i → i ≤ l.length → canB (l.take i) = true)
  | cut (h : readW l = .error l.length) (g : ∀ i, 1 ≤ i → i ≤ l.length → canB (l.take i) = true) (hn : l ≠ NOTH) (e : l.head? = some 110 ∨ l = [] ∨ l = [45] ∨ ∃ a, 47 ∉ a ∧ l = a ++ [47])
  | one (h : readW l = .ok (some (iv l, 1))) (g : ∀ i, 1 ≤ i → i ≤ l.length → canB (l.take i) = true) (hn : ¬ l.head? = some 110) (hf : 47 ∉ l) (d : IntOk l) (h45 : l ≠ [45])
  | two (a b : List Nat) (h : readW l = .ok (some (low (iv a) (iv b)))) (g : ∀ i, 1 ≤ i → i ≤ l.length → canB (l.take i) = true) (hn : ¬ l.head? = some 110) (e : l = a ++ 47 :: b) (ha : 47 ∉ a) (d : IntOk a) (d2 : NumText.AllDigits b) (hb : b ≠ []) (hl : b.length ≤ 60) (h8 : b[0]? ≠ some 48)
theorem canB_n {t : List Nat} : canB (110 :: t) = decide (NOTH.take (t.length + 1) = 110 :: t) := by
  unfold canB
  rw [if_neg (by simp), canR_n, Bool.or_false]
  rfl
theorem outL_n (t : List Nat) : OutL (110 :: t) := by
  have hh : (110 :: t).head? = some 110 := rfl
  have same : ∀ i, i ≤ 7 → (∀ k, k < i → (110 :: t)[k]? = NOTH[k]?) → (110 :: t).take i = NOTH.take i := fun i hi h => by
    refine List.ext_getElem? fun k => ?_
    rw [List.getElem?_take, List.getElem?_take]
    by_cases hk : k < i
    · rw [if_pos hk, if_pos hk, h k hk]
    · rw [if_neg hk, if_neg hk]
  have len : ∀ i, i ≤ 7 → (∀ k, k < i → (110 :: t)[k]? = NOTH[k]?) → i ≤ (110 :: t).length := fun i hi h => by
    by_cases hi0 : i = 0
    · omega
    · have := h (i - 1) (by omega)
      rw [List.getElem?_eq_getElem (l := NOTH) (show i - 1 < 7 by omega)] at this
      have := (List.getElem?_eq_some_iff.mp this).1
      omega
  have can : ∀ i, 1 ≤ i → i ≤ 7 → (∀ k, k < i → (110 :: t)[k]? = NOTH[k]?) → canB ((110 :: t).take i) = true := fun i h1 h7 h => by
    have hl := len i h7 h
    unfold canB
    rw [List.length_take, show min i (110 :: t).length = i by omega, same i h7 h, decide_eq_true rfl, Bool.true_or]
  cases hk : nothK (110 :: t) NOTH 0 with
  | error j =>
    have hr := read_ne hh hk
    obtain ⟨_, h1, h2, h3⟩ := nothK_err _ _ _ _ hk
    have h1' : j < 7 := by simpa [NOTH] using h1
    have h2' : ∀ k, k < j → (110 :: t)[k]? = NOTH[k]? := fun k hk => by
      have := h2 k (by omega)
      rwa [Nat.zero_add] at this
    rw [Nat.sub_zero] at h3
    have hjl := len j (by omega) h2'
    by_cases hj : j < (110 :: t).length
    · refine .bad j hj hr (fun i a b => can i a (by omega) fun k hk => h2' k (by omega)) ?_
      rw [List.take_succ_cons, canB_n]
      refine decide_eq_false fun z => h3 ?_
      have := congrArg (fun l => l[j]?) z
      rw [← List.take_succ_cons] at this
      simp only [List.getElem?_take] at this
      have hlt : (t.take j).length = j := by
        rw [List.length_take]
        rw [List.length_cons] at hj
        omega
      rw [hlt, if_pos (by omega), if_pos (by omega)] at this
      exact this.symm
    · have e : j = (110 :: t).length := by omega
      refine .cut (by rw [← e]; exact hr) (fun i a b => can i a (by omega) fun k hk => h2' k (by omega)) (fun z => ?_) (.inl hh)
      have := congrArg List.length z
      rw [← e] at this
      exact absurd this (by simp [NOTH]; omega)
  | ok n =>
    have hr := read_n hh hk
    obtain ⟨h1, h2⟩ := nothK_ok _ _ _ _ hk
    have h1' : n = 7 := h1
    subst h1'
    have h2' : ∀ k, k < 7 → (110 :: t)[k]? = NOTH[k]? := fun k hk => by
      have := h2 k hk
      rwa [Nat.zero_add] at this
    have hl := len 7 (by omega) h2'
    by_cases hlt : 7 < (110 :: t).length
    · refine .bad 7 hlt (hr.trans (if_pos hlt)) (fun i a b => can i a b fun k hk => h2' k (by omega)) ?_
      rw [List.take_succ_cons, canB_n]
      refine decide_eq_false fun z => ?_
      have := congrArg List.length z
      rw [List.length_take, List.length_cons, List.length_take] at this
      rw [List.length_cons] at hlt
      have e7 : NOTH.length = 7 := rfl
      omega
    · have e : (110 :: t) = NOTH := by
        have := same 7 (by omega) h2'
        rwa [List.take_of_length_le (show (110 :: t).length ≤ 7 by omega), List.take_of_length_le (show NOTH.length ≤ 7 by decide)] at this
      exact .noth e (hr.trans (if_neg hlt)) (fun i a b => can i a (by omega) fun k hk => h2' k (by omega))
theorem canB_take {c : Nat} {t : List Nat} (h : c ≠ 110) {i : Nat} (hi : 1 ≤ neg1 (c :: t) + i) : canB ((c :: t).take (neg1 (c :: t) + i)) = canR (decide (0 < neg1 (c :: t))) (((c :: t).drop (neg1 (c :: t))).take i) := by
  have hno : ∀ x : List Nat, decide (NOTH.take (c :: x).length = c :: x) = false := fun x => decide_eq_false fun z => by
    rw [List.length_cons] at z
    injection z with z
    exact h z.symm
  by_cases hc : c = 45
  · subst hc
    show canB ((45 :: t).take (1 + i)) = canR true (t.take i)
    rw [Nat.add_comm 1 i, List.take_succ_cons]
    unfold canB
    rw [hno, Bool.false_or]
    exact if_pos rfl
  · have e : neg1 (c :: t) = 0 := if_neg (by simpa using hc)
    rw [e] at hi ⊢
    rw [Nat.zero_add, List.drop_zero]
    obtain ⟨j, rfl⟩ : ∃ j, i = j + 1 := ⟨i - 1, by omega⟩
    rw [List.take_succ_cons]
    unfold canB
    rw [hno, Bool.false_or, if_neg (by simpa using hc)]
    rfl
theorem outL : ∀ l : List Nat, OutL l
  | [] => .cut (by rfl) (fun i a b => by rw [List.length_nil] at b; omega) (fun z => nomatch z) (.inr (.inl rfl))
  | c :: t => by
    by_cases hc : c = 110
    · subst hc
      exact outL_n t
    · have hh : ¬ (c :: t).head? = some 110 := by simpa using hc
      have hr := read_num hh
      have hcan := fun i hi => canB_take (c := c) (t := t) hc (i := i) hi
      have hlen : neg1 (c :: t) + ((c :: t).drop (neg1 (c :: t))).length = (c :: t).length := by
        have : neg1 (c :: t) ≤ 1 := by
          unfold neg1
          split <;> omega
        rw [List.length_drop, List.length_cons]
        omega
      have hnN : (c :: t) ≠ NOTH := fun z => by
        injection z with z
        exact hc z
      have hs1 : neg1 (c :: t) ≤ 1 := by
        unfold neg1
        split <;> omega
      have hall : ∀ n, (∀ i, 1 ≤ i → i ≤ n → canR (decide (0 < neg1 (c :: t))) (((c :: t).drop (neg1 (c :: t))).take i) = true) → ∀ i, 1 ≤ i → i ≤ neg1 (c :: t) + n → canB ((c :: t).take i) = true := fun n g i a b => by
        by_cases hi : i ≤ neg1 (c :: t)
        · have e : i = neg1 (c :: t) + 0 := by omega
          rw [e, hcan 0 (by omega), List.take_zero, canR1 List.not_mem_nil]
          rfl
        · obtain ⟨j, rfl⟩ : ∃ j, i = neg1 (c :: t) + j := ⟨i - neg1 (c :: t), by omega⟩
          rw [hcan j (by omega)]
          exact g j (by omega) (by omega)
      have hsg : (neg1 (c :: t) = 1 ∧ c = 45) ∨ (neg1 (c :: t) = 0 ∧ c ≠ 45) := by
        by_cases h45 : c = 45
        · exact .inl ⟨if_pos (by rw [h45]; rfl), h45⟩
        · exact .inr ⟨if_neg (by simpa using h45), h45⟩
      have hint : ∀ d, NumText.AllDigits d → d ≠ [] → d.length ≤ 60 → ∀ x, x = (c :: t).take (neg1 (c :: t)) ++ d → IntOk x := fun d hd hne hl x hx => by
        rcases hsg with ⟨e1, e2⟩ | ⟨e1, e2⟩
        · rw [e1, e2] at hx
          have hx' : x = 45 :: d := hx
          rw [hx']
          exact ⟨.inr ⟨d, rfl, hd, hne⟩, List.cons_ne_nil _ _, by rw [List.length_cons]; omega⟩
        · rw [e1, List.take_zero, List.nil_append] at hx
          rw [hx]
          exact ⟨.inl hd, hne, by omega⟩
      have hpre : 47 ∉ (c :: t).take (neg1 (c :: t)) := by
        rcases hsg with ⟨e1, e2⟩ | ⟨e1, e2⟩
        · rw [e1, e2]
          show 47 ∉ [45]
          decide
        · rw [e1]
          exact List.not_mem_nil
      have hta : (c :: t).take (neg1 (c :: t)) ++ (c :: t).drop (neg1 (c :: t)) = c :: t := List.take_append_drop _ _
      cases outN (decide (0 < neg1 (c :: t))) ((c :: t).drop (neg1 (c :: t))) with
      | bad j hj h g b =>
        rw [h] at hr
        refine .bad (neg1 (c :: t) + j) (by omega) hr (hall j g) ?_
        rw [Nat.add_assoc, hcan (j + 1) (by omega)]
        exact b
      | cut h g e =>
        rw [h] at hr
        refine .cut (hr.trans (congrArg Except.error hlen)) (fun i a b => hall _ g i a (by omega)) hnN ?_
        rcases e with e | ⟨a, ha, hne, e⟩
        · rw [e, List.append_nil] at hta
          rcases hsg with ⟨e1, e2⟩ | ⟨e1, e2⟩
          · rw [e1] at hta
            exact .inr (.inr (.inl (by rw [← hta, e2]; rfl)))
          · rw [e1] at hta
            cases hta
        · rw [e] at hta
          refine .inr (.inr (.inr ⟨(c :: t).take (neg1 (c :: t)) ++ a, fun z => ?_, by rw [List.append_assoc]; exact hta.symm⟩))
          rcases List.mem_append.mp z with z | z
          · exact hpre z
          · exact free47 ha z
      | one h g d hne hl =>
        rw [h] at hr
        refine .one hr (fun i a b => hall _ g i a (by omega)) hh (fun z => ?_) (hint _ d hne hl _ hta.symm) (fun z => ?_)
        · rw [← hta] at z
          rcases List.mem_append.mp z with z | z
          · exact hpre z
          · exact free47 d z
        · have e45 : c = 45 := by injection z
          have et : t = [] := by injection z
          rcases hsg with ⟨e1, e2⟩ | ⟨e1, e2⟩
          · rw [e1, et] at hne
            exact hne rfl
          · exact e2 e45
      | two n b h g e hn d hne hl d2 hb hl2 h8 =>
        rw [h] at hr
        have e1 : (c :: t).take (neg1 (c :: t) + n) = (c :: t).take (neg1 (c :: t)) ++ ((c :: t).drop (neg1 (c :: t))).take n := List.take_add
        have hdn : (((c :: t).drop (neg1 (c :: t))).take n).length = n := by rw [List.length_take]; omega
        have e2 : (c :: t).drop (neg1 (c :: t) + n + 1) = b := by
          have : ((c :: t).drop (neg1 (c :: t))).drop (n + 1) = b := by
            rw [e, List.drop_append, List.drop_of_length_le (by omega), hdn, List.nil_append, show n + 1 - n = 0 + 1 by omega]
            rfl
          rw [← this, List.drop_drop, Nat.add_assoc]
        have hr : readW (c :: t) = .ok (some (low (iv ((c :: t).take (neg1 (c :: t) + n))) (iv ((c :: t).drop (neg1 (c :: t) + n + 1))))) := hr
        rw [e2, e1] at hr
        refine .two _ b hr (fun i a b => hall _ g i a (by omega)) hh ?_ (fun z => ?_) (hint _ d (fun z => by rw [z] at hdn; rw [List.length_nil] at hdn; omega) (by omega) _ rfl) d2 hb hl2 h8
        · rw [List.append_assoc, ← e]
          exact hta.symm
        · rcases List.mem_append.mp z with z | z
          · exact hpre z
          · exact free47 d z
theorem int_of {p : Str} (h : IntOk (tl p)) : intText? p = some (iv (tl p)) ∧ p.length ≤ 640 := by
  obtain ⟨h1, h2, h3⟩ := h
  have hl : p.length ≤ 640 := by rw [TL.len_tl]; omega
  refine ⟨?_, hl⟩
  rcases h1 with h1 | ⟨d, e, hd, hne⟩
  · rw [iv_digits h1]
    exact intText_digits h1 h2 (by omega)
  · have := intText_neg (x := p) e hd hne (by omega)
    rw [this, e]
    rfl
theorem iv_pos {b : List Nat} (d : NumText.AllDigits b) (hb : b ≠ []) (hl : b.length ≤ 60) (h8 : b[0]? ≠ some 48) : 1 ≤ iv b ∧ (iv b).natAbs < 2 ^ 9000 := by
  rw [iv_digits d]
  constructor
  · obtain ⟨c, r, rfl⟩ := List.exists_cons_of_ne_nil hb
    have hc := d c (List.mem_cons_self ..)
    have h8' : c ≠ 48 := fun y => h8 (by rw [y]; rfl)
    have := NumText.digitsVal_pos (c := c) (cs := r) (by omega)
    omega
  · have := digitsVal_lt d
    rw [Int.natAbs_natCast]
    have p : 10 ^ b.length ≤ 10 ^ 60 := Nat.pow_le_pow_right (by decide) (by omega)
    have q : 10 ^ 60 ≤ 2 ^ 9000 := by
      have : 2 ^ 200 ≤ 2 ^ 9000 := Nat.pow_le_pow_right (by decide) (by decide)
      have : 10 ^ 60 ≤ 2 ^ 200 := by decide
      omega
    omega
theorem out_bad {l : List Nat} {i : Nat} (hi : i < l.length) (g : ∀ k, 1 ≤ k → k ≤ i → canB (l.take k) = true) (b : canB (l.take (i + 1)) = false) : readW l = .error i := by
  have no : ∀ {p : Prop}, canB (l.take (i + 1)) = true → p := fun z => by
    rw [b] at z
    cases z
  cases outL l with
  | bad j hj h g' b' =>
    rcases Nat.lt_trichotomy j i with z | z | z
    · have := g (j + 1) (by omega) (by omega)
      rw [b'] at this
      cases this
    · rw [← z]; exact h
    · exact no (g' (i + 1) (by omega) (by omega))
  | noth e h g' => exact no (g' (i + 1) (by omega) (by omega))
  | cut h g' => exact no (g' (i + 1) (by omega) (by omega))
  | one h g' => exact no (g' (i + 1) (by omega) (by omega))
  | two a b h g' => exact no (g' (i + 1) (by omega) (by omega))
theorem one_part {z : Str} (h : 47 ∉ tl z) : PySem.Txt.split z (Str.ofString "/") = [z] := by
  have e := parts (z := z)
  rw [spl_one h] at e
  cases hL : PySem.Txt.split z (Str.ofString "/") with
  | nil => rw [hL] at e; cases e
  | cons p L =>
    rw [hL] at e
    rw [List.map_cons] at e
    injection e with e1 e2
    have := List.map_eq_nil_iff.mp e2
    rw [this, TL.ext_tl e1]
theorem two_parts {z : Str} {a b : List Nat} (h : tl z = a ++ 47 :: b) (ha : 47 ∉ a) (hb : 47 ∉ b) : ∃ p y, PySem.Txt.split z (Str.ofString "/") = [p, y] ∧ tl p = a ∧ tl y = b := by
  have e := parts (z := z)
  rw [h, spl_two ha, spl_one hb] at e
  cases hL : PySem.Txt.split z (Str.ofString "/") with
  | nil => rw [hL] at e; cases e
  | cons p L =>
    rw [hL, List.map_cons] at e
    injection e with e1 e2
    cases L with
    | nil => cases e2
    | cons y L =>
      rw [List.map_cons] at e2
      injection e2 with e2 e3
      have := List.map_eq_nil_iff.mp e3
      exact ⟨p, y, by rw [this], e1, e2⟩
theorem low_one (t : Int) : low t 1 = (t, 1) := by
  rw [low_pos (by decide), Int.gcd_one_right]
  simp
theorem in_ed {y : Str} (b : Bool) (h : b = (decide (tl y = []) || decide (tl y = [45]))) : inV (.str y) [.str (Str.ofString ""), .str (Str.ofString "-")] = b := by
  have e1 : (Str.ofString "" == y) = decide (tl y = []) := by
    rw [Bool.eq_iff_iff, beq_iff_eq, decide_eq_true_eq]
    exact ⟨fun z => by rw [← z]; rfl, fun z => (emp_iff.mpr z).symm⟩
  have e2 : (Str.ofString "-" == y) = decide (tl y = [45]) := by
    rw [Bool.eq_iff_iff, beq_iff_eq, decide_eq_true_eq]
    exact ⟨fun z => by rw [← z]; decide, fun z => TL.ext_tl (by rw [z]; decide)⟩
  show ((Str.ofString "" == y) || ((Str.ofString "-" == y) || false)) = b
  rw [h, e1, e2, Bool.or_false]
section
variable {K : PySem.W.Frag} {H : Hp} {Q : VK} {E : XK} {p q : Addr}
theorem c_can_begin {z : Str} (hz : z.length ≤ 1000) (hA : Sm.Asc z) (k : ∀ H', Same H H' → Q (.bl (canB (TL.tl z))) H') : sp__law_can_begin K ([.str z] ++ []) H Q E := ⟨z, rfl, hz, hA, k⟩
theorem c_law_lowest {t b : Int} (h1 : 1 ≤ b) (hb : b.natAbs < 2 ^ 9000) (k : ∀ v H', Same H H' → Dp K H' v (wD (low t b)) → Q v H') : sp__law_lowest K ([.int t, .int b] ++ []) H Q E := ⟨t, b, rfl, h1, hb, k⟩
end
end K01
namespace K01
open PySem PySem.Spec PyProof.Rows L2
open TL (tl)
theorem low_spec {t b : Int} (hb : 1 ≤ b) : ∃ p q : Int, low t b = (p, q) ∧ 1 ≤ q ∧ Int.gcd p q = 1 ∧ p.natAbs ≤ t.natAbs ∧ q ≤ b ∧ (0 ≤ t → t / b ≤ p ∧ 0 ≤ p) := by
  have hg := gcd_pos (t := t) (b := b) (by omega)
  have hgn : 0 < Int.gcd t b := by omega
  refine ⟨_, _, low_pos (by omega), ?_, Int.gcd_ediv_gcd_ediv_gcd hgn, ?_, ?_, fun h0 => ?_⟩
  · have hd : ((Int.gcd t b : Nat) : Int) ∣ b := Int.gcd_dvd_right ..
    have := Int.ediv_pos_of_pos_of_dvd (by omega : 0 < b) (by omega) hd
    omega
  · have hd : ((Int.gcd t b : Nat) : Int) ∣ t := Int.gcd_dvd_left ..
    rw [Int.natAbs_ediv, if_pos (.inr (.inr hd)), Nat.add_zero]
    exact Nat.div_le_self _ _
  · exact Int.ediv_le_self _ (by omega)
  · have hle : ((Int.gcd t b : Nat) : Int) ≤ b := Int.le_of_dvd (by omega) (Int.gcd_dvd_right ..)
    refine ⟨?_, Int.ediv_nonneg h0 (by omega)⟩
    rw [Int.le_ediv_iff_mul_le hg]
    have h1 : t / b * ((Int.gcd t b : Nat) : Int) ≤ t / b * b := Int.mul_le_mul_of_nonneg_left hle (Int.ediv_nonneg h0 (by omega))
    have h2 := Int.ediv_mul_le t (b := b) (by omega)
    omega
theorem lt_BW {x : Int} (h : x < 10 ^ 62) : x < BW := by
  unfold BW
  have e : (10 ^ 62 : Nat) ≤ 10 ^ 4000 := Nat.pow_le_pow_right (by decide) (by decide)
  have e2 : ((10 ^ 62 : Nat) : Int) ≤ ((10 ^ 4000 : Nat) : Int) := Int.ofNat_le.mpr e
  have e3 : ((10 ^ 62 : Nat) : Int) = 10 ^ 62 := by decide
  omega
theorem isLong_of {p q : Int} (h1 : 1 ≤ q) (h2 : Int.gcd p q = 1) (h3 : (p.natAbs : Int) < 10 ^ 62) (h4 : q < 10 ^ 62) : okOp (wD (p, q)) = true := by
  have e : isLong (wD (p, q)) = true := by
    show (isWorth (.tuple [.int p, .int q]) && (decide ((p.natAbs : Int) < BW) && decide (q < BW))) = true
    rw [isWorth_intro h1 h2, decide_eq_true (lt_BW h3), decide_eq_true (lt_BW h4)]
    rfl
  rw [okOp_of (by intro z; cases z)]
  exact e
theorem wsm_of {p q : Int} (h3 : (p.natAbs : Int) < 10 ^ 62) (h1 : 1 ≤ q) (h4 : q < 10 ^ 62) : Wsm (wD (p, q)) := by
  have e : (10 ^ 62 : Nat) ≤ 2 ^ 1900 := Nat.le_trans (show 10 ^ 62 ≤ 2 ^ 250 by decide) (Nat.pow_le_pow_right (by decide) (by decide))
  exact .inr ⟨p, q, rfl, Nat.lt_of_lt_of_le (by omega) e, Nat.lt_of_lt_of_le (by omega) e⟩
theorem wok_of {p q : Int} (h3 : (p.natAbs : Int) < 10 ^ 62) (h1 : 1 ≤ q) (h4 : q < 10 ^ 62) : Wok (wD (p, q)) := by
  have e : (10 ^ 62 : Nat) ≤ 2 ^ 4000 := Nat.le_trans (show 10 ^ 62 ≤ 2 ^ 250 by decide) (Nat.pow_le_pow_right (by decide) (by decide))
  exact .inr ⟨p, q, rfl, h1, Nat.lt_of_lt_of_le (by omega) e, Nat.lt_of_lt_of_le (by omega) e⟩
theorem tl_neg (n : Nat) : tl (Str.ofString (toString (-((n + 1 : Nat) : Int)))) = 45 :: TL.numL (n + 1) := by
  have e : toString (-((n + 1 : Nat) : Int)) = "-" ++ toString (((n + 1 : Nat)) : Int) := rfl
  rw [e, TL.tl_ofString, String.toList_append, List.map_append, ← TL.tl_ofString, ← TL.tl_ofString, TL.tl_num]
  rfl
theorem numL_head : ∀ n : Nat, n ≠ 0 → (TL.numL n).head? ≠ some 48 := by
  intro n
  induction n using Nat.strongRecOn with
  | _ n ih =>
    intro h0 z
    by_cases h : n < 10
    · rw [TL.numL_lt h] at z
      simp only [List.head?_cons, Option.some.injEq] at z
      omega
    · rw [TL.numL_step (by omega)] at z
      have hne := TL.numL_ne (n / 10)
      obtain ⟨c, r, hcr⟩ := List.exists_cons_of_ne_nil hne
      have e : (TL.numL (n / 10) ++ [48 + n % 10]).head? = (TL.numL (n / 10)).head? := by rw [hcr]; rfl
      rw [e] at z
      exact ih (n / 10) (by omega) (by omega) z
theorem numL_ge {n k : Nat} (h : 10 ^ k ≤ n) : k < (TL.numL n).length := by
  have e := digitsVal_lt (TL.numL_digits n)
  rw [TL.numL_val] at e
  rcases Nat.lt_or_ge k (TL.numL n).length with z | z
  · exact z
  · have := Nat.pow_le_pow_right (n := 10) (by decide) z
    omega
theorem scan_go : ∀ (d rest : List Nat) (k : Nat), NumText.AllDigits d → k + d.length ≤ 60 → (k = 0 → d.head? ≠ some 48) → (∀ c, rest.head? = some c → dig c = false) → scan k (d ++ rest) = .ok (k + d.length)
  | [], rest, k, _, _, _, h => by
    rw [List.nil_append, List.length_nil, Nat.add_zero]
    cases rest with
    | nil => rfl
    | cons c r => exact scan_non (Bool.eq_false_iff.mp (h c rfl))
  | c :: d, rest, k, hd, hl, h8, h => by
    rw [List.length_cons] at hl
    have hc : dig c = true := dig_iff.mpr (hd c (List.mem_cons_self ..))
    rw [List.cons_append, scan_dig hc, if_neg (fun z => by
      rcases z with z | ⟨z, y⟩
      · omega
      · exact h8 z (by rw [y]; rfl)), scan_go d rest (k + 1) (fun x hx => hd x (List.mem_cons_of_mem _ hx)) (by omega) (fun z => by omega) h, List.length_cons]
    congr 1
    omega
theorem scan_over : ∀ (d : List Nat) (rest : List Nat) (k : Nat), NumText.AllDigits d → k ≤ 60 → 60 < k + d.length → (k = 0 → d.head? ≠ some 48) → scan k (d ++ rest) = .error 60
  | [], rest, k, _, h1, h2, _ => by
    rw [List.length_nil] at h2
    omega
  | c :: d, rest, k, hd, h1, h2, h8 => by
    rw [List.length_cons] at h2
    have hc : dig c = true := dig_iff.mpr (hd c (List.mem_cons_self ..))
    rw [List.cons_append, scan_dig hc]
    by_cases hk : k = 60
    · rw [if_pos (.inl hk), hk]
    · rw [if_neg (fun z => by
        rcases z with z | ⟨z, y⟩
        · exact hk z
        · exact h8 z (by rw [y]; rfl))]
      exact scan_over d rest (k + 1) (fun x hx => hd x (List.mem_cons_of_mem _ hx)) (by omega) (by omega) (fun z => by omega)
theorem dE_num {n : Nat} {rest : List Nat} {ab : Bool} (hn : n < 10 ^ 60) (h0 : ab = true → n ≠ 0) (h : ∀ c, rest.head? = some c → dig c = false) : digitsEnd (TL.numL n ++ rest) 0 ab = .ok (TL.numL n).length := by
  have hl := TL.numL_len (k := 60) (by decide) hn
  have hne := TL.numL_ne n
  obtain ⟨c, r, hcr⟩ := List.exists_cons_of_ne_nil hne
  have h00 : (TL.numL n ++ rest)[0]? = (TL.numL n).head? := by rw [hcr]; rfl
  unfold digitsEnd
  rw [h00, List.drop_zero]
  by_cases z : n = 0
  · subst z
    have hab : ab = false := by
      cases ab with
      | false => rfl
      | true => exact absurd rfl (h0 rfl)
    have e : TL.numL 0 = [48] := TL.numL_lt (by decide)
    rw [e, hab, if_pos ⟨rfl, rfl⟩]
    rfl
  · have h8 := numL_head n z
    rw [if_neg (fun y => h8 y.1), scan_go _ rest 0 (TL.numL_digits n) (by omega) (fun _ => h8) h, Nat.zero_add]
    have : 0 < (TL.numL n).length := List.length_pos_iff.mpr hne
    obtain ⟨m, hm⟩ : ∃ m, (TL.numL n).length = m + 1 := ⟨(TL.numL n).length - 1, by omega⟩
    rw [hm]
    simp
theorem read_over {n : Nat} {rest : List Nat} (hn : 10 ^ 60 ≤ n) : readW (TL.numL n ++ rest) = .error 60 := by
  have hne := TL.numL_ne n
  obtain ⟨c, r, hcr⟩ := List.exists_cons_of_ne_nil hne
  have hc := TL.numL_digits n c (by rw [hcr]; exact List.mem_cons_self ..)
  have h00 : (TL.numL n ++ rest)[0]? = (TL.numL n).head? := by rw [hcr]; rfl
  have hh : (TL.numL n ++ rest).head? = some c := by rw [hcr]; rfl
  have h1 : ¬ (TL.numL n ++ rest).head? = some 110 := fun z => by
    rw [hh] at z
    injection z with z
    omega
  have h2 : neg1 (TL.numL n ++ rest) = 0 := if_neg fun z => by
    rw [hh] at z
    injection z with z
    omega
  have h8 := numL_head n (by intro z; rw [z] at hn; exact absurd hn (by decide))
  rw [read_num h1, h2, List.drop_zero]
  unfold numR digitsEnd
  rw [h00, if_neg (fun y => h8 y.1), List.drop_zero, scan_over _ rest 0 (TL.numL_digits n) (by omega) (by have := numL_ge hn; omega) (fun _ => h8)]
theorem tl_words {p q : Int} (h1 : 1 ≤ q) : tl (wordsD (wD (p, q))) = (if p < 0 then [45] else []) ++ (TL.numL p.natAbs ++ (if q = 1 then [] else 47 :: TL.numL q.natAbs)) := by
  have ep : tl (Str.ofString (toString p)) = (if p < 0 then [45] else []) ++ TL.numL p.natAbs := by
    by_cases h : p < 0
    · obtain ⟨n, rfl⟩ : ∃ n : Nat, p = -((n + 1 : Nat) : Int) := ⟨p.natAbs - 1, by omega⟩
      rw [tl_neg, if_pos h, Int.natAbs_neg, Int.natAbs_natCast]
      rfl
    · obtain ⟨n, rfl⟩ : ∃ n : Nat, p = n := ⟨p.natAbs, by omega⟩
      rw [TL.tl_num, if_neg h, Int.natAbs_natCast]
      rfl
  have eq : tl (Str.ofString (toString q)) = TL.numL q.natAbs := by
    obtain ⟨n, rfl⟩ : ∃ n : Nat, q = n := ⟨q.natAbs, by omega⟩
    rw [TL.tl_num, Int.natAbs_natCast]
  show tl (wText p q) = _
  unfold wText
  by_cases h : q = 1
  · rw [if_pos h, if_pos h, List.append_nil]
    exact ep
  · rw [if_neg h, if_neg h, TL.tl_append, TL.tl_append]
    have e47 : tl (Str.ofString "/") = [47] := by decide
    show tl (Str.ofString (toString p)) ++ tl (Str.ofString "/") ++ tl (Str.ofString (toString q)) = _
    rw [ep, eq, e47, List.append_assoc, List.append_assoc]
    rfl
theorem read_back {p q : Int} (h1 : 1 ≤ q) (h2 : Int.gcd p q = 1) (h3 : (p.natAbs : Int) < 10 ^ 60) (h4 : q < 10 ^ 60) : readW (tl (wordsD (wD (p, q)))) = .ok (some (p, q)) := by
  rw [tl_words h1]
  generalize hrest : (if q = 1 then [] else 47 :: TL.numL q.natAbs : List Nat) = rest
  have hne := TL.numL_ne p.natAbs
  obtain ⟨c, r, hcr⟩ := List.exists_cons_of_ne_nil hne
  have hc := TL.numL_digits p.natAbs c (by rw [hcr]; exact List.mem_cons_self ..)
  have hrd : ∀ c, rest.head? = some c → dig c = false := fun c hc => by
    rw [← hrest] at hc
    split at hc
    · cases hc
    · cases hc
      decide
  have hpn : p.natAbs < 10 ^ 60 := by omega
  have hlow : low p q = (p, q) := by
    rw [low_pos (by omega), h2]
    simp
  -- behind the sign
  have hR : ∀ ab, (ab = true → p.natAbs ≠ 0) → numR ab (TL.numL p.natAbs ++ rest) = .ok (if q = 1 then none else some (TL.numL p.natAbs).length) := fun ab hab => by
    unfold numR
    rw [dE_num hpn hab hrd]
    by_cases hq : q = 1
    · rw [if_pos hq] at hrest ⊢
      rw [← hrest, List.append_nil]
      simp
    · rw [if_neg hq] at hrest ⊢
      have e1 : (TL.numL p.natAbs ++ rest)[(TL.numL p.natAbs).length]? = some 47 := by
        rw [← hrest, List.getElem?_append_right (Nat.le_refl _), Nat.sub_self]
        rfl
      have e2 : (TL.numL p.natAbs ++ rest).drop ((TL.numL p.natAbs).length + 1) = TL.numL q.natAbs ++ [] := by
        rw [← hrest, List.append_nil, List.drop_append, List.drop_of_length_le (by omega), List.nil_append, show (TL.numL p.natAbs).length + 1 - (TL.numL p.natAbs).length = 0 + 1 by omega]
        rfl
      have e3 : (TL.numL p.natAbs ++ rest).length = (TL.numL p.natAbs).length + 1 + (TL.numL q.natAbs).length := by
        rw [← hrest, List.length_append, List.length_cons]
        omega
      simp only [e1, if_true, e2]
      rw [dE_num (by omega) (fun _ => by omega) (fun c hc => by cases hc)]
      simp only [e3]
      rw [if_neg (by omega)]
  have hivq : iv (TL.numL q.natAbs) = q := by
    rw [iv_digits (TL.numL_digits _), TL.numL_val]
    omega
  by_cases hneg : p < 0
  · rw [if_pos hneg]
    show readW (45 :: (TL.numL p.natAbs ++ rest)) = _
    have hs : neg1 (45 :: (TL.numL p.natAbs ++ rest)) = 1 := if_pos rfl
    have hivp : iv (45 :: TL.numL p.natAbs) = p := by
      show -((NumText.digitsVal (TL.numL p.natAbs) : Nat) : Int) = p
      rw [TL.numL_val]
      omega
    rw [read_num (by simp), hs]
    show (match numR true (TL.numL p.natAbs ++ rest) with | .error e => Except.error (1 + e) | .ok none => Except.ok (some (iv (45 :: (TL.numL p.natAbs ++ rest)), (1 : Int))) | .ok (some n) => Except.ok (some (low (iv ((45 :: (TL.numL p.natAbs ++ rest)).take (1 + n))) (iv ((45 :: (TL.numL p.natAbs ++ rest)).drop (1 + n + 1))))) : Except Nat (Option (Int × Int))) = _
    rw [hR true (fun _ => by omega)]
    by_cases hq : q = 1
    · rw [if_pos hq] at hrest ⊢
      show Except.ok (some (iv (45 :: (TL.numL p.natAbs ++ rest)), 1)) = _
      rw [← hrest, List.append_nil, hivp, hq]
    · rw [if_neg hq] at hrest ⊢
      have e1 : (45 :: (TL.numL p.natAbs ++ rest)).take (1 + (TL.numL p.natAbs).length) = 45 :: TL.numL p.natAbs := by
        rw [Nat.add_comm, List.take_succ_cons, List.take_append_of_le_length (Nat.le_refl _), List.take_length]
      have e2 : (45 :: (TL.numL p.natAbs ++ rest)).drop (1 + (TL.numL p.natAbs).length + 1) = TL.numL q.natAbs := by
        rw [show 1 + (TL.numL p.natAbs).length + 1 = ((TL.numL p.natAbs).length + 1) + 1 by omega, List.drop_succ_cons, ← hrest, List.drop_append, List.drop_of_length_le (by omega), List.nil_append, show (TL.numL p.natAbs).length + 1 - (TL.numL p.natAbs).length = 0 + 1 by omega]
        rfl
      show Except.ok (some (low (iv ((45 :: (TL.numL p.natAbs ++ rest)).take (1 + (TL.numL p.natAbs).length))) (iv ((45 :: (TL.numL p.natAbs ++ rest)).drop (1 + (TL.numL p.natAbs).length + 1))))) = _
      rw [e1, e2, hivp, hivq, hlow]
  · rw [if_neg hneg, List.nil_append]
    have hh : (TL.numL p.natAbs ++ rest).head? = some c := by rw [hcr]; rfl
    have hs : neg1 (TL.numL p.natAbs ++ rest) = 0 := if_neg fun z => by
      rw [hh] at z
      injection z with z
      omega
    have hivp : iv (TL.numL p.natAbs) = p := by
      rw [iv_digits (TL.numL_digits _), TL.numL_val]
      omega
    rw [read_num (fun z => by rw [hh] at z; injection z with z; omega), hs]
    show (match numR false (TL.numL p.natAbs ++ rest) with | .error e => Except.error (0 + e) | .ok none => Except.ok (some (iv (TL.numL p.natAbs ++ rest), (1 : Int))) | .ok (some n) => Except.ok (some (low (iv ((TL.numL p.natAbs ++ rest).take (0 + n))) (iv ((TL.numL p.natAbs ++ rest).drop (0 + n + 1))))) : Except Nat (Option (Int × Int))) = _
    rw [hR false (fun z => by cases z)]
    by_cases hq : q = 1
    · rw [if_pos hq] at hrest ⊢
      show Except.ok (some (iv (TL.numL p.natAbs ++ rest), 1)) = _
      rw [← hrest, List.append_nil, hivp, hq]
    · rw [if_neg hq] at hrest ⊢
      have e1 : (TL.numL p.natAbs ++ rest).take (0 + (TL.numL p.natAbs).length) = TL.numL p.natAbs := by
        rw [Nat.zero_add, List.take_append_of_le_length (Nat.le_refl _), List.take_length]
      have e2 : (TL.numL p.natAbs ++ rest).drop (0 + (TL.numL p.natAbs).length + 1) = TL.numL q.natAbs := by
        rw [Nat.zero_add, ← hrest, List.drop_append, List.drop_of_length_le (by omega), List.nil_append, show (TL.numL p.natAbs).length + 1 - (TL.numL p.natAbs).length = 0 + 1 by omega]
        rfl
      show Except.ok (some (low (iv ((TL.numL p.natAbs ++ rest).take (0 + (TL.numL p.natAbs).length))) (iv ((TL.numL p.natAbs ++ rest).drop (0 + (TL.numL p.natAbs).length + 1))))) = _
      rw [e1, e2, hivp, hivq, hlow]
theorem read_great {p q : Int} (h1 : 1 ≤ q) (h3 : 10 ^ 60 ≤ p) : readW (tl (wordsD (wD (p, q)))) = .error 60 := by
  rw [tl_words h1, if_neg (by omega), List.nil_append]
  exact read_over (by omega)
theorem words_len {p q : Int} (h1 : 1 ≤ q) (h3 : (p.natAbs : Int) < 10 ^ 62) (h4 : q < 10 ^ 62) : (wordsD (wD (p, q))).length ≤ 1000 := by
  rw [TL.len_tl, tl_words h1, List.length_append, List.length_append]
  have a := TL.numL_len (n := p.natAbs) (k := 62) (by decide) (by omega)
  have b := TL.numL_len (n := q.natAbs) (k := 62) (by decide) (by omega)
  split <;> split <;> simp only [List.length_nil, List.length_cons] <;> omega
section
variable {K : PySem.W.Frag} {H : Hp} {Q : VK} {E : XK} {p q : Addr} {x y : V} {d e : PyData}
theorem c_text (hd : Dice H p) (k : ∀ z H', z.length ≤ 200 → Sm.Asc z → Same (Sm.dl H p) H' → Dice H' p → Q (.str z) H') : sp__law_text K ([.ref p] ++ []) H Q E := ⟨p, rfl, hd, fun z a b H' hs hd => k z H' a b hs hd⟩
theorem c_spoilt {z : Str} (hd : Dice H p) (hz : z.length ≤ 900) (hA : Sm.Asc z) (k : ∀ z' H', z'.length ≤ z.length + 1 → Sm.Asc z' → Same (Sm.dl H p) H' → Dice H' p → Q (.str z') H') : sp__law_spoilt K ([.ref p, .str z] ++ []) H Q E := ⟨p, z, rfl, hd, hz, hA, fun z' a b H' hs hd => k z' H' a b hs hd⟩
theorem told_e {l : List Nat} {n : Nat} (h : readW l = .error n) (k : Sm.RetV (.int (n : Int)) H Q) : ToldT K l H Q := ⟨fun m hm => by rw [h] at hm; cases hm; exact k, fun o ho => by rw [h] at ho; cases ho⟩
theorem told_o {l : List Nat} {o : Option (Int × Int)} (h : readW l = .ok o) (k : Tell K (.list [oD o]) H Q) : ToldT K l H Q := ⟨fun m hm => by (rw [h] at hm; cases hm), fun o ho => by rw [h] at ho; cases ho; exact k⟩
theorem c_toldE {z : Str} {n : Nat} (hz : z.length ≤ 1000) (h : readW (tl z) = .error n) (k : ∀ H', Same H H' → Q (.int (n : Int)) H') : sp__law_told K ([.str z] ++ []) H Q E := ⟨_, _, rfl, .str z, fun w e => by
  cases e
  exact ⟨hz, told_e h k⟩, fun hn => absurd rfl (hn z)⟩
theorem c_toldO {z : Str} {o : Option (Int × Int)} (hz : z.length ≤ 1000) (h : readW (tl z) = .ok o) (k : ∀ v H', Same H H' → Dp K H' v (.list [oD o]) → Q v H') : sp__law_told K ([.str z] ++ []) H Q E := ⟨_, _, rfl, .str z, fun w e => by
  cases e
  exact ⟨hz, told_o h k⟩, fun hn => absurd rfl (hn z)⟩
theorem c_toldN (hd : Dp K H x d) (hne : ∀ z, d ≠ .str z) (k : ∀ H', Same H H' → Q .non H') : sp__law_told K ([x] ++ []) H Q E := ⟨x, d, rfl, hd, fun z e => absurd e (hne z), fun _ => k⟩
theorem c_dueE {z : Str} {n : Nat} (hz : z.length ≤ 1000) (hA : Sm.Asc z) (h : readW (tl z) = .error n) (k : ∀ H', Same H H' → Q (.int (n : Int)) H') : sp__law_due K ([.str z] ++ []) H Q E := ⟨z, rfl, hz, hA, told_e h k⟩
theorem c_dueO {z : Str} {o : Option (Int × Int)} (hz : z.length ≤ 1000) (hA : Sm.Asc z) (h : readW (tl z) = .ok o) (k : ∀ v H', Same H H' → Dp K H' v (.list [oD o]) → Q v H') : sp__law_due K ([.str z] ++ []) H Q E := ⟨z, rfl, hz, hA, told_o h k⟩
theorem c_written (hd : Dp K H x d) (hn : d ≠ .none) (hw : Wsm d) (k : ∀ H', Same H H' → Q (.str (wordsD d)) H') : sp__law_written K ([x] ++ []) H Q E := ⟨x, d, rfl, hd, hn, hw, k⟩
theorem c_worth_text (hd : Dp K H x d) (ho : okOp d = true) (hw : Wsm d) (k : ∀ H', Same H H' → Q (.str (wordsD d)) H') : sp_worth_text K ([x] ++ []) H Q E := ⟨x, d, rfl, hd, fun _ => ⟨hw, k⟩, fun z => by rw [ho] at z; cases z⟩
theorem c_read {z : Str} {w : Int × Int} (hz : z.length ≤ 1000) (h : readW (tl z) = .ok (some w)) (k : ∀ v H', Same H H' → Dp K H' v (wD w) → Q v H') : sp_read_worth K ([.str z] ++ []) H Q E := ⟨_, _, rfl, .str z, fun w e => by
  cases e
  exact ⟨hz, fun o ho => by rw [h] at ho; cases ho; exact k, fun m hm => by rw [h] at hm; cases hm⟩, fun hn => absurd rfl (hn z)⟩
theorem c_plus {c : PyData} (hd : Dp K H x d) (he : Dp K H y e) (od : okOp d = true) (oe : okOp e = true) (wd : Wok d) (we : Wok e) (hc : sumD d e = c) (k : ∀ v H', Same H H' → Dp K H' v c → Q v H') : sp_plus K ([x, y] ++ []) H Q E := ⟨x, y, d, e, rfl, hd, he, od, oe, wd, we, by rw [hc]; exact k⟩
end
theorem dice_at {H H2 : Hp} {p q : Addr} {o : HO} (hd : Dice H p) (hn : H q = none) (h : H2 q = some o) : Sm.dl H2 p q = some o := by
  obtain ⟨a, b, c, hp⟩ := hd
  rw [Sm.dl_ne (fun z => by rw [z, hp] at hn; cases hn)]
  exact h
theorem eqv_w (p q : Int) : PyData.eqv (wD (p, q)) (wD (p, q)) = true := PySem.SeqAt.eqv_refl _ rfl
theorem eqv_o (o : Option (Int × Int)) : PyData.eqv (.list [oD o]) (.list [oD o]) = true := by
  cases o with
  | none => rfl
  | some w => exact PySem.SeqAt.eqv_refl _ rfl
theorem shaped_o (o : Option (Int × Int)) : SeqAt.shaped (.list [oD o]) = true := by
  cases o with
  | none => rfl
  | some w => rfl
end K01
namespace K01
open PySem PySem.Spec PyProof.Rows L2
local macro_rules | `(tactic| wtm_at "dc") => `(tactic| first | assumption | exact dice_mv (by assumption) (by wtm_at "sm"))
local macro_rules | `(tactic| wtm_at "st") => `(tactic| first | ((with_reducible apply c_is_whole); (focus (wtm_at "at")); intro H' hs) | ((with_reducible apply c_is_worth); (focus (wtm_at "at")); intro H' hs) | ((with_reducible apply c_is_long_worth); (focus (wtm_at "at")); intro H' hs) | ((with_reducible apply c_gcdA); (focus (wtm_at "sd")); intro H' hs) | ((with_reducible apply c_gcd); (focus (wtm_at "sd")); (focus (wtm_at "sd")); intro H' hs) | ((with_reducible apply c_require_worth); (focus (wtm_at "at")); (focus (wtm_at "sd")); intro H' hs) | ((with_reducible apply c_require_operand); (focus (wtm_at "at")); (focus (wtm_at "sd")); intro H' hs) | ((with_reducible apply c_sum_in); (focus (wtm_at "at")); (focus (wtm_at "at")); (focus (wtm_at "sd")); (focus (wtm_at "sd")); intro v H' hs hd) | ((with_reducible apply c_lowest); (focus (wtm_at "sd")); (focus (wtm_at "sd")); intro v H' hs hd) | ((with_reducible apply c_is_row); (focus (wtm_at "sd")); (focus (assumption)); intro H' hs) | ((with_reducible apply c_roll); (focus (wtm_at "dc")); (focus (wtm_at "sd")); (focus (wtm_at "sd")); intro r H' h0 h1 hs hd) | ((with_reducible apply c_integer); (focus (wtm_at "dc")); intro r H' h0 h1 hs hd) | ((with_reducible apply c_one_of); (focus (wtm_at "dc")); (focus (wtm_at "at")); (focus (wtm_at "sd")); (focus (wtm_at "sd")); intro i v H' hx hs hd) | ((with_reducible apply c_can_begin); (focus (wtm_at "sd")); (focus (assumption)); intro H' hs) | ((with_reducible apply c_law_lowest); (focus (wtm_at "sd")); (focus (wtm_at "sd")); intro v H' hs hd) | ((with_reducible apply c_text); (focus (wtm_at "dc")); intro z H' hz hA hs hd) | ((with_reducible apply c_spoilt); (focus (wtm_at "dc")); (focus (wtm_at "sd")); (focus (assumption)); intro z H' hz hA hs hd) | ((with_reducible apply c_toldE); (focus (wtm_at "sd")); (focus (assumption)); intro H' hs) | ((with_reducible apply c_toldO); (focus (wtm_at "sd")); (focus (assumption)); intro v H' hs hd) | ((with_reducible apply c_dueE); (focus (wtm_at "sd")); (focus (assumption)); (focus (assumption)); intro H' hs) | ((with_reducible apply c_dueO); (focus (wtm_at "sd")); (focus (assumption)); (focus (assumption)); intro v H' hs hd) | ((with_reducible apply c_toldN); (focus (wtm_at "at")); (focus (assumption)); intro H' hs) | ((with_reducible apply c_written); (focus (wtm_at "at")); (focus (assumption)); (focus (assumption)); intro H' hs) | ((with_reducible apply c_worth_text); (focus (wtm_at "at")); (focus (assumption)); (focus (assumption)); intro H' hs) | ((with_reducible apply c_read); (focus (wtm_at "sd")); (focus (assumption)); intro v H' hs hd) | ((with_reducible apply c_plus); (focus (wtm_at "at")); (focus (wtm_at "at")); (focus (assumption)); (focus (assumption)); (focus (assumption)); (focus (assumption)); (focus (assumption)); intro v H' hs hd))
section
variable {P : Program} {w : World} {K : PySem.W.Frag} {mg : Str → Option Value} {base : Heap} {f : Addr} {fd : FuncData}
theorem ok_is_whole (T : Txt P K mg) (F : FD K "is_whole" s_is_whole f fd)  : FnOk P w K mg base (L2.CX P w) 1 f fd P_is_whole (sp_is_whole K) := by
  refine F.ok sc_is_whole (fun vs H Q E h => ?_) (fun cdv A outer s H vs Q E hr h => ?_)
  · obtain ⟨x, d, rfl, _⟩ := h
    rfl
  obtain ⟨x, d, rfl, hd, hq⟩ := h
  refine ⟨_, (pss_one (ps_ret (pe_and (pe_callB call_isi rfl T.f_isinstance (by decide +kernel) (pa_cons (pv 0) (pa_cons (Sm.pe_ty (n := "int") T.f_int (by decide +kernel)) pa_nil))) (pe_one (pe_not (pe_callB call_isi rfl T.f_isinstance (by decide +kernel) (pa_cons (pv 0) (pa_cons (Sm.pe_ty (n := "bool") T.f_bool (by decide +kernel)) pa_nil)))))))), ?_⟩
  rw [st_is_whole]
  cases hd <;> (repeat' wtm_at "st")
  all_goals exact hq _ (Same.refl _)
end
section
variable {P : Program} {w : World} {K : PySem.W.Frag} {mg : Str → Option Value} {base : Heap} {f : Addr} {fd : FuncData}
theorem ok_greatest_divisor (T : Txt P K mg) (F : FD K "greatest_divisor" s_greatest_divisor f fd)  : FnOk P w K mg base (L2.CX P w) 1 f fd P_greatest_divisor (sp_greatest_divisor K) := by
  refine F.ok sc_greatest_divisor (fun vs H Q E h => ?_) (fun cdv A outer s H vs Q E hr h => ?_)
  · obtain ⟨a, b, rfl, _⟩ := h
    rfl
  obtain ⟨a, b, rfl, ha, hb, hq⟩ := h
  refine ⟨_, (pss_cons (ps_while (passes_of rfl) (pt_cmpR (Sm.op_neU hr) (pv 1) pe_int (nomark _)) (pss_one (ps_par (i := 0) (j := 1) rfl sc_greatest_divisor.nd rfl rfl (by decide) rfl rfl (pa_cons (pv 1) (pa_cons (pe_op op_modN (pv 0) (pv 1)) pa_nil)) (by rfl))))
      (pss_one (ps_ret (pv 0)))), ?_⟩
  rw [st_greatest_divisor]
  wtm_at "st"
  refine Sm.g_while (fun σ H' => ∃ x y : Int, σ = [some (.int x), some (.int y)] ∧ Same H H' ∧ 0 ≤ x ∧ 0 ≤ y ∧ Int.gcd x y = Int.gcd a b) (fun σ _ => match σ with | [_, some (.int y)] => y.toNat | _ => 0) ⟨a, b, rfl, Same.refl _, ha, hb, rfl⟩ ?_
  rintro σ H' ⟨x, y, rfl, hs, hx, hy, hg⟩
  repeat' wtm_at "st"
  · refine Sm.g_wturn ?_
    repeat' wtm_at "st"
    have h1 := Int.emod_nonneg x (b := y) (by omega)
    have h2 := Int.emod_lt_of_pos x (b := y) (by omega)
    refine ⟨?_, y, x % y, rfl, hs, hy, h1, (gcd_step x y).trans hg⟩
    show (x % y).toNat < y.toNat
    omega
  · rename_i h0
    subst h0
    have e : x = ((Int.gcd a b : Nat) : Int) := by
      rw [Int.gcd_zero_right] at hg
      omega
    show Q (.int x) H'
    rw [e]
    exact hq H' hs
end
section
variable {P : Program} {w : World} {K : PySem.W.Frag} {mg : Str → Option Value} {base : Heap} {f : Addr} {fd : FuncData}
theorem ok_lowest (T : Txt P K mg) (F : FD K "lowest" s_lowest f fd) (G_greatest_divisor : Sm.Fn P w K mg base 1 "greatest_divisor" P_greatest_divisor (sp_greatest_divisor K)) : FnOk P w K mg base (L2.CX P w) 2 f fd P_lowest (sp_lowest K) := by
  refine F.ok sc_lowest (fun vs H Q E h => ?_) (fun cdv A outer s H vs Q E hr h => ?_)
  · obtain ⟨t, b, rfl, _⟩ := h
    rfl
  obtain ⟨t, b, rfl, hb, hz, hq⟩ := h
  refine ⟨_, (pss_cons (ps_if (pt_cmpR op_lt (pv 1) pe_int (nomark _)) (pss_one (ps_par (i := 0) (j := 1) rfl sc_lowest.nd rfl rfl (by decide) rfl rfl (pa_cons (pe_un un_neg (pv 0)) (pa_cons (pe_un un_neg (pv 1)) pa_nil)) (by rfl))) pss_nil)
      (pss_cons (ps_set (i := 2) sc_lowest.nd rfl (Or.inl rfl) (Sm.pe_fn G_greatest_divisor hr (pa_cons (pe_callB Sm.call_absU rfl T.f_abs (by decide +kernel) (pa_cons (pv 0) pa_nil)) (pa_cons (pv 1) pa_nil))))
      (pss_one (ps_ret (pe_tup (pa_cons (pe_op Sm.op_fdivU (pv 0) (pv 2)) (pa_cons (pe_op Sm.op_fdivU (pv 1) (pv 2)) pa_nil))))))), ?_⟩
  rw [st_lowest]
  have gp := gcd_pos (t := t) hb
  have hp : ∀ i, Builtin.divisionGoesByPylong i (Int.gcd t b : Nat) = false := fun i => gcd_py hb hz
  repeat' wtm_at "st"
  all_goals simp only [Int.neg_gcd, Int.gcd_neg]
  all_goals repeat' wtm_at "st"
  all_goals refine hq _ _ (by wtm_at "sm") ?_
  · rw [low_neg (by assumption)]
    exact dp_pair (by assumption)
  · rw [low_pos (by omega)]
    exact dp_pair (by assumption)
end
section
variable {P : Program} {w : World} {K : PySem.W.Frag} {mg : Str → Option Value} {base : Heap} {f : Addr} {fd : FuncData}
theorem ok_is_worth (T : Txt P K mg) (F : FD K "is_worth" s_is_worth f fd) (G_is_whole : Sm.Fn P w K mg base 1 "is_whole" P_is_whole (sp_is_whole K)) (G_greatest_divisor : Sm.Fn P w K mg base 1 "greatest_divisor" P_greatest_divisor (sp_greatest_divisor K)) : FnOk P w K mg base (L2.CX P w) 2 f fd P_is_worth (sp_is_worth K) := by
  refine F.ok sc_is_worth (fun vs H Q E h => ?_) (fun cdv A outer s H vs Q E hr h => ?_)
  · obtain ⟨x, d, rfl, _⟩ := h
    rfl
  obtain ⟨x, d, rfl, hd, hq⟩ := h
  refine ⟨_, (pss_cons (ps_if (PW.pt (pw_or (pt_not (pt_truth (pe_callB call_isi rfl T.f_isinstance (by decide +kernel) (pa_cons (pv 0) (pa_cons (Sm.pe_ty (n := "tuple") T.f_tuple (by decide +kernel)) pa_nil))) (by intro _; rfl))) (pw_or (pt_cmpR (Sm.op_neU hr) (pe_callB Sm.call_lenU rfl T.f_len (by decide +kernel) (pa_cons (pv 0) pa_nil)) pe_int (nomark _)) (pw_or (pt_not (pt_truth (Sm.pe_fn G_is_whole hr (pa_cons (pe_ix ix_seq (pv 0) pe_int (fun _ _ => rfl)) pa_nil)) (by intro _; rfl))) (pw_or1 (pt_not (pt_truth (Sm.pe_fn G_is_whole hr (pa_cons (pe_ix ix_seq (pv 0) pe_int (fun _ _ => rfl)) pa_nil)) (by intro _; rfl)))))))) (pss_one (ps_ret pe_bl)) pss_nil)
      (pss_one (ps_ret (pe_and (pe_cmpR op_ge (pe_ix ix_seq (pv 0) pe_int (fun _ _ => rfl)) pe_int (nomark _)) (pe_one (pe_cmpR (Sm.op_eqU hr) (Sm.pe_fn G_greatest_divisor hr (pa_cons (pe_callB Sm.call_absU rfl T.f_abs (by decide +kernel) (pa_cons (pe_ix ix_seq (pv 0) pe_int (fun _ _ => rfl)) pa_nil)) (pa_cons (pe_ix ix_seq (pv 0) pe_int (fun _ _ => rfl)) pa_nil))) pe_int (nomark _))))))), ?_⟩
  rw [st_is_worth]
  cases hd with
  | tup h r =>
    rcases r with _ | ⟨h0, r⟩
    · repeat' wtm_at "st"
      all_goals exact hq _ (Same.refl _)
    rcases r with _ | ⟨h1, r⟩
    · repeat' wtm_at "st"
      all_goals exact Sm.fin (hq _ (Same.refl _)) (congrArg V.bl (isWorth_1 _))
    rcases r with _ | ⟨h2, r⟩
    · rename_i x0 d0 x1 d1
      repeat' wtm_at "st"
      · refine Sm.fin (hq _ (by wtm_at "sm")) (congrArg V.bl ?_)
        cases d0 <;> first | rfl | simp_all [isWhole]
      · refine Sm.fin (hq _ (by wtm_at "sm")) (congrArg V.bl ?_)
        cases d1 <;> cases d0 <;> first | rfl | simp_all [isWhole]
      · obtain ⟨t, rfl⟩ : ∃ t, d0 = .int t := by cases d0 <;> simp_all [isWhole]
        obtain ⟨b, rfl⟩ : ∃ t, d1 = .int t := by cases d1 <;> simp_all [isWhole]
        cases h0
        cases h1
        repeat' wtm_at "st"
        all_goals (refine Sm.fin (hq _ (by wtm_at "sm")) (congrArg V.bl ?_); simp_all [isWorth])
        intros
        omega
    · repeat' wtm_at "st"
      all_goals exact Sm.fin (hq _ (Same.refl _)) (congrArg V.bl (isWorth_3 _ _ _ _))
  | _ =>
    repeat' wtm_at "st"
    all_goals exact hq _ (Same.refl _)
end
section
variable {P : Program} {w : World} {K : PySem.W.Frag} {mg : Str → Option Value} {base : Heap} {f : Addr} {fd : FuncData}
theorem ok_is_long_worth (T : Txt P K mg) (F : FD K "is_long_worth" s_is_long_worth f fd) (G_is_worth : Sm.Fn P w K mg base 2 "is_worth" P_is_worth (sp_is_worth K)) : FnOk P w K mg base (L2.CX P w) 3 f fd P_is_long_worth (sp_is_long_worth K) := by
  refine F.ok sc_is_long_worth (fun vs H Q E h => ?_) (fun cdv A outer s H vs Q E hr h => ?_)
  · obtain ⟨x, d, rfl, _⟩ := h
    rfl
  obtain ⟨x, d, rfl, hd, hq⟩ := h
  refine ⟨_, (pss_one (ps_ret (pe_and (Sm.pe_fn G_is_worth hr (pa_cons (pv 0) pa_nil)) (pe_and (pe_cmpR op_lt (pe_callB Sm.call_absU rfl T.f_abs (by decide +kernel) (pa_cons (pe_ix ix_seq (pv 0) pe_int (fun _ _ => rfl)) pa_nil)) (Sm.pe_gi T.c_BEYOND_WORTHS) (nomark _)) (pe_one (pe_cmpR op_lt (pe_ix ix_seq (pv 0) pe_int (fun _ _ => rfl)) (Sm.pe_gi T.c_BEYOND_WORTHS) (nomark _))))))), ?_⟩
  rw [st_is_long_worth]
  repeat' wtm_at "st"
  · obtain ⟨t, b, rfl, h1, h2⟩ := isWorth_elim (by assumption)
    obtain ⟨p, rfl, hs⟩ := Sm.dp_pair_inv hd
    repeat' wtm_at "st"
    all_goals (refine Sm.fin (hq _ (by wtm_at "sm")) (congrArg V.bl ?_); simp_all [isLong]; try (intros; omega))
  · exact Sm.fin (hq _ (by wtm_at "sm")) (congrArg V.bl (isLong_worth (by assumption)))
end
section
variable {P : Program} {w : World} {K : PySem.W.Frag} {mg : Str → Option Value} {base : Heap} {f : Addr} {fd : FuncData}
theorem ok_require_worth (T : Txt P K mg) (F : FD K "require_worth" s_require_worth f fd) (G_is_long_worth : Sm.Fn P w K mg base 3 "is_long_worth" P_is_long_worth (sp_is_long_worth K)) : FnOk P w K mg base (L2.CX P w) 4 f fd P_require_worth (sp_require_worth K) := by
  refine F.ok sc_require_worth (fun vs H Q E h => ?_) (fun cdv A outer s H vs Q E hr h => ?_)
  · obtain ⟨x, d, rfl, _⟩ := h
    rfl
  obtain ⟨x, d, rfl, hd, hq, he⟩ := h
  refine ⟨_, (pss_one (ps_if (pt_not (pt_truth (Sm.pe_fn G_is_long_worth hr (pa_cons (pv 0) pa_nil)) (by intro _; rfl))) (pss_one (ps_raise rfl (takes_of rfl rfl rfl rfl) (Sm.pmk_pl T.x_InvalidWorth (pa_cons (pv 0) pa_nil)))) pss_nil)), ?_⟩
  rw [st_require_worth]
  repeat' wtm_at "st"
  · exact ⟨Nat.le_of_ble_eq_true rfl, he (by assumption) _ (by wtm_at "sm")⟩
  · exact hq (by assumption) _ (by wtm_at "sm")
end
section
variable {P : Program} {w : World} {K : PySem.W.Frag} {mg : Str → Option Value} {base : Heap} {f : Addr} {fd : FuncData}
theorem ok_require_operand (T : Txt P K mg) (F : FD K "require_operand" s_require_operand f fd) (G_require_worth : Sm.Fn P w K mg base 4 "require_worth" P_require_worth (sp_require_worth K)) : FnOk P w K mg base (L2.CX P w) 5 f fd P_require_operand (sp_require_operand K) := by
  refine F.ok sc_require_operand (fun vs H Q E h => ?_) (fun cdv A outer s H vs Q E hr h => ?_)
  · obtain ⟨x, d, rfl, _⟩ := h
    rfl
  obtain ⟨x, d, rfl, hd, hq, he⟩ := h
  refine ⟨_, (pss_one (ps_if (pt_cmpR Sm.op_nisU (pv 0) pe_non (nomark _)) (pss_one (ps_expr (Sm.pe_fnE G_require_worth hr (pa_cons (pv 0) pa_nil) (Sm.passE rfl rfl rfl rfl)))) pss_nil)), ?_⟩
  rw [st_require_operand]
  by_cases hn : d = .none
  · subst hn
    cases hd
    repeat' wtm_at "st"
    exact hq rfl _ (by wtm_at "sm")
  · have e := okOp_of hn
    rw [e] at hq he
    have hx : x ≠ .non := fun z => by
      subst z
      cases hd
      exact hn rfl
    refine Sm.Stq.h (g := _) (s := _) ?_
    refine ⟨rfl, ?_⟩
    rw [decide_eq_false hx]
    repeat' wtm_at "st"
    refine ⟨x, d, rfl, hd, fun z H' hs => hq z H' hs, fun z H' hs => he z H' hs⟩
end
section
variable {P : Program} {w : World} {K : PySem.W.Frag} {mg : Str → Option Value} {base : Heap} {f : Addr} {fd : FuncData}
theorem ok_sum_in (T : Txt P K mg) (F : FD K "sum_in" s_sum_in f fd) (G_lowest : Sm.Fn P w K mg base 2 "lowest" P_lowest (sp_lowest K)) : FnOk P w K mg base (L2.CX P w) 3 f fd P_sum_in (sp_sum_in K) := by
  refine F.ok sc_sum_in (fun vs H Q E h => ?_) (fun cdv A outer s H vs Q E hr h => ?_)
  · obtain ⟨x, y, d, e, rfl, _⟩ := h
    rfl
  obtain ⟨x, y, d, e, rfl, hd, he, wd, we, hq⟩ := h
  refine ⟨_, (pss_cons (ps_if (PW.pt (pw_or (pt_cmpR Sm.op_isU (pv 0) pe_non (nomark _)) (pw_or1 (pt_cmpR Sm.op_isU (pv 1) pe_non (nomark _))))) (pss_one (ps_ret (pe_ifExp (pt_cmpR Sm.op_isU (pv 0) pe_non (nomark _)) (pv 1) (pv 0)))) pss_nil)
      (pss_cons (ps_if (pt_cmpR (Sm.op_eqU hr) (pe_ix ix_seq (pv 0) pe_int (fun _ _ => rfl)) (pe_ix ix_seq (pv 1) pe_int (fun _ _ => rfl)) (nomark _)) (pss_one (ps_ret (Sm.pe_fn G_lowest hr (pa_cons (pe_op Sm.op_addU (pe_ix ix_seq (pv 0) pe_int (fun _ _ => rfl)) (pe_ix ix_seq (pv 1) pe_int (fun _ _ => rfl))) (pa_cons (pe_ix ix_seq (pv 0) pe_int (fun _ _ => rfl)) pa_nil))))) pss_nil)
      (pss_one (ps_ret (Sm.pe_fn G_lowest hr (pa_cons (pe_op Sm.op_addU (pe_op Sm.op_mulU (pe_ix ix_seq (pv 0) pe_int (fun _ _ => rfl)) (pe_ix ix_seq (pv 1) pe_int (fun _ _ => rfl))) (pe_op Sm.op_mulU (pe_ix ix_seq (pv 1) pe_int (fun _ _ => rfl)) (pe_ix ix_seq (pv 0) pe_int (fun _ _ => rfl)))) (pa_cons (pe_op Sm.op_mulU (pe_ix ix_seq (pv 0) pe_int (fun _ _ => rfl)) (pe_ix ix_seq (pv 1) pe_int (fun _ _ => rfl))) pa_nil))))))), ?_⟩
  rw [st_sum_in]
  rcases wd with rfl | ⟨a, b, rfl, hb, ha1, hb1⟩
  · cases hd
    rcases we with rfl | ⟨c, e, rfl, he0, hc1, he1⟩
    · cases he
      repeat' wtm_at "st"
      exact hq _ _ (by wtm_at "sm") .non
    · obtain ⟨q, rfl, hq2⟩ := Sm.dp_pair_inv he
      repeat' wtm_at "st"
      exact hq _ _ (by wtm_at "sm") (by wtm_at "at")
  · obtain ⟨p, rfl, hp2⟩ := Sm.dp_pair_inv hd
    rcases we with rfl | ⟨c, e, rfl, he0, hc1, he1⟩
    · cases he
      repeat' wtm_at "st"
      exact hq _ _ (by wtm_at "sm") (by wtm_at "at")
    · obtain ⟨q, rfl, hq2⟩ := Sm.dp_pair_inv he
      have m1 : IntMulOk a e := Sm.mulB ha1 he1 (by decide) (by decide) (by decide)
      have m2 : IntMulOk c b := Sm.mulB hc1 hb1 (by decide) (by decide) (by decide)
      have m3 : IntMulOk b e := Sm.mulB hb1 he1 (by decide) (by decide) (by decide)
      have h9 : b.natAbs < 2 ^ 9000 := Nat.lt_of_lt_of_le hb1 (Nat.pow_le_pow_right (by decide) (by decide))
      have h8 : (b * e).natAbs < 2 ^ 9000 := Nat.lt_of_lt_of_le (wide_lt hb1 he1) (Nat.pow_le_pow_right (by decide) (by decide))
      have hbe : b * e ≠ 0 := by
        intro z
        rcases Int.mul_eq_zero.mp z with z | z <;> omega
      repeat' wtm_at "st"
      · refine hq _ _ (by wtm_at "sm") ?_
        rw [sumD_tt, if_pos (by assumption)]
        wtm_at "at"
      · refine hq _ _ (by wtm_at "sm") ?_
        rw [sumD_tt, if_neg (by assumption)]
        wtm_at "at"
end
section
variable {P : Program} {w : World} {K : PySem.W.Frag} {mg : Str → Option Value} {base : Heap} {f : Addr} {fd : FuncData}
theorem ok_plus (T : Txt P K mg) (F : FD K "plus" s_plus f fd) (G_require_operand : Sm.Fn P w K mg base 5 "require_operand" P_require_operand (sp_require_operand K)) (G_sum_in : Sm.Fn P w K mg base 3 "sum_in" P_sum_in (sp_sum_in K)) : FnOk P w K mg base (L2.CX P w) 6 f fd P_plus (sp_plus K) := by
  refine F.ok sc_plus (fun vs H Q E h => ?_) (fun cdv A outer s H vs Q E hr h => ?_)
  · obtain ⟨x, y, d, e, rfl, _⟩ := h
    rfl
  obtain ⟨x, y, d, e, rfl, hd, he, od, oe, wd, we, hq⟩ := h
  refine ⟨_, (pss_cons (ps_expr (Sm.pe_fnE G_require_operand hr (pa_cons (pv 0) pa_nil) (Sm.passE rfl rfl rfl rfl)))
      (pss_cons (ps_expr (Sm.pe_fnE G_require_operand hr (pa_cons (pv 1) pa_nil) (Sm.passE rfl rfl rfl rfl)))
      (pss_one (ps_ret (Sm.pe_fn G_sum_in hr (pa_cons (pv 0) (pa_cons (pv 1) pa_nil))))))), ?_⟩
  rw [st_plus]
  repeat' wtm_at "st"
  exact hq _ _ (by wtm_at "sm") (by wtm_at "at")
end
section
variable {P : Program} {w : World} {K : PySem.W.Frag} {mg : Str → Option Value} {base : Heap} {f : Addr} {fd : FuncData}
theorem ok_worth_words (T : Txt P K mg) (F : FD K "worth_words" s_worth_words f fd)  : FnOk P w K mg base (L2.CX P w) 1 f fd P_worth_words (sp_worth_words K) := by
  refine F.ok sc_worth_words (fun vs H Q E h => ?_) (fun cdv A outer s H vs Q E hr h => ?_)
  · obtain ⟨x, d, rfl, _⟩ := h
    rfl
  obtain ⟨x, d, rfl, hd, hs, hq⟩ := h
  refine ⟨_, (pss_cons (ps_if (pt_cmpR Sm.op_isU (pv 0) pe_non (nomark _)) (pss_one (ps_ret (Sm.pe_gs T.c_NOTHING))) pss_nil)
      (pss_one (ps_ret (pe_ifExp (pt_cmpR (Sm.op_eqU hr) (pe_ix ix_seq (pv 0) pe_int (fun _ _ => rfl)) pe_int (nomark _)) (pe_callTy Sm.call_strU rfl T.f_str (by decide +kernel) (pa_cons (pe_ix ix_seq (pv 0) pe_int (fun _ _ => rfl)) pa_nil)) (pe_joined (PJ.cons (pe_fmt (pe_ix ix_seq (pv 0) pe_int (fun _ _ => rfl))) (PJ.cons pe_str (PJ.cons (pe_fmt (pe_ix ix_seq (pv 0) pe_int (fun _ _ => rfl))) PJ.nil)))))))), ?_⟩
  rw [st_worth_words]
  rcases hs with rfl | ⟨a, b, rfl, ha, hb⟩
  · cases hd
    repeat' wtm_at "st"
    exact hq _ (by wtm_at "sm")
  · obtain ⟨p, rfl, hp⟩ := Sm.dp_pair_inv hd
    have la := Sm.log_of ha (by decide) (by decide)
    have lb := Sm.log_of hb (by decide) (by decide)
    have za := Sm.len_num la
    have zb := Sm.len_num lb
    have z1 : (Str.ofString "/").length = 1 := by decide
    repeat' wtm_at "st"
    · refine Sm.fin (hq _ (by wtm_at "sm")) (congrArg V.str ?_)
      exact if_pos (by assumption)
    · refine Sm.fin (hq _ (by wtm_at "sm")) (congrArg V.str ?_)
      refine (if_neg (by assumption)).trans ?_
      exact TL.ext_tl (by simp only [TL.tl_append]; rfl)
end
section
variable {P : Program} {w : World} {K : PySem.W.Frag} {mg : Str → Option Value} {base : Heap} {f : Addr} {fd : FuncData}
theorem ok_worth_text (T : Txt P K mg) (F : FD K "worth_text" s_worth_text f fd) (G_require_operand : Sm.Fn P w K mg base 5 "require_operand" P_require_operand (sp_require_operand K)) (G_worth_words : Sm.Fn P w K mg base 1 "worth_words" P_worth_words (sp_worth_words K)) : FnOk P w K mg base (L2.CX P w) 6 f fd P_worth_text (sp_worth_text K) := by
  refine F.ok sc_worth_text (fun vs H Q E h => ?_) (fun cdv A outer s H vs Q E hr h => ?_)
  · obtain ⟨x, d, rfl, _⟩ := h
    rfl
  obtain ⟨x, d, rfl, hd, hq, he⟩ := h
  refine ⟨_, (pss_cons (ps_expr (Sm.pe_fnE G_require_operand hr (pa_cons (pv 0) pa_nil) (Sm.passE rfl rfl rfl rfl)))
      (pss_one (ps_ret (Sm.pe_fn G_worth_words hr (pa_cons (pv 0) pa_nil))))), ?_⟩
  rw [st_worth_text]
  repeat' wtm_at "st"
  refine ⟨x, d, rfl, hd, fun z H' hs => ?_, fun z H' hs => he z H' hs⟩
  obtain ⟨hw, hq⟩ := hq z
  repeat' wtm_at "st"
  refine ⟨x, d, rfl, by wtm_at "at", hw, fun H' hs => hq _ (by wtm_at "sm")⟩
end
section
variable {P : Program} {w : World} {K : PySem.W.Frag} {mg : Str → Option Value} {base : Heap} {f : Addr} {fd : FuncData}
theorem ok_digits_end (T : Txt P K mg) (F : FD K "digits_end" s_digits_end f fd)  : FnOk P w K mg base (L2.CX P w) 1 f fd P_digits_end (sp_digits_end K) := by
  refine F.ok sc_digits_end (fun vs H Q E h => ?_) (fun cdv A outer s H vs Q E hr h => ?_)
  · obtain ⟨z, s, ab, rfl, _⟩ := h
    rfl
  obtain ⟨z, s, ab, rfl, hz, hs, hq, he⟩ := h
  refine ⟨_, (pss_cons (ps_if (PW.pt (pw_and (pt_cmpR (Sm.op_eqU hr) (pe_slice Sm.sl_U (pv 0) (po_some (pv 1)) (po_some (pe_op Sm.op_addU (pv 1) pe_int))) pe_str (nomark _)) (pw_and1 (pt_not (pt_truth (pv 2) (by intro _; rfl)))))) (pss_one (ps_ret (pe_op Sm.op_addU (pv 1) pe_int))) pss_nil)
      (pss_cons (ps_set (i := 3) sc_digits_end.nd rfl (Or.inl rfl) (pv 1))
      (pss_cons (ps_while (passes_of rfl) (PW.pt (pw_and (pt_cmpR op_lt (pv 3) (pe_callB Sm.call_lenU rfl T.f_len (by decide +kernel) (pa_cons (pv 0) pa_nil)) (nomark _)) (pw_and1 (pt_cmpR Sm.op_inU (pe_ix ix_seq (pv 0) (pv 3) (fun _ _ => rfl)) (Sm.pe_gs T.c_DIGITS) (by rfl))))) (pss_cons (ps_if (PW.pt (pw_or (pt_cmpR (Sm.op_eqU hr) (pv 3) (pe_op Sm.op_addU (pv 1) (Sm.pe_gi T.c_MOST_PASSED)) (nomark _)) (pw_or1 (PW.pt (pw_and (pt_cmpR (Sm.op_eqU hr) (pv 3) (pv 1) (nomark _)) (pw_and1 (pt_cmpR (Sm.op_eqU hr) (pe_ix ix_seq (pv 0) (pv 3) (fun _ _ => rfl)) pe_str (nomark _)))))))) (pss_one (ps_raise rfl (takes_of rfl rfl rfl rfl) (Sm.pmk_xs T.x_ParseError hr (by exact (pa_cons (pv 3) pa_nil))))) pss_nil)
      (pss_one (ps_aug (i := 3) sc_digits_end.nd rfl (Or.inl rfl) pe_int ip_add))))
      (pss_cons (ps_if (pt_cmpR (Sm.op_eqU hr) (pv 3) (pv 1) (nomark _)) (pss_one (ps_raise rfl (takes_of rfl rfl rfl rfl) (Sm.pmk_xs T.x_ParseError hr (by exact (pa_cons (pv 1) pa_nil))))) pss_nil)
      (pss_one (ps_ret (pv 3))))))), ?_⟩
  rw [st_digits_end]
  have hl : z.length = (TL.tl z).length := TL.len_tl z
  have h48 : Str.ofString "0" = ⟨#[48]⟩ := by decide
  by_cases h0 : (TL.tl z)[s]? = some 48 ∧ ab = false
  · have hc := (Sm.cut1 z s 48).mpr h0.1
    rw [← h48] at hc
    have hb := h0.2
    repeat' wtm_at "st"
    refine Sm.fin (hq (s + 1) ?_ _ (by wtm_at "sm")) rfl
    exact if_pos h0
  · have eD : digitsEnd (TL.tl z) s ab = _ := if_neg h0
    repeat' wtm_at "st"
    · exact absurd ⟨(Sm.cut1 z s 48).mp (by rw [← h48]; assumption), by assumption⟩ h0
    all_goals
      refine Sm.g_while (fun σ H' => ∃ (k : Nat) (e : Int), σ = [some (.str z), some (.int (s : Int)), some (.bl ab), some (.int e)] ∧ Same H H' ∧ e = (s : Int) + k ∧ s + k ≤ (TL.tl z).length ∧ scan 0 ((TL.tl z).drop s) = scan k ((TL.tl z).drop (s + k))) (fun σ _ => match σ with | [_, _, _, some (.int e)] => ((TL.tl z).length - e).toNat | _ => 0) ⟨0, s, rfl, Same.refl _, by omega, by omega, rfl⟩ ?_
      rintro σ H' ⟨k, e, rfl, hs', rfl, hk, hsc⟩
      by_cases hlt : s + k < (TL.tl z).length
      · obtain ⟨c, hc⟩ : ∃ c, (TL.tl z)[s + k]? = some c := ⟨_, List.getElem?_eq_getElem hlt⟩
        have hat : atI z.cps.toList ((s : Int) + (k : Int)) = some c := by
          have := atI_nat hc
          rwa [Int.natCast_add] at this
        have hd : (TL.tl z).drop (s + k) = c :: (TL.tl z).drop (s + k + 1) := drop_some hc
        rw [hd] at hsc
        by_cases hg : dig c = true
        · have hm := dig_in.mpr hg
          have eN := scan_dig (k := k) (r := (TL.tl z).drop (s + k + 1)) hg
          by_cases hk6 : k = 60
          · rw [hsc, eN, if_pos (.inl hk6)] at eD
            repeat' wtm_at "st"
            refine Sm.g_wturn ?_
            repeat' wtm_at "st"
            exact (he (s + k) eD _ _ (by wtm_at "sm") (by assumption))
          · by_cases hk0 : k = 0 ∧ c = 48
            · rw [hsc, eN, if_pos (.inr hk0)] at eD
              obtain ⟨rfl, rfl⟩ := hk0
              have h48' := h48.symm
              repeat' wtm_at "st"
              refine Sm.g_wturn ?_
              repeat' wtm_at "st"
              exact (he (s + 0) eD _ _ (by wtm_at "sm") (by assumption))
            · have hn : ¬ (k = 60 ∨ k = 0 ∧ c = 48) := fun z => z.elim hk6 hk0
              rw [eN, if_neg hn] at hsc
              have hno : (s : Int) + k = s → ¬ ((⟨#[c]⟩ : Str) = Str.ofString "0") := fun z y => by
                rw [h48] at y
                injection y with y
                injection y with y
                injection y with y
                exact hk0 ⟨by omega, y⟩
              repeat' wtm_at "st"
              refine Sm.g_wturn ?_
              repeat' wtm_at "st"
              · exact absurd (by assumption) (hno (by assumption))
              all_goals exact ⟨by show ((TL.tl z).length - ((s : Int) + k + 1)).toNat < ((TL.tl z).length - ((s : Int) + k)).toNat; omega, k + 1, _, rfl, hs', by omega, by omega, by rw [hsc, Nat.add_assoc]⟩
        · have hm := fun z => hg (dig_in.mp z)
          have eN := scan_non (k := k) (r := (TL.tl z).drop (s + k + 1)) hg
          rw [hsc, eN] at eD
          repeat' wtm_at "st"
          · obtain rfl : k = 0 := by omega
            exact (he s eD _ _ (by wtm_at "sm") (by assumption))
          · obtain ⟨j, rfl⟩ : ∃ j, k = j + 1 := ⟨k - 1, by omega⟩
            exact hq (s + (j + 1)) eD _ (by wtm_at "sm")
      · rw [List.drop_eq_nil_of_le (show (TL.tl z).length ≤ s + k by omega)] at hsc
        rw [hsc, scan_nil] at eD
        repeat' wtm_at "st"
        · obtain rfl : k = 0 := by omega
          exact (he s eD _ _ (by wtm_at "sm") (by assumption))
        · obtain ⟨j, rfl⟩ : ∃ j, k = j + 1 := ⟨k - 1, by omega⟩
          exact hq (s + (j + 1)) eD _ (by wtm_at "sm")
end
section
variable {P : Program} {w : World} {K : PySem.W.Frag} {mg : Str → Option Value} {base : Heap} {f : Addr} {fd : FuncData}
theorem ok_nothing_end (T : Txt P K mg) (F : FD K "nothing_end" s_nothing_end f fd)  : FnOk P w K mg base (L2.CX P w) 1 f fd P_nothing_end (sp_nothing_end K) := by
  refine F.ok sc_nothing_end (fun vs H Q E h => ?_) (fun cdv A outer s H vs Q E hr h => ?_)
  · obtain ⟨z, rfl, _⟩ := h
    rfl
  obtain ⟨z, rfl, hz, hq, he⟩ := h
  refine ⟨_, (pss_cons (ps_for (passes_of rfl) rfl (Sm.pi_enumS T.f_enumerate (pa_cons (Sm.pe_gs T.c_NOTHING) pa_nil)) (pg_tup rfl (pgs_cons (pg_name (i := 1) sc_nothing_end.nd rfl (Or.inl rfl)) (pgs_cons (pg_name (i := 2) sc_nothing_end.nd rfl (Or.inl rfl)) pgs_nil))) (pss_one (ps_if (pt_cmpR (Sm.op_neU hr) (pe_slice Sm.sl_U (pv 0) (po_some (pv 1)) (po_some (pe_op Sm.op_addU (pv 1) pe_int))) (pv 2) (nomark _)) (pss_one (ps_raise rfl (takes_of rfl rfl rfl rfl) (Sm.pmk_xs T.x_ParseError hr (by exact (pa_cons (pv 1) pa_nil))))) pss_nil)))
      (pss_one (ps_ret (pe_callB Sm.call_lenU rfl T.f_len (by decide +kernel) (pa_cons (Sm.pe_gs T.c_NOTHING) pa_nil))))), ?_⟩
  rw [st_nothing_end]
  have hl : z.length = (TL.tl z).length := TL.len_tl z
  have hcp : (Str.ofString "nothing").cps = NOTH.toArray := by decide
  refine Sm.Stq.h ?_
  refine ⟨Str.ofString "nothing", rfl, ?_⟩
  refine Sm.g_forW Sm.walk_enumS (fun i σ H' => i ≤ 7 ∧ ∃ u v, σ = [some (.str z), u, v] ∧ Same H H' ∧ nothK (TL.tl z) NOTH 0 = nothK (TL.tl z) (NOTH.drop i) i) ⟨by decide, _, _, rfl, Same.refl _, rfl⟩ (fun _ _ _ _ _ => trivial) ?_ ?_
  · rintro i x σ H1 H2 hi ⟨hi7, u, v, rfl, hs, hk⟩ ⟨T, c, rfl, hn, rfl, hc⟩
    have hT : upd H1 T (.tup [.int (i : Nat), .str ⟨#[c]⟩]) T = _ := upd_same
    have hs3 : Same H1 (upd H1 T (.tup [.int (i : Nat), .str ⟨#[c]⟩])) := Sm.Same.new hn
    generalize upd H1 T (.tup [.int (i : Nat), .str ⟨#[c]⟩]) = H3 at hT hs3
    rw [hcp] at hc hi
    have hi' : i < 7 := hi
    have hd : NOTH.drop i = c :: NOTH.drop (i + 1) := drop_some (by simpa using hc)
    rw [hd] at hk
    have hlen : z.length ≤ sizeLine := Sm.len_le (by omega)
    repeat' wtm_at "st"
    · have hne : ¬ (TL.tl z)[i]? = some c := fun z => (by assumption : ¬ _) ((Sm.cut1 _ _ _).mpr z)
      have e : nothK (TL.tl z) (c :: NOTH.drop (i + 1)) i = .error i := if_neg hne
      rw [e] at hk
      exact he i hk _ _ (by wtm_at "sm") (by assumption)
    all_goals
      have heq : (TL.tl z)[i]? = some c := (Sm.cut1 _ _ _).mp (by assumption)
      have e : nothK (TL.tl z) (c :: NOTH.drop (i + 1)) i = nothK (TL.tl z) (NOTH.drop (i + 1)) (i + 1) := if_pos heq
      rw [e] at hk
      exact ⟨by omega, _, _, rfl, by wtm_at "sm", hk⟩
  · rintro σ H1 ⟨_, u, v, rfl, hs, hk⟩
    rw [hcp] at hk
    repeat' wtm_at "st"
    exact Sm.fin (hq 7 hk _ (by wtm_at "sm")) (congrArg V.int (by decide))
end
section
variable {P : Program} {w : World} {K : PySem.W.Frag} {mg : Str → Option Value} {base : Heap} {f : Addr} {fd : FuncData}
theorem ok_number_at (T : Txt P K mg) (F : FD K "number_at" s_number_at f fd) (G_digits_end : Sm.Fn P w K mg base 1 "digits_end" P_digits_end (sp_digits_end K)) (G_lowest : Sm.Fn P w K mg base 2 "lowest" P_lowest (sp_lowest K)) : FnOk P w K mg base (L2.CX P w) 3 f fd P_number_at (sp_number_at K) := by
  refine F.ok sc_number_at (fun vs H Q E h => ?_) (fun cdv A outer s H vs Q E hr h => ?_)
  · obtain ⟨z, rfl, _⟩ := h
    rfl
  obtain ⟨z, rfl, hz, hq, he⟩ := h
  refine ⟨_, (pss_cons (ps_set (i := 2) sc_number_at.nd rfl (Or.inl rfl) (pe_ifExp (pt_cmpR (Sm.op_eqU hr) (pe_slice Sm.sl_U (pv 0) (po_some (pv 1)) (po_some (pe_op Sm.op_addU (pv 1) pe_int))) pe_str (nomark _)) (pe_op Sm.op_addU (pv 1) pe_int) (pv 1)))
      (pss_cons (ps_set (i := 3) sc_number_at.nd rfl (Or.inl rfl) (Sm.pe_fnE G_digits_end hr (pa_cons (pv 0) (pa_cons (pv 2) (pa_cons (pe_cmpR op_gt (pv 2) (pv 1) (nomark _)) pa_nil))) (Sm.passE rfl rfl rfl rfl)))
      (pss_cons (ps_set (i := 4) sc_number_at.nd rfl (Or.inl rfl) (pe_callTy Sm.call_intU rfl T.f_int (by decide +kernel) (pa_cons (pe_slice Sm.sl_U (pv 0) (po_some (pv 1)) (po_some (pv 3))) pa_nil)))
      (pss_cons (ps_if (pt_cmpR (Sm.op_neU hr) (pe_slice Sm.sl_U (pv 0) (po_some (pv 3)) (po_some (pe_op Sm.op_addU (pv 3) pe_int))) pe_str (nomark _)) (pss_one (ps_ret (pe_tup (pa_cons (pe_tup (pa_cons (pv 4) (pa_cons pe_int pa_nil))) (pa_cons (pv 3) pa_nil))))) pss_nil)
      (pss_cons (ps_set (i := 5) sc_number_at.nd rfl (Or.inl rfl) (Sm.pe_fnE G_digits_end hr (pa_cons (pv 0) (pa_cons (pe_op Sm.op_addU (pv 3) pe_int) (pa_cons pe_bl pa_nil))) (Sm.passE rfl rfl rfl rfl)))
      (pss_one (ps_ret (pe_tup (pa_cons (Sm.pe_fn G_lowest hr (pa_cons (pv 4) (pa_cons (pe_callTy Sm.call_intU rfl T.f_int (by decide +kernel) (pa_cons (pe_slice Sm.sl_U (pv 0) (po_some (pe_op Sm.op_addU (pv 3) pe_int)) (po_some (pv 5))) pa_nil)) pa_nil))) (pa_cons (pv 5) pa_nil)))))))))), ?_⟩
  rw [st_number_at]
  have hl : z.length = (TL.tl z).length := TL.len_tl z
  have hlen : z.length ≤ sizeLine := Sm.len_le (by omega)
  have h45 : Str.ofString "-" = ⟨#[45]⟩ := by decide
  have h47 : Str.ofString "/" = ⟨#[47]⟩ := by decide
  have hcut : cutS z (some 0) (some (0 + 1)) = Str.ofString "-" ↔ (TL.tl z).head? = some 45 := by
    rw [h45, List.head?_eq_getElem?]
    exact Sm.cut1 z 0 45
  have key : ∀ n, digitsEnd (TL.tl z) (neg1 (TL.tl z)) (decide (0 < neg1 (TL.tl z))) = .error n → numberAt (TL.tl z) = .error n := fun n h => by
    unfold numberAt
    rw [h]
  repeat' wtm_at "st"
  · have hm := hcut.mp (by assumption)
    have n1 : neg1 (TL.tl z) = 1 := if_pos hm
    have hp1 : 1 ≤ z.length := by
      rw [hl]
      cases h : TL.tl z with
      | nil => rw [h] at hm; cases hm
      | cons => simp
    refine ⟨z, 1, true, rfl, hz, hp1, fun n hn H' hs => ?_, fun n hn d H' hs hd => he n (key n (by rw [n1]; exact hn)) d H' hs hd⟩
    have hn' : digitsEnd (TL.tl z) (neg1 (TL.tl z)) (decide (0 < neg1 (TL.tl z))) = .ok n := by rw [n1]; exact hn
    obtain ⟨i1, i2⟩ := int_top (z := z) hn'
    have i1' : intText? (cutS z (some 0) (some (n : Int))) = _ := i1
    have i2' : (cutS z (some 0) (some (n : Int))).length ≤ 640 := i2
    have h7 : cutS z (some (n : Int)) (some ((n : Int) + 1)) = Str.ofString "/" ↔ (TL.tl z)[n]? = some 47 := by
      rw [h47]
      exact Sm.cut1 z n 47
    repeat' wtm_at "st"
    · have hno : ¬ _ := fun y => (by assumption : ¬ cutS z (some (n : Int)) (some ((n : Int) + 1)) = Str.ofString "/") (h7.mpr y)
      refine hq (iv ((TL.tl z).take n), 1) n ?_ _ _ (by wtm_at "sm") (dp_tup2 (by assumption) (.tup (.inl (.inl (Sm.sget (by assumption) (by wtm_at "sm")))) (.cons (.int _) (.cons (.int _) .nil))) (.int _))
      unfold numberAt
      rw [hn']
      exact if_neg hno
    · have hyes := h7.mp (by assumption)
      obtain ⟨hy, _⟩ := List.getElem?_eq_some_iff.mp hyes
      refine ⟨z, n + 1, true, rfl, hz, by omega, fun m hm H3 hs3 => ?_, fun m hm d H3 hs3 hd => he m ?_ d H3 (by wtm_at "sm") hd⟩
      · obtain ⟨j1, j2, j3, j4⟩ := int_bot hm
        repeat' wtm_at "st"
        refine hq (low (iv ((TL.tl z).take n)) (iv (((TL.tl z).take m).drop (n + 1)))) m ?_ _ _ (by wtm_at "sm") (dp_tup2 (by assumption) (by wtm_at "at") (.int _))
        unfold numberAt
        rw [hn']
        refine (if_pos hyes).trans ?_
        rw [hm]
      · unfold numberAt
        rw [hn']
        refine (if_pos hyes).trans ?_
        rw [hm]
  · have hm : ¬ _ := fun z => (by assumption : ¬ _) (hcut.mpr z)
    have n1 : neg1 (TL.tl z) = 0 := if_neg hm
    refine ⟨z, 0, false, rfl, hz, Nat.zero_le _, fun n hn H' hs => ?_, fun n hn d H' hs hd => he n (key n (by rw [n1]; exact hn)) d H' hs hd⟩
    have hn' : digitsEnd (TL.tl z) (neg1 (TL.tl z)) (decide (0 < neg1 (TL.tl z))) = .ok n := by rw [n1]; exact hn
    obtain ⟨i1, i2⟩ := int_top (z := z) hn'
    have i1' : intText? (cutS z (some 0) (some (n : Int))) = _ := i1
    have i2' : (cutS z (some 0) (some (n : Int))).length ≤ 640 := i2
    have h7 : cutS z (some (n : Int)) (some ((n : Int) + 1)) = Str.ofString "/" ↔ (TL.tl z)[n]? = some 47 := by
      rw [h47]
      exact Sm.cut1 z n 47
    repeat' wtm_at "st"
    · have hno : ¬ _ := fun y => (by assumption : ¬ cutS z (some (n : Int)) (some ((n : Int) + 1)) = Str.ofString "/") (h7.mpr y)
      refine hq (iv ((TL.tl z).take n), 1) n ?_ _ _ (by wtm_at "sm") (dp_tup2 (by assumption) (.tup (.inl (.inl (Sm.sget (by assumption) (by wtm_at "sm")))) (.cons (.int _) (.cons (.int _) .nil))) (.int _))
      unfold numberAt
      rw [hn']
      exact if_neg hno
    · have hyes := h7.mp (by assumption)
      obtain ⟨hy, _⟩ := List.getElem?_eq_some_iff.mp hyes
      refine ⟨z, n + 1, true, rfl, hz, by omega, fun m hm H3 hs3 => ?_, fun m hm d H3 hs3 hd => he m ?_ d H3 (by wtm_at "sm") hd⟩
      · obtain ⟨j1, j2, j3, j4⟩ := int_bot hm
        repeat' wtm_at "st"
        refine hq (low (iv ((TL.tl z).take n)) (iv (((TL.tl z).take m).drop (n + 1)))) m ?_ _ _ (by wtm_at "sm") (dp_tup2 (by assumption) (by wtm_at "at") (.int _))
        unfold numberAt
        rw [hn']
        refine (if_pos hyes).trans ?_
        rw [hm]
      · unfold numberAt
        rw [hn']
        refine (if_pos hyes).trans ?_
        rw [hm]
end
section
variable {P : Program} {w : World} {K : PySem.W.Frag} {mg : Str → Option Value} {base : Heap} {f : Addr} {fd : FuncData}
theorem ok_read_worth (T : Txt P K mg) (F : FD K "read_worth" s_read_worth f fd) (G_number_at : Sm.Fn P w K mg base 3 "number_at" P_number_at (sp_number_at K)) (G_nothing_end : Sm.Fn P w K mg base 1 "nothing_end" P_nothing_end (sp_nothing_end K)) : FnOk P w K mg base (L2.CX P w) 4 f fd P_read_worth (sp_read_worth K) := by
  refine F.ok sc_read_worth (fun vs H Q E h => ?_) (fun cdv A outer s H vs Q E hr h => ?_)
  · obtain ⟨x, d, rfl, _⟩ := h
    rfl
  obtain ⟨x, d, rfl, hd, hq, he⟩ := h
  refine ⟨_, (pss_cons (ps_if (pt_not (pt_truth (pe_callB call_isi rfl T.f_isinstance (by decide +kernel) (pa_cons (pv 0) (pa_cons (Sm.pe_ty (n := "str") T.f_str (by decide +kernel)) pa_nil))) (by intro _; rfl))) (pss_one (ps_raise rfl (takes_of rfl rfl rfl rfl) (Sm.pmk_xs T.x_ParseError hr (by exact (pa_cons pe_non pa_nil))))) pss_nil)
      (pss_cons (ps_asg (pe_ifExp (pt_cmpR (Sm.op_eqU hr) (pe_slice Sm.sl_U (pv 0) po_none (po_some pe_int)) (pe_slice Sm.sl_U (Sm.pe_gs T.c_NOTHING) po_none (po_some pe_int)) (nomark _)) (pe_tup (pa_cons pe_non (pa_cons (Sm.pe_fnE G_nothing_end hr (pa_cons (pv 0) pa_nil) (Sm.passE rfl rfl rfl rfl)) pa_nil))) (Sm.pe_fnE G_number_at hr (pa_cons (pv 0) (pa_cons pe_int pa_nil)) (Sm.passE rfl rfl rfl rfl))) (pg_tup rfl (pgs_cons (pg_name (i := 1) sc_read_worth.nd rfl (Or.inl rfl)) (pgs_cons (pg_name (i := 2) sc_read_worth.nd rfl (Or.inl rfl)) pgs_nil))))
      (pss_cons (ps_if (pt_cmpR op_lt (pv 2) (pe_callB Sm.call_lenU rfl T.f_len (by decide +kernel) (pa_cons (pv 0) pa_nil)) (nomark _)) (pss_one (ps_raise rfl (takes_of rfl rfl rfl rfl) (Sm.pmk_xs T.x_ParseError hr (by exact (pa_cons (pv 2) pa_nil))))) pss_nil)
      (pss_one (ps_ret (pv 1)))))), ?_⟩
  rw [st_read_worth]
  cases hd with
  | str z =>
    obtain ⟨hz, ho, hn⟩ := hq z rfl
    have hl : z.length = (TL.tl z).length := TL.len_tl z
    have hlen : z.length ≤ sizeLine := Sm.len_le (by omega)
    have hlN : (Str.ofString "nothing").length ≤ sizeLine := by decide
    have h0 : cutS z none (some 1) = cutS (Str.ofString "nothing") none (some 1) ↔ (TL.tl z).head? = some 110 := by
      rw [show cutS (Str.ofString "nothing") none (some 1) = ⟨#[110]⟩ by decide]
      exact Sm.cut0 z 110
    repeat' wtm_at "st"
    · have hh := h0.mp (by assumption)
      refine ⟨z, rfl, hz, fun n h H' hs => ?_, fun n h d H' hs hd => hn n (read_ne hh h) d H' hs hd⟩
      have hr := read_n hh h
      repeat' wtm_at "st"
      · have hlt : n < (TL.tl z).length := by omega
        rw [if_pos hlt] at hr
        exact hn n hr _ _ (by wtm_at "sm") (by assumption)
      · have hlt : ¬ n < (TL.tl z).length := by omega
        rw [if_neg hlt] at hr
        exact ho none hr _ _ (by wtm_at "sm") .non
    · have hh : ¬ (TL.tl z).head? = some 110 := fun y => (by assumption : ¬ cutS z none (some 1) = cutS (Str.ofString "nothing") none (some 1)) (h0.mpr y)
      refine ⟨z, rfl, hz, fun p n h v H' hs hd => ?_, fun n h d H' hs hd => hn n (read_we hh h) d H' hs hd⟩
      have hr := read_w hh h
      obtain ⟨a, x, rfl, ha, hx⟩ := dp_tup2_inv hd
      repeat' wtm_at "st"
      · have hlt : n < (TL.tl z).length := by omega
        rw [if_pos hlt] at hr
        exact hn n hr _ _ (by wtm_at "sm") (by assumption)
      · have hlt : ¬ n < (TL.tl z).length := by omega
        rw [if_neg hlt] at hr
        exact ho (some p) hr _ _ (by wtm_at "sm") (by wtm_at "at")
  | _ =>
    repeat' wtm_at "st"
    all_goals exact he (fun _ h => by cases h) _ _ (by wtm_at "sm") (by assumption)
end
section
variable {P : Program} {w : World} {K : PySem.W.Frag} {mg : Str → Option Value} {base : Heap} {f : Addr} {fd : FuncData}
theorem ok__law_dice (T : Txt P K mg) (F : FD K "_law_dice" s__law_dice f fd)  : FnOk P w K mg base (L2.CX P w) 1 f fd P__law_dice (sp__law_dice K) := by
  refine F.ok sc__law_dice (fun vs H Q E h => ?_) (fun cdv A outer s H vs Q E hr h => ?_)
  · obtain ⟨p, ns, i, rfl, _⟩ := h
    rfl
  obtain ⟨p, ns, i, rfl, hp, hq⟩ := h
  refine ⟨_, (pss_cons (ps_set (i := 2) sc__law_dice.nd rfl (Or.inl rfl) (pe_op Sm.op_addU (pe_op Sm.op_mulU pe_int (pv 1)) pe_int))
      (pss_cons (ps_if (pt_cmpR op_lt (pv 1) (pe_callB Sm.call_lenU rfl T.f_len (by decide +kernel) (pa_cons (pv 0) pa_nil)) (nomark _)) (pss_one (ps_set (i := 2) sc__law_dice.nd rfl (Or.inl rfl) (pe_ix ix_seq (pv 0) (pv 1) (fun _ _ => rfl)))) pss_nil)
      (pss_cons (ps_set (i := 3) sc__law_dice.nd rfl (Or.inl rfl) (pe_op op_modN (pe_callTy Sm.call_intU rfl T.f_int (by decide +kernel) (pa_cons (pe_callB Sm.call_absU rfl T.f_abs (by decide +kernel) (pa_cons (pv 2) pa_nil)) pa_nil)) (pe_op Sm.op_powW (pe_op Sm.op_powW pe_int pe_int) pe_int)))
      (pss_cons (ps_set (i := 4) sc__law_dice.nd rfl (Or.inl rfl) (pe_op Sm.op_fdivU (pv 3) (pe_op Sm.op_powW pe_int pe_int)))
      (pss_cons (ps_set (i := 5) sc__law_dice.nd rfl (Or.inl rfl) (pe_op Sm.op_addU (pe_op Sm.op_addU (pe_op Sm.op_addU (pe_op Sm.op_mulU (pe_op op_modN (pv 3) pe_int) pe_int) (pe_op Sm.op_mulU pe_int (pv 1))) (pe_op Sm.op_mulU pe_int (pe_callTy Sm.call_intU rfl T.f_int (by decide +kernel) (pa_cons (pe_cmpR op_lt (pv 2) pe_int (nomark _)) pa_nil)))) pe_int))
      (pss_one (ps_ret (pe_lst (pa_cons (pv 4) (pa_cons (pe_op op_modN (pv 5) pe_int) (pa_cons pe_int pa_nil))))))))))), ?_⟩
  rw [st__law_dice]
  have hpy : ∀ i : Int, Builtin.divisionGoesByPylong i (10 ^ 18) = false := fun i => Sm.pyB (b := 60) (by decide +kernel) (by decide) (by decide)
  by_cases hi : i < ns.length
  · have hat : atI (ns.map V.int) (i : Int) = some (.int ns[i]) := atI_nat (by rw [List.getElem?_map, List.getElem?_eq_getElem hi]; rfl)
    have hlt : (i : Int) < ((ns.map V.int).length : Nat) := by rw [List.length_map]; omega
    repeat' wtm_at "st"
    all_goals exact hq _ _ (by assumption) (by wtm_at "sm") ⟨_, _, _, by assumption⟩
  · have hlt : ¬ (i : Int) < ((ns.map V.int).length : Nat) := by rw [List.length_map]; omega
    repeat' wtm_at "st"
    all_goals exact hq _ _ (by assumption) (by wtm_at "sm") ⟨_, _, _, by assumption⟩
end
section
variable {P : Program} {w : World} {K : PySem.W.Frag} {mg : Str → Option Value} {base : Heap} {f : Addr} {fd : FuncData}
theorem ok__law_roll (T : Txt P K mg) (F : FD K "_law_roll" s__law_roll f fd)  : FnOk P w K mg base (L2.CX P w) 1 f fd P__law_roll (sp__law_roll K) := by
  refine F.ok sc__law_roll (fun vs H Q E h => ?_) (fun cdv A outer s H vs Q E hr h => ?_)
  · obtain ⟨p, n, rfl, _⟩ := h
    rfl
  obtain ⟨p, n, rfl, hd, h0, h1, hq⟩ := h
  refine ⟨_, (pss_cons (ps_set (i := 2) sc__law_roll.nd rfl (Or.inl rfl) (pe_callTy Sm.call_intU rfl T.f_int (by decide +kernel) (pa_cons (pv 1) pa_nil)))
      (pss_cons (ps_if (pt_cmpR op_gt (pe_ix ix_seq (pv 0) pe_int (fun _ _ => rfl)) pe_int (nomark _)) (pss_cons (ps_set (i := 3) sc__law_roll.nd rfl (Or.inl rfl) (pe_op op_modN (pe_ix ix_seq (pv 0) pe_int (fun _ _ => rfl)) (pv 2)))
      (pss_cons (ps_asg (pe_op Sm.op_fdivU (pe_ix ix_seq (pv 0) pe_int (fun _ _ => rfl)) (pv 2)) (pg_sub (pv 0) pe_int set_list))
      (pss_one (ps_ret (pe_callTy Sm.call_intU rfl T.f_int (by decide +kernel) (pa_cons (pv 3) pa_nil)))))) pss_nil)
      (pss_cons (ps_asg (pe_op Sm.op_addU (pe_ix ix_seq (pv 0) pe_int (fun _ _ => rfl)) pe_int) (pg_sub (pv 0) pe_int set_list))
      (pss_cons (ps_set (i := 4) sc__law_roll.nd rfl (Or.inl rfl) (pe_op op_modN (pe_op Sm.op_addU (pe_ix ix_seq (pv 0) pe_int (fun _ _ => rfl)) (pe_op Sm.op_mulU pe_int (pe_ix ix_seq (pv 0) pe_int (fun _ _ => rfl)))) pe_int))
      (pss_cons (ps_set (i := 5) sc__law_roll.nd rfl (Or.inl rfl) (pe_op Sm.op_addU (pe_op Sm.op_mulU (pe_op op_modN (pe_op Sm.op_mulU (pv 4) (pv 4)) pe_int) (pv 4)) (pe_op Sm.op_mulU pe_int (pe_ix ix_seq (pv 0) pe_int (fun _ _ => rfl)))))
      (pss_cons (ps_set (i := 5) sc__law_roll.nd rfl (Or.inl rfl) (pe_op op_modN (pv 5) pe_int))
      (pss_one (ps_ret (pe_callTy Sm.call_intU rfl T.f_int (by decide +kernel) (pa_cons (pe_op op_modN (pe_op Sm.op_fdivU (pv 5) pe_int) (pv 2)) pa_nil)))))))))), ?_⟩
  rw [st__law_roll]
  obtain ⟨a, b, c, hp⟩ := hd
  have en : ∀ x : Int, 0 ≤ x % n := fun x => Int.emod_nonneg x (by omega)
  have el : ∀ x : Int, x % n < n := fun x => Int.emod_lt_of_pos x h0
  repeat' wtm_at "st"
  all_goals exact hq _ (en _) (el _) _ (by wtm_at "sm") ⟨_, _, _, by assumption⟩
end
section
variable {P : Program} {w : World} {K : PySem.W.Frag} {mg : Str → Option Value} {base : Heap} {f : Addr} {fd : FuncData}
theorem ok__law_one_of (T : Txt P K mg) (F : FD K "_law_one_of" s__law_one_of f fd) (G__law_roll : Sm.Fn P w K mg base 1 "_law_roll" P__law_roll (sp__law_roll K)) : FnOk P w K mg base (L2.CX P w) 2 f fd P__law_one_of (sp__law_one_of K) := by
  refine F.ok sc__law_one_of (fun vs H Q E h => ?_) (fun cdv A outer s H vs Q E hr h => ?_)
  · obtain ⟨p, q, xs, rfl, _⟩ := h
    rfl
  obtain ⟨p, q, xs, rfl, hd, hx, h0, h1, hq⟩ := h
  refine ⟨_, (pss_one (ps_ret (pe_ix ix_seq (pv 1) (Sm.pe_fn G__law_roll hr (pa_cons (pv 0) (pa_cons (pe_callB Sm.call_lenU rfl T.f_len (by decide +kernel) (pa_cons (pv 1) pa_nil)) pa_nil))) (fun _ _ => rfl)))), ?_⟩
  rw [st__law_one_of]
  wtm_at "st"
  repeat' wtm_at "st"
  rename_i r H' r0 r1 hs hd'
  obtain ⟨i, rfl⟩ : ∃ i : Nat, r = i := ⟨r.toNat, by omega⟩
  have hi : i < xs.length := by omega
  have hat : atI xs (i : Int) = some xs[i] := atI_nat (List.getElem?_eq_getElem hi)
  repeat' wtm_at "st"
  exact hq i _ (List.getElem?_eq_getElem hi) _ (by wtm_at "sm") hd'
end
section
variable {P : Program} {w : World} {K : PySem.W.Frag} {mg : Str → Option Value} {base : Heap} {f : Addr} {fd : FuncData}
theorem ok__law_lowest (T : Txt P K mg) (F : FD K "_law_lowest" s__law_lowest f fd)  : FnOk P w K mg base (L2.CX P w) 1 f fd P__law_lowest (sp__law_lowest K) := by
  refine F.ok sc__law_lowest (fun vs H Q E h => ?_) (fun cdv A outer s H vs Q E hr h => ?_)
  · obtain ⟨t, b, rfl, _⟩ := h
    rfl
  obtain ⟨t, b, rfl, hb, hz, hq⟩ := h
  refine ⟨_, (pss_cons (ps_par (i := 2) (j := 3) rfl sc__law_lowest.nd rfl rfl (by decide) rfl rfl (pa_cons (pe_callB Sm.call_absU rfl T.f_abs (by decide +kernel) (pa_cons (pv 0) pa_nil)) (pa_cons (pv 1) pa_nil)) (by rfl))
      (pss_cons (ps_while (passes_of rfl) (pt_cmpR (Sm.op_neU hr) (pv 3) pe_int (nomark _)) (pss_one (ps_par (i := 2) (j := 3) rfl sc__law_lowest.nd rfl rfl (by decide) rfl rfl (pa_cons (pv 3) (pa_cons (pe_op op_modN (pv 2) (pv 3)) pa_nil)) (by rfl))))
      (pss_one (ps_ret (pe_tup (pa_cons (pe_op Sm.op_fdivU (pv 0) (pv 2)) (pa_cons (pe_op Sm.op_fdivU (pv 1) (pv 2)) pa_nil))))))), ?_⟩
  rw [st__law_lowest]
  repeat' wtm_at "st"
  refine Sm.g_while (fun σ H' => ∃ x y : Int, σ = [some (.int t), some (.int b), some (.int x), some (.int y)] ∧ Same H H' ∧ 0 ≤ x ∧ 0 ≤ y ∧ Int.gcd x y = Int.gcd t b) (fun σ _ => match σ with | [_, _, _, some (.int y)] => y.toNat | _ => 0) ⟨_, b, rfl, Same.refl _, by omega, by omega, by simp [Int.gcd]⟩ ?_
  rintro σ H' ⟨x, y, rfl, hs, hx, hy, hg⟩
  repeat' wtm_at "st"
  · refine Sm.g_wturn ?_
    repeat' wtm_at "st"
    have h1 := Int.emod_nonneg x (b := y) (by omega)
    have h2 := Int.emod_lt_of_pos x (b := y) (by omega)
    refine ⟨?_, y, x % y, rfl, hs, hy, h1, (gcd_step x y).trans hg⟩
    show (x % y).toNat < y.toNat
    omega
  · have h0 : y = 0 := by assumption
    subst h0
    have e : x = ((Int.gcd t b : Nat) : Int) := by
      rw [Int.gcd_zero_right] at hg
      omega
    subst e
    have gp := gcd_pos (t := t) (b := b) (by omega)
    have hp : ∀ i, Builtin.divisionGoesByPylong i (Int.gcd t b : Nat) = false := fun i => gcd_py (by omega) hz
    repeat' wtm_at "st"
    refine hq _ _ (by wtm_at "sm") ?_
    rw [low_pos (by omega)]
    exact dp_pair (by assumption)
end
section
variable {P : Program} {w : World} {K : PySem.W.Frag} {mg : Str → Option Value} {base : Heap} {f : Addr} {fd : FuncData}
theorem ok__law_integer (T : Txt P K mg) (F : FD K "_law_integer" s__law_integer f fd) (G__law_roll : Sm.Fn P w K mg base 1 "_law_roll" P__law_roll (sp__law_roll K)) (G__law_one_of : Sm.Fn P w K mg base 2 "_law_one_of" P__law_one_of (sp__law_one_of K)) : FnOk P w K mg base (L2.CX P w) 3 f fd P__law_integer (sp__law_integer K) := by
  refine F.ok sc__law_integer (fun vs H Q E h => ?_) (fun cdv A outer s H vs Q E hr h => ?_)
  · obtain ⟨p, rfl, _⟩ := h
    rfl
  obtain ⟨p, rfl, hd, hq⟩ := h
  refine ⟨_, (pss_cons (ps_set (i := 1) sc__law_integer.nd rfl (Or.inl rfl) (Sm.pe_fn G__law_roll hr (pa_cons (pv 0) (pa_cons pe_int pa_nil))))
      (pss_cons (ps_if (pt_cmpR (Sm.op_eqU hr) (pv 1) pe_int (nomark _)) (pss_one (ps_ret (Sm.pe_fn G__law_one_of hr (pa_cons (pv 0) (pa_cons (pe_lst (pa_cons (pe_op Sm.op_powW pe_int pe_int) (pa_cons (pe_op op_sub (pe_op Sm.op_powW pe_int pe_int) pe_int) (pa_cons (pe_op Sm.op_addU (pe_op Sm.op_powW pe_int pe_int) (Sm.pe_fn G__law_roll hr (pa_cons (pv 0) (pa_cons (pe_op Sm.op_powW pe_int pe_int) pa_nil)))) pa_nil)))) pa_nil))))) pss_nil)
      (pss_one (ps_ret (pe_ifExp (pt_cmpR op_lt (pv 1) pe_int (nomark _)) (Sm.pe_fn G__law_roll hr (pa_cons (pv 0) (pa_cons pe_int pa_nil))) (Sm.pe_fn G__law_roll hr (pa_cons (pv 0) (pa_cons pe_int pa_nil)))))))), ?_⟩
  rw [st__law_integer]
  repeat' wtm_at "st"
  · rename_i hp
    refine c_one_of (dice_mv (by assumption) (by assumption)) (dice_lst (by assumption) (by assumption) hp) (by simp) (by simp) (fun i v H' hx hs hd => ?_)
    obtain ⟨r, rfl, h0, h1⟩ : ∃ r : Int, v = .int r ∧ 0 ≤ r ∧ r < 10 ^ 60 := by
      rcases i with _ | _ | _ | i
      · cases hx; exact ⟨_, rfl, by omega, by omega⟩
      · cases hx; exact ⟨_, rfl, by omega, by omega⟩
      · cases hx; exact ⟨_, rfl, by omega, by omega⟩
      · cases hx
    exact hq r h0 h1 _ (by wtm_at "sm") hd
  all_goals exact hq _ (by assumption) (by omega) _ (by wtm_at "sm") (by assumption)
end
section
variable {P : Program} {w : World} {K : PySem.W.Frag} {mg : Str → Option Value} {base : Heap} {f : Addr} {fd : FuncData}
theorem ok__law_written (T : Txt P K mg) (F : FD K "_law_written" s__law_written f fd)  : FnOk P w K mg base (L2.CX P w) 1 f fd P__law_written (sp__law_written K) := by
  refine F.ok sc__law_written (fun vs H Q E h => ?_) (fun cdv A outer s H vs Q E hr h => ?_)
  · obtain ⟨x, d, rfl, _⟩ := h
    rfl
  obtain ⟨x, d, rfl, hd, hn, hs, hq⟩ := h
  refine ⟨_, (pss_cons (ps_set (i := 1) sc__law_written.nd rfl (Or.inl rfl) (pe_callTy Sm.call_strU rfl T.f_str (by decide +kernel) (pa_cons (pe_ix ix_seq (pv 0) pe_int (fun _ _ => rfl)) pa_nil)))
      (pss_one (ps_ret (pe_ifExp (pt_cmpR (Sm.op_eqU hr) (pe_ix ix_seq (pv 0) pe_int (fun _ _ => rfl)) pe_int (nomark _)) (pv 1) (pe_op Sm.op_addU (pe_op Sm.op_addU (pv 1) pe_str) (pe_callTy Sm.call_strU rfl T.f_str (by decide +kernel) (pa_cons (pe_ix ix_seq (pv 0) pe_int (fun _ _ => rfl)) pa_nil))))))), ?_⟩
  rw [st__law_written]
  rcases hs with rfl | ⟨a, b, rfl, ha, hb⟩
  · exact absurd rfl hn
  · obtain ⟨p, rfl, hp⟩ := Sm.dp_pair_inv hd
    have la := Sm.log_of ha (by decide) (by decide)
    have lb := Sm.log_of hb (by decide) (by decide)
    have za := Sm.len_num la
    have zb := Sm.len_num lb
    have z1 : (Str.ofString "/").length = 1 := by decide
    repeat' wtm_at "st"
    · exact Sm.fin (hq _ (by wtm_at "sm")) (congrArg V.str (if_pos (by assumption)))
    · exact Sm.fin (hq _ (by wtm_at "sm")) (congrArg V.str (if_neg (by assumption)))
end
section
variable {P : Program} {w : World} {K : PySem.W.Frag} {mg : Str → Option Value} {base : Heap} {f : Addr} {fd : FuncData}
theorem ok__law_is_row (T : Txt P K mg) (F : FD K "_law_is_row" s__law_is_row f fd)  : FnOk P w K mg base (L2.CX P w) 1 f fd P__law_is_row (sp__law_is_row K) := by
  refine F.ok sc__law_is_row (fun vs H Q E h => ?_) (fun cdv A outer s H vs Q E hr h => ?_)
  · obtain ⟨z, rfl, _⟩ := h
    rfl
  obtain ⟨z, rfl, hz, hA, hq⟩ := h
  refine ⟨_, (pss_one (ps_ret (pe_and (pe_cmpR (Sm.op_neU hr) (pv 0) pe_str (nomark _)) (pe_one (pe_cmpR (Sm.op_eqU hr) (pe_lc (own := [("_law_sign", 1)]) rfl sc__law_is_row.nd (pi_str (pv 0)) (blkOk_by (own := [("_law_sign", 1)]) (N := N__law_is_row) (sc := defScope s__law_is_row) (by decide +kernel)) (fun _ _ _ _ _ => (pg_name (i := 1) sc__law_is_row.nd rfl (Or.inl rfl))) (fun _ _ _ _ _ => (pts_one (pt_cmpR (Sm.op_niK (K := K) rfl) (pv 1) pe_str (by rfl)))) (fun _ _ _ _ _ => (pv 1))) (pe_lst pa_nil) (nomark _)))))), ?_⟩
  rw [st__law_is_row]
  have hl : z.length = (TL.tl z).length := TL.len_tl z
  repeat' wtm_at "st"
  · refine Sm.g_lc walk_str (fun R h => ⟨_, rfl, z, rfl, h⟩) (fun i => (((TL.tl z).take i).filter fun c => !dig c).map fun c => V.str ⟨#[c]⟩) rfl (fun _ _ => trivial) ?_ ?_
    · rintro D i x H1 H2 hD hi hs hL ⟨rfl, c, hc, rfl⟩
      have hc' : (TL.tl z)[i]? = some c := by
        show z.cps.toList[i]? = some c
        rw [Array.getElem?_toList]
        exact hc
      have et : (TL.tl z).take (i + 1) = (TL.tl z).take i ++ [c] := by
        rw [List.take_succ, hc']
        rfl
      refine Sm.Stq.h (g := gName 1 (V.str ⟨#[c]⟩) [some (V.str z), none] _ _) ?_
      refine ⟨rfl, ?_⟩
      by_cases hg : dig c = true
      · have hm := dig_in.mpr hg
        repeat' wtm_at "st"
        exact Sm.lc_keep hs hL (by rw [et, List.filter_append, List.filter_cons_of_neg (by simp [hg]), List.filter_nil, List.append_nil])
      · have hm := fun z => hg (dig_in.mp z)
        repeat' wtm_at "st"
        have hlen : ((((TL.tl z).take i).filter fun c => !dig c).map fun c => V.str ⟨#[c]⟩).length ≤ 1000 := by
          rw [List.length_map]
          have := List.length_filter_le (fun c => !dig c) ((TL.tl z).take i)
          rw [List.length_take] at this
          omega
        exact Sm.lc_add hD hs hL (Nat.lt_of_le_of_lt hlen (by decide)) (by rw [et, List.filter_append, List.filter_cons_of_pos (by simp [hg]), List.filter_nil, List.map_append]; rfl)
    · rintro D H1 hD hs hL
      have ez : (TL.tl z).take z.cps.size = TL.tl z := List.take_of_length_le (by rw [show z.cps.size = z.length from rfl]; omega)
      rw [ez] at hL
      have hne : (TL.tl z).isEmpty = false := by
        cases h : TL.tl z with
        | nil => exact absurd (TL.ext_tl h) (by assumption)
        | cons => rfl
      repeat' wtm_at "st"
      refine Sm.g_eqD (d := .list (((TL.tl z).filter fun c => !dig c).map fun c => PyData.str ⟨#[c]⟩)) (e := .list []) (.lst (Sm.lst_at hL (by wtm_at "sm")) (dp_strs _)) (.lst (.inl (.inl (by assumption))) .nil) (Sm.shaped_strs fun c hc => hA c (List.mem_filter.mp hc).1) rfl ?_
      refine Sm.fin (hq _ (by wtm_at "sm")) (congrArg V.bl ?_)
      rw [row_eq hne]
      cases (TL.tl z).filter fun c => !dig c <;> rfl
  · have e : z = Str.ofString "" := by assumption
    subst e
    exact hq _ (by wtm_at "sm")
end
section
variable {P : Program} {w : World} {K : PySem.W.Frag} {mg : Str → Option Value} {base : Heap} {f : Addr} {fd : FuncData}
theorem ok__law_can_begin (T : Txt P K mg) (F : FD K "_law_can_begin" s__law_can_begin f fd) (G__law_is_row : Sm.Fn P w K mg base 1 "_law_is_row" P__law_is_row (sp__law_is_row K)) : FnOk P w K mg base (L2.CX P w) 2 f fd P__law_can_begin (sp__law_can_begin K) := by
  refine F.ok sc__law_can_begin (fun vs H Q E h => ?_) (fun cdv A outer s H vs Q E hr h => ?_)
  · obtain ⟨z, rfl, _⟩ := h
    rfl
  obtain ⟨z, rfl, hz, hA, hq⟩ := h
  refine ⟨_, (pss_cons (ps_if (pt_cmpR (Sm.op_eqU hr) (pe_slice Sm.sl_U pe_str po_none (po_some (pe_callB Sm.call_lenU rfl T.f_len (by decide +kernel) (pa_cons (pv 0) pa_nil)))) (pv 0) (nomark _)) (pss_one (ps_ret pe_bl)) pss_nil)
      (pss_cons (ps_set (i := 1) sc__law_can_begin.nd rfl (Or.inl rfl) (pe_ifExp (pt_cmpR (Sm.op_eqU hr) (pe_slice Sm.sl_U (pv 0) po_none (po_some pe_int)) pe_str (nomark _)) (pe_slice Sm.sl_U (pv 0) (po_some pe_int) po_none) (pv 0)))
      (pss_cons (ps_set (i := 2) sc__law_can_begin.nd rfl (Or.inl rfl) (pe_split (pv 1) pe_str))
      (pss_cons (ps_if (pt_cmpR op_gt (pe_callB Sm.call_lenU rfl T.f_len (by decide +kernel) (pa_cons (pv 2) pa_nil)) pe_int (nomark _)) (pss_one (ps_ret pe_bl)) pss_nil)
      (pss_cons (ps_if (pt_cmpR (Sm.op_eqU hr) (pe_ix ix_seq (pv 2) pe_int (fun _ _ => rfl)) pe_str (nomark _)) (pss_one (ps_ret (pe_cmpR (Sm.op_eqU hr) (pe_callB Sm.call_lenU rfl T.f_len (by decide +kernel) (pa_cons (pv 2) pa_nil)) pe_int (nomark _)))) pss_nil)
      (pss_cons (ps_if (PW.pt (pw_or (pt_not (pt_truth (Sm.pe_fn G__law_is_row hr (pa_cons (pe_ix ix_seq (pv 2) pe_int (fun _ _ => rfl)) pa_nil)) (by intro _; rfl))) (pw_or1 (pt_cmpR op_gt (pe_callB Sm.call_lenU rfl T.f_len (by decide +kernel) (pa_cons (pe_ix ix_seq (pv 2) pe_int (fun _ _ => rfl)) pa_nil)) pe_int (nomark _))))) (pss_one (ps_ret pe_bl)) pss_nil)
      (pss_cons (ps_if (PW.pt (pw_and (pt_cmpR (Sm.op_eqU hr) (pe_ix ix_seq (pe_ix ix_seq (pv 2) pe_int (fun _ _ => rfl)) pe_int (fun _ _ => rfl)) pe_str (nomark _)) (pw_and1 (PW.pt (pw_or (pt_cmpR op_gt (pe_callB Sm.call_lenU rfl T.f_len (by decide +kernel) (pa_cons (pe_ix ix_seq (pv 2) pe_int (fun _ _ => rfl)) pa_nil)) pe_int (nomark _)) (pw_or1 (pt_cmpR (Sm.op_neU hr) (pv 1) (pv 0) (nomark _)))))))) (pss_one (ps_ret pe_bl)) pss_nil)
      (pss_cons (ps_if (PW.pt (pw_or (pt_cmpR (Sm.op_eqU hr) (pe_callB Sm.call_lenU rfl T.f_len (by decide +kernel) (pa_cons (pv 2) pa_nil)) pe_int (nomark _)) (pw_or1 (pt_cmpR (Sm.op_eqU hr) (pe_ix ix_seq (pv 2) pe_int (fun _ _ => rfl)) pe_str (nomark _))))) (pss_one (ps_ret pe_bl)) pss_nil)
      (pss_one (ps_ret (pe_and (Sm.pe_fn G__law_is_row hr (pa_cons (pe_ix ix_seq (pv 2) pe_int (fun _ _ => rfl)) pa_nil)) (pe_and (pe_cmpR (Sm.op_neU hr) (pe_ix ix_seq (pe_ix ix_seq (pv 2) pe_int (fun _ _ => rfl)) pe_int (fun _ _ => rfl)) pe_str (nomark _)) (pe_one (pe_cmpR op_le (pe_callB Sm.call_lenU rfl T.f_len (by decide +kernel) (pa_cons (pe_ix ix_seq (pv 2) pe_int (fun _ _ => rfl)) pa_nil)) pe_int (nomark _))))))))))))))), ?_⟩
  rw [st__law_can_begin]
  have hl : z.length = (TL.tl z).length := TL.len_tl z
  have hN : cutS (Str.ofString "nothing") none (some (z.length : Int)) = z ↔ NOTH.take (TL.tl z).length = TL.tl z := by
    have e : TL.tl (cutS (Str.ofString "nothing") none (some (z.length : Int))) = NOTH.take (TL.tl z).length := by
      rw [Sm.cut_to, ← hl, show TL.tl (Str.ofString "nothing") = NOTH by decide]
    exact ⟨fun h => by rw [← e, h], fun h => TL.ext_tl (by rw [e, h])⟩
  have h45 : cutS z none (some 1) = Str.ofString "-" ↔ (TL.tl z).head? = some 45 := by
    rw [show Str.ofString "-" = ⟨#[45]⟩ by decide]
    exact Sm.cut0 z 45
  have hzs : z.length ≤ sizeLine := Sm.len_le (by omega)
  obtain ⟨n0, hn0, hz0⟩ : ∃ n0, n0 = 1000 ∧ z.length ≤ n0 := ⟨_, rfl, hz⟩
  clear hz
  rw [show n0 = 1000 from hn0] at hz0
  have hz1 : id (z.length ≤ 1000) := hz0
  clear hz0
  repeat' wtm_at "st"
  · exact Sm.fin (hq _ (by wtm_at "sm")) (congrArg V.bl (by unfold canB; rw [decide_eq_true (hN.mp (by assumption)), Bool.true_or]))
  · have hm := h45.mp (by assumption)
    have hz : z.length ≤ 1000 := hz1
    have hlr : (cutS z (some 1) none).length ≤ z.length := Sm.cut_len
    have hlz : (cutS z (some 1) none).length + 2 ≤ sizeLine := Sm.len_le (by omega)
    have hno : ¬ cutS z (some 1) none = z := fun y => by
      have := congrArg (fun x => (TL.tl x).length) y
      have e1 : TL.tl (cutS z (some ((1 : Nat) : Int)) none) = (TL.tl z).drop 1 := Sm.cut_from z 1
      have h0 : TL.tl z ≠ [] := fun y => by rw [y] at hm; cases hm
      have e2 : (TL.tl (cutS z (some ((1 : Nat) : Int)) none)).length = (TL.tl z).length := this
      rw [e1, List.length_drop] at e2
      have := List.length_pos_iff.mpr h0
      omega
    have hsp := parts (z := (cutS z (some 1) none))
    have hmem := fun p => parts_len (z := (cutS z (some 1) none)) (p := p)
    have eC : canB (TL.tl z) = canR true (TL.tl (cutS z (some 1) none)) := canB_neg (fun y => (by assumption : ¬ cutS (Str.ofString "nothing") none (some (z.length : Int)) = z) (hN.mpr y)) hm
    unfold canR at eC
    rw [← hsp] at eC
    have hspn : ((PySem.Txt.split (cutS z (some 1) none) (Str.ofString "/")).map TL.tl) ≠ [] := by rw [hsp]; exact spl_ne _ _ _ _
    clear hsp
    wtm_at "st"
    wtm_at "st"
    rename_i pa H2 hn he hp
    generalize PySem.Txt.split (cutS z (some 1) none) (Str.ofString "/") = L at *
    rcases L with _ | ⟨p, L⟩
    · exact absurd rfl hspn
    obtain ⟨hpl, hpm⟩ := hmem p (List.mem_cons_self ..)
    have hpA : Sm.Asc p := fun c hc => hA c (Sm.cut_mem <| hpm c hc)
    have hpz : p.length ≤ 1000 := by omega
    have hps : p.length ≤ sizeLine := Sm.len_le (by omega)
    have hpt : p.length = (TL.tl p).length := TL.len_tl p
    have hch := p_case p
    rcases L with _ | ⟨y, L⟩
    · simp only [List.map_cons, List.map_nil] at hp eC
      rcases hch with ⟨e0, t0⟩ | ⟨c, e0, hh, hE, hat⟩
      · rw [t0] at eC
        repeat' wtm_at "st"
        exact Sm.fin (hq _ (by wtm_at "sm")) (congrArg V.bl (eC.trans (by rfl)))
      · by_cases h48 : (⟨#[c]⟩ : Str) = Str.ofString "0"
        · have hc48 := c48.mp h48
          repeat' wtm_at "st"
          all_goals (refine Sm.fin (hq _ (by wtm_at "sm")) (congrArg V.bl (eC.trans ?_)); simp_all [okN] <;> omega)
        · have hc48 : ¬ c = 48 := fun y => h48 (c48.mpr y)
          repeat' wtm_at "st"
          all_goals (refine Sm.fin (hq _ (by wtm_at "sm")) (congrArg V.bl (eC.trans ?_)); simp_all [okN] <;> omega)
    rcases L with _ | ⟨w, L⟩
    · obtain ⟨hyl, hym⟩ := hmem y (List.mem_cons_of_mem _ (List.mem_cons_self ..))
      have hyA : Sm.Asc y := fun c hc => hA c (Sm.cut_mem <| hym c hc)
      have hyz : y.length ≤ 1000 := by omega
      have hys : y.length ≤ sizeLine := Sm.len_le (by omega)
      have hyt : y.length = (TL.tl y).length := TL.len_tl y
      simp only [List.map_cons, List.map_nil] at hp eC
      rcases hch with ⟨e0, t0⟩ | ⟨c, e0, hh, hE, hat⟩
      · rw [t0] at eC
        repeat' wtm_at "st"
        exact Sm.fin (hq _ (by wtm_at "sm")) (congrArg V.bl (eC.trans (by rfl)))
      · rcases p_case y with ⟨f0, u0⟩ | ⟨d, f0, hh', hE', hat'⟩
        · rw [u0] at eC
          by_cases h48 : (⟨#[c]⟩ : Str) = Str.ofString "0"
          · have hc48 := c48.mp h48
            repeat' wtm_at "st"
            all_goals (refine Sm.fin (hq _ (by wtm_at "sm")) (congrArg V.bl (eC.trans ?_)); simp_all [okN] <;> omega)
          · have hc48 : ¬ c = 48 := fun y => h48 (c48.mpr y)
            repeat' wtm_at "st"
            all_goals (refine Sm.fin (hq _ (by wtm_at "sm")) (congrArg V.bl (eC.trans ?_)); simp_all [okN] <;> omega)
        · by_cases h48 : (⟨#[c]⟩ : Str) = Str.ofString "0"
          · have hc48 := c48.mp h48
            repeat' wtm_at "st"
            all_goals (refine Sm.fin (hq _ (by wtm_at "sm")) (congrArg V.bl (eC.trans ?_)); simp_all [okN, c48] <;> first | omega | (rw [Bool.eq_iff_iff]; simp only [Bool.and_eq_true, Bool.or_eq_true, decide_eq_true_eq, Array.isEmpty_iff, Bool.not_eq_true', decide_eq_false_iff_not, hE', false_or]; omega))
          · have hc48 : ¬ c = 48 := fun y => h48 (c48.mpr y)
            repeat' wtm_at "st"
            all_goals (refine Sm.fin (hq _ (by wtm_at "sm")) (congrArg V.bl (eC.trans ?_)); simp_all [okN, c48] <;> first | omega | (rw [Bool.eq_iff_iff]; simp only [Bool.and_eq_true, Bool.or_eq_true, decide_eq_true_eq, Array.isEmpty_iff, Bool.not_eq_true', decide_eq_false_iff_not, hE', false_or]; omega))
    · simp only [List.map_cons] at hp eC
      repeat' wtm_at "st"
      exact Sm.fin (hq _ (by wtm_at "sm")) (congrArg V.bl eC)
  · have hm := fun y => (by assumption : ¬ cutS z none (some 1) = Str.ofString "-") (h45.mpr y)
    have hz : z.length ≤ 1000 := hz1
    have hlz : z.length + 2 ≤ sizeLine := Sm.len_le (by omega)
    have hsp := parts (z := z)
    have hmem := fun p => parts_len (z := z) (p := p)
    have eC : canB (TL.tl z) = canR false (TL.tl z) := canB_pos (fun y => (by assumption : ¬ cutS (Str.ofString "nothing") none (some (z.length : Int)) = z) (hN.mpr y)) hm
    unfold canR at eC
    rw [← hsp] at eC
    have hspn : ((PySem.Txt.split z (Str.ofString "/")).map TL.tl) ≠ [] := by rw [hsp]; exact spl_ne _ _ _ _
    clear hsp
    wtm_at "st"
    wtm_at "st"
    rename_i pa H2 hn he hp
    generalize PySem.Txt.split z (Str.ofString "/") = L at *
    rcases L with _ | ⟨p, L⟩
    · exact absurd rfl hspn
    obtain ⟨hpl, hpm⟩ := hmem p (List.mem_cons_self ..)
    have hpA : Sm.Asc p := fun c hc => hA c (hpm c hc)
    have hpz : p.length ≤ 1000 := by omega
    have hps : p.length ≤ sizeLine := Sm.len_le (by omega)
    have hpt : p.length = (TL.tl p).length := TL.len_tl p
    have hch := p_case p
    rcases L with _ | ⟨y, L⟩
    · simp only [List.map_cons, List.map_nil] at hp eC
      rcases hch with ⟨e0, t0⟩ | ⟨c, e0, hh, hE, hat⟩
      · rw [t0] at eC
        repeat' wtm_at "st"
        exact Sm.fin (hq _ (by wtm_at "sm")) (congrArg V.bl (eC.trans (by rfl)))
      · by_cases h48 : (⟨#[c]⟩ : Str) = Str.ofString "0"
        · have hc48 := c48.mp h48
          repeat' wtm_at "st"
          all_goals (refine Sm.fin (hq _ (by wtm_at "sm")) (congrArg V.bl (eC.trans ?_)); simp_all [okN] <;> omega)
        · have hc48 : ¬ c = 48 := fun y => h48 (c48.mpr y)
          repeat' wtm_at "st"
          all_goals (refine Sm.fin (hq _ (by wtm_at "sm")) (congrArg V.bl (eC.trans ?_)); simp_all [okN] <;> omega)
    rcases L with _ | ⟨w, L⟩
    · obtain ⟨hyl, hym⟩ := hmem y (List.mem_cons_of_mem _ (List.mem_cons_self ..))
      have hyA : Sm.Asc y := fun c hc => hA c (hym c hc)
      have hyz : y.length ≤ 1000 := by omega
      have hys : y.length ≤ sizeLine := Sm.len_le (by omega)
      have hyt : y.length = (TL.tl y).length := TL.len_tl y
      simp only [List.map_cons, List.map_nil] at hp eC
      rcases hch with ⟨e0, t0⟩ | ⟨c, e0, hh, hE, hat⟩
      · rw [t0] at eC
        repeat' wtm_at "st"
        exact Sm.fin (hq _ (by wtm_at "sm")) (congrArg V.bl (eC.trans (by rfl)))
      · rcases p_case y with ⟨f0, u0⟩ | ⟨d, f0, hh', hE', hat'⟩
        · rw [u0] at eC
          by_cases h48 : (⟨#[c]⟩ : Str) = Str.ofString "0"
          · have hc48 := c48.mp h48
            repeat' wtm_at "st"
            all_goals (refine Sm.fin (hq _ (by wtm_at "sm")) (congrArg V.bl (eC.trans ?_)); simp_all [okN] <;> omega)
          · have hc48 : ¬ c = 48 := fun y => h48 (c48.mpr y)
            repeat' wtm_at "st"
            all_goals (refine Sm.fin (hq _ (by wtm_at "sm")) (congrArg V.bl (eC.trans ?_)); simp_all [okN] <;> omega)
        · by_cases h48 : (⟨#[c]⟩ : Str) = Str.ofString "0"
          · have hc48 := c48.mp h48
            repeat' wtm_at "st"
            all_goals (refine Sm.fin (hq _ (by wtm_at "sm")) (congrArg V.bl (eC.trans ?_)); simp_all [okN, c48] <;> first | omega | (rw [Bool.eq_iff_iff]; simp only [Bool.and_eq_true, Bool.or_eq_true, decide_eq_true_eq, Array.isEmpty_iff, Bool.not_eq_true', decide_eq_false_iff_not, hE', false_or]; omega))
          · have hc48 : ¬ c = 48 := fun y => h48 (c48.mpr y)
            repeat' wtm_at "st"
            all_goals (refine Sm.fin (hq _ (by wtm_at "sm")) (congrArg V.bl (eC.trans ?_)); simp_all [okN, c48] <;> first | omega | (rw [Bool.eq_iff_iff]; simp only [Bool.and_eq_true, Bool.or_eq_true, decide_eq_true_eq, Array.isEmpty_iff, Bool.not_eq_true', decide_eq_false_iff_not, hE', false_or]; omega))
    · simp only [List.map_cons] at hp eC
      repeat' wtm_at "st"
      exact Sm.fin (hq _ (by wtm_at "sm")) (congrArg V.bl eC)
end
section
variable {P : Program} {w : World} {K : PySem.W.Frag} {mg : Str → Option Value} {base : Heap} {f : Addr} {fd : FuncData}
theorem ok__law_told (T : Txt P K mg) (F : FD K "_law_told" s__law_told f fd) (G_read_worth : Sm.Fn P w K mg base 4 "read_worth" P_read_worth (sp_read_worth K)) : FnOk P w K mg base (L2.CX P w) 5 f fd P__law_told (sp__law_told K) := by
  refine F.ok sc__law_told (fun vs H Q E h => ?_) (fun cdv A outer s H vs Q E hr h => ?_)
  · obtain ⟨x, d, rfl, _⟩ := h
    rfl
  obtain ⟨x, d, rfl, hd, ht, hn⟩ := h
  refine ⟨_, (pss_one (ps_try_as (i := 1) rfl rfl sc__law_told.nd rfl rfl ⟨rfl, by decide, .inl T.x_ParseError.gC⟩ (takes_of rfl rfl rfl rfl) (fun W pn xe tk _ => (pss_one (ps_ret (pe_lst (pa_cons (Sm.pe_fnS G_read_worth hr tk (pa_cons (pv 0) pa_nil)) pa_nil))))) (fun a oe cls d pn hz hf => (pss_one (ps_ret (Sm.pe_byXs T.x_ParseError hz hf (pv 1))))))), ?_⟩
  rw [st__law_told]
  repeat' wtm_at "st"
  refine ⟨x, d, rfl, hd, fun z hz => ?_, fun hne d' H' hs he => ?_⟩
  · obtain ⟨h1, h2, h3⟩ := ht z hz
    refine ⟨h1, fun o ho v H' hs hv => ?_, fun n hn' d' H' hs he => ?_⟩
    · repeat' wtm_at "st"
      exact h3 o ho _ _ (by wtm_at "sm") (.lst (.inl (.inl (by assumption))) (.cons (by wtm_at "at") .nil))
    · refine ⟨true, T.m_ParseError, fun _ a ha => ?_, fun h => by cases h⟩
      repeat' wtm_at "st"
      exact ⟨.ref a, rfl, rfl, rfl, d', _, rfl, he, h2 n hn' _ (by wtm_at "sm")⟩
  · refine ⟨true, T.m_ParseError, fun _ a ha => ?_, fun h => by cases h⟩
    repeat' wtm_at "st"
    exact ⟨.ref a, rfl, rfl, rfl, d', _, rfl, he, hn hne _ (by wtm_at "sm")⟩
end
section
variable {P : Program} {w : World} {K : PySem.W.Frag} {mg : Str → Option Value} {base : Heap} {f : Addr} {fd : FuncData}
theorem ok__law_spoilt (T : Txt P K mg) (F : FD K "_law_spoilt" s__law_spoilt f fd) (G__law_roll : Sm.Fn P w K mg base 1 "_law_roll" P__law_roll (sp__law_roll K)) (G__law_one_of : Sm.Fn P w K mg base 2 "_law_one_of" P__law_one_of (sp__law_one_of K)) : FnOk P w K mg base (L2.CX P w) 3 f fd P__law_spoilt (sp__law_spoilt K) := by
  refine F.ok sc__law_spoilt (fun vs H Q E h => ?_) (fun cdv A outer s H vs Q E hr h => ?_)
  · obtain ⟨p, z, rfl, _⟩ := h
    rfl
  obtain ⟨p, z, rfl, hd, hz, hA, hq⟩ := h
  refine ⟨_, (pss_cons (ps_par (i := 2) (j := 3) rfl sc__law_spoilt.nd rfl rfl (by decide) rfl rfl (pa_cons (Sm.pe_fn G__law_roll hr (pa_cons (pv 0) (pa_cons (pe_op Sm.op_addU (pe_callB Sm.call_lenU rfl T.f_len (by decide +kernel) (pa_cons (pv 1) pa_nil)) pe_int) pa_nil))) (pa_cons (Sm.pe_fn G__law_one_of hr (pa_cons (pv 0) (pa_cons (pe_callTy (Sm.call_listS rfl) rfl T.f_list (by decide +kernel) (pa_cons pe_str pa_nil)) pa_nil))) pa_nil)) (by rfl))
      (pss_cons (ps_set (i := 4) sc__law_spoilt.nd rfl (Or.inl rfl) (Sm.pe_fn G__law_roll hr (pa_cons (pv 0) (pa_cons pe_int pa_nil))))
      (pss_cons (ps_if (pt_cmpR (Sm.op_eqU hr) (pv 4) pe_int (nomark _)) (pss_one (ps_ret (pe_slice Sm.sl_U (pv 1) po_none (po_some (pv 2))))) pss_nil)
      (pss_cons (ps_if (pt_cmpR (Sm.op_eqU hr) (pv 4) pe_int (nomark _)) (pss_one (ps_ret (pe_op Sm.op_addU (pe_slice Sm.sl_U (pv 1) po_none (po_some (pv 2))) (pe_slice Sm.sl_U (pv 1) (po_some (pe_op Sm.op_addU (pv 2) pe_int)) po_none)))) pss_nil)
      (pss_cons (ps_if (pt_cmpR (Sm.op_eqU hr) (pv 4) pe_int (nomark _)) (pss_one (ps_ret (pe_op Sm.op_addU (pe_op Sm.op_addU (pe_slice Sm.sl_U (pv 1) po_none (po_some (pv 2))) (pv 3)) (pe_slice Sm.sl_U (pv 1) (po_some (pv 2)) po_none)))) pss_nil)
      (pss_one (ps_ret (pe_op Sm.op_addU (pe_op Sm.op_addU (pe_slice Sm.sl_U (pv 1) po_none (po_some (pv 2))) (pv 3)) (pe_slice Sm.sl_U (pv 1) (po_some (pe_op Sm.op_addU (pv 2) pe_int)) po_none))))))))), ?_⟩
  rw [st__law_spoilt]
  have hlS : (Str.ofString "0123456789--//0 +.nx").length ≤ sizeLine := by decide
  have hAS : Sm.Asc (Str.ofString "0123456789--//0 +.nx") := asc_dec (by decide +kernel)
  have hlz : z.length ≤ sizeLine := Sm.len_le (by omega)
  repeat' wtm_at "st"
  rename_i r H1 r0 r1 hs1 hd1 q H2 hn he hq2
  refine c_one_of (dice_mv hd1 he) (dice_lst hd1 hn hq2) (by decide +kernel) (by decide +kernel) (fun i v H3 hv hs3 hd3 => ?_)
  obtain ⟨c, hc, rfl⟩ : ∃ c, c ∈ TL.tl (Str.ofString "0123456789--//0 +.nx") ∧ v = .str ⟨#[c]⟩ := by
    unfold Sm.signsV at hv
    rw [List.getElem?_map] at hv
    cases h : (Str.ofString "0123456789--//0 +.nx").cps.toList[i]? with
    | none => rw [h] at hv; cases hv
    | some c => rw [h] at hv; cases hv; exact ⟨c, List.mem_of_getElem? h, rfl⟩
  have hAc := Sm.asc_sign hAS hc
  have hl1 : (⟨#[c]⟩ : Str).length = 1 := rfl
  obtain ⟨a, rfl⟩ : ∃ a : Nat, r = a := ⟨r.toNat, by omega⟩
  have ha : a ≤ z.length := by omega
  have k1 : (cutS z none (some (a : Int))).length = a := by
    rw [TL.len_tl, Sm.cut_to, List.length_take, ← TL.len_tl]
    omega
  have k2 : (cutS z (some (a : Int)) none).length = z.length - a := by
    rw [TL.len_tl, Sm.cut_from, List.length_drop, ← TL.len_tl]
  have k3 : (cutS z (some ((a : Int) + 1)) none).length = z.length - (a + 1) := by
    rw [show ((a : Int) + 1) = ((a + 1 : Nat) : Int) by omega, TL.len_tl, Sm.cut_from, List.length_drop, ← TL.len_tl]
  have b1 : Sm.Asc (cutS z none (some (a : Int))) := Sm.asc_cut hA
  have b2 : Sm.Asc (cutS z (some (a : Int)) none) := Sm.asc_cut hA
  have b3 : Sm.Asc (cutS z (some ((a : Int) + 1)) none) := Sm.asc_cut hA
  repeat' wtm_at "st"
  all_goals (refine hq _ ?_ ?_ _ (by wtm_at "sm") (by assumption))
  all_goals first
    | omega
    | (simp only [Sm.len_app]; omega)
    | (first | assumption | exact Sm.asc_app b1 b3 | exact Sm.asc_app (Sm.asc_app b1 hAc) b2 | exact Sm.asc_app (Sm.asc_app b1 hAc) b3)
end
section
variable {P : Program} {w : World} {K : PySem.W.Frag} {mg : Str → Option Value} {base : Heap} {f : Addr} {fd : FuncData}
theorem ok__law_text (T : Txt P K mg) (F : FD K "_law_text" s__law_text f fd) (G__law_roll : Sm.Fn P w K mg base 1 "_law_roll" P__law_roll (sp__law_roll K)) (G__law_integer : Sm.Fn P w K mg base 3 "_law_integer" P__law_integer (sp__law_integer K)) : FnOk P w K mg base (L2.CX P w) 4 f fd P__law_text (sp__law_text K) := by
  refine F.ok sc__law_text (fun vs H Q E h => ?_) (fun cdv A outer s H vs Q E hr h => ?_)
  · obtain ⟨p, rfl, _⟩ := h
    rfl
  obtain ⟨p, rfl, hd, hq⟩ := h
  refine ⟨_, (pss_cons (ps_if (pt_cmpR (Sm.op_eqU hr) (Sm.pe_fn G__law_roll hr (pa_cons (pv 0) (pa_cons pe_int pa_nil))) pe_int (nomark _)) (pss_one (ps_ret pe_str)) pss_nil)
      (pss_cons (ps_set (i := 1) sc__law_text.nd rfl (Or.inl rfl) (pe_callTy Sm.call_strU rfl T.f_str (by decide +kernel) (pa_cons (Sm.pe_fn G__law_integer hr (pa_cons (pv 0) pa_nil)) pa_nil)))
      (pss_cons (ps_if (PW.pt (pw_and (pt_cmpR (Sm.op_eqU hr) (Sm.pe_fn G__law_roll hr (pa_cons (pv 0) (pa_cons pe_int pa_nil))) pe_int (nomark _)) (pw_and1 (pt_cmpR (Sm.op_neU hr) (pv 1) pe_str (nomark _))))) (pss_one (ps_set (i := 1) sc__law_text.nd rfl (Or.inl rfl) (pe_op Sm.op_addU pe_str (pv 1)))) pss_nil)
      (pss_one (ps_ret (pe_ifExp (pt_cmpR (Sm.op_eqU hr) (Sm.pe_fn G__law_roll hr (pa_cons (pv 0) (pa_cons pe_int pa_nil))) pe_int (nomark _)) (pv 1) (pe_op Sm.op_addU (pe_op Sm.op_addU (pv 1) pe_str) (pe_slice Sm.sl_U (pe_callTy Sm.call_strU rfl T.f_str (by decide +kernel) (pa_cons (pe_op Sm.op_addU pe_int (Sm.pe_fn G__law_integer hr (pa_cons (pv 0) pa_nil))) pa_nil)) po_none (po_some pe_int))))))))), ?_⟩
  rw [st__law_text]
  have l60 : ∀ r : Int, 0 ≤ r → r ≤ 10 ^ 60 → r.natAbs.log2 < 1920 ∧ (Str.ofString (toString r)).length ≤ 61 ∧ Sm.Asc (Str.ofString (toString r)) := fun r h0 h1 => by
    obtain ⟨n, rfl⟩ : ∃ n : Nat, r = n := ⟨r.toNat, by omega⟩
    refine ⟨Sm.log_of (a := 250) (by rw [Int.natAbs_natCast]; exact Nat.lt_of_le_of_lt (show n ≤ 10 ^ 60 by omega) (by decide)) (by decide) (by decide), ?_, Sm.asc_num n⟩
    rw [TL.len_tl, TL.tl_num]
    exact TL.numL_len (k := 61) (by decide) (by omega)
  have aM : Sm.Asc (Str.ofString "-") := asc_dec (by decide +kernel)
  have aS : Sm.Asc (Str.ofString "/") := asc_dec (by decide +kernel)
  have lM : (Str.ofString "-").length = 1 := by decide
  have lS : (Str.ofString "/").length = 1 := by decide
  repeat' wtm_at "st"
  · exact hq _ (by decide) (asc_dec (by decide +kernel)) _ (by wtm_at "sm") (by assumption)
  · rename_i r H1 r0 r1 hs1 hd1
    obtain ⟨g1, g2, g3⟩ := l60 r r0 (by omega)
    repeat' wtm_at "st"
    all_goals try (
      rename_i r2 H5 u0 u1 us ud
      obtain ⟨k1, k2, k3⟩ := l60 (1 + r2) (by omega) (by omega)
      have kc := Sm.cut_len (z := Str.ofString (toString (1 + r2))) (lo := none) (hi := some 60)
      have ka := Sm.asc_cut (lo := none) (hi := some 60) k3
      repeat' wtm_at "st")
    all_goals (refine hq _ ?_ ?_ _ (by wtm_at "sm") (by assumption))
    all_goals first
      | omega
      | (simp only [Sm.len_app]; omega)
      | (repeat' first | assumption | apply Sm.asc_app)
end
section
variable {P : Program} {w : World} {K : PySem.W.Frag} {mg : Str → Option Value} {base : Heap} {f : Addr} {fd : FuncData}
theorem ok__law_due (T : Txt P K mg) (F : FD K "_law_due" s__law_due f fd) (G__law_lowest : Sm.Fn P w K mg base 1 "_law_lowest" P__law_lowest (sp__law_lowest K)) (G__law_can_begin : Sm.Fn P w K mg base 2 "_law_can_begin" P__law_can_begin (sp__law_can_begin K)) : FnOk P w K mg base (L2.CX P w) 3 f fd P__law_due (sp__law_due K) := by
  refine F.ok sc__law_due (fun vs H Q E h => ?_) (fun cdv A outer s H vs Q E hr h => ?_)
  · obtain ⟨z, rfl, _⟩ := h
    rfl
  obtain ⟨z, rfl, hz, hA, h1, h2⟩ := h
  refine ⟨_, (pss_cons (ps_for (passes_of rfl) rfl (pi_range1 rfl T.f_range (pa_cons (pe_callB Sm.call_lenU rfl T.f_len (by decide +kernel) (pa_cons (pv 0) pa_nil)) pa_nil)) (pg_name (i := 1) sc__law_due.nd rfl (Or.inl rfl)) (pss_one (ps_if (pt_not (pt_truth (Sm.pe_fn G__law_can_begin hr (pa_cons (pe_slice Sm.sl_U (pv 0) po_none (po_some (pe_op Sm.op_addU (pv 1) pe_int))) pa_nil)) (by intro _; rfl))) (pss_one (ps_ret (pv 1))) pss_nil)))
      (pss_cons (ps_if (pt_cmpR (Sm.op_eqU hr) (pv 0) pe_str (nomark _)) (pss_one (ps_ret (pe_lst (pa_cons pe_non pa_nil)))) pss_nil)
      (pss_cons (ps_set (i := 2) sc__law_due.nd rfl (Or.inl rfl) (pe_split (pv 0) pe_str))
      (pss_cons (ps_if (PW.pt (pw_or (pt_cmpR (Sm.op_eqU hr) (pe_slice Sm.sl_U (pv 0) po_none (po_some pe_int)) pe_str (nomark _)) (pw_or1 (pt_cmpR Sm.op_inU (pe_ix ix_seq (pv 2) (pe_un un_neg pe_int) (fun _ _ => rfl)) (pe_tup (pa_cons pe_str (pa_cons pe_str pa_nil))) (by rfl))))) (pss_one (ps_ret (pe_callB Sm.call_lenU rfl T.f_len (by decide +kernel) (pa_cons (pv 0) pa_nil)))) pss_nil)
      (pss_one (ps_ret (pe_lst (pa_cons (Sm.pe_fn G__law_lowest hr (pa_cons (pe_callTy Sm.call_intU rfl T.f_int (by decide +kernel) (pa_cons (pe_ix ix_seq (pv 2) pe_int (fun _ _ => rfl)) pa_nil)) (pa_cons (pe_ifExp (pt_cmpR op_gt (pe_callB Sm.call_lenU rfl T.f_len (by decide +kernel) (pa_cons (pv 2) pa_nil)) pe_int (nomark _)) (pe_callTy Sm.call_intU rfl T.f_int (by decide +kernel) (pa_cons (pe_ix ix_seq (pv 2) pe_int (fun _ _ => rfl)) pa_nil)) pe_int) pa_nil))) pa_nil)))))))), ?_⟩
  rw [st__law_due]
  have hl : z.length = (TL.tl z).length := TL.len_tl z
  have hlz : z.length ≤ sizeLine := Sm.len_le (by omega)
  refine Sm.Stq.h ?_
  refine Sm.g_forS (walk_range (lo := 0) (n := (z.length : Int).toNat)) (fun R h => Sm.g_rng1 (by (repeat' wtm_at "st"); exact Sm.g_rng1i (by omega) (by omega) h)) (fun i σ H' => i ≤ z.length ∧ (∃ u w, σ = [some (.str z), u, w]) ∧ Same H H' ∧ ∀ k, 1 ≤ k → k ≤ i → canB ((TL.tl z).take k) = true) ⟨Nat.zero_le _, ⟨_, _, rfl⟩, Same.refl _, fun k a b => by omega⟩ (fun _ _ _ _ _ => trivial) ?_ ?_
  · rintro i x σ H1 H2 hi ⟨hi2, ⟨u, w, rfl⟩, hs, hg⟩ ⟨rfl, rfl⟩
    have hi' : i < z.length := by omega
    have ecut : TL.tl (cutS z none (some (0 + (i : Int) + 1))) = (TL.tl z).take (i + 1) := by
      rw [show 0 + (i : Int) + 1 = ((i + 1 : Nat) : Int) by omega]
      exact Sm.cut_to z (i + 1)
    have hcl := Sm.cut_len (z := z) (lo := none) (hi := some (0 + (i : Int) + 1))
    have hcA : Sm.Asc (cutS z none (some (0 + (i : Int) + 1))) := Sm.asc_cut hA
    cases hb : canB ((TL.tl z).take (i + 1)) with
    | false =>
      rw [← ecut] at hb
      repeat' wtm_at "st"
      rw [ecut] at hb
      refine Sm.fin (h1 i (out_bad (by omega) hg hb) _ (by wtm_at "sm")) (congrArg V.int (by omega))
    | true =>
      have hb' := hb
      rw [← ecut] at hb
      repeat' wtm_at "st"
      refine ⟨by omega, ⟨_, _, rfl⟩, by wtm_at "sm", fun k a b => ?_⟩
      by_cases hk : k ≤ i
      · exact hg k a hk
      · rw [show k = i + 1 by omega]
        exact hb'
  · rintro σ H1 ⟨_, ⟨u, w, rfl⟩, hs, hg⟩
    rw [Int.toNat_natCast] at hg
    have hN : z = Str.ofString "nothing" ↔ TL.tl z = NOTH := ⟨fun e => by rw [e]; decide, fun e => TL.ext_tl (by rw [e]; decide)⟩
    have h110 : cutS z none (some 1) = Str.ofString "n" ↔ (TL.tl z).head? = some 110 := by
      rw [show Str.ofString "n" = ⟨#[110]⟩ by decide]
      exact Sm.cut0 z 110
    have hz2 : z.length + 2 ≤ sizeLine := Sm.len_le (by omega)
    have h1b : (1 : Int).natAbs < 2 ^ 9000 := Nat.one_lt_two_pow (by decide)
    cases outL (TL.tl z) with
    | bad j hj h g b =>
      have := hg (j + 1) (by omega) (by omega)
      rw [b] at this
      cases this
    | noth e h g =>
      have hz0 := hN.mpr e
      repeat' wtm_at "st"
      exact h2 none h _ _ (by wtm_at "sm") (.lst (.inl (.inl (by assumption))) (.cons .non .nil))
    | cut h g hn e =>
      have hz0 : ¬ _ := fun y => hn (hN.mp y)
      have hret : ∀ H', Same H H' → Q (.int (z.length : Nat)) H' := fun H' hs' => by
        rw [hl]
        exact h1 _ h _ hs'
      by_cases e0 : (TL.tl z).head? = some 110
      · have hh := h110.mpr e0
        repeat' wtm_at "st"
        exact hret _ (by wtm_at "sm")
      · have hh : ¬ _ := fun y => e0 (h110.mp y)
        have hcase : (47 ∉ TL.tl z ∧ (TL.tl z = [] ∨ TL.tl z = [45])) ∨ ∃ a, 47 ∉ a ∧ TL.tl z = a ++ [47] := by
          rcases e with e | e | e | e
          · exact absurd e e0
          · exact .inl ⟨by rw [e]; decide, .inl e⟩
          · exact .inl ⟨by rw [e]; decide, .inr e⟩
          · exact .inr e
        rcases hcase with ⟨hf, hc⟩ | ⟨a, ha, ea⟩
        · have hL := one_part hf
          have hin := in_ed (y := z) true (by rcases hc with hc | hc <;> rw [hc] <;> decide)
          wtm_at "st"
          repeat' wtm_at "st"
          rename_i pa H2 hn he hp
          rw [hL] at hp
          simp only [List.map_cons, List.map_nil] at hp
          repeat' wtm_at "st"
          exact hret _ (by wtm_at "sm")
        · obtain ⟨p, y, hL, ep, ey⟩ := two_parts (b := []) ea ha List.not_mem_nil
          have hin := in_ed (y := y) true (by rw [ey]; decide)
          repeat' wtm_at "st"
          rename_i pa H2 hn he hp
          rw [hL] at hp
          simp only [List.map_cons, List.map_nil] at hp
          repeat' wtm_at "st"
          exact hret _ (by wtm_at "sm")
    | one h g hn hf d h45 =>
      have hz0 : ¬ _ := fun y => (show ¬ TL.tl z = NOTH from fun e => hn (by rw [e]; rfl)) (hN.mp y)
      have hh : ¬ _ := fun y => hn (h110.mp y)
      have hL := one_part hf
      obtain ⟨hi, hi2⟩ := int_of d
      have hin := in_ed (y := z) false (by rw [decide_eq_false d.2.1, decide_eq_false h45]; rfl)
      repeat' wtm_at "st"
      rename_i pa H2 hn he hp
      rw [hL] at hp
      simp only [List.map_cons, List.map_nil] at hp
      repeat' wtm_at "st"
      refine h2 _ h _ _ (by wtm_at "sm") (.lst (.inl (.inl (by assumption))) (.cons ?_ .nil))
      rw [show oD (some (iv (TL.tl z), 1)) = wD (low (iv (TL.tl z)) 1) by rw [low_one]; rfl]
      wtm_at "at"
    | two a b h g hn e ha d d2 hb hl2 h8 =>
      have hz0 : ¬ _ := fun y => (show ¬ TL.tl z = NOTH from fun e => hn (by rw [e]; rfl)) (hN.mp y)
      have hh : ¬ _ := fun y => hn (h110.mp y)
      obtain ⟨p, y, hL, ep, ey⟩ := two_parts e ha (free47 d2)
      have hin := in_ed (y := y) false (by
        rw [ey, decide_eq_false hb, decide_eq_false (fun z => by rw [z] at d2; have := d2 45 (List.mem_cons_self ..); omega)]
        rfl)
      obtain ⟨hi, hi2⟩ := int_of (p := p) (by rw [ep]; exact d)
      obtain ⟨hj, hj2⟩ := int_of (p := y) (by rw [ey]; exact ⟨.inl d2, hb, by omega⟩)
      obtain ⟨hp1, hp2⟩ := iv_pos d2 hb hl2 h8
      rw [ep] at hi
      rw [ey] at hj
      repeat' wtm_at "st"
      rename_i pa H2 hn he hp
      rw [hL] at hp
      simp only [List.map_cons, List.map_nil] at hp
      repeat' wtm_at "st"
      exact h2 _ h _ _ (by wtm_at "sm") (.lst (.inl (.inl (by assumption))) (.cons (by wtm_at "at") .nil))
end
section
variable {P : Program} {w : World} {K : PySem.W.Frag} {mg : Str → Option Value} {base : Heap} {f : Addr} {fd : FuncData}
theorem ok__law_right (T : Txt P K mg) (F : FD K "_law_right" s__law_right f fd) (G__law_lowest : Sm.Fn P w K mg base 1 "_law_lowest" P__law_lowest (sp__law_lowest K)) (G__law_one_of : Sm.Fn P w K mg base 2 "_law_one_of" P__law_one_of (sp__law_one_of K)) (G_read_worth : Sm.Fn P w K mg base 4 "read_worth" P_read_worth (sp_read_worth K)) (G__law_text : Sm.Fn P w K mg base 4 "_law_text" P__law_text (sp__law_text K)) (G__law_told : Sm.Fn P w K mg base 5 "_law_told" P__law_told (sp__law_told K)) (G_worth_text : Sm.Fn P w K mg base 6 "worth_text" P_worth_text (sp_worth_text K)) (G__law_integer : Sm.Fn P w K mg base 3 "_law_integer" P__law_integer (sp__law_integer K)) (G__law_written : Sm.Fn P w K mg base 1 "_law_written" P__law_written (sp__law_written K)) (G__law_roll : Sm.Fn P w K mg base 1 "_law_roll" P__law_roll (sp__law_roll K)) (G__law_due : Sm.Fn P w K mg base 3 "_law_due" P__law_due (sp__law_due K)) (G__law_spoilt : Sm.Fn P w K mg base 3 "_law_spoilt" P__law_spoilt (sp__law_spoilt K)) (G_plus : Sm.Fn P w K mg base 6 "plus" P_plus (sp_plus K)) : FnOk P w K mg base (L2.CX P w) 7 f fd P__law_right (sp__law_right K) := by
  refine F.ok sc__law_right (fun vs H Q E h => ?_) (fun cdv A outer s H vs Q E hr h => ?_)
  · obtain ⟨p, rfl, _⟩ := h
    rfl
  obtain ⟨p, rfl, hd, hq⟩ := h
  refine ⟨_, (pss_cons (ps_set (i := 1) sc__law_right.nd rfl (Or.inl rfl) (Sm.pe_fn G__law_lowest hr (pa_cons (pe_op Sm.op_mulU (Sm.pe_fn G__law_one_of hr (pa_cons (pv 0) (pa_cons (pe_lst (pa_cons (pe_un un_neg pe_int) (pa_cons pe_int pa_nil))) pa_nil))) (Sm.pe_fn G__law_integer hr (pa_cons (pv 0) pa_nil))) (pa_cons (Sm.pe_fn G__law_one_of hr (pa_cons (pv 0) (pa_cons (pe_lst (pa_cons pe_int (pa_cons pe_int (pa_cons pe_int (pa_cons pe_int (pa_cons (pe_op Sm.op_addU (pe_op Sm.op_powW pe_int pe_int) pe_int) pa_nil)))))) pa_nil))) pa_nil))))
      (pss_cons (ps_if (PW.pt (pw_or (pt_cmpR (Sm.op_neU hr) (Sm.pe_fnE G_worth_text hr (pa_cons (pv 1) pa_nil) (Sm.passE rfl rfl rfl rfl)) (Sm.pe_fn G__law_written hr (pa_cons (pv 1) pa_nil)) (nomark _)) (pw_or1 (pt_cmpR (Sm.op_neU hr) (Sm.pe_fnE G_worth_text hr (pa_cons pe_non pa_nil) (Sm.passE rfl rfl rfl rfl)) pe_str (nomark _))))) (pss_one (ps_ret pe_bl)) pss_nil)
      (pss_cons (ps_if (pt_cmpR (Sm.op_neU hr) (Sm.pe_fnE G_read_worth hr (pa_cons (Sm.pe_fnE G_worth_text hr (pa_cons (pv 1) pa_nil) (Sm.passE rfl rfl rfl rfl)) pa_nil) (Sm.passE rfl rfl rfl rfl)) (pv 1) (nomark _)) (pss_one (ps_ret pe_bl)) pss_nil)
      (pss_cons (ps_set (i := 2) sc__law_right.nd rfl (Or.inl rfl) (pe_tup (pa_cons (pe_op Sm.op_addU (pe_op Sm.op_powW pe_int pe_int) (Sm.pe_fn G__law_roll hr (pa_cons (pv 0) (pa_cons pe_int pa_nil)))) (pa_cons pe_int pa_nil))))
      (pss_cons (ps_if (PW.pt (pw_or (pt_cmpR (Sm.op_neU hr) (Sm.pe_fn G__law_told hr (pa_cons (Sm.pe_fnE G_worth_text hr (pa_cons (pv 2) pa_nil) (Sm.passE rfl rfl rfl rfl)) pa_nil)) pe_int (nomark _)) (pw_or1 (pt_cmpR (Sm.op_neU hr) (Sm.pe_fn G__law_told hr (pa_cons (Sm.pe_fnE G_worth_text hr (pa_cons (Sm.pe_fnE G_plus hr (pa_cons (pv 2) (pa_cons (pe_tup (pa_cons pe_int (pa_cons pe_int pa_nil))) pa_nil)) (Sm.passE rfl rfl rfl rfl)) pa_nil) (Sm.passE rfl rfl rfl rfl)) pa_nil)) pe_int (nomark _))))) (pss_one (ps_ret pe_bl)) pss_nil)
      (pss_cons (ps_for (passes_of rfl) rfl (pi_range1 rfl T.f_range (pa_cons pe_int pa_nil)) (pg_name (i := 3) sc__law_right.nd rfl (Or.inl rfl)) (pss_cons (ps_set (i := 4) sc__law_right.nd rfl (Or.inl rfl) (Sm.pe_fn G__law_text hr (pa_cons (pv 0) pa_nil)))
      (pss_cons (ps_if (pt_cmpR (Sm.op_neU hr) (Sm.pe_fn G__law_told hr (pa_cons (pv 4) pa_nil)) (Sm.pe_fn G__law_due hr (pa_cons (pv 4) pa_nil)) (nomark _)) (pss_one (ps_ret pe_bl)) pss_nil)
      (pss_one (ps_for (passes_of rfl) rfl (pi_range1 rfl T.f_range (pa_cons (pe_op Sm.op_addU pe_int (Sm.pe_fn G__law_roll hr (pa_cons (pv 0) (pa_cons pe_int pa_nil)))) pa_nil)) (pg_name (i := 5) sc__law_right.nd rfl (Or.inl rfl)) (pss_cons (ps_set (i := 4) sc__law_right.nd rfl (Or.inl rfl) (Sm.pe_fn G__law_spoilt hr (pa_cons (pv 0) (pa_cons (pv 4) pa_nil))))
      (pss_one (ps_if (pt_cmpR (Sm.op_neU hr) (Sm.pe_fn G__law_told hr (pa_cons (pv 4) pa_nil)) (Sm.pe_fn G__law_due hr (pa_cons (pv 4) pa_nil)) (nomark _)) (pss_one (ps_ret pe_bl)) pss_nil))))))))
      (pss_cons (ps_set (i := 6) sc__law_right.nd rfl (Or.inl rfl) (Sm.pe_fn G__law_one_of hr (pa_cons (pv 0) (pa_cons (pe_lst (pa_cons pe_non (pa_cons pe_int (pa_cons (pe_tup (pa_cons pe_str pa_nil)) (pa_cons (pe_lst (pa_cons pe_str pa_nil)) (pa_cons pe_bl (pa_cons (pe_tup (pa_cons pe_int (pa_cons pe_int pa_nil))) pa_nil))))))) pa_nil))))
      (pss_cons (ps_if (pt_cmpR Sm.op_nisU (Sm.pe_fn G__law_told hr (pa_cons (pv 6) pa_nil)) pe_non (nomark _)) (pss_one (ps_ret pe_bl)) pss_nil)
      (pss_cons (ps_try_only rfl rfl ⟨rfl, by decide, .inl T.x_InvalidWorth.gC⟩ (takes_of rfl rfl rfl rfl) (fun W pn xe tk _ => (pss_one (ps_expr (Sm.pe_fnS G_worth_text hr tk (pa_cons (Sm.pe_fn G__law_one_of hr (pa_cons (pv 0) (pa_cons (pe_lst (pa_cons (pe_tup (pa_cons pe_int (pa_cons pe_int pa_nil))) (pa_cons pe_str (pa_cons pe_int (pa_cons (pe_tup (pa_cons pe_int (pa_cons pe_int pa_nil))) (pa_cons (pe_tup (pa_cons pe_bl (pa_cons pe_int pa_nil))) (pa_cons (pe_tup pa_nil) pa_nil))))))) pa_nil))) pa_nil))))) (fun a oe cls d pn hz hf => (pss_one (ps_ret pe_bl))))
      (pss_one (ps_ret pe_bl))))))))))), ?_⟩
  rw [st__law_right]
  repeat' wtm_at "st"
  rename_i q1 H1 hn1 he1 hq1
  refine c_one_of (dice_mv hd he1) (dice_lst hd hn1 hq1) (by simp) (by simp) (fun i v H2 hx hs2 hd2 => ?_)
  obtain ⟨s, rfl, hs⟩ : ∃ s : Int, v = .int s ∧ (s = -1 ∨ s = 1) := by
    rcases i with _ | _ | i <;> cases hx
    · exact ⟨_, rfl, .inl rfl⟩
    · exact ⟨_, rfl, .inr rfl⟩
  repeat' wtm_at "st"
  rename_i r H3 r0 r1 hs3 hd3 q2 H4 hn4 he4 hq4
  refine c_one_of (dice_mv hd3 he4) (dice_lst hd3 hn4 hq4) (by simp) (by simp) (fun i v H5 hx hs5 hd5 => ?_)
  obtain ⟨b, rfl, hb1, hb2⟩ : ∃ b : Int, v = .int b ∧ 1 ≤ b ∧ b < 10 ^ 41 := by
    rcases i with _ | _ | _ | _ | _ | i <;> cases hx <;> exact ⟨_, rfl, by omega, by omega⟩
  obtain ⟨P2, Q2, elow, hQ1, hg, hP, hQ2, _⟩ := low_spec (t := s * r) hb1
  have hb9 : b.natAbs < 2 ^ 9000 := Nat.lt_of_lt_of_le (show b.natAbs < 2 ^ 200 by omega) (Nat.pow_le_pow_right (by decide) (by decide))
  have htn : (s * r).natAbs < 10 ^ 60 := by
    rcases hs with rfl | rfl <;> omega
  have hok := isLong_of hQ1 hg (show (P2.natAbs : Int) < 10 ^ 62 by omega) (show Q2 < 10 ^ 62 by omega)
  have hw := wsm_of (p := P2) (show (P2.natAbs : Int) < 10 ^ 62 by omega) hQ1 (show Q2 < 10 ^ 62 by omega)
  have hrb := read_back hQ1 hg (show (P2.natAbs : Int) < 10 ^ 60 by omega) (show Q2 < 10 ^ 60 by omega)
  have hwl := words_len (p := P2) hQ1 (show (P2.natAbs : Int) < 10 ^ 62 by omega) (show Q2 < 10 ^ 62 by omega)
  have hne : wD (P2, Q2) ≠ .none := fun z => by cases z
  have hqv := eqv_w P2 Q2
  have hw0 : wordsD .none = Str.ofString "nothing" := rfl
  have ho0 : okOp .none = true := rfl
  have hs0 : Wsm .none := .inl rfl
  repeat' wtm_at "st"
  rename_i v H6 hs6 hdv
  rw [elow] at hdv
  repeat' wtm_at "st"
  rename_i r9 H7 r90 r91 hs7 hd7 q8 H8 hn8 he8 hq8
  obtain ⟨x, ex⟩ : ∃ x : Int, x = 10 ^ 60 + r9 := ⟨_, rfl⟩
  rw [← ex] at hq8
  have hx0 : 10 ^ 60 ≤ x := by omega
  have hx1 : x < 10 ^ 60 + 9 := by omega
  have ok1 : okOp (.tuple [.int x, .int 1]) = true := isLong_of (p := x) (q := 1) (by decide) (Int.gcd_one_right ..) (by omega) (by decide)
  have ws1 : Wsm (.tuple [.int x, .int 1]) := wsm_of (p := x) (q := 1) (by omega) (by decide) (by decide)
  have wk1 : Wok (.tuple [.int x, .int 1]) := wok_of (p := x) (q := 1) (by omega) (by decide) (by decide)
  have rd1 : readW (TL.tl (wordsD (.tuple [.int x, .int 1]))) = .error 60 := read_great (p := x) (q := 1) (by decide) hx0
  have wl1 : (wordsD (.tuple [.int x, .int 1])).length ≤ 1000 := words_len (p := x) (q := 1) (by decide) (by omega) (by decide)
  have ok7 : okOp (.tuple [.int 1, .int 7]) = true := isLong_of (p := 1) (q := 7) (by decide) (by decide) (by decide) (by decide)
  have wk7 : Wok (.tuple [.int 1, .int 7]) := wok_of (p := 1) (q := 7) (by decide) (by decide) (by decide)
  obtain ⟨P3, Q3, el3, hQ31, hg3, hP3, hQ32, hP30⟩ := low_spec (t := x * 7 + 1 * 1) (b := 1 * 7) (by decide)
  have hP31 := hP30 (by omega)
  have hP3x : x ≤ P3 := by omega
  have es3 : sumD (.tuple [.int x, .int 1]) (.tuple [.int 1, .int 7]) = wD (P3, Q3) := by
    rw [sumD_tt, if_neg (by decide), el3]
  have hP3b : (P3.natAbs : Int) < 10 ^ 62 := by omega
  have ok3 := isLong_of hQ31 hg3 hP3b (by omega)
  have ws3 := wsm_of (p := P3) (q := Q3) hP3b hQ31 (by omega)
  have rd3 := read_great (p := P3) (q := Q3) hQ31 (by omega)
  have wl3 := words_len (p := P3) (q := Q3) hQ31 hP3b (by omega)
  repeat' wtm_at "st"
  clear hx hok hw hrb hwl hne hqv hw0 ho0 hs0 ok1 ws1 wk1 rd1 wl1 ok7 wk7 es3 ok3 ws3 rd3 wl3 hP30 hP31 hP3x hP3b hP3 hb9 htn hP
  rename_i HL hsL
  have hD : Dice HL p := by wtm_at "dc"
  have hS : Same (Sm.dl H p) HL := by wtm_at "sm"
  clear hsL
  refine Sm.g_forS (walk_range (lo := 0) (n := (6 : Int).toNat)) (fun R h => Sm.g_rng1 (by (repeat' wtm_at "st"); exact Sm.g_rng1i (by decide) (by decide) h)) (fun i σ H' => (∃ a b c d e f, σ = [some (.ref p), a, b, c, d, e, f]) ∧ Dice H' p ∧ Same (Sm.dl H p) H') ⟨⟨_, _, _, _, _, _, rfl⟩, hD, hS⟩ (fun _ _ _ _ _ => trivial) ?_ ?_
  · clear hD hS
    rintro i x σ H1 H2 hi ⟨⟨a, b, c, d, e, f, rfl⟩, hD1, hS1⟩ ⟨rfl, rfl⟩
    repeat' wtm_at "st"
    rename_i z H3 hz hA hs3 hd3
    rcases hR : readW (TL.tl z) with n | o
    rotate_left
    have hqo := eqv_o o
    have hso := shaped_o o
    all_goals repeat' wtm_at "st"
    all_goals
      refine Sm.g_nx ?_
      refine Sm.g_rng1 ?_
      repeat' wtm_at "st"
      rename_i r H4 r0 r1 hs4 hd4
      refine Sm.g_rng1i (by omega) (by omega) ?_
      refine Sm.g_forW (walk_range (lo := 0) (n := (1 + r).toNat)) (fun i σ H' => (∃ a b c e f z', σ = [some (.ref p), a, b, c, some (.str z'), e, f] ∧ z'.length ≤ 200 + i ∧ Sm.Asc z') ∧ Dice H' p ∧ Same (Sm.dl H p) H') ⟨⟨_, _, _, _, _, _, rfl, hz, hA⟩, hd4, by wtm_at "sm"⟩ (fun _ _ _ _ _ => trivial) ?_ ?_
      · clear hs4 hd4 hs3 hd3 hz hA hR
        rintro j x σ H1 H2 hj ⟨⟨a, b, c, e, f, z', rfl, hz, hA⟩, hD1, hS1⟩ ⟨rfl, rfl⟩
        repeat' wtm_at "st"
        rename_i z2 H3 hz2 hA2 hs3 hd3
        rcases hR : readW (TL.tl z2) with n | o
        · repeat' wtm_at "st"
          exact ⟨⟨_, _, _, _, _, _, rfl, by omega, hA2⟩, by wtm_at "dc", by wtm_at "sm"⟩
        · have hqo := eqv_o o
          have hso := shaped_o o
          repeat' wtm_at "st"
          exact ⟨⟨_, _, _, _, _, _, rfl, by omega, hA2⟩, by wtm_at "dc", by wtm_at "sm"⟩
      · rintro σ H1 ⟨⟨a, b, c, e, f, z', rfl, hz, hA⟩, hD1, hS1⟩
        exact ⟨⟨_, _, _, _, _, _, rfl⟩, hD1, hS1⟩
  · clear hD hS
    rintro σ H1 ⟨⟨a, b, c, d, e, f, rfl⟩, hD1, hS1⟩
    repeat' wtm_at "st"
    rename_i pa A1 na ea fa pb A2 nb eb fb pc A3 nc ec fc pd A4 nd ed gd
    have Da := dice_at hD1 na fa
    have D2 := dice_mv hD1 ea
    have Db := dice_at D2 nb fb
    have D3 := dice_mv D2 eb
    have Dc := dice_at D3 nc fc
    have D4 := dice_mv D3 ec
    refine c_one_of (dice_mv D4 ed) (dice_lst D4 nd gd) (by simp) (by simp) (fun i v H5 hx hs5 hd5 => ?_)
    obtain ⟨sa, sb, sc⟩ : Same (Sm.dl A1 p) H5 ∧ Same (Sm.dl A2 p) H5 ∧ Same (Sm.dl A3 p) H5 := ⟨by wtm_at "sm", by wtm_at "sm", by wtm_at "sm"⟩
    obtain ⟨u, hu, hne⟩ : ∃ u, Dp K H5 v u ∧ ∀ z, u ≠ .str z := by
      rcases i with _ | _ | _ | _ | _ | _ | i <;> cases hx
      · exact ⟨_, .non, fun _ h => by cases h⟩
      · exact ⟨_, .int _, fun _ h => by cases h⟩
      · exact ⟨_, .tup (.inl (.inl (sa _ _ Da))) (.cons (.str _) .nil), fun _ h => by cases h⟩
      · exact ⟨_, .lst (.inl (.inl (sb _ _ Db))) (.cons (.str _) .nil), fun _ h => by cases h⟩
      · exact ⟨_, .bl _, fun _ h => by cases h⟩
      · exact ⟨_, .tup (.inl (.inl (sc _ _ Dc))) (.cons (.int _) (.cons (.int _) .nil)), fun _ h => by cases h⟩
    have hS5 : Same (Sm.dl H p) H5 := by
      clear sa sb sc
      wtm_at "sm"
    clear hx sa sb sc Da Db Dc ea eb ec ed fa fb fc gd na nb nc nd D2 D3 D4 hs5 hD1 hS1
    repeat' wtm_at "st"
    rename_i H6 hs6 pa A1 na ea fa pb A2 nb eb fb pc A3 nc ec fc pe A4 ne ee fe pd A5 nd ed gd
    have hS6 : Same (Sm.dl H p) H6 := by wtm_at "sm"
    have D1 := dice_mv hd5 hs6
    have Da := dice_at D1 na fa
    have D2 := dice_mv D1 ea
    have Db := dice_at D2 nb fb
    have D3 := dice_mv D2 eb
    have Dc := dice_at D3 nc fc
    have D4 := dice_mv D3 ec
    have De := dice_at D4 ne fe
    have D5 := dice_mv D4 ee
    refine c_one_of (dice_mv D5 ed) (dice_lst D5 nd gd) (by simp) (by simp) (fun i v H7 hx hs7 hd7 => ?_)
    obtain ⟨sa, sb, sc, se, sH⟩ : Same (Sm.dl A1 p) H7 ∧ Same (Sm.dl A2 p) H7 ∧ Same (Sm.dl A3 p) H7 ∧ Same (Sm.dl A4 p) H7 ∧ Same (Sm.dl H p) H7 := ⟨by wtm_at "sm", by wtm_at "sm", by wtm_at "sm", by wtm_at "sm", by wtm_at "sm"⟩
    obtain ⟨u, hu, hno⟩ : ∃ u, Dp K H7 v u ∧ okOp u = false := by
      rcases i with _ | _ | _ | _ | _ | _ | i <;> cases hx
      · exact ⟨.tuple [.int 2, .int 4], .tup (.inl (.inl (sa _ _ Da))) (.cons (.int _) (.cons (.int _) .nil)), rfl⟩
      · exact ⟨_, .str _, rfl⟩
      · exact ⟨_, .int _, rfl⟩
      · exact ⟨.tuple [.int 1, .int 0], .tup (.inl (.inl (sb _ _ Db))) (.cons (.int _) (.cons (.int _) .nil)), rfl⟩
      · exact ⟨_, .tup (.inl (.inl (sc _ _ Dc))) (.cons (.bl _) (.cons (.int _) .nil)), rfl⟩
      · exact ⟨_, .tup (.inl (.inl (se _ _ De))) .nil, rfl⟩
    clear hx sa sb sc se Da Db Dc De
    refine Sm.Stq.h ?_
    refine ⟨v, u, rfl, hu, fun z => (by rw [hno] at z; cases z), fun _ H8 hs8 => ?_⟩
    refine ⟨true, T.m_InvalidWorth, fun _ a ha => ?_, fun h => by cases h⟩
    repeat' wtm_at "st"
    exact hq _ (by wtm_at "sm") (by wtm_at "dc")
end
section
variable {P : Program} {w : World} {K : PySem.W.Frag} {mg : Str → Option Value} {base : Heap} {f : Addr} {fd : FuncData}
theorem ok_law (T : Txt P K mg) (F : FD K "law" s_law f fd) (G__law_right : Sm.Fn P w K mg base 7 "_law_right" P__law_right (sp__law_right K)) (G__law_dice : Sm.Fn P w K mg base 1 "_law_dice" P__law_dice (sp__law_dice K)) : FnOk P w K mg base (L2.CX P w) 8 f fd P_law (sp_law K) := by
  refine F.ok sc_law (fun vs H Q E h => ?_) (fun cdv A outer s H vs Q E hr h => ?_)
  · obtain ⟨p, ns, rfl, _⟩ := h
    rfl
  obtain ⟨p, ns, rfl, hp, hn, hq⟩ := h
  refine ⟨_, (pss_cons (ps_for (passes_of rfl) rfl (pi_range1 rfl T.f_range (pa_cons (pe_callB (Sm.call_maxU rfl) rfl T.f_max (by decide +kernel) (pa_cons pe_int (pa_cons (pe_callB (Sm.call_minU rfl) rfl T.f_min (by decide +kernel) (pa_cons pe_int (pa_cons (pe_callB Sm.call_lenU rfl T.f_len (by decide +kernel) (pa_cons (pv 0) pa_nil)) pa_nil))) pa_nil))) pa_nil)) (pg_name (i := 1) sc_law.nd rfl (Or.inl rfl)) (pss_one (ps_if (pt_not (pt_truth (Sm.pe_fnE G__law_right hr (pa_cons (Sm.pe_fn G__law_dice hr (pa_cons (pv 0) (pa_cons (pv 1) pa_nil))) pa_nil) (Sm.passE rfl rfl rfl rfl)) (by intro _; rfl))) (pss_one (ps_ret pe_bl)) pss_nil)))
      (pss_one (ps_ret pe_bl))), ?_⟩
  rw [st_law]
  have hl : (ns.map V.int).length ≤ 63 := by rw [List.length_map]; exact hn
  refine Sm.Stq.h ?_
  refine Sm.g_rng1 ?_
  repeat' wtm_at "st"
  refine Sm.g_rng1i (by split <;> split <;> omega) (by split <;> split <;> omega) ?_
  refine Sm.g_forW (walk_range (lo := 0)) (fun i σ H' => (∃ u, σ = [some (.ref p), u]) ∧ Same H H') ⟨⟨_, rfl⟩, Same.refl _⟩ (fun _ _ _ _ _ => trivial) ?_ ?_
  · rintro i x σ H1 H2 hi ⟨⟨u, rfl⟩, hs⟩ ⟨rfl, rfl⟩
    have hsp : SqL K H2 p (ns.map V.int) := Sm.seqL_at hp hs
    wtm_at "st"
    refine ⟨p, ns, i, by simp, hsp, fun q H3 hn3 hs3 hd3 => ?_⟩
    repeat' wtm_at "st"
    refine ⟨q, rfl, hd3, fun H4 hs4 hd4 => ?_⟩
    repeat' wtm_at "st"
    refine ⟨⟨_, rfl⟩, hs.trans (Same.trans (fun b o hb => ?_) hs4)⟩
    rw [Sm.dl_ne (fun z => by rw [z, hn3] at hb; cases hb)]
    exact hs3 _ _ hb
  · rintro σ H1 ⟨⟨u, rfl⟩, hs⟩
    repeat' wtm_at "st"
    exact hq _
end
end K01
/-! SmHead: a Hook that tells own exceptions, too. -/
namespace Sm
open PySem PySem.Spec PyProof.Rows L2
open PySem.W
def asS (g : Addr → Option Obj) : Nat → List Addr
  | 0 => [mainGlobals, cStatics]
  | n + 1 => He.growD g (asS g n)
/-- an own exception whose __init__ says super().__init__(f); self.f = f -/
structure ExD where
  x : Str
  f : Str
  qual : Str
  p1 : Pos
  p2 : Pos
  a1 : Pos
  a2 : Pos
  a3 : Pos
  a4 : Pos
  a5 : Pos
  a6 : Pos
  b1 : Pos
  b2 : Pos
  b3 : Pos
  b4 : Pos
  B : String
  newId : String
  initId : String
  bmB : List Value
/-- an own exception without an __init__ -/
structure PlD where
  x : Str
  B : String
  newId : String
  initId : String
  bmB : List Value
abbrev IniW : Type := Option (Str × Str × Arguments × FuncBody × Scope × Addr × List Str × Addr × Value)
def iniW (K : Frag) (x : Str) : IniW := match K.lookup (He.ma K (He.ga K x) "__init__") with
  | some ⟨_, _, .func fd, _⟩ => some (fd.name, fd.qualname, fd.params, fd.body, fd.scope, fd.globals, fd.closure.map (·.1), fd.builtins, fd.defaults)
  | _ => none
def ExD.val (d : ExD) : IniW := some ("__init__", d.qual, iArgs d.f d.p1 d.p2, .stmts (iBody d.f d.a1 d.a2 d.a3 d.a4 d.a5 d.a6 d.b1 d.b2 d.b3 d.b4), iScope d.f, mainGlobals, ["__class__"], builtinsNs, .none)
def baseB (K : Frag) (x : Str) : Bool := He.eqO (nsIn K mainGlobals x) (some (some (.ref (He.ga K x)))) && (keepIn K (.ref (He.ga K x)) && (decide (subIn K (.ref (He.ga K x)) (.type "BaseException") = some true) && decide (typeIn K (.ref (He.ga K x)) = some (.type "type"))))
def cellB (K : Frag) (file q : Str) (C fI : Addr) : Bool := match K.lookup fI with
  | some ⟨_, _, .func fd, _⟩ => (match fd.code with
    | .ref cda => (match fd.closure with
      | [(_, cc)] => codeIn K (.ref cda) q && ((match K.lookup cda with
          | some ⟨_, _, .fields vs, _⟩ => (match (vs[2]? : Option Value) with
            | some (.str fl _) => (file == fl)
            | _ => false)
          | _ => false) && (match K.lookup cc with
          | some ⟨_, _, .cell (some (.ref a)), _⟩ => decide (a = C)
          | _ => false))
      | _ => false)
    | _ => false)
  | _ => false
def ExD.ok (file : Str) (K : Frag) (d : ExD) : Bool :=
  baseB K d.x && (excInitIn K (He.ga K d.x) d.bmB d.newId && (excOver K (He.ga K d.x) d.bmB && (decide (subIn K (.ref (He.ga K d.x)) (.type d.B) = some true) && (He.eqO (findIn K (.ref (He.ga K d.x)) "__setattr__") (some (some (.builtin "object.__setattr__"))) &&
  (He.eqO (findIn K (.ref (He.ga K d.x)) "__getattribute__") (some (some (.builtin "BaseException.__getattribute__"))) && (He.eqO (findIn K (.ref (He.ga K d.x)) "__getattr__") (some none) && (He.eqO (findIn K (.ref (He.ga K d.x)) d.f) (some none) &&
  (He.eqO (findIn K (.ref (He.ga K d.x)) "__init__") (some (some (.ref (He.ma K (He.ga K d.x) "__init__")))) && (decide (typeIn K (.ref (He.ma K (He.ga K d.x) "__init__")) = some (.type "function")) && (hasDictIn K (He.ga K d.x) && (He.eqO (nsIn K cStatics "thirdparty.any") (some none) &&
  (He.eqO (ks_superIn K (He.ga K d.x) (He.ga K d.x) "__init__") (some (some (.builtin d.initId))) && (decide (mroIn K (He.ga K d.x) (.ref (He.ga K d.x)) = some true) && (He.eqO (nsIn K mainGlobals "super") (some none) && cellB K file d.qual (He.ga K d.x) (He.ma K (He.ga K d.x) "__init__")))))))))))))))
def PlD.ok (K : Frag) (d : PlD) : Bool := baseB K d.x && excIn K (He.ga K d.x) d.bmB d.newId
section
variable {K : Frag} {h : Heap} {mg : Str → Option Value}
theorem base_ok (X : K.In h) (G : h.Ns mainGlobals mg) {x : Str} {B newId initId : String} {bmB : List Value} (F : ExcBaseFacts B newId initId bmB) (c : baseB K x = true) : XBase K mg x (He.ga K x) B newId initId bmB := by
  obtain ⟨c1, c⟩ := He.ba c
  obtain ⟨c2, c⟩ := He.ba c
  obtain ⟨c3, c4⟩ := He.ba c
  exact ⟨PySem.W.mg_of X G (He.eqO_ok c1), F, c2, of_decide_eq_true c3, of_decide_eq_true c4⟩
theorem pl_ok (X : K.In h) (G : h.Ns mainGlobals mg) {d : PlD} (F : ExcBaseFacts d.B d.newId d.initId d.bmB) (c : d.ok K = true) : XPl K mg d.x (He.ga K d.x) d.B d.newId d.initId d.bmB := by
  obtain ⟨c1, c2⟩ := He.ba c
  exact ⟨base_ok X G F c1, c2⟩
theorem xs_ok {P : Program} (X : K.In h) (G : h.Ns mainGlobals mg) {d : ExD} (F : ExcBaseFacts d.B d.newId d.initId d.bmB) (Kx : KxsFacts d.B d.initId) (S : StoreFacts d.B d.bmB "object.__setattr__" "object")
    (hl : (d.a3.endLine == d.a5.line) = true) (hb : ∀ (kV doc pm : Value) (an : Option Addr) (cdv ct : Value) (cc : Addr) (x : Addr) (v : Value), bindArgs (ksFn "__init__" d.qual (iArgs d.f d.p1 d.p2) (iBody d.f d.a1 d.a2 d.a3 d.a4 d.a5 d.a6 d.b1 d.b2 d.b3 d.b4) (iScope d.f) .none kV doc pm an cdv ct cc) ⟨[.ref x, v], []⟩ = pure [(("self" : Str), Value.ref x), (d.f, v)])
    (ht : (P.main.scope.names.lookup ("super" : Str)).isSome = false) (hf : (d.f == ("self" : Str)) = false ∧ (d.f == ("__debug__" : Str)) = false ∧ (d.f == ("super" : Str)) = false ∧ (d.f == ("__class__" : Str)) = false)
    (e : iniW K d.x = d.val) (c : d.ok P.main.file K = true) : XS P K mg d.x d.f (He.ga K d.x) d.B d.newId d.initId d.bmB := by
  unfold ExD.ok at c
  obtain ⟨c1, c⟩ := He.ba c
  obtain ⟨c2, c⟩ := He.ba c
  obtain ⟨c3, c⟩ := He.ba c
  obtain ⟨c4, c⟩ := He.ba c
  obtain ⟨c5, c⟩ := He.ba c
  obtain ⟨c6, c⟩ := He.ba c
  obtain ⟨c7, c⟩ := He.ba c
  obtain ⟨c8, c⟩ := He.ba c
  obtain ⟨c9, c⟩ := He.ba c
  obtain ⟨c10, c⟩ := He.ba c
  obtain ⟨c11, c⟩ := He.ba c
  obtain ⟨c12, c⟩ := He.ba c
  obtain ⟨c13, c⟩ := He.ba c
  obtain ⟨c14, c⟩ := He.ba c
  obtain ⟨c15, c⟩ := He.ba c
  unfold cellB at c
  unfold iniW at e
  cases q : K.lookup (He.ma K (He.ga K d.x) "__init__") with
  | none =>
    rw [q] at c
    cases c
  | some o =>
    obtain ⟨oc, od, dt, osl⟩ := o
    rw [q] at c e
    cases dt with
    | func fd =>
      obtain ⟨n1, n2, n3, n4, n5, n6, n7, n8, n9, n10, n11, n12, n13, n14, n15⟩ := fd
      have e2 : (some (n1, n2, n3, n4, n5, n6, n7.map (·.1), n15, n8) : IniW) = d.val := e
      unfold ExD.val at e2
      simp only [Option.some.injEq, Prod.mk.injEq] at e2
      obtain ⟨h1, h2, h3, h4, h5, h6, h7, h8, h9⟩ := e2
      subst h1 h2 h3 h4 h5 h6 h8 h9
      cases n13 with
      | ref cda =>
        cases n7 with
        | nil => exact absurd (congrArg List.length h7) (by simp)
        | cons u r =>
          cases r with
          | cons u2 r2 => exact absurd (congrArg List.length h7) (by simp)
          | nil =>
            obtain ⟨u, cc⟩ := u
            have hu : u = ("__class__" : Str) := by
              have e9 : [u] = [("__class__" : Str)] := h7
              injection e9
            subst hu
            have c' : (codeIn K (.ref cda) d.qual && ((match K.lookup cda with
              | some ⟨_, _, .fields vs, _⟩ => (match (vs[2]? : Option Value) with
                | some (.str fl _) => (P.main.file == fl)
                | _ => false)
              | _ => false) && (match K.lookup cc with
              | some ⟨_, _, .cell (some (.ref a)), _⟩ => decide (a = He.ga K d.x)
              | _ => false))) = true := c
            obtain ⟨k1, k⟩ := He.ba c'
            obtain ⟨k2, k3⟩ := He.ba k
            refine ⟨He.ma K (He.ga K d.x) "__init__", cda, cc, { toXBase := base_ok X G F c1, init := c2, over := c3, kxs := Kx, store := S, subB := of_decide_eq_true c4, sa := He.eqO_ok c5, ga := He.eqO_ok c6, gg := He.eqO_ok c7, noN := He.eqO_ok c8, iC := He.eqO_ok c9, tI := of_decide_eq_true c10, hdC := c11, op := He.eqO_ok c12, sup := He.eqO_ok c13, subC := of_decide_eq_true c14, nsuper := He.eqO_ok c15, fn := ?_, code := ?_, cell := ?_, top := ht, fne := hf }⟩
            · exact ⟨oc, od, _, n9, n10, n11, n12, n14, osl, d.p1, d.p2, d.a1, d.a2, d.a3, d.a4, d.a5, d.a6, d.b1, d.b2, d.b3, d.b4, d.qual, q, k1, hl, fun x v => hb n9 n10 n11 n12 _ n14 cc x v⟩
            · cases q2 : K.lookup cda with
              | none =>
                rw [q2] at k2
                cases k2
              | some o =>
                obtain ⟨ccl, cdd, dt, ccs⟩ := o
                rw [q2] at k2
                cases dt with
                | fields vs =>
                  have k2' : (match (vs[2]? : Option Value) with
                    | some (.str fl _) => (P.main.file == fl)
                    | _ => false) = true := k2
                  cases q3 : vs[2]? with
                  | none =>
                    rw [q3] at k2'
                    cases k2'
                  | some w =>
                    rw [q3] at k2'
                    cases w with
                    | str fl t => exact ⟨ccl, cdd, vs, ccs, fl, t, rfl, q3, k2'⟩
                    | _ => cases k2'
                | _ => cases k2
            · cases q2 : K.lookup cc with
              | none =>
                rw [q2] at k3
                cases k3
              | some o =>
                obtain ⟨ccl, cdd, dt, ccs⟩ := o
                rw [q2] at k3
                cases dt with
                | cell v =>
                  cases v with
                  | none => cases k3
                  | some v =>
                    cases v with
                    | ref a =>
                      have : a = He.ga K d.x := of_decide_eq_true k3
                      subst this
                      exact ⟨ccl, cdd, ccs, rfl⟩
                    | _ => cases k3
                | _ => cases k3
      | _ => cases c
    | _ => cases c
end
/-! ### the Hook -/
abbrev AlS : Type := He.AlD × (Bool × List IniW)
def obsS (n : Nat) (fa : List He.Fa) (fn : List He.DefD) (xs : List ExD) (ps : List PlD) (file : Str) (g : Addr → Option Obj) : AlS :=
  (He.obsD fa fn (He.frG g (asS g n)), (xs.all (fun d => d.ok file (He.frG g (asS g n))) && ps.all (fun d => d.ok (He.frG g (asS g n))), xs.map fun d => iniW (He.frG g (asS g n)) d.x))
def valS (fn : List He.DefD) (xs : List ExD) : AlS := (He.valD fn, (true, xs.map ExD.val))
structure SaysS (fa : List He.Fa) (fn : List He.DefD) (xs : List ExD) (ps : List PlD) (file : Str) (K : Frag) : Prop where
  d : He.SaysD fa fn K
  x : ∀ e ∈ xs, e.ok file K = true ∧ iniW K e.x = e.val
  p : ∀ e ∈ ps, e.ok K = true
theorem map_all {α β : Type} {f g : α → β} : ∀ {l : List α}, l.map f = l.map g → ∀ a ∈ l, f a = g a
  | [], _, a, h => nomatch h
  | b :: r, e, a, h => by
    rw [List.map_cons, List.map_cons] at e
    injection e with e1 e2
    rcases List.mem_cons.mp h with rfl | h
    · exact e1
    · exact map_all e2 a h
theorem says_of {n : Nat} {fa : List He.Fa} {fn : List He.DefD} {xs : List ExD} {ps : List PlD} {file : Str} {g : Addr → Option Obj} (e : obsS n fa fn xs ps file g = valS fn xs) : SaysS fa fn xs ps file (He.frG g (asS g n)) := by
  have e1 : He.obsD fa fn (He.frG g (asS g n)) = He.valD fn := congrArg (fun z : AlS => z.1) e
  have e2 : (xs.all (fun d => d.ok file (He.frG g (asS g n))) && ps.all (fun d => d.ok (He.frG g (asS g n)))) = true := congrArg (fun z : AlS => z.2.1) e
  have e3 : (xs.map fun d => iniW (He.frG g (asS g n)) d.x) = xs.map ExD.val := congrArg (fun z : AlS => z.2.2) e
  obtain ⟨k1, k2⟩ := He.ba e2
  exact ⟨e1, fun d hd => ⟨List.all_eq_true.mp k1 d hd, map_all e3 d hd⟩, fun d hd => List.all_eq_true.mp k2 d hd⟩
def hookS (n : Nat) (fa : List He.Fa) (fn : List He.DefD) (xs : List ExD) (ps : List PlD) (file : Str) : PySem.W.Hook where
  α := AlS
  obs := fun s => obsS n fa fn xs ps file s.heap.get?
  val := fun _ => valS fn xs
  says := fun _ h => ∃ K : PySem.W.Frag, K.In h ∧ SaysS fa fn xs ps file K
  of := fun _ _ e => ⟨_, He.frG_in, says_of e⟩
  keeps := fun _ _ _ ⟨K, hK, c⟩ k => ⟨K, PySem.W.Frag.In.keeps hK k, c⟩
theorem obsS_eq {n : Nat} {fa : List He.Fa} {fn : List He.DefD} {xs : List ExD} {ps : List PlD} {file : Str} {g : Addr → Option Obj} {s : Shared} (h : ∀ a, g a = s.heap.get? a) : obsS n fa fn xs ps file g = (hookS n fa fn xs ps file).obs s := by
  have e : g = s.heap.get? := funext h
  rw [e] <;> rfl
end Sm
set_option maxHeartbeats 0
namespace K01
open PySem PySem.Spec PyProof.Rows L2
def t_is_whole : He.DefD := ⟨("is_whole", none), "is_whole", "is_whole", defArgs s_is_whole, defBody s_is_whole, defScope s_is_whole, [], []⟩
def t_greatest_divisor : He.DefD := ⟨("greatest_divisor", none), "greatest_divisor", "greatest_divisor", defArgs s_greatest_divisor, defBody s_greatest_divisor, defScope s_greatest_divisor, [], []⟩
def t_lowest : He.DefD := ⟨("lowest", none), "lowest", "lowest", defArgs s_lowest, defBody s_lowest, defScope s_lowest, [], []⟩
def t_is_worth : He.DefD := ⟨("is_worth", none), "is_worth", "is_worth", defArgs s_is_worth, defBody s_is_worth, defScope s_is_worth, [], []⟩
def t_is_long_worth : He.DefD := ⟨("is_long_worth", none), "is_long_worth", "is_long_worth", defArgs s_is_long_worth, defBody s_is_long_worth, defScope s_is_long_worth, [], []⟩
def t_require_worth : He.DefD := ⟨("require_worth", none), "require_worth", "require_worth", defArgs s_require_worth, defBody s_require_worth, defScope s_require_worth, [], []⟩
def t_require_operand : He.DefD := ⟨("require_operand", none), "require_operand", "require_operand", defArgs s_require_operand, defBody s_require_operand, defScope s_require_operand, [], []⟩
def t_sum_in : He.DefD := ⟨("sum_in", none), "sum_in", "sum_in", defArgs s_sum_in, defBody s_sum_in, defScope s_sum_in, [], []⟩
def t_plus : He.DefD := ⟨("plus", none), "plus", "plus", defArgs s_plus, defBody s_plus, defScope s_plus, [], []⟩
def t_worth_words : He.DefD := ⟨("worth_words", none), "worth_words", "worth_words", defArgs s_worth_words, defBody s_worth_words, defScope s_worth_words, [], []⟩
def t_worth_text : He.DefD := ⟨("worth_text", none), "worth_text", "worth_text", defArgs s_worth_text, defBody s_worth_text, defScope s_worth_text, [], []⟩
def t_digits_end : He.DefD := ⟨("digits_end", none), "digits_end", "digits_end", defArgs s_digits_end, defBody s_digits_end, defScope s_digits_end, [], []⟩
def t_number_at : He.DefD := ⟨("number_at", none), "number_at", "number_at", defArgs s_number_at, defBody s_number_at, defScope s_number_at, [], []⟩
def t_nothing_end : He.DefD := ⟨("nothing_end", none), "nothing_end", "nothing_end", defArgs s_nothing_end, defBody s_nothing_end, defScope s_nothing_end, [], []⟩
def t_read_worth : He.DefD := ⟨("read_worth", none), "read_worth", "read_worth", defArgs s_read_worth, defBody s_read_worth, defScope s_read_worth, [], []⟩
def t__law_dice : He.DefD := ⟨("_law_dice", none), "_law_dice", "_law_dice", defArgs s__law_dice, defBody s__law_dice, defScope s__law_dice, [], []⟩
def t__law_roll : He.DefD := ⟨("_law_roll", none), "_law_roll", "_law_roll", defArgs s__law_roll, defBody s__law_roll, defScope s__law_roll, [], []⟩
def t__law_one_of : He.DefD := ⟨("_law_one_of", none), "_law_one_of", "_law_one_of", defArgs s__law_one_of, defBody s__law_one_of, defScope s__law_one_of, [], []⟩
def t__law_lowest : He.DefD := ⟨("_law_lowest", none), "_law_lowest", "_law_lowest", defArgs s__law_lowest, defBody s__law_lowest, defScope s__law_lowest, [], []⟩
def t__law_integer : He.DefD := ⟨("_law_integer", none), "_law_integer", "_law_integer", defArgs s__law_integer, defBody s__law_integer, defScope s__law_integer, [], []⟩
def t__law_written : He.DefD := ⟨("_law_written", none), "_law_written", "_law_written", defArgs s__law_written, defBody s__law_written, defScope s__law_written, [], []⟩
def t__law_is_row : He.DefD := ⟨("_law_is_row", none), "_law_is_row", "_law_is_row", defArgs s__law_is_row, defBody s__law_is_row, defScope s__law_is_row, [], []⟩
def t__law_can_begin : He.DefD := ⟨("_law_can_begin", none), "_law_can_begin", "_law_can_begin", defArgs s__law_can_begin, defBody s__law_can_begin, defScope s__law_can_begin, [], []⟩
def t__law_due : He.DefD := ⟨("_law_due", none), "_law_due", "_law_due", defArgs s__law_due, defBody s__law_due, defScope s__law_due, [], []⟩
def t__law_told : He.DefD := ⟨("_law_told", none), "_law_told", "_law_told", defArgs s__law_told, defBody s__law_told, defScope s__law_told, [], []⟩
def t__law_spoilt : He.DefD := ⟨("_law_spoilt", none), "_law_spoilt", "_law_spoilt", defArgs s__law_spoilt, defBody s__law_spoilt, defScope s__law_spoilt, [], []⟩
def t__law_text : He.DefD := ⟨("_law_text", none), "_law_text", "_law_text", defArgs s__law_text, defBody s__law_text, defScope s__law_text, [], []⟩
def t__law_right : He.DefD := ⟨("_law_right", none), "_law_right", "_law_right", defArgs s__law_right, defBody s__law_right, defScope s__law_right, [], []⟩
def t_law : He.DefD := ⟨("law", none), "law", "law", defArgs s_law, defBody s_law, defScope s_law, [], []⟩
def e_InvalidWorth : Sm.PlD := ⟨"InvalidWorth", "ValueError", "ValueError.__new__", "ValueError.__init__", [.type "ValueError", .type "Exception", .type "BaseException", .type "object"]⟩
def e_ParseError : Sm.ExD := ⟨"ParseError", "spot", "ParseError.__init__", ⟨8, 17, 8, 21⟩, ⟨8, 23, 8, 27⟩, ⟨9, 8, 9, 13⟩, ⟨9, 8, 9, 15⟩, ⟨9, 8, 9, 24⟩, ⟨9, 25, 9, 29⟩, ⟨9, 8, 9, 30⟩, ⟨9, 8, 9, 30⟩, ⟨10, 8, 10, 12⟩, ⟨10, 8, 10, 17⟩, ⟨10, 20, 10, 24⟩, ⟨10, 8, 10, 24⟩, "ValueError", "ValueError.__new__", "ValueError.__init__", [.type "ValueError", .type "Exception", .type "BaseException", .type "object"]⟩
def fn : List He.DefD := [t_is_whole, t_greatest_divisor, t_lowest, t_is_worth, t_is_long_worth, t_require_worth, t_require_operand, t_sum_in, t_plus, t_worth_words, t_worth_text, t_digits_end, t_number_at, t_nothing_end, t_read_worth, t__law_dice, t__law_roll, t__law_one_of, t__law_lowest, t__law_integer, t__law_written, t__law_is_row, t__law_can_begin, t__law_due, t__law_told, t__law_spoilt, t__law_text, t__law_right, t_law]
def fa : List He.Fa := [.free "abs", .free "bool", .free "enumerate", .free "int", .free "isinstance", .free "len", .free "list", .free "max", .free "min", .free "range", .free "str", .free "tuple", .int "BEYOND_WORTHS" (BW), .str "DIGITS" "0123456789", .int "MOST_PASSED" (60), .str "NOTHING" "nothing", .exm "ParseError" "ParseError" true, .exm "InvalidWorth" "InvalidWorth" true, .glo "is_whole", .glo "greatest_divisor", .glo "lowest", .glo "is_worth", .glo "is_long_worth", .glo "require_worth", .glo "require_operand", .glo "sum_in", .glo "plus", .glo "worth_words", .glo "worth_text", .glo "digits_end", .glo "number_at", .glo "nothing_end", .glo "read_worth", .glo "_law_dice", .glo "_law_roll", .glo "_law_one_of", .glo "_law_lowest", .glo "_law_integer", .glo "_law_written", .glo "_law_is_row", .glo "_law_can_begin", .glo "_law_due", .glo "_law_told", .glo "_law_spoilt", .glo "_law_text", .glo "_law_right", .glo "law"]
def xs : List Sm.ExD := [e_ParseError]
def ps : List Sm.PlD := [e_InvalidWorth]
abbrev R : PySem.W.OpenRow := PySem.W.OpenLaw.row PySem.Challenge.rw_sumstead_k01_whole_texts_of_worths
abbrev prog : Program := PySem.Challenge.pw_sumstead_k01_whole_texts_of_worths
abbrev hk : PySem.W.Hook := Sm.hookS 6 fa fn xs ps prog.main.file
def ob (s : PySem.W.SharedT) : Sm.AlS := Sm.obsS 6 fa fn xs ps prog.main.file (HandSHeadRun.getT s)
theorem ob_eq (s : PySem.W.SharedT) : ob s = hk.obs s.abs := Sm.obsS_eq (HandSHeadRun.getT_eq s)
def loose : List Str := (["__name__", "CubeError", "InvalidWorth", "ParseError", "BEYOND_WORTHS", "MOST_PASSED", "DIGITS", "NOTHING", "is_whole", "greatest_divisor", "lowest", "is_worth", "is_long_worth", "require_worth", "require_operand", "sum_in", "plus", "worth_words", "worth_text", "digits_end", "number_at", "nothing_end", "read_worth", "_law_dice", "_law_roll", "_law_one_of", "_law_lowest", "_law_integer", "_law_written", "_law_is_row"] : List Str) ++ (["_law_can_begin", "_law_due", "_law_told", "_law_spoilt", "_law_text", "_law_right"] : List Str)
theorem glue {α β γ δ : Type} {o : Option α} {f : α → β} {g : α → γ} {h : α → δ} {x : β} {y : γ} {z : δ} (a : o.map f = some x) (b : o.map g = some y) (c : o.map h = some z) : o.map (fun s => (f s, g s, h s)) = some (x, y, z) := by
  cases o with
  | none => cases a
  | some s =>
    have a' : f s = x := Option.some.inj a
    have b' : g s = y := Option.some.inj b
    have c' : h s = z := Option.some.inj c
    rw [← a', ← b', ← c']
    rfl
open PySem.W in
theorem runA (w : World) (os : OsState) : (HandSHeadRun.endF (HandSHeadRun.stepQ (HandSHeadRun.denQ HandSHeadRun.tabQ) R.prog w) 4000 R.prog w os).map (fun s => HandSHeadRun.looksF R.prog (boot_heap w.params) s.abs) = some true := by kernel_rfl
open PySem.W in
theorem runB (w : World) (os : OsState) : (HandSHeadRun.endF (HandSHeadRun.stepQ (HandSHeadRun.denQ HandSHeadRun.tabQ) R.prog w) 4000 R.prog w os).map (fun s => HandSHeadRun.seenQ (PySem.W.view R.prog [38]) loose (importedModules R.prog.main.body) (fun s => xlAt (PySem.W.view R.prog [38]) [] s && recOk R.toRowW.records s) s.abs) = some (openGood (PySem.W.view R.prog [38]) loose) := by kernel_rfl
theorem runC (w : World) (os : OsState) : (HandSHeadRun.endF (HandSHeadRun.stepQ (HandSHeadRun.denQ HandSHeadRun.tabQ) R.prog w) 4000 R.prog w os).map ob = some (Sm.valS fn xs) := by kernel_rfl
theorem run (w : World) : HandSHeadRun.RunEq R (PySem.W.view R.prog [38]) hk ob 4000 loose w := fun os => glue (runA w os) (runB w os) (runC w os)
section
variable {K : PySem.W.Frag} {h : Heap} {mg : Str → Option Value}
theorem txt_ok (X : K.In h) (G : h.Ns mainGlobals mg) (c : Sm.SaysS fa fn xs ps prog.main.file K) : Txt prog K mg where
  f_abs := He.free_ok X G (c.d.fact 0 (f := .free "abs") rfl)
  f_bool := He.free_ok X G (c.d.fact 1 (f := .free "bool") rfl)
  f_enumerate := He.free_ok X G (c.d.fact 2 (f := .free "enumerate") rfl)
  f_int := He.free_ok X G (c.d.fact 3 (f := .free "int") rfl)
  f_isinstance := He.free_ok X G (c.d.fact 4 (f := .free "isinstance") rfl)
  f_len := He.free_ok X G (c.d.fact 5 (f := .free "len") rfl)
  f_list := He.free_ok X G (c.d.fact 6 (f := .free "list") rfl)
  f_max := He.free_ok X G (c.d.fact 7 (f := .free "max") rfl)
  f_min := He.free_ok X G (c.d.fact 8 (f := .free "min") rfl)
  f_range := He.free_ok X G (c.d.fact 9 (f := .free "range") rfl)
  f_str := He.free_ok X G (c.d.fact 10 (f := .free "str") rfl)
  f_tuple := He.free_ok X G (c.d.fact 11 (f := .free "tuple") rfl)
  c_BEYOND_WORTHS := He.int_ok X G (c.d.fact 12 (f := .int "BEYOND_WORTHS" (BW)) rfl)
  c_DIGITS := He.str_ok X G (c.d.fact 13 (f := .str "DIGITS" "0123456789") rfl)
  c_MOST_PASSED := He.int_ok X G (c.d.fact 14 (f := .int "MOST_PASSED" (60)) rfl)
  c_NOTHING := He.str_ok X G (c.d.fact 15 (f := .str "NOTHING" "nothing") rfl)
  x_InvalidWorth := Sm.pl_ok (d := e_InvalidWorth) X G PySem.F.excBase_ValueError (c.p _ (List.mem_of_getElem? (i := 0) rfl))
  x_ParseError := Sm.xs_ok (d := e_ParseError) X G PySem.F.excBase_ValueError PySem.W.kxs_ValueError PySem.F.store_ValueError rfl (fun _ _ _ _ _ _ _ _ _ => rfl) (by kernel_rfl) ⟨by decide, by decide, by decide, by decide⟩ (c.x _ (List.mem_of_getElem? (i := 0) rfl)).2 (c.x _ (List.mem_of_getElem? (i := 0) rfl)).1
  m_ParseError := He.exm_ok (c.d.fact 16 (f := .exm "ParseError" "ParseError" true) rfl)
  m_InvalidWorth := He.exm_ok (c.d.fact 17 (f := .exm "InvalidWorth" "InvalidWorth" true) rfl)
theorem law_ok {w : World} (X : K.In h) (G : h.Ns mainGlobals mg) (c : Sm.SaysS fa fn xs ps prog.main.file K) : ∃ fd, FD K "law" s_law (He.ga K "law") fd ∧ ∀ base, FnOk prog w K mg base (L2.CX prog w) 8 (He.ga K "law") fd P_law (sp_law K) := by
  have T := txt_ok X G c
  obtain ⟨fd_is_whole, F_is_whole⟩ := c.d.def_ 0 (d := t_is_whole) rfl
  obtain ⟨fd_greatest_divisor, F_greatest_divisor⟩ := c.d.def_ 1 (d := t_greatest_divisor) rfl
  obtain ⟨fd_lowest, F_lowest⟩ := c.d.def_ 2 (d := t_lowest) rfl
  obtain ⟨fd_is_worth, F_is_worth⟩ := c.d.def_ 3 (d := t_is_worth) rfl
  obtain ⟨fd_is_long_worth, F_is_long_worth⟩ := c.d.def_ 4 (d := t_is_long_worth) rfl
  obtain ⟨fd_require_worth, F_require_worth⟩ := c.d.def_ 5 (d := t_require_worth) rfl
  obtain ⟨fd_require_operand, F_require_operand⟩ := c.d.def_ 6 (d := t_require_operand) rfl
  obtain ⟨fd_sum_in, F_sum_in⟩ := c.d.def_ 7 (d := t_sum_in) rfl
  obtain ⟨fd_plus, F_plus⟩ := c.d.def_ 8 (d := t_plus) rfl
  obtain ⟨fd_worth_words, F_worth_words⟩ := c.d.def_ 9 (d := t_worth_words) rfl
  obtain ⟨fd_worth_text, F_worth_text⟩ := c.d.def_ 10 (d := t_worth_text) rfl
  obtain ⟨fd_digits_end, F_digits_end⟩ := c.d.def_ 11 (d := t_digits_end) rfl
  obtain ⟨fd_number_at, F_number_at⟩ := c.d.def_ 12 (d := t_number_at) rfl
  obtain ⟨fd_nothing_end, F_nothing_end⟩ := c.d.def_ 13 (d := t_nothing_end) rfl
  obtain ⟨fd_read_worth, F_read_worth⟩ := c.d.def_ 14 (d := t_read_worth) rfl
  obtain ⟨fd__law_dice, F__law_dice⟩ := c.d.def_ 15 (d := t__law_dice) rfl
  obtain ⟨fd__law_roll, F__law_roll⟩ := c.d.def_ 16 (d := t__law_roll) rfl
  obtain ⟨fd__law_one_of, F__law_one_of⟩ := c.d.def_ 17 (d := t__law_one_of) rfl
  obtain ⟨fd__law_lowest, F__law_lowest⟩ := c.d.def_ 18 (d := t__law_lowest) rfl
  obtain ⟨fd__law_integer, F__law_integer⟩ := c.d.def_ 19 (d := t__law_integer) rfl
  obtain ⟨fd__law_written, F__law_written⟩ := c.d.def_ 20 (d := t__law_written) rfl
  obtain ⟨fd__law_is_row, F__law_is_row⟩ := c.d.def_ 21 (d := t__law_is_row) rfl
  obtain ⟨fd__law_can_begin, F__law_can_begin⟩ := c.d.def_ 22 (d := t__law_can_begin) rfl
  obtain ⟨fd__law_due, F__law_due⟩ := c.d.def_ 23 (d := t__law_due) rfl
  obtain ⟨fd__law_told, F__law_told⟩ := c.d.def_ 24 (d := t__law_told) rfl
  obtain ⟨fd__law_spoilt, F__law_spoilt⟩ := c.d.def_ 25 (d := t__law_spoilt) rfl
  obtain ⟨fd__law_text, F__law_text⟩ := c.d.def_ 26 (d := t__law_text) rfl
  obtain ⟨fd__law_right, F__law_right⟩ := c.d.def_ 27 (d := t__law_right) rfl
  obtain ⟨fd_law, F_law⟩ := c.d.def_ 28 (d := t_law) rfl
  have G_is_whole : ∀ base, Sm.Fn prog w K mg base 1 "is_whole" P_is_whole (sp_is_whole K) := fun base => ⟨_, fd_is_whole, ok_is_whole T F_is_whole , He.glo_ok X G (c.d.fact 18 (f := .glo "is_whole") rfl), F_is_whole.kp, FunD.bindsN F_is_whole fun _ _ _ _ _ _ us hl => match us, hl with | [_], _ => rfl⟩
  have G_greatest_divisor : ∀ base, Sm.Fn prog w K mg base 1 "greatest_divisor" P_greatest_divisor (sp_greatest_divisor K) := fun base => ⟨_, fd_greatest_divisor, ok_greatest_divisor T F_greatest_divisor , He.glo_ok X G (c.d.fact 19 (f := .glo "greatest_divisor") rfl), F_greatest_divisor.kp, FunD.bindsN F_greatest_divisor fun _ _ _ _ _ _ us hl => match us, hl with | [_, _], _ => rfl⟩
  have G_worth_words : ∀ base, Sm.Fn prog w K mg base 1 "worth_words" P_worth_words (sp_worth_words K) := fun base => ⟨_, fd_worth_words, ok_worth_words T F_worth_words , He.glo_ok X G (c.d.fact 27 (f := .glo "worth_words") rfl), F_worth_words.kp, FunD.bindsN F_worth_words fun _ _ _ _ _ _ us hl => match us, hl with | [_], _ => rfl⟩
  have G_digits_end : ∀ base, Sm.Fn prog w K mg base 1 "digits_end" P_digits_end (sp_digits_end K) := fun base => ⟨_, fd_digits_end, ok_digits_end T F_digits_end , He.glo_ok X G (c.d.fact 29 (f := .glo "digits_end") rfl), F_digits_end.kp, FunD.bindsN F_digits_end fun _ _ _ _ _ _ us hl => match us, hl with | [_, _, _], _ => rfl⟩
  have G_nothing_end : ∀ base, Sm.Fn prog w K mg base 1 "nothing_end" P_nothing_end (sp_nothing_end K) := fun base => ⟨_, fd_nothing_end, ok_nothing_end T F_nothing_end , He.glo_ok X G (c.d.fact 31 (f := .glo "nothing_end") rfl), F_nothing_end.kp, FunD.bindsN F_nothing_end fun _ _ _ _ _ _ us hl => match us, hl with | [_], _ => rfl⟩
  have G__law_dice : ∀ base, Sm.Fn prog w K mg base 1 "_law_dice" P__law_dice (sp__law_dice K) := fun base => ⟨_, fd__law_dice, ok__law_dice T F__law_dice , He.glo_ok X G (c.d.fact 33 (f := .glo "_law_dice") rfl), F__law_dice.kp, FunD.bindsN F__law_dice fun _ _ _ _ _ _ us hl => match us, hl with | [_, _], _ => rfl⟩
  have G__law_roll : ∀ base, Sm.Fn prog w K mg base 1 "_law_roll" P__law_roll (sp__law_roll K) := fun base => ⟨_, fd__law_roll, ok__law_roll T F__law_roll , He.glo_ok X G (c.d.fact 34 (f := .glo "_law_roll") rfl), F__law_roll.kp, FunD.bindsN F__law_roll fun _ _ _ _ _ _ us hl => match us, hl with | [_, _], _ => rfl⟩
  have G__law_lowest : ∀ base, Sm.Fn prog w K mg base 1 "_law_lowest" P__law_lowest (sp__law_lowest K) := fun base => ⟨_, fd__law_lowest, ok__law_lowest T F__law_lowest , He.glo_ok X G (c.d.fact 36 (f := .glo "_law_lowest") rfl), F__law_lowest.kp, FunD.bindsN F__law_lowest fun _ _ _ _ _ _ us hl => match us, hl with | [_, _], _ => rfl⟩
  have G__law_written : ∀ base, Sm.Fn prog w K mg base 1 "_law_written" P__law_written (sp__law_written K) := fun base => ⟨_, fd__law_written, ok__law_written T F__law_written , He.glo_ok X G (c.d.fact 38 (f := .glo "_law_written") rfl), F__law_written.kp, FunD.bindsN F__law_written fun _ _ _ _ _ _ us hl => match us, hl with | [_], _ => rfl⟩
  have G__law_is_row : ∀ base, Sm.Fn prog w K mg base 1 "_law_is_row" P__law_is_row (sp__law_is_row K) := fun base => ⟨_, fd__law_is_row, ok__law_is_row T F__law_is_row , He.glo_ok X G (c.d.fact 39 (f := .glo "_law_is_row") rfl), F__law_is_row.kp, FunD.bindsN F__law_is_row fun _ _ _ _ _ _ us hl => match us, hl with | [_], _ => rfl⟩
  have G_lowest : ∀ base, Sm.Fn prog w K mg base 2 "lowest" P_lowest (sp_lowest K) := fun base => ⟨_, fd_lowest, ok_lowest T F_lowest (G_greatest_divisor base), He.glo_ok X G (c.d.fact 20 (f := .glo "lowest") rfl), F_lowest.kp, FunD.bindsN F_lowest fun _ _ _ _ _ _ us hl => match us, hl with | [_, _], _ => rfl⟩
  have G_is_worth : ∀ base, Sm.Fn prog w K mg base 2 "is_worth" P_is_worth (sp_is_worth K) := fun base => ⟨_, fd_is_worth, ok_is_worth T F_is_worth (G_is_whole base) (G_greatest_divisor base), He.glo_ok X G (c.d.fact 21 (f := .glo "is_worth") rfl), F_is_worth.kp, FunD.bindsN F_is_worth fun _ _ _ _ _ _ us hl => match us, hl with | [_], _ => rfl⟩
  have G__law_one_of : ∀ base, Sm.Fn prog w K mg base 2 "_law_one_of" P__law_one_of (sp__law_one_of K) := fun base => ⟨_, fd__law_one_of, ok__law_one_of T F__law_one_of (G__law_roll base), He.glo_ok X G (c.d.fact 35 (f := .glo "_law_one_of") rfl), F__law_one_of.kp, FunD.bindsN F__law_one_of fun _ _ _ _ _ _ us hl => match us, hl with | [_, _], _ => rfl⟩
  have G__law_can_begin : ∀ base, Sm.Fn prog w K mg base 2 "_law_can_begin" P__law_can_begin (sp__law_can_begin K) := fun base => ⟨_, fd__law_can_begin, ok__law_can_begin T F__law_can_begin (G__law_is_row base), He.glo_ok X G (c.d.fact 40 (f := .glo "_law_can_begin") rfl), F__law_can_begin.kp, FunD.bindsN F__law_can_begin fun _ _ _ _ _ _ us hl => match us, hl with | [_], _ => rfl⟩
  have G_is_long_worth : ∀ base, Sm.Fn prog w K mg base 3 "is_long_worth" P_is_long_worth (sp_is_long_worth K) := fun base => ⟨_, fd_is_long_worth, ok_is_long_worth T F_is_long_worth (G_is_worth base), He.glo_ok X G (c.d.fact 22 (f := .glo "is_long_worth") rfl), F_is_long_worth.kp, FunD.bindsN F_is_long_worth fun _ _ _ _ _ _ us hl => match us, hl with | [_], _ => rfl⟩
  have G_sum_in : ∀ base, Sm.Fn prog w K mg base 3 "sum_in" P_sum_in (sp_sum_in K) := fun base => ⟨_, fd_sum_in, ok_sum_in T F_sum_in (G_lowest base), He.glo_ok X G (c.d.fact 25 (f := .glo "sum_in") rfl), F_sum_in.kp, FunD.bindsN F_sum_in fun _ _ _ _ _ _ us hl => match us, hl with | [_, _], _ => rfl⟩
  have G_number_at : ∀ base, Sm.Fn prog w K mg base 3 "number_at" P_number_at (sp_number_at K) := fun base => ⟨_, fd_number_at, ok_number_at T F_number_at (G_digits_end base) (G_lowest base), He.glo_ok X G (c.d.fact 30 (f := .glo "number_at") rfl), F_number_at.kp, FunD.bindsN F_number_at fun _ _ _ _ _ _ us hl => match us, hl with | [_, _], _ => rfl⟩
  have G__law_integer : ∀ base, Sm.Fn prog w K mg base 3 "_law_integer" P__law_integer (sp__law_integer K) := fun base => ⟨_, fd__law_integer, ok__law_integer T F__law_integer (G__law_roll base) (G__law_one_of base), He.glo_ok X G (c.d.fact 37 (f := .glo "_law_integer") rfl), F__law_integer.kp, FunD.bindsN F__law_integer fun _ _ _ _ _ _ us hl => match us, hl with | [_], _ => rfl⟩
  have G__law_due : ∀ base, Sm.Fn prog w K mg base 3 "_law_due" P__law_due (sp__law_due K) := fun base => ⟨_, fd__law_due, ok__law_due T F__law_due (G__law_lowest base) (G__law_can_begin base), He.glo_ok X G (c.d.fact 41 (f := .glo "_law_due") rfl), F__law_due.kp, FunD.bindsN F__law_due fun _ _ _ _ _ _ us hl => match us, hl with | [_], _ => rfl⟩
  have G__law_spoilt : ∀ base, Sm.Fn prog w K mg base 3 "_law_spoilt" P__law_spoilt (sp__law_spoilt K) := fun base => ⟨_, fd__law_spoilt, ok__law_spoilt T F__law_spoilt (G__law_roll base) (G__law_one_of base), He.glo_ok X G (c.d.fact 43 (f := .glo "_law_spoilt") rfl), F__law_spoilt.kp, FunD.bindsN F__law_spoilt fun _ _ _ _ _ _ us hl => match us, hl with | [_, _], _ => rfl⟩
  have G_require_worth : ∀ base, Sm.Fn prog w K mg base 4 "require_worth" P_require_worth (sp_require_worth K) := fun base => ⟨_, fd_require_worth, ok_require_worth T F_require_worth (G_is_long_worth base), He.glo_ok X G (c.d.fact 23 (f := .glo "require_worth") rfl), F_require_worth.kp, FunD.bindsN F_require_worth fun _ _ _ _ _ _ us hl => match us, hl with | [_], _ => rfl⟩
  have G_read_worth : ∀ base, Sm.Fn prog w K mg base 4 "read_worth" P_read_worth (sp_read_worth K) := fun base => ⟨_, fd_read_worth, ok_read_worth T F_read_worth (G_number_at base) (G_nothing_end base), He.glo_ok X G (c.d.fact 32 (f := .glo "read_worth") rfl), F_read_worth.kp, FunD.bindsN F_read_worth fun _ _ _ _ _ _ us hl => match us, hl with | [_], _ => rfl⟩
  have G__law_text : ∀ base, Sm.Fn prog w K mg base 4 "_law_text" P__law_text (sp__law_text K) := fun base => ⟨_, fd__law_text, ok__law_text T F__law_text (G__law_roll base) (G__law_integer base), He.glo_ok X G (c.d.fact 44 (f := .glo "_law_text") rfl), F__law_text.kp, FunD.bindsN F__law_text fun _ _ _ _ _ _ us hl => match us, hl with | [_], _ => rfl⟩
  have G_require_operand : ∀ base, Sm.Fn prog w K mg base 5 "require_operand" P_require_operand (sp_require_operand K) := fun base => ⟨_, fd_require_operand, ok_require_operand T F_require_operand (G_require_worth base), He.glo_ok X G (c.d.fact 24 (f := .glo "require_operand") rfl), F_require_operand.kp, FunD.bindsN F_require_operand fun _ _ _ _ _ _ us hl => match us, hl with | [_], _ => rfl⟩
  have G__law_told : ∀ base, Sm.Fn prog w K mg base 5 "_law_told" P__law_told (sp__law_told K) := fun base => ⟨_, fd__law_told, ok__law_told T F__law_told (G_read_worth base), He.glo_ok X G (c.d.fact 42 (f := .glo "_law_told") rfl), F__law_told.kp, FunD.bindsN F__law_told fun _ _ _ _ _ _ us hl => match us, hl with | [_], _ => rfl⟩
  have G_plus : ∀ base, Sm.Fn prog w K mg base 6 "plus" P_plus (sp_plus K) := fun base => ⟨_, fd_plus, ok_plus T F_plus (G_require_operand base) (G_sum_in base), He.glo_ok X G (c.d.fact 26 (f := .glo "plus") rfl), F_plus.kp, FunD.bindsN F_plus fun _ _ _ _ _ _ us hl => match us, hl with | [_, _], _ => rfl⟩
  have G_worth_text : ∀ base, Sm.Fn prog w K mg base 6 "worth_text" P_worth_text (sp_worth_text K) := fun base => ⟨_, fd_worth_text, ok_worth_text T F_worth_text (G_require_operand base) (G_worth_words base), He.glo_ok X G (c.d.fact 28 (f := .glo "worth_text") rfl), F_worth_text.kp, FunD.bindsN F_worth_text fun _ _ _ _ _ _ us hl => match us, hl with | [_], _ => rfl⟩
  have G__law_right : ∀ base, Sm.Fn prog w K mg base 7 "_law_right" P__law_right (sp__law_right K) := fun base => ⟨_, fd__law_right, ok__law_right T F__law_right (G__law_lowest base) (G__law_one_of base) (G_read_worth base) (G__law_text base) (G__law_told base) (G_worth_text base) (G__law_integer base) (G__law_written base) (G__law_roll base) (G__law_due base) (G__law_spoilt base) (G_plus base), He.glo_ok X G (c.d.fact 45 (f := .glo "_law_right") rfl), F__law_right.kp, FunD.bindsN F__law_right fun _ _ _ _ _ _ us hl => match us, hl with | [_], _ => rfl⟩
  exact ⟨fd_law, F_law, fun base => ok_law T F_law (G__law_right base) (G__law_dice base)⟩
end
end K01
open PySem PySem.W PySem.Calls PyProof.Rows
theorem PySem.Challenge.cw_sumstead_k01_whole_texts_of_worths_holds : PySem.Challenge.rw_sumstead_k01_whole_texts_of_worths.Holds := by
  w_on; o_law
  refine HandSHeadRun.head_any (r := OpenLaw.row PySem.Challenge.rw_sumstead_k01_whole_texts_of_worths) (q := view (OpenLaw.row PySem.Challenge.rw_sumstead_k01_whole_texts_of_worths).prog [38]) (H := K01.hk) (ob := K01.ob) (M := 4000) (loose := K01.loose) (d := HandSHeadRun.topDef (OpenLaw.row PySem.Challenge.rw_sumstead_k01_whole_texts_of_worths).prog 38) (kwd := []) K01.ob_eq
    (by kernel_rfl) (fun s => by kernel_rfl) K01.run (by kernel_rfl) (by kernel_rfl) (by kernel_rfl) (by rfl) (by first | assumption | decide +kernel) (by decide +kernel) ⟨rfl, rfl, rfl, rfl, rfl, by decide +kernel⟩ ?hw ?hc
  case hw => w_witness2
  case hc =>
    refine LamX.walk_ofTsE (l := PySem.Challenge.rw_sumstead_k01_whole_texts_of_worths) (n := 63) (k := 8) (x := "_law_script") (CX := fun w => L2.CX K01.prog w) rfl (by decide) (by kernel_rfl) ⟨rfl, by decide, by decide⟩ ?F (fun w H s e s' z => by
      obtain ⟨_, _, _, _, _, _, _, _, _, _, _, _, hf⟩ := z
      exact hf)
    intro w mg fa h Y G hmg0
    obtain ⟨K, X, c⟩ := Y
    have hmg : mg ("law" : PySem.Str) = some (.ref fa) := by
      have e : (HandSHeadRun.topDef (OpenLaw.row PySem.Challenge.rw_sumstead_k01_whole_texts_of_worths).prog 38).name = ("law" : PySem.Str) := by kernel_rfl
      rw [← e]
      exact hmg0
    obtain ⟨fd, F, hF⟩ := K01.law_ok (w := w) X G c
    have e := hmg.symm.trans (He.glo_ok X G (c.d.fact 46 (f := .glo "law") rfl))
    cases e
    have b := L2.FunD.bindsA (ps := ["_law_script"]) F fun _ _ _ _ _ _ us hl => match us, hl with | [_], _ => rfl
    exact ⟨K, X, fd, [], K01.sp_law K, fun p hp => absurd hp List.not_mem_nil, fun p hp => absurd hp List.not_mem_nil, fun p hp => absurd hp List.not_mem_nil, fun s v => b s [v] rfl, fun H a ns hl hb _ hS => ⟨a, ns, rfl, hS, hl, fun _ => rfl⟩, fun base _ _ _ => hF base⟩
