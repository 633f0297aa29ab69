import PyProof.Rows.All
import Wide.All
import OpenK.AllK
import Wide.FinOn
import PyProof.EqAt
import PyProof.EqKinds
import PyProof.TupleCall
import PyProof.CollectStr
import KE.KExcSuper
import HandS.ForMost
import HandS.Exc
import HandS.TryOnly
import HandS.ExcOwn
import HandS.WordsExc
import HandS.Defaults
import HandS.IsInst
import HandS.FStr
import HandS.Small
import HandS.Wide
import HandS.Walk
import HandS.Flow
import KE.IntTextLaws
import KE.KExcLine
import HandS.HeadWalk
import HandS.HeadHook4
import KE.GoesMore
import PyProof.Draws
import PyProof.EnumMake
import PyProof.ListStr
import HandS.TryMany
import HandS.Lambda
import PyProof.ReprRoads
import PyProof.CallFns
import HandS.Head0
import HandS.Head1
import HandS.Head2
import HandS.HeadEnd
import HandS.HeadHook1
import HandS.HeadHook2
import HandS.EndTab
import PySem.Challenge.RW_sumstead_k00_whole_worths_reckoned
set_option Elab.async false
set_option linter.all false
set_option maxRecDepth 100000
set_option maxHeartbeats 4000000
/-! Sm: further rules over the layer, and short steps. -/
namespace Sm
open PySem PySem.Spec PyProof.Rows L2
/-! ### wide operators -/
def CDivU (i j : Int) : Prop := j ≠ 0 ∧ Builtin.divisionGoesByPylong i j = false
def CPowU (i j : Int) : Prop := 0 ≤ j ∧ (Builtin.Int.intBits i : Int) * j ≤ 2 ^ 27
section
variable {X : Cx}
theorem op_fdivU : OpR X (binaryOp .FloorDiv) (rI CDivU fun i j => .int (i.fdiv j)) := opI fun i j _ _ _ _ _ hc q => floordiv_int hc.1 q (.inl hc.2)
theorem op_mulU : OpR X (binaryOp .Mult) (rI IntMulOk fun i j => .int (i * j)) := opI fun _ _ _ _ _ _ _ hc q => mul_int q hc
theorem op_powW : OpR X (binaryOp .Pow) (rI CPowU fun i j => .int (i ^ j.toNat)) := opI fun _ _ _ _ _ _ _ hc q => pow_int hc.1 hc.2 q
def rAddS : R2 := fun x y H Q => ∃ i j, x = .str i ∧ y = .str j ∧ i.length + j.length ≤ sizeLine ∧ Q (.str (i ++ j)) H
def rAddU : R2 := fun x y H Q => rI0 (fun i j => .int (i + j)) x y H Q ∨ rAddS x y H Q
theorem op_addU : OpR X (binaryOp .Add) rAddU := op_add.or op_add_str
def rEqU (K : PySem.W.Frag) : R2 := fun x y H Q => rEq x y H Q ∨ rEqD K x y H Q
def rNeU (K : PySem.W.Frag) : R2 := fun x y H Q => rNe x y H Q ∨ rNeD K x y H Q
theorem op_eqU {k : Nat} (hr : Room k X.A) : OpR X (compareOp .Eq) (rEqU X.K) := op_eq.or (op_eqD hr.units)
theorem op_neU {k : Nat} (hr : Room k X.A) : OpR X (compareOp .NotEq) (rNeU X.K) := op_ne.or (op_neD hr.units)
def rIsN : R2 := fun x y H Q => y = .non ∧ Q (.bl (decide (x = .non))) H
def rNotN : R2 := fun x y H Q => y = .non ∧ Q (.bl (!decide (x = .non))) H
theorem op_isU : OpR X (compareOp .Is) rIsN := op_isN
theorem op_nisU : OpR X (compareOp .IsNot) rNotN := op_notN
/-- one sign in a text | a flat thing in a list or tuple -/
def rInS : R2 := fun x y H Q => ∃ (c : Nat) (z : Str), x = .str ⟨#[c]⟩ ∧ y = .str z ∧ Q (.bl (decide (c ∈ z.cps.toList))) H
def rInU (K : PySem.W.Frag) : R2 := fun x y H Q => rInS x y H Q ∨ rIn K false x y H Q
theorem op_inU : OpR X (compareOp .In) (rInU X.K) := op_in_sign.or op_in_seq
def rNiS : R2 := fun x y H Q => ∃ (c : Nat) (z : Str), x = .str ⟨#[c]⟩ ∧ y = .str z ∧ Q (.bl (!decide (c ∈ z.cps.toList))) H
def rNiU (K : PySem.W.Frag) : R2 := fun x y H Q => rNiS x y H Q ∨ rIn K true x y H Q
theorem op_niU : OpR X (compareOp .NotIn) (rNiU X.K) := op_notIn_sign.or op_notIn_seq
def rSlU (K : PySem.W.Frag) : V → Option Int → Option Int → Hp → VK → Prop := fun x lo hi H Q => rSlS x lo hi H Q ∨ (rSlL K x lo hi H Q ∨ rSlT K x lo hi H Q)
theorem sl_U : SlR X (rSlU X.K) := sl_str.or (sl_list.or sl_tup)
def rLenU (K : PySem.W.Frag) : List V → Hp → VK → Prop := fun xs H Q => ∃ x n, xs = [x] ∧ LenV K x H n ∧ Q (.int n) H
theorem call_lenU : CallR X (.builtin "len") (rLenU X.K) := call_len
def rAbs : List V → Hp → VK → Prop := fun xs H Q => ∃ i, xs = [.int i] ∧ Q (.int (if i < 0 then -i else i)) H
theorem call_absU : CallR X (.builtin "abs") rAbs := call_abs
def rMin2 : List V → Hp → VK → Prop := fun xs H Q => ∃ i j, xs = [.int i, .int j] ∧ Q (.int (if j < i then j else i)) H
def rMax2 : List V → Hp → VK → Prop := fun xs H Q => ∃ i j, xs = [.int i, .int j] ∧ Q (.int (if j > i then j else i)) H
theorem call_minU (hc : X.calm = true) : CallR X (.builtin "min") rMin2 := call_min2 hc
theorem call_maxU (hc : X.calm = true) : CallR X (.builtin "max") rMax2 := call_max2 hc
def rIntN : List V → Hp → VK → Prop := fun xs H Q => (∃ i, xs = [.int i] ∧ Q (.int i) H) ∨ ∃ k, xs = [.bl k] ∧ Q (.int (if k then 1 else 0)) H
def rIntS : List V → Hp → VK → Prop := fun xs H Q => ∃ a n, xs = [.str a] ∧ PySem.intText? a = some n ∧ a.length ≤ 640 ∧ Q (.int n) H
def rIntU : List V → Hp → VK → Prop := fun xs H Q => rIntN xs H Q ∨ rIntS xs H Q
theorem call_intU : CallR X (.type "int") rIntU := call_int1.or call_int_str
def rStrI : List V → Hp → VK → Prop := fun xs H Q => ∃ i, xs = [.int i] ∧ i.natAbs.log2 < 1920 ∧ Q (.str (toString i)) H
theorem call_strU : CallR X (.type "str") rStrI := call_str_int
end
/-! ### a def of the text, as callers know it -/
structure Fn (P : Program) (w : World) (K : PySem.W.Frag) (mg : Str → Option Value) (base : Heap) (k : Nat) (x : Str) (ps : List Str) (sp : Sp) : Prop where
  ex : ∃ f fd, FnOk P w K mg base (L2.CX P w) k f fd ps sp ∧ mg x = some (.ref f) ∧ PySem.W.keepIn K (.ref f) = true ∧ Binds K fd ps []
section
variable {X : Cx} {k j : Nat} {x : Str} {ps : List Str} {sp : Sp} {p pos : Pos} {e : Expr} {es : List Expr} {t : TA} {E : XK}
/-- f(e, ..) that lets nothing out -/
theorem pe_fn (G : Fn X.prog X.w X.K X.mg X.base k x ps sp) (hr : Room j X.A) (ha : PA X (e :: es) t) (hk : k ≤ j := by decide) (hg : Gl X x := by rfl) (hdb : (x == ("__debug__" : Str)) = false := by decide)
    (he : starEach (e :: es) X.env = (false, eval e X.env) :: starEach es X.env := by rfl) (hpl : (backTo pos (starEach es X.env)).any (·.1) = false := by rfl) :
    PE X (.Call (.Name x p) (e :: es) [] pos) (tCall sp [] E0 t) := by
  obtain ⟨f, fd, F, m, kp, b⟩ := G.ex
  exact pe_call F (hr.mono hk) hg m kp b .nil passL ha hdb he hpl
/-- f(e, ..), what it lets out leaves this def, too -/
theorem pe_fnE (G : Fn X.prog X.w X.K X.mg X.base k x ps sp) (hr : Room j X.A) (ha : PA X (e :: es) t) (hx : Passes (L2.CX X.prog X.w) X E) (hk : k ≤ j := by decide) (hg : Gl X x := by rfl) (hdb : (x == ("__debug__" : Str)) = false := by decide)
    (he : starEach (e :: es) X.env = (false, eval e X.env) :: starEach es X.env := by rfl) (hpl : (backTo pos (starEach es X.env)).any (·.1) = false := by rfl) :
    PE X (.Call (.Name x p) (e :: es) [] pos) (tCall sp [] E t) := by
  obtain ⟨f, fd, F, m, kp, b⟩ := G.ex
  exact pe_call F (hr.mono hk) hg m kp b .nil hx ha hdb he hpl
/-- f(e, ..) within a try's body -/
theorem pe_fnS {W : WX} (G : Fn X.prog X.w X.K X.mg X.base k x ps sp) (hr : Room j X.A) (tk : Takes X W) (ha : PA X (e :: es) t) (hk : k ≤ j := by decide) (hg : Gl X x := by rfl) (hdb : (x == ("__debug__" : Str)) = false := by decide)
    (he : starEach (e :: es) X.env = (false, eval e X.env) :: starEach es X.env := by rfl) (hpl : (backTo pos (starEach es X.env)).any (·.1) = false := by rfl) :
    PE X (.Call (.Name x p) (e :: es) [] pos) (tCallS sp (WE W) t) := by
  obtain ⟨f, fd, F, m, kp, b⟩ := G.ex
  exact pe_callS F (hr.mono hk) hg m kp b (fun σ => passAt tk σ) ha hdb he hpl
theorem passE {E₁ : Value → Shared → Prop} (hs : X.stack = X.env :: X.outer) (hf : X.env.frame = some X.env.locals) (hex : X.ex = [])
    (hx : X.xe = fun e s' => wpAny (model X.prog X.w) X.A (leaving X.env e) (fun _ s'' => L2.CX X.prog X.w X.outer X.H_0 X.s_0 E e s'') E₁ s') : Passes (L2.CX X.prog X.w) X E :=
  passes_call (takes_of hs hf hex hx) fun _ _ _ _ h => h
/-- a name of the module that holds an int, a text -/
theorem pe_gi {i : Int} (hm : ∃ t, X.mg x = some (.int i t)) (hg : Gl X x := by rfl) (hdb : (x == ("__debug__" : Str)) = false := by decide) : PE X (.Name x pos) (tC (.int i)) := by
  obtain ⟨t, hm⟩ := hm
  exact pe_glob hg hm ⟨_, rfl⟩ hdb
theorem pe_gs {z : Str} (hm : ∃ t, X.mg x = some (.str z t)) (hg : Gl X x := by rfl) (hdb : (x == ("__debug__" : Str)) = false := by decide) : PE X (.Name x pos) (tC (.str z)) := by
  obtain ⟨t, hm⟩ := hm
  exact pe_glob hg hm ⟨_, rfl⟩ hdb
/-- a built-in class as a value -/
theorem pe_ty {n : String} (hm : X.mg x = none) (hv : bootBuiltins x = some (.type n)) (hg : Gl X x := by rfl) (hn : x ≠ "__name__" := by decide) (hdb : (x == ("__debug__" : Str)) = false := by decide) : PE X (.Name x pos) (tC (.ty n)) :=
  pe_bltn hg hm hv rfl hn hdb
end
/-! ### steps: what a reading asks, by its head -/
section
variable {K : PySem.W.Frag} {σ : L2.St} {H : Hp} {ta tb tc te tx : TE} {t u : TT} {x y z v : V} {r : R2} {Q : VK} {D : Ends} {tu tw tz : TS} {g : TG} {k : Nat} {l : TA} {T : V → Prop}
theorem g_var {i : Nat} (h : σ[i]? = some (some v)) (q : Q v H) : tVar i σ H Q := ⟨v, h, q⟩
theorem g_c (q : Q v H) : tC v σ H Q := q
theorem g_op (h : ta σ H fun x H1 => tb σ H1 fun y H2 => r x y H2 Q) : tOp r ta tb σ H Q := h
theorem g_un {r : V → Hp → VK → Prop} (h : ta σ H fun x H1 => r x H1 Q) : tUn r ta σ H Q := h
theorem g_I0 {f : Int → Int → V} {i j : Int} (q : Q (f i j) H) : rI0 f (.int i) (.int j) H Q := ⟨i, j, rfl, rfl, q⟩
theorem g_I {C : Int → Int → Prop} {f : Int → Int → V} {i j : Int} (hc : C i j) (q : Q (f i j) H) : rI C f (.int i) (.int j) H Q := ⟨i, j, rfl, rfl, hc, q⟩
theorem g_U {f : Int → V} {i : Int} (q : Q (f i) H) : rU f (.int i) H Q := ⟨i, rfl, q⟩
theorem g_addI {i j : Int} (q : Q (.int (i + j)) H) : rAddU (.int i) (.int j) H Q := .inl ⟨i, j, rfl, rfl, q⟩
theorem g_addS {i j : Str} (hl : i.length + j.length ≤ sizeLine) (q : Q (.str (i ++ j)) H) : rAddU (.str i) (.str j) H Q := .inr ⟨i, j, rfl, rfl, hl, q⟩
theorem g_isN (q : Q (.bl (decide (x = .non))) H) : rIsN x .non H Q := ⟨rfl, q⟩
theorem g_notN (q : Q (.bl (!decide (x = .non))) H) : rNotN x .non H Q := ⟨rfl, q⟩
theorem g_isN1 (q : Q (.bl true) H) : rIsN .non .non H Q := ⟨rfl, q⟩
theorem g_notN1 (q : Q (.bl false) H) : rNotN .non .non H Q := ⟨rfl, q⟩
theorem g_isNr {a : Addr} (q : Q (.bl false) H) : rIsN (.ref a) .non H Q := ⟨rfl, by rw [decide_eq_false (fun z => by cases z)]; exact q⟩
theorem g_notNr {a : Addr} (q : Q (.bl true) H) : rNotN (.ref a) .non H Q := ⟨rfl, by rw [decide_eq_false (fun z => by cases z)]; exact q⟩
theorem dI {i j : Int} : decide (V.int i = V.int j) = decide (i = j) := by
  by_cases h : i = j
  · rw [h, decide_eq_true rfl, decide_eq_true rfl]
  · rw [decide_eq_false h, decide_eq_false fun z => h (V.int.inj z)]
theorem dS {i j : Str} : decide (V.str i = V.str j) = decide (i = j) := by
  by_cases h : i = j
  · rw [h, decide_eq_true rfl, decide_eq_true rfl]
  · rw [decide_eq_false h, decide_eq_false fun z => h (V.str.inj z)]
theorem g_eqII {i j : Int} (q : Q (.bl (decide (i = j))) H) : rEqU K (.int i) (.int j) H Q := .inl ⟨rfl, by rw [dI]; exact q⟩
theorem g_neII {i j : Int} (q : Q (.bl (!decide (i = j))) H) : rNeU K (.int i) (.int j) H Q := .inl ⟨rfl, by rw [dI]; exact q⟩
theorem g_eqSS {i j : Str} (q : Q (.bl (decide (i = j))) H) : rEqU K (.str i) (.str j) H Q := .inl ⟨rfl, by rw [dS]; exact q⟩
theorem g_neSS {i j : Str} (q : Q (.bl (!decide (i = j))) H) : rNeU K (.str i) (.str j) H Q := .inl ⟨rfl, by rw [dS]; exact q⟩
theorem g_eqD {d e : PyData} (hd : Dp K H x d) (he : Dp K H y e) (sd : SeqAt.shaped d = true) (se : SeqAt.shaped e = true) (q : Q (.bl (PyData.eqv d e)) H) : rEqU K x y H Q := .inr ⟨d, e, hd, he, sd, se, q⟩
theorem g_neD {d e : PyData} (hd : Dp K H x d) (he : Dp K H y e) (sd : SeqAt.shaped d = true) (se : SeqAt.shaped e = true) (q : Q (.bl (!PyData.eqv d e)) H) : rNeU K x y H Q := .inr ⟨d, e, hd, he, sd, se, q⟩
theorem g_inS {c : Nat} {z : Str} (q : Q (.bl (decide (c ∈ z.cps.toList))) H) : rInU K (.str ⟨#[c]⟩) (.str z) H Q := .inl ⟨c, z, rfl, rfl, q⟩
theorem g_niS {c : Nat} {z : Str} (q : Q (.bl (!decide (c ∈ z.cps.toList))) H) : rNiU K (.str ⟨#[c]⟩) (.str z) H Q := .inl ⟨c, z, rfl, rfl, q⟩
theorem g_inT {p : Addr} {xs : List V} (h : SqT K H p xs) (hx : flatV x = true) (ha : xs.all flatV = true) (q : Q (.bl (inV x xs)) H) : rInU K x (.ref p) H Q := .inr ⟨p, xs, rfl, .inr h, hx, ha, q⟩
theorem g_inL {p : Addr} {xs : List V} (h : SqL K H p xs) (hx : flatV x = true) (ha : xs.all flatV = true) (q : Q (.bl (inV x xs)) H) : rInU K x (.ref p) H Q := .inr ⟨p, xs, rfl, .inl h, hx, ha, q⟩
theorem g_and (h : ta σ H fun x H1 => ∃ c, x = .bl c ∧ if c = true then tb σ H1 Q else Q (.bl false) H1) : tAndV ta tb σ H Q := h
theorem g_or (h : ta σ H fun x H1 => ∃ c, x = .bl c ∧ if c = true then Q (.bl true) H1 else tb σ H1 Q) : tOrV ta tb σ H Q := h
theorem g_not (h : ta σ H fun x H1 => ∃ c, x = .bl c ∧ Q (.bl (!c)) H1) : tNotV ta σ H Q := h
theorem g_if (h : t σ H fun c H1 => if c = true then ta σ H1 Q else tb σ H1 Q) : tIf t ta tb σ H Q := h
theorem g_bl {R : Bool → Prop} {c : Bool} (h : R c) : ∃ d, V.bl c = .bl d ∧ R d := ⟨c, rfl, h⟩
theorem g_cons {R : List V → Hp → Prop} (h : ta σ H fun x H1 => l σ H1 fun xs H2 => R (x :: xs) H2) : tCons ta l σ H R := h
theorem g_nil {R : List V → Hp → Prop} (h : R [] H) : tNil σ H R := h
theorem g_CB {r : List V → Hp → VK → Prop} (h : l σ H fun xs H1 => r xs H1 Q) : tCB r l σ H Q := h
theorem g_call {sp : Sp} {E : XK} (h : l σ H fun vs H1 => sp (vs ++ []) H1 Q E) : tCall sp [] E l σ H Q := h
theorem g_callS {sp : Sp} {E : L2.St → XK} (h : l σ H fun vs H1 => sp vs H1 Q (E σ)) : tCallS sp E l σ H Q := h
theorem g_tup (h : l σ H fun xs H1 => xs.length ≤ sizeLine ∧ ∀ p, H1 p = none → Q (.ref p) (upd H1 p (.tup xs))) : tTup l σ H Q := h
theorem g_seq (h : tu { D with nx := tw D } σ H) : tSeq tu tw D σ H := h
theorem g_asg (h : te σ H fun x H1 => g x σ H1 D.nx) : tAsg te g D σ H := h
theorem g_name {i : Nat} {R : L2.St → Hp → Prop} (q : R (σ.set i (some v)) H) : gName i v σ H R := q
theorem g_ret (h : te σ H D.rt) : tRet te D σ H := h
theorem g_ifS (h : t σ H fun b H1 => if b = true then tu D σ H1 else tw D σ H1) : tIfS t tu tw D σ H := h
theorem g_test {R : Bool → Hp → Prop} (h : te σ H fun x H' => ∃ k, x = .bl k ∧ R k H') : tTest te σ H R := h
theorem g_B {R : Bool → Hp → Prop} (h : te σ H fun x H' => ∃ k, x = .bl k ∧ R k H') : tB te σ H R := h
theorem g_tand {R : Bool → Hp → Prop} (h : t σ H fun b H1 => if b = true then u σ H1 R else R false H1) : tAnd t u σ H R := h
theorem g_tor {R : Bool → Hp → Prop} (h : t σ H fun b H1 => if b = true then R true H1 else u σ H1 R) : tOr t u σ H R := h
theorem g_next (h : D.nx σ H) : tNext D σ H := h
theorem g_drop (h : te σ H fun _ H1 => D.nx σ H1) : tDrop te D σ H := h
theorem g_retN (h : D.rt .non H) : tRetN D σ H := h
theorem g_lst (h : l σ H fun xs H1 => xs.length ≤ sizeLine ∧ ∀ p, H1 p = none → Q (.ref p) (upd H1 p (.lst xs))) : tLst l σ H Q := h
theorem g_par {i j : Nat} (h : l σ H fun vs H1 => ∃ v w, vs = [v, w] ∧ D.nx ((σ.set i (some v)).set j (some w)) H1) : tPar i j l D σ H := h
theorem g_par2 {R : V → V → Prop} (h : R x y) : ∃ v w, ([x, y] : List V) = [v, w] ∧ R v w := ⟨x, y, rfl, h⟩
theorem g_new {R : Addr → Prop} {n : Nat} (hn : n ≤ sizeLine) (h : ∀ p, R p) : n ≤ sizeLine ∧ ∀ p, R p := ⟨hn, h⟩
theorem g_aug {i : Nat} {f : Int → Int → Int} {a : Int} (h : σ[i]? = some (some (.int a))) (q : te σ H fun y H1 => ∃ b, y = .int b ∧ D.nx (σ.set i (some (.int (f a b)))) H1) : tAug i te (ipI f) D σ H :=
  ⟨.int a, h, by
    show te σ H fun y H1 => ∃ i' j, V.int a = .int i' ∧ y = .int j ∧ D.nx (σ.set i (some (.int (f i' j)))) H1
    have e : (fun (y : V) (H1 : Hp) => ∃ i' j, V.int a = .int i' ∧ y = .int j ∧ D.nx (σ.set i (some (.int (f i' j)))) H1) = fun y H1 => ∃ b, y = .int b ∧ D.nx (σ.set i (some (.int (f a b)))) H1 := by
      funext y H1
      refine propext ⟨fun ⟨i', j, e1, e2, q⟩ => ?_, fun ⟨b, e2, q⟩ => ⟨a, b, rfl, e2, q⟩⟩
      cases e1
      exact ⟨j, e2, q⟩
    rw [e]
    exact q⟩
theorem g_int {R : Int → Prop} {i : Int} (h : R i) : ∃ b, V.int i = .int b ∧ R b := ⟨i, rfl, h⟩
theorem g_str {R : Str → Prop} {i : Str} (h : R i) : ∃ b, V.str i = .str b ∧ R b := ⟨i, rfl, h⟩
theorem g_abs {i : Int} (q : Q (.int (i.natAbs : Nat)) H) : rAbs [.int i] H Q := ⟨i, rfl, by rw [show (if i < 0 then -i else i) = ((i.natAbs : Nat) : Int) by split <;> omega]; exact q⟩
theorem g_min {i j : Int} (q : Q (.int (if j < i then j else i)) H) : rMin2 [.int i, .int j] H Q := ⟨i, j, rfl, q⟩
theorem g_max {i j : Int} (q : Q (.int (if j > i then j else i)) H) : rMax2 [.int i, .int j] H Q := ⟨i, j, rfl, q⟩
theorem g_intI {i : Int} (q : Q (.int i) H) : rIntU [.int i] H Q := .inl (.inl ⟨i, rfl, q⟩)
theorem g_intB {b : Bool} (q : Q (.int (if b then 1 else 0)) H) : rIntU [.bl b] H Q := .inl (.inr ⟨b, rfl, q⟩)
theorem g_intS {z : Str} {n : Int} (h : PySem.intText? z = some n) (hl : z.length ≤ 640) (q : Q (.int n) H) : rIntU [.str z] H Q := .inr ⟨z, n, rfl, h, hl, q⟩
theorem g_strI {i : Int} (h : i.natAbs.log2 < 1920) (q : Q (.str (toString i)) H) : rStrI [.int i] H Q := ⟨i, rfl, h, q⟩
theorem g_lenS {z : Str} (h : z.length ≤ sizeLine) (q : Q (.int z.length) H) : rLenU K [.str z] H Q := ⟨_, _, rfl, ⟨h, rfl⟩, q⟩
theorem g_lenL {p : Addr} {xs : List V} (h : SqL K H p xs) (q : Q (.int xs.length) H) : rLenU K [.ref p] H Q := ⟨_, _, rfl, .inl ⟨xs, h, rfl⟩, q⟩
theorem g_lenT {p : Addr} {xs : List V} (h : SqT K H p xs) (q : Q (.int xs.length) H) : rLenU K [.ref p] H Q := ⟨_, _, rfl, .inr ⟨xs, h, rfl⟩, q⟩
theorem g_ixL {p : Addr} {xs : List V} {i : Int} (h : SqL K H p xs) (e : atI xs i = some v) (q : Q v H) : rIx K (.ref p) (.int i) H Q := .inl ⟨p, xs, i, v, rfl, rfl, h, e, q⟩
theorem g_ixT {p : Addr} {xs : List V} {i : Int} (h : SqT K H p xs) (e : atI xs i = some v) (q : Q v H) : rIx K (.ref p) (.int i) H Q := .inr (.inl ⟨p, xs, i, v, rfl, rfl, h, e, q⟩)
theorem g_ixS {z : Str} {i : Int} {c : Nat} (hl : z.length ≤ sizeLine) (e : atI z.cps.toList i = some c) (q : Q (.str ⟨#[c]⟩) H) : rIx K (.str z) (.int i) H Q := .inr (.inr ⟨z, i, c, rfl, rfl, hl, e, q⟩)
theorem g_sl {r : V → Option Int → Option Int → Hp → VK → Prop} {tl th : TO} (h : te σ H fun x H1 => tl σ H1 fun l H2 => th σ H2 fun u H3 => r x l u H3 Q) : tSl r te tl th σ H Q := h
theorem g_po0 {R : Option Int → Hp → Prop} (h : R none H) : tNoPart σ H R := h
theorem g_po1 {R : Option Int → Hp → Prop} (h : te σ H fun x H1 => ∃ i, x = .int i ∧ R (some i) H1) : tPart te σ H R := h
theorem g_slS {z : Str} {lo hi : Option Int} (hl : z.length ≤ sizeLine) (q : Q (.str (cutS z lo hi)) H) : rSlU K (.str z) lo hi H Q := .inl ⟨z, rfl, hl, q⟩
theorem g_slL {p : Addr} {xs : List V} {lo hi : Option Int} (h : SqL K H p xs) (q : ∀ q, H q = none → Q (.ref q) (upd H q (.lst (cutV xs lo hi)))) : rSlU K (.ref p) lo hi H Q := .inr (.inl ⟨p, xs, rfl, h, q⟩)
theorem g_T {A B : Prop} (h : A) : if true = true then A else B := iteT h
theorem g_F {A B : Prop} (h : B) : if false = true then A else B := iteF h
theorem g_nT {A B : Prop} (h : B) : if (!true) = true then A else B := iteF h
theorem g_nF {A B : Prop} (h : A) : if (!false) = true then A else B := iteT h
theorem g_ite {p A B : Prop} [Decidable p] (h1 : p → A) (h2 : ¬ p → B) : if decide p = true then A else B := by
  by_cases h : p
  · rw [decide_eq_true h]; exact iteT (h1 h)
  · rw [decide_eq_false h]; exact iteF (h2 h)
theorem g_niteD {p A B : Prop} [Decidable p] (h1 : ¬ p → A) (h2 : p → B) : if (!decide p) = true then A else B := by
  by_cases h : p
  · rw [decide_eq_true h]; exact iteF (h2 h)
  · rw [decide_eq_false h]; exact iteT (h1 h)
theorem g_yes {p A B : Prop} [Decidable p] (h : p) (a : A) : if decide p = true then A else B := by rw [decide_eq_true h]; exact iteT a
theorem g_no {p A B : Prop} [Decidable p] (h : ¬ p) (a : B) : if decide p = true then A else B := by rw [decide_eq_false h]; exact iteF a
theorem g_nyes {p A B : Prop} [Decidable p] (h : ¬ p) (a : A) : if (!decide p) = true then A else B := by rw [decide_eq_false h]; exact iteT a
theorem g_nno {p A B : Prop} [Decidable p] (h : p) (a : B) : if (!decide p) = true then A else B := by rw [decide_eq_true h]; exact iteF a
theorem g_iteB {A B : Prop} {b : Bool} (h1 : b = true → A) (h2 : b = false → B) : if b = true then A else B := by
  cases b with
  | true => exact iteT (h1 rfl)
  | false => exact iteF (h2 rfl)
theorem g_niteB {A B : Prop} {b : Bool} (h1 : b = false → A) (h2 : b = true → B) : if (!b) = true then A else B := by
  cases b with
  | true => exact iteF (h2 rfl)
  | false => exact iteT (h1 rfl)
theorem g_byes {A B : Prop} {b : Bool} (h : b = true) (a : A) : if b = true then A else B := by rw [h]; exact iteT a
theorem g_bno {A B : Prop} {b : Bool} (h : b = false) (a : B) : if b = true then A else B := by rw [h]; exact iteF a
theorem g_nbyes {A B : Prop} {b : Bool} (h : b = false) (a : A) : if (!b) = true then A else B := by rw [h]; exact iteT a
theorem g_nbno {A B : Prop} {b : Bool} (h : b = true) (a : B) : if (!b) = true then A else B := by rw [h]; exact iteF a
theorem g_btru {R : Bool → Prop} {k : Bool} (q : R k) : ∃ j, TruV K (.bl k) H j ∧ R j := ⟨k, rfl, q⟩
theorem g_isi {x : V} {t : Value} {n : String} {b : Bool} (ty : TyX K H x t) (e : PySem.W.kitOne K t (.type n) = some b) (q : Q (.bl b) H) : rIsi K [x, .ty n] H Q := ⟨x, .ty n, t, _, b, rfl, .ty n, ty, e, q⟩
theorem g_tnot {R : Bool → Hp → Prop} (h : t σ H fun b H1 => R (!b) H1) : tNot t σ H R := h
end
/-! ### heaps that only grow, but for one object -/
theorem Same.new {H : Hp} {p : Addr} {o : HO} (h : H p = none) : Same H (upd H p o) := fun a u e => by
  rw [upd_ne (ne_of_none e h)]
  exact e
theorem Same.seqT {K : PySem.W.Frag} {H H' : Hp} {a : Addr} {xs : List V} (e : Same H H') (h : SqT K H a xs) : SqT K H' a xs := by
  rcases h with (h | ⟨o, h⟩) | h
  · exact .inl (.inl (e _ _ h))
  · exact .inl (.inr ⟨o, e _ _ h⟩)
  · exact .inr h
theorem seqL_at {K : PySem.W.Frag} {H H' : Hp} {a : Addr} {xs : List V} (h : SqL K H a xs) (e : Same H H') : SqL K H' a xs := e.seq h
theorem seqT_at {K : PySem.W.Frag} {H H' : Hp} {a : Addr} {xs : List V} (h : SqT K H a xs) (e : Same H H') : SqT K H' a xs := Same.seqT e h
theorem tup_at {K : PySem.W.Frag} {H H' : Hp} {a : Addr} {xs : List V} (h : H a = some (.tup xs)) (e : Same H H') : SqT K H' a xs := .inl (.inl (e _ _ h))
theorem lst_at {K : PySem.W.Frag} {H H' : Hp} {a : Addr} {xs : List V} (h : H a = some (.lst xs)) (e : Same H H') : SqL K H' a xs := .inl (.inl (e _ _ h))
mutual
theorem Same.dp {K : PySem.W.Frag} {H H' : Hp} (e : Same H H') : ∀ {x : V} {d : PyData}, Dp K H x d → Dp K H' x d
  | _, _, .non => .non
  | _, _, .bl b => .bl b
  | _, _, .int i => .int i
  | _, _, .str x => .str x
  | _, _, .lst h r => .lst (e.seq h) (Same.dps e r)
  | _, _, .tup h r => .tup (Same.seqT e h) (Same.dps e r)
theorem Same.dps {K : PySem.W.Frag} {H H' : Hp} (e : Same H H') : ∀ {xs : List V} {ds : List PyData}, DpAll K H xs ds → DpAll K H' xs ds
  | _, _, .nil => .nil
  | _, _, .cons h r => .cons (Same.dp e h) (Same.dps e r)
end
theorem dp_at {K : PySem.W.Frag} {H H' : Hp} {x : V} {d : PyData} (h : Dp K H x d) (e : Same H H') : Dp K H' x d := Same.dp e h
/-- all but what stands at p -/
def dl (H : Hp) (p : Addr) : Hp := fun b => if b = p then none else H b
theorem dl_sub {H : Hp} {p : Addr} : Same (dl H p) H := fun b o h => by
  unfold dl at h
  split at h
  · cases h
  · exact h
theorem dl_of {H H' : Hp} {p : Addr} (e : Same H H') : Same (dl H p) H' := dl_sub.trans e
theorem dl_both {H H' : Hp} {p : Addr} (e : Same (dl H p) H') : Same (dl H p) (dl H' p) := fun b o h => by
  have hb : b ≠ p := fun z => by
    unfold dl at h
    rw [if_pos z] at h
    cases h
  unfold dl
  rw [if_neg hb]
  exact e b o h
theorem dl_ne {H : Hp} {a p : Addr} (h : a ≠ p) : dl H p a = H a := if_neg h
theorem dl_mut {H H' : Hp} {p : Addr} {o : HO} (e : Same (dl H p) H') : Same (dl H p) (upd H' p o) := fun b u h => by
  have hb : b ≠ p := fun z => by
    unfold dl at h
    rw [if_pos z] at h
    cases h
  rw [upd_ne hb]
  exact e b u h
theorem dl_tup {H : Hp} {a p : Addr} {xs : List V} {ys : List V} (h : H a = some (.tup xs)) (hp : H p = some (.lst ys)) : dl H p a = some (.tup xs) := by
  rw [dl_ne (ne_of h hp (by intro z; cases z))]
  exact h
def RetV (v : V) (H : Hp) (Q : VK) : Prop := ∀ H', Same H H' → Q v H'
/-- what an object's kind is -/
inductive Kn where
  | non | bl | int | str | lst | tup | dic
abbrev Kn.name : Kn → String
  | .non => "NoneType"
  | .bl => "bool"
  | .int => "int"
  | .str => "str"
  | .lst => "list"
  | .tup => "tuple"
  | .dic => "dict"
def Kn.is : Kn → Kn → Bool
  | .non, .non => true
  | .bl, .bl => true
  | .bl, .int => true
  | .int, .int => true
  | .str, .str => true
  | .lst, .lst => true
  | .tup, .tup => true
  | .dic, .dic => true
  | _, _ => false
theorem Kn.kit : ∀ k n : Kn, n.name ≠ "NoneType" → kitB k.name n.name = some (k.is n) := by
  intro k n
  cases k <;> cases n <;> decide +kernel
theorem ty_int {K : PySem.W.Frag} {H : Hp} {i : Int} : TyX K H (.int i) (.type Kn.int.name) := .base (.int i)
theorem ty_bl {K : PySem.W.Frag} {H : Hp} {b : Bool} : TyX K H (.bl b) (.type Kn.bl.name) := .base (.bl b)
theorem ty_str {K : PySem.W.Frag} {H : Hp} {x : Str} : TyX K H (.str x) (.type Kn.str.name) := .base (.str x)
theorem ty_non {K : PySem.W.Frag} {H : Hp} : TyX K H .non (.type Kn.non.name) := .base .non
theorem ty_tup {K : PySem.W.Frag} {H : Hp} {a : Addr} {xs : List V} (h : SqT K H a xs) : TyX K H (.ref a) (.type Kn.tup.name) := by
  rcases h with (h | ⟨o, h⟩) | ⟨o, its, n, hk, hc, _⟩
  · exact .base (.tup h)
  · exact .fTuple h
  · exact .kTuple hk hc
theorem ty_lst {K : PySem.W.Frag} {H : Hp} {a : Addr} {xs : List V} (h : SqL K H a xs) : TyX K H (.ref a) (.type Kn.lst.name) := by
  rcases h with (h | ⟨o, h⟩) | ⟨o, its, n, hk, hc, _⟩
  · exact .base (.lst h)
  · exact .base (.frz h)
  · exact .kList hk hc
def kindD : PyData → Kn
  | .none => .non
  | .bool _ => .bl
  | .int _ => .int
  | .str _ => .str
  | .list _ => .lst
  | .tuple _ => .tup
  | .dict _ => .dic
theorem ty_dp {K : PySem.W.Frag} {H : Hp} {x : V} {d : PyData} (h : Dp K H x d) : TyX K H x (.type (kindD d).name) := by
  cases h with
  | non => exact ty_non
  | bl b => exact ty_bl
  | int i => exact ty_int
  | str x => exact ty_str
  | lst h r => exact ty_lst h
  | tup h r => exact ty_tup h
section
variable {K : PySem.W.Frag} {H : Hp} {Q : VK} {x : V} {k : Kn} {b : Bool}
theorem isi_n (n : Kn) (hn : n.name ≠ "NoneType") (ty : TyX K H x (.type k.name)) (h : k.is n = b) (q : Q (.bl b) H) : rIsi K [x, .ty n.name] H Q := g_isi ty (kit_ty (by rw [Kn.kit k n hn, h])) q
theorem g_intT (ty : TyX K H x (.type k.name)) (h : k.is .int = true) (q : Q (.bl true) H) : rIsi K [x, .ty "int"] H Q := isi_n .int (by decide) ty h q
theorem g_intF (ty : TyX K H x (.type k.name)) (h : k.is .int = false) (q : Q (.bl false) H) : rIsi K [x, .ty "int"] H Q := isi_n .int (by decide) ty h q
theorem g_boolT (ty : TyX K H x (.type k.name)) (h : k.is .bl = true) (q : Q (.bl true) H) : rIsi K [x, .ty "bool"] H Q := isi_n .bl (by decide) ty h q
theorem g_boolF (ty : TyX K H x (.type k.name)) (h : k.is .bl = false) (q : Q (.bl false) H) : rIsi K [x, .ty "bool"] H Q := isi_n .bl (by decide) ty h q
theorem g_strT (ty : TyX K H x (.type k.name)) (h : k.is .str = true) (q : Q (.bl true) H) : rIsi K [x, .ty "str"] H Q := isi_n .str (by decide) ty h q
theorem g_strF (ty : TyX K H x (.type k.name)) (h : k.is .str = false) (q : Q (.bl false) H) : rIsi K [x, .ty "str"] H Q := isi_n .str (by decide) ty h q
theorem g_listT (ty : TyX K H x (.type k.name)) (h : k.is .lst = true) (q : Q (.bl true) H) : rIsi K [x, .ty "list"] H Q := isi_n .lst (by decide) ty h q
theorem g_listF (ty : TyX K H x (.type k.name)) (h : k.is .lst = false) (q : Q (.bl false) H) : rIsi K [x, .ty "list"] H Q := isi_n .lst (by decide) ty h q
theorem g_tupleT (ty : TyX K H x (.type k.name)) (h : k.is .tup = true) (q : Q (.bl true) H) : rIsi K [x, .ty "tuple"] H Q := isi_n .tup (by decide) ty h q
theorem g_tupleF (ty : TyX K H x (.type k.name)) (h : k.is .tup = false) (q : Q (.bl false) H) : rIsi K [x, .ty "tuple"] H Q := isi_n .tup (by decide) ty h q
theorem g_dictT (ty : TyX K H x (.type k.name)) (h : k.is .dic = true) (q : Q (.bl true) H) : rIsi K [x, .ty "dict"] H Q := isi_n .dic (by decide) ty h q
theorem g_dictF (ty : TyX K H x (.type k.name)) (h : k.is .dic = false) (q : Q (.bl false) H) : rIsi K [x, .ty "dict"] H Q := isi_n .dic (by decide) ty h q
end
section
variable {K : PySem.W.Frag} {σ : L2.St} {H : Hp} {Q : VK} {D : Ends}
theorem g_newT {xs : List V} (hn : xs.length ≤ sizeLine) (k : ∀ p H2, H p = none → Same H H2 → H2 p = some (.tup xs) → Q (.ref p) H2) : xs.length ≤ sizeLine ∧ ∀ p, H p = none → Q (.ref p) (upd H p (.tup xs)) :=
  ⟨hn, fun p hp => k p _ hp (Same.new hp) upd_same⟩
theorem g_newL {xs : List V} (hn : xs.length ≤ sizeLine) (k : ∀ p H2, H p = none → Same H H2 → H2 p = some (.lst xs) → Q (.ref p) H2) : xs.length ≤ sizeLine ∧ ∀ p, H p = none → Q (.ref p) (upd H p (.lst xs)) :=
  ⟨hn, fun p hp => k p _ hp (Same.new hp) upd_same⟩
theorem g_newA {R : Addr → Hp → Prop} {o : HO} (k : ∀ p H2, H p = none → Same H H2 → H2 p = some o → R p H2) : ∀ p, H p = none → R p (upd H p o) := fun p hp => k p _ hp (Same.new hp) upd_same
/-- a turn of a while, n the measure ahead of it -/
def WTurn (W : L2.St → Hp → Prop) (m : L2.St → Hp → Nat) (n : Nat) (tb : TS) (D : Ends) (σ : L2.St) (H : Hp) : Prop :=
  ∃ N : L2.St → Hp → Prop, (∀ σ2 H2, N σ2 H2 → ∃ m', m' < n ∧ m σ2 H2 = m' ∧ W σ2 H2) ∧ tb { D with nx := N, ct := N, bk := D.nx } σ H
theorem g_wturn {W : L2.St → Hp → Prop} {m : L2.St → Hp → Nat} {n : Nat} {tb : TS} (h : tb { D with nx := fun σ2 H2 => m σ2 H2 < n ∧ W σ2 H2, ct := fun σ2 H2 => m σ2 H2 < n ∧ W σ2 H2, bk := D.nx } σ H) : WTurn W m n tb D σ H :=
  ⟨_, fun σ2 H2 q => ⟨_, q.1, rfl, q.2⟩, h⟩
theorem g_while {c : TT} {tb : TS} (W : L2.St → Hp → Prop) (m : L2.St → Hp → Nat) (h0 : W σ H)
    (hs : ∀ σ' H', W σ' H' → c σ' H' fun b H1 => if b = true then WTurn W m (m σ' H') tb D σ' H1 else D.nx σ' H1) : tWhile c tb D σ H := by
  refine ⟨fun n σ' H' => m σ' H' = n ∧ W σ' H', ⟨_, rfl, h0⟩, fun n σ' H' h => ?_⟩
  obtain ⟨rfl, hw⟩ := h
  exact hs σ' H' hw
/-- a for over a walk -/
theorem g_for {wi : TI} {g : TG} {tb : TS} {J : It} {n : Nat} {G : Hp → Prop} {Y : Nat → Hp → V → Hp → Prop} (w : Walk J n G Y) (Pv : Nat → L2.St → Hp → Prop) (h0 : Pv 0 σ H) (hG : ∀ i σ H, i ≤ n → Pv i σ H → G H)
    (hs : ∀ i x σ H H', i < n → Pv i σ H → Y i H x H' → g x σ H' fun σ2 H2 => tb { D with nx := Pv (i + 1), ct := Pv (i + 1), bk := D.nx } σ2 H2) (hd : ∀ σ H, Pv n σ H → D.nx σ H) :
    ∃ W : Nat → Nat → L2.St → Hp → Prop, (∃ m, W 0 m σ H) ∧ ∀ i m σ H, W i m σ H →
      (J.stop i H ∧ D.nx σ H) ∨ (J.go i H ∧ ∃ N : L2.St → Hp → Prop, (∀ σ' H', N σ' H' → ∃ m', m' < m ∧ W (i + 1) m' σ' H') ∧ ∀ x H', J.yld i H x H' → g x σ H' fun σ2 H2 => tb { D with nx := N, ct := N, bk := D.nx } σ2 H2) :=
  for_it w Pv h0 hG hs hd
/-- what a for asks, over a walk of n turns -/
theorem g_forW {J : It} {n : Nat} {G : Hp → Prop} {Y : Nat → Hp → V → Hp → Prop} {g : TG} {tb : TS} (w : Walk J n G Y) (Pv : Nat → L2.St → Hp → Prop) (h0 : Pv 0 σ H) (hG : ∀ i σ H, i ≤ n → Pv i σ H → G H)
    (hs : ∀ i x σ H H', i < n → Pv i σ H → Y i H x H' → g x σ H' fun σ2 H2 => tb { D with nx := Pv (i + 1), ct := Pv (i + 1), bk := D.nx } σ2 H2) (hd : ∀ σ H, Pv n σ H → D.nx σ H) :
    (fun (J : It) (H1 : Hp) => ∃ W : Nat → Nat → L2.St → Hp → Prop, (∃ m, W 0 m σ H1) ∧ ∀ i m σ H, W i m σ H →
      (J.stop i H ∧ D.nx σ H) ∨ (J.go i H ∧ ∃ N : L2.St → Hp → Prop, (∀ σ' H', N σ' H' → ∃ m', m' < m ∧ W (i + 1) m' σ' H') ∧ ∀ x H', J.yld i H x H' → g x σ H' fun σ2 H2 => tb { D with nx := N, ct := N, bk := D.nx } σ2 H2)) J H :=
  for_it w Pv h0 hG hs hd
theorem g_rng1 {R : It → Hp → Prop} {ta : TA} (h : ta σ H fun vs H1 => ∃ j : Int, vs = [.int j] ∧ -(2 ^ 62) ≤ j ∧ j < 2 ^ 62 ∧ R (Itr 0 j.toNat) H1) : iRng1 ta σ H R := h
theorem g_rng1i {R : Int → Prop} {j : Int} (h1 : -(2 ^ 62) ≤ j) (h2 : j < 2 ^ 62) (h : R j) : ∃ i : Int, ([.int j] : List V) = [.int i] ∧ -(2 ^ 62) ≤ i ∧ i < 2 ^ 62 ∧ R i := ⟨j, rfl, h1, h2, h⟩
end
/-! ### sides of arithmetic -/
theorem mulL {i j : Int} (h1 : -18446744073709551616 < i) (h2 : i < 18446744073709551616) : IntMulOk i j := CMul.ok (.inl ⟨by simpa using h1, by simpa using h2⟩)
theorem mulR {i j : Int} (h1 : -18446744073709551616 < j) (h2 : j < 18446744073709551616) : IntMulOk i j := CMul.ok (.inr ⟨by simpa using h1, by simpa using h2⟩)
theorem mulB {i j : Int} {a b : Nat} (ha : i.natAbs < 2 ^ a) (hb : j.natAbs < 2 ^ b) (h0 : 0 < a) (h1 : 0 < b) (h : a + b ≤ 1000000) : IntMulOk i j := (wide_mul ha hb h0 h1 h).ok
theorem pyS {i j : Int} (h0 : 0 < j) (h : j < 1073741824) : Builtin.divisionGoesByPylong i j = false := PyProof.noPylong_small (by omega)
theorem pyB {i j : Int} {b : Nat} (hb : j.natAbs < 2 ^ b) (h0 : 0 < b) (h9 : b ≤ 9000) : Builtin.divisionGoesByPylong i j = false := PyProof.noPylong_of_log2 (Nat.lt_of_lt_of_le (PySem.Flt.log2_lt_of h0 hb) h9)
section
variable {H : Hp} {Q : VK} {i j : Int}
theorem g_mul (h : IntMulOk i j) (q : Q (.int (i * j)) H) : rI IntMulOk (fun i j => .int (i * j)) (.int i) (.int j) H Q := ⟨i, j, rfl, rfl, h, q⟩
theorem g_mod (h : 0 < j) (q : Q (.int (i % j)) H) : rI (fun _ j => j ≠ 0) (fun i j => .int (i.fmod j)) (.int i) (.int j) H Q := ⟨i, j, rfl, rfl, by omega, by (show Q (.int (i.fmod j)) H); rw [Int.fmod_eq_emod_of_nonneg _ (by omega)]; exact q⟩
theorem g_fdiv (h : 0 < j) (hp : Builtin.divisionGoesByPylong i j = false) (q : Q (.int (i / j)) H) : rI CDivU (fun i j => .int (i.fdiv j)) (.int i) (.int j) H Q := ⟨i, j, rfl, rfl, ⟨by omega, hp⟩, by (show Q (.int (i.fdiv j)) H); rw [Int.fdiv_eq_ediv_of_nonneg _ (by omega)]; exact q⟩
theorem g_pow {r : Int} (h : 0 ≤ j) (hb : (Builtin.Int.intBits i : Int) * j ≤ 2 ^ 27) (hr : i ^ j.toNat = r) (q : Q (.int r) H) : rI CPowU (fun i j => .int (i ^ j.toNat)) (.int i) (.int j) H Q := ⟨i, j, rfl, rfl, ⟨h, hb⟩, by (show Q (.int (i ^ j.toNat)) H); rw [hr]; exact q⟩
end
/-! ### cuts of texts -/
open TL in
theorem cut_tl (z : Str) (a b : Nat) : tl (cutS z (some (a : Int)) (some (b : Int))) = ((tl z).take b).drop a := by
  have hl : z.length = (tl z).length := len_tl z
  unfold cutS
  rw [tl_mk]
  show List.take (HT.sIx z.length z.length (some (b : Int)) - HT.sIx z.length 0 (some (a : Int))) (List.drop (HT.sIx z.length 0 (some (a : Int))) (tl z)) = _
  rw [HT.sIx_nat, HT.sIx_nat, hl, List.drop_take]
  by_cases h1 : a ≤ (tl z).length
  · rw [show min a (tl z).length = a from Nat.min_eq_left h1]
    by_cases h2 : b ≤ (tl z).length
    · rw [show min b (tl z).length = b from Nat.min_eq_left h2]
    · rw [show min b (tl z).length = (tl z).length from Nat.min_eq_right (by omega)]
      rw [List.take_of_length_le (by rw [List.length_drop]; omega), List.take_of_length_le (by rw [List.length_drop]; omega)]
  · rw [show min a (tl z).length = (tl z).length from Nat.min_eq_right (by omega), List.drop_eq_nil_of_le (Nat.le_refl _), List.drop_eq_nil_of_le (by omega), List.take_nil, List.take_nil]
open TL in
theorem cut_to (z : Str) (b : Nat) : tl (cutS z none (some (b : Int))) = (tl z).take b := by
  have hl : z.length = (tl z).length := len_tl z
  unfold cutS
  rw [tl_mk]
  show List.take (HT.sIx z.length z.length (some (b : Int)) - 0) (List.drop 0 (tl z)) = _
  rw [HT.sIx_nat, hl, Nat.sub_zero, List.drop_zero]
  by_cases h2 : b ≤ (tl z).length
  · rw [Nat.min_eq_left h2]
  · rw [Nat.min_eq_right (by omega), List.take_of_length_le (Nat.le_refl _), List.take_of_length_le (by omega)]
open TL in
theorem cut_from (z : Str) (a : Nat) : tl (cutS z (some (a : Int)) none) = (tl z).drop a := by
  have hl : z.length = (tl z).length := len_tl z
  unfold cutS
  rw [tl_mk]
  show List.take (z.length - HT.sIx z.length 0 (some (a : Int))) (List.drop (HT.sIx z.length 0 (some (a : Int))) (tl z)) = _
  rw [HT.sIx_nat, hl]
  by_cases h1 : a ≤ (tl z).length
  · rw [Nat.min_eq_left h1, List.take_of_length_le (by rw [List.length_drop]; omega)]
  · rw [Nat.min_eq_right (by omega), List.drop_eq_nil_of_le (Nat.le_refl _), List.drop_eq_nil_of_le (by omega), List.take_nil]
theorem tl_one (c : Nat) : TL.tl ⟨#[c]⟩ = [c] := rfl
open TL in
theorem cut1 (z : Str) (s c : Nat) : cutS z (some (s : Int)) (some ((s : Int) + 1)) = ⟨#[c]⟩ ↔ (tl z)[s]? = some c := by
  have e : ((s : Int) + 1) = ((s + 1 : Nat) : Int) := by omega
  rw [e]
  have k : tl (cutS z (some (s : Int)) (some ((s + 1 : Nat) : Int))) = (tl z)[s]?.toList := by
    rw [cut_tl, List.drop_take, show s + 1 - s = 1 by omega]
    cases h : (tl z)[s]? with
    | none =>
      rw [List.drop_eq_nil_of_le (List.getElem?_eq_none_iff.mp h)]
      rfl
    | some d =>
      obtain ⟨hl, hd⟩ := List.getElem?_eq_some_iff.mp h
      rw [List.drop_eq_getElem_cons hl, hd]
      rfl
  constructor
  · intro h
    rw [h] at k
    have k' : [c] = (tl z)[s]?.toList := k
    cases h2 : (tl z)[s]? with
    | none => rw [h2] at k'; cases k'
    | some d => rw [h2] at k'; cases k'; rfl
  · intro h
    refine ext_tl ?_
    rw [k, h]
    rfl
open TL in
theorem cut0 (z : Str) (c : Nat) : cutS z none (some 1) = ⟨#[c]⟩ ↔ (tl z).head? = some c := by
  have k : tl (cutS z none (some 1)) = (tl z).take 1 := cut_to z 1
  constructor
  · intro h
    rw [h] at k
    have k' : [c] = (tl z).take 1 := k
    cases h2 : tl z with
    | nil => rw [h2] at k'; cases k'
    | cons d r => rw [h2] at k'; cases k'; rfl
  · intro h
    refine ext_tl ?_
    rw [k]
    cases h2 : tl z with
    | nil => rw [h2] at h; cases h
    | cons d r => rw [h2] at h; cases h; rfl
theorem fin {Q : VK} {v v' : V} {H : Hp} (q : Q v H) (e : v = v') : Q v' H := e ▸ q
theorem dp_pair_inv {K : PySem.W.Frag} {H : Hp} {x : V} {t b : Int} (h : Dp K H x (.tuple [.int t, .int b])) : ∃ p, x = .ref p ∧ SqT K H p [.int t, .int b] := by
  cases h with
  | tup h r =>
    cases r with
    | cons h0 r =>
      cases r with
      | cons h1 r =>
        cases r
        cases h0
        cases h1
        exact ⟨_, rfl, h⟩
theorem log_of {i : Int} {a : Nat} (h : i.natAbs < 2 ^ a) (h0 : 0 < a) (h9 : a ≤ 1920) : i.natAbs.log2 < 1920 := Nat.lt_of_lt_of_le (PySem.Flt.log2_lt_of h0 h) h9
theorem len_num {i : Int} (h : i.natAbs.log2 < 1920) : (PySem.Str.ofString (toString i)).length ≤ 2000 := by
  have e := PySem.int_text_length_le (k := 1920) (by decide) h
  rw [PySem.ofString_length]
  omega
theorem len_le {n : Nat} (h : n ≤ 16777216) : n ≤ sizeLine := h
theorem len_app (x y : Str) : (x ++ y).length = x.length + y.length := PySem.Str.length_append x y
theorem len_emp : Str.empty.length = 0 := rfl
theorem sget {H H' : Hp} {a : Addr} {o : HO} (h : H a = some o) (e : Same H H') : H' a = some o := e _ _ h
section
variable {X : Cx} {K : PySem.W.Frag}
theorem op_inK (h : X.K = K) : OpR X (compareOp .In) (rInU K) := h ▸ op_inU
theorem op_niK (h : X.K = K) : OpR X (compareOp .NotIn) (rNiU K) := h ▸ op_niU
theorem sl_K (h : X.K = K) : SlR X (rSlU K) := h ▸ sl_U
theorem call_lenK (h : X.K = K) : CallR X (.builtin "len") (rLenU K) := h ▸ call_lenU
theorem lit (n : Nat) : (OfNat.ofNat n : Int) = ((OfNat.ofNat n : Nat) : Int) := rfl
theorem g_powL {H : Hp} {Q : VK} {i j : Int} {n : Nat} (e : j = (n : Int)) (hb : (Builtin.Int.intBits i : Int) * j ≤ 2 ^ 27) (q : Q (.int (i ^ n)) H) : rI CPowU (fun i j => .int (i ^ j.toNat)) (.int i) (.int j) H Q := by
  refine ⟨i, j, rfl, rfl, ⟨?_, hb⟩, ?_⟩
  · rw [e]; omega
  · show Q (.int (i ^ j.toNat)) H
    rw [e, Int.toNat_natCast]; exact q
variable {H : Hp} {R : Hp → Prop} {p : Addr} {a b c v : V} {r : List V}
theorem g_setL0 (h : H p = some (.lst (a :: r))) (q : ∀ H', Same (dl H p) H' → H' p = some (.lst (v :: r)) → R H') : rSetL (.ref p) (.int 0) v H R :=
  ⟨p, _, 0, 0, rfl, rfl, h, by unfold ixN; rw [if_pos (by decide), if_pos (by rw [List.length_cons]; omega)]; rfl, q _ (dl_mut dl_sub) upd_same⟩
theorem g_setL1 (h : H p = some (.lst (a :: b :: r))) (q : ∀ H', Same (dl H p) H' → H' p = some (.lst (a :: v :: r)) → R H') : rSetL (.ref p) (.int 1) v H R :=
  ⟨p, _, 1, 1, rfl, rfl, h, by unfold ixN; rw [if_pos (by decide), if_pos (by simp only [List.length_cons]; omega)]; rfl, q _ (dl_mut dl_sub) upd_same⟩
theorem g_setL2 (h : H p = some (.lst (a :: b :: c :: r))) (q : ∀ H', Same (dl H p) H' → H' p = some (.lst (a :: b :: v :: r)) → R H') : rSetL (.ref p) (.int 2) v H R :=
  ⟨p, _, 2, 2, rfl, rfl, h, by unfold ixN; rw [if_pos (by decide), if_pos (by simp only [List.length_cons]; omega)]; rfl, q _ (dl_mut dl_sub) upd_same⟩
end
open TL in
theorem cut_mem {z : Str} {lo hi : Option Int} {c : Nat} (h : c ∈ tl (cutS z lo hi)) : c ∈ tl z := by
  unfold cutS at h
  rw [tl_mk] at h
  exact List.mem_of_mem_drop (List.mem_of_mem_take h)
open TL in
theorem cut_len {z : Str} {lo hi : Option Int} : (cutS z lo hi).length ≤ z.length := by
  rw [len_tl (cutS z lo hi), len_tl z]
  unfold cutS
  rw [tl_mk, List.length_take, List.length_drop]
  show min _ ((tl z).length - _) ≤ _
  omega
open TL in
/-- all signs are in ASCII -/
def Asc (z : Str) : Prop := ∀ c ∈ tl z, c < 128
open TL in
theorem asc_app {x y : Str} (h : Asc x) (k : Asc y) : Asc (x ++ y) := fun c hc => by
  rw [tl_append] at hc
  rcases List.mem_append.mp hc with e | e
  · exact h c e
  · exact k c e
theorem asc_cut {z : Str} {lo hi : Option Int} (h : Asc z) : Asc (cutS z lo hi) := fun c hc => h c (cut_mem hc)
open TL in
theorem asc_num (n : Nat) : Asc (Str.ofString (toString ((n : Nat) : Int))) := fun c hc => by
  rw [tl_num] at hc
  have := numL_digits n c hc
  omega
theorem asc_sign {z : Str} {c : Nat} (h : Asc z) (hc : c ∈ TL.tl z) : Asc ⟨#[c]⟩ := fun d hd => by
  rw [tl_one] at hd
  rcases List.mem_cons.mp hd with rfl | k
  · exact h _ hc
  · cases k
theorem shaped_strs {l : List Nat} (h : ∀ c ∈ l, c < 128) : SeqAt.shaped (.list (l.map fun c => PyData.str ⟨#[c]⟩)) = true := by
  have k : PyData.canLayAll0 (l.map fun c => PyData.str ⟨#[c]⟩) = true ∧ PyData.depthAll (l.map fun c => PyData.str ⟨#[c]⟩) ≤ 1 := by
    induction l with
    | nil => exact ⟨rfl, by decide⟩
    | cons c r ih =>
      obtain ⟨i1, i2⟩ := ih fun d hd => h d (List.mem_cons_of_mem _ hd)
      have hc := h c (List.mem_cons_self ..)
      refine ⟨?_, ?_⟩
      · rw [List.map_cons, PyData.canLayAll0, i1, Bool.and_true]
        simp [PyData.canLay0, PyData.strOk]
        omega
      · rw [List.map_cons, PyData.depthAll]
        simp only [PyData.depth]
        omega
  unfold SeqAt.shaped
  rw [PyData.canLay0, k.1, Bool.true_and, decide_eq_true_eq, PyData.depth]
  omega
section
variable {K : PySem.W.Frag} {H H' : Hp}
theorem dpn : Dp K H .non .none := .non
theorem dpi (i : Int) : Dp K H (.int i) (.int i) := .int i
theorem dps (z : Str) : Dp K H (.str z) (.str z) := .str z
theorem dpb (b : Bool) : Dp K H (.bl b) (.bool b) := .bl b
theorem dp_t2 {p : Addr} {a b : Int} (h : H p = some (.tup [.int a, .int b])) (e : Same H H') : Dp K H' (.ref p) (.tuple [.int a, .int b]) := .tup (.inl (.inl (sget h e))) (.cons (.int a) (.cons (.int b) .nil))
end
theorem g_nx {a c d : L2.St → Hp → Prop} {b : V → Hp → Prop} {σ : L2.St} {H : Hp} (h : a σ H) : ({ nx := a, rt := b, bk := c, ct := d } : Ends).nx σ H := h
end Sm
/-! SmExc: own exceptions over any built-in base, with and without an __init__ that says super().__init__(x); self.f = x. -/
namespace Sm
open PySem PySem.Spec PyProof.Rows L2
open PySem.W PySem.Calls PyProof.V Builtin.ObjectAttr
/-! ### the text of such an __init__ -/
def iArgs (f : Str) (p1 p2 : Pos) : Arguments := { posonlyargs := [], args := [{ arg := "self", annotation := none, pos := p1 }, { arg := f, annotation := none, pos := p2 }], vararg := none, kwonlyargs := [], kw_defaults := [], kwarg := none, defaults := [] }
def iBody (f : Str) (a1 a2 a3 a4 a5 a6 b1 b2 b3 b4 : Pos) : List Stmt :=
  [.Expr (.Call (.Attribute (.Call (.Name "super" a1) [] [] a2) "__init__" a3) [.Name f a4] [] a5) a6,
   .Assign [.Attribute (.Name "self" b1) f b2] (.Name f b3) b4]
def iScope (f : Str) : Scope := { kind := .function, names := [(PySem.Str.ofString "self", .local), (f, .local), (PySem.Str.ofString "__class__", .free), (PySem.Str.ofString "super", .globalImplicit)], isGenerator := false, isCoroutine := false, more := [] }
abbrev excTl := PySem.W.excTail
/-- what the written part says of an own exception class, at C, over the base B -/
structure XBase (K : Frag) (mg : Str → Option Value) (x : Str) (C : Addr) (B newId initId : String) (bmB : List Value) : Prop where
  gC : mg x = some (.ref C)
  facts : ExcBaseFacts B newId initId bmB
  kC : keepIn K (.ref C) = true
  exC : subIn K (.ref C) (.type "BaseException") = some true
  tyC : typeIn K (.ref C) = some (.type "type")
structure XSup (P : Program) (K : Frag) (mg : Str → Option Value) (x f : Str) (C fI cda cc : Addr) (B newId initId : String) (bmB : List Value) : Prop extends XBase K mg x C B newId initId bmB where
  init : excInitIn K C bmB newId = true
  over : excOver K C bmB = true
  kxs : KxsFacts B initId
  store : StoreFacts B bmB "object.__setattr__" "object"
  subB : subIn K (.ref C) (.type B) = some true
  sa : findIn K (.ref C) "__setattr__" = some (some (.builtin "object.__setattr__"))
  ga : findIn K (.ref C) "__getattribute__" = some (some (.builtin "BaseException.__getattribute__"))
  gg : findIn K (.ref C) "__getattr__" = some none
  noN : findIn K (.ref C) f = some none
  iC : findIn K (.ref C) "__init__" = some (some (.ref fI))
  tI : typeIn K (.ref fI) = some (.type "function")
  hdC : hasDictIn K C = true
  op : nsIn K cStatics "thirdparty.any" = some none
  sup : ks_superIn K C C "__init__" = some (some (.builtin initId))
  subC : mroIn K C (.ref C) = some true
  nsuper : nsIn K mainGlobals "super" = some none
  fn : ∃ (oc : Value) (od : Option Addr) (dV kV doc pm : Value) (an : Option Addr) (ct : Value) (osl : Array (Option Value)) (p1 p2 a1 a2 a3 a4 a5 a6 b1 b2 b3 b4 : Pos) (q : Str),
    K.lookup fI = some ⟨oc, od, .func (ksFn "__init__" q (iArgs f p1 p2) (iBody f a1 a2 a3 a4 a5 a6 b1 b2 b3 b4) (iScope f) dV kV doc pm an (.ref cda) ct cc), osl⟩ ∧ codeIn K (.ref cda) q = true ∧ (a3.endLine == a5.line) = true ∧
      ∀ x v, bindArgs (ksFn "__init__" q (iArgs f p1 p2) (iBody f a1 a2 a3 a4 a5 a6 b1 b2 b3 b4) (iScope f) dV kV doc pm an (.ref cda) ct cc) ⟨[.ref x, v], []⟩ = pure [(("self" : Str), Value.ref x), (f, v)]
  code : ∃ (ccl : Value) (cdd : Option Addr) (vs : Array Value) (ccs : Array (Option Value)) (file : Str) (tf : Tok), K.lookup cda = some ⟨ccl, cdd, .fields vs, ccs⟩ ∧ vs[2]? = some (.str file tf) ∧ ((P.main.file : Str) == file) = true
  cell : ∃ (cl : Value) (cld : Option Addr) (csl : Array (Option Value)), K.lookup cc = some ⟨cl, cld, .cell (some (.ref C)), csl⟩
  top : (P.main.scope.names.lookup ("super" : Str)).isSome = false
  fne : (f == ("self" : Str)) = false ∧ (f == ("__debug__" : Str)) = false ∧ (f == ("super" : Str)) = false ∧ (f == ("__class__" : Str)) = false
/-- what __init__ leaves of a fresh exception at x -/
structure SupEnd (h h' : Heap) (x C dx : Addr) (f : Str) (v : Value) : Prop where
  keep : ∀ b o, b ≠ x → h.get? b = some o → h'.get? b = some o
  obj : ∃ t1 : Addr, h'.get? x = some { cls := .ref C, dict := some dx, data := .fields #[.ref t1, .none, .none, .none, .bool false, .none] }
  dbig : h.objs.size ≤ dx
  dne : dx ≠ x
  ns : h'.Ns1 dx (fun y => if y = f then some v else none)
section
variable {prog : Program} {w : World} {A : Around} {E : Value → Shared → Prop} {R : Result → Shared → Prop} {s : Shared} {K : Frag} {mg mb : Str → Option Value} {f nm : Str} {C fI cda cc x : Addr} {B newId initId : String} {bmB : List Value} {v : Value}
/-- self.f = v on an exception without a dict -/
theorem sup_store (T : XSup prog K mg nm f C fI cda cc B newId initId bmB) {fv : Array Value} (X : K.In s.heap) (hx : s.heap.get? x = some { cls := .ref C, data := .fields fv })
    {Q : Unit → Shared → Prop}
    (hq : ∀ h' tk' dx, (∀ b o, b ≠ x → s.heap.get? b = some o → h'.get? b = some o) → s.heap.objs.size ≤ dx → dx ≠ x → h'.get? x = some { cls := .ref C, dict := some dx, data := .fields fv } →
      h'.Ns1 dx (fun y => if y = f then some v else none) → Q () { s with heap := h', toks := tk' }) :
    wpAny (model prog w) A (setAttr (.ref x) f v) Q E s := by
  obtain ⟨hp, g, d, t, os⟩ := s
  have I : InstAt hp x { cls := .ref C, data := .fields fv } C none := ⟨hx, rfl, rfl, trivial⟩
  obtain ⟨cd, hc, hdd⟩ := any_some T.hdC
  refine set_plain X (ox := { cls := .ref C, data := .fields fv }) (od := none) I T.sa ?_
  refine osa_openX (r := none) T.store X I T.over (by unfold takerIn; rw [T.noN]; rfl) (fun b => ?_)
  have hcls : Looks (model prog w) hp (classData C) cd := looks_clsIn X hc
  have hxs : x ≠ hp.objs.size := Nat.ne_of_lt (Heap.lt_size hx)
  obtain ⟨nm, bs, mro, ns, qn, hd, sn, sb, ab, col, del⟩ := cd
  dsimp only at hdd
  subst hdd
  dsimp only
  unfold storeInOwnDict ownDictForStores
  repeat (first | with_reducible refine PySem.HandSPX.store_in_new ?_ ?_ | with_reducible refine wpAny_loadPart_at hx ?_ | with_reducible refine hcls.at ?_ | wp_step)
  · exact ⟨_, #[], _, (Heap.get?_update_ne _ _ _ _ hxs.symm).trans (Heap.get?_push_at rfl rfl), rfl, fun e he => absurd he (by simp), fun _ => rfl⟩
  · intro h' tk' hn' hs
    have hx1 : (hp.push { cls := .type "dict", data := .dict #[] }).get? x = some { cls := .ref C, data := .fields fv } := Heap.get?_push_of_some _ hx
    refine hq h' tk' hp.objs.size (fun b o hb ho => ?_) (Nat.le_refl _) hxs.symm ?_ hn'
    · exact (hs.2 b (Nat.ne_of_lt (Heap.lt_size ho))).trans ((Heap.get?_update_ne _ _ _ _ hb).trans (Heap.get?_push_of_some _ ho))
    · exact (hs.2 x hxs).trans (Heap.get?_update_self _ hx1 rfl)
/-- the bound built-in __init__, called -/
theorem sup_call (T : XSup prog K mg nm f C fI cda cc B newId initId bmB) {u t0 : Addr} {Q : Value → Shared → Prop} (X : K.In s.heap) (hu : s.heap.get? u = some (kxs_mw initId x)) (hx : s.heap.get? x = some (HandSPX.excO C t0))
    (hq : ∀ h' t1, (∀ b o, b ≠ x → s.heap.get? b = some o → h'.get? b = some o) → h'.get? x = some (HandSPX.excO C t1) → Q .none { s with heap := h' }) :
    wpAny (model prog w) A (call (.ref u) [v]) Q E s := by
  obtain ⟨nm', N', qn, bs, bm, hdct, sn, sub, ab, col, dd, k0, k1, k2, k3, k5, hC, hT⟩ := excInit_of X T.init
  obtain ⟨hh, g, d, tk, os⟩ := s
  refine wpAny_call (codeAny_of_tree ?_); (show wpAny _ A.in1 (callAny (.ref u) ⟨[v], []⟩) _ _ _); simp only [callAny]
  refine wpAny_bind (wpAny_load hu ?_); simp only [kxs_mw, show (Value.type "method-wrapper" == Value.type "method" || Value.type "method-wrapper" == Value.type "builtin_function_or_method" || Value.type "method-wrapper" == Value.type "method-wrapper") = true by decide, if_true]
  refine PySem.W.KFB.if_so (by decide) (wpAny_bind (check_bound_init T.facts.toExcCallFacts hC hx rfl (wpAny_bind (wpAny_pure (wpAny_pure ⟨plainId_quiet T.facts.init.plain _, codeAny_builtin T.facts.initEntry ?_⟩)))))
  refine exc_init_tree (cls := .ref C) (t0 := t0) (dv := none) (c2 := .none) (c3 := .none) (b4 := .bool false) hx (by rw [sizeLine_eq]; exact (by decide : 1 ≤ 16777216)) (fun h' k e' t' => ?_)
  exact hq h' _ k e'
/-- the call of __init__ on a fresh exception -/
theorem sup_init (T : XSup prog K mg nm f C fI cda cc B newId initId bmB) {t0 : Addr} (X : K.In s.heap) (G : s.heap.Ns mainGlobals mg) (Gb : s.heap.Ns builtinsNs mb) (hb : ∀ y : Str, y ≠ "__name__" → mb y = bootBuiltins y)
    (hlim : s.heap.NoLimit) (hx : s.heap.get? x = some (HandSPX.excO C t0)) (hnx : ∀ o, K.lookup x = some o → False) (hroom : A.depth < recursionLimit)
    (hq : ∀ h' tk dx, SupEnd s.heap h' x C dx f v → R (.ok (.ret .none)) { s with heap := h', toks := tk }) :
    codeAny (model prog w) A (.call (.ref fI) ⟨[.ref x, v], []⟩) R s := by
  obtain ⟨oc, od, dV, kV, doc, pm, an, ct, osl, p1, p2, a1, a2, a3, a4, a5, a6, b1, b2, b3, b4, q, ho, hcd, hline, hbd⟩ := T.fn
  obtain ⟨f1, f2, f3, f4⟩ := T.fne
  have f1' : ¬ f = "self" := beq_eq_false_iff_ne.mp f1
  have g3 : (("super" : Str) == f) = false := beq_eq_false_iff_ne.mpr fun z => (beq_eq_false_iff_ne.mp f3) z.symm
  have g4 : (("__class__" : Str) == f) = false := beq_eq_false_iff_ne.mpr fun z => (beq_eq_false_iff_ne.mp f4) z.symm
  have g1 : (("self" : Str) == f) = false := beq_eq_false_iff_ne.mpr fun z => (beq_eq_false_iff_ne.mp f1) z.symm
  have lf : (iScope f).names.lookup f = some .local := by simp [iScope, List.lookup, f1]
  have ls : (iScope f).names.lookup ("self" : Str) = some .local := by simp [iScope, List.lookup]
  have lsu : (iScope f).names.lookup ("super" : Str) = some .globalImplicit := by
    show List.lookup ("super" : Str) [(("self" : Str), NameKind.local), (f, .local), (("__class__" : Str), .free), (("super" : Str), .globalImplicit)] = _
    rw [List.lookup_cons, show (("super" : Str) == "self") = false by decide, List.lookup_cons, g3, List.lookup_cons, show (("super" : Str) == "__class__") = false by decide]
    rfl
  have lc : (iScope f).names.lookup ("__class__" : Str) = some .free := by
    show List.lookup ("__class__" : Str) [(("self" : Str), NameKind.local), (f, .local), (("__class__" : Str), .free), (("super" : Str), .globalImplicit)] = _
    rw [List.lookup_cons, show (("__class__" : Str) == "self") = false by decide, List.lookup_cons, g4]
    rfl
  obtain ⟨ccl, cdd, vs, ccs, file, tf, hcode, hvs, hfile⟩ := T.code
  obtain ⟨cl, cld, csl, hcell⟩ := T.cell
  refine ks_codeAny_call_defAt (fd := ksFn "__init__" q (iArgs f p1 p2) (iBody f a1 a2 a3 a4 a5 a6 b1 b2 b3 b4) (iScope f) dV kV doc pm an (.ref cda) ct cc) (body := iBody f a1 a2 a3 a4 a5 a6 b1 b2 b3 b4)
    (binds := [("self", .ref x), (f, v)]) hroom (X _ _ ho) rfl hlim (codeRec_of X hcd) rfl (BindsTo.of_eq (hbd x v)) ?_ ?_ (fun h0 hns hk => ?_) rfl rfl rfl
  · intro y hy
    simp only [ksFn, iScope, List.mem_cons, List.not_mem_nil, or_false] at hy
    rcases hy with rfl | rfl | rfl | rfl <;> (intro z; cases z)
  · intro y hy
    simp only [List.mem_cons, List.not_mem_nil, or_false] at hy
    rcases hy with rfl | rfl
    · exact ls
    · exact lf
  · obtain ⟨hp, g, d, t, os⟩ := s
    have bv : ∀ y, ([(("self" : Str), Value.ref x), (f, v)].reverse.lookup y) = if y = f then some v else if y = "self" then some (.ref x) else none := by
      intro y
      show List.lookup y [(f, v), (("self" : Str), Value.ref x)] = _
      rw [List.lookup_cons, List.lookup_cons]
      by_cases e1 : y = f
      · simp [e1]
      · have e1' : (y == f) = false := by simpa using e1
        rw [e1', if_neg e1]
        by_cases e2 : y = "self"
        · simp [e2]
        · have e2' : (y == ("self" : Str)) = false := by simpa using e2
          rw [e2', if_neg e2]
          rfl
    have hx0 := hk _ _ hx
    have X0 : K.In h0 := X.keeps hk
    have hxs : x ≠ hp.objs.size := Nat.ne_of_lt (Heap.lt_size hx)
    obtain ⟨cd, hc, hdd⟩ := any_some T.hdC
    obtain ⟨nm', N', qn, bs, bm, hdct, sn, sub, ab, col, dd, k0, k1, k2, k3, k5, hC, hT⟩ := excInit_of X0 T.init
    have he : ∀ env : Env, eval (.Call (.Attribute (.Call (.Name "super" a1) [] [] a2) "__init__" a3) [.Name f a4] [] a5) env = (do
        let ov ← attributeBase (.Call (.Name "super" a1) [] [] a2) "__init__" env (eval (.Call (.Name "super" a1) [] [] a2) env)
        standAt a3.atName
        let (f1, first) ← holding [ov] (getMethod ov "__init__" (plainOf (.Call (.Name "super" a1) [] [] a2) env))
        callWith a5 f1 first (backTo a5 (starEach [.Name f a4] env)) []) := by
      intro env
      rw [arm_eval_Call]
      refine bind_congr fun ov => ?_
      refine bind_congr fun _ => ?_
      exact mcall_line rfl hline
    refine ks_wpAt_execs_cons (ks_wpAt_Expr_any (ks_wpAt_MethodCall (he := he _) ?_))
    refine ks_wpAt_super_base (env := ksEnv q (iScope f) hp.objs.size fI (.ref cda) cc) lsu lc (by decide) rfl (X0 _ _ ho) rfl rfl rfl (X0 _ _ hcode) rfl hvs hfile T.top ?_
    refine ks_loadName_global rfl lsu (loadGlobal_builtin (env := ksEnv q (iScope f) hp.objs.size fI (.ref cda) cc) (G.keeps hk) (mg_none_of X G T.nsuper) (Gb.keeps hk) ((hb _ (by decide +kernel)).trans (by decide +kernel)) ⟨rfl, ?_⟩)
    refine wpAny_loadName_free rfl lc rfl ⟨_, X0 _ _ hcell, rfl⟩ ?_
    refine wpAny_loadName_local rfl ls hns (v := .ref x) (by rw [bv, if_neg (Ne.symm f1'), if_pos rfl]) ?_
    refine ks_wpAny_isType_cls hC rfl ⟨rfl, ?_⟩
    refine ks_wpAny_call_super hC rfl hx0 rfl (fun c e => by cases e) (looks_mroIn X0 T.subC) (fun h1 e1 k1 => ?_)
    have X1 : K.In h1 := X0.keeps k1
    have hx1 := k1 _ _ hx0
    have I1 : InstAt h1 x (HandSPX.excO C t0) C none := ⟨hx1, rfl, rfl, trivial⟩
    have hI : Looks (model prog w) h1 (isInstance (.ref x) (.type B)) true := I1.type.andThen (looks_subIn X1 T.subB)
    have hm : alongIn K "__init__" ((cd.mro.dropWhile (· != .ref C)).drop 1) = some (some (.builtin initId)) := by
      have z := T.sup
      unfold ks_superIn at z
      rw [hc] at z
      exact z
    refine kxs_getMethod T.kxs e1 (looks_opaque X1 T.op) (l₀ := cd.mro) (fun A Q E s k q => wpAny_bind ((looks_clsIn X1 hc) A _ E s k (wpAny_pure q))) rfl X1 hm hI (ks_ne X1 I1 hc) (by decide) ?_
    have k2 : ∀ b o, h1.get? b = some o → (h1.push (kxs_mw initId x)).get? b = some o := fun b o e => Heap.get?_push_of_some _ e
    have hns2 : (h1.push (kxs_mw initId x)).Ns hp.objs.size (fun y => [(("self" : Str), Value.ref x), (f, v)].reverse.lookup y) := (hns.keeps k1).keeps k2
    refine kxs_callWith (i := initId) (x := x) rfl (evalArgs_plain (spliced_cons (wpAny_Name (wpAny_loadName_local rfl lf hns2 (v := v) (by rw [bv, if_pos rfl]) (spliced_nil ?_)) f2)))
    refine ⟨Heap.get?_push_size _ rfl, sup_call T (X1.keeps k2) (Heap.get?_push_size _ rfl) (k2 _ _ hx1) (fun h3 t1 k3 hx3 => ?_)⟩
    have hCn : x ≠ C := ks_ne X1 I1 hc
    have X3 : K.In h3 := fun a o e => k3 a o (fun z => by
      subst z
      exact hnx _ e) ((X1.keeps k2) a o e)
    have hns3 : h3.Ns hp.objs.size (fun y => [(("self" : Str), Value.ref x), (f, v)].reverse.lookup y) := hns2.at fun o e => k3 _ _ (Ne.symm hxs) e
    refine ks_wpAt_execs_cons (ks_wpAt_Assign_Attr (PySem.wpAt_of_wpAny ?_))
    refine wpAny_Name (wpAny_loadName_local rfl lf hns3 (v := v) (by rw [bv, if_pos rfl]) (wpAny_Name (wpAny_loadName_local rfl ls hns3 (v := .ref x) (by rw [bv, if_neg (Ne.symm f1'), if_pos rfl]) (sup_store T X3 hx3 (fun h4 tk dx k4 dn dne hx4 hn4 => ?_))))) f2
    refine PySem.wpAt_of_wpAny (wpAny_execs_nil (hq h4 tk dx ⟨fun b o hb e => k4 b o hb (k3 b o hb (k2 _ _ (k1 _ _ (hk _ _ e)))), ⟨t1, hx4⟩, Nat.le_trans (Nat.le_of_lt hns3.lt) dn, dne, hn4⟩))
/-- an exception made -/
structure SupMade (h h' : Heap) (e C d : Addr) (f : Str) (v : Value) : Prop where
  keep : ∀ b o, h.get? b = some o → h'.get? b = some o
  new : h.objs.size ≤ e
  obj : ∃ t1 : Addr, h'.get? e = some { cls := .ref C, dict := some d, data := .fields #[.ref t1, .none, .none, .none, .bool false, .none] }
  dbig : h.objs.size ≤ d
  dne : d ≠ e
  ns : h'.Ns1 d (fun y => if y = f then some v else none)
theorem sup_made (T : XSup prog K mg nm f C fI cda cc B newId initId bmB) (X : K.In s.heap) (G : s.heap.Ns mainGlobals mg) (Gb : s.heap.Ns builtinsNs mb) (hb : ∀ y : Str, y ≠ "__name__" → mb y = bootBuiltins y)
    (hlim : s.heap.NoLimit) (hroom : A.depth + 1 < recursionLimit) (hq : ∀ h' tk e d, SupMade s.heap h' e C d f v → R (.ok (.ret (.ref e))) { s with heap := h', toks := tk }) :
    codeAny (model prog w) A (.call (.ref C) ⟨[v], []⟩) R s := by
  obtain ⟨nm', N', qn, bs, bm, hdct, sn, sub, ab, col, dd, k0, k1, k2, k3, k5, hC, hT⟩ := excInit_of X T.init
  obtain ⟨hp, g, dr, tk, os⟩ := s
  have k : ∀ b o, hp.get? b = some o → ((hp.push (kdv_tup [v])).push (HandSPX.excO C hp.objs.size)).get? b = some o := fun b o e => Heap.get?_push_of_some _ (Heap.get?_push_of_some _ e)
  have hget : ((hp.push (kdv_tup [v])).push (HandSPX.excO C hp.objs.size)).get? (hp.objs.size + 1) = some (HandSPX.excO C hp.objs.size) := by heap_get
  have hnx : ∀ o, K.lookup (hp.objs.size + 1) = some o → False := fun o e => by
    have z : hp.get? (hp.objs.size + 1) = some o := X _ _ e
    exact absurd (Nat.lt_of_succ_lt (Heap.lt_size z)) (Nat.lt_irrefl _)
  refine HandSPX.call_own T.facts hT hC (looks_findIn X T.iC) (fun self => bind_fn X self T.tI) (by rw [sizeLine_eq]; exact (by decide : 1 ≤ 16777216)) ?_
  refine sup_init (s := ⟨(hp.push (kdv_tup [v])).push (HandSPX.excO C hp.objs.size), g, dr, tk, os⟩) T (X.keeps k) (G.keeps k) (Gb.keeps k) hb (hlim.keeps k) hget hnx hroom fun h' tk' dx M => ?_
  have old : ∀ b o, hp.get? b = some o → h'.get? b = some o := fun b o e => M.keep b o (Nat.ne_of_lt (Nat.lt_succ_of_lt (Heap.lt_size e))) (k b o e)
  have z : hp.objs.size + 1 + 1 ≤ dx := by
    have q := M.dbig
    first
      | exact q
      | (rw [Heap.size_push, Heap.size_push] at q; exact q)
      | (simpa only [Heap.size_push] using q)
  exact ⟨rfl, hq h' tk' (hp.objs.size + 1) dx ⟨old, Nat.le_succ _, M.obj, Nat.le_trans (Nat.le_trans (Nat.le_succ _) (Nat.le_succ _)) z, M.dne, M.ns⟩⟩
end
theorem relO_one {f : Str} {v : V} {v' : Value} (r : RelV v v') (y : Str) : RelO (List.lookup y [(f, v)]) (if y = f then some v' else none) := by
  by_cases hw : y = f
  · rw [hw, if_pos rfl]
    have q : List.lookup f [(f, v)] = some v := by simp [List.lookup]
    rw [q]
    exact r
  · rw [if_neg hw]
    have qw : (y == f) = false := beq_eq_false_iff_ne.mpr hw
    have q2 : List.lookup y [(f, v)] = none := by simp [List.lookup, qw]
    rw [q2]
    trivial
section
variable {X : Cx} {C fI cda cc : Addr} {B newId initId : String} {bmB : List Value} {x f : Str}
/-- C(e) -/
def tMkSup (f : Str) (C : Addr) (ta : TA) : L2.St → Hp → XK → Prop := fun σ H Q => ta σ H fun vs H1 => ∃ v, vs = [v] ∧ ∀ d, H1 d = none → Q (.ref C) (some d) (upd H1 d (.xd [(f, v)]))
theorem pmk_sup {a : Expr} {ta : TA} {p pos : Pos} {k : Nat} (T : XSup X.prog X.K X.mg x f C fI cda cc B newId initId bmB) (hr : Room k X.A) (ha : PA X [a] ta) (hg : Gl X x := by rfl) (hdb : (x == ("__debug__" : Str)) = false := by decide)
    (he : starEach (a :: []) X.env = (false, eval a X.env) :: starEach [] X.env := by rfl) (hpl : (backTo pos (starEach [] X.env)).any (·.1) = false := by rfl) :
    PMk X (.Call (.Name x p) [a] [] pos) (tMkSup f C ta) := by
  intro pins s σ H Q I h
  refine wpAny_Call_Name_kw (ld_glob I hg T.gC ?_ hdb)
  refine PySem.W.callWith_K (h₀ := X.base) I.ok.mod.kin T.kC (thn (ha.run pos pins s σ H _ I h) fun us s1 hh => ?_) he hpl
  obtain ⟨vs, H1, I1, r1, v, ev, q1⟩ := hh; subst ev
  refine ⟨I1.kIn, ?_⟩
  cases r1 with
  | cons rv rn =>
    rename_i v' us'
    cases rn
    show wpAny _ _ (call (.ref C) [v']) _ _ _
    have hlim := I1.nolimit
    obtain ⟨mb, Gb, hb⟩ := I1.mod.blt
    have G := I1.mod.glob.keeps I1.bk
    have Gb' := Gb.keeps I1.bk
    have KI := I1.kIn
    obtain ⟨hp, g, dr, tk, os⟩ := s1
    refine wpAny_call (sup_made T KI G Gb' hb hlim (by have := hr.dp; omega) fun h' tk' e d M => ?_)
    show MkP X pins σ Q (.ref e) ⟨h', g, dr, tk', os⟩
    obtain ⟨t1, hoe⟩ := M.obj
    have hns := M.ns
    obtain ⟨G', g1, g2⟩ := restrict h' fun b => decide (b ≠ e)
    have gk : ∀ b, b ≠ e → G'.get? b = h'.get? b := fun b hb => g1 b (decide_eq_true hb)
    have ge : G'.get? e = none := g2 e (by simp)
    have old : ∀ b o, hp.get? b = some o → G'.get? b = some o := fun b o q => (gk b (Nat.ne_of_lt (Nat.lt_of_lt_of_le (Heap.lt_size q) M.new))).trans (M.keep b o q)
    have ob : ObjOk X.prog X.w (upd H1 d (.xd [(f, v)])) G' d (.xd [(f, v)]) :=
      ⟨_, hns.at (fun o q => (gk d M.dne).trans q), fun y => relO_one rv y⟩
    have J : Inv X pins σ (upd H1 d (.xd [(f, v)])) ⟨G', g, dr, tk', os⟩ := I1.laid (t' := tk') old M.dbig ob
    refine ⟨e, _, _, ⟨G', g, dr, tk', os⟩, _, .ref C, some d, rfl, J, fun b o q => ?_, ge, hoe, ⟨rfl, rfl⟩, rfl, rfl, ?_, rfl, I1.bare, raises_own T.exC T.tyC, q1 d (I1.hok.fresh M.dbig)⟩
    · by_cases hb : b = e
      · have q' : G'.get? b = some o := q
        rw [hb, ge] at q'; cases q'
      · exact (gk b hb).symm.trans q
    · rw [upd_ne (Ne.symm M.dne)]
      exact I1.hok.fresh M.new
/-- n.f, n the exception that the suite holds -/
def tBySup (f : Str) (C : Addr) (a : Addr) (cls : Value) (d : Option Addr) (te : TE) : TE := fun σ H Q => te σ H fun x H1 => x = .ref a ∧ cls = .ref C ∧ ∃ (dd : Addr) (v : V), d = some dd ∧ H1 dd = some (.xd [(f, v)]) ∧ Q v H1
theorem pe_bySup {a : Addr} {oe : Obj} {cls : Value} {d : Option Addr} {pn : List (Addr × Obj)} {e : Expr} {te : TE} {pos : Pos} (T : XSup X.prog X.K X.mg x f C fI cda cc B newId initId bmB) (hz : Zc cls d oe) (hf : ∃ vs, oe.data = .fields vs) (he : PE (X.suite a ((a, oe) :: pn)) e te)
    (hb : attributeBase e f X.env (eval e X.env) = eval e X.env := by rfl) :
    PE (X.suite a ((a, oe) :: pn)) (.Attribute e f pos) (tBySup f C a cls d te) := by
  refine ⟨fun pins s σ H Q I h => ?_⟩
  refine attr_of hb (thn (he.run pins s σ H _ I h) fun u s1 hh => ?_)
  obtain ⟨y, H1, I1, rx, ex, ec, dd, v, ed, ea, q⟩ := hh; subst ex
  obtain rfl : u = Value.ref a := rx
  subst ec; subst ed
  obtain ⟨ha, _⟩ := I1.pin (a, oe) (List.mem_append_left _ List.mem_cons_self)
  obtain ⟨vs, hd⟩ := hf
  have hx : ObjOk X.prog X.w H1 s1.heap dd (.xd [(f, v)]) := I1.hok dd _ ea
  obtain ⟨mA, hns, hr⟩ := hx
  obtain ⟨od, ho, hl⟩ := lookIn_ns hns
  have l : List.lookup f [(f, v)] = some v := by simp [List.lookup]
  obtain ⟨u, hu, ru⟩ := RelO.some_of (v := v) (o := mA f) (by rw [← l]; exact hr f)
  have J : PySem.W.InstAt s1.heap a oe C (some od) := ⟨ha, hz.1, by unfold PySem.W.notCls; rw [hd] <;> rfl, by rw [hz.2]; exact ho⟩
  exact HandSPX.exc_get I1.kIn J T.ga T.gg T.exC (PySem.W.findObj_own T.hdC T.noN rfl (by rw [hl, hu])) (handed_of ru) ⟨v, H1, I1.tok _, ru, q⟩
end
/-- a class without an __init__ of its own, made with one value of any kind -/
structure XPl (K : Frag) (mg : Str → Option Value) (x : Str) (C : Addr) (B newId initId : String) (bmB : List Value) : Prop extends XBase K mg x C B newId initId bmB where
  exc : excIn K C bmB newId = true
theorem pmk_pl {X : Cx} {x : Str} {C : Addr} {B newId initId : String} {bmB : List Value} {e : Expr} {es : List Expr} {t : TA} {p pos : Pos} (T : XPl X.K X.mg x C B newId initId bmB) (ha : PA X (e :: es) t) (hg : Gl X x := by rfl) (hdb : (x == ("__debug__" : Str)) = false := by decide)
    (he : starEach (e :: es) X.env = (false, eval e X.env) :: starEach es X.env := by rfl) (hpl : (backTo pos (starEach es X.env)).any (·.1) = false := by rfl) :
    PMk X (.Call (.Name x p) (e :: es) [] pos) (fun σ H Q => t σ H fun vs H1 => vs.length ≤ sizeLine ∧ Q (.ref C) none H1) := pmk_ownA T.facts T.exc T.gC T.kC (raises_own T.exC T.tyC) hg ha hdb he hpl
/-! ### without the addresses that none asks for -/
structure XS (P : Program) (K : Frag) (mg : Str → Option Value) (x f : Str) (C : Addr) (B newId initId : String) (bmB : List Value) : Prop where
  ex : ∃ fI cda cc, XSup P K mg x f C fI cda cc B newId initId bmB
theorem XS.gC {P : Program} {K : Frag} {mg : Str → Option Value} {x f : Str} {C : Addr} {B newId initId : String} {bmB : List Value} (T : XS P K mg x f C B newId initId bmB) : mg x = some (.ref C) := by
  obtain ⟨_, _, _, T⟩ := T.ex
  exact T.gC
section
variable {X : Cx} {C : Addr} {B newId initId : String} {bmB : List Value} {x f : Str}
theorem pmk_xs {a : Expr} {ta : TA} {p pos : Pos} {k : Nat} (T : XS X.prog X.K X.mg x f C B newId initId bmB) (hr : Room k X.A) (ha : PA X [a] ta) (hg : Gl X x := by rfl) (hdb : (x == ("__debug__" : Str)) = false := by decide)
    (he : starEach (a :: []) X.env = (false, eval a X.env) :: starEach [] X.env := by rfl) (hpl : (backTo pos (starEach [] X.env)).any (·.1) = false := by rfl) :
    PMk X (.Call (.Name x p) [a] [] pos) (tMkSup f C ta) := by
  obtain ⟨_, _, _, T⟩ := T.ex
  exact pmk_sup T hr ha hg hdb he hpl
theorem pe_byXs {a : Addr} {oe : Obj} {cls : Value} {d : Option Addr} {pn : List (Addr × Obj)} {e : Expr} {te : TE} {pos : Pos} (T : XS X.prog X.K X.mg x f C B newId initId bmB) (hz : Zc cls d oe) (hf : ∃ vs, oe.data = .fields vs) (he : PE (X.suite a ((a, oe) :: pn)) e te)
    (hb : attributeBase e f X.env (eval e X.env) = eval e X.env := by rfl) :
    PE (X.suite a ((a, oe) :: pn)) (.Attribute e f pos) (tBySup f C a cls d te) := by
  obtain ⟨_, _, _, T⟩ := T.ex
  exact pe_bySup T hz hf he hb
end
/-- an error of the class x leaves, with v at f in it | with nothing told -/
def Rz (K : Frag) (x f : Str) (v : V) (H : Hp) (E : XK) : Prop := ∀ d H', Same H H' → H' d = some (.xd [(f, v)]) → E (.ref (He.ga K x)) (some d) H'
def Rp (K : Frag) (x : Str) (H : Hp) (E : XK) : Prop := ∀ H', Same H H' → E (.ref (He.ga K x)) none H'
theorem g_mkSup {f : Str} {C : Addr} {l : TA} {σ : L2.St} {H : Hp} {R : XK} (h : l σ H fun vs H1 => ∃ v, vs = [v] ∧ ∀ d, H1 d = none → R (.ref C) (some d) (upd H1 d (.xd [(f, v)]))) : tMkSup f C l σ H R := h
theorem g_sup1 {f : Str} {v : V} {H : Hp} {R : Addr → Hp → Prop} (q : ∀ d H2, Same H H2 → H2 d = some (.xd [(f, v)]) → R d H2) : ∃ v', ([v] : List V) = [v'] ∧ ∀ d, H d = none → R d (upd H d (.xd [(f, v')])) := ⟨v, rfl, fun d hd => q d _ (Same.new hd) upd_same⟩
end Sm
/-! SmMore: enumerate(text), list(text). -/
namespace Sm
open PySem PySem.Spec PyProof.Rows L2
/-- a text's signs with their places, each pair new -/
def Itx (x : Str) : It := ⟨fun i _ => i < x.cps.size, fun i H v H' => ∃ T c, v = .ref T ∧ H T = none ∧ H' = upd H T (.tup [.int (i : Nat), .str ⟨#[c]⟩]) ∧ x.cps[i]? = some c, fun i _ => x.cps.size = i⟩
theorem turn_enumS {P : Program} {w : World} {K : PySem.W.Frag} {elts : List Expr} {kk : Nat} {tpos : Pos} (x : Str) (t : Tok) (e it : Addr) :
    Turn P w K (.Tuple elts kk tpos) (Itx x) [e, it] e (fun i h => (∃ old, IsEnum h e it ((i : Nat) : Int) old) ∧ h.IsStrIter it (strIterType x) x t i ∧ e ≠ it) where
  mem := by simp
  obj := fun i h st b hb => by
    obtain ⟨⟨old, he⟩, ⟨o, ho, hc, hd⟩, _⟩ := st
    have e' : b = e ∨ b = it := by simpa using hb
    rcases e' with z | z
    · rw [z]; exact ⟨_, he, fun v q => nomatch q⟩
    · rw [z]; exact ⟨o, ho, fun v q => by rw [hd] at q; cases q⟩
  keep := fun i h h' st k => let ⟨⟨old, he⟩, ⟨o, ho, r⟩, hne⟩ := st; ⟨⟨old, k e (by simp) _ he⟩, ⟨o, k it (by simp) _ ho, r⟩, hne⟩
  item := by
    intro X hP hw hK hc i pins s σ H E I hf st hg
    subst hP hw hK
    obtain ⟨⟨old, he⟩, hit, hne⟩ := st
    have hg' : i < x.cps.size := hg
    have hel : e < s.heap.objs.size := Heap.lt_size he
    have hil : it < s.heap.objs.size := by obtain ⟨_, q, _⟩ := hit; exact Heap.lt_size q
    refine wpAny_pyNext_enum_itemD (fp := [it]) (n := x.cps.size) (P := fun i v => ∃ c u, x.cps[i]? = some c ∧ v = .str ⟨#[c]⟩ u) (St := fun i h => h.IsStrIter it (strIterType x) x t i) (Draws.text (A := X.A.in1) (I.ok.hd hc) it x t) he hit hg' hne (by simpa using hne) fun u h' tk hu ho hit' hT hsz hk => ?_
    obtain ⟨c, tu, hcx, rfl⟩ := hu
    refine ⟨_, rfl, wpAny_letOwnedTupleGo_enum (s := { s with heap := h', toks := tk + 1 }) ho fun h'' he' sb => ?_⟩
    have hT2 : h''.get? s.heap.objs.size = some { cls := .type "tuple", data := .seq #[.int i tk, .str ⟨#[c]⟩ tu] } := (sb.2 _ (Nat.ne_of_gt hel)).trans hT
    have new : ObjOk X.prog X.w (upd H s.heap.objs.size (.tup [.int (i : Nat), .str ⟨#[c]⟩])) h'' s.heap.objs.size (.tup [.int (i : Nat), .str ⟨#[c]⟩]) :=
      ⟨by show 2 ≤ sizeLine; decide, [.int i tk, .str ⟨#[c]⟩ tu], .cons ⟨_, rfl⟩ (.cons ⟨_, rfl⟩ .nil), ⟨_, hT2, rfl, _, rfl⟩⟩
    have I1 : Inv X pins σ (upd H s.heap.objs.size (.tup [.int (i : Nat), .str ⟨#[c]⟩])) { s with heap := h'', toks := tk + 1 } :=
      I.turnedNew (ch := [e, it]) (fun b ob hb q => (sb.2 b (fun z => hb (by simp [z]))).trans (hk b ob (fun z => hb (by simp [z])) (fun z => hb (by simp [z])) q)) hf (Nat.le_refl _) new
    refine ⟨.ref s.heap.objs.size, _, I1, rfl, ⟨_, c, rfl, I.hok.fresh (Nat.le_refl _), rfl, hcx⟩, ⟨⟨Value.str ⟨#[c]⟩ tu, ?_⟩, ?_, hne⟩, fun b hb => ?_⟩
    · have e1 : ((i + 1 : Nat) : Int) = (i : Int) + 1 := by omega
      rw [e1]; exact he'
    · obtain ⟨o, q1, q2⟩ := hit'
      exact ⟨o, (sb.2 it (Ne.symm hne)).trans q1, q2⟩
    · have hb' : b < s.heap.objs.size := by
        have e' : b = e ∨ b = it := by simpa using hb
        rcases e' with z | z
        · rw [z]; exact hel
        · rw [z]; exact hil
      rw [upd_ne (Nat.ne_of_lt hb')]
      exact (hf b hb).1
  done := by
    intro X hP hw hK hc i pins s σ H E I hf st hg
    subst hP hw hK
    obtain ⟨⟨old, he⟩, hit, hne⟩ := st
    have hg' : x.cps.size = i := hg
    subst hg'
    obtain ⟨f0, f1, f2, f3, f4, f5⟩ := hf it (by simp)
    exact wpAny_pyNext_enum_endD (fp := [it]) (n := x.cps.size) (P := fun i v => ∃ c u, x.cps[i]? = some c ∧ v = .str ⟨#[c]⟩ u) (St := fun i h => h.IsStrIter it (strIterType x) x t i) (Draws.text (A := X.A.in1) (I.ok.hd hc) it x t) he hit fun h' eb => ⟨rfl, I.turned (t' := s.toks) (fun b o hb q => eb b o hb q) f0 f1 f3 f4 f5⟩
  self := fun A i s Q E st h => let ⟨⟨_, he⟩, _⟩ := st; wpAny_pyIter_enum he h
def iEnumS (ta : TA) : TI := fun σ H R => ta σ H fun vs H1 => ∃ x, vs = [.str x] ∧ R (Itx x) H1
theorem pi_enumS {X : Cx} {e : Expr} {ta : TA} {p pos tpos : Pos} {elts : List Expr} {kk : Nat} (hm : X.mg "enumerate" = none) (ha : PA X [e] ta) (hg : Gl X "enumerate" := by rfl) (hs : starEach [e] X.env = [(false, eval e X.env)] := by rfl) :
    PI X (.Tuple elts kk tpos) (.Call (.Name "enumerate" p) [e] [] pos) (iEnumS ta) := by
  refine ⟨fun pins s σ H R I h => ?_⟩
  refine Call_ (ld_blt I hg hm boot_enumerate (PyProof.Rows.callWith_type1 (thn (ha.run pos pins s σ H _ I h) fun us s1 ⟨vs, H1, I1, r1, q1⟩ => ?_) hs rfl))
  obtain ⟨x, ex, q⟩ := q1
  subst ex
  cases r1 with
  | cons r rr =>
    cases rr
    obtain ⟨t, rfl⟩ := r
    refine call_enumerate_str fun h' he hit hsz hk => wpAny_pyIter_enum he ?_
    have I2 : Inv X pins σ H1 { s1 with heap := h' } := I1.kept (t' := s1.toks) hk
    refine ⟨s1.heap.objs.size + 1, [s1.heap.objs.size + 1, s1.heap.objs.size], _, _, H1, rfl, I2, turn_enumS x t (s1.heap.objs.size + 1) s1.heap.objs.size, ⟨⟨.none, he⟩, hit, Nat.succ_ne_self _⟩, fun b hb => ?_, q⟩
    have e' : b = s1.heap.objs.size + 1 ∨ b = s1.heap.objs.size := by simpa using hb
    have hle : s1.heap.objs.size ≤ b := by
      rcases e' with z | z
      · rw [z]; exact Nat.le_add_right _ _
      · rw [z]; exact Nat.le_refl _
    exact I1.fpOk hle (I1.hok.fresh hle)
theorem walk_enumS {z : Str} : Walk (Itx z) z.cps.size (fun _ => True) (fun i H v H' => ∃ T c, v = .ref T ∧ H T = none ∧ H' = upd H T (.tup [.int (i : Nat), .str ⟨#[c]⟩]) ∧ z.cps[i]? = some c) where
  goes := fun i H h _ => h
  stops := fun H _ => rfl
  yields := fun i H x H' _ _ h => h
/-- the signs of a text, each a text -/
def signsV (z : Str) : List V := z.cps.toList.map fun c => V.str ⟨#[c]⟩
def rListS : List V → Hp → VK → Prop := fun xs H Q => ∃ z, xs = [.str z] ∧ z.length ≤ sizeLine ∧ ∀ l, H l = none → Q (.ref l) (upd H l (.lst (signsV z)))
theorem call_listS {X : Cx} (hc : X.calm = true) : CallR X (.type "list") rListS := by
  intro pins s σ H xs us Q I r h
  obtain ⟨z, rfl, hz, q⟩ := h
  obtain ⟨u, rfl, t, rfl⟩ := vals1 r
  refine call_list_str (I.ok.hd hc) z t (hn := hz) fun h' tk acc c' kp e hacc => ?_
  have hl : acc.size = z.cps.size := hacc.1
  have vals : Vals (signsV z) acc.toList := by
    have key : ∀ (ys : List V) (ws : List Value), ys.length = ws.length → (∀ (j : Nat) (y : V) (w : Value), ys[j]? = some y → ws[j]? = some w → RelV y w) → Vals ys ws := by
      intro ys
      induction ys with
      | nil =>
        intro ws hl _
        cases ws with
        | nil => exact .nil
        | cons _ _ => cases hl
      | cons y ys ih =>
        intro ws hl hh
        cases ws with
        | nil => cases hl
        | cons w ws => exact .cons (hh 0 y w rfl rfl) (ih ws (Nat.succ.inj hl) fun j a b ha hb => hh (j + 1) a b ha hb)
    refine key _ _ ?_ fun j y w hy hw => ?_
    · unfold signsV
      rw [List.length_map, Array.length_toList, Array.length_toList, hl]
    · obtain ⟨c, tu, hcx, rfl⟩ := hacc.2 j w (by simpa using hw)
      unfold signsV at hy
      rw [List.getElem?_map, Array.getElem?_toList, hcx] at hy
      cases hy
      exact ⟨_, rfl⟩
  have hlen : (signsV z).length ≤ sizeLine := by
    unfold signsV
    rw [List.length_map, Array.length_toList]
    exact hz
  exact ⟨.ref s.heap.objs.size, _, I.laid (t' := tk) kp (Nat.le_refl _) (show ObjOk X.prog X.w _ h' _ (.lst (signsV z)) from ⟨hlen, acc.toList, c', vals, by simpa using e⟩), rfl, q _ (I.hok.fresh (Nat.le_refl _))⟩
theorem g_listS {z : Str} {H : Hp} {Q : VK} (hl : z.length ≤ sizeLine) (q : ∀ l, H l = none → Q (.ref l) (upd H l (.lst (signsV z)))) : rListS [.str z] H Q := ⟨z, rfl, hl, q⟩
/-- what a turn of a comprehension leaves: D holds L -/
def LcAt (H : Hp) (D : Addr) (L : List V) (H' : Hp) : Prop := Same H H' ∧ H' D = some (.lst L)
theorem lc_add {H H1 : Hp} {D : Addr} {L L' : List V} {y : V} (hD : H D = none) (e : Same H H1) (h : H1 D = some (.lst L)) (hz : L.length < sizeLine) (hL : L' = L ++ [y]) : ∃ acc, H1 D = some (.lst acc) ∧ acc.length < sizeLine ∧ LcAt H D L' (upd H1 D (.lst (acc ++ [y]))) :=
  ⟨L, h, hz, fun a o ha => by
    have hne : a ≠ D := fun z => by
      rw [z, hD] at ha
      cases ha
    rw [upd_ne hne]
    exact e _ _ ha, by rw [upd_same, hL]⟩
theorem lc_keep {H H1 : Hp} {D : Addr} {L L' : List V} (e : Same H H1) (h : H1 D = some (.lst L)) (hL : L' = L) : LcAt H D L' H1 := ⟨e, by rw [hL]; exact h⟩
/-- a comprehension over a walk: F i the list behind i turns -/
theorem g_lcW {J : It} {n : Nat} {G : Hp → Prop} {Y : Nat → Hp → V → Hp → Prop} {g : TG} {tt : TT} {te : TE} {vs : List Nat} {σ : L2.St} {H : Hp} {Q : VK} (w : Walk J n G Y) (F : Nat → List V) (h0 : F 0 = []) (hG : ∀ H', Same H H' → G H')
    (hs : ∀ D i x H1 H2, H D = none → i < n → Same H H1 → H1 D = some (.lst (F i)) → Y i H1 x H2 → g x (wipe σ vs) H2 fun σ2 H3 => wipe σ2 vs = wipe σ vs ∧ tt σ2 H3 fun b H4 => if b = true then te σ2 H4 fun y H5 => ∃ acc, H5 D = some (.lst acc) ∧ acc.length < sizeLine ∧ LcAt H D (F (i + 1)) (upd H5 D (.lst (acc ++ [y]))) else LcAt H D (F (i + 1)) H4)
    (hd : ∀ D H', H D = none → Same H H' → H' D = some (.lst (F n)) → Q (.ref D) H') :
    ∀ D, H D = none → ∃ W : Nat → Nat → Hp → Prop, (∃ m, W 0 m (upd H D (.lst []))) ∧ ∀ i m H, W i m H →
      (J.stop i H ∧ Q (.ref D) H) ∨ (J.go i H ∧ ∃ Nx : Hp → Prop, (∀ H', Nx H' → ∃ m', m' < m ∧ W (i + 1) m' H') ∧ ∀ x H', J.yld i H x H' → g x (wipe σ vs) H' fun σ2 H2 => wipe σ2 vs = wipe σ vs ∧ tt σ2 H2 fun b H3 =>
        if b = true then te σ2 H3 fun y H4 => ∃ acc, H4 D = some (.lst acc) ∧ acc.length < sizeLine ∧ Nx (upd H4 D (.lst (acc ++ [y]))) else Nx H3) := fun D hD =>
  lc_it w (Qd := fun H => Q (.ref D) H) (fun i H' => LcAt H D (F i) H') ⟨Same.new hD, by rw [upd_same, h0]⟩ (fun i H' _ p => hG H' p.1) (fun i x H1 H2 hi p y => hs D i x H1 H2 hD hi p.1 p.2 y) (fun H' p => hd D H' hD p.1 p.2)
theorem g_lc {J : It} {n : Nat} {G : Hp → Prop} {Y : Nat → Hp → V → Hp → Prop} {wi : TI} {g : TG} {tt : TT} {te : TE} {vs : List Nat} {σ : L2.St} {H : Hp} {Q : VK} (w : Walk J n G Y) (hwi : ∀ R : It → Hp → Prop, R J H → wi σ H R) (F : Nat → List V) (h0 : F 0 = []) (hG : ∀ H', Same H H' → G H')
    (hs : ∀ D i x H1 H2, H D = none → i < n → Same H H1 → H1 D = some (.lst (F i)) → Y i H1 x H2 → g x (wipe σ vs) H2 fun σ2 H3 => wipe σ2 vs = wipe σ vs ∧ tt σ2 H3 fun b H4 => if b = true then te σ2 H4 fun y H5 => ∃ acc, H5 D = some (.lst acc) ∧ acc.length < sizeLine ∧ LcAt H D (F (i + 1)) (upd H5 D (.lst (acc ++ [y]))) else LcAt H D (F (i + 1)) H4)
    (hd : ∀ D H', H D = none → Same H H' → H' D = some (.lst (F n)) → Q (.ref D) H') : tLc wi g tt te vs σ H Q := hwi _ (g_lcW w F h0 hG hs hd)
theorem g_forS {J : It} {n : Nat} {G : Hp → Prop} {Y : Nat → Hp → V → Hp → Prop} {wi : TI} {g : TG} {tb : TS} {D : Ends} {σ : L2.St} {H : Hp} (w : Walk J n G Y) (hwi : ∀ R : It → Hp → Prop, R J H → wi σ H R) (Pv : Nat → L2.St → Hp → Prop) (h0 : Pv 0 σ H) (hG : ∀ i σ H, i ≤ n → Pv i σ H → G H)
    (hs : ∀ i x σ H H', i < n → Pv i σ H → Y i H x H' → g x σ H' fun σ2 H2 => tb { D with nx := Pv (i + 1), ct := Pv (i + 1), bk := D.nx } σ2 H2) (hd : ∀ σ H, Pv n σ H → D.nx σ H) : tFor wi g tb D σ H := hwi _ (for_it w Pv h0 hG hs hd)
theorem g_listSk {z : Str} {H : Hp} {Q : VK} (hl : z.length ≤ sizeLine) (k : ∀ l H2, H l = none → Same H H2 → H2 l = some (.lst (signsV z)) → Q (.ref l) H2) : rListS [.str z] H Q := g_listS hl fun l hn => k l _ hn (Same.new hn) upd_same
end Sm
/-! SmTry: several except clauses, each with a name or without. -/
namespace Sm
open PySem PySem.Spec PyProof.Rows L2
/-- a clause: its class, the slot of its name, what its suite reads -/
structure Cl where
  c : Value
  i : Option Nat
  ts : Addr → Value → Option Addr → TS
def dropAt : Option Nat → L2.St → L2.St
  | none, σ => σ
  | some i, σ => σ.set i none
def heldAt (a : Addr) : Option Nat → L2.St → L2.St
  | none, σ => σ
  | some i, σ => σ.set i (some (.ref a))
def endsAt (i : Option Nat) (D : Ends) : Ends := { nx := fun σ H => D.nx (dropAt i σ) H, rt := D.rt, bk := fun σ H => D.bk (dropAt i σ) H, ct := fun σ H => D.ct (dropAt i σ) H }
def wMix (K : PySem.W.Frag) (Wo : WX) (D : Ends) : List Cl → WX
  | [] => Wo
  | p :: r => fun cls d σ H => ∃ b, PySem.W.exmOne K cls p.c = some b ∧ (b = true → ∀ a, H a = none → p.ts a cls d (endsAt p.i D) (heldAt a p.i σ) H) ∧ (b = false → wMix K Wo D r cls d σ H)
inductive HdsMix (X : Cx) : List ExceptHandler → List Cl → Prop
  | nil : HdsMix X [] []
  | bare {x : Str} {c : Value} {ts : Addr → Value → Option Addr → TS} {b0 : Stmt} {bs : List Stmt} {p q : Pos} {hds : List ExceptHandler} {l : List Cl} (hc : Names X x c)
      (su : ∀ (a : Addr) (oe : Obj) (cls : Value) (d : Option Addr) (pn : List (Addr × Obj)), Zc cls d oe → (∃ vs, oe.data = .fields vs) → PSs (X.suite a ((a, oe) :: pn)) (b0 :: bs) (ts a cls d)) (r : HdsMix X hds l) :
      HdsMix X (.ExceptHandler (some (.Name x p)) none (b0 :: bs) q :: hds) (⟨c, none, ts⟩ :: l)
  | as {x n : Str} {i : Nat} {c : Value} {ts : Addr → Value → Option Addr → TS} {b0 : Stmt} {bs : List Stmt} {p q : Pos} {hds : List ExceptHandler} {l : List Cl} (hc : Names X x c) (hi : X.N[i]? = some n) (hl : X.env.kindOf n = some .local)
      (su : ∀ (a : Addr) (oe : Obj) (cls : Value) (d : Option Addr) (pn : List (Addr × Obj)), Zc cls d oe → (∃ vs, oe.data = .fields vs) → PSs (X.suite a ((a, oe) :: pn)) (b0 :: bs) (ts a cls d)) (r : HdsMix X hds l) :
      HdsMix X (.ExceptHandler (some (.Name x p)) (some n) (b0 :: bs) q :: hds) (⟨c, some i, ts⟩ :: l)
/-- an exception on its way, seen from the def that may catch it -/
structure Aloft (X : Cx) (pins : List (Addr × Obj)) (σ : L2.St) (H : Hp) (B : Heap) (o : Shared) (a : Addr) (cls : Value) (d : Option Addr) (s : Shared) : Prop where
  inv : Inv X pins σ H o
  nb : ∀ b u, o.heap.get? b = some u → b ∉ frs X.stack → B.get? b = some u
  up : o.heap.UpToSlots s.heap
  fl : HandSPX.FlyingZ B (X.env :: X.outer) a (Zc cls d) s.heap
  na : H a = none
  os : s.os = o.os
  ag : AllBare s.gens
section
variable {X : Cx} {pins : List (Addr × Obj)} {σ : L2.St} {H : Hp} {B : Heap} {o s : Shared} {a : Addr} {cls : Value} {d : Option Addr}
theorem Aloft.here (F : Aloft X pins σ H B o a cls d s) : Inv X pins σ H s := F.inv.landed F.nb F.fl.1 F.up F.os F.ag
theorem Aloft.sits (F : Aloft X pins σ H B o a cls d s) (hf : X.env.frame = some X.env.locals) : ∃ oe, Inv (X.suite a ((a, oe) :: (X.pn ++ pins))) [] σ H s ∧ s.heap.get? a = some oe ∧ Zc cls d oe ∧ ∃ vs, oe.data = .fields vs := by
  obtain ⟨oe, vs, g, hz, hd⟩ := F.fl.there
  have out : a ∉ frs (X.env :: X.outer) := fun m => by
    obtain ⟨_, u, gu, nf⟩ := F.fl.2.2.1.mem m
    rw [g] at gu
    injection gu with gu
    subst gu
    exact nf vs hd
  refine ⟨oe, F.here.suite g hd F.na (fun z => out ?_) (fun m => ?_), g, hz, vs, hd⟩
  · refine List.mem_filterMap.mpr ⟨X.env, List.mem_cons_self, ?_⟩
    rw [hf, z]
  · obtain ⟨ev, me, fe⟩ := List.mem_filterMap.mp m
    exact out (List.mem_filterMap.mpr ⟨ev, List.mem_cons_of_mem _ me, fe⟩)
theorem Aloft.again {Mo : Model} {A : Around} {E : Value → Shared → Prop} {Q : Unit → Shared → Prop} (F : Aloft X pins σ H B o a cls d s) (q : ∀ s', Aloft X pins σ H B o a cls d s' → Q () s') : wpAny Mo A (setFlight (.ref a) none) Q E s :=
  HandSPX.lands_againZ F.fl fun h' f u => q { s with heap := h' } ⟨F.inv, F.nb, F.up.trans u, f, F.na, F.os, F.ag⟩
/-- none of the clauses fits: it goes on -/
theorem Aloft.on {Wo : WX} {D : Ends} (F : Aloft X pins σ H B o a cls d s) (hs : X.stack = X.env :: X.outer) (hf : X.env.frame = some X.env.locals) (tk : Takes X Wo) (w : Wo cls d σ H) :
    wpAny (model X.prog X.w) X.A (handleBy (.ref a) X.env []) (SP X pins D) X.xe s := by
  refine wpAny_handleBy_nil ?_
  obtain ⟨_, _, _, oe, vs, T, _, _, g, _, dt, v1, _⟩ := id F.fl
  have off : wpAny (model X.prog X.w) X.A (setFlight (.ref a) X.env.frame) (fun _ s' => wpAny (model X.prog X.w) X.A (throw (.ref a) : Sem Flow) (SP X pins D) X.xe s') X.xe s := by
    rw [hf]
    refine HandSPX.setFlight_upZ F.fl fun h' f u => wpAny_throw (tk _ _ ⟨a, B, o, pins, σ, H, cls, d, rfl, F.inv, F.nb, F.up.trans u, ?_, F.na, F.os, F.ag, w⟩)
    rw [hs]
    exact .inr (.inr f)
  unfold PySem.passOn
  refine wpAny_bind (wpAny_field g dt v1 ?_)
  have ne : ¬ ((Value.ref T == Value.none) = true) := by simp
  rw [if_neg ne]
  first
    | exact wpAny_bind (wpAny_pure (wpAny_bind off))
    | exact wpAny_bind off
/-- the look at a clause's class -/
theorem Aloft.test {x : Str} {c : Value} {p : Pos} {E R : Value → Shared → Prop} (F : Aloft X pins σ H B o a cls d s) (hf : X.env.frame = some X.env.locals) (hc : Names X x c) (q : R c s) : wpAny (model X.prog X.w) (X.A.mark (some (.ref a))) (eval (.Name x p) X.env) R E s := by
  obtain ⟨oe, S, _⟩ := F.sits hf
  obtain ⟨hg, hdb, hm | ⟨hm, hv, hn⟩⟩ := hc
  · exact ld_glob (X := X.suite a ((a, oe) :: (X.pn ++ pins))) S hg hm q hdb
  · exact ld_blt (X := X.suite a ((a, oe) :: (X.pn ++ pins))) S hg hm hv q hn hdb
theorem mix_go {Wo : WX} {D : Ends} {hds : List ExceptHandler} {l : List Cl} (hh : HdsMix X hds l) (hs : X.stack = X.env :: X.outer) (hf : X.env.frame = some X.env.locals) (nd : X.N.Nodup) (tk : Takes X Wo) :
    ∀ (s : Shared), Aloft X pins σ H B o a cls d s → wMix X.K Wo D l cls d σ H → wpAny (model X.prog X.w) X.A (handleBy (.ref a) X.env hds) (SP X pins D) X.xe s := by
  induction hh with
  | nil => exact fun s F w => F.on hs hf tk w
  | @bare x c ts b0 bs p q hds l hc su r ih =>
    intro s F w
    obtain ⟨b, e, yes, no⟩ := w
    obtain ⟨oe, S, g, hz, _⟩ := F.sits hf
    refine wpAny_handleBy_cons (codeAny_handlers_test ?_) (by intro z; cases z)
    have ty : PySem.W.Looks (model X.prog X.w) s.heap (typeOf (.ref a)) cls := fun A Q E s k q => wpAny_typeOf_ref (k _ _ g) (by rw [hz.1]; exact q)
    refine F.test hf hc ((PySem.W.exm_one (M := model X.prog X.w) F.here.kIn ty e).here ?_)
    cases b with
    | false => exact ih s F (no rfl)
    | true =>
      refine codeAny_handlers_suite (F.again fun s4 F4 => ?_)
      obtain ⟨o4, S4, _, z4, v4⟩ := F4.sits hf
      refine wpAny_mono ((su a o4 cls d (X.pn ++ pins) z4 v4).run [] _ _ H _ S4 (yes rfl a F4.na)) (fun f s6 hsp => ?_) (fun _ _ z => False.elim z)
      cases f with
      | ret u =>
        obtain ⟨v6, σ6, H6, S6, r6, q6⟩ := hsp
        exact ⟨v6, σ6, H6, S6.unsuite F.inv.ok, r6, q6⟩
      | _ =>
        obtain ⟨σ6, H6, S6, q6⟩ := hsp
        exact ⟨σ6, H6, S6.unsuite F.inv.ok, q6⟩
  | @as x n i c ts b0 bs p q hds l hc hi hl su r ih =>
    intro s F w
    obtain ⟨b, e, yes, no⟩ := w
    obtain ⟨oe, S, g, hz, _⟩ := F.sits hf
    refine wpAny_handleBy_cons (codeAny_handlers_test ?_) (by intro z; cases z)
    have ty : PySem.W.Looks (model X.prog X.w) s.heap (typeOf (.ref a)) cls := fun A Q E s k q => wpAny_typeOf_ref (k _ _ g) (by rw [hz.1]; exact q)
    refine F.test hf hc ((PySem.W.exm_one (M := model X.prog X.w) F.here.kIn ty e).here ?_)
    cases b with
    | false => exact ih s F (no rfl)
    | true =>
      refine codeAny_handlers_suite_as (F.again fun s4 F4 => ?_)
      obtain ⟨o4, S4, _, z4, v4⟩ := F4.sits hf
      refine store_ok (X := X.suite a ((a, o4) :: (X.pn ++ pins))) (v := .ref a) S4 nd hi (.inl hl) rfl (fun s5 S5 => ?_) (.inr hl)
      refine wpAny_mono ((su a o4 cls d (X.pn ++ pins) z4 v4).run [] s5 _ H _ S5 (yes rfl a F4.na)) (fun f s6 hsp => ?_) (fun _ _ z => False.elim z)
      cases f with
      | ret u =>
        obtain ⟨v6, σ6, H6, S6, r6, q6⟩ := hsp
        exact gone_ok (S6.unsuite F.inv.ok) nd hi hl fun s7 J7 => ⟨v6, _, H6, J7, r6, q6⟩
      | _ =>
        obtain ⟨σ6, H6, S6, q6⟩ := hsp
        exact gone_ok (S6.unsuite F.inv.ok) nd hi hl fun s7 J7 => ⟨_, H6, J7, q6⟩
end
/-- try: body / except ..: .. / except .. as ..: .. -/
theorem ps_try_mix {X : Cx} {body : List Stmt} {h0 : ExceptHandler} {hds : List ExceptHandler} {l : List Cl} {pos : Pos} {tb : WX → TS} {Wo : WX} (hs : X.stack = X.env :: X.outer) (hf : X.env.frame = some X.env.locals) (nd : X.N.Nodup) (tk : Takes X Wo)
    (hb : ∀ (W : WX) (pn : List (Addr × Obj)) (xe : Value → Shared → Prop), Takes (X.tr pn xe) W → PassesOwn (model X.prog X.w) X.A X.env xe → PSs (X.tr pn xe) body (tb W)) (hh : HdsMix X (h0 :: hds) l) :
    PS X (.Try body (h0 :: hds) [] [] pos) (fun D σ H => tb (wMix X.K Wo D l) D σ H) := by
  refine ⟨fun pins s σ H D I h => wpAny_Try_except ?_⟩
  have ok := I.ok
  have fr : X.A.frames = some (X.env :: X.outer) := by rw [ok.frames, hs]
  let xe : Value → Shared → Prop := fun e s1 => wpAny (model X.prog X.w) X.A (noteFrame e X.env) (fun _ s2 => wpAny (model X.prog X.w) X.A (setFlight e none) (fun _ s3 => wpAny (model X.prog X.w) X.A (handleBy e X.env (h0 :: hds)) (SP X pins D) X.xe s3) X.xe s2) X.xe s1
  have tkI : Takes (X.tr (X.pn ++ pins) xe) (wMix X.K Wo D l) := fun u s' xx => by
    obtain ⟨a, B, sI, pins', σ', H', cls, d, rfl, J, nb, up, sky, na, os, ag, w⟩ := xx
    have sk : Sky B (X.env :: X.outer) a (Zc cls d) X.env.locals s'.heap := by rw [← hs]; exact sky
    exact Sky.land Zc.steady fr hf sk fun h3 f3 u3 => mix_go hh hs hf nd tk _ ⟨J.ofTry ok, nb, up.trans u3, f3, na, os, ag⟩ w
  refine wpAny_mono ((hb (wMix X.K Wo D l) (X.pn ++ pins) xe tkI PassesOwn.looking).run [] s σ H D (I.toTry _) h) (fun f s1 hsp => ?_) (fun e s1 he => he)
  cases f with
  | next =>
    obtain ⟨σ', H', J, q⟩ := hsp
    exact wpAny_execs_nil ⟨σ', H', J.ofTry ok, q⟩
  | ret u =>
    obtain ⟨v, σ', H', J, r, q⟩ := hsp
    exact ⟨v, σ', H', J.ofTry ok, r, q⟩
  | _ =>
    obtain ⟨σ', H', J, q⟩ := hsp
    exact ⟨σ', H', J.ofTry ok, q⟩
end Sm
/-! SmStep: steps that need nothing, found by their heads. -/
namespace Sm
open PySem PySem.Spec PyProof.Rows L2
/-- g is shown by s -/
class Stp (g : Prop) (s : outParam Prop) : Prop where
  h : s → g
class Stn (g : Prop) (s : outParam Prop) : Prop where
  h : s → g
/-- one step and as many as go -/
class Stq (g : Prop) (s : outParam Prop) : Prop where
  h : s → g
instance (priority := low) stn_refl {g : Prop} : Stn g g := ⟨id⟩
instance stn_more {g s r : Prop} [a : Stp g s] [b : Stn s r] : Stn g r := ⟨fun q => a.h (b.h q)⟩
instance stq_of {g s r : Prop} [a : Stp g s] [b : Stn s r] : Stq g r := ⟨fun q => a.h (b.h q)⟩
/-- slot i of σ holds v; σ' is σ with v at i -/
class Get (σ : L2.St) (i : Nat) (v : outParam V) : Prop where
  h : σ[i]? = some (some v)
class Put (σ : L2.St) (i : Nat) (v : V) (σ' : outParam L2.St) : Prop where
  h : σ.set i (some v) = σ'
instance get_0 {v : V} {r : L2.St} : Get (some v :: r) 0 v := ⟨rfl⟩
instance get_s {a : Option V} {r : L2.St} {i : Nat} {v : V} [g : Get r i v] : Get (a :: r) (i + 1) v := ⟨by rw [List.getElem?_cons_succ]; exact g.h⟩
instance put_0 {v : V} {a : Option V} {r : L2.St} : Put (a :: r) 0 v (some v :: r) := ⟨rfl⟩
instance put_s {a : Option V} {r r' : L2.St} {i : Nat} {v : V} [g : Put r i v r'] : Put (a :: r) (i + 1) v (a :: r') := ⟨by rw [List.set_cons_succ, g.h]⟩
section
variable {K : PySem.W.Frag} {σ σ' : L2.St} {H : Hp} {ta tb tc te tx : TE} {t u : TT} {x y z v : V} {r : R2} {Q : VK} {D : Ends} {tu tw tz : TS} {g : TG} {k : Nat} {l : TA}
instance i_var {i : Nat} [a : Get σ i v] : Stp (tVar i σ H Q) (Q v H) := ⟨fun q => ⟨v, a.h, q⟩⟩
instance i_c : Stp (tC v σ H Q) (Q v H) := ⟨id⟩
instance i_op : Stp (tOp r ta tb σ H Q) (ta σ H fun x H1 => tb σ H1 fun y H2 => r x y H2 Q) := ⟨id⟩
instance i_un {r : V → Hp → VK → Prop} : Stp (tUn r ta σ H Q) (ta σ H fun x H1 => r x H1 Q) := ⟨id⟩
instance i_I0 {f : Int → Int → V} {i j : Int} : Stp (rI0 f (.int i) (.int j) H Q) (Q (f i j) H) := ⟨g_I0⟩
instance i_U {f : Int → V} {i : Int} : Stp (rU f (.int i) H Q) (Q (f i) H) := ⟨g_U⟩
instance i_addI {i j : Int} : Stp (rAddU (.int i) (.int j) H Q) (Q (.int (i + j)) H) := ⟨g_addI⟩
instance i_isN1 : Stp (rIsN .non .non H Q) (Q (.bl true) H) := ⟨g_isN1⟩
instance i_notN1 : Stp (rNotN .non .non H Q) (Q (.bl false) H) := ⟨g_notN1⟩
instance i_isNr {a : Addr} : Stp (rIsN (.ref a) .non H Q) (Q (.bl false) H) := ⟨g_isNr⟩
instance i_notNr {a : Addr} : Stp (rNotN (.ref a) .non H Q) (Q (.bl true) H) := ⟨g_notNr⟩
theorem g_isNi {i : Int} (q : Q (.bl false) H) : rIsN (.int i) .non H Q := ⟨rfl, by rw [decide_eq_false (fun z => by cases z)]; exact q⟩
theorem g_notNi {i : Int} (q : Q (.bl true) H) : rNotN (.int i) .non H Q := ⟨rfl, by rw [decide_eq_false (fun z => by cases z)]; exact q⟩
theorem g_isNs {i : Str} (q : Q (.bl false) H) : rIsN (.str i) .non H Q := ⟨rfl, by rw [decide_eq_false (fun z => by cases z)]; exact q⟩
theorem g_notNs {i : Str} (q : Q (.bl true) H) : rNotN (.str i) .non H Q := ⟨rfl, by rw [decide_eq_false (fun z => by cases z)]; exact q⟩
theorem g_isNb {i : Bool} (q : Q (.bl false) H) : rIsN (.bl i) .non H Q := ⟨rfl, by rw [decide_eq_false (fun z => by cases z)]; exact q⟩
theorem g_notNb {i : Bool} (q : Q (.bl true) H) : rNotN (.bl i) .non H Q := ⟨rfl, by rw [decide_eq_false (fun z => by cases z)]; exact q⟩
instance i_isNi {i : Int} : Stp (rIsN (.int i) .non H Q) (Q (.bl false) H) := ⟨g_isNi⟩
instance i_notNi {i : Int} : Stp (rNotN (.int i) .non H Q) (Q (.bl true) H) := ⟨g_notNi⟩
instance i_isNs {i : Str} : Stp (rIsN (.str i) .non H Q) (Q (.bl false) H) := ⟨g_isNs⟩
instance i_notNs {i : Str} : Stp (rNotN (.str i) .non H Q) (Q (.bl true) H) := ⟨g_notNs⟩
instance i_isNb {i : Bool} : Stp (rIsN (.bl i) .non H Q) (Q (.bl false) H) := ⟨g_isNb⟩
instance i_notNb {i : Bool} : Stp (rNotN (.bl i) .non H Q) (Q (.bl true) H) := ⟨g_notNb⟩
instance i_eqII {i j : Int} : Stp (rEqU K (.int i) (.int j) H Q) (Q (.bl (decide (i = j))) H) := ⟨g_eqII⟩
instance i_neII {i j : Int} : Stp (rNeU K (.int i) (.int j) H Q) (Q (.bl (!decide (i = j))) H) := ⟨g_neII⟩
instance i_eqSS {i j : Str} : Stp (rEqU K (.str i) (.str j) H Q) (Q (.bl (decide (i = j))) H) := ⟨g_eqSS⟩
instance i_neSS {i j : Str} : Stp (rNeU K (.str i) (.str j) H Q) (Q (.bl (!decide (i = j))) H) := ⟨g_neSS⟩
instance i_inS {c : Nat} {z : Str} : Stp (rInU K (.str ⟨#[c]⟩) (.str z) H Q) (Q (.bl (decide (c ∈ z.cps.toList))) H) := ⟨g_inS⟩
instance i_niS {c : Nat} {z : Str} : Stp (rNiU K (.str ⟨#[c]⟩) (.str z) H Q) (Q (.bl (!decide (c ∈ z.cps.toList))) H) := ⟨g_niS⟩
instance i_and : Stp (tAndV ta tb σ H Q) (ta σ H fun x H1 => ∃ c, x = .bl c ∧ if c = true then tb σ H1 Q else Q (.bl false) H1) := ⟨id⟩
instance i_or : Stp (tOrV ta tb σ H Q) (ta σ H fun x H1 => ∃ c, x = .bl c ∧ if c = true then Q (.bl true) H1 else tb σ H1 Q) := ⟨id⟩
instance i_not : Stp (tNotV ta σ H Q) (ta σ H fun x H1 => ∃ c, x = .bl c ∧ Q (.bl (!c)) H1) := ⟨id⟩
instance i_if : Stp (tIf t ta tb σ H Q) (t σ H fun c H1 => if c = true then ta σ H1 Q else tb σ H1 Q) := ⟨id⟩
instance i_exb {R : Bool → Prop} {c : Bool} : Stp (∃ d, V.bl c = .bl d ∧ R d) (R c) := ⟨g_bl⟩
instance i_exi {R : Int → Prop} {c : Int} : Stp (∃ d, V.int c = .int d ∧ R d) (R c) := ⟨g_int⟩
instance i_exs {R : Str → Prop} {c : Str} : Stp (∃ d, V.str c = .str d ∧ R d) (R c) := ⟨g_str⟩
instance i_btru {R : Bool → Prop} {k : Bool} : Stp (∃ j, TruV K (.bl k) H j ∧ R j) (R k) := ⟨g_btru⟩
instance i_par2 {R : V → V → Prop} : Stp (∃ v w, ([x, y] : List V) = [v, w] ∧ R v w) (R x y) := ⟨g_par2⟩
instance i_cons {R : List V → Hp → Prop} : Stp (tCons ta l σ H R) (ta σ H fun x H1 => l σ H1 fun xs H2 => R (x :: xs) H2) := ⟨id⟩
instance i_nil {R : List V → Hp → Prop} : Stp (tNil σ H R) (R [] H) := ⟨id⟩
instance i_CB {r : List V → Hp → VK → Prop} : Stp (tCB r l σ H Q) (l σ H fun xs H1 => r xs H1 Q) := ⟨id⟩
instance i_call {sp : Sp} {E : XK} : Stp (tCall sp [] E l σ H Q) (l σ H fun vs H1 => sp (vs ++ []) H1 Q E) := ⟨id⟩
instance i_callS {sp : Sp} {E : L2.St → XK} : Stp (tCallS sp E l σ H Q) (l σ H fun vs H1 => sp vs H1 Q (E σ)) := ⟨id⟩
/-- a new tuple, a new list of xs -/
def NewT (xs : List V) (H : Hp) (Q : VK) : Prop := xs.length ≤ sizeLine ∧ ∀ p, H p = none → Q (.ref p) (upd H p (.tup xs))
def NewL (xs : List V) (H : Hp) (Q : VK) : Prop := xs.length ≤ sizeLine ∧ ∀ p, H p = none → Q (.ref p) (upd H p (.lst xs))
theorem g_newTt {xs : List V} (hn : xs.length ≤ sizeLine) (k : ∀ p H2, H p = none → Same H H2 → H2 p = some (.tup xs) → Q (.ref p) H2) : NewT xs H Q := g_newT hn k
theorem g_newLl {xs : List V} (hn : xs.length ≤ sizeLine) (k : ∀ p H2, H p = none → Same H H2 → H2 p = some (.lst xs) → Q (.ref p) H2) : NewL xs H Q := g_newL hn k
instance i_tup : Stp (tTup l σ H Q) (l σ H fun xs H1 => NewT xs H1 Q) := ⟨id⟩
instance i_lst : Stp (tLst l σ H Q) (l σ H fun xs H1 => NewL xs H1 Q) := ⟨id⟩
instance i_seq : Stp (tSeq tu tw D σ H) (tu { D with nx := tw D } σ H) := ⟨id⟩
instance i_asg : Stp (tAsg te g D σ H) (te σ H fun x H1 => g x σ H1 D.nx) := ⟨id⟩
instance i_name {i : Nat} {R : L2.St → Hp → Prop} [a : Put σ i v σ'] : Stp (gName i v σ H R) (R σ' H) := ⟨fun q => by
  show R (σ.set i (some v)) H
  rw [a.h]
  exact q⟩
instance i_ret : Stp (tRet te D σ H) (te σ H D.rt) := ⟨id⟩
instance i_ifS : Stp (tIfS t tu tw D σ H) (t σ H fun b H1 => if b = true then tu D σ H1 else tw D σ H1) := ⟨id⟩
instance i_test {R : Bool → Hp → Prop} : Stp (tTest te σ H R) (te σ H fun x H' => ∃ k, x = .bl k ∧ R k H') := ⟨id⟩
instance i_B {R : Bool → Hp → Prop} : Stp (tB te σ H R) (te σ H fun x H' => ∃ k, x = .bl k ∧ R k H') := ⟨id⟩
instance i_tand {R : Bool → Hp → Prop} : Stp (tAnd t u σ H R) (t σ H fun b H1 => if b = true then u σ H1 R else R false H1) := ⟨id⟩
instance i_tor {R : Bool → Hp → Prop} : Stp (tOr t u σ H R) (t σ H fun b H1 => if b = true then R true H1 else u σ H1 R) := ⟨id⟩
instance i_tnot {R : Bool → Hp → Prop} : Stp (tNot t σ H R) (t σ H fun b H1 => R (!b) H1) := ⟨id⟩
instance i_next : Stp (tNext D σ H) (D.nx σ H) := ⟨id⟩
instance i_drop : Stp (tDrop te D σ H) (te σ H fun _ H1 => D.nx σ H1) := ⟨id⟩
instance i_retN : Stp (tRetN D σ H) (D.rt .non H) := ⟨id⟩
instance i_par {i j : Nat} : Stp (tPar i j l D σ H) (l σ H fun vs H1 => ∃ v w, vs = [v, w] ∧ gName i v σ H1 fun σ1 H2 => gName j w σ1 H2 D.nx) := ⟨id⟩
instance i_sl {r : V → Option Int → Option Int → Hp → VK → Prop} {tl th : TO} : Stp (tSl r te tl th σ H Q) (te σ H fun x H1 => tl σ H1 fun l H2 => th σ H2 fun u H3 => r x l u H3 Q) := ⟨id⟩
instance i_po0 {R : Option Int → Hp → Prop} : Stp (tNoPart σ H R) (R none H) := ⟨id⟩
instance i_po1 {R : Option Int → Hp → Prop} : Stp (tPart te σ H R) (te σ H fun x H1 => ∃ i, x = .int i ∧ R (some i) H1) := ⟨id⟩
instance i_abs {i : Int} : Stp (rAbs [.int i] H Q) (Q (.int (i.natAbs : Nat)) H) := ⟨g_abs⟩
instance i_min {i j : Int} : Stp (rMin2 [.int i, .int j] H Q) (Q (.int (if j < i then j else i)) H) := ⟨g_min⟩
instance i_max {i j : Int} : Stp (rMax2 [.int i, .int j] H Q) (Q (.int (if j > i then j else i)) H) := ⟨g_max⟩
instance i_intI {i : Int} : Stp (rIntU [.int i] H Q) (Q (.int i) H) := ⟨g_intI⟩
instance i_intB {b : Bool} : Stp (rIntU [.bl b] H Q) (Q (.int (if b then 1 else 0)) H) := ⟨g_intB⟩
instance i_T {A B : Prop} : Stp (if true = true then A else B) A := ⟨iteT⟩
instance i_F {A B : Prop} : Stp (if false = true then A else B) B := ⟨iteF⟩
instance i_nT {A B : Prop} : Stp (if (!true) = true then A else B) B := ⟨iteF⟩
instance i_nF {A B : Prop} : Stp (if (!false) = true then A else B) A := ⟨iteT⟩
theorem g_augV {i : Nat} {f : Int → Int → Int} {a : Int} (h : Get σ i (.int a)) (q : te σ H fun y H1 => ∃ b, y = .int b ∧ gName i (.int (f a b)) σ H1 D.nx) : tAug i te (ipI f) D σ H := g_aug h.h q
instance i_aug {i : Nat} {f : Int → Int → Int} {a : Int} [h : Get σ i (.int a)] : Stp (tAug i te (ipI f) D σ H) (te σ H fun y H1 => ∃ b, y = .int b ∧ gName i (.int (f a b)) σ H1 D.nx) := ⟨g_augV h⟩
/-- a part of an f-string -/
def FmtV (x : V) (H : Hp) (Q : VK) : Prop := (∃ y : Str, x = .str y ∧ y.length ≤ sizeLine ∧ Q (.str y) H) ∨ ∃ i : Int, x = .int i ∧ i.natAbs.log2 < 1920 ∧ Q (.str (toString i)) H
theorem g_fmtI {i : Int} (h : i.natAbs.log2 < 1920) (q : Q (.str (toString i)) H) : FmtV (.int i) H Q := .inr ⟨i, rfl, h, q⟩
theorem g_fmtS {z : Str} (h : z.length ≤ sizeLine) (q : Q (.str z) H) : FmtV (.str z) H Q := .inl ⟨z, rfl, h, q⟩
instance i_fmt : Stp (tFmt te σ H Q) (te σ H fun x H1 => FmtV x H1 Q) := ⟨id⟩
instance i_js0 {acc : Str} {R : Str → Hp → Prop} : Stp (tJs [] acc σ H R) (R acc H) := ⟨id⟩
instance i_js1 {acc : Str} {R : Str → Hp → Prop} {ts : List TE} : Stp (tJs (te :: ts) acc σ H R) (te σ H fun x H1 => ∃ y : Str, x = .str y ∧ (acc ++ y).length ≤ sizeLine ∧ tJs ts (acc ++ y) σ H1 R) := ⟨id⟩
theorem g_len {z : Str} {A : Prop} (h : z.length ≤ sizeLine) (a : A) : z.length ≤ sizeLine ∧ A := ⟨h, a⟩
/-- the unpacking of a tuple that is known -/
theorem g_gTup {n : Nat} {t : TGs} {p : Addr} {xs : List V} {R : L2.St → Hp → Prop} (h : SqT K H p xs) (hl : xs.length = n) (q : t xs σ H R) : gTup K n t (.ref p) σ H R := ⟨p, xs, rfl, h, hl, q⟩
instance i_gCons {g : TG} {t : TGs} {xs : List V} {R : L2.St → Hp → Prop} : Stp (gCons g t (x :: xs) σ H R) (g x σ H fun σ1 H1 => t xs σ1 H1 R) := ⟨fun q => ⟨x, xs, rfl, q⟩⟩
instance i_gNil {R : L2.St → Hp → Prop} : Stp (gNil [] σ H R) (R σ H) := ⟨fun q => ⟨rfl, q⟩⟩
instance i_gSub {to ti : TE} {ts : TSet} {R : L2.St → Hp → Prop} : Stp (gSub to ti ts v σ H R) (to σ H fun o H1 => ti σ H1 fun i H2 => ts o i v H2 fun H3 => R σ H3) := ⟨id⟩
theorem g_tM1 {r : V → List V → Hp → VK → Prop} (h : ta σ H fun x H1 => (∃ a, x = .str a) ∧ tb σ H1 fun y H2 => r x [y] H2 Q) : tM1 r ta tb σ H Q := h
instance i_tM1 {r : V → List V → Hp → VK → Prop} : Stp (tM1 r ta tb σ H Q) (ta σ H fun x H1 => (∃ a, x = .str a) ∧ tb σ H1 fun y H2 => r x [y] H2 Q) := ⟨id⟩
instance i_isStr {z : Str} {A : Prop} : Stp ((∃ a, V.str z = .str a) ∧ A) A := ⟨fun q => ⟨⟨z, rfl⟩, q⟩⟩
theorem g_split {a b : Str} (h1 : (b.length == 0) = false) (h2 : a.length + 2 ≤ sizeLine) (k : ∀ p H', H p = none → Same H H' → H' p = some (.lst ((PySem.Txt.split a b).map V.str)) → Q (.ref p) H') : ∃ a' b', V.str a = .str a' ∧ [V.str b] = [.str b'] ∧ (b'.length == 0) = false ∧ a'.length + 2 ≤ sizeLine ∧ rNewStrs (PySem.Txt.split a' b') H Q :=
  ⟨a, b, rfl, rfl, h1, h2, fun p hp => k p _ hp (Same.new hp) upd_same⟩
-- a test's truth, known kinds of a value
instance (priority := high) i_isiII {i : Int} : Stp (rIsi K [.int i, .ty "int"] H Q) (Q (.bl true) H) := ⟨g_intT ty_int rfl⟩
instance i_isiIB {i : Int} : Stp (rIsi K [.int i, .ty "bool"] H Q) (Q (.bl false) H) := ⟨g_boolF ty_int rfl⟩
instance i_isiIS {i : Int} : Stp (rIsi K [.int i, .ty "str"] H Q) (Q (.bl false) H) := ⟨g_strF ty_int rfl⟩
instance i_isiIT {i : Int} : Stp (rIsi K [.int i, .ty "tuple"] H Q) (Q (.bl false) H) := ⟨g_tupleF ty_int rfl⟩
instance i_isiIL {i : Int} : Stp (rIsi K [.int i, .ty "list"] H Q) (Q (.bl false) H) := ⟨g_listF ty_int rfl⟩
instance i_isiID {i : Int} : Stp (rIsi K [.int i, .ty "dict"] H Q) (Q (.bl false) H) := ⟨g_dictF ty_int rfl⟩
instance i_isiBI {i : Bool} : Stp (rIsi K [.bl i, .ty "int"] H Q) (Q (.bl true) H) := ⟨g_intT ty_bl rfl⟩
instance i_isiBB {i : Bool} : Stp (rIsi K [.bl i, .ty "bool"] H Q) (Q (.bl true) H) := ⟨g_boolT ty_bl rfl⟩
instance i_isiBS {i : Bool} : Stp (rIsi K [.bl i, .ty "str"] H Q) (Q (.bl false) H) := ⟨g_strF ty_bl rfl⟩
instance i_isiBT {i : Bool} : Stp (rIsi K [.bl i, .ty "tuple"] H Q) (Q (.bl false) H) := ⟨g_tupleF ty_bl rfl⟩
instance i_isiBL {i : Bool} : Stp (rIsi K [.bl i, .ty "list"] H Q) (Q (.bl false) H) := ⟨g_listF ty_bl rfl⟩
instance i_isiBD {i : Bool} : Stp (rIsi K [.bl i, .ty "dict"] H Q) (Q (.bl false) H) := ⟨g_dictF ty_bl rfl⟩
instance i_isiSI {i : Str} : Stp (rIsi K [.str i, .ty "int"] H Q) (Q (.bl false) H) := ⟨g_intF ty_str rfl⟩
instance i_isiSB {i : Str} : Stp (rIsi K [.str i, .ty "bool"] H Q) (Q (.bl false) H) := ⟨g_boolF ty_str rfl⟩
instance i_isiSS {i : Str} : Stp (rIsi K [.str i, .ty "str"] H Q) (Q (.bl true) H) := ⟨g_strT ty_str rfl⟩
instance i_isiST {i : Str} : Stp (rIsi K [.str i, .ty "tuple"] H Q) (Q (.bl false) H) := ⟨g_tupleF ty_str rfl⟩
instance i_isiSL {i : Str} : Stp (rIsi K [.str i, .ty "list"] H Q) (Q (.bl false) H) := ⟨g_listF ty_str rfl⟩
instance i_isiSD {i : Str} : Stp (rIsi K [.str i, .ty "dict"] H Q) (Q (.bl false) H) := ⟨g_dictF ty_str rfl⟩
instance i_isiNI : Stp (rIsi K [.non, .ty "int"] H Q) (Q (.bl false) H) := ⟨g_intF ty_non rfl⟩
instance i_isiNB : Stp (rIsi K [.non, .ty "bool"] H Q) (Q (.bl false) H) := ⟨g_boolF ty_non rfl⟩
instance i_isiNS : Stp (rIsi K [.non, .ty "str"] H Q) (Q (.bl false) H) := ⟨g_strF ty_non rfl⟩
instance i_isiNT : Stp (rIsi K [.non, .ty "tuple"] H Q) (Q (.bl false) H) := ⟨g_tupleF ty_non rfl⟩
instance i_isiNL : Stp (rIsi K [.non, .ty "list"] H Q) (Q (.bl false) H) := ⟨g_listF ty_non rfl⟩
instance i_isiND : Stp (rIsi K [.non, .ty "dict"] H Q) (Q (.bl false) H) := ⟨g_dictF ty_non rfl⟩
end
end Sm
/-! SmLam: defs that know that no repr is under way, repr of data, a captured def called, a lambda handed to a def that catches. -/
namespace Sm
open PySem PySem.Spec PyProof.Rows L2 LamX
/-! ### defs called where no repr is under way -/
structure FnG (P : Program) (w : World) (K : PySem.W.Frag) (mg : Str → Option Value) (base : Heap) (k : Nat) (f : Addr) (fd : FuncData) (ps : List Str) (sp : Sp) : Prop where
  len : ∀ vs H Q E, sp vs H Q E → vs.length = ps.length
  go : ∀ (A : Around) (outer : List Env) (s : Shared) (H : Hp) (args : Args) (us : List Value) (vs : List V) (Q : VK) (E : XK), A.guards = some [] → Room k A → Env0 P w K mg base A outer s H → BindsTo s fd args (ps.zip us) → Vals vs us →
    sp vs H Q E → codeAny (model P w) A (.call (.ref f) args) (CR (L2.CX P w) outer P w H s Q E) s
section
variable {P : Program} {w : World} {K : PySem.W.Frag} {mg : Str → Option Value} {base : Heap} {x : Str} {params : Arguments} {body : List Stmt} {scope : Scope} {fd : FuncData} {N ps : List Str} {k : Nat} {sp : Sp}
theorem FnG.mk1 (F : FunD K x x params body scope [] [] (He.fAd K (x, none)) fd) (S : FnScope N ps scope) (len : ∀ vs H Q E, sp vs H Q E → vs.length = ps.length)
    (hb : ∀ (A : Around) (outer : List Env) (s : Shared) (H : Hp) (vs : List V) (Q : VK) (E : XK), A.guards = some [] → Room k (A.deeper (envOfC x scope s.heap.objs.size (He.fAd K (x, none)) (.ref (He.cT K (x, none)).1))) → sp vs H Q E →
      ∃ t, PSs (cxOf (L2.CX P w) P w K mg base N x scope (He.fAd K (x, none)) (.ref (He.cT K (x, none)).1) A outer s H E) body t ∧ t { nx := fun _ H' => Q .non H', rt := Q } (start N vs) H) : FnG P w K mg base (k + 1) (He.fAd K (x, none)) fd ps sp := by
  obtain ⟨oc, od, dV, kV, doc, pm, an, cdv, ct, osl, rfl, lk, hcd, _, _⟩ := F.ex
  obtain ⟨c, rfl⟩ := He.codeIn_ref hcd
  have e : He.codeOf K (x, none) = c := He.codeOf_eq lk rfl
  refine ⟨len, fun A outer s H args us vs Q E gd hr e0 hbd r hsp => run_ofS lk hcd S hr e0 hbd r (len _ _ _ _ hsp) fun hr' => ?_⟩
  have e' : (He.cT K (x, none)).1 = c := e
  rw [← e'] at hr' ⊢
  exact hb A outer s H vs Q E gd hr' hsp
end
structure FnH (P : Program) (w : World) (K : PySem.W.Frag) (mg : Str → Option Value) (base : Heap) (k : Nat) (x : Str) (ps : List Str) (sp : Sp) : Prop where
  ex : ∃ f fd, FnG P w K mg base k f fd ps sp ∧ mg x = some (.ref f) ∧ PySem.W.keepIn K (.ref f) = true ∧ Binds K fd ps []
section
variable {X : Cx} {k j : Nat} {x : Str} {ps : List Str} {sp : Sp} {p pos : Pos} {e : Expr} {es : List Expr} {t : TA} {E : XK}
theorem pe_fnG (G : FnH X.prog X.w X.K X.mg X.base k x ps sp) (gd : X.A.guards = some []) (hr : Room j X.A) (ha : PA X (e :: es) t) (hk : k ≤ j := by decide) (hg : Gl X x := by rfl) (hdb : (x == ("__debug__" : Str)) = false := by decide)
    (he : starEach (e :: es) X.env = (false, eval e X.env) :: starEach es X.env := by rfl) (hpl : (backTo pos (starEach es X.env)).any (·.1) = false := by rfl) :
    PE X (.Call (.Name x p) (e :: es) [] pos) (tCall sp [] E0 t) := by
  obtain ⟨f, fd, F, m, kp, b⟩ := G.ex
  refine ⟨fun pins s σ H Q I h => wpAny_Call_Name_kw (ld_glob I hg m ?_ hdb)⟩
  refine PySem.W.callWith_K (h₀ := X.base) I.ok.mod.kin kp (thn (ha.run pos pins s σ H _ I h) fun us s1 hh => ?_) he hpl
  obtain ⟨vs, H1, I1, r, q⟩ := hh
  refine ⟨I1.kIn, wpAny_call ?_⟩
  have r2 : Vals (vs ++ []) (us ++ []) := r.append .nil
  have q2 : sp (vs ++ []) H1 Q E0 := q
  have hl : (us ++ []).length = ps.length := by rw [← r2.length]; exact F.len _ _ _ _ q2
  refine codeAny_mono (F.go X.A X.stack s1 H1 ⟨us, []⟩ (us ++ []) (vs ++ []) Q E0 gd (hr.mono hk) I1.env0 (b s1 us I1.kIn hl) r2 q2) fun z s2 hz => ?_
  cases z with
  | error e => exact passL (X := X) pins σ H1 s1 e s2 I1 hz
  | ok fl =>
    cases fl with
    | ret u => exact I1.after hz
    | _ => exact False.elim hz
/-- a name of this def, or of one around it, that holds one of some defs, called -/
def tCallW (i : Nat) (S : Addr → Prop) (sp : Sp) (E : XK) (t : TA) : TE := fun σ H Q => (∃ f, σ[i]? = some (some (.ref f)) ∧ S f) ∧ t σ H fun vs H1 => sp vs H1 Q E
theorem pe_fnW {i : Nat} {S : Addr → Prop} (G : ∀ f, S f → ∃ fd, FnOk X.prog X.w X.K X.mg X.base (L2.CX X.prog X.w) k f fd ps sp ∧ PySem.W.keepIn X.K (.ref f) = true ∧ Binds X.K fd ps []) (hr : Room j X.A) (hx : Passes (L2.CX X.prog X.w) X E) (hN : X.N[i]? = some x) (hv : Vis X.env.scope x)
    (ha : PA X (e :: es) t) (hk : k ≤ j := by decide) (hd : (x == ("__debug__" : Str)) = false := by decide) (hcd : (x == ("__classdict__" : Str)) = false := by decide)
    (he : starEach (e :: es) X.env = (false, eval e X.env) :: starEach es X.env := by rfl) (hpl : (backTo pos (starEach es X.env)).any (·.1) = false := by rfl) :
    PE X (.Call (.Name x p) (e :: es) [] pos) (tCallW i S sp E t) := by
  refine ⟨fun pins s σ H Q I h => ?_⟩
  obtain ⟨⟨f, hs, hf⟩, ht⟩ := h
  obtain ⟨fd, F, kp, b⟩ := G f hf
  refine wpAny_Call_Name_kw (thn ((pe_var (pos := p) hN hv hd hcd).run pins s σ H (fun v H1 => v = .ref f ∧ H1 = H) I ⟨.ref f, hs, rfl, rfl⟩) fun u s1 hh => ?_)
  obtain ⟨v, H1, I1, r1, rfl, rfl⟩ := hh
  obtain rfl : u = Value.ref f := r1
  refine PySem.W.callWith_K (h₀ := X.base) I.ok.mod.kin kp (thn (ha.run pos pins s1 σ _ _ I1 ht) fun us s2 hh => ?_) he hpl
  obtain ⟨vs, H2, I2, r, q⟩ := hh
  exact ⟨I2.kIn, run_fn F (hr.mono hk) b .nil hx I2 r (by rw [List.append_nil]; exact q)⟩
/-! ### repr -/
def rRepr (K : PySem.W.Frag) : List V → Hp → VK → Prop := fun xs H Q => ∃ x d, xs = [x] ∧ Dp K H x d ∧ (d.showable = true ∧ d.hasDict = false ∧ d.depth ≤ 8 ∧ d.shown.length ≤ sizeLine) ∧ Q (.str d.shown) H
theorem call_reprG (gd : X.A.guards = some []) (hu : X.A.units + 64 < cLine) : CallR X (.builtin "repr") (rRepr X.K) := by
  intro pins s σ H xs us Q I r h
  obtain ⟨x, d, rfl, hd, ⟨h1, h2, h3, h4⟩, q⟩ := h
  obtain ⟨u, rfl, ru⟩ := vals1 r
  obtain ⟨as, rd⟩ := Dp.reads I d x u hd ru
  have nd : d.hasDict = true → sysModules ∉ as := fun z => by rw [h2] at z; cases z
  cases hd with
  | non =>
    obtain rfl : u = Value.none := ru
    simp only [PyData.shown] at q
    exact PySem.P.repr_of_none ⟨.str _, H, I.tok _, ⟨_, rfl⟩, q⟩
  | bl b =>
    obtain rfl : u = Value.bool b := ru
    simp only [PyData.shown] at q
    exact PySem.P.repr_of_bool ⟨.str _, H, I.tok _, ⟨_, rfl⟩, q⟩
  | int i =>
    obtain ⟨t, rfl⟩ := ru
    simp only [PyData.shown] at q
    exact PySem.P.repr_of_int (by simpa [PyData.showable] using h1) ⟨.str _, H, I.tok _, ⟨_, rfl⟩, q⟩
  | str z =>
    obtain ⟨t, rfl⟩ := ru
    simp only [PyData.shown] at q h4
    exact PySem.P.repr_of_str ⟨.str _, H, I.tok _, ⟨_, rfl⟩, q⟩ h4
  | @lst a _ _ _ _ =>
    obtain rfl : u = Value.ref a := ru
    exact PySem.repr_of_reads' rd h1 nd gd (by omega) (fun _ _ e => e) (fun h' u tk hk => ⟨.str _, H, I.kept (t' := tk) hk, ⟨u, rfl⟩, q⟩) h4
  | @tup a _ _ _ _ =>
    obtain rfl : u = Value.ref a := ru
    exact PySem.repr_of_reads' rd h1 nd gd (by omega) (fun _ _ e => e) (fun h' u tk hk => ⟨.str _, H, I.kept (t' := tk) hk, ⟨u, rfl⟩, q⟩) h4
theorem call_reprR {j : Nat} (gd : X.A.guards = some []) (hr : Room j X.A) : CallR X (.builtin "repr") (rRepr X.K) := call_reprG gd (by have := hr.un; omega)
/-- .. of what is neither a list nor a tuple -/
def flat0 : PyData → Bool
  | .none => true
  | .bool _ => true
  | .int _ => true
  | .str _ => true
  | _ => false
def rReprL (K : PySem.W.Frag) : List V → Hp → VK → Prop := fun xs H Q => ∃ x d, xs = [x] ∧ Dp K H x d ∧ (flat0 d = true ∧ d.showable = true ∧ d.shown.length ≤ sizeLine) ∧ Q (.str d.shown) H
theorem call_reprL : CallR X (.builtin "repr") (rReprL X.K) := by
  intro pins s σ H xs us Q I r h
  obtain ⟨x, d, rfl, hd, ⟨h0, h1, h4⟩, q⟩ := h
  obtain ⟨u, rfl, ru⟩ := vals1 r
  cases hd with
  | non =>
    obtain rfl : u = Value.none := ru
    simp only [PyData.shown] at q
    exact PySem.P.repr_of_none ⟨.str _, H, I.tok _, ⟨_, rfl⟩, q⟩
  | bl b =>
    obtain rfl : u = Value.bool b := ru
    simp only [PyData.shown] at q
    exact PySem.P.repr_of_bool ⟨.str _, H, I.tok _, ⟨_, rfl⟩, q⟩
  | int i =>
    obtain ⟨t, rfl⟩ := ru
    simp only [PyData.shown] at q
    exact PySem.P.repr_of_int (by simpa [PyData.showable] using h1) ⟨.str _, H, I.tok _, ⟨_, rfl⟩, q⟩
  | str z =>
    obtain ⟨t, rfl⟩ := ru
    simp only [PyData.shown] at q h4
    exact PySem.P.repr_of_str ⟨.str _, H, I.tok _, ⟨_, rfl⟩, q⟩ h4
  | lst _ _ => cases h0
  | tup _ _ => cases h0
end
/-! ### a def that catches what the lambda that it gets raises -/
structure Catch (P : Program) (w : World) (K : PySem.W.Frag) (mg : Str → Option Value) (base : Heap) (x a : Str) (N : List Str) (args : Arguments) (body : List Stmt) (scope : Scope) (TT : (XK → Hp → VK → Prop) → Hp → VK → Prop) : Prop where
  f : ∃ fd, FunD K x x args body scope [] [] (He.fAd K (x, none)) fd ∧ Binds K fd [a] []
  g : mg x = some (.ref (He.fAd K (x, none)))
  sc : FnScope N [a] scope
  n0 : N[0]? = some a
  va : Vis scope a
  gv : ∀ {X : Cx} (cdv : Value) (q : Str), X.prog = P → X.w = w → X.K = K → X.mg = mg → X.base = base → X.A.guards = some [] → X.A.units + 100 < cLine → GivesTo X N x scope (He.fAd K (x, none)) cdv body a q TT
section
variable {X : Cx}
theorem pe_catch {T : List (Addr × Str)} {TT : (XK → Hp → VK → Prop) → Hp → VK → Prop} {x a : Str} {k j : Nat} {ag : Arguments} {bg : List Stmt} {sg : Scope} {Ng : List Str} {c P : Addr}
    {params : Arguments} {body : Expr} {scope : Scope} {t : XK → TE} {p lpos pos : Pos} (G : Catch X.prog X.w X.K X.mg X.base x a Ng ag bg sg TT) (gd : X.A.guards = some [])
    (TB : TabB X.base X.mg c P) (hcode : X.env.code = .ref c) (hmT : (P, X.env.qual ++ "<lambda>") ∈ T) (hu : ∀ p ∈ T, p.1 = P → p.2 = X.env.qual ++ "<lambda>") (hr : Room j X.A) (L : LamS X.env.scope scope) (hk : k + 2 ≤ j)
    (hbody : ∀ (A : Around) (outer : List Env) (s : Shared) (H : Hp) (E : XK) (f c' : Addr), Room k (A.deeper (lamEnv X scope s.heap.objs.size f c')) → PE (lamCx X A outer s H E scope f c') body (t E))
    (hdef : defaultsOf params X.env = ([], []) := by rfl) (hbind : ∀ (q : Str) (cl : List (Str × Addr)) (pm cv ctv : Value), bindArgs (PySem.W.kla_fn "<lambda>" q params body scope cl pm cv ctv) ⟨[], []⟩ = pure [] := by intros; rfl)
    (hg : Gl X x := by rfl) (hdb : (x == ("__debug__" : Str)) = false := by decide) (hd : (a == ("__debug__" : Str)) = false := by decide) (hcd : (a == ("__classdict__" : Str)) = false := by decide) :
    PE X (.Call (.Name x p) [.Lambda params body scope lpos] [] pos) (tLam T TT t) := by
  obtain ⟨fd, F, b⟩ := G.f
  have kp := F.kp
  obtain ⟨oc, od, dV, kV, doc, pm, an, cdv, ct, osl, rfl, lk, hcg, _, _⟩ := F.ex
  have hr2 := hr.mono hk
  exact pe_lamcall hg G.g kp lk hcg b G.sc G.n0 G.va (G.gv cdv _ rfl rfl rfl rfl rfl gd (by have := hr2.un; omega)) TB hcode hmT hu hr2 L hdef hbind hbody hdb hd hcd
end
/-! ### heaps in which tables may have grown -/
theorem exN_same {H H1 H2 : Hp} (e : ExtN H H1) (s : Same H1 H2) : ExtN H H2 := fun b o h n => s b o (e b o h n)
theorem same_exN {H H1 H2 : Hp} (s : Same H H1) (e : ExtN H1 H2) : ExtN H H2 := fun b o h n => e b o (s b o h) n
theorem exN_of {H H1 : Hp} (s : Same H H1) : ExtN H H1 := ExtN.of s
theorem exN_tup {H H1 : Hp} {a : Addr} {xs : List V} (e : ExtN H H1) (h : H a = some (.tup xs)) : H1 a = some (.tup xs) := e _ _ h (fun _ z => by cases z)
theorem exN_lst {H H1 : Hp} {a : Addr} {xs : List V} (e : ExtN H H1) (h : H a = some (.lst xs)) : H1 a = some (.lst xs) := e _ _ h (fun _ z => by cases z)
theorem exN_seqL {K : PySem.W.Frag} {H H1 : Hp} {a : Addr} {xs : List V} (e : ExtN H H1) (h : SqL K H a xs) : SqL K H1 a xs := by
  rcases h with (h | ⟨o, h⟩) | h
  · exact .inl (.inl (exN_lst e h))
  · exact .inl (.inr ⟨o, e _ _ h (fun _ z => by cases z)⟩)
  · exact .inr h
theorem exN_seqT {K : PySem.W.Frag} {H H1 : Hp} {a : Addr} {xs : List V} (e : ExtN H H1) (h : SqT K H a xs) : SqT K H1 a xs := by
  rcases h with (h | ⟨o, h⟩) | h
  · exact .inl (.inl (exN_tup e h))
  · exact .inl (.inr ⟨o, e _ _ h (fun _ z => by cases z)⟩)
  · exact .inr h
mutual
theorem exN_dp {K : PySem.W.Frag} {H H1 : Hp} (e : ExtN H H1) : ∀ {x : V} {d : PyData}, Dp K H x d → Dp K H1 x d
  | _, _, .non => .non
  | _, _, .bl b => .bl b
  | _, _, .int i => .int i
  | _, _, .str x => .str x
  | _, _, .lst h r => .lst (exN_seqL e h) (exN_dps e r)
  | _, _, .tup h r => .tup (exN_seqT e h) (exN_dps e r)
theorem exN_dps {K : PySem.W.Frag} {H H1 : Hp} (e : ExtN H H1) : ∀ {xs : List V} {ds : List PyData}, DpAll K H xs ds → DpAll K H1 xs ds
  | _, _, .nil => .nil
  | _, _, .cons h r => .cons (exN_dp e h) (exN_dps e r)
end
/-! ### defaults -/
structure FnD (P : Program) (w : World) (K : PySem.W.Frag) (mg : Str → Option Value) (base : Heap) (k : Nat) (x : Str) (ps : List Str) (sp : Sp) (dvs : List V) : Prop where
  ex : ∃ f fd ds, FnOk P w K mg base (L2.CX P w) k f fd ps sp ∧ mg x = some (.ref f) ∧ PySem.W.keepIn K (.ref f) = true ∧ Vals dvs ds ∧ Binds K fd ps ds
section
variable {X : Cx} {k j : Nat} {x : Str} {ps : List Str} {sp : Sp} {dvs : List V} {p pos : Pos} {e : Expr} {es : List Expr} {t : TA} {E : XK}
theorem pe_fnDE (G : FnD X.prog X.w X.K X.mg X.base k x ps sp dvs) (hr : Room j X.A) (ha : PA X (e :: es) t) (hx : Passes (L2.CX X.prog X.w) X E) (hk : k ≤ j := by decide) (hg : Gl X x := by rfl) (hdb : (x == ("__debug__" : Str)) = false := by decide)
    (he : starEach (e :: es) X.env = (false, eval e X.env) :: starEach es X.env := by rfl) (hpl : (backTo pos (starEach es X.env)).any (·.1) = false := by rfl) :
    PE X (.Call (.Name x p) (e :: es) [] pos) (tCall sp dvs E t) := by
  obtain ⟨f, fd, ds, F, m, kp, v, b⟩ := G.ex
  exact pe_call F (hr.mono hk) hg m kp b v hx ha hdb he hpl
theorem pe_fnD (G : FnD X.prog X.w X.K X.mg X.base k x ps sp dvs) (hr : Room j X.A) (ha : PA X (e :: es) t) (hk : k ≤ j := by decide) (hg : Gl X x := by rfl) (hdb : (x == ("__debug__" : Str)) = false := by decide)
    (he : starEach (e :: es) X.env = (false, eval e X.env) :: starEach es X.env := by rfl) (hpl : (backTo pos (starEach es X.env)).any (·.1) = false := by rfl) :
    PE X (.Call (.Name x p) (e :: es) [] pos) (tCall sp dvs E0 t) := by
  obtain ⟨f, fd, ds, F, m, kp, v, b⟩ := G.ex
  exact pe_call F (hr.mono hk) hg m kp b v passL ha hdb he hpl
theorem pe_gr {X : Cx} {x : Str} {a : Addr} {pos : Pos} (hm : X.mg x = some (.ref a)) (hg : Gl X x := by rfl) (hdb : (x == ("__debug__" : Str)) = false := by decide) : PE X (.Name x pos) (tC (.ref a)) := pe_glob hg hm rfl hdb
theorem op_inT {k : Nat} (hr : Room k X.A) : OpR X (compareOp .In) (fun x y H Q => ∃ d ds, Dp X.K H x d ∧ Dp X.K H y (.tuple ds) ∧ SeqAt.shaped d = true ∧ SeqAt.shaped (.tuple ds) = true ∧ Q (.bl (ds.any fun z => PyData.eqv z d)) H) := by
  intro pins s σ H x y v u Q I rx ry h
  obtain ⟨d, ds, hd, he, sd, se, q⟩ := h
  obtain ⟨as, r1⟩ := Dp.reads I d x v hd rx
  obtain ⟨bs, r2⟩ := Dp.reads I (.tuple ds) y u he ry
  exact SeqAt.in_tuple_reads r2 r1 (SeqAt.canLay_of_shaped se) (SeqAt.canLay_of_shaped sd) (room_in_shaped sd (by have := hr.un; omega)) ⟨.bl _, H, I, rfl, q⟩
end
instance i_chain {r r' : R2} {ta tb tc : TE} {σ : L2.St} {H : Hp} {Q : VK} : Stp (tChain r r' ta tb tc σ H Q) (ta σ H fun x H1 => tb σ H1 fun y H2 => r x y H2 fun z H3 => ∃ k, z = .bl k ∧ (if k = true then tc σ H3 fun w' H4 => r' y w' H4 Q else Q (.bl false) H3)) := ⟨id⟩
instance (priority := low) i_callD {sp : Sp} {dvs : List V} {E : XK} {l : TA} {σ : L2.St} {H : Hp} {Q : VK} : Stp (tCall sp dvs E l σ H Q) (l σ H fun vs H1 => sp (vs ++ dvs) H1 Q E) := ⟨id⟩
instance i_yes {σ : L2.St} {H : Hp} {R : Bool → Hp → Prop} : Stp (tYes σ H R) (R true H) := ⟨id⟩
theorem tab_uni {T : List (Addr × Str)} {P : Addr} {q : Str} (hn : (T.map (·.1)).Nodup) (hm : (P, q) ∈ T) : ∀ p ∈ T, p.1 = P → p.2 = q := by
  induction T with
  | nil => cases hm
  | cons a r ih =>
    rw [List.map_cons, List.nodup_cons] at hn
    intro p hp e
    rcases List.mem_cons.mp hp with rfl | hp
    · rcases List.mem_cons.mp hm with z | z
      · rw [← z]
      · exact absurd (List.mem_map.mpr ⟨_, z, e.symm⟩) hn.1
    · rcases List.mem_cons.mp hm with z | z
      · exact absurd (List.mem_map.mpr ⟨p, hp, by rw [e, ← z]⟩) hn.1
      · exact ih hn.2 z p hp e
theorem pyC {i j : Int} (hi : i.natAbs < 2 ^ 13000) : Builtin.divisionGoesByPylong i j = false := by
  have hx : ∀ x : Int, x.natAbs < 2 ^ 13000 → (if x == 0 then 0 else x.natAbs.log2 / 30 + 1) ≤ 434 := fun x hx => by
    have : x.natAbs.log2 < 13000 := PySem.Flt.log2_lt_of (by decide) hx
    split <;> omega
  have h1 := hx i hi
  unfold Builtin.divisionGoesByPylong
  show (decide ((if j == 0 then 0 else j.natAbs.log2 / 30 + 1) > 300) && decide ((if i == 0 then 0 else i.natAbs.log2 / 30 + 1) > (if j == 0 then 0 else j.natAbs.log2 / 30 + 1) + 150)) = false
  by_cases h : (if j == 0 then 0 else j.natAbs.log2 / 30 + 1) > 300
  · rw [decide_eq_false (p := _ > _ + 150) (by omega), Bool.and_false]
  · rw [decide_eq_false h, Bool.false_and]
section
variable {K : PySem.W.Frag} {H : Hp} {Q : VK} {σ : L2.St} {x y : V} {p : Addr} {xs : List V}
theorem g_app (h : H p = some (.lst xs)) (hz : xs.length < sizeLine) (q : ∀ H', Same (dl H p) H' → H' p = some (.lst (xs ++ [y])) → Q .non H') : rAppend (.ref p) [y] H Q := ⟨p, xs, y, rfl, rfl, h, hz, q _ (dl_mut dl_sub) upd_same⟩
theorem g_tyL {R : Prop} (h : H p = some (.lst xs)) (r : R) : tyV K "list" (.ref p) H ∧ R := ⟨.inl ⟨rfl, xs, .inl (.inl h)⟩, r⟩
theorem g_BM {T : String} {r : V → List V → Hp → VK → Prop} {to : TE} {t : TA} (h : to σ H fun x H1 => tyV K T x H1 ∧ t σ H1 fun xs H2 => r x xs H2 Q) : tBM K T r to t σ H Q := h
theorem g_rep {n : Int} (h : H p = some (.lst xs)) (h0 : 0 ≤ n) (h1 : n < 1000) (hl : xs.length ≤ 1000) (q : ∀ a H', H a = none → Same H H' → H' a = some (.lst ((List.replicate n.toNat xs).flatten)) → Q (.ref a) H') : rRep (.ref p) (.int n) H Q := by
  refine ⟨p, n, xs, rfl, rfl, h, by omega, by omega, ?_, fun a ha => ?_⟩
  · have : n.toNat ≤ 1000 := by omega
    have h2 : xs.length * n.toNat ≤ 1000 * 1000 := Nat.mul_le_mul hl this
    exact Nat.le_trans h2 (by decide)
  · exact q a _ ha (Same.new ha) (by first | exact upd_same | (rw [upd_same]; rfl))
theorem g_isNx (h : x ≠ .non) (q : Q (.bl false) H) : rIsN x .non H Q := ⟨rfl, by rw [decide_eq_false h]; exact q⟩
theorem g_fdivN {i j g : Int} (hg : 0 < g) (hj : j = -g) (hd : g ∣ i) (hp : Builtin.divisionGoesByPylong i j = false) (q : Q (.int (-i / g)) H) : rI CDivU (fun i j => .int (i.fdiv j)) (.int i) (.int j) H Q := by
  refine ⟨i, j, rfl, rfl, ⟨by omega, hp⟩, ?_⟩
  obtain ⟨k, rfl⟩ := hd
  subst hj
  have e1 : (g * k).fdiv (-g) = -k := by
    rw [show g * k = -g * -k by rw [Int.neg_mul_neg]]
    exact Int.mul_fdiv_cancel_left _ (by omega)
  have e2 : -(g * k) / g = -k := by
    rw [show -(g * k) = g * -k by rw [Int.mul_neg]]
    exact Int.mul_ediv_cancel_left _ (by omega)
  rw [e2] at q
  show Q (.int ((g * k).fdiv (-g))) H
  rw [e1]
  exact q
theorem g_tupI {R : It → Hp → Prop} {tl : TE} (h : tl σ H fun x H1 => ∃ a, x = .ref a ∧ (∃ xs, SqT K H1 a xs) ∧ R (Itt K a) H1) : iTup K tl σ H R := h
theorem g_tupIi {R : Addr → Prop} (h : SqT K H p xs) (r : R p) : ∃ a, V.ref p = .ref a ∧ (∃ xs, SqT K H a xs) ∧ R a := ⟨p, rfl, ⟨_, h⟩, r⟩
theorem g_niT (h : SqT K H p xs) (hx : flatV x = true) (ha : xs.all flatV = true) (q : Q (.bl (!inV x xs)) H) : rNiU K x (.ref p) H Q := .inr ⟨p, xs, rfl, .inr h, hx, ha, q⟩
theorem g_repr {d : PyData} (hd : Dp K H x d) (h : d.showable = true ∧ d.hasDict = false ∧ d.depth ≤ 8 ∧ d.shown.length ≤ sizeLine) (q : Q (.str d.shown) H) : rRepr K [x] H Q := ⟨x, d, rfl, hd, h, q⟩
theorem g_reprL {d : PyData} (hd : Dp K H x d) (h : flat0 d = true ∧ d.showable = true ∧ d.shown.length ≤ sizeLine) (q : Q (.str d.shown) H) : rReprL K [x] H Q := ⟨x, d, rfl, hd, h, q⟩
theorem g_all {bs : List Bool} (h : SqL K H p (bs.map V.bl)) (q : Q (.bl (bs.all id)) H) : rAll K [.ref p] H Q := ⟨p, bs, rfl, h, q⟩
theorem g_tupL (h : SqL K H p xs) (q : ∀ a H', H a = none → Same H H' → H' a = some (.tup xs) → Q (.ref a) H') : ∃ p' ys, ([V.ref p] : List V) = [.ref p'] ∧ ((SqL K H p' ys ∧ ∀ l, H l = none → Q (.ref l) (upd H l (.tup ys))) ∨ (SqT K H p' ys ∧ Q (.ref p') H)) :=
  ⟨p, xs, rfl, .inl ⟨h, fun l hl => q l _ hl (Same.new hl) upd_same⟩⟩
end
/-- three statements, then the rest, with a word between -/
theorem pss_cut3 {X : Cx} {s1 s2 s3 : Stmt} {rest : List Stmt} {t1 t2 t3 u : TS} (h1 : PS X s1 t1) (h2 : PS X s2 t2) (h3 : PS X s3 t3) (h4 : PSs X rest u) : PSs X (s1 :: s2 :: s3 :: rest) (C8.tCut (tSeq t1 (tSeq t2 t3)) u) := by
  refine ⟨fun pins s σ H D I h => ?_⟩
  obtain ⟨Mid, hm, hu⟩ := h
  refine wpAny_execs_cons (thn (h1.run pins s σ H { D with nx := tSeq t2 t3 { D with nx := Mid } } I hm) fun f sA q => ?_)
  cases f with
  | next =>
    obtain ⟨σ1, H1, I1, q⟩ := q
    refine wpAny_execs_cons (thn (h2.run pins sA σ1 H1 { D with nx := t3 { D with nx := Mid } } I1 q) fun f sB q => ?_)
    cases f with
    | next =>
      obtain ⟨σ2, H2, I2, q⟩ := q
      refine wpAny_execs_cons (thn (h3.run pins sB σ2 H2 { D with nx := Mid } I2 q) fun f sC q => ?_)
      cases f with
      | next =>
        obtain ⟨σ3, H3, I3, q⟩ := q
        exact h4.run pins sC σ3 H3 D I3 (hu _ _ q)
      | _ => exact q
    | _ => exact q
  | _ => exact q
end Sm
set_option synthInstance.maxSize 100000
set_option synthInstance.maxHeartbeats 0
local macro_rules | `(tactic| wtm_at "sm") => `(tactic| first | exact L2.Same.refl _ | assumption | (refine L2.Same.trans ?_ (by assumption); wtm_at "sm") | (refine Sm.dl_both ?_; wtm_at "sm") | (refine Sm.dl_of ?_; wtm_at "sm"))
local macro_rules | `(tactic| wtm_at "at") => `(tactic| first | assumption | exact Sm.dpn | exact Sm.dpi _ | exact Sm.dps _ | exact Sm.dpb _ | exact Sm.tup_at (by assumption) (by wtm_at "sm") | exact Sm.lst_at (by assumption) (by wtm_at "sm") | exact Sm.seqT_at (by assumption) (by wtm_at "sm") | exact Sm.seqL_at (by assumption) (by wtm_at "sm") | exact Sm.dp_at (by assumption) (by wtm_at "sm") | exact Sm.dp_t2 (by assumption) (by wtm_at "sm"))
local macro_rules | `(tactic| wtm_at "ty") => `(tactic| first | exact Sm.ty_int | exact Sm.ty_bl | exact Sm.ty_str | exact Sm.ty_non | exact Sm.ty_tup (by wtm_at "at") | exact Sm.ty_lst (by wtm_at "at") | exact Sm.ty_dp (by wtm_at "at"))
local macro_rules | `(tactic| wtm_at "sd") => `(tactic| first | assumption | omega | decide | rfl | decide +kernel | (refine Sm.len_le ?_; first | omega | (simp only [Sm.len_app, Sm.len_emp]; omega) | exact Nat.le_of_ble_eq_true rfl) | (simp only [List.length_cons, List.length_nil]; omega))
local macro_rules | `(tactic| wtm_at "tt") => `(tactic| first | (with_reducible assumption) | (with_reducible rfl) | omega | decide | (simp only [List.length_cons, List.length_nil]; omega))
local macro_rules | `(tactic| wtm_at "st") => `(tactic| first
  | with_reducible refine Sm.Stq.h ?_
  | ((with_reducible apply Sm.g_ixT); (focus (wtm_at "at")); (focus (first | assumption | rfl)))
  | ((with_reducible apply Sm.g_ixL); (focus (wtm_at "at")); (focus (first | assumption | rfl)))
  | ((with_reducible apply Sm.g_ixS); (focus (wtm_at "sd")); (focus (assumption)))
  | ((with_reducible apply Sm.g_newTt); (focus (exact Nat.le_of_ble_eq_true rfl)); intro p H2 hn he hp)
  | ((with_reducible apply Sm.g_newLl); (focus (exact Nat.le_of_ble_eq_true rfl)); intro p H2 hn he hp)
  | ((with_reducible apply Sm.g_newT); (focus (exact Nat.le_of_ble_eq_true rfl)); intro p H2 hn he hp)
  | ((with_reducible apply Sm.g_newL); (focus (exact Nat.le_of_ble_eq_true rfl)); intro p H2 hn he hp)
  | ((with_reducible apply Sm.g_newA); intro p H2 hn he hp)
  | ((with_reducible apply Sm.g_mkSup))
  | ((with_reducible apply Sm.g_sup1); intro d H2 he hd)
  | ((with_reducible apply Sm.g_mod); (focus (wtm_at "sd")))
  | ((with_reducible apply Sm.g_mul); (focus (first | assumption | exact Sm.mulL (by omega) (by omega) | exact Sm.mulR (by omega) (by omega))))
  | ((with_reducible apply Sm.g_fdiv); (focus (wtm_at "sd")); (focus (first | assumption | solve_by_elim | exact Sm.pyS (by omega) (by omega))))
  | ((with_reducible apply Sm.g_addS); (focus (wtm_at "sd")))
  | ((with_reducible apply Sm.g_fmtI); (focus (wtm_at "sd")))
  | ((with_reducible apply Sm.g_fmtS); (focus (wtm_at "sd")))
  | ((with_reducible apply Sm.g_strI); (focus (wtm_at "sd")))
  | ((with_reducible apply Sm.g_len); (focus (wtm_at "sd")))
  | ((with_reducible apply Sm.g_gTup); (focus (wtm_at "at")); (focus (rfl)))
  | ((with_reducible apply Sm.g_lenS); (focus (wtm_at "sd")))
  | ((with_reducible apply Sm.g_lenT); (focus (wtm_at "at")))
  | ((with_reducible apply Sm.g_lenL); (focus (wtm_at "at")))
  | ((with_reducible apply Sm.g_slS); (focus (wtm_at "sd")))
  | ((with_reducible apply Sm.g_neD); (focus (wtm_at "at")); (focus (wtm_at "at")); (focus (first | assumption | rfl)); (focus (first | assumption | rfl)))
  | ((with_reducible apply Sm.g_eqD); (focus (wtm_at "at")); (focus (wtm_at "at")); (focus (first | assumption | rfl)); (focus (first | assumption | rfl)))
  | ((with_reducible apply Sm.g_inT); (focus (wtm_at "at")); (focus (rfl)); (focus (rfl)))
  | ((with_reducible apply Sm.g_inL); (focus (wtm_at "at")); (focus (rfl)); (focus (rfl)))
  | ((with_reducible apply Sm.g_listSk); (focus (wtm_at "sd")); intro p H2 hn he hp)
  | ((with_reducible apply Sm.g_split); (focus (decide)); (focus (wtm_at "sd")); intro p H2 hn he hp)
  | ((with_reducible apply Sm.g_powL); (focus (exact Sm.lit _)); (focus (decide +kernel)))
  | ((with_reducible apply Sm.g_setL0); (focus (assumption)); intro H' hs hp)
  | ((with_reducible apply Sm.g_setL1); (focus (assumption)); intro H' hs hp)
  | ((with_reducible apply Sm.g_setL2); (focus (assumption)); intro H' hs hp)
  | ((with_reducible apply Sm.g_intS); (focus (assumption)); (focus (wtm_at "sd")))
  | ((with_reducible apply Sm.g_tupleT); (focus (wtm_at "ty")); (focus (rfl)))
  | ((with_reducible apply Sm.g_tupleF); (focus (wtm_at "ty")); (focus (rfl)))
  | ((with_reducible apply Sm.g_intF); (focus (wtm_at "ty")); (focus (rfl)))
  | ((with_reducible apply Sm.g_boolF); (focus (wtm_at "ty")); (focus (rfl)))
  | ((with_reducible apply Sm.g_strF); (focus (wtm_at "ty")); (focus (rfl)))
  | ((with_reducible apply Sm.g_strT); (focus (wtm_at "ty")); (focus (rfl)))
  | ((with_reducible apply Sm.g_listT); (focus (wtm_at "ty")); (focus (rfl)))
  | ((with_reducible apply Sm.g_listF); (focus (wtm_at "ty")); (focus (rfl)))
  | ((with_reducible apply Sm.g_dictF); (focus (wtm_at "ty")); (focus (rfl)))
  | ((with_reducible apply Sm.g_yes); (focus (wtm_at "tt")))
  | ((with_reducible apply Sm.g_no); (focus (wtm_at "tt")))
  | ((with_reducible apply Sm.g_nyes); (focus (wtm_at "tt")))
  | ((with_reducible apply Sm.g_nno); (focus (wtm_at "tt")))
  | ((with_reducible apply Sm.g_nbyes); (focus (with_reducible assumption)))
  | ((with_reducible apply Sm.g_nbno); (focus (with_reducible assumption)))
  | ((with_reducible apply Sm.g_byes); (focus (with_reducible assumption)))
  | ((with_reducible apply Sm.g_bno); (focus (with_reducible assumption)))
  | ((with_reducible apply Sm.g_ite) <;> intro hc)
  | ((with_reducible apply Sm.g_niteD) <;> intro hc)
  | ((with_reducible apply Sm.g_niteB) <;> intro hc)
  | ((with_reducible apply Sm.g_iteB) <;> intro hc))
namespace K00
open PySem PySem.Spec PyProof.Rows L2
@[irreducible] def BW : Int := ((10 ^ 4000 : Nat) : Int)
@[irreducible] def BC : Int := ((10 ^ 18 : Nat) : Int)
@[irreducible] def GR : Int := ((10 ^ 1000 : Nat) : Int)
def topS (i : Nat) : Stmt := PySem.Challenge.pw_sumstead_k00_whole_worths_reckoned.main.body.getD i (.Pass ⟨0, 0, 0, 0⟩)
abbrev FD (K : PySem.W.Frag) (x : Str) (st : Stmt) (f : Addr) (fd : FuncData) : Prop := FunD K x x (defArgs st) (defBody st) (defScope st) [] [] f fd
abbrev s_is_whole : Stmt := topS 19
abbrev N_is_whole : List Str := ["value"]
abbrev P_is_whole : List Str := ["value"]
theorem st_is_whole (a0 : V) : L2.start N_is_whole [a0] = [some a0] := rfl
theorem sc_is_whole : FnScope N_is_whole P_is_whole (defScope s_is_whole) := ⟨rfl, rfl, rfl, by decide +kernel, rfl, by decide +kernel, by decide +kernel⟩
abbrev s_is_name : Stmt := topS 20
abbrev N_is_name : List Str := ["value", "sign"]
abbrev P_is_name : List Str := ["value"]
theorem st_is_name (a0 : V) : L2.start N_is_name [a0] = [some a0, none] := rfl
theorem sc_is_name : FnScope N_is_name P_is_name (defScope s_is_name) := ⟨rfl, rfl, rfl, by decide +kernel, rfl, by decide +kernel, by decide +kernel⟩
abbrev s_greatest_divisor : Stmt := topS 21
abbrev N_greatest_divisor : List Str := ["one", "other"]
abbrev P_greatest_divisor : List Str := ["one", "other"]
theorem st_greatest_divisor (a0 a1 : V) : L2.start N_greatest_divisor [a0, a1] = [some a0, some a1] := rfl
theorem sc_greatest_divisor : FnScope N_greatest_divisor P_greatest_divisor (defScope s_greatest_divisor) := ⟨rfl, rfl, rfl, by decide +kernel, rfl, by decide +kernel, by decide +kernel⟩
abbrev s_lowest : Stmt := topS 22
abbrev N_lowest : List Str := ["top", "bottom", "divisor"]
abbrev P_lowest : List Str := ["top", "bottom"]
theorem st_lowest (a0 a1 : V) : L2.start N_lowest [a0, a1] = [some a0, some a1, none] := rfl
theorem sc_lowest : FnScope N_lowest P_lowest (defScope s_lowest) := ⟨rfl, rfl, rfl, by decide +kernel, rfl, by decide +kernel, by decide +kernel⟩
abbrev s_is_worth : Stmt := topS 23
abbrev N_is_worth : List Str := ["value"]
abbrev P_is_worth : List Str := ["value"]
theorem st_is_worth (a0 : V) : L2.start N_is_worth [a0] = [some a0] := rfl
theorem sc_is_worth : FnScope N_is_worth P_is_worth (defScope s_is_worth) := ⟨rfl, rfl, rfl, by decide +kernel, rfl, by decide +kernel, by decide +kernel⟩
abbrev s_is_cell_worth : Stmt := topS 24
abbrev N_is_cell_worth : List Str := ["value"]
abbrev P_is_cell_worth : List Str := ["value"]
theorem st_is_cell_worth (a0 : V) : L2.start N_is_cell_worth [a0] = [some a0] := rfl
theorem sc_is_cell_worth : FnScope N_is_cell_worth P_is_cell_worth (defScope s_is_cell_worth) := ⟨rfl, rfl, rfl, by decide +kernel, rfl, by decide +kernel, by decide +kernel⟩
abbrev s_is_weight : Stmt := topS 25
abbrev N_is_weight : List Str := ["value"]
abbrev P_is_weight : List Str := ["value"]
theorem st_is_weight (a0 : V) : L2.start N_is_weight [a0] = [some a0] := rfl
theorem sc_is_weight : FnScope N_is_weight P_is_weight (defScope s_is_weight) := ⟨rfl, rfl, rfl, by decide +kernel, rfl, by decide +kernel, by decide +kernel⟩
abbrev s_is_long_worth : Stmt := topS 26
abbrev N_is_long_worth : List Str := ["value"]
abbrev P_is_long_worth : List Str := ["value"]
theorem st_is_long_worth (a0 : V) : L2.start N_is_long_worth [a0] = [some a0] := rfl
theorem sc_is_long_worth : FnScope N_is_long_worth P_is_long_worth (defScope s_is_long_worth) := ⟨rfl, rfl, rfl, by decide +kernel, rfl, by decide +kernel, by decide +kernel⟩
abbrev s_require_worth : Stmt := topS 27
abbrev N_require_worth : List Str := ["value"]
abbrev P_require_worth : List Str := ["value"]
theorem st_require_worth (a0 : V) : L2.start N_require_worth [a0] = [some a0] := rfl
theorem sc_require_worth : FnScope N_require_worth P_require_worth (defScope s_require_worth) := ⟨rfl, rfl, rfl, by decide +kernel, rfl, by decide +kernel, by decide +kernel⟩
abbrev s_require_operand : Stmt := topS 28
abbrev N_require_operand : List Str := ["value"]
abbrev P_require_operand : List Str := ["value"]
theorem st_require_operand (a0 : V) : L2.start N_require_operand [a0] = [some a0] := rfl
theorem sc_require_operand : FnScope N_require_operand P_require_operand (defScope s_require_operand) := ⟨rfl, rfl, rfl, by decide +kernel, rfl, by decide +kernel, by decide +kernel⟩
abbrev s_worth : Stmt := topS 29
abbrev N_worth : List Str := ["top", "bottom"]
abbrev P_worth : List Str := ["top", "bottom"]
theorem st_worth (a0 a1 : V) : L2.start N_worth [a0, a1] = [some a0, some a1] := rfl
theorem sc_worth : FnScope N_worth P_worth (defScope s_worth) := ⟨rfl, rfl, rfl, by decide +kernel, rfl, by decide +kernel, by decide +kernel⟩
abbrev s_sum_in : Stmt := topS 30
abbrev N_sum_in : List Str := ["one", "other"]
abbrev P_sum_in : List Str := ["one", "other"]
theorem st_sum_in (a0 a1 : V) : L2.start N_sum_in [a0, a1] = [some a0, some a1] := rfl
theorem sc_sum_in : FnScope N_sum_in P_sum_in (defScope s_sum_in) := ⟨rfl, rfl, rfl, by decide +kernel, rfl, by decide +kernel, by decide +kernel⟩
abbrev s_difference_in : Stmt := topS 31
abbrev N_difference_in : List Str := ["one", "other"]
abbrev P_difference_in : List Str := ["one", "other"]
theorem st_difference_in (a0 a1 : V) : L2.start N_difference_in [a0, a1] = [some a0, some a1] := rfl
theorem sc_difference_in : FnScope N_difference_in P_difference_in (defScope s_difference_in) := ⟨rfl, rfl, rfl, by decide +kernel, rfl, by decide +kernel, by decide +kernel⟩
abbrev s_product_in : Stmt := topS 32
abbrev N_product_in : List Str := ["one", "other"]
abbrev P_product_in : List Str := ["one", "other"]
theorem st_product_in (a0 a1 : V) : L2.start N_product_in [a0, a1] = [some a0, some a1] := rfl
theorem sc_product_in : FnScope N_product_in P_product_in (defScope s_product_in) := ⟨rfl, rfl, rfl, by decide +kernel, rfl, by decide +kernel, by decide +kernel⟩
abbrev s_quotient_in : Stmt := topS 33
abbrev N_quotient_in : List Str := ["one", "other"]
abbrev P_quotient_in : List Str := ["one", "other"]
theorem st_quotient_in (a0 a1 : V) : L2.start N_quotient_in [a0, a1] = [some a0, some a1] := rfl
theorem sc_quotient_in : FnScope N_quotient_in P_quotient_in (defScope s_quotient_in) := ⟨rfl, rfl, rfl, by decide +kernel, rfl, by decide +kernel, by decide +kernel⟩
abbrev s_weighted_in : Stmt := topS 34
abbrev N_weighted_in : List Str := ["pairs", "found", "weight", "value"]
abbrev P_weighted_in : List Str := ["pairs"]
theorem st_weighted_in (a0 : V) : L2.start N_weighted_in [a0] = [some a0, none, none, none] := rfl
theorem sc_weighted_in : FnScope N_weighted_in P_weighted_in (defScope s_weighted_in) := ⟨rfl, rfl, rfl, by decide +kernel, rfl, by decide +kernel, by decide +kernel⟩
abbrev s_is_below_in : Stmt := topS 35
abbrev N_is_below_in : List Str := ["one", "other"]
abbrev P_is_below_in : List Str := ["one", "other"]
theorem st_is_below_in (a0 a1 : V) : L2.start N_is_below_in [a0, a1] = [some a0, some a1] := rfl
theorem sc_is_below_in : FnScope N_is_below_in P_is_below_in (defScope s_is_below_in) := ⟨rfl, rfl, rfl, by decide +kernel, rfl, by decide +kernel, by decide +kernel⟩
abbrev s_is_great_in : Stmt := topS 36
abbrev N_is_great_in : List Str := ["value"]
abbrev P_is_great_in : List Str := ["value"]
theorem st_is_great_in (a0 : V) : L2.start N_is_great_in [a0] = [some a0] := rfl
theorem sc_is_great_in : FnScope N_is_great_in P_is_great_in (defScope s_is_great_in) := ⟨rfl, rfl, rfl, by decide +kernel, rfl, by decide +kernel, by decide +kernel⟩
abbrev s_plus : Stmt := topS 37
abbrev N_plus : List Str := ["one", "other"]
abbrev P_plus : List Str := ["one", "other"]
theorem st_plus (a0 a1 : V) : L2.start N_plus [a0, a1] = [some a0, some a1] := rfl
theorem sc_plus : FnScope N_plus P_plus (defScope s_plus) := ⟨rfl, rfl, rfl, by decide +kernel, rfl, by decide +kernel, by decide +kernel⟩
abbrev s_minus : Stmt := topS 38
abbrev N_minus : List Str := ["one", "other"]
abbrev P_minus : List Str := ["one", "other"]
theorem st_minus (a0 a1 : V) : L2.start N_minus [a0, a1] = [some a0, some a1] := rfl
theorem sc_minus : FnScope N_minus P_minus (defScope s_minus) := ⟨rfl, rfl, rfl, by decide +kernel, rfl, by decide +kernel, by decide +kernel⟩
abbrev s_times : Stmt := topS 39
abbrev N_times : List Str := ["one", "other"]
abbrev P_times : List Str := ["one", "other"]
theorem st_times (a0 a1 : V) : L2.start N_times [a0, a1] = [some a0, some a1] := rfl
theorem sc_times : FnScope N_times P_times (defScope s_times) := ⟨rfl, rfl, rfl, by decide +kernel, rfl, by decide +kernel, by decide +kernel⟩
abbrev s_over : Stmt := topS 40
abbrev N_over : List Str := ["one", "other"]
abbrev P_over : List Str := ["one", "other"]
theorem st_over (a0 a1 : V) : L2.start N_over [a0, a1] = [some a0, some a1] := rfl
theorem sc_over : FnScope N_over P_over (defScope s_over) := ⟨rfl, rfl, rfl, by decide +kernel, rfl, by decide +kernel, by decide +kernel⟩
abbrev s_is_weighted_pair : Stmt := topS 41
abbrev N_is_weighted_pair : List Str := ["value"]
abbrev P_is_weighted_pair : List Str := ["value"]
theorem st_is_weighted_pair (a0 : V) : L2.start N_is_weighted_pair [a0] = [some a0] := rfl
theorem sc_is_weighted_pair : FnScope N_is_weighted_pair P_is_weighted_pair (defScope s_is_weighted_pair) := ⟨rfl, rfl, rfl, by decide +kernel, rfl, by decide +kernel, by decide +kernel⟩
abbrev s_weighted_sum : Stmt := topS 42
abbrev N_weighted_sum : List Str := ["pairs", "pair"]
abbrev P_weighted_sum : List Str := ["pairs"]
theorem st_weighted_sum (a0 : V) : L2.start N_weighted_sum [a0] = [some a0, none] := rfl
theorem sc_weighted_sum : FnScope N_weighted_sum P_weighted_sum (defScope s_weighted_sum) := ⟨rfl, rfl, rfl, by decide +kernel, rfl, by decide +kernel, by decide +kernel⟩
abbrev s_is_below : Stmt := topS 43
abbrev N_is_below : List Str := ["one", "other"]
abbrev P_is_below : List Str := ["one", "other"]
theorem st_is_below (a0 a1 : V) : L2.start N_is_below [a0, a1] = [some a0, some a1] := rfl
theorem sc_is_below : FnScope N_is_below P_is_below (defScope s_is_below) := ⟨rfl, rfl, rfl, by decide +kernel, rfl, by decide +kernel, by decide +kernel⟩
abbrev s_is_great : Stmt := topS 44
abbrev N_is_great : List Str := ["worth"]
abbrev P_is_great : List Str := ["worth"]
theorem st_is_great (a0 : V) : L2.start N_is_great [a0] = [some a0] := rfl
theorem sc_is_great : FnScope N_is_great P_is_great (defScope s_is_great) := ⟨rfl, rfl, rfl, by decide +kernel, rfl, by decide +kernel, by decide +kernel⟩
abbrev s__law_dice : Stmt := topS 46
abbrev N__law_dice : List Str := ["_law_script", "_law_at", "_law_cell", "_law_great", "_law_left", "_law_mixed"]
abbrev P__law_dice : List Str := ["_law_script", "_law_at"]
theorem st__law_dice (a0 a1 : V) : L2.start N__law_dice [a0, a1] = [some a0, some a1, none, none, none, none] := rfl
theorem sc__law_dice : FnScope N__law_dice P__law_dice (defScope s__law_dice) := ⟨rfl, rfl, rfl, by decide +kernel, rfl, by decide +kernel, by decide +kernel⟩
abbrev s__law_roll : Stmt := topS 47
abbrev N__law_roll : List Str := ["_law_dice_here", "_law_total", "_law_size", "_law_drawn", "_law_one", "_law_two"]
abbrev P__law_roll : List Str := ["_law_dice_here", "_law_total"]
theorem st__law_roll (a0 a1 : V) : L2.start N__law_roll [a0, a1] = [some a0, some a1, none, none, none, none] := rfl
theorem sc__law_roll : FnScope N__law_roll P__law_roll (defScope s__law_roll) := ⟨rfl, rfl, rfl, by decide +kernel, rfl, by decide +kernel, by decide +kernel⟩
abbrev s__law_one_of : Stmt := topS 48
abbrev N__law_one_of : List Str := ["_law_dice_here", "_law_items"]
abbrev P__law_one_of : List Str := ["_law_dice_here", "_law_items"]
theorem st__law_one_of (a0 a1 : V) : L2.start N__law_one_of [a0, a1] = [some a0, some a1] := rfl
theorem sc__law_one_of : FnScope N__law_one_of P__law_one_of (defScope s__law_one_of) := ⟨rfl, rfl, rfl, by decide +kernel, rfl, by decide +kernel, by decide +kernel⟩
abbrev s__law_lowest : Stmt := topS 49
abbrev N__law_lowest : List Str := ["_law_top", "_law_bottom", "_law_one", "_law_other"]
abbrev P__law_lowest : List Str := ["_law_top", "_law_bottom"]
theorem st__law_lowest (a0 a1 : V) : L2.start N__law_lowest [a0, a1] = [some a0, some a1, none, none] := rfl
theorem sc__law_lowest : FnScope N__law_lowest P__law_lowest (defScope s__law_lowest) := ⟨rfl, rfl, rfl, by decide +kernel, rfl, by decide +kernel, by decide +kernel⟩
abbrev s__law_long : Stmt := topS 50
abbrev N__law_long : List Str := ["_law_dice_here", "_law_found", "_law_turn"]
abbrev P__law_long : List Str := ["_law_dice_here"]
theorem st__law_long (a0 : V) : L2.start N__law_long [a0] = [some a0, none, none] := rfl
theorem sc__law_long : FnScope N__law_long P__law_long (defScope s__law_long) := ⟨rfl, rfl, rfl, by decide +kernel, rfl, by decide +kernel, by decide +kernel⟩
abbrev s__law_fraction : Stmt := topS 51
abbrev N__law_fraction : List Str := ["_law_dice_here", "_law_lot"]
abbrev P__law_fraction : List Str := ["_law_dice_here"]
theorem st__law_fraction (a0 : V) : L2.start N__law_fraction [a0] = [some a0, none] := rfl
theorem sc__law_fraction : FnScope N__law_fraction P__law_fraction (defScope s__law_fraction) := ⟨rfl, rfl, rfl, by decide +kernel, rfl, by decide +kernel, by decide +kernel⟩
abbrev s__law_operand : Stmt := topS 52
abbrev N__law_operand : List Str := ["_law_dice_here"]
abbrev P__law_operand : List Str := ["_law_dice_here"]
theorem st__law_operand (a0 : V) : L2.start N__law_operand [a0] = [some a0] := rfl
theorem sc__law_operand : FnScope N__law_operand P__law_operand (defScope s__law_operand) := ⟨rfl, rfl, rfl, by decide +kernel, rfl, by decide +kernel, by decide +kernel⟩
abbrev s__law_added : Stmt := topS 53
abbrev N__law_added : List Str := ["_law_one", "_law_other"]
abbrev P__law_added : List Str := ["_law_one", "_law_other"]
theorem st__law_added (a0 a1 : V) : L2.start N__law_added [a0, a1] = [some a0, some a1] := rfl
theorem sc__law_added : FnScope N__law_added P__law_added (defScope s__law_added) := ⟨rfl, rfl, rfl, by decide +kernel, rfl, by decide +kernel, by decide +kernel⟩
abbrev s__law_multiplied : Stmt := topS 54
abbrev N__law_multiplied : List Str := ["_law_one", "_law_other"]
abbrev P__law_multiplied : List Str := ["_law_one", "_law_other"]
theorem st__law_multiplied (a0 a1 : V) : L2.start N__law_multiplied [a0, a1] = [some a0, some a1] := rfl
theorem sc__law_multiplied : FnScope N__law_multiplied P__law_multiplied (defScope s__law_multiplied) := ⟨rfl, rfl, rfl, by decide +kernel, rfl, by decide +kernel, by decide +kernel⟩
abbrev s__law_met : Stmt := topS 55
abbrev N__law_met : List Str := ["_law_call", "e"]
abbrev P__law_met : List Str := ["_law_call"]
theorem st__law_met (a0 : V) : L2.start N__law_met [a0] = [some a0, none] := rfl
theorem sc__law_met : FnScope N__law_met P__law_met (defScope s__law_met) := ⟨rfl, rfl, rfl, by decide +kernel, rfl, by decide +kernel, by decide +kernel⟩
abbrev s__law_reckoned : Stmt := topS 56
abbrev N__law_reckoned : List Str := ["_law_one", "_law_other", "_law_turned", "_law_found"]
abbrev P__law_reckoned : List Str := ["_law_one", "_law_other"]
theorem st__law_reckoned (a0 a1 : V) : L2.start N__law_reckoned [a0, a1] = [some a0, some a1, none, none] := rfl
theorem sc__law_reckoned : FnScope N__law_reckoned P__law_reckoned (defScope s__law_reckoned) := ⟨rfl, rfl, rfl, by decide +kernel, rfl, by decide +kernel, by decide +kernel⟩
abbrev s__law_back : Stmt := topS 57
abbrev N__law_back : List Str := ["_law_one", "_law_other"]
abbrev P__law_back : List Str := ["_law_one", "_law_other"]
theorem st__law_back (a0 a1 : V) : L2.start N__law_back [a0, a1] = [some a0, some a1] := rfl
theorem sc__law_back : FnScope N__law_back P__law_back (defScope s__law_back) := ⟨rfl, rfl, rfl, by decide +kernel, rfl, by decide +kernel, by decide +kernel⟩
abbrev s__law_compared : Stmt := topS 58
abbrev N__law_compared : List Str := ["_law_one", "_law_other", "_law_bound", "_law_number"]
abbrev P__law_compared : List Str := ["_law_one", "_law_other"]
theorem st__law_compared (a0 a1 : V) : L2.start N__law_compared [a0, a1] = [some a0, some a1, none, none] := rfl
theorem sc__law_compared : FnScope N__law_compared P__law_compared (defScope s__law_compared) := ⟨rfl, rfl, rfl, by decide +kernel, rfl, by decide +kernel, by decide +kernel⟩
abbrev s__law_judged : Stmt := topS 59
abbrev N__law_judged : List Str := ["_law_dice_here", "_law_top", "_law_bottom", "_law_value", "_law_are_whole", "_law_is_fine", "_law_name"]
abbrev P__law_judged : List Str := ["_law_dice_here"]
theorem st__law_judged (a0 : V) : L2.start N__law_judged [a0] = [some a0, none, none, none, none, none, none] := rfl
theorem sc__law_judged : FnScope N__law_judged P__law_judged (defScope s__law_judged) := ⟨rfl, rfl, rfl, by decide +kernel, rfl, by decide +kernel, by decide +kernel⟩
abbrev s__law_refused_right : Stmt := topS 60
abbrev N__law_refused_right : List Str := ["_law_dice_here", "_law_one", "_law_other", "_law_wrong", "_law_words", "_law_call", "_law_pairs", "_law_odd"]
abbrev P__law_refused_right : List Str := ["_law_dice_here", "_law_one", "_law_other"]
theorem st__law_refused_right (a0 a1 a2 : V) : L2.start N__law_refused_right [a0, a1, a2] = [some a0, some a1, some a2, none, none, none, none, none] := rfl
theorem sc__law_refused_right : FnScope N__law_refused_right P__law_refused_right (defScope s__law_refused_right) := ⟨rfl, rfl, rfl, by decide +kernel, rfl, by decide +kernel, by decide +kernel⟩
abbrev s__law_right : Stmt := topS 61
abbrev N__law_right : List Str := ["_law_dice_here", "_law_one", "_law_other", "_law_pairs", "_law_due", "_law_turn", "_law_top", "_law_bottom"]
abbrev P__law_right : List Str := ["_law_dice_here"]
theorem st__law_right (a0 : V) : L2.start N__law_right [a0] = [some a0, none, none, none, none, none, none, none] := rfl
theorem sc__law_right : FnScope N__law_right P__law_right (defScope s__law_right) := ⟨rfl, rfl, rfl, by decide +kernel, rfl, by decide +kernel, by decide +kernel⟩
abbrev s_law : Stmt := topS 62
abbrev N_law : List Str := ["_law_script", "_law_at"]
abbrev P_law : List Str := ["_law_script"]
theorem st_law (a0 : V) : L2.start N_law [a0] = [some a0, none] := rfl
theorem sc_law : FnScope N_law P_law (defScope s_law) := ⟨rfl, rfl, rfl, by decide +kernel, rfl, by decide +kernel, by decide +kernel⟩
structure Txt (P : Program) (K : PySem.W.Frag) (mg : Str → Option Value) : Prop where
  f_abs : mg "abs" = none
  f_all : mg "all" = none
  f_bool : mg "bool" = none
  f_int : mg "int" = none
  f_isinstance : mg "isinstance" = none
  f_len : mg "len" = none
  f_max : mg "max" = none
  f_min : mg "min" = none
  f_range : mg "range" = none
  f_repr : mg "repr" = none
  f_str : mg "str" = none
  f_tuple : mg "tuple" = none
  c_BEYOND_CELLS : ∃ t, mg "BEYOND_CELLS" = some (.int BC t)
  c_BEYOND_WORTHS : ∃ t, mg "BEYOND_WORTHS" = some (.int BW t)
  c_DIGITS : ∃ t, mg "DIGITS" = some (.str "0123456789" t)
  c_GREAT : ∃ t, mg "GREAT" = some (.int GR t)
  c_LETTERS : ∃ t, mg "LETTERS" = some (.str "abcdefghijklmnopqrstuvwxyz" t)
  c_MOST_CELL_BOTTOM : ∃ t, mg "MOST_CELL_BOTTOM" = some (.int 1000 t)
  c_MOST_DIGITS : ∃ t, mg "MOST_DIGITS" = some (.int 1000 t)
  c_MOST_NAME : ∃ t, mg "MOST_NAME" = some (.int 8 t)
  c_MOST_WEIGHT_BOTTOM : ∃ t, mg "MOST_WEIGHT_BOTTOM" = some (.int 10 t)
  c_MOST_WEIGHT_TOP : ∃ t, mg "MOST_WEIGHT_TOP" = some (.int 99 t)
  x_InvalidNumber : Sm.XS P K mg "InvalidNumber" "given" (He.ga K "InvalidNumber") "IndexError" "IndexError.__new__" "IndexError.__init__" [.type "IndexError", .type "LookupError", .type "Exception", .type "BaseException", .type "object"]
  x_InvalidOperation : Sm.XPl K mg "InvalidOperation" (He.ga K "InvalidOperation") "ValueError" "ValueError.__new__" "ValueError.__init__" [.type "ValueError", .type "Exception", .type "BaseException", .type "object"]
  x_InvalidWorth : Sm.XPl K mg "InvalidWorth" (He.ga K "InvalidWorth") "ValueError" "ValueError.__new__" "ValueError.__init__" [.type "ValueError", .type "Exception", .type "BaseException", .type "object"]
  x_Refused : Sm.XS P K mg "Refused" "reason" (He.ga K "Refused") "ArithmeticError" "ArithmeticError.__new__" "ArithmeticError.__init__" [.type "ArithmeticError", .type "Exception", .type "BaseException", .type "object"]
  g_ONE : mg "ONE" = some (.ref (He.ga K "ONE"))
  t_ONE : ∀ H, SqT K H (He.ga K "ONE") [.int 1, .int 1]
  g_ZERO : mg "ZERO" = some (.ref (He.ga K "ZERO"))
  t_ZERO : ∀ H, SqT K H (He.ga K "ZERO") [.int 0, .int 1]
  g_minus : mg "minus" = some (.ref (He.ga K "minus"))
  g_over : mg "over" = some (.ref (He.ga K "over"))
  g_plus : mg "plus" = some (.ref (He.ga K "plus"))
  g_times : mg "times" = some (.ref (He.ga K "times"))
  m_WW : PySem.W.exmOne K (.ref (He.ga K "InvalidWorth")) (.ref (He.ga K "InvalidWorth")) = some true
  m_OW : PySem.W.exmOne K (.ref (He.ga K "InvalidOperation")) (.ref (He.ga K "InvalidWorth")) = some false
  m_OO : PySem.W.exmOne K (.ref (He.ga K "InvalidOperation")) (.ref (He.ga K "InvalidOperation")) = some true
  m_NW : PySem.W.exmOne K (.ref (He.ga K "InvalidNumber")) (.ref (He.ga K "InvalidWorth")) = some false
  m_NO : PySem.W.exmOne K (.ref (He.ga K "InvalidNumber")) (.ref (He.ga K "InvalidOperation")) = some false
  m_NN : PySem.W.exmOne K (.ref (He.ga K "InvalidNumber")) (.ref (He.ga K "InvalidNumber")) = some true
  m_RW : PySem.W.exmOne K (.ref (He.ga K "Refused")) (.ref (He.ga K "InvalidWorth")) = some false
  m_RO : PySem.W.exmOne K (.ref (He.ga K "Refused")) (.ref (He.ga K "InvalidOperation")) = some false
  m_RN : PySem.W.exmOne K (.ref (He.ga K "Refused")) (.ref (He.ga K "InvalidNumber")) = some false
  m_RR : PySem.W.exmOne K (.ref (He.ga K "Refused")) (.ref (He.ga K "Refused")) = some true
def TT (K : PySem.W.Frag) : List (Addr × Str) := [((He.cT K ("_law_reckoned", none)).2, (envOfC "_law_reckoned" (defScope s__law_reckoned) 0 0 .none).qual ++ "<lambda>"), ((He.cT K ("_law_refused_right", none)).2, (envOfC "_law_refused_right" (defScope s__law_refused_right) 0 0 .none).qual ++ "<lambda>")]
theorem TTm__law_reckoned (K : PySem.W.Frag) : ((He.cT K ("_law_reckoned", none)).2, (envOfC "_law_reckoned" (defScope s__law_reckoned) 0 0 .none).qual ++ "<lambda>") ∈ TT K := List.mem_cons_self
theorem TTm__law_refused_right (K : PySem.W.Frag) : ((He.cT K ("_law_refused_right", none)).2, (envOfC "_law_refused_right" (defScope s__law_refused_right) 0 0 .none).qual ++ "<lambda>") ∈ TT K := List.mem_cons_of_mem _ (List.mem_cons_self)
end K00
namespace K00
open PySem PySem.Spec PyProof.Rows L2
open TL (tl)
/-- fractions in lowest terms -/
def low (t b : Int) : Int × Int := if b < 0 then (-t / (Int.gcd t b : Nat), -b / (Int.gcd t b : Nat)) else (t / (Int.gcd t b : Nat), b / (Int.gcd t b : Nat))
def wD (p : Int × Int) : PyData := .tuple [.int p.1, .int p.2]
def isWhole : PyData → Bool
  | .int _ => true
  | _ => false
def isWorth : PyData → Bool
  | .tuple [.int t, .int b] => decide (b ≥ 1) && decide (((Int.gcd t b : Nat) : Int) = 1)
  | _ => false
def isLong : PyData → Bool
  | .tuple [.int t, .int b] => isWorth (.tuple [.int t, .int b]) && (decide ((t.natAbs : Int) < BW) && decide (b < BW))
  | _ => false
def isCell : PyData → Bool
  | .tuple [.int t, .int b] => isWorth (.tuple [.int t, .int b]) && (decide ((t.natAbs : Int) < BC) && decide (b ≤ 1000))
  | _ => false
def isWeight : PyData → Bool
  | .tuple [.int t, .int b] => isWorth (.tuple [.int t, .int b]) && (!decide (t = 0) && (decide ((t.natAbs : Int) ≤ 99) && decide (b ≤ 10)))
  | _ => false
def okOp (d : PyData) : Bool := match d with
  | .none => true
  | d => isLong d
def low2 (a b c d : Int) : Int × Int := low (a * d + c * b) (b * d)
def sumD : PyData → PyData → PyData
  | .none, y => y
  | x, .none => x
  | .tuple [.int a, .int b], .tuple [.int c, .int d] => wD (low2 a b c d)
  | _, _ => .none
def negD : PyData → PyData
  | .tuple [.int a, .int b] => .tuple [.int (-a), .int b]
  | _ => .none
def prodD : PyData → PyData → PyData
  | .tuple [.int a, .int b], .tuple [.int c, .int d] => wD (low (a * c) (b * d))
  | _, _ => .none
def quoD : PyData → PyData → PyData
  | .tuple [.int a, .int b], .tuple [.int c, .int d] => wD (low (a * d) (b * c))
  | _, _ => .none
/-- a worth of bounded size, or nothing -/
def Fr (n : Nat) (a b : Int) : Prop := 1 ≤ b ∧ Int.gcd a b = 1 ∧ a.natAbs < 2 ^ n ∧ b.natAbs < 2 ^ n
def FrD (n : Nat) (d : PyData) : Prop := d = .none ∨ ∃ a b, d = wD (a, b) ∧ Fr n a b
/-- a value that is told -/
def Tell (K : PySem.W.Frag) (d : PyData) (H : Hp) (Q : VK) : Prop := ∀ v H', Same H H' → Dp K H' v d → Q v H'
def letter (c : Nat) : Bool := decide (c ∈ (Str.ofString "abcdefghijklmnopqrstuvwxyz").cps.toList)
def digit (c : Nat) : Bool := decide (c ∈ (Str.ofString "0123456789").cps.toList)
def isName : PyData → Bool
  | .str z => decide (1 ≤ z.cps.toList.length ∧ z.cps.toList.length ≤ 8) && ((z.cps.toList.head?.map letter).getD false && z.cps.toList.all fun c => letter c || digit c)
  | _ => false
def sp_is_whole (K : PySem.W.Frag) : Sp := fun vs H Q _ => ∃ x d, vs = [x] ∧ Dp K H x d ∧ Sm.RetV (.bl (isWhole d)) H Q
def sp_is_name (K : PySem.W.Frag) : Sp := fun vs H Q _ => ∃ x d, vs = [x] ∧ Dp K H x d ∧ (∀ z, d = .str z → z.length ≤ 100) ∧ Sm.RetV (.bl (isName d)) H Q
def sp_greatest_divisor (K : PySem.W.Frag) : Sp := fun vs H Q _ => ∃ a b : Int, vs = [.int a, .int b] ∧ 0 ≤ a ∧ 0 ≤ b ∧ Sm.RetV (.int (Int.gcd a b : Nat)) H Q
def sp_lowest (K : PySem.W.Frag) : Sp := fun vs H Q _ => ∃ t b : Int, vs = [.int t, .int b] ∧ b ≠ 0 ∧ (t.natAbs < 2 ^ 13000 ∧ b.natAbs < 2 ^ 13000) ∧ Tell K (wD (low t b)) H Q
def sp_is_worth (K : PySem.W.Frag) : Sp := fun vs H Q _ => ∃ x d, vs = [x] ∧ Dp K H x d ∧ Sm.RetV (.bl (isWorth d)) H Q
def sp_is_cell_worth (K : PySem.W.Frag) : Sp := fun vs H Q _ => ∃ x d, vs = [x] ∧ Dp K H x d ∧ Sm.RetV (.bl (isCell d)) H Q
def sp_is_weight (K : PySem.W.Frag) : Sp := fun vs H Q _ => ∃ x d, vs = [x] ∧ Dp K H x d ∧ Sm.RetV (.bl (isWeight d)) H Q
def sp_is_long_worth (K : PySem.W.Frag) : Sp := fun vs H Q _ => ∃ x d, vs = [x] ∧ Dp K H x d ∧ Sm.RetV (.bl (isLong d)) H Q
def sp_require_worth (K : PySem.W.Frag) : Sp := fun vs H Q E => ∃ x d, vs = [x] ∧ Dp K H x d ∧ (isLong d = true → Sm.RetV .non H Q) ∧ (isLong d = false → Sm.Rp K "InvalidWorth" H E)
def sp_require_operand (K : PySem.W.Frag) : Sp := fun vs H Q E => ∃ x d, vs = [x] ∧ Dp K H x d ∧ (okOp d = true → Sm.RetV .non H Q) ∧ (okOp d = false → Sm.Rp K "InvalidWorth" H E)
def wholeOk : PyData → Bool
  | .int t => decide ((t.natAbs : Int) < BW)
  | _ => false
def bottomOk : PyData → Bool
  | .int t => !decide (t = 0) && decide ((t.natAbs : Int) < BW)
  | _ => false
def sp_worth (K : PySem.W.Frag) : Sp := fun vs H Q E => ∃ x y d e, vs = [x, y] ∧ Dp K H x d ∧ Dp K H y e ∧
  (wholeOk d = false → Sm.Rz K "InvalidNumber" "given" x H E) ∧ (wholeOk d = true → bottomOk e = false → Sm.Rz K "InvalidNumber" "given" y H E) ∧
  (wholeOk d = true → bottomOk e = true → ∃ t b : Int, d = .int t ∧ e = .int b ∧ b ≠ 0 ∧ (t.natAbs < 2 ^ 13000 ∧ b.natAbs < 2 ^ 13000) ∧ Tell K (wD (low t b)) H Q)
def sp_sum_in (K : PySem.W.Frag) : Sp := fun vs H Q _ => ∃ x y d e n m, vs = [x, y] ∧ Dp K H x d ∧ Dp K H y e ∧ FrD n d ∧ FrD m e ∧ (0 < n ∧ 0 < m ∧ n + m < 13000) ∧ Tell K (sumD d e) H Q
def sp_difference_in (K : PySem.W.Frag) : Sp := fun vs H Q _ => ∃ x y d e n m, vs = [x, y] ∧ Dp K H x d ∧ Dp K H y e ∧ FrD n d ∧ FrD m e ∧ (0 < n ∧ 0 < m ∧ n + m < 13000) ∧ Tell K (sumD d (negD e)) H Q
def sp_product_in (K : PySem.W.Frag) : Sp := fun vs H Q _ => ∃ x y d e n m, vs = [x, y] ∧ Dp K H x d ∧ Dp K H y e ∧ FrD n d ∧ FrD m e ∧ (0 < n ∧ 0 < m ∧ n + m < 13000) ∧ Tell K (prodD d e) H Q
def sp_quotient_in (K : PySem.W.Frag) : Sp := fun vs H Q _ => ∃ x y d e n m, vs = [x, y] ∧ Dp K H x d ∧ Dp K H y e ∧ FrD n d ∧ FrD m e ∧ (0 < n ∧ 0 < m ∧ n + m < 13000) ∧ (d ≠ .none → ∀ z, e ≠ wD (0, z)) ∧ Tell K (quoD d e) H Q
/-- pairs of weights and worths -/
def prD (p : PyData × PyData) : PyData := .tuple [p.1, p.2]
def Pairs (ps : List (PyData × PyData)) : Prop := ps.length ≤ 5 ∧ ∀ p ∈ ps, (∃ a b, p.1 = wD (a, b) ∧ Fr 1010 a b) ∧ FrD 1010 p.2
def wsum (ps : List (PyData × PyData)) : PyData := ps.foldl (fun f p => sumD f (prodD p.1 p.2)) .none
def sp_weighted_in (K : PySem.W.Frag) : Sp := fun vs H Q _ => ∃ x ps, vs = [x] ∧ Dp K H x (.tuple (ps.map prD)) ∧ Pairs ps ∧ Tell K (wsum ps) H Q
def isPair : PyData → Bool
  | .tuple [w, v] => isLong w && okOp v
  | _ => false
def isPairs : PyData → Bool
  | .tuple ds => ds.all isPair
  | _ => false
def sp_is_below_in (K : PySem.W.Frag) : Sp := fun vs H Q _ => ∃ x y a b c d n m, vs = [x, y] ∧ Dp K H x (wD (a, b)) ∧ Dp K H y (wD (c, d)) ∧ Fr n a b ∧ Fr m c d ∧ (0 < n ∧ 0 < m ∧ n + m < 13000) ∧ Sm.RetV (.bl (decide (a * d < c * b))) H Q
def great : PyData → Bool
  | .tuple [.int a, .int b] => decide ((a.natAbs : Int) ≥ GR) || decide (b ≥ GR)
  | _ => false
def sp_is_great_in (K : PySem.W.Frag) : Sp := fun vs H Q _ => ∃ x d n, vs = [x] ∧ Dp K H x d ∧ FrD n d ∧ Sm.RetV (.bl (great d)) H Q
/-- an operation: errors of its operands, or what it makes -/
def Oper (K : PySem.W.Frag) (f : PyData → PyData → PyData) (d e : PyData) (H : Hp) (Q : VK) (E : XK) : Prop :=
  (okOp d = true → okOp e = true → ∃ n m, FrD n d ∧ FrD m e ∧ (0 < n ∧ 0 < m ∧ n + m < 13000) ∧ Tell K (f d e) H Q) ∧ (okOp d = false ∨ okOp e = false → Sm.Rp K "InvalidWorth" H E)
def sp_plus (K : PySem.W.Frag) : Sp := fun vs H Q E => ∃ x y d e, vs = [x, y] ∧ Dp K H x d ∧ Dp K H y e ∧ Oper K sumD d e H Q E
def sp_minus (K : PySem.W.Frag) : Sp := fun vs H Q E => ∃ x y d e, vs = [x, y] ∧ Dp K H x d ∧ Dp K H y e ∧ Oper K (fun d e => sumD d (negD e)) d e H Q E
def sp_times (K : PySem.W.Frag) : Sp := fun vs H Q E => ∃ x y d e, vs = [x, y] ∧ Dp K H x d ∧ Dp K H y e ∧ Oper K prodD d e H Q E
def sp_over (K : PySem.W.Frag) : Sp := fun vs H Q E => ∃ x y d e, vs = [x, y] ∧ Dp K H x d ∧ Dp K H y e ∧
  (okOp d = true → okOp e = true → ∃ n m, FrD n d ∧ FrD m e ∧ (0 < n ∧ 0 < m ∧ n + m < 13000) ∧ (d ≠ .none → e = wD (0, 1) → ∀ q H1, Same H H1 → H1 q = some (.tup [.str "zero"]) → Sm.Rz K "Refused" "reason" (.ref q) H1 E) ∧
    ((d ≠ .none → e ≠ wD (0, 1)) → Tell K (quoD d e) H Q)) ∧ (okOp d = false ∨ okOp e = false → Sm.Rp K "InvalidWorth" H E)
/-- all of these refuse wrong operands -/
def sp_bad2 (K : PySem.W.Frag) : Sp := fun vs H _ E => ∃ x y d e, vs = [x, y] ∧ Dp K H x d ∧ Dp K H y e ∧ (okOp d = false ∨ okOp e = false) ∧ Sm.Rp K "InvalidWorth" H E
def sp_is_weighted_pair (K : PySem.W.Frag) : Sp := fun vs H Q _ => ∃ x d, vs = [x] ∧ Dp K H x d ∧ Sm.RetV (.bl (isPair d)) H Q
def sp_weighted_sum (K : PySem.W.Frag) : Sp := fun vs H Q E => ∃ x d, vs = [x] ∧ Dp K H x d ∧ (∀ ds, d = .tuple ds → ds.length ≤ 100) ∧ (isPairs d = true → ∃ ps, d = .tuple (ps.map prD) ∧ Pairs ps ∧ Tell K (wsum ps) H Q) ∧ (isPairs d = false → Sm.Rp K "InvalidOperation" H E)
def sp_is_below (K : PySem.W.Frag) : Sp := fun vs H Q E => ∃ x y d e, vs = [x, y] ∧ Dp K H x d ∧ Dp K H y e ∧
  (isLong d = true → isLong e = true → ∃ a b c f n m, d = wD (a, b) ∧ e = wD (c, f) ∧ Fr n a b ∧ Fr m c f ∧ (0 < n ∧ 0 < m ∧ n + m < 13000) ∧ Sm.RetV (.bl (decide (a * f < c * b))) H Q) ∧ (isLong d = false ∨ isLong e = false → Sm.Rp K "InvalidWorth" H E)
def sp_is_great (K : PySem.W.Frag) : Sp := fun vs H Q E => ∃ x d, vs = [x] ∧ Dp K H x d ∧ (isLong d = true → ∃ n, FrD n d ∧ Sm.RetV (.bl (great d)) H Q) ∧ (isLong d = false → Sm.Rp K "InvalidWorth" H E)
/-! ### the law's own -/
def Dice (H : Hp) (p : Addr) : Prop := ∃ a b c : Int, H p = some (.lst [.int a, .int b, .int c])
/-- goes on with the dice at p, all else as before -/
def After (H : Hp) (p : Addr) (Q : Hp → Prop) : Prop := ∀ H', Same (Sm.dl H p) H' → Dice H' p → Q H'
def sp__law_dice (K : PySem.W.Frag) : Sp := fun vs H Q _ => ∃ (p : Addr) (ns : List Int) (i : Nat), vs = [.ref p, .int (i : Int)] ∧ SqL K H p (ns.map V.int) ∧ ∀ q H', H q = none → Same H H' → Dice H' q → Q (.ref q) H'
def sp__law_roll (K : PySem.W.Frag) : Sp := fun vs H Q _ => ∃ (p : Addr) (n : Int), vs = [.ref p, .int n] ∧ Dice H p ∧ 0 < n ∧ n < 1073741824 ∧ ∀ r : Int, 0 ≤ r → r < n → After H p (Q (.int r))
def sp__law_one_of (K : PySem.W.Frag) : Sp := fun vs H Q _ => ∃ (p q : Addr) (xs : List V), vs = [.ref p, .ref q] ∧ Dice H p ∧ SqL K (Sm.dl H p) q xs ∧ 0 < xs.length ∧ xs.length < 1073741824 ∧ ∀ (i : Nat) (v : V), xs[i]? = some v → After H p (Q v)
def sp__law_lowest (K : PySem.W.Frag) : Sp := fun vs H Q _ => ∃ t b : Int, vs = [.int t, .int b] ∧ b ≠ 0 ∧ (t.natAbs < 2 ^ 13000 ∧ b.natAbs < 2 ^ 13000) ∧ Tell K (wD (low t b)) H Q
def sp__law_long (K : PySem.W.Frag) : Sp := fun vs H Q _ => ∃ p : Addr, vs = [.ref p] ∧ Dice H p ∧ ∀ r : Int, 1 ≤ r → r.natAbs < 2 ^ 1010 → After H p (Q (.int r))
def TellP (K : PySem.W.Frag) (S : PyData → Prop) (H : Hp) (p : Addr) (Q : VK) : Prop := ∀ v d H', Same (Sm.dl H p) H' → Dice H' p → Dp K (Sm.dl H' p) v d → S d → Q v H'
def sp__law_fraction (K : PySem.W.Frag) : Sp := fun vs H Q _ => ∃ p : Addr, vs = [.ref p] ∧ Dice H p ∧ TellP K (fun d => ∃ a b, d = wD (a, b) ∧ Fr 1010 a b) H p Q
def sp__law_operand (K : PySem.W.Frag) : Sp := fun vs H Q _ => ∃ p : Addr, vs = [.ref p] ∧ Dice H p ∧ TellP K (FrD 1010) H p Q
def sp__law_added (K : PySem.W.Frag) : Sp := fun vs H Q _ => ∃ x y d e n m, vs = [x, y] ∧ Dp K H x d ∧ Dp K H y e ∧ FrD n d ∧ FrD m e ∧ (0 < n ∧ 0 < m ∧ n + m < 13000) ∧ Tell K (sumD d e) H Q
def sp__law_multiplied (K : PySem.W.Frag) : Sp := fun vs H Q _ => ∃ x y d e n m, vs = [x, y] ∧ Dp K H x d ∧ Dp K H y e ∧ FrD n d ∧ FrD m e ∧ (0 < n ∧ 0 < m ∧ n + m < 13000) ∧ Tell K (prodD d e) H Q
def backD : PyData → PyData → PyData
  | .none, .none => .none
  | .none, _ => wD (0, 1)
  | x, _ => x
def sp__law_back (K : PySem.W.Frag) : Sp := fun vs H Q _ => ∃ x y d e, vs = [x, y] ∧ Dp K H x d ∧ Dp K H y e ∧ Tell K (backD d e) H Q
/-- what the law's catcher makes of an exception -/
def EMet (K : PySem.W.Frag) (Q : VK) : XK := fun cls d H =>
  ∃ b, PySem.W.exmOne K cls (.ref (He.ga K "InvalidWorth")) = some b ∧ (b = true → Q (.str "worth") H) ∧ (b = false →
  ∃ b, PySem.W.exmOne K cls (.ref (He.ga K "InvalidOperation")) = some b ∧ (b = true → Q (.str "operation") H) ∧ (b = false →
  ∃ b, PySem.W.exmOne K cls (.ref (He.ga K "InvalidNumber")) = some b ∧ (b = true → cls = .ref (He.ga K "InvalidNumber") ∧ ∃ a v e, d = some a ∧ H a = some (.xd [("given", v)]) ∧ Dp K H v e ∧ (e.showable = true ∧ e.hasDict = false ∧ e.depth ≤ 8 ∧ e.shown.length ≤ 1000) ∧ Q (.str ("number " ++ e.shown)) H) ∧ (b = false →
  ∃ b, PySem.W.exmOne K cls (.ref (He.ga K "Refused")) = some b ∧ (b = true → cls = .ref (He.ga K "Refused") ∧ ∃ a v e, d = some a ∧ H a = some (.xd [("reason", v)]) ∧ Dp K H v e ∧ (e.showable = true ∧ e.hasDict = false ∧ e.depth ≤ 8 ∧ e.shown.length ≤ 1000) ∧ Q (.str ("refused " ++ e.shown)) H) ∧ b ≠ false)))
def TMet (K : PySem.W.Frag) : (XK → Hp → VK → Prop) → Hp → VK → Prop := fun tl H Q => tl (EMet K Q) H fun _ H1 => Q (.str "fine") H1
def sp__law_compared (K : PySem.W.Frag) : Sp := fun vs H Q _ => ∃ x y a b c f, vs = [x, y] ∧ Dp K H x (wD (a, b)) ∧ Dp K H y (wD (c, f)) ∧ Fr 1010 a b ∧ Fr 1010 c f ∧ Sm.RetV (.bl true) H Q
def sp__law_judged (K : PySem.W.Frag) : Sp := fun vs H Q _ => ∃ p : Addr, vs = [.ref p] ∧ Dice H p ∧ After H p (Q (.bl true))
def sp__law_reckoned (K : PySem.W.Frag) : Sp := fun vs H Q _ => ∃ x y d e, vs = [x, y] ∧ Dp K H x d ∧ Dp K H y e ∧ FrD 1010 d ∧ FrD 1010 e ∧ LamX.Tabs (TT K) H ∧ ∀ H', LamX.ExtN H H' → LamX.Tabs (TT K) H' → Q (.bl true) H'
def sp__law_refused_right (K : PySem.W.Frag) : Sp := fun vs H Q _ => ∃ (p : Addr) (x y : V) (d e : PyData), vs = [.ref p, x, y] ∧ Dice H p ∧ Dp K (Sm.dl H p) x d ∧ Dp K (Sm.dl H p) y e ∧ FrD 1010 d ∧ FrD 1010 e ∧ LamX.Tabs (TT K) H ∧ ∀ H', LamX.ExtN (Sm.dl H p) H' → LamX.Tabs (TT K) H' → Q (.bl true) H'
def sp__law_right (K : PySem.W.Frag) : Sp := fun vs H Q _ => ∃ p : Addr, vs = [.ref p] ∧ Dice H p ∧ LamX.Tabs (TT K) H ∧ ∀ H', LamX.ExtN (Sm.dl H p) H' → LamX.Tabs (TT K) H' → Q (.bl true) H'
def sp_law (K : PySem.W.Frag) : Sp := fun vs H Q _ => ∃ (p : Addr) (ns : List Int), vs = [.ref p] ∧ SqL K H p (ns.map V.int) ∧ ns.length ≤ 63 ∧ LamX.Tabs (TT K) H ∧ ∀ H', Q (.bl true) H'
end K00
namespace K00
open PySem PySem.Spec PyProof.Rows L2
open TL (tl)
theorem low_pos {t b : Int} (hb : 0 < b) : low t b = (t / (Int.gcd t b : Nat), b / (Int.gcd t b : Nat)) := by
  unfold low
  rw [if_neg (by omega)]
theorem low_neg {t b : Int} (hb : b < 0) : low t b = (-t / (Int.gcd t b : Nat), -b / (Int.gcd t b : Nat)) := by
  unfold low
  rw [if_pos hb]
theorem gcd_pos {t b : Int} (hb : b ≠ 0) : 0 < ((Int.gcd t b : Nat) : Int) := by
  have h : Int.gcd t b ≠ 0 := fun z => hb (Int.gcd_eq_zero_iff.mp z).2
  omega
theorem gcd_le {t b : Int} (hb : b ≠ 0) : Int.gcd t b ≤ b.natAbs := Nat.le_of_dvd (by omega) (Int.gcd_dvd_natAbs_right t b)
theorem gcd_step (x y : Int) : Int.gcd y (x % y) = Int.gcd x y := by
  have e : x % y = x - y * (x / y) := by
    have := Int.emod_add_mul_ediv x y
    omega
  rw [e, Int.gcd_sub_mul_left_right, Int.gcd_comm]
theorem dp_pair {K : PySem.W.Frag} {H : Hp} {p : Addr} {a b : Int} (h : H p = some (.tup [.int a, .int b])) : Dp K H (.ref p) (.tuple [.int a, .int b]) := .tup (.inl (.inl h)) (.cons (.int a) (.cons (.int b) .nil))
theorem dpAll_len {K : PySem.W.Frag} {H : Hp} : ∀ {xs : List V} {ds : List PyData}, DpAll K H xs ds → xs.length = ds.length
  | _, _, .nil => rfl
  | _, _, .cons _ r => by
    rw [List.length_cons, List.length_cons, dpAll_len r]
section
variable {K : PySem.W.Frag} {H : Hp} {Q : VK} {E : XK} {x : V} {d : PyData}
theorem c_is_whole (hd : Dp K H x d) (q : ∀ H', Same H H' → Q (.bl (isWhole d)) H') : sp_is_whole K ([x] ++ []) H Q E := ⟨x, d, rfl, hd, q⟩
theorem c_is_worth (hd : Dp K H x d) (q : ∀ H', Same H H' → Q (.bl (isWorth d)) H') : sp_is_worth K ([x] ++ []) H Q E := ⟨x, d, rfl, hd, q⟩
theorem c_is_long_worth (hd : Dp K H x d) (q : ∀ H', Same H H' → Q (.bl (isLong d)) H') : sp_is_long_worth K ([x] ++ []) H Q E := ⟨x, d, rfl, hd, q⟩
theorem c_gcd {a b : Int} (ha : 0 ≤ a) (hb : 0 ≤ b) (q : ∀ H', Same H H' → Q (.int (Int.gcd a b : Nat)) H') : sp_greatest_divisor K ([.int a, .int b] ++ []) H Q E := ⟨a, b, rfl, ha, hb, q⟩
theorem c_gcdA {a b : Int} (hb : 0 ≤ b) (q : ∀ H', Same H H' → Q (.int (Int.gcd a b : Nat)) H') : sp_greatest_divisor K ([.int (a.natAbs : Nat), .int b] ++ []) H Q E := ⟨_, b, rfl, by omega, hb, by rw [show Int.gcd (a.natAbs : Nat) b = Int.gcd a b by simp [Int.gcd]]; exact q⟩
theorem c_require_worth (hd : Dp K H x d) (ho : isLong d = true) (q : ∀ H', Same H H' → Q .non H') : sp_require_worth K ([x] ++ []) H Q E := ⟨x, d, rfl, hd, fun _ => q, fun z => by rw [ho] at z; cases z⟩
theorem c_require_operand (hd : Dp K H x d) (ho : okOp d = true) (q : ∀ H', Same H H' → Q .non H') : sp_require_operand K ([x] ++ []) H Q E := ⟨x, d, rfl, hd, fun _ => q, fun z => by rw [ho] at z; cases z⟩
end
theorem isWorth_elim {d : PyData} (h : isWorth d = true) : ∃ t b : Int, d = .tuple [.int t, .int b] ∧ 1 ≤ b ∧ Int.gcd t b = 1 := by
  unfold isWorth at h
  split at h
  · rename_i t b
    simp only [Bool.and_eq_true, decide_eq_true_eq] at h
    exact ⟨t, b, rfl, h.1, by omega⟩
  · cases h
theorem isWorth_intro {t b : Int} (h1 : 1 ≤ b) (h2 : Int.gcd t b = 1) : isWorth (.tuple [.int t, .int b]) = true := by
  simp [isWorth, h1, h2]
theorem isLong_worth {d : PyData} (h : isWorth d = false) : isLong d = false := by
  unfold isLong
  split
  · rw [h]; rfl
  · rfl
theorem isWorth_1 (d : PyData) : isWorth (.tuple [d]) = false := by cases d <;> rfl
theorem isWorth_3 (a b c : PyData) (l : List PyData) : isWorth (.tuple (a :: b :: c :: l)) = false := by cases a <;> cases b <;> rfl
theorem okOp_of {d : PyData} (h : d ≠ .none) : okOp d = isLong d := by cases d <;> first | rfl | exact absurd rfl h
theorem low_char {t b p q : Int} (hb : b ≠ 0) (hq : 1 ≤ q) (hg : Int.gcd p q = 1) (e : p * b = t * q) : low t b = (p, q) := by
  have hd : q ∣ b := by
    have h1 : q ∣ p * b := ⟨t, by rw [e, Int.mul_comm]⟩
    have h2 : q.natAbs ∣ p.natAbs * b.natAbs := by rw [← Int.natAbs_mul]; exact Int.natAbs_dvd_natAbs.mpr h1
    have h3 : Nat.Coprime q.natAbs p.natAbs := by rw [Nat.coprime_comm]; exact hg
    exact Int.natAbs_dvd_natAbs.mp (h3.dvd_of_dvd_mul_left h2)
  obtain ⟨k, rfl⟩ := hd
  have hk : k ≠ 0 := fun z => hb (by rw [z, Int.mul_zero])
  have et : t = p * k := by
    have h2 : q * (p * k) = q * t := by
      rw [show q * t = p * (q * k) by rw [e, Int.mul_comm], Int.mul_left_comm]
    exact (Int.eq_of_mul_eq_mul_left (by omega) h2).symm
  subst et
  have eg : ((Int.gcd (p * k) (q * k) : Nat) : Int) = (k.natAbs : Int) := by
    rw [Int.gcd_mul_right, hg, Nat.one_mul]
  rcases Int.lt_or_gt_of_ne hk with h | h
  · have hneg : q * k < 0 := Int.mul_neg_of_pos_of_neg (by omega) h
    rw [low_neg hneg, eg]
    have ek : (k.natAbs : Int) = -k := by omega
    rw [ek, show -(p * k) = p * -k by rw [Int.mul_neg], show -(q * k) = q * -k by rw [Int.mul_neg], Int.mul_ediv_cancel _ (by omega), Int.mul_ediv_cancel _ (by omega)]
  · have hpos : 0 < q * k := Int.mul_pos (by omega) h
    rw [low_pos hpos, eg]
    have ek : (k.natAbs : Int) = k := by omega
    rw [ek, Int.mul_ediv_cancel _ (by omega), Int.mul_ediv_cancel _ (by omega)]
theorem low_ok {t b : Int} (hb : b ≠ 0) : ∃ p q : Int, low t b = (p, q) ∧ 1 ≤ q ∧ Int.gcd p q = 1 ∧ p * b = t * q ∧ p.natAbs ≤ t.natAbs ∧ q.natAbs ≤ b.natAbs := by
  have key : ∀ t b : Int, 0 < b → 1 ≤ b / (Int.gcd t b : Nat) ∧ Int.gcd (t / (Int.gcd t b : Nat)) (b / (Int.gcd t b : Nat)) = 1 ∧ t / (Int.gcd t b : Nat) * b = t * (b / (Int.gcd t b : Nat)) ∧ (t / (Int.gcd t b : Nat)).natAbs ≤ t.natAbs ∧ (b / (Int.gcd t b : Nat)).natAbs ≤ b.natAbs := fun t b hb => by
    have hg := gcd_pos (t := t) (b := b) (by omega)
    obtain ⟨x, hx⟩ : ((Int.gcd t b : Nat) : Int) ∣ t := Int.gcd_dvd_left ..
    obtain ⟨y, hy⟩ : ((Int.gcd t b : Nat) : Int) ∣ b := Int.gcd_dvd_right ..
    have ex : t / (Int.gcd t b : Nat) = x := by
      conv => lhs; arg 1; rw [hx]
      exact Int.mul_ediv_cancel_left _ (by omega)
    have ey : b / (Int.gcd t b : Nat) = y := by
      conv => lhs; arg 1; rw [hy]
      exact Int.mul_ediv_cancel_left _ (by omega)
    refine ⟨?_, Int.gcd_ediv_gcd_ediv_gcd (by omega), ?_, ?_, ?_⟩
    · have hd : ((Int.gcd t b : Nat) : Int) ∣ b := Int.gcd_dvd_right ..
      have := Int.ediv_pos_of_pos_of_dvd hb (by omega) hd
      omega
    · rw [ex, ey]
      have e1 : x * b = x * ((Int.gcd t b : Nat) * y) := congrArg (x * ·) hy
      have e2 : t * y = (Int.gcd t b : Nat) * x * y := congrArg (· * y) hx
      rw [e1, e2, Int.mul_comm ((Int.gcd t b : Nat) : Int) x, Int.mul_assoc]
    · have hd : ((Int.gcd t b : Nat) : Int) ∣ t := Int.gcd_dvd_left ..
      rw [Int.natAbs_ediv, if_pos (.inr (.inr hd)), Nat.add_zero]
      exact Nat.div_le_self _ _
    · have hd : ((Int.gcd t b : Nat) : Int) ∣ b := Int.gcd_dvd_right ..
      rw [Int.natAbs_ediv, if_pos (.inr (.inr hd)), Nat.add_zero]
      exact Nat.div_le_self _ _
  rcases Int.lt_or_gt_of_ne hb with h | h
  · obtain ⟨k1, k2, k3, k4, k5⟩ := key (-t) (-b) (by omega)
    rw [show Int.gcd (-t) (-b) = Int.gcd t b by rw [Int.neg_gcd, Int.gcd_neg]] at k1 k2 k3 k4 k5
    refine ⟨_, _, low_neg h, k1, k2, ?_, by omega, by omega⟩
    have e : -(-t / ((Int.gcd t b : Nat) : Int) * b) = -(t * (-b / ((Int.gcd t b : Nat) : Int))) := by rw [← Int.mul_neg, k3, Int.neg_mul]
    omega
  · obtain ⟨k1, k2, k3, k4, k5⟩ := key t b (by omega)
    exact ⟨_, _, low_pos (by omega), k1, k2, k3, k4, k5⟩
theorem low_eq {t b t' b' : Int} (h : b ≠ 0) (h' : b' ≠ 0) (e : t * b' = t' * b) : low t b = low t' b' := by
  obtain ⟨p, q, el, hq, hg, ep, _⟩ := low_ok (t := t') h'
  rw [el]
  refine low_char h hq hg ?_
  have : b' * (p * b) = b' * (t * q) := by
    grind
  exact Int.eq_of_mul_eq_mul_left h' this
theorem low_self {a b : Int} (h : 1 ≤ b) (hg : Int.gcd a b = 1) : low a b = (a, b) := low_char (by omega) h hg rfl
theorem low_fr {n : Nat} {t b : Int} (hb : b ≠ 0) (h1 : t.natAbs < 2 ^ n) (h2 : b.natAbs < 2 ^ n) : Fr n (low t b).1 (low t b).2 := by
  obtain ⟨p, q, e, hq, hg, _, h3, h4⟩ := low_ok (t := t) hb
  rw [e]
  exact ⟨hq, hg, Nat.lt_of_le_of_lt h3 h1, Nat.lt_of_le_of_lt h4 h2⟩
theorem Fr.mono {n m : Nat} {a b : Int} (h : Fr n a b) (hm : n ≤ m) : Fr m a b := by
  have e : 2 ^ n ≤ 2 ^ m := Nat.pow_le_pow_right (by decide) hm
  exact ⟨h.1, h.2.1, Nat.lt_of_lt_of_le h.2.2.1 e, Nat.lt_of_lt_of_le h.2.2.2 e⟩
theorem FrD.mono {n m : Nat} {d : PyData} (h : FrD n d) (hm : n ≤ m) : FrD m d := by
  rcases h with rfl | ⟨a, b, rfl, h⟩
  · exact .inl rfl
  · exact .inr ⟨a, b, rfl, h.mono hm⟩
theorem mul_lt {i j : Int} {n m : Nat} (h1 : i.natAbs < 2 ^ n) (h2 : j.natAbs < 2 ^ m) : (i * j).natAbs < 2 ^ (n + m) := by
  rw [Int.natAbs_mul, Nat.pow_add]
  exact Nat.mul_lt_mul'' h1 h2
theorem add_lt {i j : Int} {n : Nat} (h1 : i.natAbs < 2 ^ n) (h2 : j.natAbs < 2 ^ n) : (i + j).natAbs < 2 ^ (n + 1) := by
  rw [Nat.pow_succ]
  omega
theorem pow_up {x n m : Nat} (h : x < 2 ^ n) (hm : n ≤ m) : x < 2 ^ m := Nat.lt_of_lt_of_le h (Nat.pow_le_pow_right (by decide) hm)
theorem mulF {i j : Int} {n m : Nat} (h1 : i.natAbs < 2 ^ n) (h2 : j.natAbs < 2 ^ m) (h : 0 < n ∧ 0 < m ∧ n + m < 13000) : IntMulOk i j := Sm.mulB h1 h2 h.1 h.2.1 (by omega)
theorem low2_fr {n m : Nat} {a b c d : Int} (h1 : Fr n a b) (h2 : Fr m c d) : Fr (n + m + 1) (low2 a b c d).1 (low2 a b c d).2 := by
  have hbd : b * d ≠ 0 := fun z => by
    rcases Int.mul_eq_zero.mp z with z | z
    · have := h1.1; omega
    · have := h2.1; omega
  refine low_fr hbd ?_ (pow_up (mul_lt h1.2.2.2 h2.2.2.2) (by omega))
  refine add_lt (mul_lt h1.2.2.1 h2.2.2.2) ?_
  rw [Nat.add_comm]
  exact mul_lt h2.2.2.1 h1.2.2.2
theorem sum_fr {n m : Nat} {d e : PyData} (h1 : FrD n d) (h2 : FrD m e) : FrD (n + m + 1) (sumD d e) := by
  rcases h1 with rfl | ⟨a, b, rfl, h1⟩
  · exact h2.mono (by omega)
  rcases h2 with rfl | ⟨a', b', rfl, h2⟩
  · exact .inr ⟨a, b, rfl, h1.mono (by omega)⟩
  · exact .inr ⟨_, _, rfl, low2_fr h1 h2⟩
theorem prod_fr {n m : Nat} {d e : PyData} (h1 : FrD n d) (h2 : FrD m e) : FrD (n + m) (prodD d e) := by
  rcases h1 with rfl | ⟨a, b, rfl, h1⟩
  · exact .inl rfl
  rcases h2 with rfl | ⟨a', b', rfl, h2⟩
  · exact .inl rfl
  · refine .inr ⟨_, _, rfl, low_fr (fun z => ?_) (mul_lt h1.2.2.1 h2.2.2.1) (mul_lt h1.2.2.2 h2.2.2.2)⟩
    rcases Int.mul_eq_zero.mp z with z | z
    · have := h1.1; omega
    · have := h2.1; omega
theorem neg_fr {n : Nat} {d : PyData} (h1 : FrD n d) : FrD n (negD d) := by
  rcases h1 with rfl | ⟨a, b, rfl, h1⟩
  · exact .inl rfl
  · exact .inr ⟨-a, b, rfl, h1.1, by rw [Int.neg_gcd]; exact h1.2.1, by rw [Int.natAbs_neg]; exact h1.2.2.1, h1.2.2.2⟩
theorem quo_fr {n m : Nat} {d e : PyData} (h1 : FrD n d) (h2 : FrD m e) (h0 : ∀ z, e ≠ wD (0, z)) : FrD (n + m) (quoD d e) := by
  rcases h1 with rfl | ⟨a, b, rfl, h1⟩
  · exact .inl rfl
  rcases h2 with rfl | ⟨a', b', rfl, h2⟩
  · exact .inl rfl
  · have ha : a' ≠ 0 := fun z => h0 b' (by rw [z])
    refine .inr ⟨_, _, rfl, low_fr (fun z => ?_) (mul_lt h1.2.2.1 h2.2.2.2) (mul_lt h1.2.2.2 h2.2.2.1)⟩
    rcases Int.mul_eq_zero.mp z with z | z
    · have := h1.1; omega
    · exact ha z
/-- the sum of two operands less the second one -/
theorem back_ok {n m : Nat} {d e : PyData} (h1 : FrD n d) (h2 : FrD m e) : sumD (sumD d e) (negD e) = backD d e := by
  rcases h1 with rfl | ⟨a, b, rfl, h1⟩
  · rcases h2 with rfl | ⟨c, f, rfl, h2⟩
    · rfl
    · show wD (low2 c f (-c) f) = wD (0, 1)
      congr 1
      have := h2.1
      refine low_char (fun z => ?_) (by decide) (by decide) ?_
      · rcases Int.mul_eq_zero.mp z with z | z <;> omega
      · grind
  · rcases h2 with rfl | ⟨c, f, rfl, h2⟩
    · rfl
    · have hb := h1.1
      have hf := h2.1
      have hbf : b * f ≠ 0 := fun z => by rcases Int.mul_eq_zero.mp z with z | z <;> omega
      obtain ⟨p, q, el, hq, hg, ep, _⟩ := low_ok (t := a * f + c * b) hbf
      show sumD (wD (low (a * f + c * b) (b * f))) (wD (-c, f)) = wD (a, b)
      rw [el]
      show wD (low (p * f + -c * q) (q * f)) = wD (a, b)
      congr 1
      refine low_char (fun z => ?_) hb h1.2.1 ?_
      · rcases Int.mul_eq_zero.mp z with z | z <;> omega
      · grind
/-- a quotient times its divisor -/
theorem quo_ok {n m : Nat} {a b c f : Int} (h1 : Fr n a b) (h2 : Fr m c f) (h0 : c ≠ 0) : ∃ p q : Int, quoD (wD (a, b)) (wD (c, f)) = wD (p, q) ∧ 1 ≤ q ∧ low p q = (p, q) ∧ prodD (wD (p, q)) (wD (c, f)) = wD (a, b) := by
  have hb := h1.1
  have hf := h2.1
  have hbc : b * c ≠ 0 := fun z => by rcases Int.mul_eq_zero.mp z with z | z <;> omega
  obtain ⟨p, q, el, hq, hg, ep, _⟩ := low_ok (t := a * f) hbc
  refine ⟨p, q, ?_, hq, low_self hq hg, ?_⟩
  · show wD (low (a * f) (b * c)) = wD (p, q)
    rw [el]
  · show wD (low (p * c) (q * f)) = wD (a, b)
    congr 1
    refine low_char (fun z => ?_) hb h1.2.1 ?_
    · rcases Int.mul_eq_zero.mp z with z | z <;> omega
    · grind
theorem low2_same {a c b : Int} (h : b ≠ 0) : low (a + c) b = low2 a b c b := by
  refine low_eq h (fun z => ?_) ?_
  · rcases Int.mul_eq_zero.mp z with z | z <;> exact h z
  · grind
end K00
namespace K00
open PySem PySem.Spec PyProof.Rows L2
section
variable {K : PySem.W.Frag} {H : Hp} {Q : VK} {E : XK} {x y : V} {d e : PyData} {n m : Nat} {p q : Addr}
theorem c_is_name (hd : Dp K H x d) (hz : ∀ z, d = .str z → z.length ≤ 100) (k : ∀ H', Same H H' → Q (.bl (isName d)) H') : sp_is_name K ([x] ++ []) H Q E := ⟨x, d, rfl, hd, hz, k⟩
theorem rp_mv {x : Str} {H H1 : Hp} (h : Sm.Rp K x H E) (s : Same H H1) : Sm.Rp K x H1 E := fun H' h' => h H' (s.trans h')
theorem c_require_worthX (hd : Dp K H x d) (ho : isLong d = false) (hr : Sm.Rp K "InvalidWorth" H E) : sp_require_worth K ([x] ++ []) H Q E := ⟨x, d, rfl, hd, fun z => (by rw [ho] at z; cases z), fun _ => hr⟩
theorem c_require_operandX (hd : Dp K H x d) (ho : okOp d = false) (hr : Sm.Rp K "InvalidWorth" H E) : sp_require_operand K ([x] ++ []) H Q E := ⟨x, d, rfl, hd, fun z => (by rw [ho] at z; cases z), fun _ => hr⟩
theorem c_is_cell_worth (hd : Dp K H x d) (k : ∀ H', Same H H' → Q (.bl (isCell d)) H') : sp_is_cell_worth K ([x] ++ []) H Q E := ⟨x, d, rfl, hd, k⟩
theorem c_is_weight (hd : Dp K H x d) (k : ∀ H', Same H H' → Q (.bl (isWeight d)) H') : sp_is_weight K ([x] ++ []) H Q E := ⟨x, d, rfl, hd, k⟩
theorem c_lowest {a b : Int} (h0 : b ≠ 0) (hb : a.natAbs < 2 ^ 13000 ∧ b.natAbs < 2 ^ 13000) (k : ∀ v H', Same H H' → Dp K H' v (wD (low a b)) → Q v H') : sp_lowest K ([.int a, .int b] ++ []) H Q E := ⟨a, b, rfl, h0, hb, k⟩
theorem c_law_lowest {a b : Int} (h0 : b ≠ 0) (hb : a.natAbs < 2 ^ 13000 ∧ b.natAbs < 2 ^ 13000) (k : ∀ v H', Same H H' → Dp K H' v (wD (low a b)) → Q v H') : sp__law_lowest K ([.int a, .int b] ++ []) H Q E := ⟨a, b, rfl, h0, hb, k⟩
theorem c_sum_in (hd : Dp K H x d) (he : Dp K H y e) (fd : FrD n d) (fe : FrD m e) (h : 0 < n ∧ 0 < m ∧ n + m < 13000) (k : ∀ v H', Same H H' → Dp K H' v (sumD d e) → Q v H') : sp_sum_in K ([x, y] ++ []) H Q E := ⟨x, y, d, e, n, m, rfl, hd, he, fd, fe, h, k⟩
theorem c_difference_in (hd : Dp K H x d) (he : Dp K H y e) (fd : FrD n d) (fe : FrD m e) (h : 0 < n ∧ 0 < m ∧ n + m < 13000) (k : ∀ v H', Same H H' → Dp K H' v (sumD d (negD e)) → Q v H') : sp_difference_in K ([x, y] ++ []) H Q E := ⟨x, y, d, e, n, m, rfl, hd, he, fd, fe, h, k⟩
theorem c_product_in (hd : Dp K H x d) (he : Dp K H y e) (fd : FrD n d) (fe : FrD m e) (h : 0 < n ∧ 0 < m ∧ n + m < 13000) (k : ∀ v H', Same H H' → Dp K H' v (prodD d e) → Q v H') : sp_product_in K ([x, y] ++ []) H Q E := ⟨x, y, d, e, n, m, rfl, hd, he, fd, fe, h, k⟩
theorem c_quotient_in (hd : Dp K H x d) (he : Dp K H y e) (fd : FrD n d) (fe : FrD m e) (h : 0 < n ∧ 0 < m ∧ n + m < 13000) (h0 : d ≠ .none → ∀ z, e ≠ wD (0, z)) (k : ∀ v H', Same H H' → Dp K H' v (quoD d e) → Q v H') : sp_quotient_in K ([x, y] ++ []) H Q E := ⟨x, y, d, e, n, m, rfl, hd, he, fd, fe, h, h0, k⟩
theorem c_added (hd : Dp K H x d) (he : Dp K H y e) (fd : FrD n d) (fe : FrD m e) (h : 0 < n ∧ 0 < m ∧ n + m < 13000) (k : ∀ v H', Same H H' → Dp K H' v (sumD d e) → Q v H') : sp__law_added K ([x, y] ++ []) H Q E := ⟨x, y, d, e, n, m, rfl, hd, he, fd, fe, h, k⟩
theorem c_multiplied (hd : Dp K H x d) (he : Dp K H y e) (fd : FrD n d) (fe : FrD m e) (h : 0 < n ∧ 0 < m ∧ n + m < 13000) (k : ∀ v H', Same H H' → Dp K H' v (prodD d e) → Q v H') : sp__law_multiplied K ([x, y] ++ []) H Q E := ⟨x, y, d, e, n, m, rfl, hd, he, fd, fe, h, k⟩
theorem c_back (hd : Dp K H x d) (he : Dp K H y e) (k : ∀ v H', Same H H' → Dp K H' v (backD d e) → Q v H') : sp__law_back K ([x, y] ++ []) H Q E := ⟨x, y, d, e, rfl, hd, he, k⟩
theorem c_is_below_in {a b c f : Int} (hd : Dp K H x (wD (a, b))) (he : Dp K H y (wD (c, f))) (fd : Fr n a b) (fe : Fr m c f) (h : 0 < n ∧ 0 < m ∧ n + m < 13000) (k : ∀ H', Same H H' → Q (.bl (decide (a * f < c * b))) H') : sp_is_below_in K ([x, y] ++ []) H Q E := ⟨x, y, a, b, c, f, n, m, rfl, hd, he, fd, fe, h, k⟩
theorem c_is_great_in (hd : Dp K H x d) (fd : FrD n d) (k : ∀ H', Same H H' → Q (.bl (great d)) H') : sp_is_great_in K ([x] ++ []) H Q E := ⟨x, d, n, rfl, hd, fd, k⟩
theorem c_weighted_in {ps : List (PyData × PyData)} (hd : Dp K H x (.tuple (ps.map prD))) (hp : Pairs ps) (k : ∀ v H', Same H H' → Dp K H' v (wsum ps) → Q v H') : sp_weighted_in K ([x] ++ []) H Q E := ⟨x, ps, rfl, hd, hp, k⟩
theorem c_is_weighted_pair (hd : Dp K H x d) (k : ∀ H', Same H H' → Q (.bl (isPair d)) H') : sp_is_weighted_pair K ([x] ++ []) H Q E := ⟨x, d, rfl, hd, k⟩
theorem c_roll {n : Int} (hd : Dice H p) (h0 : 0 < n) (h1 : n < 1073741824) (k : ∀ r H', 0 ≤ r → r < n → Same (Sm.dl H p) H' → Dice H' p → Q (.int r) H') : sp__law_roll K ([.ref p, .int n] ++ []) H Q E := ⟨p, n, rfl, hd, h0, h1, fun r a b H' hs hd => k r H' a b hs hd⟩
theorem c_one_of {xs : List V} (hd : Dice H p) (hx : SqL K (Sm.dl H p) q xs) (h0 : 0 < xs.length) (h1 : xs.length < 1073741824) (k : ∀ (i : Nat) v H', xs[i]? = some v → Same (Sm.dl H p) H' → Dice H' p → Q v H') : sp__law_one_of K ([.ref p, .ref q] ++ []) H Q E := ⟨p, q, xs, rfl, hd, hx, h0, h1, fun i v e H' hs hd => k i v H' e hs hd⟩
theorem c_long (hd : Dice H p) (k : ∀ r H', 1 ≤ r → r.natAbs < 2 ^ 1010 → Same (Sm.dl H p) H' → Dice H' p → Q (.int r) H') : sp__law_long K ([.ref p] ++ []) H Q E := ⟨p, rfl, hd, fun r a b H' hs hd => k r H' a b hs hd⟩
theorem c_fraction (hd : Dice H p) (k : ∀ v H' a b, Same (Sm.dl H p) H' → Dice H' p → Dp K (Sm.dl H' p) v (wD (a, b)) → Fr 1010 a b → Q v H') : sp__law_fraction K ([.ref p] ++ []) H Q E := ⟨p, rfl, hd, fun v d H' hs hd' hv hf => by
  obtain ⟨a, b, rfl, hf⟩ := hf
  exact k v H' a b hs hd' hv hf⟩
theorem c_operand (hd : Dice H p) (k : ∀ v d H', Same (Sm.dl H p) H' → Dice H' p → Dp K (Sm.dl H' p) v d → FrD 1010 d → Q v H') : sp__law_operand K ([.ref p] ++ []) H Q E := ⟨p, rfl, hd, fun v d H' hs hd' hv hf => k v d H' hs hd' hv hf⟩
end
theorem dice_lst {K : PySem.W.Frag} {H H2 : Hp} {p q : Addr} {xs : List V} (hd : Dice H p) (hn : H q = none) (h : H2 q = some (.lst xs)) : SqL K (Sm.dl H2 p) q xs := by
  obtain ⟨a, b, c, hp⟩ := hd
  have hne : q ≠ p := fun z => by
    rw [z, hp] at hn
    cases hn
  exact .inl (.inl (by rw [Sm.dl_ne hne]; exact h))
theorem dice_mv {H H2 : Hp} {p : Addr} (hd : Dice H p) (e : Same H H2) : Dice H2 p := by
  obtain ⟨a, b, c, hp⟩ := hd
  exact ⟨a, b, c, e _ _ hp⟩
theorem dice_at {H H2 : Hp} {p q : Addr} {o : HO} (hd : Dice H p) (hn : H q = none) (h : H2 q = some o) : Sm.dl H2 p q = some o := by
  obtain ⟨a, b, c, hp⟩ := hd
  rw [Sm.dl_ne (fun z => by rw [z, hp] at hn; cases hn)]
  exact h
theorem eqv_w (p q : Int) : PyData.eqv (wD (p, q)) (wD (p, q)) = true := PySem.SeqAt.eqv_refl _ rfl
theorem isLong_inv {d : PyData} (h : isLong d = true) : ∃ a b : Int, d = wD (a, b) ∧ 1 ≤ b ∧ Int.gcd a b = 1 := by
  unfold isLong at h
  split at h
  · rename_i t b
    rw [Bool.and_eq_true] at h
    obtain ⟨t', b', e, h1, h2⟩ := isWorth_elim h.1
    cases e
    exact ⟨_, _, rfl, h1, h2⟩
  · cases h
theorem gcd_one {a b : Int} (h : Int.gcd a b = 1) : ((Int.gcd a b : Nat) : Int) = 1 := by rw [h]; rfl
theorem eqv_wD (a b c d : Int) : PyData.eqv (wD (a, b)) (wD (c, d)) = decide (a = c ∧ b = d) := by
  have e : PyData.eqv (wD (a, b)) (wD (c, d)) = ((a == c) && ((b == d) && true)) := by simp only [wD, PyData.eqv, PyData.eqvAll]
  rw [e]
  by_cases h1 : a = c <;> by_cases h2 : b = d <;> simp [h1, h2]
theorem fr_zero {n : Nat} {c f : Int} (h : Fr n c f) (hn : wD (c, f) ≠ wD (0, 1)) : c ≠ 0 := fun z => by
  subst z
  have h1 := h.2.1
  rw [Int.gcd_zero_left] at h1
  have h2 := h.1
  have : f = 1 := by omega
  exact hn (by rw [this])
theorem isPair_2 (a b : PyData) : isPair (.tuple [a, b]) = (isLong a && okOp b) := rfl
theorem dpAll_get {K : PySem.W.Frag} {H : Hp} : ∀ {xs : List V} {ds : List PyData} {i : Nat} {v : V} {d : PyData}, DpAll K H xs ds → xs[i]? = some v → ds[i]? = some d → Dp K H v d
  | _, _, _, _, _, .nil, h, _ => by simp at h
  | _, _, 0, _, _, .cons a _, h, h2 => by
    simp only [List.getElem?_cons_zero, Option.some.injEq] at h h2
    rw [← h, ← h2]
    exact a
  | _, _, i + 1, _, _, .cons _ r, h, h2 => by
    rw [List.getElem?_cons_succ] at h h2
    exact dpAll_get r h h2
theorem dp_pr {K : PySem.W.Frag} {H : Hp} {v : V} {p : PyData × PyData} (h : Dp K H v (prD p)) : ∃ q v0 v1, v = .ref q ∧ SqT K H q [v0, v1] ∧ Dp K H v0 p.1 ∧ Dp K H v1 p.2 := by
  unfold prD at h
  cases h with
  | tup h r =>
    cases r with
    | cons a r =>
      cases r with
      | cons b r =>
        cases r
        exact ⟨_, _, _, rfl, h, a, b⟩
theorem wsum_snoc (ps : List (PyData × PyData)) (p : PyData × PyData) : wsum (ps ++ [p]) = sumD (wsum ps) (prodD p.1 p.2) := by
  unfold wsum
  rw [List.foldl_append]
  rfl
theorem wsum_succ {ps : List (PyData × PyData)} {i : Nat} (hi : i < ps.length) : wsum (ps.take (i + 1)) = sumD (wsum (ps.take i)) (prodD ps[i].1 ps[i].2) := by
  rw [List.take_succ, List.getElem?_eq_getElem hi]
  exact wsum_snoc _ _
theorem wsum_fr {ps : List (PyData × PyData)} (h : ∀ p ∈ ps, (∃ a b, p.1 = wD (a, b) ∧ Fr 1010 a b) ∧ FrD 1010 p.2) : FrD (2021 * ps.length + 1) (wsum ps) := by
  have key : ∀ (ps : List (PyData × PyData)) (f : PyData) (n : Nat), FrD n f → (∀ p ∈ ps, (∃ a b, p.1 = wD (a, b) ∧ Fr 1010 a b) ∧ FrD 1010 p.2) → FrD (2021 * ps.length + n) (ps.foldl (fun f p => sumD f (prodD p.1 p.2)) f) := by
    intro ps
    induction ps with
    | nil => exact fun f n hf _ => hf.mono (by simp)
    | cons p r ih =>
      intro f n hf h
      obtain ⟨⟨a, b, e, hw⟩, hv⟩ := h p List.mem_cons_self
      have h1 : FrD 1010 p.1 := .inr ⟨a, b, e, hw⟩
      refine (ih _ _ (sum_fr hf (prod_fr h1 hv)) fun q hq => h q (List.mem_cons_of_mem _ hq)).mono ?_
      rw [List.length_cons]
      omega
  exact key ps .none 1 (.inl rfl) h
theorem f_lt {f i : Nat} (h : f + 1 ≤ 2 * (10 ^ 50) ^ i) (hi : i ≤ 6) : f < 2 ^ 1000 := by
  have h1 : (10 ^ 50) ^ i ≤ (10 ^ 50) ^ 6 := Nat.pow_le_pow_right (by decide) hi
  have h2 : 2 * (10 ^ 50) ^ 6 ≤ 2 ^ 1000 := by decide +kernel
  omega
theorem dp_nn {K : PySem.W.Frag} {H : Hp} {v : V} {d : PyData} (h : Dp K H v d) (hn : d ≠ .none) : v ≠ .non := fun z => by
  subst z
  cases h
  exact hn rfl
theorem sqT_dl {K : PySem.W.Frag} {H : Hp} {p q : Addr} {xs : List V} (hd : Dice H p) (h : SqT K H q xs) : SqT K (Sm.dl H p) q xs := by
  obtain ⟨a, b, c, hp⟩ := hd
  have ne : ∀ {o : HO}, H q = some o → (∀ ys, o ≠ .lst ys) → q ≠ p := fun {o} e n z => by
    rw [z, hp] at e
    exact n _ (Option.some.inj e).symm
  rcases h with (h | ⟨o, h⟩) | h
  · exact .inl (.inl (by rw [Sm.dl_ne (ne h fun _ z => by cases z)]; exact h))
  · exact .inl (.inr ⟨o, by rw [Sm.dl_ne (ne h fun _ z => by cases z)]; exact h⟩)
  · exact .inr h
theorem dpw_dl {K : PySem.W.Frag} {H : Hp} {p : Addr} {v : V} {a b : Int} (hd : Dice H p) (h : Dp K H v (wD (a, b))) : Dp K (Sm.dl H p) v (wD (a, b)) := by
  obtain ⟨q, rfl, hq⟩ := Sm.dp_pair_inv h
  exact .tup (sqT_dl hd hq) (.cons (.int a) (.cons (.int b) .nil))
theorem fr_long {n : Nat} {a b : Int} (h : Fr n a b) (hn : n ≤ 13000) : isLong (wD (a, b)) = true := by
  have e : 2 ^ 13000 ≤ 10 ^ 4000 := by decide +kernel
  have h1 := Nat.lt_of_lt_of_le (pow_up h.2.2.1 hn) e
  have h2 := Nat.lt_of_lt_of_le (pow_up h.2.2.2 hn) e
  have lt : ∀ x : Int, x.natAbs < 10 ^ 4000 → (x.natAbs : Int) < BW := fun x hx => by
    unfold BW
    exact Int.ofNat_lt.mpr hx
  have h3 := lt b h2
  have hb := h.1
  show (isWorth (.tuple [.int a, .int b]) && (decide ((a.natAbs : Int) < BW) && decide (b < BW))) = true
  rw [isWorth_intro h.1 h.2.1, decide_eq_true (lt a h1), decide_eq_true (by omega)]
  rfl
theorem fr_ok {n : Nat} {d : PyData} (h : FrD n d) (hn : n ≤ 13000) : okOp d = true := by
  rcases h with rfl | ⟨a, b, rfl, h⟩
  · rfl
  · exact fr_long h hn
theorem eqv_b (b : Bool) : PyData.eqv (.bool b) (.bool b) = true := by cases b <;> rfl
section
variable {K : PySem.W.Frag} {H : Hp} {Q : VK} {E : XK} {x y : V} {d e : PyData} {n m : Nat} {p q : Addr}
theorem c_is_below {a b c f : Int} (hd : Dp K H x (wD (a, b))) (he : Dp K H y (wD (c, f))) (l1 : isLong (wD (a, b)) = true) (l2 : isLong (wD (c, f)) = true) (fd : Fr n a b) (fe : Fr m c f) (h : 0 < n ∧ 0 < m ∧ n + m < 13000) (k : ∀ H', Same H H' → Q (.bl (decide (a * f < c * b))) H') : sp_is_below K ([x, y] ++ []) H Q E :=
  ⟨x, y, _, _, rfl, hd, he, fun _ _ => ⟨a, b, c, f, n, m, rfl, rfl, fd, fe, h, k⟩, fun z => by rcases z with z | z <;> simp_all⟩
theorem c_is_great (hd : Dp K H x d) (l1 : isLong d = true) (fd : FrD n d) (k : ∀ H', Same H H' → Q (.bl (great d)) H') : sp_is_great K ([x] ++ []) H Q E := ⟨x, d, rfl, hd, fun _ => ⟨n, fd, k⟩, fun z => by simp_all⟩
theorem c_plus (hd : Dp K H x d) (he : Dp K H y e) (fd : FrD n d) (fe : FrD m e) (h : 0 < n ∧ 0 < m ∧ n + m < 13000) (k : ∀ v H', Same H H' → Dp K H' v (sumD d e) → Q v H') : sp_plus K ([x, y] ++ []) H Q E :=
  ⟨x, y, d, e, rfl, hd, he, fun _ _ => ⟨n, m, fd, fe, h, k⟩, fun z => by rw [fr_ok fd (by omega), fr_ok fe (by omega)] at z; rcases z with z | z <;> cases z⟩
theorem c_minus (hd : Dp K H x d) (he : Dp K H y e) (fd : FrD n d) (fe : FrD m e) (h : 0 < n ∧ 0 < m ∧ n + m < 13000) (k : ∀ v H', Same H H' → Dp K H' v (sumD d (negD e)) → Q v H') : sp_minus K ([x, y] ++ []) H Q E :=
  ⟨x, y, d, e, rfl, hd, he, fun _ _ => ⟨n, m, fd, fe, h, k⟩, fun z => by rw [fr_ok fd (by omega), fr_ok fe (by omega)] at z; rcases z with z | z <;> cases z⟩
theorem c_times (hd : Dp K H x d) (he : Dp K H y e) (fd : FrD n d) (fe : FrD m e) (h : 0 < n ∧ 0 < m ∧ n + m < 13000) (k : ∀ v H', Same H H' → Dp K H' v (prodD d e) → Q v H') : sp_times K ([x, y] ++ []) H Q E :=
  ⟨x, y, d, e, rfl, hd, he, fun _ _ => ⟨n, m, fd, fe, h, k⟩, fun z => by rw [fr_ok fd (by omega), fr_ok fe (by omega)] at z; rcases z with z | z <;> cases z⟩
theorem c_over (hd : Dp K H x d) (he : Dp K H y e) (fd : FrD n d) (fe : FrD m e) (h : 0 < n ∧ 0 < m ∧ n + m < 13000) (h0 : d ≠ .none → e ≠ wD (0, 1)) (k : ∀ v H', Same H H' → Dp K H' v (quoD d e) → Q v H') : sp_over K ([x, y] ++ []) H Q E :=
  ⟨x, y, d, e, rfl, hd, he, fun _ _ => ⟨n, m, fd, fe, h, fun h1 h2 => absurd h2 (h0 h1), fun _ => k⟩, fun z => by rw [fr_ok fd (by omega), fr_ok fe (by omega)] at z; rcases z with z | z <;> cases z⟩
end
theorem gr_val : ((10 : Int) ^ 50) ^ 20 = GR := by
  unfold GR
  decide +kernel
theorem gr_pos : 1 ≤ GR := by
  unfold GR
  decide +kernel
theorem gr_lt : GR.natAbs < 2 ^ 3400 := by
  unfold GR
  decide +kernel
theorem gr_3 : Int.gcd (0 - GR) 3 = 1 := by
  unfold GR
  decide +kernel
theorem gr_7 : Int.gcd GR 7 = 1 := by
  unfold GR
  decide +kernel
theorem one_lt (n : Nat) (h : n ≠ 0) : (1 : Int).natAbs < 2 ^ n := Nat.one_lt_two_pow h
theorem fr_gr1 : Fr 3400 (GR - 1) 1 := ⟨by decide, Int.gcd_one_right .., by have := gr_lt; have := gr_pos; omega, one_lt _ (by decide)⟩
theorem fr_11 : Fr 3400 1 1 := ⟨by decide, by decide, one_lt _ (by decide), one_lt _ (by decide)⟩
theorem fr_1g : Fr 3400 1 GR := ⟨gr_pos, Int.gcd_one_left .., one_lt _ (by decide), gr_lt⟩
theorem fr_g7 : Fr 3400 GR 7 := ⟨by decide, gr_7, gr_lt, pow_up (n := 3) (by decide) (by decide)⟩
theorem fr_g3 : Fr 3400 (0 - GR) 3 := ⟨by decide, gr_3, by have := gr_lt; omega, pow_up (n := 3) (by decide) (by decide)⟩
theorem sum_gr : sumD (wD (GR - 1, 1)) (wD (1, 1)) = wD (GR, 1) := by
  show wD (low ((GR - 1) * 1 + 1 * 1) (1 * 1)) = _
  rw [low_char (p := GR) (q := 1) (by decide) (by decide) (Int.gcd_one_right ..) (by omega)]
theorem prod_gr : prodD (wD (1, GR)) (wD (GR, 7)) = wD (1, 7) := by
  show wD (low (1 * GR) (GR * 7)) = _
  have := gr_pos
  rw [low_char (p := 1) (q := 7) (by omega) (by decide) (by decide) (by omega)]
theorem eqv_ww (a b c d : Int) (h1 : a = c) (h2 : b = d) : PyData.eqv (wD (a, b)) (wD (c, d)) = true := by rw [eqv_wD, decide_eq_true ⟨h1, h2⟩]
end K00
namespace K00
open PySem PySem.Spec PyProof.Rows L2
theorem pss_len {X : Cx} {ss : List Stmt} {t : TS} (h : PSs X ss t) : PSs X ss (fun D σ H => σ.length = X.N.length → t D σ H) := ⟨fun pins s σ H D I q => h.run pins s σ H D I (q I.len)⟩
def mWord (z : Str) : Addr → Value → Option Addr → TS := fun _ _ _ => tRet (tC (.str z))
def mShow (K : PySem.W.Frag) (z f : Str) (C : Addr) : Addr → Value → Option Addr → TS := fun a cls d D σ H => σ.length = 2 → tRet (tOp Sm.rAddU (tC (.str z)) (tCB (Sm.rRepr K) (tCons (Sm.tBySup f C a cls d (tVar 1)) tNil))) D σ H
def mList (K : PySem.W.Frag) : List Sm.Cl := [⟨.ref (He.ga K "InvalidWorth"), none, mWord "worth"⟩, ⟨.ref (He.ga K "InvalidOperation"), none, mWord "operation"⟩, ⟨.ref (He.ga K "InvalidNumber"), some 1, mShow K "number " "given" (He.ga K "InvalidNumber")⟩, ⟨.ref (He.ga K "Refused"), some 1, mShow K "refused " "reason" (He.ga K "Refused")⟩]
theorem m_show {K : PySem.W.Frag} {z f : Str} {C a : Addr} {d : Option Addr} {D : Ends} {σ : L2.St} {H : Hp} {Q : VK} (hz : z.length ≤ 10) (hr : D.rt = Q) (h : ∃ dd v e, d = some dd ∧ H dd = some (.xd [(f, v)]) ∧ Dp K H v e ∧ (e.showable = true ∧ e.hasDict = false ∧ e.depth ≤ 8 ∧ e.shown.length ≤ 1000) ∧ Q (.str (z ++ e.shown)) H) :
    mShow K z f C a (.ref C) d (Sm.endsAt (some 1) D) (Sm.heldAt a (some 1) σ) H := by
  intro hl
  obtain ⟨dd, v, e, hd, hx, hv, ⟨h1, h2, h3, h4⟩, q⟩ := h
  have hs : (Sm.heldAt a (some 1) σ)[1]? = some (some (V.ref a)) := by
    show (σ.set 1 (some (V.ref a)))[1]? = _
    have hl' : (σ.set 1 (some (V.ref a))).length = 2 := hl
    rw [List.length_set] at hl'
    rw [List.getElem?_set_self (by omega)]
  refine ⟨.ref a, hs, rfl, rfl, dd, v, hd, hx, ?_⟩
  show Sm.rRepr K [v] H (fun y H2 => Sm.rAddU (V.str z) y H2 (Sm.endsAt (some 1) D).rt)
  refine Sm.g_repr hv ⟨h1, h2, h3, Sm.len_le (by omega)⟩ ?_
  refine Sm.g_addS (Sm.len_le (by omega)) ?_
  show D.rt _ H
  rw [hr]
  exact q
theorem m_list {K : PySem.W.Frag} {D : Ends} {cls : Value} {d : Option Addr} {σ : L2.St} {H : Hp} {Q : VK} (hr : D.rt = Q) (h : EMet K Q cls d H) : Sm.wMix K (fun _ _ _ _ => False) D (mList K) cls d σ H := by
  obtain ⟨b1, e1, y1, n1⟩ := h
  refine ⟨b1, e1, fun z a _ => ?_, fun z => ?_⟩
  · show D.rt _ H
    rw [hr]
    exact y1 z
  obtain ⟨b2, e2, y2, n2⟩ := n1 z
  refine ⟨b2, e2, fun z a _ => ?_, fun z => ?_⟩
  · show D.rt _ H
    rw [hr]
    exact y2 z
  obtain ⟨b3, e3, y3, n3⟩ := n2 z
  refine ⟨b3, e3, fun z a _ => ?_, fun z => ?_⟩
  · obtain ⟨rfl, hx⟩ := y3 z
    exact m_show (by decide) hr hx
  obtain ⟨b4, e4, y4, n4⟩ := n3 z
  refine ⟨b4, e4, fun z a _ => ?_, fun z => absurd z n4⟩
  obtain ⟨rfl, hx⟩ := y4 z
  exact m_show (by decide) hr hx
theorem met_gives {X : Cx} (T : Txt X.prog X.K X.mg) {cdv : Value} {q : Str} (gd : X.A.guards = some []) (hu : X.A.units + 100 < cLine) : LamX.GivesTo X N__law_met "_law_met" (defScope s__law_met) (He.fAd X.K ("_law_met", none)) cdv (defBody s__law_met) "_law_call" q (TMet X.K) := by
  intro f c' s H Q tl act hc h
  refine ⟨_, pss_cons (Sm.ps_try_mix (l := mList X.K) (Wo := fun _ _ _ _ => False) (tb := fun W D σ H => ∃ Ech : XK, (∀ cls d σ' H', Ech cls d H' → W cls d σ' H') ∧ σ[0]? = some (some (V.ref f)) ∧ H c' = some (LamX.CodeO c' q) ∧ tl Ech H fun _ H1 => D.nx σ H1) rfl rfl sc__law_met.nd LamX.takes0 (fun W pn xe tk _ => ?_)
    (.bare ⟨rfl, by decide, .inl T.x_InvalidWorth.gC⟩ (fun a oe cls d pn _ _ => pss_one (ps_ret pe_str)) (.bare ⟨rfl, by decide, .inl T.x_InvalidOperation.gC⟩ (fun a oe cls d pn _ _ => pss_one (ps_ret pe_str))
      (.as ⟨rfl, by decide, .inl T.x_InvalidNumber.gC⟩ rfl rfl (fun a oe cls d pn hz hf => pss_len (pss_one (ps_ret (pe_op Sm.op_addU pe_str (pe_callB (Sm.call_reprG gd (by show X.A.units + 3 + 64 < cLine; omega)) rfl T.f_repr (by decide +kernel) (pa_cons (Sm.pe_byXs T.x_InvalidNumber hz hf (pv 1)) pa_nil))))))
        (.as ⟨rfl, by decide, .inl T.x_Refused.gC⟩ rfl rfl (fun a oe cls d pn hz hf => pss_len (pss_one (ps_ret (pe_op Sm.op_addU pe_str (pe_callB (Sm.call_reprG gd (by show X.A.units + 3 + 64 < cLine; omega)) rfl T.f_repr (by decide +kernel) (pa_cons (Sm.pe_byXs T.x_Refused hz hf (pv 1)) pa_nil)))))) .nil)))))
    (pss_one (ps_ret pe_str)), ?_⟩
  · refine ⟨fun pins s' σ H' D I h' => ?_⟩
    obtain ⟨Ech, hW, h1, h2, h3⟩ := h'
    refine PSs.run (t := tDrop (fun σZ HZ Q => σZ[0]? = some (some (V.ref f)) ∧ HZ c' = some (LamX.CodeO c' q) ∧ tl Ech HZ Q)) ?_ pins s' σ H' D I ⟨h1, h2, h3⟩
    exact pss_one (ps_expr (act W pn xe Ech _ _ tk hW))
  · exact ⟨EMet X.K Q, fun cls d σ' H' hh => m_list rfl hh, rfl, hc, h⟩
theorem catch_ok {P : Program} {w : World} {K : PySem.W.Frag} {mg : Str → Option Value} {base : Heap} {fd : FuncData} (T : Txt P K mg) (hg : mg "_law_met" = some (.ref (He.fAd K ("_law_met", none)))) (F : FD K "_law_met" s__law_met (He.fAd K ("_law_met", none)) fd) (b : Binds K fd P__law_met []) :
    Sm.Catch P w K mg base "_law_met" "_law_call" N__law_met (defArgs s__law_met) (defBody s__law_met) (defScope s__law_met) (TMet K) where
  f := ⟨fd, F, b⟩
  g := hg
  sc := sc__law_met
  n0 := rfl
  va := .inl rfl
  gv := fun {X} cdv q h1 h2 h3 h4 h5 gd hu => by
    subst h1 h2 h3 h4 h5
    exact met_gives T gd hu
/-! ### what the catcher makes of it -/
section
variable {P : Program} {K : PySem.W.Frag} {mg : Str → Option Value} {H : Hp} {Q : VK}
theorem met_worth (T : Txt P K mg) (q : ∀ H', Same H H' → Q (.str "worth") H') : Sm.Rp K "InvalidWorth" H (EMet K Q) := fun H' hs => ⟨true, T.m_WW, fun _ => q H' hs, (fun z => by cases z)⟩
theorem met_oper (T : Txt P K mg) (q : ∀ H', Same H H' → Q (.str "operation") H') : Sm.Rp K "InvalidOperation" H (EMet K Q) := fun H' hs => ⟨false, T.m_OW, (fun z => by cases z), fun _ => ⟨true, T.m_OO, fun _ => q H' hs, (fun z => by cases z)⟩⟩
theorem met_number (T : Txt P K mg) {v : V} {e : PyData} (hv : Dp K H v e) (he : e.showable = true ∧ e.hasDict = false ∧ e.depth ≤ 8 ∧ e.shown.length ≤ 1000) (q : ∀ H', Same H H' → Q (.str ("number " ++ e.shown)) H') : Sm.Rz K "InvalidNumber" "given" v H (EMet K Q) := fun d H' hs hd =>
  ⟨false, T.m_NW, (fun z => by cases z), fun _ => ⟨false, T.m_NO, (fun z => by cases z), fun _ => ⟨true, T.m_NN, fun _ => ⟨rfl, d, v, e, rfl, hd, Sm.dp_at hv hs, he, q H' hs⟩, (fun z => by cases z)⟩⟩⟩
theorem met_refused (T : Txt P K mg) {v : V} {e : PyData} (hv : Dp K H v e) (he : e.showable = true ∧ e.hasDict = false ∧ e.depth ≤ 8 ∧ e.shown.length ≤ 1000) (q : ∀ H', Same H H' → Q (.str ("refused " ++ e.shown)) H') : Sm.Rz K "Refused" "reason" v H (EMet K Q) := fun d H' hs hd =>
  ⟨false, T.m_RW, (fun z => by cases z), fun _ => ⟨false, T.m_RO, (fun z => by cases z), fun _ => ⟨false, T.m_RN, (fun z => by cases z), fun _ => ⟨true, T.m_RR, fun _ => ⟨rfl, d, v, e, rfl, hd, Sm.dp_at hv hs, he, q H' hs⟩, (fun z => by cases z)⟩⟩⟩⟩
end
theorem fr_eqv {n : Nat} {d : PyData} (h : FrD n d) : PyData.eqv d d = true := by
  rcases h with rfl | ⟨a, b, rfl, _⟩
  · rfl
  · exact eqv_w a b
theorem fr_sh {n : Nat} {d : PyData} (h : FrD n d) : SeqAt.shaped d = true := by
  rcases h with rfl | ⟨a, b, rfl, _⟩ <;> rfl
theorem fr_sh2 {n : Nat} {d : PyData} (h : FrD n d) : PyData.eqv d d = true ∧ SeqAt.shaped d = true := ⟨fr_eqv h, fr_sh h⟩
theorem g_lam {K : PySem.W.Frag} {t : XK → TE} {σ : L2.St} {H : Hp} {Q : VK} (hT : LamX.Tabs (TT K) H) (h : ∀ H1, LamX.ExtN H H1 → LamX.Tabs (TT K) H1 → t (EMet K Q) σ H1 fun _ H2 => Q (.str "fine") H2) : LamX.tLam (TT K) (TMet K) t σ H Q := ⟨hT, fun H1 he ht => h H1 he ht⟩
theorem dp_none {K : PySem.W.Frag} {H : Hp} {v : V} {d : PyData} (h : Dp K H v d) (e : d = .none) : v = .non := by
  subst e
  cases h
  rfl
end K00
namespace K00
open PySem PySem.Spec PyProof.Rows L2
def bot : PyData → Bool
  | .int b => decide (1 ≤ b)
  | _ => false
def TopOk (v : V) (d : PyData) : Prop := (∀ K H, Dp K H v d) ∧ (Sm.flat0 d = true ∧ d.showable = true ∧ d.shown.length ≤ sizeLine) ∧ inV (.str d.shown) [.str "True", .str "None", .str "'1'"] = (!isWhole d) ∧ ∀ t, d = .int t → v = .int t ∧ t.natAbs < 2 ^ 100
def BotOk (v : V) (d : PyData) : Prop := (∀ K H, Dp K H v d) ∧ (Sm.flat0 d = true ∧ d.showable = true ∧ d.shown.length ≤ sizeLine) ∧ inV (.str d.shown) [.str "True", .str "'1'", .str "0", .str "-1"] = (!bot d) ∧ ∀ t, d = .int t → v = .int t ∧ t.natAbs < 2 ^ 100
theorem topI (t : Int) (h1 : t.natAbs.log2 < 1920) (h2 : (toString t : Str).length ≤ 1000) (h3 : inV (.str (PyData.int t).shown) [.str "True", .str "None", .str "'1'"] = false) (h4 : t.natAbs < 2 ^ 100) : TopOk (.int t) (.int t) :=
  ⟨fun _ _ => .int t, ⟨rfl, by simpa [PyData.showable] using h1, by simp only [PyData.shown]; exact Sm.len_le (by omega)⟩, h3, fun u e => by cases e; exact ⟨rfl, h4⟩⟩
theorem botI (t : Int) (h1 : t.natAbs.log2 < 1920) (h2 : (toString t : Str).length ≤ 1000) (h3 : inV (.str (PyData.int t).shown) [.str "True", .str "'1'", .str "0", .str "-1"] = (!decide (1 ≤ t))) (h4 : t.natAbs < 2 ^ 100) : BotOk (.int t) (.int t) :=
  ⟨fun _ _ => .int t, ⟨rfl, by simpa [PyData.showable] using h1, by simp only [PyData.shown]; exact Sm.len_le (by omega)⟩, h3, fun u e => by cases e; exact ⟨rfl, h4⟩⟩
theorem top_ok {i : Nat} {v : V} (h : ([.int 0, .int 1, .int (-1), .int 2, .int 6, .int (-99), .int 99, .int 100, .int (-100), .int (10 ^ 18 - 1), .int (10 ^ 18), .int (1 - 10 ^ 18), .bl true, .non, .str "1"] : List V)[i]? = some v) : ∃ d, TopOk v d := by
  rcases i with _ | _ | _ | _ | _ | _ | _ | _ | _ | _ | _ | _ | _ | _ | _ | i <;> cases h
  case succ.succ.succ.succ.succ.succ.succ.succ.succ.succ.succ.succ.zero => exact ⟨.bool true, fun _ _ => .bl true, ⟨rfl, rfl, by decide⟩, by decide +kernel, fun _ e => by cases e⟩
  case succ.succ.succ.succ.succ.succ.succ.succ.succ.succ.succ.succ.succ.zero => exact ⟨.none, fun _ _ => .non, ⟨rfl, rfl, by decide⟩, by decide +kernel, fun _ e => by cases e⟩
  case succ.succ.succ.succ.succ.succ.succ.succ.succ.succ.succ.succ.succ.succ.zero => exact ⟨.str "1", fun _ _ => .str _, ⟨rfl, rfl, by decide +kernel⟩, by decide +kernel, fun _ e => by cases e⟩
  all_goals exact ⟨_, topI _ (by decide +kernel) (by decide +kernel) (by decide +kernel) (by decide +kernel)⟩
theorem bot_ok {i : Nat} {v : V} (h : ([.int 1, .int 1, .int 2, .int 3, .int 10, .int 11, .int 12, .int 1000, .int 1001, .int 0, .int (-1), .bl true, .str "1"] : List V)[i]? = some v) : ∃ d, BotOk v d := by
  rcases i with _ | _ | _ | _ | _ | _ | _ | _ | _ | _ | _ | _ | _ | i <;> cases h
  case succ.succ.succ.succ.succ.succ.succ.succ.succ.succ.succ.zero => exact ⟨.bool true, fun _ _ => .bl true, ⟨rfl, rfl, by decide⟩, by decide +kernel, fun _ e => by cases e⟩
  case succ.succ.succ.succ.succ.succ.succ.succ.succ.succ.succ.succ.zero => exact ⟨.str "1", fun _ _ => .str _, ⟨rfl, rfl, by decide +kernel⟩, by decide +kernel, fun _ e => by cases e⟩
  all_goals exact ⟨_, botI _ (by decide +kernel) (by decide +kernel) (by decide +kernel) (by decide +kernel)⟩
theorem fine_ok {t b : Int} (hb : 1 ≤ b) : PyData.eqv (wD (low t b)) (.tuple [.int t, .int b]) = isWorth (.tuple [.int t, .int b]) := by
  obtain ⟨p, q, e, hq, hg, ep, _⟩ := low_ok (t := t) (b := b) (by omega)
  rw [e]
  show PyData.eqv (wD (p, q)) (wD (t, b)) = _
  rw [eqv_wD]
  by_cases h : Int.gcd t b = 1
  · have e2 := low_self (a := t) hb h
    rw [e] at e2
    injection e2 with e3 e4
    rw [decide_eq_true ⟨e3, e4⟩, isWorth_intro hb h]
  · have e2 : isWorth (.tuple [.int t, .int b]) = false := by
      show (decide (b ≥ 1) && decide (((Int.gcd t b : Nat) : Int) = 1)) = false
      rw [decide_eq_false (p := ((Int.gcd t b : Nat) : Int) = 1) (by omega), Bool.and_false]
    rw [e2]
    exact decide_eq_false fun ⟨z1, z2⟩ => h (by rw [← z1, ← z2]; exact hg)
theorem bc_val : (10 : Int) ^ 18 = BC := by
  unfold BC
  decide +kernel
def nameData : List PyData := [.str "a", .str "z9", .str "abcdefgh", .str "jan"]
def NameOk (d : PyData) : Prop := isName d = (nameData.any fun z => PyData.eqv z d) ∧ SeqAt.shaped d = true ∧ ∀ z, d = .str z → z.length ≤ 100
theorem name_ok {K : PySem.W.Frag} {H : Hp} {i : Nat} {v : V} {q : Addr} (hq : SqT K H q [.str "a"]) (h : ([.str "a", .str "z9", .str "abcdefgh", .str "abcdefghi", .str "", .str "9a", .str "A", .str "a_b", .str "a b", .str "jan", .non, .ref q, .int 3] : List V)[i]? = some v) : ∃ d, Dp K H v d ∧ NameOk d := by
  rcases i with _ | _ | _ | _ | _ | _ | _ | _ | _ | _ | _ | _ | _ | i <;> cases h
  case succ.succ.succ.succ.succ.succ.succ.succ.succ.succ.zero => exact ⟨.none, .non, by decide +kernel, by decide +kernel, fun _ e => by cases e⟩
  case succ.succ.succ.succ.succ.succ.succ.succ.succ.succ.succ.zero => exact ⟨.tuple [.str "a"], .tup hq (.cons (.str _) .nil), by decide +kernel, by decide +kernel, fun _ e => by cases e⟩
  case succ.succ.succ.succ.succ.succ.succ.succ.succ.succ.succ.succ.zero => exact ⟨.int 3, .int _, by decide +kernel, by decide +kernel, fun _ e => by cases e⟩
  all_goals exact ⟨.str _, .str _, by decide +kernel, by decide +kernel, fun _ e => by cases e; decide +kernel⟩
theorem dp_tup {K : PySem.W.Frag} {H : Hp} {v : V} {ds : List PyData} (h : Dp K H v (.tuple ds)) : ∃ q xs, v = .ref q ∧ SqT K H q xs ∧ xs.length = ds.length := by
  cases h with
  | tup h r => exact ⟨_, _, rfl, h, dpAll_len r⟩
theorem isWorth_l {dt db : PyData} (h : isWhole dt = false) : isWorth (.tuple [dt, db]) = false := by
  cases dt <;> first | (cases h; done) | (cases db <;> rfl)
theorem isWorth_r {dt db : PyData} (h : bot db = false) : isWorth (.tuple [dt, db]) = false := by
  cases db with
  | int b =>
    have h' : decide (1 ≤ b) = false := h
    cases dt with
    | int t =>
      show (decide (b ≥ 1) && _) = false
      rw [show decide (b ≥ 1) = false from h', Bool.false_and]
    | _ => rfl
  | _ => cases dt <;> rfl
theorem isCell_f {d : PyData} (h : isWorth d = false) : isCell d = false := by
  unfold isCell
  split
  · rw [h]; rfl
  · rfl
theorem isWeight_f {d : PyData} (h : isWorth d = false) : isWeight d = false := by
  unfold isWeight
  split
  · rw [h]; rfl
  · rfl
theorem isWorth_list (ds : List PyData) : isWorth (.list ds) = false := rfl
def UseBC : Prop := True
theorem c_powBC {H : Hp} {Q : VK} (_h : UseBC) (q : Q (.int BC) H) : rI Sm.CPowU (fun i j => .int (i ^ j.toNat)) (.int 10) (.int 18) H Q := Sm.g_powL (n := 18) (by decide) (by decide +kernel) (by rw [bc_val]; exact q)
end K00
namespace K00
open PySem PySem.Spec PyProof.Rows L2
theorem tabs_dl {T : List (Addr × Str)} {H : Hp} {l : Addr} {xs : List V} (h : LamX.Tabs T H) (hl : H l = some (.lst xs)) : LamX.Tabs T (Sm.dl H l) := fun p hp => by
  obtain ⟨ps, h1, h2, h3⟩ := h p hp
  have ne : ∀ {b : Addr} {o : HO}, H b = some o → (∀ ys, o ≠ .lst ys) → b ≠ l := fun {b o} e n z => by
    rw [z, hl] at e
    exact n _ (Option.some.inj e).symm
  refine ⟨ps, by rw [Sm.dl_ne (ne h1 fun _ z => by cases z)]; exact h1, h2, fun pos cv hc => ?_⟩
  obtain ⟨c, e1, e2⟩ := h3 pos cv hc
  exact ⟨c, e1, by rw [Sm.dl_ne (ne e2 fun _ z => by unfold LamX.CodeO at z; cases z)]; exact e2⟩
theorem tabs_dice {T : List (Addr × Str)} {H H1 : Hp} {p : Addr} (h : LamX.Tabs T H) (hd : Dice H p) (hs : Same (Sm.dl H p) H1) : LamX.Tabs T H1 := by
  obtain ⟨a, b, c, hp⟩ := hd
  exact (tabs_dl h hp).ext hs
theorem exN_dl {G0 G G1 : Hp} {l : Addr} (h : LamX.ExtN (Sm.dl G0 l) G) (h2 : LamX.ExtN (Sm.dl G l) G1) : LamX.ExtN (Sm.dl G0 l) G1 := fun b o e n => by
  have hb : b ≠ l := fun z => by
    unfold Sm.dl at e
    rw [if_pos z] at e
    cases e
  exact h2 b o (by rw [Sm.dl_ne hb]; exact h b o e n) n
theorem exN_dice {H H1 : Hp} {p : Addr} (hd : Dice H p) (h : LamX.ExtN H H1) : Dice H1 p := by
  obtain ⟨a, b, c, hp⟩ := hd
  exact ⟨a, b, c, Sm.exN_lst h hp⟩
/-- l.append(met(lambda: ..)) -/
theorem step_app {K : PySem.W.Frag} {t : XK → TE} {i : Nat} {σ : L2.St} {H : Hp} {R : Hp → Prop} {l : Addr} {xs : List V} {res : Str} (hσ : σ[i]? = some (some (.ref l))) (hl : H l = some (.lst xs)) (hz : xs.length < 100) (hT : LamX.Tabs (TT K) H)
    (hlam : ∀ (Q : VK) (H1 : Hp), LamX.ExtN H H1 → LamX.Tabs (TT K) H1 → (∀ H2, Same H1 H2 → Q (.str res) H2) → t (EMet K Q) σ H1 fun _ H2 => Q (.str "fine") H2)
    (k : ∀ H3, LamX.ExtN (Sm.dl H l) H3 → LamX.Tabs (TT K) H3 → H3 l = some (.lst (xs ++ [.str res])) → R H3) : tBM K "list" rAppend (tVar i) (tCons (LamX.tLam (TT K) (TMet K) t) tNil) σ H fun _ H3 => R H3 := by
  refine ⟨.ref l, hσ, Sm.g_tyL hl ?_⟩
  refine g_lam hT fun H1 he ht => hlam (fun y H2 => rAppend (.ref l) [y] H2 fun _ H3 => R H3) H1 he ht fun H2 hs => ?_
  have hl2 : H2 l = some (.lst xs) := hs _ _ (Sm.exN_lst he hl)
  refine Sm.g_app (Q := fun _ H3 => R H3) hl2 (Nat.lt_of_lt_of_le hz (by decide)) fun H3 hs3 h3 => k H3 (fun b o e n => ?_) ((tabs_dl (ht.ext hs) hl2).ext hs3) h3
  have hb : b ≠ l := fun z => by
    unfold Sm.dl at e
    rw [if_pos z] at e
    cases e
  rw [Sm.dl_ne hb] at e
  exact hs3 b o (by rw [Sm.dl_ne hb]; exact hs b o (he b o e n))
theorem exN_dlb {G G1 : Hp} {p : Addr} (h : LamX.ExtN G G1) : LamX.ExtN (Sm.dl G p) (Sm.dl G1 p) := fun b o e n => by
  have hb : b ≠ p := fun z => by
    unfold Sm.dl at e
    rw [if_pos z] at e
    cases e
  rw [Sm.dl_ne hb] at e ⊢
  exact h b o e n
def Sop (K : PySem.W.Frag) (f : Addr) : Prop := f = He.ga K "plus" ∨ f = He.ga K "minus" ∨ f = He.ga K "times" ∨ f = He.ga K "over"
def BadD (d : PyData) : Prop := isLong d = false ∧ okOp d = false
section
variable {P : Program} {K : PySem.W.Frag} {mg : Str → Option Value} {H : Hp} {Q : VK} {x y : V} {d e : PyData}
theorem bad_2 (T : Txt P K mg) (hd : Dp K H x d) (he : Dp K H y e) (h : okOp d = false ∨ okOp e = false) (k : ∀ H2, Same H H2 → Q (.str "worth") H2) {R : VK} : sp_bad2 K [x, y] H R (EMet K Q) := ⟨x, y, d, e, rfl, hd, he, h, met_worth T k⟩
theorem bad_below (T : Txt P K mg) (hd : Dp K H x d) (he : Dp K H y e) (h : isLong d = false ∨ isLong e = false) (k : ∀ H2, Same H H2 → Q (.str "worth") H2) {R : VK} : sp_is_below K ([x, y] ++ []) H R (EMet K Q) :=
  ⟨x, y, d, e, rfl, hd, he, fun h1 h2 => (by rw [h1, h2] at h; rcases h with h | h <;> cases h), fun _ => met_worth T k⟩
theorem bad_great (T : Txt P K mg) (hd : Dp K H x d) (h : isLong d = false) (k : ∀ H2, Same H H2 → Q (.str "worth") H2) {R : VK} : sp_is_great K ([x] ++ []) H R (EMet K Q) := ⟨x, d, rfl, hd, fun h1 => (by rw [h] at h1; cases h1), fun _ => met_worth T k⟩
theorem bad_over (T : Txt P K mg) (hd : Dp K H x d) (he : Dp K H y e) (h : okOp e = false) (k : ∀ H2, Same H H2 → Q (.str "worth") H2) {R : VK} : sp_over K ([x, y] ++ []) H R (EMet K Q) := ⟨x, y, d, e, rfl, hd, he, fun _ h1 => (by rw [h] at h1; cases h1), fun _ => met_worth T k⟩
theorem bad_wsum (T : Txt P K mg) (hd : Dp K H x d) (hl : ∀ ds, d = .tuple ds → ds.length ≤ 100) (h : isPairs d = false) (k : ∀ H2, Same H H2 → Q (.str "operation") H2) {R : VK} : sp_weighted_sum K ([x] ++ []) H R (EMet K Q) := ⟨x, d, rfl, hd, hl, fun h1 => (by rw [h] at h1; cases h1), fun _ => met_oper T k⟩
def ShD (d : PyData) : Prop := d.showable = true ∧ d.hasDict = false ∧ d.depth ≤ 8 ∧ d.shown.length ≤ 1000
theorem bad_w1 (T : Txt P K mg) (hd : Dp K H x d) (he : Dp K H y e) (h : wholeOk d = false) (hs : ShD d) (k : ∀ H2, Same H H2 → Q (.str ("number " ++ d.shown)) H2) {R : VK} : sp_worth K ([x, y] ++ []) H R (EMet K Q) :=
  ⟨x, y, d, e, rfl, hd, he, fun _ => met_number T hd hs k, fun h1 => (by rw [h] at h1; cases h1), fun h1 => (by rw [h] at h1; cases h1)⟩
theorem bad_w2 (T : Txt P K mg) (hd : Dp K H x d) (he : Dp K H y e) (h1 : wholeOk d = true) (h : bottomOk e = false) (hs : ShD e) (k : ∀ H2, Same H H2 → Q (.str ("number " ++ e.shown)) H2) {R : VK} : sp_worth K ([x, y] ++ []) H R (EMet K Q) :=
  ⟨x, y, d, e, rfl, hd, he, fun h2 => (by rw [h1] at h2; cases h2), fun _ _ => met_number T he hs k, fun _ h2 => (by rw [h] at h2; cases h2)⟩
end
theorem whole_4 : wholeOk (.int 4) = true := by
  show decide _ = true
  refine decide_eq_true ?_
  unfold BW
  decide +kernel
theorem dpAll_rep {K : PySem.W.Frag} {H : Hp} (z : Str) : ∀ n : Nat, DpAll K H (List.replicate n (V.str z)) (List.replicate n (PyData.str z))
  | 0 => .nil
  | n + 1 => .cons (.str z) (dpAll_rep z n)
theorem okOp_03 : okOp (.tuple [.int 0, .int 3]) = false := rfl
theorem same_dlb {G G1 : Hp} {p : Addr} (h : Same G G1) : Same (Sm.dl G p) (Sm.dl G1 p) := Sm.dl_both (Sm.dl_of h)
def OddD (d : PyData) : Prop := wholeOk d = false ∧ bottomOk d = false ∧ (PyData.str (Str.ofString "number " ++ d.shown)).canLay0 = true ∧ ShD d
theorem odd_ok {K : PySem.W.Frag} {H : Hp} {i : Nat} {v : V} {q : Addr} (hq : SqT K H q [.int 3, .int 1]) (h : ([.non, .bl true, .str "3", .ref q, .bl (decide ((1 : Int) = 2))] : List V)[i]? = some v) : ∃ d, Dp K H v d ∧ OddD d := by
  rcases i with _ | _ | _ | _ | _ | i <;> cases h
  · exact ⟨_, .non, rfl, rfl, by decide +kernel, rfl, rfl, by decide, by decide +kernel⟩
  · exact ⟨_, .bl _, rfl, rfl, by decide +kernel, rfl, rfl, by decide, by decide +kernel⟩
  · exact ⟨_, .str _, rfl, rfl, by decide +kernel, rfl, rfl, by decide, by decide +kernel⟩
  · exact ⟨_, .tup hq (.cons (.int _) (.cons (.int _) .nil)), rfl, rfl, by decide +kernel, by decide +kernel, rfl, by decide, by decide +kernel⟩
  · exact ⟨_, .bl _, rfl, rfl, by decide +kernel, rfl, rfl, by decide, by decide +kernel⟩
theorem dpAll_2 {K : PySem.W.Frag} {H : Hp} {x y : V} {d e : PyData} (h1 : Dp K H x d) (h2 : Dp K H y e) : DpAll K H [x, y] [d, e] := .cons h1 (.cons h2 .nil)
theorem dpAll_1 {K : PySem.W.Frag} {H : Hp} {x : V} {d : PyData} (h1 : Dp K H x d) : DpAll K H [x] [d] := .cons h1 .nil
theorem tupD {K : PySem.W.Frag} {H : Hp} {q : Addr} {xs : List V} {ds : List PyData} (h : H q = some (.tup xs)) (r : DpAll K H xs ds) : Dp K H (.ref q) (.tuple ds) := .tup (.inl (.inl h)) r
def PaD (d : PyData) : Prop := isPairs d = false ∧ ∀ ds, d = .tuple ds → ds.length ≤ 100
theorem pa_1 {d : PyData} (h : isPair d = false) : PaD (.tuple [d]) := ⟨by show ([d].all isPair) = false; simp [h], fun ds e => by cases e; simp⟩
theorem sh_0 : ShD (.int 0) := ⟨by decide +kernel, rfl, by decide, by decide +kernel⟩
theorem b_0 : bottomOk (.int 0) = false := rfl
theorem num_0 : Str.ofString "number " ++ (PyData.int 0).shown = Str.ofString "number 0" := by decide +kernel
theorem cl_list4 {z : Str} (h : (PyData.str z).canLay0 = true) : (PyData.list [.str "operation", .str z, .str z, .str "number 0"]).canLay0 = true := by
  have e1 : (PyData.str (Str.ofString "operation")).canLay0 = true := by decide +kernel
  have e2 : (PyData.str (Str.ofString "number 0")).canLay0 = true := by decide +kernel
  rw [PyData.canLay0, PyData.canLayAll0, PyData.canLayAll0, PyData.canLayAll0, PyData.canLayAll0, PyData.canLayAll0, e1, e2, h]
  rfl
theorem sh_list4 {z : Str} (h : (PyData.str z).canLay0 = true) : SeqAt.shaped (.list [.str "operation", .str z, .str z, .str "number 0"]) = true := by
  show (PyData.canLay0 (.list _) && decide (PyData.depth (.list _) ≤ 64)) = true
  rw [cl_list4 h, Bool.true_and]
  rfl
theorem dp_list4 {K : PySem.W.Frag} {H : Hp} {l : Addr} {z : Str} (h : H l = some (.lst [.str "operation", .str z, .str z, .str "number 0"])) : Dp K H (.ref l) (.list [.str "operation", .str z, .str z, .str "number 0"]) := .lst (.inl (.inl h)) (.cons (.str _) (.cons (.str _) (.cons (.str _) (.cons (.str _) .nil))))
end K00
namespace K00
open PySem PySem.Spec PyProof.Rows L2
theorem d2_of {H H' : Hp} {p l : Addr} (h : ∀ b o, b ≠ p → b ≠ l → H b = some o → H' b = some o) : Same (Sm.dl (Sm.dl H p) l) (Sm.dl (Sm.dl H' p) l) := fun b o hb => by
  have hl : b ≠ l := fun z => by
    unfold Sm.dl at hb
    rw [if_pos z] at hb
    cases hb
  rw [Sm.dl_ne hl] at hb ⊢
  have hp : b ≠ p := fun z => by
    unfold Sm.dl at hb
    rw [if_pos z] at hb
    cases hb
  rw [Sm.dl_ne hp] at hb ⊢
  exact h b o hp hl hb
theorem same_at {H H' : Hp} {p b : Addr} {o : HO} (h : Same (Sm.dl H p) H') (hp : b ≠ p) (hb : H b = some o) : H' b = some o := h b o (by rw [Sm.dl_ne hp]; exact hb)
theorem sqT_dlL {K : PySem.W.Frag} {H : Hp} {p q : Addr} {xs ys : List V} (hp : H p = some (.lst ys)) (h : SqT K H q xs) : SqT K (Sm.dl H p) q xs := by
  have ne : ∀ {o : HO}, H q = some o → (∀ ys, o ≠ .lst ys) → q ≠ p := fun {o} e n z => by
    rw [z, hp] at e
    exact n _ (Option.some.inj e).symm
  rcases h with (h | ⟨o, h⟩) | h
  · exact .inl (.inl (by rw [Sm.dl_ne (ne h fun _ z => by cases z)]; exact h))
  · exact .inl (.inr ⟨o, by rw [Sm.dl_ne (ne h fun _ z => by cases z)]; exact h⟩)
  · exact .inr h
theorem frd_dl {K : PySem.W.Frag} {H : Hp} {p : Addr} {v : V} {d : PyData} {n : Nat} {ys : List V} (hp : H p = some (.lst ys)) (hf : FrD n d) (h : Dp K H v d) : Dp K (Sm.dl H p) v d := by
  rcases hf with rfl | ⟨a, b, rfl, _⟩
  · cases h
    exact .non
  · obtain ⟨q, rfl, hq⟩ := Sm.dp_pair_inv h
    exact .tup (sqT_dlL hp hq) (.cons (.int a) (.cons (.int b) .nil))
theorem isPairs_ok {ps : List (PyData × PyData)} (h : ∀ p ∈ ps, (∃ a b, p.1 = wD (a, b) ∧ Fr 1010 a b) ∧ FrD 1010 p.2) : isPairs (.tuple (ps.map prD)) = true := by
  show (ps.map prD).all isPair = true
  rw [List.all_map, List.all_eq_true]
  intro p hp
  obtain ⟨⟨a, b, e, hw⟩, hv⟩ := h p hp
  show (isLong p.1 && okOp p.2) = true
  rw [e, fr_long hw (by decide), fr_ok hv (by decide)]
  rfl
theorem dpAll_snoc {K : PySem.W.Frag} {H : Hp} : ∀ {xs : List V} {ds : List PyData} {v : V} {d : PyData}, DpAll K H xs ds → Dp K H v d → DpAll K H (xs ++ [v]) (ds ++ [d])
  | _, _, _, _, .nil, h => .cons h .nil
  | _, _, _, _, .cons a r, h => .cons a (dpAll_snoc r h)
theorem atI_last (vs : List V) (v : V) : atI (vs ++ [v]) (-1) = some v := by
  have hl : (vs ++ [v]).length = vs.length + 1 := by simp
  have e : ixN (vs ++ [v]).length (-1) = some vs.length := by
    rw [hl]
    unfold ixN
    rw [if_neg (by decide)]
    rw [if_pos (by omega)]
    exact congrArg some (by omega)
  unfold atI
  rw [e]
  show (vs ++ [v])[vs.length]? = some v
  simp
theorem int_ok2 {t : Int} (h : t.natAbs < 2 ^ 20) : wholeOk (.int t) = true ∧ t.natAbs < 2 ^ 13000 := by
  have e : (2 : Nat) ^ 20 ≤ 10 ^ 4000 := by decide +kernel
  refine ⟨?_, pow_up h (by decide)⟩
  show decide ((t.natAbs : Int) < BW) = true
  refine decide_eq_true ?_
  unfold BW
  exact Int.ofNat_lt.mpr (Nat.lt_of_lt_of_le h e)
theorem bot_ok2 {t : Int} (h0 : t ≠ 0) (h : t.natAbs < 2 ^ 20) : bottomOk (.int t) = true := by
  have e := (int_ok2 h).1
  show (!decide (t = 0) && decide ((t.natAbs : Int) < BW)) = true
  rw [decide_eq_false h0, show decide ((t.natAbs : Int) < BW) = true from e]
  rfl
theorem fr_01 : FrD 1010 (.tuple [.int 0, .int 1]) := .inr ⟨0, 1, rfl, by decide, by decide, Nat.two_pow_pos _, one_lt _ (by decide)⟩
section
variable {K : PySem.W.Frag} {H : Hp} {Q : VK} {E : XK} {x y : V} {d e : PyData} {n m : Nat} {p q : Addr}
theorem c_compared {a b c f : Int} (hd : Dp K H x (wD (a, b))) (he : Dp K H y (wD (c, f))) (fd : Fr 1010 a b) (fe : Fr 1010 c f) (k : ∀ H', Same H H' → Q (.bl true) H') : sp__law_compared K ([x, y] ++ []) H Q E := ⟨x, y, a, b, c, f, rfl, hd, he, fd, fe, k⟩
theorem c_judged (hd : Dice H p) (k : ∀ H', Same (Sm.dl H p) H' → Dice H' p → Q (.bl true) H') : sp__law_judged K ([.ref p] ++ []) H Q E := ⟨p, rfl, hd, k⟩
theorem c_reckoned (hd : Dp K H x d) (he : Dp K H y e) (fd : FrD 1010 d) (fe : FrD 1010 e) (hT : LamX.Tabs (TT K) H) (k : ∀ H', LamX.ExtN H H' → LamX.Tabs (TT K) H' → Q (.bl true) H') : sp__law_reckoned K ([x, y] ++ []) H Q E := ⟨x, y, d, e, rfl, hd, he, fd, fe, hT, k⟩
theorem c_worth {t b : Int} (h1 : t.natAbs < 2 ^ 20) (h2 : b.natAbs < 2 ^ 20) (h0 : b ≠ 0) (k : ∀ v H', Same H H' → Dp K H' v (wD (low t b)) → Q v H') : sp_worth K ([.int t, .int b] ++ []) H Q E :=
  ⟨_, _, _, _, rfl, .int t, .int b, fun h => (by rw [(int_ok2 h1).1] at h; cases h), fun _ h => (by rw [bot_ok2 h0 h2] at h; cases h), fun _ _ => ⟨t, b, rfl, rfl, h0, ⟨(int_ok2 h1).2, (int_ok2 h2).2⟩, k⟩⟩
theorem c_worth1 {t : Int} (h1 : t.natAbs < 2 ^ 20) (k : ∀ v H', Same H H' → Dp K H' v (wD (low t 1)) → Q v H') : sp_worth K ([.int t] ++ [.int 1]) H Q E := c_worth (b := 1) h1 (by decide) (by decide) k
theorem c_wsum {ps : List (PyData × PyData)} (hd : Dp K H x (.tuple (ps.map prD))) (hp : Pairs ps) (k : ∀ v H', Same H H' → Dp K H' v (wsum ps) → Q v H') : sp_weighted_sum K ([x] ++ []) H Q E :=
  ⟨x, _, rfl, hd, fun ds e => (by
    injection e with e
    rw [← e, List.length_map]
    have := hp.1
    omega), fun _ => ⟨ps, rfl, hp, k⟩, fun h => (by rw [isPairs_ok hp.2] at h; cases h)⟩
end
theorem same_fresh {G G1 : Hp} {p l : Addr} (hn : G l = none) (he : Same G G1) : Same (Sm.dl G p) (Sm.dl (Sm.dl G1 p) l) := fun b o hb => by
  have hp : b ≠ p := fun z => by
    unfold Sm.dl at hb
    rw [if_pos z] at hb
    cases hb
  rw [Sm.dl_ne hp] at hb
  have hl : b ≠ l := fun z => by
    rw [z, hn] at hb
    cases hb
  rw [Sm.dl_ne hl, Sm.dl_ne hp]
  exact he _ _ hb
theorem dice_ne {H : Hp} {p l : Addr} (hd : Dice H p) (hn : H l = none) : l ≠ p := fun z => by
  obtain ⟨a, b, c, h⟩ := hd
  rw [z, h] at hn
  cases hn
theorem dice_at2 {H H' : Hp} {p l : Addr} (hd : Dice H p) (hpl : p ≠ l) (hs : Same (Sm.dl H l) H') : Dice H' p := by
  obtain ⟨a, b, c, h⟩ := hd
  exact ⟨a, b, c, same_at hs hpl h⟩
def PsOk (ps : List (PyData × PyData)) : Prop := ∀ p ∈ ps, (∃ a b, p.1 = wD (a, b) ∧ Fr 1010 a b) ∧ FrD 1010 p.2
theorem psOk_snoc {ps : List (PyData × PyData)} {a b : Int} {e : PyData} (h : PsOk ps) (h1 : Fr 1010 a b) (h2 : FrD 1010 e) : PsOk (ps ++ [(wD (a, b), e)]) := fun p hp => by
  rcases List.mem_append.mp hp with hp | hp
  · exact h p hp
  · rcases List.mem_singleton.mp hp with rfl
    exact ⟨⟨a, b, rfl, h1⟩, h2⟩
theorem dl2_sub {H : Hp} {p l : Addr} : Same (Sm.dl (Sm.dl H p) l) H := Sm.dl_sub.trans Sm.dl_sub
section
variable {P : Program} {w : World} {K : PySem.W.Frag} {mg : Str → Option Value} {base : Heap} {k : Nat} {f : Addr} {fd : FuncData} {ps : List Str}
theorem okb {d e : PyData} (h : okOp d = false ∨ okOp e = false) (h1 : okOp d = true) (h2 : okOp e = true) : False := by
  rcases h with h | h
  · rw [h1] at h
    cases h
  · rw [h2] at h
    cases h
theorem bad_of_plus (F : FnOk P w K mg base (L2.CX P w) k f fd ps (sp_plus K)) : FnOk P w K mg base (L2.CX P w) k f fd ps (sp_bad2 K) := F.imp fun vs H Q E ⟨x, y, d, e, h1, h2, h3, h4, h5⟩ => ⟨x, y, d, e, h1, h2, h3, fun a b => (okb h4 a b).elim, fun _ => h5⟩
theorem bad_of_minus (F : FnOk P w K mg base (L2.CX P w) k f fd ps (sp_minus K)) : FnOk P w K mg base (L2.CX P w) k f fd ps (sp_bad2 K) := F.imp fun vs H Q E ⟨x, y, d, e, h1, h2, h3, h4, h5⟩ => ⟨x, y, d, e, h1, h2, h3, fun a b => (okb h4 a b).elim, fun _ => h5⟩
theorem bad_of_times (F : FnOk P w K mg base (L2.CX P w) k f fd ps (sp_times K)) : FnOk P w K mg base (L2.CX P w) k f fd ps (sp_bad2 K) := F.imp fun vs H Q E ⟨x, y, d, e, h1, h2, h3, h4, h5⟩ => ⟨x, y, d, e, h1, h2, h3, fun a b => (okb h4 a b).elim, fun _ => h5⟩
theorem bad_of_over (F : FnOk P w K mg base (L2.CX P w) k f fd ps (sp_over K)) : FnOk P w K mg base (L2.CX P w) k f fd ps (sp_bad2 K) := F.imp fun vs H Q E ⟨x, y, d, e, h1, h2, h3, h4, h5⟩ => ⟨x, y, d, e, h1, h2, h3, fun a b => (okb h4 a b).elim, fun _ => h5⟩
end
end K00
namespace K00
open PySem PySem.Spec PyProof.Rows L2
local macro_rules | `(tactic| wtm_at "rp") => `(tactic| first | assumption | exact rp_mv (by assumption) (by wtm_at "sm"))
local macro_rules | `(tactic| wtm_at "dc") => `(tactic| first | assumption | exact dice_mv (by assumption) (by wtm_at "sm"))
local macro_rules | `(tactic| wtm_at "st") => `(tactic| first | ((with_reducible apply c_is_whole); (focus (wtm_at "at")); intro H' hs) | ((with_reducible apply c_is_name); (focus (wtm_at "at")); (focus (assumption)); intro H' hs) | ((with_reducible apply c_is_worth); (focus (wtm_at "at")); intro H' hs) | ((with_reducible apply c_is_cell_worth); (focus (wtm_at "at")); intro H' hs) | ((with_reducible apply c_is_weight); (focus (wtm_at "at")); intro H' hs) | ((with_reducible apply c_is_long_worth); (focus (wtm_at "at")); intro H' hs) | ((with_reducible apply c_gcdA); (focus (wtm_at "sd")); intro H' hs) | ((with_reducible apply c_gcd); (focus (wtm_at "sd")); (focus (wtm_at "sd")); intro H' hs) | ((with_reducible apply c_require_worth); (focus (wtm_at "at")); (focus (wtm_at "sd")); intro H' hs) | ((with_reducible apply c_require_operand); (focus (wtm_at "at")); (focus (wtm_at "sd")); intro H' hs) | ((with_reducible apply c_require_worthX); (focus (wtm_at "at")); (focus (assumption)); (focus (wtm_at "rp"))) | ((with_reducible apply c_require_operandX); (focus (wtm_at "at")); (focus (assumption)); (focus (wtm_at "rp"))) | ((with_reducible apply c_lowest); (focus (wtm_at "sd")); (focus (wtm_at "sd")); intro v H' hs hd) | ((with_reducible apply c_law_lowest); (focus (wtm_at "sd")); (focus (wtm_at "sd")); intro v H' hs hd) | ((with_reducible apply c_sum_in); (focus (wtm_at "at")); (focus (wtm_at "at")); (focus (assumption)); (focus (assumption)); (focus (omega)); intro v H' hs hd) | ((with_reducible apply c_difference_in); (focus (wtm_at "at")); (focus (wtm_at "at")); (focus (assumption)); (focus (assumption)); (focus (omega)); intro v H' hs hd) | ((with_reducible apply c_product_in); (focus (wtm_at "at")); (focus (wtm_at "at")); (focus (assumption)); (focus (assumption)); (focus (omega)); intro v H' hs hd) | ((with_reducible apply c_quotient_in); (focus (wtm_at "at")); (focus (wtm_at "at")); (focus (assumption)); (focus (assumption)); (focus (omega)); (focus (assumption)); intro v H' hs hd) | ((with_reducible apply c_added); (focus (wtm_at "at")); (focus (wtm_at "at")); (focus (assumption)); (focus (assumption)); (focus (omega)); intro v H' hs hd) | ((with_reducible apply c_multiplied); (focus (wtm_at "at")); (focus (wtm_at "at")); (focus (assumption)); (focus (assumption)); (focus (omega)); intro v H' hs hd) | ((with_reducible apply c_back); (focus (wtm_at "at")); (focus (wtm_at "at")); intro v H' hs hd) | ((with_reducible apply c_is_below_in); (focus (wtm_at "at")); (focus (wtm_at "at")); (focus (assumption)); (focus (assumption)); (focus (omega)); intro H' hs) | ((with_reducible apply c_is_great_in); (focus (wtm_at "at")); (focus (assumption)); intro H' hs) | ((with_reducible apply c_weighted_in); (focus (wtm_at "at")); (focus (assumption)); intro v H' hs hd) | ((with_reducible apply c_is_weighted_pair); (focus (wtm_at "at")); intro H' hs) | ((with_reducible apply c_roll); (focus (wtm_at "dc")); (focus (wtm_at "sd")); (focus (wtm_at "sd")); intro r H' h0 h1 hs hd) | ((with_reducible apply c_one_of); (focus (wtm_at "dc")); (focus (wtm_at "at")); (focus (wtm_at "sd")); (focus (wtm_at "sd")); intro i v H' hx hs hd) | ((with_reducible apply c_long); (focus (wtm_at "dc")); intro r H' h0 h1 hs hd) | ((with_reducible apply c_fraction); (focus (wtm_at "dc")); intro v H' a b hs hd hv hf) | ((with_reducible apply c_operand); (focus (wtm_at "dc")); intro v d H' hs hd hv hf) | ((with_reducible apply Sm.g_isNx); (focus (assumption))) | ((with_reducible apply c_is_below); (focus (wtm_at "at")); (focus (wtm_at "at")); (focus (assumption)); (focus (assumption)); (focus (assumption)); (focus (assumption)); (focus (omega)); intro H' hs) | ((with_reducible apply c_is_great); (focus (wtm_at "at")); (focus (assumption)); (focus (assumption)); intro H' hs) | ((with_reducible apply c_plus); (focus (wtm_at "at")); (focus (wtm_at "at")); (focus (assumption)); (focus (assumption)); (focus (omega)); intro v H' hs hd) | ((with_reducible apply c_minus); (focus (wtm_at "at")); (focus (wtm_at "at")); (focus (assumption)); (focus (assumption)); (focus (omega)); intro v H' hs hd) | ((with_reducible apply c_times); (focus (wtm_at "at")); (focus (wtm_at "at")); (focus (assumption)); (focus (assumption)); (focus (omega)); intro v H' hs hd) | ((with_reducible apply c_over); (focus (wtm_at "at")); (focus (wtm_at "at")); (focus (assumption)); (focus (assumption)); (focus (omega)); (focus (assumption)); intro v H' hs hd) | ((with_reducible apply Sm.g_reprL); (focus (wtm_at "at")); (focus (assumption))) | ((with_reducible apply Sm.g_repr); (focus (wtm_at "at")); (focus (assumption))) | ((with_reducible apply Sm.g_niT); (focus (wtm_at "at")); (focus (rfl)); (focus (rfl))) | ((with_reducible apply c_powBC); (focus (assumption))) | ((with_reducible apply Sm.g_rep); (focus (assumption)); (focus (decide)); (focus (decide)); (focus (decide)); intro a H' hn hs hL) | ((with_reducible apply c_compared); (focus (wtm_at "at")); (focus (wtm_at "at")); (focus (assumption)); (focus (assumption)); intro H' hs) | ((with_reducible apply c_judged); (focus (wtm_at "dc")); intro H' hs hd) | ((with_reducible apply c_worth); (focus (assumption)); (focus (assumption)); (focus (assumption)); intro v H' hs hd) | ((with_reducible apply c_worth1); (focus (assumption)); intro v H' hs hd) | ((with_reducible apply Sm.g_tupL); (focus (wtm_at "at")); intro a H' hn hs hL))
section
variable {P : Program} {w : World} {K : PySem.W.Frag} {mg : Str → Option Value} {base : Heap} {f : Addr} {fd : FuncData}
theorem ok_is_whole (T : Txt P K mg) (F : FD K "is_whole" s_is_whole f fd)   : FnOk P w K mg base (L2.CX P w) 1 f fd P_is_whole (sp_is_whole K) := by
  refine F.ok sc_is_whole (fun vs H Q E h => ?_) (fun cdv A outer s H vs Q E hr h => ?_)
  · obtain ⟨x, d, rfl, _⟩ := h
    rfl
  obtain ⟨x, d, rfl, hd, hq⟩ := h
  refine ⟨_, (pss_one (ps_ret (pe_and (pe_callB call_isi rfl T.f_isinstance (by decide +kernel) (pa_cons (pv 0) (pa_cons (Sm.pe_ty (n := "int") T.f_int (by decide +kernel)) pa_nil))) (pe_one (pe_not (pe_callB call_isi rfl T.f_isinstance (by decide +kernel) (pa_cons (pv 0) (pa_cons (Sm.pe_ty (n := "bool") T.f_bool (by decide +kernel)) pa_nil)))))))), ?_⟩
  rw [st_is_whole]
  cases hd <;> (repeat' wtm_at "st")
  all_goals exact hq _ (Same.refl _)
end
section
variable {P : Program} {w : World} {K : PySem.W.Frag} {mg : Str → Option Value} {base : Heap} {f : Addr} {fd : FuncData}
theorem ok_is_name (T : Txt P K mg) (F : FD K "is_name" s_is_name f fd)   : FnOk P w K mg base (L2.CX P w) 1 f fd P_is_name (sp_is_name K) := by
  refine F.ok sc_is_name (fun vs H Q E h => ?_) (fun cdv A outer s H vs Q E hr h => ?_)
  · obtain ⟨x, d, rfl, _⟩ := h
    rfl
  obtain ⟨x, d, rfl, hd, hz, hq⟩ := h
  refine ⟨_, (pss_cons (ps_if (PW.pt (pw_or (pt_not (pt_truth (pe_callB call_isi rfl T.f_isinstance (by decide +kernel) (pa_cons (pv 0) (pa_cons (Sm.pe_ty (n := "str") T.f_str (by decide +kernel)) pa_nil))) (by intro _; rfl))) (pw_or (pt_not (pt_chain op_le op_le pe_int (pe_callB Sm.call_lenU rfl T.f_len (by decide +kernel) (pa_cons (pv 0) pa_nil)) (Sm.pe_gi T.c_MOST_NAME))) (pw_or1 (pt_cmpR Sm.op_niU (pe_ix ix_seq (pv 0) pe_int (fun _ _ => rfl)) (Sm.pe_gs T.c_LETTERS) (by rfl)))))) (pss_one (ps_ret pe_bl)) pss_nil)
      (pss_one (ps_ret (pe_callB (cr_all rfl) rfl T.f_all (by decide +kernel) (pa_cons (pe_lc (own := [("sign", 1)]) rfl sc_is_name.nd (pi_str (pv 0)) (blkOk_by (own := [("sign", 1)]) (N := N_is_name) (sc := defScope s_is_name) (by decide +kernel)) (fun _ _ _ _ _ => (pg_name (i := 1) sc_is_name.nd rfl (Or.inl rfl))) (fun _ _ _ _ _ => pts_nil) (fun _ _ _ _ _ => (pe_or (pe_cmpR (Sm.op_inK (K := K) rfl) (pv 1) (Sm.pe_gs T.c_LETTERS) (by rfl)) (pe_one (pe_cmpR (Sm.op_inK (K := K) rfl) (pv 1) (Sm.pe_gs T.c_DIGITS) (by rfl)))))) pa_nil))))), ?_⟩
  rw [st_is_name]
  cases hd with
  | str z =>
    have hl := hz z rfl
    have hlz : z.length ≤ sizeLine := Sm.len_le (by omega)
    have hl2 : z.length = z.cps.toList.length := TL.len_tl z
    have key : ∀ b : Bool, isName (.str z) = b → ∀ H', Same H H' → Q (.bl b) H' := fun b e H' hs => by rw [← e]; exact hq H' hs
    by_cases h8 : 1 ≤ z.cps.toList.length ∧ z.cps.toList.length ≤ 8
    · obtain ⟨c, r, hc⟩ := List.exists_cons_of_length_pos (show 0 < z.cps.toList.length by omega)
      have h0 : atI z.cps.toList 0 = some c := by rw [hc]; exact atI_nat (j := 0) rfl
      have hN : isName (.str z) = (letter c && z.cps.toList.all fun c => letter c || digit c) := by
        show (decide _ && _) = _
        rw [decide_eq_true h8, hc]
        rfl
      have hcl : decide (c ∈ (Str.ofString "abcdefghijklmnopqrstuvwxyz").cps.toList) = letter c := rfl
      repeat' wtm_at "st"
      · refine key false ?_ _ (by wtm_at "sm")
        rw [hN, ← hcl, decide_eq_false (by assumption), Bool.false_and]
      · rename_i hcm
        refine Sm.g_lc walk_str (fun R h => ⟨_, rfl, z, rfl, h⟩) (fun i => ((z.cps.toList.take i).map fun c => letter c || digit c).map V.bl) rfl (fun _ _ => trivial) ?_ ?_
        · rintro D i x H1 H2 hD hi hs hL ⟨rfl, c', hc', rfl⟩
          have hc2 : z.cps.toList[i]? = some c' := by
            rw [Array.getElem?_toList]
            exact hc'
          refine Sm.Stq.h (g := gName 1 (V.str ⟨#[c']⟩) [some (V.str z), none] _ _) ?_
          refine ⟨rfl, ?_⟩
          have hlen : (((z.cps.toList.take i).map fun c => letter c || digit c).map V.bl).length < sizeLine := by
            rw [List.length_map, List.length_map, List.length_take]
            exact Nat.lt_of_le_of_lt (Nat.le_trans (Nat.min_le_right _ _) (by omega : z.cps.toList.length ≤ 100)) (by decide)
          have hstep : ∀ v : Bool, (letter c' || digit c') = v → (((z.cps.toList.take (i + 1)).map fun c => letter c || digit c).map V.bl) = (((z.cps.toList.take i).map fun c => letter c || digit c).map V.bl) ++ [V.bl v] := fun v e => by
            rw [List.take_succ, hc2, List.map_append, List.map_append]
            show _ ++ [V.bl (letter c' || digit c')] = _
            rw [e]
          by_cases h1 : c' ∈ (Str.ofString "abcdefghijklmnopqrstuvwxyz").cps.toList
          · have e1 : (letter c' || digit c') = true := by
              rw [show letter c' = true from decide_eq_true h1, Bool.true_or]
            repeat' wtm_at "st"
            exact Sm.lc_add hD hs hL hlen (hstep _ e1)
          · have e1 : (letter c' || digit c') = decide (c' ∈ (Str.ofString "0123456789").cps.toList) := by
              rw [show letter c' = false from decide_eq_false h1, Bool.false_or]
              rfl
            repeat' wtm_at "st"
            exact Sm.lc_add hD hs hL hlen (hstep _ e1)
        · rintro D H1 hD hs hL
          rw [List.take_of_length_le (show z.cps.toList.length ≤ z.cps.size from Nat.le_of_eq (Array.length_toList ..))] at hL
          wtm_at "st"
          refine Sm.g_all (bs := z.cps.toList.map fun c => letter c || digit c) (.inl (.inl hL)) ?_
          repeat' wtm_at "st"
          refine key _ ?_ _ hs
          rw [hN, ← hcl, decide_eq_true hcm, Bool.true_and, List.all_map]
          rfl
    · have hN : isName (.str z) = false := by
        show (decide _ && _) = _
        rw [decide_eq_false h8, Bool.false_and]
      repeat' wtm_at "st"
      all_goals first
        | exact key false hN _ (by wtm_at "sm")
        | (exfalso; omega)
  | _ =>
    repeat' wtm_at "st"
    all_goals exact hq _ (Same.refl _)
end
section
variable {P : Program} {w : World} {K : PySem.W.Frag} {mg : Str → Option Value} {base : Heap} {f : Addr} {fd : FuncData}
theorem ok_greatest_divisor (T : Txt P K mg) (F : FD K "greatest_divisor" s_greatest_divisor f fd)   : FnOk P w K mg base (L2.CX P w) 1 f fd P_greatest_divisor (sp_greatest_divisor K) := by
  refine F.ok sc_greatest_divisor (fun vs H Q E h => ?_) (fun cdv A outer s H vs Q E hr h => ?_)
  · obtain ⟨a, b, rfl, _⟩ := h
    rfl
  obtain ⟨a, b, rfl, ha, hb, hq⟩ := h
  refine ⟨_, (pss_cons (ps_while (passes_of rfl) (pt_cmpR (Sm.op_neU hr) (pv 1) pe_int (nomark _)) (pss_one (ps_par (i := 0) (j := 1) rfl sc_greatest_divisor.nd rfl rfl (by decide) rfl rfl (pa_cons (pv 1) (pa_cons (pe_op op_modN (pv 0) (pv 1)) pa_nil)) (by rfl))))
      (pss_one (ps_ret (pv 0)))), ?_⟩
  rw [st_greatest_divisor]
  wtm_at "st"
  refine Sm.g_while (fun σ H' => ∃ x y : Int, σ = [some (.int x), some (.int y)] ∧ Same H H' ∧ 0 ≤ x ∧ 0 ≤ y ∧ Int.gcd x y = Int.gcd a b) (fun σ _ => match σ with | [_, some (.int y)] => y.toNat | _ => 0) ⟨a, b, rfl, Same.refl _, ha, hb, rfl⟩ ?_
  rintro σ H' ⟨x, y, rfl, hs, hx, hy, hg⟩
  repeat' wtm_at "st"
  · refine Sm.g_wturn ?_
    repeat' wtm_at "st"
    have h1 := Int.emod_nonneg x (b := y) (by omega)
    have h2 := Int.emod_lt_of_pos x (b := y) (by omega)
    refine ⟨?_, y, x % y, rfl, hs, hy, h1, (gcd_step x y).trans hg⟩
    show (x % y).toNat < y.toNat
    omega
  · rename_i h0
    subst h0
    have e : x = ((Int.gcd a b : Nat) : Int) := by
      rw [Int.gcd_zero_right] at hg
      omega
    show Q (.int x) H'
    rw [e]
    exact hq H' hs
end
section
variable {P : Program} {w : World} {K : PySem.W.Frag} {mg : Str → Option Value} {base : Heap} {f : Addr} {fd : FuncData}
theorem ok_lowest (T : Txt P K mg) (F : FD K "lowest" s_lowest f fd) (G_greatest_divisor : Sm.Fn P w K mg base 1 "greatest_divisor" P_greatest_divisor (sp_greatest_divisor K))  : FnOk P w K mg base (L2.CX P w) 2 f fd P_lowest (sp_lowest K) := by
  refine F.ok sc_lowest (fun vs H Q E h => ?_) (fun cdv A outer s H vs Q E hr h => ?_)
  · obtain ⟨t, b, rfl, _⟩ := h
    rfl
  obtain ⟨t, b, rfl, hb, hz, hq⟩ := h
  refine ⟨_, (pss_cons (ps_if (pt_cmpR op_lt (pv 1) pe_int (nomark _)) (pss_one (ps_par (i := 0) (j := 1) rfl sc_lowest.nd rfl rfl (by decide) rfl rfl (pa_cons (pe_un un_neg (pv 0)) (pa_cons (pe_un un_neg (pv 1)) pa_nil)) (by rfl))) pss_nil)
      (pss_cons (ps_set (i := 2) sc_lowest.nd rfl (Or.inl rfl) (Sm.pe_fn G_greatest_divisor hr (pa_cons (pe_callB Sm.call_absU rfl T.f_abs (by decide +kernel) (pa_cons (pv 0) pa_nil)) (pa_cons (pv 1) pa_nil))))
      (pss_one (ps_ret (pe_tup (pa_cons (pe_op Sm.op_fdivU (pv 0) (pv 2)) (pa_cons (pe_op Sm.op_fdivU (pv 1) (pv 2)) pa_nil))))))), ?_⟩
  rw [st_lowest]
  have gp := gcd_pos (t := t) hb
  have hp : ∀ j, Builtin.divisionGoesByPylong t j = false := fun i => Sm.pyC hz.1
  have hp1 : ∀ j, Builtin.divisionGoesByPylong b j = false := fun i => Sm.pyC hz.2
  have hp2 : ∀ j, Builtin.divisionGoesByPylong (-t) j = false := fun i => Sm.pyC (by rw [Int.natAbs_neg]; exact hz.1)
  have hp3 : ∀ j, Builtin.divisionGoesByPylong (-b) j = false := fun i => Sm.pyC (by rw [Int.natAbs_neg]; exact hz.2)
  repeat' wtm_at "st"
  all_goals simp only [Int.neg_gcd, Int.gcd_neg]
  all_goals repeat' wtm_at "st"
  all_goals refine hq _ _ (by wtm_at "sm") ?_
  · rw [low_neg (by assumption)]
    exact dp_pair (by assumption)
  · rw [low_pos (by omega)]
    exact dp_pair (by assumption)
end
section
variable {P : Program} {w : World} {K : PySem.W.Frag} {mg : Str → Option Value} {base : Heap} {f : Addr} {fd : FuncData}
theorem ok_is_worth (T : Txt P K mg) (F : FD K "is_worth" s_is_worth f fd) (G_is_whole : Sm.Fn P w K mg base 1 "is_whole" P_is_whole (sp_is_whole K)) (G_greatest_divisor : Sm.Fn P w K mg base 1 "greatest_divisor" P_greatest_divisor (sp_greatest_divisor K))  : FnOk P w K mg base (L2.CX P w) 2 f fd P_is_worth (sp_is_worth K) := by
  refine F.ok sc_is_worth (fun vs H Q E h => ?_) (fun cdv A outer s H vs Q E hr h => ?_)
  · obtain ⟨x, d, rfl, _⟩ := h
    rfl
  obtain ⟨x, d, rfl, hd, hq⟩ := h
  refine ⟨_, (pss_cons (ps_if (PW.pt (pw_or (pt_not (pt_truth (pe_callB call_isi rfl T.f_isinstance (by decide +kernel) (pa_cons (pv 0) (pa_cons (Sm.pe_ty (n := "tuple") T.f_tuple (by decide +kernel)) pa_nil))) (by intro _; rfl))) (pw_or (pt_cmpR (Sm.op_neU hr) (pe_callB Sm.call_lenU rfl T.f_len (by decide +kernel) (pa_cons (pv 0) pa_nil)) pe_int (nomark _)) (pw_or (pt_not (pt_truth (Sm.pe_fn G_is_whole hr (pa_cons (pe_ix ix_seq (pv 0) pe_int (fun _ _ => rfl)) pa_nil)) (by intro _; rfl))) (pw_or1 (pt_not (pt_truth (Sm.pe_fn G_is_whole hr (pa_cons (pe_ix ix_seq (pv 0) pe_int (fun _ _ => rfl)) pa_nil)) (by intro _; rfl)))))))) (pss_one (ps_ret pe_bl)) pss_nil)
      (pss_one (ps_ret (pe_and (pe_cmpR op_ge (pe_ix ix_seq (pv 0) pe_int (fun _ _ => rfl)) pe_int (nomark _)) (pe_one (pe_cmpR (Sm.op_eqU hr) (Sm.pe_fn G_greatest_divisor hr (pa_cons (pe_callB Sm.call_absU rfl T.f_abs (by decide +kernel) (pa_cons (pe_ix ix_seq (pv 0) pe_int (fun _ _ => rfl)) pa_nil)) (pa_cons (pe_ix ix_seq (pv 0) pe_int (fun _ _ => rfl)) pa_nil))) pe_int (nomark _))))))), ?_⟩
  rw [st_is_worth]
  cases hd with
  | tup h r =>
    rcases r with _ | ⟨h0, r⟩
    · repeat' wtm_at "st"
      all_goals exact hq _ (Same.refl _)
    rcases r with _ | ⟨h1, r⟩
    · repeat' wtm_at "st"
      all_goals exact Sm.fin (hq _ (Same.refl _)) (congrArg V.bl (isWorth_1 _))
    rcases r with _ | ⟨h2, r⟩
    · rename_i x0 d0 x1 d1
      repeat' wtm_at "st"
      · refine Sm.fin (hq _ (by wtm_at "sm")) (congrArg V.bl ?_)
        cases d0 <;> first | rfl | simp_all [isWhole]
      · refine Sm.fin (hq _ (by wtm_at "sm")) (congrArg V.bl ?_)
        cases d1 <;> cases d0 <;> first | rfl | simp_all [isWhole]
      · obtain ⟨t, rfl⟩ : ∃ t, d0 = .int t := by cases d0 <;> simp_all [isWhole]
        obtain ⟨b, rfl⟩ : ∃ t, d1 = .int t := by cases d1 <;> simp_all [isWhole]
        cases h0
        cases h1
        repeat' wtm_at "st"
        all_goals (refine Sm.fin (hq _ (by wtm_at "sm")) (congrArg V.bl ?_); simp_all [isWorth])
        intros
        omega
    · repeat' wtm_at "st"
      all_goals exact Sm.fin (hq _ (Same.refl _)) (congrArg V.bl (isWorth_3 _ _ _ _))
  | _ =>
    repeat' wtm_at "st"
    all_goals exact hq _ (Same.refl _)
end
section
variable {P : Program} {w : World} {K : PySem.W.Frag} {mg : Str → Option Value} {base : Heap} {f : Addr} {fd : FuncData}
theorem ok_is_cell_worth (T : Txt P K mg) (F : FD K "is_cell_worth" s_is_cell_worth f fd) (G_is_worth : Sm.Fn P w K mg base 2 "is_worth" P_is_worth (sp_is_worth K))  : FnOk P w K mg base (L2.CX P w) 3 f fd P_is_cell_worth (sp_is_cell_worth K) := by
  refine F.ok sc_is_cell_worth (fun vs H Q E h => ?_) (fun cdv A outer s H vs Q E hr h => ?_)
  · obtain ⟨x, d, rfl, _⟩ := h
    rfl
  obtain ⟨x, d, rfl, hd, hq⟩ := h
  refine ⟨_, (pss_one (ps_ret (pe_and (Sm.pe_fn G_is_worth hr (pa_cons (pv 0) pa_nil)) (pe_and (pe_cmpR op_lt (pe_callB Sm.call_absU rfl T.f_abs (by decide +kernel) (pa_cons (pe_ix ix_seq (pv 0) pe_int (fun _ _ => rfl)) pa_nil)) (Sm.pe_gi T.c_BEYOND_CELLS) (nomark _)) (pe_one (pe_cmpR op_le (pe_ix ix_seq (pv 0) pe_int (fun _ _ => rfl)) (Sm.pe_gi T.c_MOST_CELL_BOTTOM) (nomark _))))))), ?_⟩
  rw [st_is_cell_worth]
  by_cases hw : isWorth d = true
  · obtain ⟨t, b, rfl, h1, h2⟩ := isWorth_elim hw
    obtain ⟨p, rfl, hs⟩ := Sm.dp_pair_inv hd
    have hI : isCell (.tuple [.int t, .int b]) = (isWorth (.tuple [.int t, .int b]) && (decide ((t.natAbs : Int) < BC) && decide (b ≤ 1000))) := rfl
    rw [hw, Bool.true_and] at hI
    repeat' wtm_at "st"
    · refine Sm.fin (hq _ (by wtm_at "sm")) (congrArg V.bl ?_)
      rw [hI, decide_eq_true (by assumption), Bool.true_and]
    · refine Sm.fin (hq _ (by wtm_at "sm")) (congrArg V.bl ?_)
      rw [hI, decide_eq_false (by assumption), Bool.false_and]
  · have hw' : isWorth d = false := by simpa using hw
    have hI : isCell d = false := by
      unfold isCell
      split
      · rw [hw']; rfl
      · rfl
    repeat' wtm_at "st"
    exact Sm.fin (hq _ (by wtm_at "sm")) (congrArg V.bl hI)
end
section
variable {P : Program} {w : World} {K : PySem.W.Frag} {mg : Str → Option Value} {base : Heap} {f : Addr} {fd : FuncData}
theorem ok_is_weight (T : Txt P K mg) (F : FD K "is_weight" s_is_weight f fd) (G_is_worth : Sm.Fn P w K mg base 2 "is_worth" P_is_worth (sp_is_worth K))  : FnOk P w K mg base (L2.CX P w) 3 f fd P_is_weight (sp_is_weight K) := by
  refine F.ok sc_is_weight (fun vs H Q E h => ?_) (fun cdv A outer s H vs Q E hr h => ?_)
  · obtain ⟨x, d, rfl, _⟩ := h
    rfl
  obtain ⟨x, d, rfl, hd, hq⟩ := h
  refine ⟨_, (pss_cons (ps_if (PW.pt (pw_or (pt_not (pt_truth (Sm.pe_fn G_is_worth hr (pa_cons (pv 0) pa_nil)) (by intro _; rfl))) (pw_or1 (pt_cmpR (Sm.op_eqU hr) (pe_ix ix_seq (pv 0) pe_int (fun _ _ => rfl)) pe_int (nomark _))))) (pss_one (ps_ret pe_bl)) pss_nil)
      (pss_one (ps_ret (pe_and (pe_cmpR op_le (pe_callB Sm.call_absU rfl T.f_abs (by decide +kernel) (pa_cons (pe_ix ix_seq (pv 0) pe_int (fun _ _ => rfl)) pa_nil)) (Sm.pe_gi T.c_MOST_WEIGHT_TOP) (nomark _)) (pe_one (pe_cmpR op_le (pe_ix ix_seq (pv 0) pe_int (fun _ _ => rfl)) (Sm.pe_gi T.c_MOST_WEIGHT_BOTTOM) (nomark _))))))), ?_⟩
  rw [st_is_weight]
  by_cases hw : isWorth d = true
  · obtain ⟨t, b, rfl, h1, h2⟩ := isWorth_elim hw
    obtain ⟨p, rfl, hs⟩ := Sm.dp_pair_inv hd
    have hI : isWeight (.tuple [.int t, .int b]) = (isWorth (.tuple [.int t, .int b]) && (!decide (t = 0) && (decide ((t.natAbs : Int) ≤ 99) && decide (b ≤ 10)))) := rfl
    rw [hw, Bool.true_and] at hI
    repeat' wtm_at "st"
    · refine Sm.fin (hq _ (by wtm_at "sm")) (congrArg V.bl ?_)
      rw [hI, decide_eq_true (by assumption), Bool.not_true, Bool.false_and]
    · refine Sm.fin (hq _ (by wtm_at "sm")) (congrArg V.bl ?_)
      rw [hI, decide_eq_false (by assumption), Bool.not_false, Bool.true_and, decide_eq_true (by assumption), Bool.true_and]
    · refine Sm.fin (hq _ (by wtm_at "sm")) (congrArg V.bl ?_)
      rw [hI, decide_eq_false (by assumption), Bool.not_false, Bool.true_and, decide_eq_false (by assumption), Bool.false_and]
  · have hw' : isWorth d = false := by simpa using hw
    have hI : isWeight d = false := by
      unfold isWeight
      split
      · rw [hw']; rfl
      · rfl
    repeat' wtm_at "st"
    exact Sm.fin (hq _ (by wtm_at "sm")) (congrArg V.bl hI)
end
section
variable {P : Program} {w : World} {K : PySem.W.Frag} {mg : Str → Option Value} {base : Heap} {f : Addr} {fd : FuncData}
theorem ok_is_long_worth (T : Txt P K mg) (F : FD K "is_long_worth" s_is_long_worth f fd) (G_is_worth : Sm.Fn P w K mg base 2 "is_worth" P_is_worth (sp_is_worth K))  : FnOk P w K mg base (L2.CX P w) 3 f fd P_is_long_worth (sp_is_long_worth K) := by
  refine F.ok sc_is_long_worth (fun vs H Q E h => ?_) (fun cdv A outer s H vs Q E hr h => ?_)
  · obtain ⟨x, d, rfl, _⟩ := h
    rfl
  obtain ⟨x, d, rfl, hd, hq⟩ := h
  refine ⟨_, (pss_one (ps_ret (pe_and (Sm.pe_fn G_is_worth hr (pa_cons (pv 0) pa_nil)) (pe_and (pe_cmpR op_lt (pe_callB Sm.call_absU rfl T.f_abs (by decide +kernel) (pa_cons (pe_ix ix_seq (pv 0) pe_int (fun _ _ => rfl)) pa_nil)) (Sm.pe_gi T.c_BEYOND_WORTHS) (nomark _)) (pe_one (pe_cmpR op_lt (pe_ix ix_seq (pv 0) pe_int (fun _ _ => rfl)) (Sm.pe_gi T.c_BEYOND_WORTHS) (nomark _))))))), ?_⟩
  rw [st_is_long_worth]
  repeat' wtm_at "st"
  · obtain ⟨t, b, rfl, h1, h2⟩ := isWorth_elim (by assumption)
    obtain ⟨p, rfl, hs⟩ := Sm.dp_pair_inv hd
    repeat' wtm_at "st"
    all_goals (refine Sm.fin (hq _ (by wtm_at "sm")) (congrArg V.bl ?_); simp_all [isLong]; try (intros; omega))
  · exact Sm.fin (hq _ (by wtm_at "sm")) (congrArg V.bl (isLong_worth (by assumption)))
end
section
variable {P : Program} {w : World} {K : PySem.W.Frag} {mg : Str → Option Value} {base : Heap} {f : Addr} {fd : FuncData}
theorem ok_require_worth (T : Txt P K mg) (F : FD K "require_worth" s_require_worth f fd) (G_is_long_worth : Sm.Fn P w K mg base 3 "is_long_worth" P_is_long_worth (sp_is_long_worth K))  : FnOk P w K mg base (L2.CX P w) 4 f fd P_require_worth (sp_require_worth K) := by
  refine F.ok sc_require_worth (fun vs H Q E h => ?_) (fun cdv A outer s H vs Q E hr h => ?_)
  · obtain ⟨x, d, rfl, _⟩ := h
    rfl
  obtain ⟨x, d, rfl, hd, hq, he⟩ := h
  refine ⟨_, (pss_one (ps_if (pt_not (pt_truth (Sm.pe_fn G_is_long_worth hr (pa_cons (pv 0) pa_nil)) (by intro _; rfl))) (pss_one (ps_raise rfl (takes_of rfl rfl rfl rfl) (Sm.pmk_pl T.x_InvalidWorth (pa_cons (pv 0) pa_nil)))) pss_nil)), ?_⟩
  rw [st_require_worth]
  repeat' wtm_at "st"
  · exact ⟨Nat.le_of_ble_eq_true rfl, he (by assumption) _ (by wtm_at "sm")⟩
  · exact hq (by assumption) _ (by wtm_at "sm")
end
section
variable {P : Program} {w : World} {K : PySem.W.Frag} {mg : Str → Option Value} {base : Heap} {f : Addr} {fd : FuncData}
theorem ok_require_operand (T : Txt P K mg) (F : FD K "require_operand" s_require_operand f fd) (G_require_worth : Sm.Fn P w K mg base 4 "require_worth" P_require_worth (sp_require_worth K))  : FnOk P w K mg base (L2.CX P w) 5 f fd P_require_operand (sp_require_operand K) := by
  refine F.ok sc_require_operand (fun vs H Q E h => ?_) (fun cdv A outer s H vs Q E hr h => ?_)
  · obtain ⟨x, d, rfl, _⟩ := h
    rfl
  obtain ⟨x, d, rfl, hd, hq, he⟩ := h
  refine ⟨_, (pss_one (ps_if (pt_cmpR Sm.op_nisU (pv 0) pe_non (nomark _)) (pss_one (ps_expr (Sm.pe_fnE G_require_worth hr (pa_cons (pv 0) pa_nil) (Sm.passE rfl rfl rfl rfl)))) pss_nil)), ?_⟩
  rw [st_require_operand]
  by_cases hn : d = .none
  · subst hn
    cases hd
    repeat' wtm_at "st"
    exact hq rfl _ (by wtm_at "sm")
  · have e := okOp_of hn
    rw [e] at hq he
    have hx : x ≠ .non := fun z => by
      subst z
      cases hd
      exact hn rfl
    refine Sm.Stq.h (g := _) (s := _) ?_
    refine ⟨rfl, ?_⟩
    rw [decide_eq_false hx]
    repeat' wtm_at "st"
    refine ⟨x, d, rfl, hd, fun z H' hs => hq z H' hs, fun z H' hs => he z H' hs⟩
end
section
variable {P : Program} {w : World} {K : PySem.W.Frag} {mg : Str → Option Value} {base : Heap} {f : Addr} {fd : FuncData}
theorem ok_worth (T : Txt P K mg) (F : FunD K "worth" "worth" (defArgs s_worth) (defBody s_worth) (defScope s_worth) [.int (1)] [] f fd) (G_lowest : Sm.Fn P w K mg base 2 "lowest" P_lowest (sp_lowest K)) (G_is_whole : Sm.Fn P w K mg base 1 "is_whole" P_is_whole (sp_is_whole K))  : FnOk P w K mg base (L2.CX P w) 3 f fd P_worth (sp_worth K) := by
  refine F.ok sc_worth (fun vs H Q E h => ?_) (fun cdv A outer s H vs Q E hr h => ?_)
  · obtain ⟨x, y, d, e, rfl, _⟩ := h
    rfl
  obtain ⟨x, y, d, e, rfl, hd, he, h1, h2, h3⟩ := h
  refine ⟨_, (pss_cons (ps_if (PW.pt (pw_or (pt_not (pt_truth (Sm.pe_fn G_is_whole hr (pa_cons (pv 0) pa_nil)) (by intro _; rfl))) (pw_or1 (pt_cmpR op_ge (pe_callB Sm.call_absU rfl T.f_abs (by decide +kernel) (pa_cons (pv 0) pa_nil)) (Sm.pe_gi T.c_BEYOND_WORTHS) (nomark _))))) (pss_one (ps_raise rfl (takes_of rfl rfl rfl rfl) (Sm.pmk_xs T.x_InvalidNumber hr (by exact (pa_cons (pv 0) pa_nil))))) pss_nil)
      (pss_cons (ps_if (PW.pt (pw_or (pt_not (pt_truth (Sm.pe_fn G_is_whole hr (pa_cons (pv 1) pa_nil)) (by intro _; rfl))) (pw_or (pt_cmpR (Sm.op_eqU hr) (pv 1) pe_int (nomark _)) (pw_or1 (pt_cmpR op_ge (pe_callB Sm.call_absU rfl T.f_abs (by decide +kernel) (pa_cons (pv 1) pa_nil)) (Sm.pe_gi T.c_BEYOND_WORTHS) (nomark _)))))) (pss_one (ps_raise rfl (takes_of rfl rfl rfl rfl) (Sm.pmk_xs T.x_InvalidNumber hr (by exact (pa_cons (pv 1) pa_nil))))) pss_nil)
      (pss_one (ps_ret (Sm.pe_fn G_lowest hr (pa_cons (pv 0) (pa_cons (pv 1) pa_nil))))))), ?_⟩
  rw [st_worth]
  cases d with
  | int t =>
    cases hd
    by_cases hb : (t.natAbs : Int) < BW
    · have hw : wholeOk (.int t) = true := decide_eq_true hb
      have hw1 : isWhole (.int t) = true := rfl
      cases e with
      | int b =>
        cases he
        have hb1 : isWhole (.int b) = true := rfl
        by_cases h0 : b = 0
        · have hx : bottomOk (.int b) = false := by
            show (!decide (b = 0) && _) = false
            rw [decide_eq_true h0]
            rfl
          repeat' wtm_at "st"
          exact h2 hw hx _ _ (by wtm_at "sm") (by assumption)
        by_cases hc : (b.natAbs : Int) < BW
        · have hx : bottomOk (.int b) = true := by
            show (!decide (b = 0) && decide _) = true
            rw [decide_eq_false h0, decide_eq_true hc]
            rfl
          obtain ⟨t', b', e1, e2, hb0, hz, hq⟩ := h3 hw hx
          cases e1
          cases e2
          repeat' wtm_at "st"
          exact hq _ _ (by wtm_at "sm") (by assumption)
        · have hx : bottomOk (.int b) = false := by
            show (!decide (b = 0) && decide _) = false
            rw [decide_eq_false hc, Bool.and_false]
          repeat' wtm_at "st"
          exact h2 hw hx _ _ (by wtm_at "sm") (by assumption)
      | _ =>
        repeat' wtm_at "st"
        all_goals first | exact h2 hw rfl _ _ (by wtm_at "sm") (by assumption) | cases (by assumption : isWhole _ = true)
    · have hw : wholeOk (.int t) = false := decide_eq_false hb
      have hw1 : isWhole (.int t) = true := rfl
      repeat' wtm_at "st"
      exact h1 hw _ _ (by wtm_at "sm") (by assumption)
  | _ =>
    repeat' wtm_at "st"
    all_goals first | exact h1 rfl _ _ (by wtm_at "sm") (by assumption) | cases (by assumption : isWhole _ = true)
end
section
variable {P : Program} {w : World} {K : PySem.W.Frag} {mg : Str → Option Value} {base : Heap} {f : Addr} {fd : FuncData}
theorem ok_sum_in (T : Txt P K mg) (F : FD K "sum_in" s_sum_in f fd) (G_lowest : Sm.Fn P w K mg base 2 "lowest" P_lowest (sp_lowest K))  : FnOk P w K mg base (L2.CX P w) 3 f fd P_sum_in (sp_sum_in K) := by
  refine F.ok sc_sum_in (fun vs H Q E h => ?_) (fun cdv A outer s H vs Q E hr h => ?_)
  · obtain ⟨x, y, d, e, n, m, rfl, _⟩ := h
    rfl
  obtain ⟨x, y, d, e, n, m, rfl, hd, he, fd, fe, hz, hq⟩ := h
  refine ⟨_, (pss_cons (ps_if (PW.pt (pw_or (pt_cmpR Sm.op_isU (pv 0) pe_non (nomark _)) (pw_or1 (pt_cmpR Sm.op_isU (pv 1) pe_non (nomark _))))) (pss_one (ps_ret (pe_ifExp (pt_cmpR Sm.op_isU (pv 0) pe_non (nomark _)) (pv 1) (pv 0)))) pss_nil)
      (pss_cons (ps_if (pt_cmpR (Sm.op_eqU hr) (pe_ix ix_seq (pv 0) pe_int (fun _ _ => rfl)) (pe_ix ix_seq (pv 1) pe_int (fun _ _ => rfl)) (nomark _)) (pss_one (ps_ret (Sm.pe_fn G_lowest hr (pa_cons (pe_op Sm.op_addU (pe_ix ix_seq (pv 0) pe_int (fun _ _ => rfl)) (pe_ix ix_seq (pv 1) pe_int (fun _ _ => rfl))) (pa_cons (pe_ix ix_seq (pv 0) pe_int (fun _ _ => rfl)) pa_nil))))) pss_nil)
      (pss_one (ps_ret (Sm.pe_fn G_lowest hr (pa_cons (pe_op Sm.op_addU (pe_op Sm.op_mulU (pe_ix ix_seq (pv 0) pe_int (fun _ _ => rfl)) (pe_ix ix_seq (pv 1) pe_int (fun _ _ => rfl))) (pe_op Sm.op_mulU (pe_ix ix_seq (pv 1) pe_int (fun _ _ => rfl)) (pe_ix ix_seq (pv 0) pe_int (fun _ _ => rfl)))) (pa_cons (pe_op Sm.op_mulU (pe_ix ix_seq (pv 0) pe_int (fun _ _ => rfl)) (pe_ix ix_seq (pv 1) pe_int (fun _ _ => rfl))) pa_nil))))))), ?_⟩
  rw [st_sum_in]
  rcases fd with rfl | ⟨a, b, rfl, fd⟩
  · cases hd
    rcases fe with rfl | ⟨c, f, rfl, fe⟩
    · cases he
      repeat' wtm_at "st"
      exact hq _ _ (by wtm_at "sm") .non
    · obtain ⟨q, rfl, hq2⟩ := Sm.dp_pair_inv he
      repeat' wtm_at "st"
      exact hq _ _ (by wtm_at "sm") (by wtm_at "at")
  · obtain ⟨p, rfl, hp2⟩ := Sm.dp_pair_inv hd
    rcases fe with rfl | ⟨c, f, rfl, fe⟩
    · cases he
      repeat' wtm_at "st"
      exact hq _ _ (by wtm_at "sm") (by wtm_at "at")
    · obtain ⟨q, rfl, hq2⟩ := Sm.dp_pair_inv he
      obtain ⟨b1, ag, an, bn⟩ := fd
      obtain ⟨f1, cg, cn, fn⟩ := fe
      have m1 : IntMulOk a f := mulF an fn hz
      have m2 : IntMulOk c b := mulF cn bn (by omega)
      have m3 : IntMulOk b f := mulF bn fn hz
      have hbf : b * f ≠ 0 := fun z => by rcases Int.mul_eq_zero.mp z with z | z <;> omega
      have hb0 : b ≠ 0 := by omega
      have s1 : (a + c).natAbs < 2 ^ 13000 ∧ b.natAbs < 2 ^ 13000 := ⟨pow_up (add_lt (n := n + m) (pow_up an (by omega)) (pow_up cn (by omega))) (by omega), pow_up bn (by omega)⟩
      have s2 : (a * f + c * b).natAbs < 2 ^ 13000 ∧ (b * f).natAbs < 2 ^ 13000 := ⟨pow_up (add_lt (n := n + m) (mul_lt an fn) (by rw [Nat.add_comm]; exact mul_lt cn bn)) (by omega), pow_up (mul_lt bn fn) (by omega)⟩
      repeat' wtm_at "st"
      · rename_i h _ _ _ hd
        refine hq _ _ (by wtm_at "sm") ?_
        rw [low2_same hb0] at hd
        subst h
        exact hd
      · exact hq _ _ (by wtm_at "sm") (by wtm_at "at")
end
section
variable {P : Program} {w : World} {K : PySem.W.Frag} {mg : Str → Option Value} {base : Heap} {f : Addr} {fd : FuncData}
theorem ok_difference_in (T : Txt P K mg) (F : FD K "difference_in" s_difference_in f fd) (G_sum_in : Sm.Fn P w K mg base 3 "sum_in" P_sum_in (sp_sum_in K))  : FnOk P w K mg base (L2.CX P w) 4 f fd P_difference_in (sp_difference_in K) := by
  refine F.ok sc_difference_in (fun vs H Q E h => ?_) (fun cdv A outer s H vs Q E hr h => ?_)
  · obtain ⟨x, y, d, e, n, m, rfl, _⟩ := h
    rfl
  obtain ⟨x, y, d, e, n, m, rfl, hd, he, fd, fe, hz, hq⟩ := h
  refine ⟨_, (pss_one (ps_ret (Sm.pe_fn G_sum_in hr (pa_cons (pv 0) (pa_cons (pe_ifExp (pt_cmpR Sm.op_isU (pv 1) pe_non (nomark _)) pe_non (pe_tup (pa_cons (pe_un un_neg (pe_ix ix_seq (pv 1) pe_int (fun _ _ => rfl))) (pa_cons (pe_ix ix_seq (pv 1) pe_int (fun _ _ => rfl)) pa_nil)))) pa_nil))))), ?_⟩
  rw [st_difference_in]
  have ff := neg_fr fe
  rcases fe with rfl | ⟨c, f, rfl, fe⟩
  · cases he
    repeat' wtm_at "st"
    exact hq _ _ (by wtm_at "sm") (by assumption)
  · obtain ⟨q, rfl, hq2⟩ := Sm.dp_pair_inv he
    repeat' wtm_at "st"
    exact hq _ _ (by wtm_at "sm") (by assumption)
end
section
variable {P : Program} {w : World} {K : PySem.W.Frag} {mg : Str → Option Value} {base : Heap} {f : Addr} {fd : FuncData}
theorem ok_product_in (T : Txt P K mg) (F : FD K "product_in" s_product_in f fd) (G_lowest : Sm.Fn P w K mg base 2 "lowest" P_lowest (sp_lowest K))  : FnOk P w K mg base (L2.CX P w) 3 f fd P_product_in (sp_product_in K) := by
  refine F.ok sc_product_in (fun vs H Q E h => ?_) (fun cdv A outer s H vs Q E hr h => ?_)
  · obtain ⟨x, y, d, e, n, m, rfl, _⟩ := h
    rfl
  obtain ⟨x, y, d, e, n, m, rfl, hd, he, fd, fe, hz, hq⟩ := h
  refine ⟨_, (pss_cons (ps_if (PW.pt (pw_or (pt_cmpR Sm.op_isU (pv 0) pe_non (nomark _)) (pw_or1 (pt_cmpR Sm.op_isU (pv 1) pe_non (nomark _))))) (pss_one (ps_ret pe_non)) pss_nil)
      (pss_one (ps_ret (Sm.pe_fn G_lowest hr (pa_cons (pe_op Sm.op_mulU (pe_ix ix_seq (pv 0) pe_int (fun _ _ => rfl)) (pe_ix ix_seq (pv 1) pe_int (fun _ _ => rfl))) (pa_cons (pe_op Sm.op_mulU (pe_ix ix_seq (pv 0) pe_int (fun _ _ => rfl)) (pe_ix ix_seq (pv 1) pe_int (fun _ _ => rfl))) pa_nil)))))), ?_⟩
  rw [st_product_in]
  rcases fd with rfl | ⟨a, b, rfl, fd⟩
  · cases hd
    repeat' wtm_at "st"
    exact hq _ _ (by wtm_at "sm") .non
  · obtain ⟨p, rfl, hp2⟩ := Sm.dp_pair_inv hd
    rcases fe with rfl | ⟨c, f, rfl, fe⟩
    · cases he
      repeat' wtm_at "st"
      exact hq _ _ (by wtm_at "sm") .non
    · obtain ⟨q, rfl, hq2⟩ := Sm.dp_pair_inv he
      obtain ⟨b1, ag, an, bn⟩ := fd
      obtain ⟨f1, cg, cn, fn⟩ := fe
      have m1 : IntMulOk a c := mulF an cn hz
      have m3 : IntMulOk b f := mulF bn fn hz
      have hbf : b * f ≠ 0 := fun z => by rcases Int.mul_eq_zero.mp z with z | z <;> omega
      have s2 : (a * c).natAbs < 2 ^ 13000 ∧ (b * f).natAbs < 2 ^ 13000 := ⟨pow_up (mul_lt an cn) (by omega), pow_up (mul_lt bn fn) (by omega)⟩
      repeat' wtm_at "st"
      exact hq _ _ (by wtm_at "sm") (by wtm_at "at")
end
section
variable {P : Program} {w : World} {K : PySem.W.Frag} {mg : Str → Option Value} {base : Heap} {f : Addr} {fd : FuncData}
theorem ok_quotient_in (T : Txt P K mg) (F : FD K "quotient_in" s_quotient_in f fd) (G_lowest : Sm.Fn P w K mg base 2 "lowest" P_lowest (sp_lowest K))  : FnOk P w K mg base (L2.CX P w) 3 f fd P_quotient_in (sp_quotient_in K) := by
  refine F.ok sc_quotient_in (fun vs H Q E h => ?_) (fun cdv A outer s H vs Q E hr h => ?_)
  · obtain ⟨x, y, d, e, n, m, rfl, _⟩ := h
    rfl
  obtain ⟨x, y, d, e, n, m, rfl, hd, he, fd, fe, hz, h0, hq⟩ := h
  refine ⟨_, (pss_cons (ps_if (PW.pt (pw_or (pt_cmpR Sm.op_isU (pv 0) pe_non (nomark _)) (pw_or1 (pt_cmpR Sm.op_isU (pv 1) pe_non (nomark _))))) (pss_one (ps_ret pe_non)) pss_nil)
      (pss_one (ps_ret (Sm.pe_fn G_lowest hr (pa_cons (pe_op Sm.op_mulU (pe_ix ix_seq (pv 0) pe_int (fun _ _ => rfl)) (pe_ix ix_seq (pv 1) pe_int (fun _ _ => rfl))) (pa_cons (pe_op Sm.op_mulU (pe_ix ix_seq (pv 0) pe_int (fun _ _ => rfl)) (pe_ix ix_seq (pv 1) pe_int (fun _ _ => rfl))) pa_nil)))))), ?_⟩
  rw [st_quotient_in]
  rcases fd with rfl | ⟨a, b, rfl, fd⟩
  · cases hd
    repeat' wtm_at "st"
    exact hq _ _ (by wtm_at "sm") .non
  · obtain ⟨p, rfl, hp2⟩ := Sm.dp_pair_inv hd
    rcases fe with rfl | ⟨c, f, rfl, fe⟩
    · cases he
      repeat' wtm_at "st"
      exact hq _ _ (by wtm_at "sm") .non
    · obtain ⟨q, rfl, hq2⟩ := Sm.dp_pair_inv he
      have hc : c ≠ 0 := fun z => h0 (fun z => by cases z) f (by rw [z])
      obtain ⟨b1, ag, an, bn⟩ := fd
      obtain ⟨f1, cg, cn, fn⟩ := fe
      have m1 : IntMulOk a f := mulF an fn hz
      have m3 : IntMulOk b c := mulF bn cn hz
      have hbf : b * c ≠ 0 := fun z => by rcases Int.mul_eq_zero.mp z with z | z <;> omega
      have s2 : (a * f).natAbs < 2 ^ 13000 ∧ (b * c).natAbs < 2 ^ 13000 := ⟨pow_up (mul_lt an fn) (by omega), pow_up (mul_lt bn cn) (by omega)⟩
      repeat' wtm_at "st"
      exact hq _ _ (by wtm_at "sm") (by wtm_at "at")
end
section
variable {P : Program} {w : World} {K : PySem.W.Frag} {mg : Str → Option Value} {base : Heap} {f : Addr} {fd : FuncData}
theorem ok_is_below_in (T : Txt P K mg) (F : FD K "is_below_in" s_is_below_in f fd)   : FnOk P w K mg base (L2.CX P w) 1 f fd P_is_below_in (sp_is_below_in K) := by
  refine F.ok sc_is_below_in (fun vs H Q E h => ?_) (fun cdv A outer s H vs Q E hr h => ?_)
  · obtain ⟨x, y, a, b, c, f, n, m, rfl, _⟩ := h
    rfl
  obtain ⟨x, y, a, b, c, f, n, m, rfl, hd, he, fd, fe, hz, hq⟩ := h
  refine ⟨_, (pss_one (ps_ret (pe_cmpR op_lt (pe_op Sm.op_mulU (pe_ix ix_seq (pv 0) pe_int (fun _ _ => rfl)) (pe_ix ix_seq (pv 1) pe_int (fun _ _ => rfl))) (pe_op Sm.op_mulU (pe_ix ix_seq (pv 1) pe_int (fun _ _ => rfl)) (pe_ix ix_seq (pv 0) pe_int (fun _ _ => rfl))) (nomark _)))), ?_⟩
  rw [st_is_below_in]
  obtain ⟨p, rfl, hp2⟩ := Sm.dp_pair_inv hd
  obtain ⟨q, rfl, hq2⟩ := Sm.dp_pair_inv he
  have m1 : IntMulOk a f := mulF fd.2.2.1 fe.2.2.2 hz
  have m3 : IntMulOk c b := mulF fe.2.2.1 fd.2.2.2 (by omega)
  repeat' wtm_at "st"
  exact hq _ (by wtm_at "sm")
end
section
variable {P : Program} {w : World} {K : PySem.W.Frag} {mg : Str → Option Value} {base : Heap} {f : Addr} {fd : FuncData}
theorem ok_is_great_in (T : Txt P K mg) (F : FD K "is_great_in" s_is_great_in f fd)   : FnOk P w K mg base (L2.CX P w) 1 f fd P_is_great_in (sp_is_great_in K) := by
  refine F.ok sc_is_great_in (fun vs H Q E h => ?_) (fun cdv A outer s H vs Q E hr h => ?_)
  · obtain ⟨x, d, n, rfl, _⟩ := h
    rfl
  obtain ⟨x, d, n, rfl, hd, fd, hq⟩ := h
  refine ⟨_, (pss_one (ps_ret (pe_and (pe_cmpR Sm.op_nisU (pv 0) pe_non (nomark _)) (pe_one (pe_or (pe_cmpR op_ge (pe_callB Sm.call_absU rfl T.f_abs (by decide +kernel) (pa_cons (pe_ix ix_seq (pv 0) pe_int (fun _ _ => rfl)) pa_nil)) (Sm.pe_gi T.c_GREAT) (nomark _)) (pe_one (pe_cmpR op_ge (pe_ix ix_seq (pv 0) pe_int (fun _ _ => rfl)) (Sm.pe_gi T.c_GREAT) (nomark _)))))))), ?_⟩
  rw [st_is_great_in]
  rcases fd with rfl | ⟨a, b, rfl, fd⟩
  · cases hd
    repeat' wtm_at "st"
    exact hq _ (by wtm_at "sm")
  · obtain ⟨p, rfl, hp2⟩ := Sm.dp_pair_inv hd
    repeat' wtm_at "st"
    all_goals (refine Sm.fin (hq _ (by wtm_at "sm")) (congrArg V.bl ?_); simp_all [great, wD]; try (intros; omega))
end
section
variable {P : Program} {w : World} {K : PySem.W.Frag} {mg : Str → Option Value} {base : Heap} {f : Addr} {fd : FuncData}
theorem ok_plus (T : Txt P K mg) (F : FD K "plus" s_plus f fd) (G_require_operand : Sm.Fn P w K mg base 5 "require_operand" P_require_operand (sp_require_operand K)) (G_sum_in : Sm.Fn P w K mg base 3 "sum_in" P_sum_in (sp_sum_in K))  : FnOk P w K mg base (L2.CX P w) 6 f fd P_plus (sp_plus K) := by
  refine F.ok sc_plus (fun vs H Q E h => ?_) (fun cdv A outer s H vs Q E hr h => ?_)
  · obtain ⟨x, y, d, e, rfl, _⟩ := h
    rfl
  obtain ⟨x, y, d, e, rfl, hd, he, ho, hb⟩ := h
  refine ⟨_, (pss_cons (ps_expr (Sm.pe_fnE G_require_operand hr (pa_cons (pv 0) pa_nil) (Sm.passE rfl rfl rfl rfl)))
      (pss_cons (ps_expr (Sm.pe_fnE G_require_operand hr (pa_cons (pv 1) pa_nil) (Sm.passE rfl rfl rfl rfl)))
      (pss_one (ps_ret (Sm.pe_fn G_sum_in hr (pa_cons (pv 0) (pa_cons (pv 1) pa_nil))))))), ?_⟩
  rw [st_plus]
  by_cases h1 : okOp d = true
  · by_cases h2 : okOp e = true
    · obtain ⟨n, m, fd, fe, hz, hq⟩ := ho h1 h2
      repeat' wtm_at "st"
      exact hq _ _ (by wtm_at "sm") (by assumption)
    · have h2' : okOp e = false := by simpa using h2
      have hr' := hb (.inr h2')
      repeat' wtm_at "st"
  · have h1' : okOp d = false := by simpa using h1
    have hr' := hb (.inl h1')
    repeat' wtm_at "st"
end
section
variable {P : Program} {w : World} {K : PySem.W.Frag} {mg : Str → Option Value} {base : Heap} {f : Addr} {fd : FuncData}
theorem ok_minus (T : Txt P K mg) (F : FD K "minus" s_minus f fd) (G_require_operand : Sm.Fn P w K mg base 5 "require_operand" P_require_operand (sp_require_operand K)) (G_difference_in : Sm.Fn P w K mg base 4 "difference_in" P_difference_in (sp_difference_in K))  : FnOk P w K mg base (L2.CX P w) 6 f fd P_minus (sp_minus K) := by
  refine F.ok sc_minus (fun vs H Q E h => ?_) (fun cdv A outer s H vs Q E hr h => ?_)
  · obtain ⟨x, y, d, e, rfl, _⟩ := h
    rfl
  obtain ⟨x, y, d, e, rfl, hd, he, ho, hb⟩ := h
  refine ⟨_, (pss_cons (ps_expr (Sm.pe_fnE G_require_operand hr (pa_cons (pv 0) pa_nil) (Sm.passE rfl rfl rfl rfl)))
      (pss_cons (ps_expr (Sm.pe_fnE G_require_operand hr (pa_cons (pv 1) pa_nil) (Sm.passE rfl rfl rfl rfl)))
      (pss_one (ps_ret (Sm.pe_fn G_difference_in hr (pa_cons (pv 0) (pa_cons (pv 1) pa_nil))))))), ?_⟩
  rw [st_minus]
  by_cases h1 : okOp d = true
  · by_cases h2 : okOp e = true
    · obtain ⟨n, m, fd, fe, hz, hq⟩ := ho h1 h2
      repeat' wtm_at "st"
      exact hq _ _ (by wtm_at "sm") (by assumption)
    · have h2' : okOp e = false := by simpa using h2
      have hr' := hb (.inr h2')
      repeat' wtm_at "st"
  · have h1' : okOp d = false := by simpa using h1
    have hr' := hb (.inl h1')
    repeat' wtm_at "st"
end
section
variable {P : Program} {w : World} {K : PySem.W.Frag} {mg : Str → Option Value} {base : Heap} {f : Addr} {fd : FuncData}
theorem ok_times (T : Txt P K mg) (F : FD K "times" s_times f fd) (G_require_operand : Sm.Fn P w K mg base 5 "require_operand" P_require_operand (sp_require_operand K)) (G_product_in : Sm.Fn P w K mg base 3 "product_in" P_product_in (sp_product_in K))  : FnOk P w K mg base (L2.CX P w) 6 f fd P_times (sp_times K) := by
  refine F.ok sc_times (fun vs H Q E h => ?_) (fun cdv A outer s H vs Q E hr h => ?_)
  · obtain ⟨x, y, d, e, rfl, _⟩ := h
    rfl
  obtain ⟨x, y, d, e, rfl, hd, he, ho, hb⟩ := h
  refine ⟨_, (pss_cons (ps_expr (Sm.pe_fnE G_require_operand hr (pa_cons (pv 0) pa_nil) (Sm.passE rfl rfl rfl rfl)))
      (pss_cons (ps_expr (Sm.pe_fnE G_require_operand hr (pa_cons (pv 1) pa_nil) (Sm.passE rfl rfl rfl rfl)))
      (pss_one (ps_ret (Sm.pe_fn G_product_in hr (pa_cons (pv 0) (pa_cons (pv 1) pa_nil))))))), ?_⟩
  rw [st_times]
  by_cases h1 : okOp d = true
  · by_cases h2 : okOp e = true
    · obtain ⟨n, m, fd, fe, hz, hq⟩ := ho h1 h2
      repeat' wtm_at "st"
      exact hq _ _ (by wtm_at "sm") (by assumption)
    · have h2' : okOp e = false := by simpa using h2
      have hr' := hb (.inr h2')
      repeat' wtm_at "st"
  · have h1' : okOp d = false := by simpa using h1
    have hr' := hb (.inl h1')
    repeat' wtm_at "st"
end
section
variable {P : Program} {w : World} {K : PySem.W.Frag} {mg : Str → Option Value} {base : Heap} {f : Addr} {fd : FuncData}
theorem ok_over (T : Txt P K mg) (F : FD K "over" s_over f fd) (G_require_operand : Sm.Fn P w K mg base 5 "require_operand" P_require_operand (sp_require_operand K)) (G_quotient_in : Sm.Fn P w K mg base 3 "quotient_in" P_quotient_in (sp_quotient_in K))  : FnOk P w K mg base (L2.CX P w) 6 f fd P_over (sp_over K) := by
  refine F.ok sc_over (fun vs H Q E h => ?_) (fun cdv A outer s H vs Q E hr h => ?_)
  · obtain ⟨x, y, d, e, rfl, _⟩ := h
    rfl
  obtain ⟨x, y, d, e, rfl, hd, he, ho, hb⟩ := h
  refine ⟨_, (pss_cons (ps_expr (Sm.pe_fnE G_require_operand hr (pa_cons (pv 0) pa_nil) (Sm.passE rfl rfl rfl rfl)))
      (pss_cons (ps_expr (Sm.pe_fnE G_require_operand hr (pa_cons (pv 1) pa_nil) (Sm.passE rfl rfl rfl rfl)))
      (pss_cons (ps_if (PW.pt (pw_and (pt_cmpR Sm.op_nisU (pv 0) pe_non (nomark _)) (pw_and1 (pt_cmpR (Sm.op_eqU hr) (pv 1) (Sm.pe_gr T.g_ZERO) (nomark _))))) (pss_one (ps_raise rfl (takes_of rfl rfl rfl rfl) (Sm.pmk_xs T.x_Refused hr (by exact (pa_cons (pe_tup (pa_cons pe_str pa_nil)) pa_nil))))) pss_nil)
      (pss_one (ps_ret (Sm.pe_fn G_quotient_in hr (pa_cons (pv 0) (pa_cons (pv 1) pa_nil)))))))), ?_⟩
  rw [st_over]
  by_cases h1 : okOp d = true
  · by_cases h2 : okOp e = true
    · obtain ⟨n, m, fd, fe, hz, hx, hq⟩ := ho h1 h2
      have hZ := T.t_ZERO
      rcases fd with rfl | ⟨a, b, rfl, fd⟩
      · cases hd
        have hq' := hq (fun z => absurd rfl z)
        have f1 : FrD n .none := .inl rfl
        have h0 : PyData.none ≠ .none → ∀ z, e ≠ wD (0, z) := fun z => absurd rfl z
        repeat' wtm_at "st"
        exact hq' _ _ (by wtm_at "sm") (by assumption)
      obtain ⟨p, rfl, hp⟩ := Sm.dp_pair_inv hd
      have f1 : FrD n (wD (a, b)) := .inr ⟨a, b, rfl, fd⟩
      have hne : wD (a, b) ≠ .none := fun z => by cases z
      have hdZ : ∀ H, Dp K H (.ref (He.ga K "ZERO")) (wD (0, 1)) := fun H => .tup (hZ H) (.cons (.int 0) (.cons (.int 1) .nil))
      have hdZ0 := hdZ H
      have sZ : SeqAt.shaped (wD (0, 1)) = true := rfl
      have se : SeqAt.shaped e = true := by rcases fe with rfl | ⟨c, f, rfl, _⟩ <;> rfl
      by_cases hz1 : e = wD (0, 1)
      · have hev : PyData.eqv e (wD (0, 1)) = true := by rw [hz1]; exact eqv_w 0 1
        repeat' wtm_at "st"
        rename_i H1 hs1 H2 hs2 p3 H3 hn3 he3 hp3 d4 H4 he4 hd4
        exact (hx hne hz1 p3 H3 (by wtm_at "sm") hp3) d4 H4 he4 hd4
      · have hev : PyData.eqv e (wD (0, 1)) = false := by
          rcases fe with rfl | ⟨c, f, rfl, fe⟩
          · rfl
          · rw [eqv_wD]
            exact decide_eq_false fun z => fr_zero fe hz1 z.1
        have hq' := hq fun _ => hz1
        have h0 : wD (a, b) ≠ .none → ∀ z, e ≠ wD (0, z) := fun _ z y => by
          rcases fe with rfl | ⟨c, f, rfl, fe⟩
          · cases y
          · have z0 := fr_zero fe hz1
            injection y with y
            injection y with y
            injection y with y
            exact z0 y
        repeat' wtm_at "st"
        exact hq' _ _ (by wtm_at "sm") (by assumption)
    · have h2' : okOp e = false := by simpa using h2
      have hr' := hb (.inr h2')
      repeat' wtm_at "st"
  · have h1' : okOp d = false := by simpa using h1
    have hr' := hb (.inl h1')
    repeat' wtm_at "st"
end
section
variable {P : Program} {w : World} {K : PySem.W.Frag} {mg : Str → Option Value} {base : Heap} {f : Addr} {fd : FuncData}
theorem ok_is_below (T : Txt P K mg) (F : FD K "is_below" s_is_below f fd) (G_require_worth : Sm.Fn P w K mg base 4 "require_worth" P_require_worth (sp_require_worth K)) (G_is_below_in : Sm.Fn P w K mg base 1 "is_below_in" P_is_below_in (sp_is_below_in K))  : FnOk P w K mg base (L2.CX P w) 5 f fd P_is_below (sp_is_below K) := by
  refine F.ok sc_is_below (fun vs H Q E h => ?_) (fun cdv A outer s H vs Q E hr h => ?_)
  · obtain ⟨x, y, d, e, rfl, _⟩ := h
    rfl
  obtain ⟨x, y, d, e, rfl, hd, he, hq, hb⟩ := h
  refine ⟨_, (pss_cons (ps_expr (Sm.pe_fnE G_require_worth hr (pa_cons (pv 0) pa_nil) (Sm.passE rfl rfl rfl rfl)))
      (pss_cons (ps_expr (Sm.pe_fnE G_require_worth hr (pa_cons (pv 1) pa_nil) (Sm.passE rfl rfl rfl rfl)))
      (pss_one (ps_ret (Sm.pe_fn G_is_below_in hr (pa_cons (pv 0) (pa_cons (pv 1) pa_nil))))))), ?_⟩
  rw [st_is_below]
  by_cases h1 : isLong d = true
  · by_cases h2 : isLong e = true
    · obtain ⟨a, b, c, f, n, m, rfl, rfl, fd, fe, hz, hq⟩ := hq h1 h2
      repeat' wtm_at "st"
      exact hq _ (by wtm_at "sm")
    · have h2' : isLong e = false := by simpa using h2
      have hr' := hb (.inr h2')
      repeat' wtm_at "st"
  · have h1' : isLong d = false := by simpa using h1
    have hr' := hb (.inl h1')
    repeat' wtm_at "st"
end
section
variable {P : Program} {w : World} {K : PySem.W.Frag} {mg : Str → Option Value} {base : Heap} {f : Addr} {fd : FuncData}
theorem ok_is_great (T : Txt P K mg) (F : FD K "is_great" s_is_great f fd) (G_require_worth : Sm.Fn P w K mg base 4 "require_worth" P_require_worth (sp_require_worth K)) (G_is_great_in : Sm.Fn P w K mg base 1 "is_great_in" P_is_great_in (sp_is_great_in K))  : FnOk P w K mg base (L2.CX P w) 5 f fd P_is_great (sp_is_great K) := by
  refine F.ok sc_is_great (fun vs H Q E h => ?_) (fun cdv A outer s H vs Q E hr h => ?_)
  · obtain ⟨x, d, rfl, _⟩ := h
    rfl
  obtain ⟨x, d, rfl, hd, hq, hb⟩ := h
  refine ⟨_, (pss_cons (ps_expr (Sm.pe_fnE G_require_worth hr (pa_cons (pv 0) pa_nil) (Sm.passE rfl rfl rfl rfl)))
      (pss_one (ps_ret (Sm.pe_fn G_is_great_in hr (pa_cons (pv 0) pa_nil))))), ?_⟩
  rw [st_is_great]
  by_cases h1 : isLong d = true
  · obtain ⟨n, fd, hq⟩ := hq h1
    repeat' wtm_at "st"
    exact hq _ (by wtm_at "sm")
  · have h1' : isLong d = false := by simpa using h1
    have hr' := hb h1'
    repeat' wtm_at "st"
end
section
variable {P : Program} {w : World} {K : PySem.W.Frag} {mg : Str → Option Value} {base : Heap} {f : Addr} {fd : FuncData}
theorem ok_is_weighted_pair (T : Txt P K mg) (F : FD K "is_weighted_pair" s_is_weighted_pair f fd) (G_is_long_worth : Sm.Fn P w K mg base 3 "is_long_worth" P_is_long_worth (sp_is_long_worth K))  : FnOk P w K mg base (L2.CX P w) 4 f fd P_is_weighted_pair (sp_is_weighted_pair K) := by
  refine F.ok sc_is_weighted_pair (fun vs H Q E h => ?_) (fun cdv A outer s H vs Q E hr h => ?_)
  · obtain ⟨x, d, rfl, _⟩ := h
    rfl
  obtain ⟨x, d, rfl, hd, hq⟩ := h
  refine ⟨_, (pss_cons (ps_if (PW.pt (pw_or (pt_not (pt_truth (pe_callB call_isi rfl T.f_isinstance (by decide +kernel) (pa_cons (pv 0) (pa_cons (Sm.pe_ty (n := "tuple") T.f_tuple (by decide +kernel)) pa_nil))) (by intro _; rfl))) (pw_or (pt_cmpR (Sm.op_neU hr) (pe_callB Sm.call_lenU rfl T.f_len (by decide +kernel) (pa_cons (pv 0) pa_nil)) pe_int (nomark _)) (pw_or1 (pt_not (pt_truth (Sm.pe_fn G_is_long_worth hr (pa_cons (pe_ix ix_seq (pv 0) pe_int (fun _ _ => rfl)) pa_nil)) (by intro _; rfl))))))) (pss_one (ps_ret pe_bl)) pss_nil)
      (pss_one (ps_ret (pe_or (pe_cmpR Sm.op_isU (pe_ix ix_seq (pv 0) pe_int (fun _ _ => rfl)) pe_non (nomark _)) (pe_one (Sm.pe_fn G_is_long_worth hr (pa_cons (pe_ix ix_seq (pv 0) pe_int (fun _ _ => rfl)) pa_nil))))))), ?_⟩
  rw [st_is_weighted_pair]
  cases hd with
  | tup h r =>
    rcases r with _ | ⟨h0, r⟩
    · repeat' wtm_at "st"
      all_goals exact hq _ (Same.refl _)
    rcases r with _ | ⟨h1, r⟩
    · repeat' wtm_at "st"
      all_goals exact hq _ (Same.refl _)
    rcases r with _ | ⟨h2, r⟩
    · rename_i x0 d0 x1 d1
      by_cases hn : d1 = .none
      · subst hn
        cases h1
        repeat' wtm_at "st"
        all_goals (refine Sm.fin (hq _ (by wtm_at "sm")) (congrArg V.bl ?_))
        all_goals simp_all [isPair_2, okOp]
      · have hx1 : x1 ≠ .non := fun z => by
          subst z
          cases h1
          exact hn rfl
        have ho := okOp_of hn
        have hdx : decide (x1 = .non) = false := decide_eq_false hx1
        have hor : ∀ H' (R : VK), R (.bl false) H' → Sm.rIsN x1 .non H' R := fun H' R r => ⟨rfl, by rw [hdx]; exact r⟩
        by_cases hl : isLong d0 = true
        · repeat' wtm_at "st"
          exact Sm.fin (hq _ (by wtm_at "sm")) (congrArg V.bl (by rw [isPair_2, hl, ho, Bool.true_and]))
        · have hl' : isLong d0 = false := by simpa using hl
          repeat' wtm_at "st"
          exact Sm.fin (hq _ (by wtm_at "sm")) (congrArg V.bl (by rw [isPair_2, hl', Bool.false_and]))
    · repeat' wtm_at "st"
      all_goals exact hq _ (Same.refl _)
  | _ =>
    repeat' wtm_at "st"
    all_goals exact hq _ (Same.refl _)
end
section
variable {P : Program} {w : World} {K : PySem.W.Frag} {mg : Str → Option Value} {base : Heap} {f : Addr} {fd : FuncData}
theorem ok__law_dice (T : Txt P K mg) (F : FD K "_law_dice" s__law_dice f fd)   : FnOk P w K mg base (L2.CX P w) 1 f fd P__law_dice (sp__law_dice K) := by
  refine F.ok sc__law_dice (fun vs H Q E h => ?_) (fun cdv A outer s H vs Q E hr h => ?_)
  · obtain ⟨p, ns, i, rfl, _⟩ := h
    rfl
  obtain ⟨p, ns, i, rfl, hp, hq⟩ := h
  refine ⟨_, (pss_cons (ps_set (i := 2) sc__law_dice.nd rfl (Or.inl rfl) (pe_op Sm.op_addU (pe_op Sm.op_mulU pe_int (pv 1)) pe_int))
      (pss_cons (ps_if (pt_cmpR op_lt (pv 1) (pe_callB Sm.call_lenU rfl T.f_len (by decide +kernel) (pa_cons (pv 0) pa_nil)) (nomark _)) (pss_one (ps_set (i := 2) sc__law_dice.nd rfl (Or.inl rfl) (pe_ix ix_seq (pv 0) (pv 1) (fun _ _ => rfl)))) pss_nil)
      (pss_cons (ps_set (i := 3) sc__law_dice.nd rfl (Or.inl rfl) (pe_op op_modN (pe_callTy Sm.call_intU rfl T.f_int (by decide +kernel) (pa_cons (pe_callB Sm.call_absU rfl T.f_abs (by decide +kernel) (pa_cons (pv 2) pa_nil)) pa_nil)) (pe_op Sm.op_powW (pe_op Sm.op_powW pe_int pe_int) pe_int)))
      (pss_cons (ps_set (i := 4) sc__law_dice.nd rfl (Or.inl rfl) (pe_op Sm.op_fdivU (pv 3) (pe_op Sm.op_powW pe_int pe_int)))
      (pss_cons (ps_set (i := 5) sc__law_dice.nd rfl (Or.inl rfl) (pe_op Sm.op_addU (pe_op Sm.op_addU (pe_op Sm.op_addU (pe_op Sm.op_mulU (pe_op op_modN (pv 3) pe_int) pe_int) (pe_op Sm.op_mulU pe_int (pv 1))) (pe_op Sm.op_mulU pe_int (pe_callTy Sm.call_intU rfl T.f_int (by decide +kernel) (pa_cons (pe_cmpR op_lt (pv 2) pe_int (nomark _)) pa_nil)))) pe_int))
      (pss_one (ps_ret (pe_lst (pa_cons (pv 4) (pa_cons (pe_op op_modN (pv 5) pe_int) (pa_cons pe_int pa_nil))))))))))), ?_⟩
  rw [st__law_dice]
  have hpy : ∀ i : Int, Builtin.divisionGoesByPylong i (10 ^ 18) = false := fun i => Sm.pyB (b := 60) (by decide +kernel) (by decide) (by decide)
  by_cases hi : i < ns.length
  · have hat : atI (ns.map V.int) (i : Int) = some (.int ns[i]) := atI_nat (by rw [List.getElem?_map, List.getElem?_eq_getElem hi]; rfl)
    have hlt : (i : Int) < ((ns.map V.int).length : Nat) := by rw [List.length_map]; omega
    repeat' wtm_at "st"
    all_goals exact hq _ _ (by assumption) (by wtm_at "sm") ⟨_, _, _, by assumption⟩
  · have hlt : ¬ (i : Int) < ((ns.map V.int).length : Nat) := by rw [List.length_map]; omega
    repeat' wtm_at "st"
    all_goals exact hq _ _ (by assumption) (by wtm_at "sm") ⟨_, _, _, by assumption⟩
end
section
variable {P : Program} {w : World} {K : PySem.W.Frag} {mg : Str → Option Value} {base : Heap} {f : Addr} {fd : FuncData}
theorem ok__law_roll (T : Txt P K mg) (F : FD K "_law_roll" s__law_roll f fd)   : FnOk P w K mg base (L2.CX P w) 1 f fd P__law_roll (sp__law_roll K) := by
  refine F.ok sc__law_roll (fun vs H Q E h => ?_) (fun cdv A outer s H vs Q E hr h => ?_)
  · obtain ⟨p, n, rfl, _⟩ := h
    rfl
  obtain ⟨p, n, rfl, hd, h0, h1, hq⟩ := h
  refine ⟨_, (pss_cons (ps_set (i := 2) sc__law_roll.nd rfl (Or.inl rfl) (pe_callTy Sm.call_intU rfl T.f_int (by decide +kernel) (pa_cons (pv 1) pa_nil)))
      (pss_cons (ps_if (pt_cmpR op_gt (pe_ix ix_seq (pv 0) pe_int (fun _ _ => rfl)) pe_int (nomark _)) (pss_cons (ps_set (i := 3) sc__law_roll.nd rfl (Or.inl rfl) (pe_op op_modN (pe_ix ix_seq (pv 0) pe_int (fun _ _ => rfl)) (pv 2)))
      (pss_cons (ps_asg (pe_op Sm.op_fdivU (pe_ix ix_seq (pv 0) pe_int (fun _ _ => rfl)) (pv 2)) (pg_sub (pv 0) pe_int set_list))
      (pss_one (ps_ret (pe_callTy Sm.call_intU rfl T.f_int (by decide +kernel) (pa_cons (pv 3) pa_nil)))))) pss_nil)
      (pss_cons (ps_asg (pe_op Sm.op_addU (pe_ix ix_seq (pv 0) pe_int (fun _ _ => rfl)) pe_int) (pg_sub (pv 0) pe_int set_list))
      (pss_cons (ps_set (i := 4) sc__law_roll.nd rfl (Or.inl rfl) (pe_op op_modN (pe_op Sm.op_addU (pe_ix ix_seq (pv 0) pe_int (fun _ _ => rfl)) (pe_op Sm.op_mulU pe_int (pe_ix ix_seq (pv 0) pe_int (fun _ _ => rfl)))) pe_int))
      (pss_cons (ps_set (i := 5) sc__law_roll.nd rfl (Or.inl rfl) (pe_op Sm.op_addU (pe_op Sm.op_mulU (pe_op op_modN (pe_op Sm.op_mulU (pv 4) (pv 4)) pe_int) (pv 4)) (pe_op Sm.op_mulU pe_int (pe_ix ix_seq (pv 0) pe_int (fun _ _ => rfl)))))
      (pss_cons (ps_set (i := 5) sc__law_roll.nd rfl (Or.inl rfl) (pe_op op_modN (pv 5) pe_int))
      (pss_one (ps_ret (pe_callTy Sm.call_intU rfl T.f_int (by decide +kernel) (pa_cons (pe_op op_modN (pe_op Sm.op_fdivU (pv 5) pe_int) (pv 2)) pa_nil)))))))))), ?_⟩
  rw [st__law_roll]
  obtain ⟨a, b, c, hp⟩ := hd
  have en : ∀ x : Int, 0 ≤ x % n := fun x => Int.emod_nonneg x (by omega)
  have el : ∀ x : Int, x % n < n := fun x => Int.emod_lt_of_pos x h0
  repeat' wtm_at "st"
  all_goals exact hq _ (en _) (el _) _ (by wtm_at "sm") ⟨_, _, _, by assumption⟩
end
section
variable {P : Program} {w : World} {K : PySem.W.Frag} {mg : Str → Option Value} {base : Heap} {f : Addr} {fd : FuncData}
theorem ok__law_one_of (T : Txt P K mg) (F : FD K "_law_one_of" s__law_one_of f fd) (G__law_roll : Sm.Fn P w K mg base 1 "_law_roll" P__law_roll (sp__law_roll K))  : FnOk P w K mg base (L2.CX P w) 2 f fd P__law_one_of (sp__law_one_of K) := by
  refine F.ok sc__law_one_of (fun vs H Q E h => ?_) (fun cdv A outer s H vs Q E hr h => ?_)
  · obtain ⟨p, q, xs, rfl, _⟩ := h
    rfl
  obtain ⟨p, q, xs, rfl, hd, hx, h0, h1, hq⟩ := h
  refine ⟨_, (pss_one (ps_ret (pe_ix ix_seq (pv 1) (Sm.pe_fn G__law_roll hr (pa_cons (pv 0) (pa_cons (pe_callB Sm.call_lenU rfl T.f_len (by decide +kernel) (pa_cons (pv 1) pa_nil)) pa_nil))) (fun _ _ => rfl)))), ?_⟩
  rw [st__law_one_of]
  wtm_at "st"
  repeat' wtm_at "st"
  rename_i r H' r0 r1 hs hd'
  obtain ⟨i, rfl⟩ : ∃ i : Nat, r = i := ⟨r.toNat, by omega⟩
  have hi : i < xs.length := by omega
  have hat : atI xs (i : Int) = some xs[i] := atI_nat (List.getElem?_eq_getElem hi)
  repeat' wtm_at "st"
  exact hq i _ (List.getElem?_eq_getElem hi) _ (by wtm_at "sm") hd'
end
section
variable {P : Program} {w : World} {K : PySem.W.Frag} {mg : Str → Option Value} {base : Heap} {f : Addr} {fd : FuncData}
theorem ok_weighted_in (T : Txt P K mg) (F : FD K "weighted_in" s_weighted_in f fd) (G_sum_in : Sm.Fn P w K mg base 3 "sum_in" P_sum_in (sp_sum_in K)) (G_product_in : Sm.Fn P w K mg base 3 "product_in" P_product_in (sp_product_in K))  : FnOk P w K mg base (L2.CX P w) 4 f fd P_weighted_in (sp_weighted_in K) := by
  refine F.ok sc_weighted_in (fun vs H Q E h => ?_) (fun cdv A outer s H vs Q E hr h => ?_)
  · obtain ⟨x, ps, rfl, _⟩ := h
    rfl
  obtain ⟨x, ps, rfl, hd, hp, hq⟩ := h
  refine ⟨_, (pss_cons (ps_set (i := 1) sc_weighted_in.nd rfl (Or.inl rfl) pe_non)
      (pss_cons (ps_for (passes_of rfl) rfl (pi_tup (pv 0)) (pg_tup rfl (pgs_cons (pg_name (i := 2) sc_weighted_in.nd rfl (Or.inl rfl)) (pgs_cons (pg_name (i := 3) sc_weighted_in.nd rfl (Or.inl rfl)) pgs_nil))) (pss_one (ps_set (i := 1) sc_weighted_in.nd rfl (Or.inl rfl) (Sm.pe_fn G_sum_in hr (pa_cons (pv 1) (pa_cons (Sm.pe_fn G_product_in hr (pa_cons (pv 2) (pa_cons (pv 3) pa_nil))) pa_nil))))))
      (pss_one (ps_ret (pv 1))))), ?_⟩
  rw [st_weighted_in]
  cases hd with
  | @tup a xs _ h r =>
    have hlen : xs.length = ps.length := by rw [dpAll_len r, List.length_map]
    wtm_at "st"
    refine Sm.g_forS (walk_tup (K := K) (a := a) (xs := xs)) (fun R hR => ⟨.ref a, rfl, a, rfl, ⟨_, h⟩, hR⟩) (fun i σ H' => (∃ u w f, σ = [some (.ref a), some f, u, w] ∧ Dp K H' f (wsum (ps.take i))) ∧ Same H H') ⟨⟨_, _, _, rfl, .non⟩, Same.refl _⟩ (fun i σ H' _ z => Sm.seqT_at h z.2) ?_ ?_
    · rintro i y σ H1 H2 hi ⟨⟨u, w, f, rfl, hf⟩, hs⟩ ⟨rfl, hy⟩
      have hi' : i < ps.length := by omega
      have hel := dpAll_get r hy (by rw [List.getElem?_map, List.getElem?_eq_getElem hi']; rfl)
      obtain ⟨q, v0, v1, rfl, hq2, hv0, hv1⟩ := dp_pr hel
      obtain ⟨⟨wa, wb, hw, hwf⟩, hvf⟩ := hp.2 _ (List.getElem_mem hi')
      have h0 := Sm.dp_at hv0 hs
      have h1 := Sm.dp_at hv1 hs
      have hq3 := Sm.seqT_at hq2 hs
      have e1 : FrD 1010 ps[i].1 := .inr ⟨wa, wb, hw, hwf⟩
      have e3 := prod_fr e1 hvf
      have e2 := wsum_fr (ps := ps.take i) (fun p hm => hp.2 p (List.mem_of_mem_take hm))
      have hl5 := hp.1
      have hlt : (ps.take i).length ≤ 4 := by rw [List.length_take]; omega
      refine Sm.g_gTup (xs := [v0, v1]) hq3 rfl ?_
      repeat' wtm_at "st"
      refine ⟨⟨_, _, _, rfl, ?_⟩, by wtm_at "sm"⟩
      rw [wsum_succ hi']
      assumption
    · rintro σ H1 ⟨⟨u, w, f, rfl, hf⟩, hs⟩
      rw [hlen, List.take_of_length_le (Nat.le_refl _)] at hf
      repeat' wtm_at "st"
      exact hq _ _ hs hf
end
section
variable {P : Program} {w : World} {K : PySem.W.Frag} {mg : Str → Option Value} {base : Heap} {f : Addr} {fd : FuncData}
theorem ok_weighted_sum (T : Txt P K mg) (F : FD K "weighted_sum" s_weighted_sum f fd) (G_weighted_in : Sm.Fn P w K mg base 4 "weighted_in" P_weighted_in (sp_weighted_in K)) (G_is_weighted_pair : Sm.Fn P w K mg base 4 "is_weighted_pair" P_is_weighted_pair (sp_is_weighted_pair K))  : FnOk P w K mg base (L2.CX P w) 5 f fd P_weighted_sum (sp_weighted_sum K) := by
  refine F.ok sc_weighted_sum (fun vs H Q E h => ?_) (fun cdv A outer s H vs Q E hr h => ?_)
  · obtain ⟨x, d, rfl, _⟩ := h
    rfl
  obtain ⟨x, d, rfl, hd, hl, hq, hb⟩ := h
  refine ⟨_, (pss_cons (ps_if (PW.pt (pw_or (pt_not (pt_truth (pe_callB call_isi rfl T.f_isinstance (by decide +kernel) (pa_cons (pv 0) (pa_cons (Sm.pe_ty (n := "tuple") T.f_tuple (by decide +kernel)) pa_nil))) (by intro _; rfl))) (pw_or1 (pt_not (pt_truth (pe_callB (cr_all rfl) rfl T.f_all (by decide +kernel) (pa_cons (pe_lc (own := [("pair", 1)]) rfl sc_weighted_sum.nd (pi_tup (pv 0)) (blkOk_by (own := [("pair", 1)]) (N := N_weighted_sum) (sc := defScope s_weighted_sum) (by decide +kernel)) (fun _ _ _ _ _ => (pg_name (i := 1) sc_weighted_sum.nd rfl (Or.inl rfl))) (fun _ _ _ _ _ => pts_nil) (fun _ _ _ _ _ => (Sm.pe_fn G_is_weighted_pair hr (pa_cons (pv 1) pa_nil)))) pa_nil)) (by intro _; rfl)))))) (pss_one (ps_raise rfl (takes_of rfl rfl rfl rfl) (Sm.pmk_pl T.x_InvalidOperation (pa_cons pe_str pa_nil)))) pss_nil)
      (pss_one (ps_ret (Sm.pe_fn G_weighted_in hr (pa_cons (pv 0) pa_nil))))), ?_⟩
  rw [st_weighted_sum]
  cases hd with
  | @tup a xs ds h r =>
    have hlen : xs.length = ds.length := dpAll_len r
    have hl := hl ds rfl
    repeat' wtm_at "st"
    refine Sm.g_lc (walk_tup (K := K) (a := a) (xs := xs)) (fun R hR => ⟨.ref a, rfl, a, rfl, ⟨_, h⟩, hR⟩) (fun i => ((ds.take i).map isPair).map V.bl) rfl (fun H' hs => Sm.seqT_at h hs) ?_ ?_
    · rintro D i y H1 H2 hD hi hs hL ⟨rfl, hy⟩
      have hi' : i < ds.length := by omega
      have hel := Sm.dp_at (dpAll_get r hy (List.getElem?_eq_getElem hi')) hs
      refine Sm.Stq.h (g := gName 1 y [some (.ref a), none] _ _) ?_
      refine ⟨rfl, ?_⟩
      repeat' wtm_at "st"
      rename_i H3 hs3
      refine Sm.lc_add hD (hs.trans hs3) (hs3 _ _ hL) ?_ ?_
      · rw [List.length_map, List.length_map, List.length_take]
        exact Nat.lt_of_le_of_lt (Nat.le_trans (Nat.min_le_right _ _) hl) (by decide)
      · rw [List.take_succ, List.getElem?_eq_getElem hi', List.map_append, List.map_append]
        rfl
    · rintro D H1 hD hs hL
      rw [hlen, List.take_of_length_le (Nat.le_refl _)] at hL
      have hall : (ds.map isPair).all id = isPairs (.tuple ds) := by
        show _ = ds.all isPair
        rw [List.all_map]
        rfl
      wtm_at "st"
      refine Sm.g_all (bs := ds.map isPair) (.inl (.inl hL)) ?_
      rw [hall]
      have hdd : Dp K H1 (.ref a) (.tuple ds) := Sm.dp_at (.tup h r) hs
      by_cases hp : isPairs (.tuple ds) = true
      · obtain ⟨ps, e, hp2, hq⟩ := hq hp
        rw [e] at hdd
        rw [hp]
        repeat' wtm_at "st"
        exact hq _ _ (by wtm_at "sm") (by assumption)
      · have hp' : isPairs (.tuple ds) = false := by simpa using hp
        have hr' := hb hp'
        rw [hp']
        repeat' wtm_at "st"
        exact ⟨Nat.le_of_ble_eq_true rfl, hr' _ (by wtm_at "sm")⟩
  | _ =>
    repeat' wtm_at "st"
    all_goals exact ⟨Nat.le_of_ble_eq_true rfl, hb rfl _ (by wtm_at "sm")⟩
end
section
variable {P : Program} {w : World} {K : PySem.W.Frag} {mg : Str → Option Value} {base : Heap} {f : Addr} {fd : FuncData}
theorem ok__law_lowest (T : Txt P K mg) (F : FD K "_law_lowest" s__law_lowest f fd)   : FnOk P w K mg base (L2.CX P w) 1 f fd P__law_lowest (sp__law_lowest K) := by
  refine F.ok sc__law_lowest (fun vs H Q E h => ?_) (fun cdv A outer s H vs Q E hr h => ?_)
  · obtain ⟨t, b, rfl, _⟩ := h
    rfl
  obtain ⟨t, b, rfl, hb, hz, hq⟩ := h
  refine ⟨_, (pss_cons (ps_par (i := 2) (j := 3) rfl sc__law_lowest.nd rfl rfl (by decide) rfl rfl (pa_cons (pe_callB Sm.call_absU rfl T.f_abs (by decide +kernel) (pa_cons (pv 0) pa_nil)) (pa_cons (pe_callB Sm.call_absU rfl T.f_abs (by decide +kernel) (pa_cons (pv 1) pa_nil)) pa_nil)) (by rfl))
      (pss_cons (ps_while (passes_of rfl) (pt_cmpR (Sm.op_neU hr) (pv 3) pe_int (nomark _)) (pss_one (ps_par (i := 2) (j := 3) rfl sc__law_lowest.nd rfl rfl (by decide) rfl rfl (pa_cons (pv 3) (pa_cons (pe_op op_modN (pv 2) (pv 3)) pa_nil)) (by rfl))))
      (pss_cons (ps_if (pt_cmpR op_lt (pv 1) pe_int (nomark _)) (pss_one (ps_set (i := 2) sc__law_lowest.nd rfl (Or.inl rfl) (pe_op op_sub pe_int (pv 2)))) pss_nil)
      (pss_one (ps_ret (pe_tup (pa_cons (pe_op Sm.op_fdivU (pv 0) (pv 2)) (pa_cons (pe_op Sm.op_fdivU (pv 1) (pv 2)) pa_nil)))))))), ?_⟩
  rw [st__law_lowest]
  have gp := gcd_pos (t := t) hb
  have hp : ∀ j, Builtin.divisionGoesByPylong t j = false := fun i => Sm.pyC hz.1
  have hp1 : ∀ j, Builtin.divisionGoesByPylong b j = false := fun i => Sm.pyC hz.2
  repeat' wtm_at "st"
  refine Sm.g_while (fun σ H' => ∃ x y : Int, σ = [some (.int t), some (.int b), some (.int x), some (.int y)] ∧ Same H H' ∧ 0 ≤ x ∧ 0 ≤ y ∧ Int.gcd x y = Int.gcd t b) (fun σ _ => match σ with | [_, _, _, some (.int y)] => y.toNat | _ => 0) ⟨_, _, rfl, Same.refl _, by omega, by omega, by simp [Int.gcd]⟩ ?_
  rintro σ H' ⟨x, y, rfl, hs, hx, hy, hg⟩
  repeat' wtm_at "st"
  · refine Sm.g_wturn ?_
    repeat' wtm_at "st"
    have h1 := Int.emod_nonneg x (b := y) (by omega)
    have h2 := Int.emod_lt_of_pos x (b := y) (by omega)
    refine ⟨?_, y, x % y, rfl, hs, hy, h1, (gcd_step x y).trans hg⟩
    show (x % y).toNat < y.toNat
    omega
  all_goals
    have h0 : y = 0 := by assumption
    subst h0
    have e : x = ((Int.gcd t b : Nat) : Int) := by
      rw [Int.gcd_zero_right] at hg
      omega
    subst e
  all_goals repeat' wtm_at "st"
  · refine Sm.g_fdivN gp (by omega) (Int.gcd_dvd_left ..) (hp _) ?_
    wtm_at "st"
    repeat' wtm_at "st"
    refine Sm.g_fdivN gp (by omega) (Int.gcd_dvd_right ..) (hp1 _) ?_
    repeat' wtm_at "st"
    refine hq _ _ (by wtm_at "sm") ?_
    rw [low_neg (by assumption)]
    exact dp_pair (by assumption)
  · refine hq _ _ (by wtm_at "sm") ?_
    rw [low_pos (by omega)]
    exact dp_pair (by assumption)
end
section
variable {P : Program} {w : World} {K : PySem.W.Frag} {mg : Str → Option Value} {base : Heap} {f : Addr} {fd : FuncData}
theorem ok__law_long (T : Txt P K mg) (F : FD K "_law_long" s__law_long f fd) (G__law_roll : Sm.Fn P w K mg base 1 "_law_roll" P__law_roll (sp__law_roll K))  : FnOk P w K mg base (L2.CX P w) 2 f fd P__law_long (sp__law_long K) := by
  refine F.ok sc__law_long (fun vs H Q E h => ?_) (fun cdv A outer s H vs Q E hr h => ?_)
  · obtain ⟨p, rfl, _⟩ := h
    rfl
  obtain ⟨p, rfl, hd, hq⟩ := h
  refine ⟨_, (pss_cons (ps_set (i := 1) sc__law_long.nd rfl (Or.inl rfl) pe_int)
      (pss_cons (ps_for (passes_of rfl) rfl (pi_range1 rfl T.f_range (pa_cons (pe_op Sm.op_addU pe_int (Sm.pe_fn G__law_roll hr (pa_cons (pv 0) (pa_cons pe_int pa_nil)))) pa_nil)) (pg_name (i := 2) sc__law_long.nd rfl (Or.inl rfl)) (pss_one (ps_set (i := 1) sc__law_long.nd rfl (Or.inl rfl) (pe_op Sm.op_addU (pe_op Sm.op_mulU (pv 1) (pe_op Sm.op_powW pe_int pe_int)) (Sm.pe_fn G__law_roll hr (pa_cons (pv 0) (pa_cons (pe_op Sm.op_powW pe_int pe_int) pa_nil)))))))
      (pss_one (ps_ret (pe_op Sm.op_mulU (pv 1) (pe_op Sm.op_addU pe_int (Sm.pe_fn G__law_roll hr (pa_cons (pv 0) (pa_cons pe_int pa_nil))))))))), ?_⟩
  rw [st__law_long]
  wtm_at "st"
  refine Sm.g_rng1 ?_
  repeat' wtm_at "st"
  rename_i r H1 r0 r1 hs1 hd1
  refine Sm.g_rng1i (by omega) (by omega) ?_
  refine Sm.g_forW (walk_range (lo := 0) (n := (1 + r).toNat)) (fun i σ H' => (∃ (f : Nat) (u : Option V), σ = [some (.ref p), some (.int (f : Int)), u] ∧ 1 ≤ f ∧ f + 1 ≤ 2 * (10 ^ 50) ^ i) ∧ Dice H' p ∧ Same (Sm.dl H p) H') ⟨⟨1, _, rfl, by omega, by simp⟩, hd1, hs1⟩ (fun _ _ _ _ _ => trivial) ?_ ?_
  · rintro i x σ H2 H3 hi ⟨⟨f, u, rfl, hf1, hf2⟩, hd2, hs2⟩ ⟨rfl, rfl⟩
    have hi6 : i ≤ 5 := by omega
    have hb := f_lt hf2 (show i ≤ 6 by omega)
    have hm : IntMulOk (f : Int) (10 ^ 50) := Sm.mulB (a := 1000) (b := 200) (by rw [Int.natAbs_natCast]; exact hb) (by decide +kernel) (by decide) (by decide) (by decide)
    repeat' wtm_at "st"
    rename_i r2 H4 r20 r21 hs4 hd4
    obtain ⟨g, rfl⟩ : ∃ g : Nat, r2 = g := ⟨r2.toNat, by omega⟩
    refine ⟨⟨f * 10 ^ 50 + g, _, by rfl, ?_, ?_⟩, by wtm_at "dc", by wtm_at "sm"⟩
    · have : 1 * 10 ^ 50 ≤ f * 10 ^ 50 := Nat.mul_le_mul_right _ hf1
      omega
    · have e : 2 * (10 ^ 50) ^ (i + 1) = 2 * (10 ^ 50) ^ i * 10 ^ 50 := by rw [Nat.pow_succ, Nat.mul_assoc]
      rw [e]
      have h1 : (f + 1) * 10 ^ 50 ≤ 2 * (10 ^ 50) ^ i * 10 ^ 50 := Nat.mul_le_mul_right _ hf2
      rw [Nat.add_mul] at h1
      omega
  · rintro σ H2 ⟨⟨f, u, rfl, hf1, hf2⟩, hd2, hs2⟩
    have hb := f_lt hf2 (show (1 + r).toNat ≤ 6 by omega)
    repeat' wtm_at "st"
    rename_i r2 H4 r20 r21 hs4 hd4
    obtain ⟨g, hg⟩ : ∃ g : Nat, 1 + r2 = g := ⟨(1 + r2).toNat, by omega⟩
    rw [hg]
    have hg1 : 1 ≤ g := by omega
    have hg9 : g < 2 ^ 10 := by omega
    have hm : IntMulOk (f : Int) (g : Int) := Sm.mulB (a := 1000) (b := 10) (by rw [Int.natAbs_natCast]; exact hb) (by rw [Int.natAbs_natCast]; exact hg9) (by decide) (by decide) (by decide)
    repeat' wtm_at "st"
    refine hq _ ?_ ?_ _ (by wtm_at "sm") (by wtm_at "dc")
    · have : 1 * 1 ≤ f * g := Nat.mul_le_mul hf1 hg1
      have e : ((f * g : Nat) : Int) = (f : Int) * g := Int.natCast_mul ..
      omega
    · exact mul_lt (n := 1000) (m := 10) (by rw [Int.natAbs_natCast]; exact hb) (by rw [Int.natAbs_natCast]; exact hg9)
end
section
variable {P : Program} {w : World} {K : PySem.W.Frag} {mg : Str → Option Value} {base : Heap} {f : Addr} {fd : FuncData}
theorem ok__law_fraction (T : Txt P K mg) (F : FD K "_law_fraction" s__law_fraction f fd) (G__law_roll : Sm.Fn P w K mg base 1 "_law_roll" P__law_roll (sp__law_roll K)) (G__law_lowest : Sm.Fn P w K mg base 1 "_law_lowest" P__law_lowest (sp__law_lowest K)) (G__law_one_of : Sm.Fn P w K mg base 2 "_law_one_of" P__law_one_of (sp__law_one_of K)) (G__law_long : Sm.Fn P w K mg base 2 "_law_long" P__law_long (sp__law_long K))  : FnOk P w K mg base (L2.CX P w) 3 f fd P__law_fraction (sp__law_fraction K) := by
  refine F.ok sc__law_fraction (fun vs H Q E h => ?_) (fun cdv A outer s H vs Q E hr h => ?_)
  · obtain ⟨p, rfl, _⟩ := h
    rfl
  obtain ⟨p, rfl, hd, hq⟩ := h
  refine ⟨_, (pss_cons (ps_set (i := 1) sc__law_fraction.nd rfl (Or.inl rfl) (Sm.pe_fn G__law_roll hr (pa_cons (pv 0) (pa_cons pe_int pa_nil))))
      (pss_cons (ps_if (pt_cmpR (Sm.op_eqU hr) (pv 1) pe_int (nomark _)) (pss_one (ps_ret (Sm.pe_fn G__law_lowest hr (pa_cons (Sm.pe_fn G__law_long hr (pa_cons (pv 0) pa_nil)) (pa_cons (pe_op Sm.op_addU pe_int (Sm.pe_fn G__law_roll hr (pa_cons (pv 0) (pa_cons pe_int pa_nil)))) pa_nil))))) pss_nil)
      (pss_cons (ps_if (pt_cmpR (Sm.op_eqU hr) (pv 1) pe_int (nomark _)) (pss_one (ps_ret (Sm.pe_fn G__law_lowest hr (pa_cons (pe_op op_sub (Sm.pe_fn G__law_roll hr (pa_cons (pv 0) (pa_cons pe_int pa_nil))) pe_int) (pa_cons (Sm.pe_fn G__law_long hr (pa_cons (pv 0) pa_nil)) pa_nil))))) pss_nil)
      (pss_one (ps_ret (Sm.pe_fn G__law_lowest hr (pa_cons (pe_op op_sub (Sm.pe_fn G__law_roll hr (pa_cons (pv 0) (pa_cons pe_int pa_nil))) pe_int) (pa_cons (Sm.pe_fn G__law_one_of hr (pa_cons (pv 0) (pa_cons (pe_lst (pa_cons pe_int (pa_cons pe_int (pa_cons pe_int (pa_cons pe_int (pa_cons pe_int (pa_cons pe_int (pa_cons pe_int pa_nil)))))))) pa_nil))) pa_nil)))))))), ?_⟩
  rw [st__law_fraction]
  repeat' wtm_at "st"
  · refine hq _ _ _ (by wtm_at "sm") (by wtm_at "dc") (dpw_dl (by wtm_at "dc") (by assumption)) ⟨_, _, rfl, low_fr (by omega) (by assumption) (pow_up (n := 10) (by omega) (by decide))⟩
  · refine hq _ _ _ (by wtm_at "sm") (by wtm_at "dc") (dpw_dl (by wtm_at "dc") (by assumption)) ⟨_, _, rfl, low_fr (by omega) (pow_up (n := 10) (by omega) (by decide)) (by assumption)⟩
  · rename_i q H3 hn3 he3 hq3
    refine c_one_of (dice_mv (by assumption) he3) (dice_lst (by assumption) hn3 hq3) (by simp) (by simp) (fun i v H4 hx hs4 hd4 => ?_)
    obtain ⟨b, rfl, hb1, hb2⟩ : ∃ b : Int, v = .int b ∧ 1 ≤ b ∧ b ≤ 1000 := by
      rcases i with _ | _ | _ | _ | _ | _ | _ | i <;> cases hx <;> exact ⟨_, rfl, by omega, by omega⟩
    have s2 : ∀ r : Int, 0 ≤ r → r < 21 → (r - 10).natAbs < 2 ^ 13000 ∧ b.natAbs < 2 ^ 13000 := fun r _ _ => ⟨pow_up (n := 10) (by omega) (by decide), pow_up (n := 10) (by omega) (by decide)⟩
    have s3 := s2 _ (by assumption) (by assumption)
    repeat' wtm_at "st"
    refine hq _ _ _ (by wtm_at "sm") (by wtm_at "dc") (dpw_dl (by wtm_at "dc") (by assumption)) ⟨_, _, rfl, low_fr (by omega) (pow_up (n := 10) (by omega) (by decide)) (pow_up (n := 10) (by omega) (by decide))⟩
end
section
variable {P : Program} {w : World} {K : PySem.W.Frag} {mg : Str → Option Value} {base : Heap} {f : Addr} {fd : FuncData}
theorem ok__law_operand (T : Txt P K mg) (F : FD K "_law_operand" s__law_operand f fd) (G__law_fraction : Sm.Fn P w K mg base 3 "_law_fraction" P__law_fraction (sp__law_fraction K)) (G__law_roll : Sm.Fn P w K mg base 1 "_law_roll" P__law_roll (sp__law_roll K))  : FnOk P w K mg base (L2.CX P w) 4 f fd P__law_operand (sp__law_operand K) := by
  refine F.ok sc__law_operand (fun vs H Q E h => ?_) (fun cdv A outer s H vs Q E hr h => ?_)
  · obtain ⟨p, rfl, _⟩ := h
    rfl
  obtain ⟨p, rfl, hd, hq⟩ := h
  refine ⟨_, (pss_one (ps_ret (pe_ifExp (pt_cmpR (Sm.op_eqU hr) (Sm.pe_fn G__law_roll hr (pa_cons (pv 0) (pa_cons pe_int pa_nil))) pe_int (nomark _)) pe_non (Sm.pe_fn G__law_fraction hr (pa_cons (pv 0) pa_nil))))), ?_⟩
  rw [st__law_operand]
  repeat' wtm_at "st"
  · exact hq _ _ _ (by wtm_at "sm") (by wtm_at "dc") .non (.inl rfl)
  · exact hq _ _ _ (by wtm_at "sm") (by wtm_at "dc") (by assumption) (.inr ⟨_, _, rfl, by assumption⟩)
end
section
variable {P : Program} {w : World} {K : PySem.W.Frag} {mg : Str → Option Value} {base : Heap} {f : Addr} {fd : FuncData}
theorem ok__law_added (T : Txt P K mg) (F : FD K "_law_added" s__law_added f fd) (G__law_lowest : Sm.Fn P w K mg base 1 "_law_lowest" P__law_lowest (sp__law_lowest K))  : FnOk P w K mg base (L2.CX P w) 2 f fd P__law_added (sp__law_added K) := by
  refine F.ok sc__law_added (fun vs H Q E h => ?_) (fun cdv A outer s H vs Q E hr h => ?_)
  · obtain ⟨x, y, d, e, n, m, rfl, _⟩ := h
    rfl
  obtain ⟨x, y, d, e, n, m, rfl, hd, he, fd, fe, hz, hq⟩ := h
  refine ⟨_, (pss_cons (ps_if (PW.pt (pw_or (pt_cmpR Sm.op_isU (pv 0) pe_non (nomark _)) (pw_or1 (pt_cmpR Sm.op_isU (pv 1) pe_non (nomark _))))) (pss_one (ps_ret (pe_ifExp (pt_cmpR Sm.op_isU (pv 0) pe_non (nomark _)) (pv 1) (pv 0)))) pss_nil)
      (pss_one (ps_ret (Sm.pe_fn G__law_lowest hr (pa_cons (pe_op Sm.op_addU (pe_op Sm.op_mulU (pe_ix ix_seq (pv 0) pe_int (fun _ _ => rfl)) (pe_ix ix_seq (pv 1) pe_int (fun _ _ => rfl))) (pe_op Sm.op_mulU (pe_ix ix_seq (pv 1) pe_int (fun _ _ => rfl)) (pe_ix ix_seq (pv 0) pe_int (fun _ _ => rfl)))) (pa_cons (pe_op Sm.op_mulU (pe_ix ix_seq (pv 0) pe_int (fun _ _ => rfl)) (pe_ix ix_seq (pv 1) pe_int (fun _ _ => rfl))) pa_nil)))))), ?_⟩
  rw [st__law_added]
  rcases fd with rfl | ⟨a, b, rfl, fd⟩
  · cases hd
    rcases fe with rfl | ⟨c, f, rfl, fe⟩
    · cases he
      repeat' wtm_at "st"
      exact hq _ _ (by wtm_at "sm") .non
    · obtain ⟨q, rfl, hq2⟩ := Sm.dp_pair_inv he
      repeat' wtm_at "st"
      exact hq _ _ (by wtm_at "sm") (by wtm_at "at")
  · obtain ⟨p, rfl, hp2⟩ := Sm.dp_pair_inv hd
    rcases fe with rfl | ⟨c, f, rfl, fe⟩
    · cases he
      repeat' wtm_at "st"
      exact hq _ _ (by wtm_at "sm") (by wtm_at "at")
    · obtain ⟨q, rfl, hq2⟩ := Sm.dp_pair_inv he
      obtain ⟨b1, ag, an, bn⟩ := fd
      obtain ⟨f1, cg, cn, fn⟩ := fe
      have m1 : IntMulOk a f := mulF an fn hz
      have m2 : IntMulOk c b := mulF cn bn (by omega)
      have m3 : IntMulOk b f := mulF bn fn hz
      have hbf : b * f ≠ 0 := fun z => by rcases Int.mul_eq_zero.mp z with z | z <;> omega
      have s2 : (a * f + c * b).natAbs < 2 ^ 13000 ∧ (b * f).natAbs < 2 ^ 13000 := ⟨pow_up (add_lt (n := n + m) (mul_lt an fn) (by rw [Nat.add_comm]; exact mul_lt cn bn)) (by omega), pow_up (mul_lt bn fn) (by omega)⟩
      repeat' wtm_at "st"
      exact hq _ _ (by wtm_at "sm") (by wtm_at "at")
end
section
variable {P : Program} {w : World} {K : PySem.W.Frag} {mg : Str → Option Value} {base : Heap} {f : Addr} {fd : FuncData}
theorem ok__law_multiplied (T : Txt P K mg) (F : FD K "_law_multiplied" s__law_multiplied f fd) (G__law_lowest : Sm.Fn P w K mg base 1 "_law_lowest" P__law_lowest (sp__law_lowest K))  : FnOk P w K mg base (L2.CX P w) 2 f fd P__law_multiplied (sp__law_multiplied K) := by
  refine F.ok sc__law_multiplied (fun vs H Q E h => ?_) (fun cdv A outer s H vs Q E hr h => ?_)
  · obtain ⟨x, y, d, e, n, m, rfl, _⟩ := h
    rfl
  obtain ⟨x, y, d, e, n, m, rfl, hd, he, fd, fe, hz, hq⟩ := h
  refine ⟨_, (pss_cons (ps_if (PW.pt (pw_or (pt_cmpR Sm.op_isU (pv 0) pe_non (nomark _)) (pw_or1 (pt_cmpR Sm.op_isU (pv 1) pe_non (nomark _))))) (pss_one (ps_ret pe_non)) pss_nil)
      (pss_one (ps_ret (Sm.pe_fn G__law_lowest hr (pa_cons (pe_op Sm.op_mulU (pe_ix ix_seq (pv 0) pe_int (fun _ _ => rfl)) (pe_ix ix_seq (pv 1) pe_int (fun _ _ => rfl))) (pa_cons (pe_op Sm.op_mulU (pe_ix ix_seq (pv 0) pe_int (fun _ _ => rfl)) (pe_ix ix_seq (pv 1) pe_int (fun _ _ => rfl))) pa_nil)))))), ?_⟩
  rw [st__law_multiplied]
  rcases fd with rfl | ⟨a, b, rfl, fd⟩
  · cases hd
    repeat' wtm_at "st"
    exact hq _ _ (by wtm_at "sm") .non
  · obtain ⟨p, rfl, hp2⟩ := Sm.dp_pair_inv hd
    rcases fe with rfl | ⟨c, f, rfl, fe⟩
    · cases he
      repeat' wtm_at "st"
      exact hq _ _ (by wtm_at "sm") .non
    · obtain ⟨q, rfl, hq2⟩ := Sm.dp_pair_inv he
      obtain ⟨b1, ag, an, bn⟩ := fd
      obtain ⟨f1, cg, cn, fn⟩ := fe
      have m1 : IntMulOk a c := mulF an cn hz
      have m3 : IntMulOk b f := mulF bn fn hz
      have hbf : b * f ≠ 0 := fun z => by rcases Int.mul_eq_zero.mp z with z | z <;> omega
      have s2 : (a * c).natAbs < 2 ^ 13000 ∧ (b * f).natAbs < 2 ^ 13000 := ⟨pow_up (mul_lt an cn) (by omega), pow_up (mul_lt bn fn) (by omega)⟩
      repeat' wtm_at "st"
      exact hq _ _ (by wtm_at "sm") (by wtm_at "at")
end
section
variable {P : Program} {w : World} {K : PySem.W.Frag} {mg : Str → Option Value} {base : Heap} {f : Addr} {fd : FuncData}
theorem ok__law_back (T : Txt P K mg) (F : FD K "_law_back" s__law_back f fd)   : FnOk P w K mg base (L2.CX P w) 1 f fd P__law_back (sp__law_back K) := by
  refine F.ok sc__law_back (fun vs H Q E h => ?_) (fun cdv A outer s H vs Q E hr h => ?_)
  · obtain ⟨x, y, d, e, rfl, _⟩ := h
    rfl
  obtain ⟨x, y, d, e, rfl, hd, he, hq⟩ := h
  refine ⟨_, (pss_cons (ps_if (pt_cmpR Sm.op_isU (pv 0) pe_non (nomark _)) (pss_one (ps_ret (pe_ifExp (pt_cmpR Sm.op_isU (pv 1) pe_non (nomark _)) pe_non (pe_tup (pa_cons pe_int (pa_cons pe_int pa_nil)))))) pss_nil)
      (pss_one (ps_ret (pv 0)))), ?_⟩
  rw [st__law_back]
  by_cases h1 : d = .none
  · subst h1
    cases hd
    by_cases h2 : e = .none
    · subst h2
      cases he
      repeat' wtm_at "st"
      exact hq _ _ (by wtm_at "sm") .non
    · have hy := dp_nn he h2
      have hb : backD .none e = wD (0, 1) := by
        cases e with
        | none => exact absurd rfl h2
        | _ => rfl
      repeat' wtm_at "st"
      refine hq _ _ (by wtm_at "sm") ?_
      rw [hb]
      exact dp_pair (by assumption)
  · have hx := dp_nn hd h1
    have hb : backD d e = d := by
      cases d with
      | none => exact absurd rfl h1
      | _ => rfl
    repeat' wtm_at "st"
    refine hq _ _ (by wtm_at "sm") ?_
    rw [hb]
    exact hd
end
section
variable {P : Program} {w : World} {K : PySem.W.Frag} {mg : Str → Option Value} {base : Heap} {f : Addr} {fd : FuncData}
theorem ok__law_compared (T : Txt P K mg) (F : FD K "_law_compared" s__law_compared f fd) (G_is_below : Sm.Fn P w K mg base 5 "is_below" P_is_below (sp_is_below K)) (G__law_multiplied : Sm.Fn P w K mg base 2 "_law_multiplied" P__law_multiplied (sp__law_multiplied K)) (G_plus : Sm.Fn P w K mg base 6 "plus" P_plus (sp_plus K)) (G_times : Sm.Fn P w K mg base 6 "times" P_times (sp_times K)) (G_is_great : Sm.Fn P w K mg base 5 "is_great" P_is_great (sp_is_great K))  : FnOk P w K mg base (L2.CX P w) 7 f fd P__law_compared (sp__law_compared K) := by
  refine F.ok sc__law_compared (fun vs H Q E h => ?_) (fun cdv A outer s H vs Q E hr h => ?_)
  · obtain ⟨x, y, a, b, c, f, rfl, _⟩ := h
    rfl
  obtain ⟨x, y, a, b, c, f, rfl, hd, he, fd, fe, hq⟩ := h
  refine ⟨_, (pss_cons (ps_if (pt_cmpR (Sm.op_neU hr) (Sm.pe_fn G_is_below hr (pa_cons (pv 0) (pa_cons (pv 1) pa_nil))) (pe_cmpR op_lt (pe_op Sm.op_mulU (pe_ix ix_seq (pv 0) pe_int (fun _ _ => rfl)) (pe_ix ix_seq (pv 1) pe_int (fun _ _ => rfl))) (pe_op Sm.op_mulU (pe_ix ix_seq (pv 1) pe_int (fun _ _ => rfl)) (pe_ix ix_seq (pv 0) pe_int (fun _ _ => rfl))) (nomark _)) (nomark _)) (pss_one (ps_ret pe_bl)) pss_nil)
      (pss_cons (ps_if (pt_cmpR (Sm.op_neU hr) (Sm.pe_fn G_is_below hr (pa_cons (pv 1) (pa_cons (pv 0) pa_nil))) (pe_cmpR op_lt (pe_op Sm.op_mulU (pe_ix ix_seq (pv 1) pe_int (fun _ _ => rfl)) (pe_ix ix_seq (pv 0) pe_int (fun _ _ => rfl))) (pe_op Sm.op_mulU (pe_ix ix_seq (pv 0) pe_int (fun _ _ => rfl)) (pe_ix ix_seq (pv 1) pe_int (fun _ _ => rfl))) (nomark _)) (nomark _)) (pss_one (ps_ret pe_bl)) pss_nil)
      (pss_cons (ps_set (i := 2) sc__law_compared.nd rfl (Or.inl rfl) (pe_op Sm.op_powW (pe_op Sm.op_powW pe_int pe_int) pe_int))
      (pss_cons (ps_if (PW.pt (pw_or (pt_cmpR (Sm.op_neU hr) (Sm.pe_fn G_plus hr (pa_cons (pe_tup (pa_cons (pe_op op_sub (pv 2) pe_int) (pa_cons pe_int pa_nil))) (pa_cons (pe_tup (pa_cons pe_int (pa_cons pe_int pa_nil))) pa_nil))) (pe_tup (pa_cons (pv 2) (pa_cons pe_int pa_nil))) (nomark _)) (pw_or1 (pt_cmpR (Sm.op_neU hr) (Sm.pe_fn G_times hr (pa_cons (pe_tup (pa_cons pe_int (pa_cons (pv 2) pa_nil))) (pa_cons (pe_tup (pa_cons (pv 2) (pa_cons pe_int pa_nil))) pa_nil))) (pe_tup (pa_cons pe_int (pa_cons pe_int pa_nil))) (nomark _))))) (pss_one (ps_ret pe_bl)) pss_nil)
      (pss_cons (ps_for (passes_of rfl) rfl (pi_tup (pe_tup (pa_cons (pv 0) (pa_cons (pv 1) (pa_cons (Sm.pe_fn G__law_multiplied hr (pa_cons (pv 0) (pa_cons (pv 1) pa_nil))) (pa_cons (pe_tup (pa_cons (pe_op op_sub (pv 2) pe_int) (pa_cons pe_int pa_nil))) (pa_cons (pe_tup (pa_cons pe_int (pa_cons (pv 2) pa_nil))) (pa_cons (pe_tup (pa_cons (pe_op op_sub pe_int (pv 2)) (pa_cons pe_int pa_nil))) pa_nil)))))))) (pg_name (i := 3) sc__law_compared.nd rfl (Or.inl rfl)) (pss_one (ps_if (pt_cmpR (Sm.op_neU hr) (Sm.pe_fn G_is_great hr (pa_cons (pv 3) pa_nil)) (pe_or (pe_cmpR op_ge (pe_callB Sm.call_absU rfl T.f_abs (by decide +kernel) (pa_cons (pe_ix ix_seq (pv 3) pe_int (fun _ _ => rfl)) pa_nil)) (pv 2) (nomark _)) (pe_one (pe_cmpR op_ge (pe_ix ix_seq (pv 3) pe_int (fun _ _ => rfl)) (pv 2) (nomark _)))) (nomark _)) (pss_one (ps_ret pe_bl)) pss_nil)))
      (pss_one (ps_ret (pe_and (pe_cmpR (Sm.op_eqU hr) (Sm.pe_gi T.c_MOST_DIGITS) pe_int (nomark _)) (pe_and (pe_cmpR (Sm.op_eqU hr) (Sm.pe_gr T.g_ZERO) (pe_tup (pa_cons pe_int (pa_cons pe_int pa_nil))) (nomark _)) (pe_one (pe_cmpR (Sm.op_eqU hr) (Sm.pe_gr T.g_ONE) (pe_tup (pa_cons pe_int (pa_cons pe_int pa_nil))) (nomark _)))))))))))), ?_⟩
  rw [st__law_compared]
  obtain ⟨p1, rfl, hp1⟩ := Sm.dp_pair_inv hd
  obtain ⟨p2, rfl, hp2⟩ := Sm.dp_pair_inv he
  have l1 := fr_long fd (by decide)
  have l2 := fr_long fe (by decide)
  have m1 : IntMulOk a f := mulF fd.2.2.1 fe.2.2.2 (by decide)
  have m2 : IntMulOk c b := mulF fe.2.2.1 fd.2.2.2 (by decide)
  have q1 := eqv_b (decide (a * f < c * b))
  have q2 := eqv_b (decide (c * b < a * f))
  repeat' wtm_at "st"
  rw [gr_val] at *
  rename_i H1 hs1 H2 hs2 pa H3 hn3 he3 hpa pb H4 hn4 he4 hpb
  refine c_plus (dp_pair (he4 _ _ hpa)) (dp_pair hpb) (.inr ⟨_, _, rfl, fr_gr1⟩) (.inr ⟨_, _, rfl, fr_11⟩) (by decide) (fun v H5 hs5 hv => ?_)
  rw [show sumD (.tuple [.int (GR - 1), .int 1]) (.tuple [.int 1, .int 1]) = wD (GR, 1) from sum_gr] at hv
  have e1 : PyData.eqv (wD (GR, 1)) (.tuple [.int GR, .int 1]) = true := eqv_w GR 1
  have e2 : PyData.eqv (wD (1, 7)) (.tuple [.int 1, .int 7]) = true := eqv_w 1 7
  repeat' wtm_at "st"
  rename_i pc H6 hn6 he6 hpc pd H7 hn7 he7 hpd pe H8 hn8 he8 hpe
  refine c_times (dp_pair (he8 _ _ hpd)) (dp_pair hpe) (.inr ⟨_, _, rfl, fr_1g⟩) (.inr ⟨_, _, rfl, fr_g7⟩) (by decide) (fun v2 H9 hs9 hv2 => ?_)
  rw [show prodD (.tuple [.int 1, .int GR]) (.tuple [.int GR, .int 7]) = wD (1, 7) from prod_gr] at hv2
  have f1 : FrD 1010 (wD (a, b)) := .inr ⟨_, _, rfl, fd⟩
  have f2 : FrD 1010 (wD (c, f)) := .inr ⟨_, _, rfl, fe⟩
  repeat' wtm_at "st"
  refine Sm.g_tupI ?_
  repeat' wtm_at "st"
  rename_i pf G0 hnf hef hpf v3 G1 hs10 hv3 pg G2 hng heg hpg ph G3 hnh heh hph pi G4 hni hei hpi pj G5 hnj hej hpj
  have ex : prodD (wD (a, b)) (wD (c, f)) = wD ((low (a * c) (b * f)).1, (low (a * c) (b * f)).2) := rfl
  have fx : Fr 2020 (low (a * c) (b * f)).1 (low (a * c) (b * f)).2 := low_fr (fun z => by
    have := fd.1
    have := fe.1
    rcases Int.mul_eq_zero.mp z with z | z <;> omega) (mul_lt (n := 1010) (m := 1010) fd.2.2.1 fe.2.2.1) (mul_lt (n := 1010) (m := 1010) fd.2.2.2 fe.2.2.2)
  have sG : Same H G5 := by wtm_at "sm"
  refine Sm.g_tupIi (.inl (.inl hpj)) ?_
  have elt : ∀ (i : Nat) (y : V), ([V.ref p1, V.ref p2, v3, V.ref pg, V.ref ph, V.ref pi] : List V)[i]? = some y → ∃ (a' b' : Int) (n : Nat), Dp K G5 y (wD (a', b')) ∧ Fr n a' b' ∧ n ≤ 13000 := fun i y hy => by
    rcases i with _ | _ | _ | _ | _ | _ | i <;> cases hy
    · exact ⟨_, _, _, Sm.dp_at hd sG, fd, by decide⟩
    · exact ⟨_, _, _, Sm.dp_at he sG, fe, by decide⟩
    · exact ⟨_, _, _, Sm.dp_at hv3 (((heg.trans heh).trans hei).trans hej), fx, by decide⟩
    · exact ⟨_, _, _, Sm.dp_at (dp_pair hpg) ((heh.trans hei).trans hej), fr_gr1, by decide⟩
    · exact ⟨_, _, _, Sm.dp_at (dp_pair hph) (hei.trans hej), fr_1g, by decide⟩
    · exact ⟨_, _, _, Sm.dp_at (dp_pair hpi) hej, fr_g3, by decide⟩
  have hsq : SqT K G5 pj [V.ref p1, V.ref p2, v3, V.ref pg, V.ref ph, V.ref pi] := .inl (.inl hpj)
  clear hpf hv3 hpg hph hpi hs10 hef heg heh hei hej
  refine Sm.g_forW (walk_tup (K := K) (a := pj) (xs := [V.ref p1, V.ref p2, v3, V.ref pg, V.ref ph, V.ref pi])) (fun i σ H' => (∃ u, σ = [some (.ref p1), some (.ref p2), some (.int GR), u]) ∧ Same G5 H') ⟨⟨_, rfl⟩, Same.refl _⟩ (fun i σ H' _ z => Sm.seqT_at hsq z.2) ?_ ?_
  · rintro i y σ L1 L2 hi ⟨⟨u, rfl⟩, hs⟩ ⟨rfl, hy⟩
    obtain ⟨a', b', n, hdy, hf, hn⟩ := elt i y hy
    obtain ⟨py, rfl, hpy⟩ := Sm.dp_pair_inv hdy
    have hfD : FrD n (wD (a', b')) := .inr ⟨_, _, rfl, hf⟩
    have ll := fr_long hf hn
    have hdy2 := Sm.dp_at hdy hs
    have hpy2 := Sm.seqT_at hpy hs
    have hgr : great (wD (a', b')) = (decide ((a'.natAbs : Int) ≥ GR) || decide (b' ≥ GR)) := rfl
    by_cases hA : (a'.natAbs : Int) ≥ GR
    · have q3 : PyData.eqv (.bool (great (wD (a', b')))) (.bool true) = true := by
        rw [hgr, decide_eq_true hA]
        rfl
      repeat' wtm_at "st"
      exact ⟨⟨_, rfl⟩, by wtm_at "sm"⟩
    · have q3 : PyData.eqv (.bool (great (wD (a', b')))) (.bool (decide (b' ≥ GR))) = true := by
        rw [hgr, decide_eq_false hA, Bool.false_or]
        exact eqv_b _
      repeat' wtm_at "st"
      exact ⟨⟨_, rfl⟩, by wtm_at "sm"⟩
  · rintro σ L1 ⟨⟨u, rfl⟩, hs⟩
    have z0 : Dp K L1 (.ref (He.ga K "ZERO")) (wD (0, 1)) := .tup (T.t_ZERO _) (.cons (.int 0) (.cons (.int 1) .nil))
    have z1 : Dp K L1 (.ref (He.ga K "ONE")) (wD (1, 1)) := .tup (T.t_ONE _) (.cons (.int 1) (.cons (.int 1) .nil))
    have w0 : PyData.eqv (wD (0, 1)) (.tuple [.int 0, .int 1]) = true := eqv_w 0 1
    have w1 : PyData.eqv (wD (1, 1)) (.tuple [.int 1, .int 1]) = true := eqv_w 1 1
    have sw : ∀ a b, SeqAt.shaped (wD (a, b)) = true := fun _ _ => rfl
    repeat' wtm_at "st"
    refine Sm.fin (hq _ (by wtm_at "sm")) ?_
    first | rfl | exact congrArg V.bl w1.symm | exact congrArg V.bl w1
end
section
variable {P : Program} {w : World} {K : PySem.W.Frag} {mg : Str → Option Value} {base : Heap} {f : Addr} {fd : FuncData}
theorem ok__law_reckoned (T : Txt P K mg) (F : FD K "_law_reckoned" s__law_reckoned (He.fAd K ("_law_reckoned", none)) fd) (G__law_added : Sm.Fn P w K mg base 2 "_law_added" P__law_added (sp__law_added K)) (G__law_multiplied : Sm.Fn P w K mg base 2 "_law_multiplied" P__law_multiplied (sp__law_multiplied K)) (G__law_back : Sm.Fn P w K mg base 1 "_law_back" P__law_back (sp__law_back K)) (G__law_lowest : Sm.Fn P w K mg base 1 "_law_lowest" P__law_lowest (sp__law_lowest K)) (G_over : Sm.Fn P w K mg base 6 "over" P_over (sp_over K)) (G_plus : Sm.Fn P w K mg base 6 "plus" P_plus (sp_plus K)) (G_times : Sm.Fn P w K mg base 6 "times" P_times (sp_times K)) (G_minus : Sm.Fn P w K mg base 6 "minus" P_minus (sp_minus K)) (TB : LamX.TabB base mg (He.cT K ("_law_reckoned", none)).1 (He.cT K ("_law_reckoned", none)).2) (hTn : ((TT K).map (·.1)).Nodup) (Cat : Sm.Catch P w K mg base "_law_met" "_law_call" N__law_met (defArgs s__law_met) (defBody s__law_met) (defScope s__law_met) (TMet K))  : Sm.FnG P w K mg base 9 (He.fAd K ("_law_reckoned", none)) fd P__law_reckoned (sp__law_reckoned K) := by
  refine Sm.FnG.mk1 F sc__law_reckoned (fun vs H Q E h => ?_) (fun A outer s H vs Q E gd hr h => ?_)
  · obtain ⟨x, y, d, e, rfl, _⟩ := h
    rfl
  obtain ⟨x, y, d, e, rfl, hd, he, fd, fe, hT, hq⟩ := h
  refine ⟨_, (pss_cons (ps_if (PW.pt (pw_or (pt_cmpR (Sm.op_neU hr) (Sm.pe_fn G_plus hr (pa_cons (pv 0) (pa_cons (pv 1) pa_nil))) (Sm.pe_fn G__law_added hr (pa_cons (pv 0) (pa_cons (pv 1) pa_nil))) (nomark _)) (pw_or1 (pt_cmpR (Sm.op_neU hr) (Sm.pe_fn G_times hr (pa_cons (pv 0) (pa_cons (pv 1) pa_nil))) (Sm.pe_fn G__law_multiplied hr (pa_cons (pv 0) (pa_cons (pv 1) pa_nil))) (nomark _))))) (pss_one (ps_ret pe_bl)) pss_nil)
      (pss_cons (ps_set (i := 2) sc__law_reckoned.nd rfl (Or.inl rfl) (pe_ifExp (pt_cmpR Sm.op_isU (pv 1) pe_non (nomark _)) pe_non (pe_tup (pa_cons (pe_op op_sub pe_int (pe_ix ix_seq (pv 1) pe_int (fun _ _ => rfl))) (pa_cons (pe_ix ix_seq (pv 1) pe_int (fun _ _ => rfl)) pa_nil)))))
      (pss_cons (ps_if (PW.pt (pw_or (pt_cmpR (Sm.op_neU hr) (Sm.pe_fn G_minus hr (pa_cons (pv 0) (pa_cons (pv 1) pa_nil))) (Sm.pe_fn G__law_added hr (pa_cons (pv 0) (pa_cons (pv 2) pa_nil))) (nomark _)) (pw_or1 (pt_cmpR (Sm.op_neU hr) (Sm.pe_fn G_minus hr (pa_cons (Sm.pe_fn G_plus hr (pa_cons (pv 0) (pa_cons (pv 1) pa_nil))) (pa_cons (pv 1) pa_nil))) (Sm.pe_fn G__law_back hr (pa_cons (pv 0) (pa_cons (pv 1) pa_nil))) (nomark _))))) (pss_one (ps_ret pe_bl)) pss_nil)
      (pss_cons (ps_if (PW.pt (pw_and (pt_cmpR Sm.op_nisU (pv 0) pe_non (nomark _)) (pw_and1 (pt_cmpR (Sm.op_eqU hr) (pv 1) (pe_tup (pa_cons pe_int (pa_cons pe_int pa_nil))) (nomark _))))) (pss_one (ps_ret (pe_cmpR (Sm.op_eqU hr) (Sm.pe_catch (k := 6) (T := TT K) Cat gd TB rfl (TTm__law_reckoned K) (Sm.tab_uni hTn (TTm__law_reckoned K)) hr (LamX.lamS_by (by kernel_rfl)) (by decide) (fun A outer s H E f c' hr => (Sm.pe_fnE G_over hr (pa_cons (pv 0) (pa_cons (pv 1) pa_nil)) (Sm.passE rfl rfl rfl rfl)))) pe_str (nomark _)))) pss_nil)
      (pss_cons (ps_set (i := 3) sc__law_reckoned.nd rfl (Or.inl rfl) (Sm.pe_fn G_over hr (pa_cons (pv 0) (pa_cons (pv 1) pa_nil))))
      (pss_cons (ps_if (PW.pt (pw_or (pt_cmpR Sm.op_isU (pv 0) pe_non (nomark _)) (pw_or1 (pt_cmpR Sm.op_isU (pv 1) pe_non (nomark _))))) (pss_one (ps_ret (pe_cmpR Sm.op_isU (pv 3) pe_non (nomark _)))) pss_nil)
      (pss_one (ps_ret (pe_and (pe_cmpR op_gt (pe_ix ix_seq (pv 3) pe_int (fun _ _ => rfl)) pe_int (nomark _)) (pe_and (pe_cmpR (Sm.op_eqU hr) (pv 3) (Sm.pe_fn G__law_lowest hr (pa_cons (pe_ix ix_seq (pv 3) pe_int (fun _ _ => rfl)) (pa_cons (pe_ix ix_seq (pv 3) pe_int (fun _ _ => rfl)) pa_nil))) (nomark _)) (pe_one (pe_cmpR (Sm.op_eqU hr) (Sm.pe_fn G__law_multiplied hr (pa_cons (pv 3) (pa_cons (pv 1) pa_nil))) (pv 0) (nomark _))))))))))))), ?_⟩
  rw [st__law_reckoned]
  have fs := sum_fr fd fe
  have fp := prod_fr fd fe
  have fn := neg_fr fe
  have fm := sum_fr fd fn
  have fsm := sum_fr fs fn
  obtain ⟨a1, a2⟩ := fr_sh2 fs
  obtain ⟨b1, b2⟩ := fr_sh2 fp
  obtain ⟨c1, c2⟩ := fr_sh2 fm
  have r2 := fr_sh fsm
  have r1 : PyData.eqv (sumD (sumD d e) (negD e)) (backD d e) = true := by rw [back_ok fd fe]; exact fr_eqv (by rw [← back_ok fd fe]; exact fsm)
  have r3 : SeqAt.shaped (backD d e) = true := by rw [← back_ok fd fe]; exact r2
  have fin := fun (H1 : Hp) (hs : Same H H1) => hq H1 (LamX.ExtN.of hs) (hT.ext hs)
  have fd0 := fd
  by_cases he0 : e = .none
  · subst he0
    cases he
    have h0 : d ≠ .none → ∀ z, PyData.none ≠ wD (0, z) := fun _ z h => by cases h
    have h1 : d ≠ .none → PyData.none ≠ wD (0, 1) := fun _ h => by cases h
    have c3 : PyData.eqv (sumD d (negD .none)) (sumD d .none) = true := c1
    have qn : quoD d .none = .none := by rcases fd with rfl | ⟨a, b, rfl, _⟩ <;> rfl
    have z1 : PyData.eqv .none (.tuple [.int 0, .int 1]) = false := rfl
    rcases fd with rfl | ⟨a, b, rfl, fd⟩
    · cases hd
      repeat' wtm_at "st"
      rename_i v1 H1 hs1 hv1
      obtain rfl := dp_none hv1 rfl
      repeat' wtm_at "st"
      exact fin _ (by wtm_at "sm")
    · obtain ⟨p, rfl, hp2⟩ := Sm.dp_pair_inv hd
      repeat' wtm_at "st"
      rename_i v1 H1 hs1 hv1
      obtain rfl := dp_none hv1 rfl
      repeat' wtm_at "st"
      exact fin _ (by wtm_at "sm")
  · obtain ⟨c, f, rfl, fe'⟩ : ∃ c f, e = wD (c, f) ∧ Fr 1010 c f := by
      rcases fe with rfl | h
      · exact absurd rfl he0
      · exact h
    obtain ⟨q, rfl, hq2⟩ := Sm.dp_pair_inv he
    have fn2 : FrD 1010 (.tuple [.int (0 - c), .int f]) := by
      rw [Int.zero_sub]
      exact fn
    have e2 : sumD d (.tuple [.int (0 - c), .int f]) = sumD d (negD (wD (c, f))) := by
      rw [Int.zero_sub]
      rfl
    have d2 : SeqAt.shaped (sumD d (.tuple [.int (0 - c), .int f])) = true := by rw [e2]; exact c2
    have d1 : PyData.eqv (sumD d (negD (wD (c, f)))) (sumD d (.tuple [.int (0 - c), .int f])) = true := by rw [e2]; exact c1
    rcases fd with rfl | ⟨a, b, rfl, fd⟩
    · cases hd
      have h1 : PyData.none ≠ .none → wD (c, f) ≠ wD (0, 1) := fun h => absurd rfl h
      repeat' wtm_at "st"
      rename_i v1 H1 hs1 hv1
      obtain rfl := dp_none hv1 rfl
      repeat' wtm_at "st"
      exact fin _ (by wtm_at "sm")
    · obtain ⟨p, rfl, hp2⟩ := Sm.dp_pair_inv hd
      by_cases hz1 : wD (c, f) = wD (0, 1)
      · have z1 : PyData.eqv (wD (c, f)) (.tuple [.int 0, .int 1]) = true := by rw [hz1]; exact eqv_w 0 1
        repeat' wtm_at "st"
        rename_i pz Gz hnz hez hpz
        have sZ : Same H Gz := by wtm_at "sm"
        have hstr : (Str.ofString "refused " ++ (PyData.tuple [.str "zero"]).shown) = Str.ofString "refused ('zero',)" := by decide +kernel
        refine g_lam (hT.ext sZ) (fun H1 hx hT1 => ?_)
        have hd1 := Sm.exN_dp hx (Sm.dp_at hd sZ)
        have he1 := Sm.exN_dp hx (Sm.dp_at he sZ)
        repeat' wtm_at "st"
        refine ⟨_, _, _, _, rfl, hd1, he1, fun _ _ => ⟨1010, 1010, fd0, fe, by decide, fun _ _ q' G3 hs3 hq' => ?_, fun h => absurd hz1 (h (fun z => by cases z))⟩, fun z => ?_⟩
        · refine met_refused T (e := .tuple [.str "zero"]) (.tup (.inl (.inl hq')) (.cons (.str _) .nil)) ⟨rfl, rfl, by decide, by decide +kernel⟩ (fun H4 hs4 => ?_)
          rw [hstr]
          repeat' wtm_at "st"
          refine Sm.fin (hq H4 (Sm.same_exN sZ (Sm.exN_same hx (hs3.trans hs4))) (hT1.ext (hs3.trans hs4))) (congrArg V.bl (decide_eq_true rfl).symm)
        · rw [fr_ok fd0 (by decide), fr_ok fe (by decide)] at z
          rcases z with z | z <;> cases z
      · have z1 : PyData.eqv (wD (c, f)) (.tuple [.int 0, .int 1]) = false := by
          show PyData.eqv (wD (c, f)) (wD (0, 1)) = false
          rw [eqv_wD]
          exact decide_eq_false fun z => fr_zero fe' hz1 z.1
        have h1 : wD (a, b) ≠ .none → wD (c, f) ≠ wD (0, 1) := fun _ => hz1
        obtain ⟨P2, Q2, eq1, hQ1, el, eb⟩ := quo_ok fd fe' (fr_zero fe' hz1)
        have k1 : PyData.eqv (wD (P2, Q2)) (wD (low P2 Q2)) = true := by rw [el]; exact eqv_w P2 Q2
        have k2 : PyData.eqv (prodD (wD (P2, Q2)) (wD (c, f))) (wD (a, b)) = true := by rw [eb]; exact eqv_w a b
        have fq := quo_fr fd0 fe (fun z h => by
          injection h with h
          injection h with h
          injection h with h
          exact fr_zero fe' hz1 h)
        rw [eq1] at fq
        repeat' wtm_at "st"
        rename_i v1 H1 hs1 hv1
        rw [eq1] at hv1
        obtain ⟨pq, rfl, hpq⟩ := Sm.dp_pair_inv hv1
        have s3 : P2.natAbs < 2 ^ 13000 ∧ Q2.natAbs < 2 ^ 13000 := by
          rcases fq with h | ⟨x, y, h, hf⟩
          · cases h
          · injection h with h
            injection h with h5 h6
            injection h6 with h6 h7
            injection h5 with h5
            injection h6 with h6
            subst h5 h6
            exact ⟨pow_up hf.2.2.1 (by decide), pow_up hf.2.2.2 (by decide)⟩
        have f13 : FrD 1010 (wD (c, f)) := fe
        repeat' wtm_at "st"
        exact Sm.fin (fin _ (by wtm_at "sm")) (congrArg V.bl k2.symm)
end
section
variable {P : Program} {w : World} {K : PySem.W.Frag} {mg : Str → Option Value} {base : Heap} {f : Addr} {fd : FuncData}
theorem ok__law_judged (T : Txt P K mg) (F : FD K "_law_judged" s__law_judged f fd) (G__law_one_of : Sm.Fn P w K mg base 2 "_law_one_of" P__law_one_of (sp__law_one_of K)) (G_is_worth : Sm.Fn P w K mg base 2 "is_worth" P_is_worth (sp_is_worth K)) (G_is_cell_worth : Sm.Fn P w K mg base 3 "is_cell_worth" P_is_cell_worth (sp_is_cell_worth K)) (G_is_weight : Sm.Fn P w K mg base 3 "is_weight" P_is_weight (sp_is_weight K)) (G_is_name : Sm.Fn P w K mg base 1 "is_name" P_is_name (sp_is_name K)) (G__law_lowest : Sm.Fn P w K mg base 1 "_law_lowest" P__law_lowest (sp__law_lowest K))  : FnOk P w K mg base (L2.CX P w) 4 f fd P__law_judged (sp__law_judged K) := by
  refine F.ok sc__law_judged (fun vs H Q E h => ?_) (fun cdv A outer s H vs Q E hr h => ?_)
  · obtain ⟨p, rfl, _⟩ := h
    rfl
  obtain ⟨p, rfl, hd, hq⟩ := h
  refine ⟨_, (pss_cons (ps_set (i := 1) sc__law_judged.nd rfl (Or.inl rfl) (Sm.pe_fn G__law_one_of hr (pa_cons (pv 0) (pa_cons (pe_lst (pa_cons pe_int (pa_cons pe_int (pa_cons (pe_un un_neg pe_int) (pa_cons pe_int (pa_cons pe_int (pa_cons (pe_un un_neg pe_int) (pa_cons pe_int (pa_cons pe_int (pa_cons (pe_un un_neg pe_int) (pa_cons (pe_op op_sub (pe_op Sm.op_powW pe_int pe_int) pe_int) (pa_cons (pe_op Sm.op_powW pe_int pe_int) (pa_cons (pe_op op_sub pe_int (pe_op Sm.op_powW pe_int pe_int)) (pa_cons pe_bl (pa_cons pe_non (pa_cons pe_str pa_nil)))))))))))))))) pa_nil))))
      (pss_cons (ps_set (i := 2) sc__law_judged.nd rfl (Or.inl rfl) (Sm.pe_fn G__law_one_of hr (pa_cons (pv 0) (pa_cons (pe_lst (pa_cons pe_int (pa_cons pe_int (pa_cons pe_int (pa_cons pe_int (pa_cons pe_int (pa_cons pe_int (pa_cons pe_int (pa_cons pe_int (pa_cons pe_int (pa_cons pe_int (pa_cons (pe_un un_neg pe_int) (pa_cons pe_bl (pa_cons pe_str pa_nil)))))))))))))) pa_nil))))
      (pss_cons (ps_set (i := 3) sc__law_judged.nd rfl (Or.inl rfl) (Sm.pe_fn G__law_one_of hr (pa_cons (pv 0) (pa_cons (pe_lst (pa_cons (pe_tup (pa_cons (pv 1) (pa_cons (pv 2) pa_nil))) (pa_cons (pe_tup (pa_cons (pv 1) (pa_cons (pv 2) pa_nil))) (pa_cons (pe_tup (pa_cons (pv 1) (pa_cons (pv 2) pa_nil))) (pa_cons (pe_tup (pa_cons (pv 1) pa_nil)) (pa_cons (pe_tup (pa_cons (pv 1) (pa_cons (pv 2) (pa_cons pe_int pa_nil)))) (pa_cons (pe_lst (pa_cons (pv 1) (pa_cons (pv 2) pa_nil))) pa_nil))))))) pa_nil))))
      (Sm.pss_cut3 (ps_set (i := 4) sc__law_judged.nd rfl (Or.inl rfl) (pe_and (pe_cmpR Sm.op_niU (pe_callB Sm.call_reprL rfl T.f_repr (by decide +kernel) (pa_cons (pv 1) pa_nil)) (pe_tup (pa_cons pe_str (pa_cons pe_str (pa_cons pe_str pa_nil)))) (by rfl)) (pe_one (pe_cmpR Sm.op_niU (pe_callB Sm.call_reprL rfl T.f_repr (by decide +kernel) (pa_cons (pv 2) pa_nil)) (pe_tup (pa_cons pe_str (pa_cons pe_str (pa_cons pe_str (pa_cons pe_str pa_nil))))) (by rfl))))) (ps_set (i := 5) sc__law_judged.nd rfl (Or.inl rfl) (pe_and (pe_callB call_isi rfl T.f_isinstance (by decide +kernel) (pa_cons (pv 3) (pa_cons (Sm.pe_ty (n := "tuple") T.f_tuple (by decide +kernel)) pa_nil))) (pe_and (pe_cmpR (Sm.op_eqU hr) (pe_callB Sm.call_lenU rfl T.f_len (by decide +kernel) (pa_cons (pv 3) pa_nil)) pe_int (nomark _)) (pe_one (pv 4))))) (ps_set (i := 5) sc__law_judged.nd rfl (Or.inl rfl) (pe_and (pv 5) (pe_one (pe_cmpR (Sm.op_eqU hr) (Sm.pe_fn G__law_lowest hr (pa_cons (pv 1) (pa_cons (pv 2) pa_nil))) (pe_tup (pa_cons (pv 1) (pa_cons (pv 2) pa_nil))) (nomark _)))))
      (Sm.pss_cut3 (ps_if (pt_cmpR (Sm.op_neU hr) (Sm.pe_fn G_is_worth hr (pa_cons (pv 3) pa_nil)) (pv 5) (nomark _)) (pss_one (ps_ret pe_bl)) pss_nil) (ps_if (pt_cmpR (Sm.op_neU hr) (Sm.pe_fn G_is_cell_worth hr (pa_cons (pv 3) pa_nil)) (pe_and (pv 5) (pe_and (pe_cmpR op_lt (pe_callB Sm.call_absU rfl T.f_abs (by decide +kernel) (pa_cons (pv 1) pa_nil)) (pe_op Sm.op_powW pe_int pe_int) (nomark _)) (pe_one (pe_cmpR op_le (pv 2) pe_int (nomark _))))) (nomark _)) (pss_one (ps_ret pe_bl)) pss_nil) (ps_if (pt_cmpR (Sm.op_neU hr) (Sm.pe_fn G_is_weight hr (pa_cons (pv 3) pa_nil)) (pe_and (pv 5) (pe_and (pe_cmpR (Sm.op_neU hr) (pv 1) pe_int (nomark _)) (pe_and (pe_cmpR op_le (pe_callB Sm.call_absU rfl T.f_abs (by decide +kernel) (pa_cons (pv 1) pa_nil)) pe_int (nomark _)) (pe_one (pe_cmpR op_le (pv 2) pe_int (nomark _)))))) (nomark _)) (pss_one (ps_ret pe_bl)) pss_nil)
      (pss_cons (ps_set (i := 6) sc__law_judged.nd rfl (Or.inl rfl) (Sm.pe_fn G__law_one_of hr (pa_cons (pv 0) (pa_cons (pe_lst (pa_cons pe_str (pa_cons pe_str (pa_cons pe_str (pa_cons pe_str (pa_cons pe_str (pa_cons pe_str (pa_cons pe_str (pa_cons pe_str (pa_cons pe_str (pa_cons pe_str (pa_cons pe_non (pa_cons (pe_tup (pa_cons pe_str pa_nil)) (pa_cons pe_int pa_nil)))))))))))))) pa_nil))))
      (pss_one (ps_ret (pe_cmpR (Sm.op_eqU hr) (Sm.pe_fn G_is_name hr (pa_cons (pv 6) pa_nil)) (pe_cmpR (Sm.op_inT hr) (pv 6) (pe_tup (pa_cons pe_str (pa_cons pe_str (pa_cons pe_str (pa_cons pe_str pa_nil))))) (by rfl)) (nomark _)))))))))), ?_⟩
  rw [st__law_judged]
  repeat' wtm_at "st"
  rename_i q1 H1 hn1 he1 hq1
  refine c_one_of (dice_mv hd he1) (dice_lst hd hn1 hq1) (by simp) (by simp) (fun i vt H2 hx hs2 hd2 => ?_)
  obtain ⟨dt, ht, ht2, ht3, ht4⟩ := top_ok hx
  clear hx
  repeat' wtm_at "st"
  rename_i q2 H3 hn3 he3 hq3
  refine c_one_of (dice_mv hd2 he3) (dice_lst hd2 hn3 hq3) (by simp) (by simp) (fun i vb H4 hx hs4 hd4 => ?_)
  obtain ⟨db, hb, hb2, hb3, hb4⟩ := bot_ok hx
  clear hx
  repeat' wtm_at "st"
  rename_i t1 A1 n1 e1 h1 t2 A2 n2 e2 h2 t3 A3 n3 e3 h3 t4 A4 n4 e4 h4 t5 A5 n5 e5 h5 t6 A6 n6 e6 h6 t7 A7 n7 e7 h7
  have D1 := dice_mv hd4 e1
  have D2 := dice_mv D1 e2
  have D3 := dice_mv D2 e3
  have D4 := dice_mv D3 e4
  have D5 := dice_mv D4 e5
  have D6 := dice_mv D5 e6
  have B1 := dice_at hd4 n1 h1
  have B2 := dice_at D1 n2 h2
  have B3 := dice_at D2 n3 h3
  have B4 := dice_at D3 n4 h4
  have B5 := dice_at D4 n5 h5
  have B6 := dice_at D5 n6 h6
  refine c_one_of (dice_mv D6 e7) (dice_lst D6 n7 h7) (by simp) (by simp) (fun j vv G hx hs5 hd5 => ?_)
  have S6 : Same (Sm.dl A6 p) G := by wtm_at "sm"
  have S5 : Same (Sm.dl A5 p) G := (Sm.dl_both (Sm.dl_of e6)).trans S6
  have S4 : Same (Sm.dl A4 p) G := (Sm.dl_both (Sm.dl_of e5)).trans S5
  have S3 : Same (Sm.dl A3 p) G := (Sm.dl_both (Sm.dl_of e4)).trans S4
  have S2 : Same (Sm.dl A2 p) G := (Sm.dl_both (Sm.dl_of e3)).trans S3
  have S1 : Same (Sm.dl A1 p) G := (Sm.dl_both (Sm.dl_of e2)).trans S2
  obtain ⟨dv, hv, hform⟩ : ∃ dv, Dp K G vv dv ∧ (dv = .tuple [dt, db] ∨ dv = .tuple [dt] ∨ dv = .tuple [dt, db, .int 1] ∨ dv = .list [dt, db]) := by
    rcases j with _ | _ | _ | _ | _ | _ | j <;> cases hx
    · exact ⟨_, .tup (.inl (.inl (S1 _ _ B1))) (.cons (ht _ _) (.cons (hb _ _) .nil)), .inl rfl⟩
    · exact ⟨_, .tup (.inl (.inl (S2 _ _ B2))) (.cons (ht _ _) (.cons (hb _ _) .nil)), .inl rfl⟩
    · exact ⟨_, .tup (.inl (.inl (S3 _ _ B3))) (.cons (ht _ _) (.cons (hb _ _) .nil)), .inl rfl⟩
    · exact ⟨_, .tup (.inl (.inl (S4 _ _ B4))) (.cons (ht _ _) .nil), .inr (.inl rfl)⟩
    · exact ⟨_, .tup (.inl (.inl (S5 _ _ B5))) (.cons (ht _ _) (.cons (hb _ _) (.cons (.int 1) .nil))), .inr (.inr (.inl rfl))⟩
    · exact ⟨_, .lst (.inl (.inl (S6 _ _ B6))) (.cons (ht _ _) (.cons (hb _ _) .nil)), .inr (.inr (.inr rfl))⟩
  have SG : Same (Sm.dl H p) G := by
    clear S2 S3 S4 S5 S6
    have s4 : Same (Sm.dl H p) H4 := by
      clear S1 hs5
      wtm_at "sm"
    exact (Sm.dl_both (s4.trans e1)).trans S1
  clear hx S1 S2 S3 S4 S5 S6 B1 B2 B3 B4 B5 B6 D1 D2 D3 D4 D5 D6 hs5 e1 e2 e3 e4 e5 e6 e7 h1 h2 h3 h4 h5 h6 h7 n1 n2 n3 n4 n5 n6 n7 hs4 hs2 he1 he3 hd hd2 hd4 hn1 hn3 hq1 hq3
  repeat' wtm_at "st"
  refine ⟨fun σ H' => (∃ x, σ = [some (.ref p), some vt, some vb, some vv, some x, some (.bl (isWorth dv)), none]) ∧ Same G H', ?_, ?_⟩
  · have htG := ht K G
    have hbG := hb K G
    by_cases hw1 : isWhole dt = true
    · have i1 : inV (.str dt.shown) [.str "True", .str "None", .str "'1'"] = false := by rw [ht3, hw1]; rfl
      by_cases hw2 : bot db = true
      · have i2 : inV (.str db.shown) [.str "True", .str "'1'", .str "0", .str "-1"] = false := by rw [hb3, hw2]; rfl
        obtain ⟨t, rfl⟩ : ∃ t, dt = .int t := by cases dt <;> simp_all [isWhole]
        obtain ⟨b, rfl⟩ : ∃ t, db = .int t := by cases db <;> simp_all [bot]
        obtain ⟨rfl, hlt⟩ := ht4 t rfl
        obtain ⟨rfl, hlb⟩ := hb4 b rfl
        have hb1 : 1 ≤ b := of_decide_eq_true hw2
        have s3 : t.natAbs < 2 ^ 13000 ∧ b.natAbs < 2 ^ 13000 := ⟨pow_up hlt (by decide), pow_up hlb (by decide)⟩
        rcases hform with rfl | rfl | rfl | rfl
        · obtain ⟨qv, xs, rfl, hsq, hlen⟩ := dp_tup hv
          have hlen2 : xs.length = 2 := hlen
          repeat' wtm_at "st"
          rw [← fine_ok hb1]
          exact ⟨⟨_, rfl⟩, by wtm_at "sm"⟩
        · obtain ⟨qv, xs, rfl, hsq, hlen⟩ := dp_tup hv
          have hlen2 : xs.length = 1 := hlen
          repeat' wtm_at "st"
          exact ⟨⟨_, rfl⟩, by wtm_at "sm"⟩
        · obtain ⟨qv, xs, rfl, hsq, hlen⟩ := dp_tup hv
          have hlen2 : xs.length = 3 := hlen
          repeat' wtm_at "st"
          exact ⟨⟨_, rfl⟩, by wtm_at "sm"⟩
        · repeat' wtm_at "st"
          exact ⟨⟨_, rfl⟩, by wtm_at "sm"⟩
      · have hw2' : bot db = false := by simpa using hw2
        have i2 : inV (.str db.shown) [.str "True", .str "'1'", .str "0", .str "-1"] = true := by rw [hb3, hw2']; rfl
        rcases hform with rfl | rfl | rfl | rfl
        · obtain ⟨qv, xs, rfl, hsq, hlen⟩ := dp_tup hv
          have hlen2 : xs.length = 2 := hlen
          have hW := isWorth_r (dt := dt) hw2'
          rw [hW]
          repeat' wtm_at "st"
          exact ⟨⟨_, rfl⟩, by wtm_at "sm"⟩
        · obtain ⟨qv, xs, rfl, hsq, hlen⟩ := dp_tup hv
          have hlen2 : xs.length = 1 := hlen
          rw [isWorth_1]
          repeat' wtm_at "st"
          exact ⟨⟨_, rfl⟩, by wtm_at "sm"⟩
        · obtain ⟨qv, xs, rfl, hsq, hlen⟩ := dp_tup hv
          have hlen2 : xs.length = 3 := hlen
          rw [isWorth_3]
          repeat' wtm_at "st"
          exact ⟨⟨_, rfl⟩, by wtm_at "sm"⟩
        · rw [isWorth_list]
          repeat' wtm_at "st"
          exact ⟨⟨_, rfl⟩, by wtm_at "sm"⟩
    · have hw1' : isWhole dt = false := by simpa using hw1
      have i1 : inV (.str dt.shown) [.str "True", .str "None", .str "'1'"] = true := by rw [ht3, hw1']; rfl
      rcases hform with rfl | rfl | rfl | rfl
      · obtain ⟨qv, xs, rfl, hsq, hlen⟩ := dp_tup hv
        have hlen2 : xs.length = 2 := hlen
        rw [isWorth_l (db := db) hw1']
        repeat' wtm_at "st"
        exact ⟨⟨_, rfl⟩, by wtm_at "sm"⟩
      · obtain ⟨qv, xs, rfl, hsq, hlen⟩ := dp_tup hv
        have hlen2 : xs.length = 1 := hlen
        rw [isWorth_1]
        repeat' wtm_at "st"
        exact ⟨⟨_, rfl⟩, by wtm_at "sm"⟩
      · obtain ⟨qv, xs, rfl, hsq, hlen⟩ := dp_tup hv
        have hlen2 : xs.length = 3 := hlen
        rw [isWorth_3]
        repeat' wtm_at "st"
        exact ⟨⟨_, rfl⟩, by wtm_at "sm"⟩
      · rw [isWorth_list]
        repeat' wtm_at "st"
        exact ⟨⟨_, rfl⟩, by wtm_at "sm"⟩
  · rintro σ H5 ⟨⟨x, rfl⟩, hs5⟩
    have hv5 := Sm.dp_at hv hs5
    have hd6 := dice_mv hd5 hs5
    refine ⟨fun σ H' => (∃ x y, σ = [some (.ref p), some vt, some vb, some vv, some x, some y, none]) ∧ Same H5 H', ?_, ?_⟩
    · have q1 := eqv_b (isWorth dv)
      have ub : UseBC := trivial
      by_cases hW : isWorth dv = true
      · obtain ⟨t, b, e0, hb1, hg⟩ := isWorth_elim hW
        obtain ⟨e1, e2⟩ : dt = .int t ∧ db = .int b := by
          rcases hform with h | h | h | h
          · rw [e0] at h
            injection h with h
            injection h with h1 h2
            injection h2 with h2 h3
            exact ⟨h1.symm, h2.symm⟩
          · rw [e0] at h
            injection h with h
            injection h with h1 h2
            cases h2
          · rw [e0] at h
            injection h with h
            injection h with h1 h2
            injection h2 with h2 h3
            cases h3
          · rw [e0] at h
            cases h
        subst e1 e2
        obtain ⟨rfl, _⟩ := ht4 t rfl
        obtain ⟨rfl, _⟩ := hb4 b rfl
        have hC : isCell dv = (decide ((t.natAbs : Int) < BC) && decide (b ≤ 1000)) := by
          rw [e0]
          show (isWorth (.tuple [.int t, .int b]) && (decide ((t.natAbs : Int) < BC) && decide (b ≤ 1000))) = _
          rw [← e0, hW, Bool.true_and]
        have hS : isWeight dv = (!decide (t = 0) && (decide ((t.natAbs : Int) ≤ 99) && decide (b ≤ 10))) := by
          rw [e0]
          show (isWorth (.tuple [.int t, .int b]) && (!decide (t = 0) && (decide ((t.natAbs : Int) ≤ 99) && decide (b ≤ 10)))) = _
          rw [← e0, hW, Bool.true_and]
        have f1 : ∀ z : Bool, isCell dv = z → PyData.eqv (.bool (isCell dv)) (.bool z) = true := fun z h => by rw [h]; exact eqv_b z
        have f2 : ∀ z : Bool, isWeight dv = z → PyData.eqv (.bool (isWeight dv)) (.bool z) = true := fun z h => by rw [h]; exact eqv_b z
        by_cases h1 : (t.natAbs : Int) < BC
        · have g1 := f1 _ (by rw [hC, decide_eq_true h1, Bool.true_and])
          by_cases h2 : t = 0
          · have g2 := f2 false (by rw [hS, decide_eq_true h2]; rfl)
            repeat' wtm_at "st"
            exact ⟨⟨_, _, rfl⟩, by wtm_at "sm"⟩
          · by_cases h3 : (t.natAbs : Int) ≤ 99
            · have g2 := f2 _ (by rw [hS, decide_eq_false h2, decide_eq_true h3, Bool.not_false, Bool.true_and, Bool.true_and])
              repeat' wtm_at "st"
              exact ⟨⟨_, _, rfl⟩, by wtm_at "sm"⟩
            · have g2 := f2 false (by rw [hS, decide_eq_false h2, decide_eq_false h3, Bool.not_false, Bool.true_and, Bool.false_and])
              repeat' wtm_at "st"
              exact ⟨⟨_, _, rfl⟩, by wtm_at "sm"⟩
        · have g1 := f1 false (by rw [hC, decide_eq_false h1, Bool.false_and])
          have hbc : 100 ≤ BC := by rw [← bc_val]; decide
          have h2 : ¬ t = 0 := fun z => h1 (by rw [z]; show (0 : Int) < BC; omega)
          have h3 : ¬ (t.natAbs : Int) ≤ 99 := fun z => h1 (by omega)
          have g2 := f2 false (by rw [hS, decide_eq_false h2, decide_eq_false h3, Bool.not_false, Bool.true_and, Bool.false_and])
          repeat' wtm_at "st"
          exact ⟨⟨_, _, rfl⟩, by wtm_at "sm"⟩
      · have hW' : isWorth dv = false := by simpa using hW
        have g1 : PyData.eqv (.bool (isCell dv)) (.bool false) = true := by rw [isCell_f hW']; rfl
        have g2 : PyData.eqv (.bool (isWeight dv)) (.bool false) = true := by rw [isWeight_f hW']; rfl
        repeat' wtm_at "st"
        exact ⟨⟨_, _, rfl⟩, by wtm_at "sm"⟩
    · rintro σ H6 ⟨⟨x, y, rfl⟩, hs6⟩
      have hd7 := dice_mv hd6 hs6
      repeat' wtm_at "st"
      rename_i t8 A8 n8 e8 h8 t9 A9 n9 e9 h9
      have D8 := dice_mv hd7 e8
      have B8 := dice_at hd7 n8 h8
      refine c_one_of (dice_mv D8 e9) (dice_lst D8 n9 h9) (by simp) (by simp) (fun j vn G2 hx hs9 hd9 => ?_)
      have S8 : Same (Sm.dl A8 p) G2 := (Sm.dl_both (Sm.dl_of e9)).trans hs9
      obtain ⟨dn, hdn, hn1, hn2, hn3⟩ := name_ok (.inl (.inl (S8 _ _ B8))) hx
      have SE : Same (Sm.dl H p) G2 := (Sm.dl_both (((SG.trans hs5).trans hs6).trans e8)).trans S8
      repeat' wtm_at "st"
      rename_i Ha hsa pl Hb hnb heb hpl
      have qn : PyData.eqv (.bool (isName dn)) (.bool (nameData.any fun z => PyData.eqv z dn)) = true := by rw [hn1]; exact eqv_b _
      refine ⟨dn, nameData, Sm.dp_at hdn (hsa.trans heb), .tup (.inl (.inl hpl)) (.cons (.str _) (.cons (.str _) (.cons (.str _) (.cons (.str _) .nil)))), hn2, by decide +kernel, ?_⟩
      repeat' wtm_at "st"
      exact Sm.fin (hq _ (SE.trans (hsa.trans heb)) (dice_mv hd9 (hsa.trans heb))) (congrArg V.bl qn.symm)
end
section
variable {P : Program} {w : World} {K : PySem.W.Frag} {mg : Str → Option Value} {base : Heap} {f : Addr} {fd : FuncData}
theorem ok__law_refused_right (T : Txt P K mg) (F : FD K "_law_refused_right" s__law_refused_right (He.fAd K ("_law_refused_right", none)) fd) (G__law_one_of : Sm.Fn P w K mg base 2 "_law_one_of" P__law_one_of (sp__law_one_of K)) (G_is_below : Sm.Fn P w K mg base 5 "is_below" P_is_below (sp_is_below K)) (G_is_great : Sm.Fn P w K mg base 5 "is_great" P_is_great (sp_is_great K)) (G_weighted_sum : Sm.Fn P w K mg base 5 "weighted_sum" P_weighted_sum (sp_weighted_sum K)) (G_worth : Sm.Fn P w K mg base 3 "worth" P_worth (sp_worth K)) (G_over : Sm.Fn P w K mg base 6 "over" P_over (sp_over K)) (TB : LamX.TabB base mg (He.cT K ("_law_refused_right", none)).1 (He.cT K ("_law_refused_right", none)).2) (hTn : ((TT K).map (·.1)).Nodup) (Cat : Sm.Catch P w K mg base "_law_met" "_law_call" N__law_met (defArgs s__law_met) (defBody s__law_met) (defScope s__law_met) (TMet K)) (W__law_call : ∀ f, Sop K f → ∃ fd, FnOk P w K mg base (L2.CX P w) 6 f fd P_plus (sp_bad2 K) ∧ PySem.W.keepIn K (.ref f) = true ∧ Binds K fd P_plus []) : Sm.FnG P w K mg base 9 (He.fAd K ("_law_refused_right", none)) fd P__law_refused_right (sp__law_refused_right K) := by
  refine Sm.FnG.mk1 F sc__law_refused_right (fun vs H Q E h => ?_) (fun A outer s H vs Q E gd hr h => ?_)
  · obtain ⟨p, x, y, d, e, rfl, _⟩ := h
    rfl
  obtain ⟨p, x, y, d, e, rfl, hd, hdx, hdy, fd, fe, hT, hq⟩ := h
  refine ⟨_, (pss_cons (ps_set (i := 3) sc__law_refused_right.nd rfl (Or.inr rfl) (Sm.pe_fn G__law_one_of hr (pa_cons (pv 0) (pa_cons (pe_lst (pa_cons (pe_tup (pa_cons pe_int (pa_cons pe_int pa_nil))) (pa_cons (pe_tup (pa_cons pe_int (pa_cons pe_int pa_nil))) (pa_cons (pe_tup (pa_cons pe_int (pa_cons (pe_un un_neg pe_int) pa_nil))) (pa_cons (pe_lst (pa_cons pe_int (pa_cons pe_int pa_nil))) (pa_cons (pe_tup (pa_cons pe_bl (pa_cons pe_int pa_nil))) (pa_cons (pe_tup (pa_cons pe_int (pa_cons pe_bl pa_nil))) (pa_cons pe_int (pa_cons pe_str (pa_cons (pe_tup (pa_cons pe_int (pa_cons pe_int pa_nil))) (pa_cons (pe_tup pa_nil) pa_nil))))))))))) pa_nil))))
      (pss_cons (ps_set (i := 4) sc__law_refused_right.nd rfl (Or.inl rfl) (pe_lst pa_nil))
      (pss_cons (ps_for (passes_of rfl) rfl (pi_tup (pe_tup (pa_cons (Sm.pe_gr T.g_plus) (pa_cons (Sm.pe_gr T.g_minus) (pa_cons (Sm.pe_gr T.g_times) (pa_cons (Sm.pe_gr T.g_over) pa_nil)))))) (pg_name (i := 5) sc__law_refused_right.nd rfl (Or.inr rfl)) (pss_cons (ps_expr (pe_bm PySem.F.plainAttrs_list PySem.F.slot_list_append PySem.F.type_list_append mt_append (pv 4) (pa_cons (Sm.pe_catch (k := 6) (T := TT K) Cat gd TB rfl (TTm__law_refused_right K) (Sm.tab_uni hTn (TTm__law_refused_right K)) hr (LamX.lamS_by (by kernel_rfl)) (by decide) (fun A outer s H E f c' hr => (Sm.pe_fnW (i := 5) W__law_call hr (Sm.passE rfl rfl rfl rfl) rfl (by first | exact Or.inl rfl | exact Or.inr (Or.inl rfl) | exact Or.inr (Or.inr rfl)) (pa_cons (pv 3) (pa_cons (pv 2) pa_nil))))) pa_nil)))
      (pss_one (ps_expr (pe_bm PySem.F.plainAttrs_list PySem.F.slot_list_append PySem.F.type_list_append mt_append (pv 4) (pa_cons (Sm.pe_catch (k := 6) (T := TT K) Cat gd TB rfl (TTm__law_refused_right K) (Sm.tab_uni hTn (TTm__law_refused_right K)) hr (LamX.lamS_by (by kernel_rfl)) (by decide) (fun A outer s H E f c' hr => (Sm.pe_fnW (i := 5) W__law_call hr (Sm.passE rfl rfl rfl rfl) rfl (by first | exact Or.inl rfl | exact Or.inr (Or.inl rfl) | exact Or.inr (Or.inr rfl)) (pa_cons (pv 1) (pa_cons (pv 3) pa_nil))))) pa_nil))))))
      (pss_cons (ps_expr (pe_bm PySem.F.plainAttrs_list PySem.F.slot_list_append PySem.F.type_list_append mt_append (pv 4) (pa_cons (Sm.pe_catch (k := 6) (T := TT K) Cat gd TB rfl (TTm__law_refused_right K) (Sm.tab_uni hTn (TTm__law_refused_right K)) hr (LamX.lamS_by (by kernel_rfl)) (by decide) (fun A outer s H E f c' hr => (Sm.pe_fnE G_is_below hr (pa_cons (pe_tup (pa_cons pe_int (pa_cons pe_int pa_nil))) (pa_cons (pv 3) pa_nil)) (Sm.passE rfl rfl rfl rfl)))) pa_nil)))
      (pss_cons (ps_expr (pe_bm PySem.F.plainAttrs_list PySem.F.slot_list_append PySem.F.type_list_append mt_append (pv 4) (pa_cons (Sm.pe_catch (k := 6) (T := TT K) Cat gd TB rfl (TTm__law_refused_right K) (Sm.tab_uni hTn (TTm__law_refused_right K)) hr (LamX.lamS_by (by kernel_rfl)) (by decide) (fun A outer s H E f c' hr => (Sm.pe_fnE G_is_below hr (pa_cons (pv 3) (pa_cons (pv 3) pa_nil)) (Sm.passE rfl rfl rfl rfl)))) pa_nil)))
      (pss_cons (ps_expr (pe_bm PySem.F.plainAttrs_list PySem.F.slot_list_append PySem.F.type_list_append mt_append (pv 4) (pa_cons (Sm.pe_catch (k := 6) (T := TT K) Cat gd TB rfl (TTm__law_refused_right K) (Sm.tab_uni hTn (TTm__law_refused_right K)) hr (LamX.lamS_by (by kernel_rfl)) (by decide) (fun A outer s H E f c' hr => (Sm.pe_fnE G_is_below hr (pa_cons pe_non (pa_cons (pe_tup (pa_cons pe_int (pa_cons pe_int pa_nil))) pa_nil)) (Sm.passE rfl rfl rfl rfl)))) pa_nil)))
      (pss_cons (ps_expr (pe_bm PySem.F.plainAttrs_list PySem.F.slot_list_append PySem.F.type_list_append mt_append (pv 4) (pa_cons (Sm.pe_catch (k := 6) (T := TT K) Cat gd TB rfl (TTm__law_refused_right K) (Sm.tab_uni hTn (TTm__law_refused_right K)) hr (LamX.lamS_by (by kernel_rfl)) (by decide) (fun A outer s H E f c' hr => (Sm.pe_fnE G_is_great hr (pa_cons (pv 3) pa_nil) (Sm.passE rfl rfl rfl rfl)))) pa_nil)))
      (pss_cons (ps_expr (pe_bm PySem.F.plainAttrs_list PySem.F.slot_list_append PySem.F.type_list_append mt_append (pv 4) (pa_cons (Sm.pe_catch (k := 6) (T := TT K) Cat gd TB rfl (TTm__law_refused_right K) (Sm.tab_uni hTn (TTm__law_refused_right K)) hr (LamX.lamS_by (by kernel_rfl)) (by decide) (fun A outer s H E f c' hr => (Sm.pe_fnE G_over hr (pa_cons (pe_tup (pa_cons pe_int (pa_cons pe_int pa_nil))) (pa_cons (pe_tup (pa_cons pe_int (pa_cons pe_int pa_nil))) pa_nil)) (Sm.passE rfl rfl rfl rfl)))) pa_nil)))
      (pss_cons (ps_if (pt_cmpR (Sm.op_neU hr) (pv 4) (pe_op op_rep (pe_lst (pa_cons pe_str pa_nil)) pe_int) (nomark _)) (pss_one (ps_ret pe_bl)) pss_nil)
      (pss_cons (ps_set (i := 6) sc__law_refused_right.nd rfl (Or.inr rfl) (Sm.pe_fn G__law_one_of hr (pa_cons (pv 0) (pa_cons (pe_lst (pa_cons (pe_lst (pa_cons (pe_tup (pa_cons (pe_tup (pa_cons pe_int (pa_cons pe_int pa_nil))) (pa_cons pe_non pa_nil))) pa_nil)) (pa_cons (pe_tup (pa_cons (pe_tup (pa_cons pe_int (pa_cons pe_int pa_nil))) pa_nil)) (pa_cons (pe_tup (pa_cons (pe_tup (pa_cons (pv 3) (pa_cons pe_non pa_nil))) pa_nil)) (pa_cons (pe_tup (pa_cons (pe_tup (pa_cons (pe_tup (pa_cons pe_int (pa_cons pe_int pa_nil))) (pa_cons (pv 3) pa_nil))) pa_nil)) (pa_cons (pe_tup (pa_cons (pe_tup (pa_cons pe_non (pa_cons pe_non pa_nil))) pa_nil)) (pa_cons pe_non pa_nil))))))) pa_nil))))
      (pss_cons (ps_set (i := 7) sc__law_refused_right.nd rfl (Or.inr rfl) (Sm.pe_fn G__law_one_of hr (pa_cons (pv 0) (pa_cons (pe_lst (pa_cons pe_non (pa_cons pe_bl (pa_cons pe_str (pa_cons (pe_tup (pa_cons pe_int (pa_cons pe_int pa_nil))) (pa_cons (pe_cmpR (Sm.op_eqU hr) pe_int pe_int (nomark _)) pa_nil)))))) pa_nil))))
      (pss_cons (ps_set (i := 4) sc__law_refused_right.nd rfl (Or.inl rfl) (pe_lst (pa_cons (Sm.pe_catch (k := 6) (T := TT K) Cat gd TB rfl (TTm__law_refused_right K) (Sm.tab_uni hTn (TTm__law_refused_right K)) hr (LamX.lamS_by (by kernel_rfl)) (by decide) (fun A outer s H E f c' hr => (Sm.pe_fnE G_weighted_sum hr (pa_cons (pv 6) pa_nil) (Sm.passE rfl rfl rfl rfl)))) pa_nil)))
      (pss_cons (ps_expr (pe_bm PySem.F.plainAttrs_list PySem.F.slot_list_append PySem.F.type_list_append mt_append (pv 4) (pa_cons (Sm.pe_catch (k := 6) (T := TT K) Cat gd TB rfl (TTm__law_refused_right K) (Sm.tab_uni hTn (TTm__law_refused_right K)) hr (LamX.lamS_by (by kernel_rfl)) (by decide) (fun A outer s H E f c' hr => (Sm.pe_fnE G_worth hr (pa_cons (pv 7) (pa_cons pe_int pa_nil)) (Sm.passE rfl rfl rfl rfl)))) pa_nil)))
      (pss_cons (ps_expr (pe_bm PySem.F.plainAttrs_list PySem.F.slot_list_append PySem.F.type_list_append mt_append (pv 4) (pa_cons (Sm.pe_catch (k := 6) (T := TT K) Cat gd TB rfl (TTm__law_refused_right K) (Sm.tab_uni hTn (TTm__law_refused_right K)) hr (LamX.lamS_by (by kernel_rfl)) (by decide) (fun A outer s H E f c' hr => (Sm.pe_fnE G_worth hr (pa_cons pe_int (pa_cons (pv 7) pa_nil)) (Sm.passE rfl rfl rfl rfl)))) pa_nil)))
      (pss_cons (ps_expr (pe_bm PySem.F.plainAttrs_list PySem.F.slot_list_append PySem.F.type_list_append mt_append (pv 4) (pa_cons (Sm.pe_catch (k := 6) (T := TT K) Cat gd TB rfl (TTm__law_refused_right K) (Sm.tab_uni hTn (TTm__law_refused_right K)) hr (LamX.lamS_by (by kernel_rfl)) (by decide) (fun A outer s H E f c' hr => (Sm.pe_fnE G_worth hr (pa_cons pe_int (pa_cons pe_int pa_nil)) (Sm.passE rfl rfl rfl rfl)))) pa_nil)))
      (pss_one (ps_ret (pe_cmpR (Sm.op_eqU hr) (pv 4) (pe_lst (pa_cons pe_str (pa_cons (pe_op Sm.op_addU pe_str (pe_callB (Sm.call_reprR gd hr) rfl T.f_repr (by decide +kernel) (pa_cons (pv 7) pa_nil))) (pa_cons (pe_op Sm.op_addU pe_str (pe_callB (Sm.call_reprR gd hr) rfl T.f_repr (by decide +kernel) (pa_cons (pv 7) pa_nil))) (pa_cons pe_str pa_nil))))) (nomark _))))))))))))))))))), ?_⟩
  rw [st__law_refused_right]
  repeat' wtm_at "st"
  rename_i t1 A1 n1 e1 h1 t2 A2 n2 e2 h2 t3 A3 n3 e3 h3 t4 A4 n4 e4 h4 t5 A5 n5 e5 h5 t6 A6 n6 e6 h6 t7 A7 n7 e7 h7 t8 A8 n8 e8 h8 t9 A9 n9 e9 h9
  have D1 := dice_mv hd e1
  have D2 := dice_mv D1 e2
  have D3 := dice_mv D2 e3
  have D4 := dice_mv D3 e4
  have D5 := dice_mv D4 e5
  have D6 := dice_mv D5 e6
  have D7 := dice_mv D6 e7
  have D8 := dice_mv D7 e8
  have B1 := dice_at hd n1 h1
  have B2 := dice_at D1 n2 h2
  have B3 := dice_at D2 n3 h3
  have B4 := dice_at D3 n4 h4
  have B5 := dice_at D4 n5 h5
  have B6 := dice_at D5 n6 h6
  have B7 := dice_at D6 n7 h7
  have B8 := dice_at D7 n8 h8
  refine c_one_of (dice_mv D8 e9) (dice_lst D8 n9 h9) (by simp) (by simp) (fun j vw G hx hs5 hdG => ?_)
  have S8 : Same (Sm.dl A8 p) (Sm.dl G p) := Sm.dl_both ((Sm.dl_both (Sm.dl_of e9)).trans hs5)
  have S7 : Same (Sm.dl A7 p) (Sm.dl G p) := (Sm.dl_both (Sm.dl_of e8)).trans S8
  have S6 : Same (Sm.dl A6 p) (Sm.dl G p) := (Sm.dl_both (Sm.dl_of e7)).trans S7
  have S5 : Same (Sm.dl A5 p) (Sm.dl G p) := (Sm.dl_both (Sm.dl_of e6)).trans S6
  have S4 : Same (Sm.dl A4 p) (Sm.dl G p) := (Sm.dl_both (Sm.dl_of e5)).trans S5
  have S3 : Same (Sm.dl A3 p) (Sm.dl G p) := (Sm.dl_both (Sm.dl_of e4)).trans S4
  have S2 : Same (Sm.dl A2 p) (Sm.dl G p) := (Sm.dl_both (Sm.dl_of e3)).trans S3
  have S1 : Same (Sm.dl A1 p) (Sm.dl G p) := (Sm.dl_both (Sm.dl_of e2)).trans S2
  have SH : Same (Sm.dl H p) (Sm.dl G p) := (Sm.dl_both (Sm.dl_of e1)).trans S1
  obtain ⟨dw, hw, hb1, hb2⟩ : ∃ dw, Dp K (Sm.dl G p) vw dw ∧ BadD dw := by
    rcases j with _ | _ | _ | _ | _ | _ | _ | _ | _ | _ | j <;> cases hx
    · exact ⟨_, .tup (.inl (.inl (S1 _ _ B1))) (.cons (.int _) (.cons (.int _) .nil)), rfl, rfl⟩
    · exact ⟨_, .tup (.inl (.inl (S2 _ _ B2))) (.cons (.int _) (.cons (.int _) .nil)), rfl, rfl⟩
    · exact ⟨_, .tup (.inl (.inl (S3 _ _ B3))) (.cons (.int _) (.cons (.int _) .nil)), rfl, rfl⟩
    · exact ⟨_, .lst (.inl (.inl (S4 _ _ B4))) (.cons (.int _) (.cons (.int _) .nil)), rfl, rfl⟩
    · exact ⟨_, .tup (.inl (.inl (S5 _ _ B5))) (.cons (.bl _) (.cons (.int _) .nil)), rfl, rfl⟩
    · exact ⟨_, .tup (.inl (.inl (S6 _ _ B6))) (.cons (.int _) (.cons (.bl _) .nil)), rfl, rfl⟩
    · exact ⟨_, .int _, rfl, rfl⟩
    · exact ⟨_, .str _, rfl, rfl⟩
    · exact ⟨_, .tup (.inl (.inl (S7 _ _ B7))) (.cons (.int _) (.cons (.int _) .nil)), rfl, rfl⟩
    · exact ⟨_, .tup (.inl (.inl (S8 _ _ B8))) .nil, rfl, rfl⟩
  have hTG : LamX.Tabs (TT K) G := (tabs_dl hT (Exists.choose_spec (Exists.choose_spec (Exists.choose_spec hd)))).ext (SH.trans Sm.dl_sub)
  have hx1 := Sm.dp_at hdx SH
  have hy1 := Sm.dp_at hdy SH
  clear hx S1 S2 S3 S4 S5 S6 S7 S8 B1 B2 B3 B4 B5 B6 B7 B8 D1 D2 D3 D4 D5 D6 D7 D8 hs5 e1 e2 e3 e4 e5 e6 e7 e8 e9 h1 h2 h3 h4 h5 h6 h7 h8 h9 n1 n2 n3 n4 n5 n6 n7 n8 n9 hd hdx hdy hT
  repeat' wtm_at "st"
  refine Sm.g_tupI ?_
  repeat' wtm_at "st"
  rename_i l G1 hnl hel hl q G2 hnq heq hq2
  have hl2 : G2 l = some (.lst []) := heq _ _ hl
  have sGZ : Same G (Sm.dl G2 l) := fun b o hb => by
    rw [Sm.dl_ne (fun z => by rw [z, hnl] at hb; cases hb)]
    exact heq _ _ (hel _ _ hb)
  have hTZ : LamX.Tabs (TT K) G2 := hTG.ext (hel.trans heq)
  have hwZ := Sm.dp_at hw (Sm.dl_sub.trans sGZ)
  have hxZ := Sm.dp_at hx1 (Sm.dl_sub.trans sGZ)
  have hyZ := Sm.dp_at hy1 (Sm.dl_sub.trans sGZ)
  have hqZ : Sm.dl G2 l q = some (.tup [V.ref (He.ga K "plus"), V.ref (He.ga K "minus"), V.ref (He.ga K "times"), V.ref (He.ga K "over")]) := by
    rw [Sm.dl_ne (fun z => by rw [z, hl] at hnq; cases hnq)]
    exact hq2
  refine Sm.g_tupIi (.inl (.inl hq2)) ?_
  refine Sm.g_forW (walk_tup (K := K) (a := q) (xs := [V.ref (He.ga K "plus"), V.ref (He.ga K "minus"), V.ref (He.ga K "times"), V.ref (He.ga K "over")])) (fun i σ H' => (∃ u, σ = [some (.ref p), some x, some y, some vw, some (.ref l), u, none, none]) ∧ LamX.ExtN (Sm.dl G2 l) H' ∧ LamX.Tabs (TT K) H' ∧ H' l = some (.lst (List.replicate (2 * i) (V.str "worth")))) ⟨⟨_, rfl⟩, LamX.ExtN.of Sm.dl_sub, hTZ, hl2⟩ (fun i σ H' _ z => .inl (.inl (Sm.exN_tup z.2.1 hqZ))) ?_ ?_
  · rintro i v σ L1 L2 hi ⟨⟨u, rfl⟩, hE, hT1, hL⟩ ⟨rfl, hy⟩
    obtain ⟨f, rfl, hf⟩ : ∃ f, v = .ref f ∧ Sop K f := by
      rcases i with _ | _ | _ | _ | i <;> cases hy
      · exact ⟨_, rfl, .inl rfl⟩
      · exact ⟨_, rfl, .inr (.inl rfl)⟩
      · exact ⟨_, rfl, .inr (.inr (.inl rfl))⟩
      · exact ⟨_, rfl, .inr (.inr (.inr rfl))⟩
    have hi4 : i < 4 := hi
    repeat' wtm_at "st"
    refine step_app (res := "worth") rfl hL (by rw [List.length_replicate]; omega) hT1 (fun Q1 M1 he ht k => ?_) (fun M3 he3 ht3 hL3 => ?_)
    · have hZ := LamX.ExtN.trans hE he
      refine ⟨⟨f, rfl, hf⟩, ?_⟩
      repeat' wtm_at "st"
      exact bad_2 T (Sm.exN_dp hZ hwZ) (Sm.exN_dp hZ hyZ) (.inl hb2) k
    have hE3 := exN_dl hE he3
    repeat' wtm_at "st"
    refine step_app (res := "worth") rfl hL3 (by rw [List.length_append, List.length_replicate]; simp; omega) ht3 (fun Q1 M1 he ht k => ?_) (fun M4 he4 ht4 hL4 => ?_)
    · have hZ := LamX.ExtN.trans hE3 he
      refine ⟨⟨f, rfl, hf⟩, ?_⟩
      repeat' wtm_at "st"
      exact bad_2 T (Sm.exN_dp hZ hxZ) (Sm.exN_dp hZ hwZ) (.inr hb2) k
    refine ⟨⟨_, rfl⟩, exN_dl hE3 he4, ht4, ?_⟩
    rw [hL4, show 2 * (i + 1) = 2 * i + 1 + 1 by omega, List.replicate_succ', List.replicate_succ']
  · rintro σ L1 ⟨⟨u, rfl⟩, hE, hT1, hL⟩
    have hL : L1 l = some (.lst (List.replicate 8 (V.str "worth"))) := hL
    repeat' wtm_at "st"
    refine step_app (res := "worth") rfl hL (by simp) hT1 (fun Q1 M1 he ht k => ?_) (fun L2 he2 hT2 hL2 => ?_)
    · have hZ := LamX.ExtN.trans hE he
      repeat' wtm_at "st"
      rename_i pa M2 hna hea hpa
      exact bad_below T (dp_pair hpa) (Sm.exN_dp (Sm.exN_same hZ hea) hwZ) (.inr hb1) (fun H2 hs => k H2 (hea.trans hs))
    have hE2 := exN_dl hE he2
    repeat' wtm_at "st"
    refine step_app (res := "worth") rfl hL2 (by simp) hT2 (fun Q1 M1 he ht k => ?_) (fun L3 he3 hT3 hL3 => ?_)
    · have hZ := LamX.ExtN.trans hE2 he
      repeat' wtm_at "st"
      exact bad_below T (Sm.exN_dp hZ hwZ) (Sm.exN_dp hZ hwZ) (.inl hb1) k
    have hE3 := exN_dl hE2 he3
    repeat' wtm_at "st"
    refine step_app (res := "worth") rfl hL3 (by simp) hT3 (fun Q1 M1 he ht k => ?_) (fun L4 he4 hT4 hL4 => ?_)
    · have hZ := LamX.ExtN.trans hE3 he
      repeat' wtm_at "st"
      rename_i pa M2 hna hea hpa
      exact bad_below T .non (dp_pair hpa) (.inl rfl) (fun H2 hs => k H2 (hea.trans hs))
    have hE4 := exN_dl hE3 he4
    repeat' wtm_at "st"
    refine step_app (res := "worth") rfl hL4 (by simp) hT4 (fun Q1 M1 he ht k => ?_) (fun L5 he5 hT5 hL5 => ?_)
    · have hZ := LamX.ExtN.trans hE4 he
      repeat' wtm_at "st"
      exact bad_great T (Sm.exN_dp hZ hwZ) hb1 k
    have hE5 := exN_dl hE4 he5
    repeat' wtm_at "st"
    refine step_app (res := "worth") rfl hL5 (by simp) hT5 (fun Q1 M1 he ht k => ?_) (fun L6 he6 hT6 hL6 => ?_)
    · have hZ := LamX.ExtN.trans hE5 he
      repeat' wtm_at "st"
      rename_i pa M2 hna hea hpa pb M3 hnb heb hpb
      exact bad_over T (dp_pair (heb _ _ hpa)) (dp_pair hpb) okOp_03 (fun H2 hs => k H2 ((hea.trans heb).trans hs))
    have hE6 := exN_dl hE5 he6
    repeat' wtm_at "st"
    have hL7 : L6 l = some (.lst (List.replicate 13 (V.str "worth"))) := hL6
    rename_i pz M1 hnz hez hpz pr M2 hnr her hpr
    have hlM : M2 l = some (.lst (List.replicate 13 (V.str "worth"))) := her _ _ (hez _ _ hL7)
    have hpr2 : M2 pr = some (.lst (List.replicate 13 (V.str "worth"))) := hpr
    have ev : PyData.eqv (.list (List.replicate 13 (.str "worth"))) (.list (List.replicate 13 (.str "worth"))) = true := by decide +kernel
    have sv : SeqAt.shaped (.list (List.replicate 13 (.str "worth"))) = true := by decide +kernel
    have hdM : Dice M2 p := dice_mv (exN_dice (dice_mv hdG sGZ) hE6) (hez.trans her)
    have hTM : LamX.Tabs (TT K) M2 := hT6.ext (hez.trans her)
    have xM : LamX.ExtN (Sm.dl H p) (Sm.dl M2 p) := LamX.ExtN.trans (Sm.same_exN (SH.trans (same_dlb sGZ)) (exN_dlb hE6)) (LamX.ExtN.of (same_dlb (hez.trans her)))
    have hwM : Dp K (Sm.dl M2 p) vw dw := Sm.exN_dp (LamX.ExtN.trans (Sm.same_exN (same_dlb sGZ) (exN_dlb hE6)) (LamX.ExtN.of (same_dlb (hez.trans her)))) hw
    refine Sm.g_neD (.lst (.inl (.inl hlM)) (dpAll_rep _ 13)) (.lst (.inl (.inl hpr2)) (dpAll_rep _ 13)) sv sv ?_
    rw [ev]
    clear ev sv hpr hpr2 hlM hL7 hL6 hL5 hL4 hL3 hL2 hL hT6 hT5 hT4 hT3 hT2 hT1 hE5 hE4 hE3 hE2 hE he6 he5 he4 he3 he2 hpz
    repeat' wtm_at "st"
    rename_i c1 C1 nc1 ec1 hc1 c2 C2 nc2 ec2 hc2 c3 C3 nc3 ec3 hc3 c4 C4 nc4 ec4 hc4 c5 C5 nc5 ec5 hc5 c6 C6 nc6 ec6 hc6 c7 C7 nc7 ec7 hc7 c8 C8 nc8 ec8 hc8 c9 C9 nc9 ec9 hc9 c10 C10 nc10 ec10 hc10 c11 C11 nc11 ec11 hc11 c12 C12 nc12 ec12 hc12 c13 C13 nc13 ec13 hc13
    have F1 := dice_mv hdM ec1
    have B1 := dice_at hdM nc1 hc1
    have F2 := dice_mv F1 ec2
    have B2 := dice_at F1 nc2 hc2
    have F3 := dice_mv F2 ec3
    have B3 := dice_at F2 nc3 hc3
    have F4 := dice_mv F3 ec4
    have B4 := dice_at F3 nc4 hc4
    have F5 := dice_mv F4 ec5
    have B5 := dice_at F4 nc5 hc5
    have F6 := dice_mv F5 ec6
    have B6 := dice_at F5 nc6 hc6
    have F7 := dice_mv F6 ec7
    have B7 := dice_at F6 nc7 hc7
    have F8 := dice_mv F7 ec8
    have B8 := dice_at F7 nc8 hc8
    have F9 := dice_mv F8 ec9
    have B9 := dice_at F8 nc9 hc9
    have F10 := dice_mv F9 ec10
    have B10 := dice_at F9 nc10 hc10
    have F11 := dice_mv F10 ec11
    have B11 := dice_at F10 nc11 hc11
    have F12 := dice_mv F11 ec12
    have B12 := dice_at F11 nc12 hc12
    refine c_one_of (dice_mv F12 ec13) (dice_lst F12 nc13 hc13) (by simp) (by simp) (fun j vp J hx hsJ hdJ => ?_)
    have S12 : Same (Sm.dl C12 p) (Sm.dl J p) := Sm.dl_both ((same_dlb ec13).trans hsJ)
    have S11 : Same (Sm.dl C11 p) (Sm.dl J p) := (same_dlb ec12).trans S12
    have S10 : Same (Sm.dl C10 p) (Sm.dl J p) := (same_dlb ec11).trans S11
    have S9 : Same (Sm.dl C9 p) (Sm.dl J p) := (same_dlb ec10).trans S10
    have S8 : Same (Sm.dl C8 p) (Sm.dl J p) := (same_dlb ec9).trans S9
    have S7 : Same (Sm.dl C7 p) (Sm.dl J p) := (same_dlb ec8).trans S8
    have S6 : Same (Sm.dl C6 p) (Sm.dl J p) := (same_dlb ec7).trans S7
    have S5 : Same (Sm.dl C5 p) (Sm.dl J p) := (same_dlb ec6).trans S6
    have S4 : Same (Sm.dl C4 p) (Sm.dl J p) := (same_dlb ec5).trans S5
    have S3 : Same (Sm.dl C3 p) (Sm.dl J p) := (same_dlb ec4).trans S4
    have S2 : Same (Sm.dl C2 p) (Sm.dl J p) := (same_dlb ec3).trans S3
    have S1 : Same (Sm.dl C1 p) (Sm.dl J p) := (same_dlb ec2).trans S2
    have SM : Same (Sm.dl M2 p) (Sm.dl J p) := (same_dlb ec1).trans S1
    have hwJ := Sm.dp_at hwM SM
    have i11 : ∀ z, Dp K (Sm.dl J p) (.ref z) (.tuple [.int 1, .int 1]) → True := fun _ _ => trivial
    obtain ⟨dp, hp, hpa⟩ : ∃ dp, Dp K (Sm.dl J p) vp dp ∧ PaD dp := by
      have q1 := tupD (S1 _ _ B1) (dpAll_2 (.int 1) (.int 1)) (K := K)
      have q4 := tupD (S4 _ _ B4) (dpAll_2 (.int 1) (.int 1)) (K := K)
      have q8 := tupD (S8 _ _ B8) (dpAll_2 (.int 1) (.int 1)) (K := K)
      rcases j with _ | _ | _ | _ | _ | _ | j <;> cases hx
      · exact ⟨_, .lst (.inl (.inl (S3 _ _ B3))) (dpAll_1 (tupD (S2 _ _ B2) (dpAll_2 q1 .non))), rfl, fun ds e => by cases e⟩
      · exact ⟨_, tupD (S5 _ _ B5) (dpAll_1 q4), pa_1 rfl⟩
      · exact ⟨_, tupD (S7 _ _ B7) (dpAll_1 (tupD (S6 _ _ B6) (dpAll_2 hwJ .non))), pa_1 (by rw [isPair_2, hb1, Bool.false_and])⟩
      · exact ⟨_, tupD (S10 _ _ B10) (dpAll_1 (tupD (S9 _ _ B9) (dpAll_2 q8 hwJ))), pa_1 (by rw [isPair_2, hb2, Bool.and_false])⟩
      · exact ⟨_, tupD (S12 _ _ B12) (dpAll_1 (tupD (S11 _ _ B11) (dpAll_2 .non .non))), pa_1 rfl⟩
      · exact ⟨_, .non, rfl, fun ds e => by cases e⟩
    have hTJ : LamX.Tabs (TT K) J := (tabs_dl hTM (Exists.choose_spec (Exists.choose_spec (Exists.choose_spec hdM)))).ext (SM.trans Sm.dl_sub)
    have xJ := LamX.ExtN.trans xM (LamX.ExtN.of SM)
    clear hx hsJ i11 S1 S2 S3 S4 S5 S6 S7 S8 S9 S10 S11 S12 B1 B2 B3 B4 B5 B6 B7 B8 B9 B10 B11 B12 F1 F2 F3 F4 F5 F6 F7 F8 F9 F10 F11 F12 SM hwJ
    clear ec1 nc1 hc1 ec2 nc2 hc2 ec3 nc3 hc3 ec4 nc4 hc4 ec5 nc5 hc5 ec6 nc6 hc6 ec7 nc7 hc7 ec8 nc8 hc8 ec9 nc9 hc9 ec10 nc10 hc10 ec11 nc11 hc11 ec12 nc12 hc12 ec13 nc13 hc13
    repeat' wtm_at "st"
    rename_i o1 O1 no1 eo1 ho1 o2 O2 no2 eo2 ho2
    have F1 := dice_mv hdJ eo1
    have B1 := dice_at hdJ no1 ho1
    refine c_one_of (dice_mv F1 eo2) (dice_lst F1 no2 ho2) (by simp) (by simp) (fun j vo N hx hsN hdN => ?_)
    have S1 : Same (Sm.dl O1 p) (Sm.dl N p) := Sm.dl_both ((same_dlb eo2).trans hsN)
    have SJ : Same (Sm.dl J p) (Sm.dl N p) := (same_dlb eo1).trans S1
    obtain ⟨dd, ho, hw0, hb0, hcl, hsh⟩ := odd_ok (K := K) (H := Sm.dl N p) (.inl (.inl (S1 _ _ B1))) hx
    have hTN : LamX.Tabs (TT K) N := (tabs_dl hTJ (Exists.choose_spec (Exists.choose_spec (Exists.choose_spec hdJ)))).ext (SJ.trans Sm.dl_sub)
    have xN := LamX.ExtN.trans xJ (LamX.ExtN.of SJ)
    have hpN := Sm.dp_at (Sm.dp_at hp SJ) Sm.dl_sub
    have hoN := Sm.dp_at ho Sm.dl_sub
    clear hx hsN S1 B1 F1 eo1 eo2 ho1 ho2 no1 no2
    repeat' wtm_at "st"
    refine g_lam hTN (fun P1 ex1 ht1 => ?_)
    have hpP := Sm.exN_dp ex1 hpN
    have hoP := Sm.exN_dp ex1 hoN
    repeat' wtm_at "st"
    refine bad_wsum T hpP hpa.2 hpa.1 (fun P2 hsP2 => ?_)
    repeat' wtm_at "st"
    rename_i l2 P3 hnl2 hel2 hl20
    have sGZ2 : Same P2 (Sm.dl P3 l2) := fun b o hb => by
      rw [Sm.dl_ne (fun z => by rw [z, hnl2] at hb; cases hb)]
      exact hel2 _ _ hb
    have hoZ := Sm.dp_at (Sm.dp_at hoP hsP2) sGZ2
    have hE0 : LamX.ExtN (Sm.dl P3 l2) P3 := LamX.ExtN.of Sm.dl_sub
    refine step_app (res := Str.ofString "number " ++ PyData.shown dd) rfl hl20 (by simp) (ht1.ext (hsP2.trans hel2)) (fun Q1 M1 he ht k => ?_) (fun R2 he2 hT2 hL2 => ?_)
    · have hZ := LamX.ExtN.trans hE0 he
      repeat' wtm_at "st"
      exact bad_w1 T (Sm.exN_dp hZ hoZ) (.int 0) hw0 hsh k
    have hE2 := exN_dl hE0 he2
    repeat' wtm_at "st"
    refine step_app (res := Str.ofString "number " ++ PyData.shown dd) rfl hL2 (by simp) hT2 (fun Q1 M1 he ht k => ?_) (fun R3 he3 hT3 hL3 => ?_)
    · have hZ := LamX.ExtN.trans hE2 he
      repeat' wtm_at "st"
      exact bad_w2 T (.int 4) (Sm.exN_dp hZ hoZ) whole_4 hb0 hsh k
    have hE3 := exN_dl hE2 he3
    repeat' wtm_at "st"
    refine step_app (res := Str.ofString "number " ++ PyData.shown (.int 0)) rfl hL3 (by simp) hT3 (fun Q1 M1 he ht k => ?_) (fun R4 he4 hT4 hL4 => ?_)
    · have hZ := LamX.ExtN.trans hE3 he
      repeat' wtm_at "st"
      exact bad_w2 T (.int 4) (.int 0) whole_4 b_0 sh_0 k
    have hE4 := exN_dl hE3 he4
    rw [num_0] at hL4
    have hoR := Sm.exN_dp hE4 hoZ
    have hsh2 : PyData.showable dd = true ∧ PyData.hasDict dd = false ∧ PyData.depth dd ≤ 8 ∧ (PyData.shown dd).length ≤ sizeLine := ⟨hsh.1, hsh.2.1, hsh.2.2.1, Sm.len_le (by have := hsh.2.2.2; omega)⟩
    have h1000 := hsh.2.2.2
    have h7 : (Str.ofString "number ").length = 7 := rfl
    repeat' wtm_at "st"
    rename_i pf Rf hnf hef hpf
    refine Sm.g_eqD (dp_list4 (hef _ _ hL4)) (dp_list4 hpf) (sh_list4 hcl) (sh_list4 hcl) ?_
    refine Sm.fin (hq Rf ?_ (hT4.ext hef)) (congrArg V.bl (PySem.SeqAt.eqv_refl _ (cl_list4 hcl)).symm)
    have x1 : LamX.ExtN (Sm.dl N p) (Sm.dl Rf p) := by
      refine LamX.ExtN.trans (LamX.ExtN.trans (exN_dlb ex1) (LamX.ExtN.of (same_dlb hsP2))) (Sm.same_exN (same_dlb sGZ2) (exN_dlb (LamX.ExtN.trans hE4 (LamX.ExtN.of hef))))
    exact LamX.ExtN.trans (LamX.ExtN.trans xN x1) (LamX.ExtN.of Sm.dl_sub)
end
section
variable {P : Program} {w : World} {K : PySem.W.Frag} {mg : Str → Option Value} {base : Heap} {f : Addr} {fd : FuncData}
theorem ok__law_right (T : Txt P K mg) (F : FD K "_law_right" s__law_right (He.fAd K ("_law_right", none)) fd) (G__law_refused_right : Sm.FnH P w K mg base 9 "_law_refused_right" P__law_refused_right (sp__law_refused_right K)) (G__law_operand : Sm.Fn P w K mg base 4 "_law_operand" P__law_operand (sp__law_operand K)) (G__law_compared : Sm.Fn P w K mg base 7 "_law_compared" P__law_compared (sp__law_compared K)) (G__law_roll : Sm.Fn P w K mg base 1 "_law_roll" P__law_roll (sp__law_roll K)) (G__law_added : Sm.Fn P w K mg base 2 "_law_added" P__law_added (sp__law_added K)) (G_weighted_sum : Sm.Fn P w K mg base 5 "weighted_sum" P_weighted_sum (sp_weighted_sum K)) (G__law_reckoned : Sm.FnH P w K mg base 9 "_law_reckoned" P__law_reckoned (sp__law_reckoned K)) (G__law_fraction : Sm.Fn P w K mg base 3 "_law_fraction" P__law_fraction (sp__law_fraction K)) (G__law_multiplied : Sm.Fn P w K mg base 2 "_law_multiplied" P__law_multiplied (sp__law_multiplied K)) (G__law_one_of : Sm.Fn P w K mg base 2 "_law_one_of" P__law_one_of (sp__law_one_of K)) (G_worth : Sm.Fn P w K mg base 3 "worth" P_worth (sp_worth K)) (G__law_lowest : Sm.Fn P w K mg base 1 "_law_lowest" P__law_lowest (sp__law_lowest K)) (G__law_judged : Sm.Fn P w K mg base 4 "_law_judged" P__law_judged (sp__law_judged K)) (G_worth_1 : Sm.FnD P w K mg base 3 "worth" P_worth (sp_worth K) [.int (1)])  : Sm.FnG P w K mg base 10 (He.fAd K ("_law_right", none)) fd P__law_right (sp__law_right K) := by
  refine Sm.FnG.mk1 F sc__law_right (fun vs H Q E h => ?_) (fun A outer s H vs Q E gd hr h => ?_)
  · obtain ⟨p, rfl, _⟩ := h
    rfl
  obtain ⟨p, rfl, hd, hT, hq⟩ := h
  refine ⟨_, (pss_cons (ps_par (i := 1) (j := 2) rfl sc__law_right.nd rfl rfl (by decide) rfl rfl (pa_cons (Sm.pe_fn G__law_operand hr (pa_cons (pv 0) pa_nil)) (pa_cons (Sm.pe_fn G__law_operand hr (pa_cons (pv 0) pa_nil)) pa_nil)) (by rfl))
      (pss_cons (ps_if (PW.pt (pw_or (pt_not (pt_truth (Sm.pe_fnG G__law_reckoned gd hr (pa_cons (pv 1) (pa_cons (pv 2) pa_nil))) (by intro _; rfl))) (pw_or (pt_not (pt_truth (Sm.pe_fnG G__law_reckoned gd hr (pa_cons (pv 2) (pa_cons (pv 1) pa_nil))) (by intro _; rfl))) (pw_or1 (pt_not (pt_truth (Sm.pe_fnG G__law_reckoned gd hr (pa_cons (pv 1) (pa_cons (pe_tup (pa_cons pe_int (pa_cons pe_int pa_nil))) pa_nil))) (by intro _; rfl))))))) (pss_one (ps_ret pe_bl)) pss_nil)
      (pss_cons (ps_if (pt_not (pt_truth (Sm.pe_fn G__law_compared hr (pa_cons (Sm.pe_fn G__law_fraction hr (pa_cons (pv 0) pa_nil)) (pa_cons (Sm.pe_fn G__law_fraction hr (pa_cons (pv 0) pa_nil)) pa_nil))) (by intro _; rfl))) (pss_one (ps_ret pe_bl)) pss_nil)
      (pss_cons (ps_par (i := 3) (j := 4) rfl sc__law_right.nd rfl rfl (by decide) rfl rfl (pa_cons (pe_lst pa_nil) (pa_cons pe_non pa_nil)) (by rfl))
      (pss_cons (ps_for (passes_of rfl) rfl (pi_range1 rfl T.f_range (pa_cons (Sm.pe_fn G__law_roll hr (pa_cons (pv 0) (pa_cons pe_int pa_nil))) pa_nil)) (pg_name (i := 5) sc__law_right.nd rfl (Or.inl rfl)) (pss_cons (ps_expr (pe_bm PySem.F.plainAttrs_list PySem.F.slot_list_append PySem.F.type_list_append mt_append (pv 3) (pa_cons (pe_tup (pa_cons (Sm.pe_fn G__law_fraction hr (pa_cons (pv 0) pa_nil)) (pa_cons (Sm.pe_fn G__law_operand hr (pa_cons (pv 0) pa_nil)) pa_nil))) pa_nil)))
      (pss_one (ps_set (i := 4) sc__law_right.nd rfl (Or.inl rfl) (Sm.pe_fn G__law_added hr (pa_cons (pv 4) (pa_cons (Sm.pe_fn G__law_multiplied hr (pa_cons (pe_ix ix_seq (pe_ix ix_seq (pv 3) (pe_un un_neg pe_int) (fun _ _ => rfl)) pe_int (fun _ _ => rfl)) (pa_cons (pe_ix ix_seq (pe_ix ix_seq (pv 3) (pe_un un_neg pe_int) (fun _ _ => rfl)) pe_int (fun _ _ => rfl)) pa_nil))) pa_nil)))))))
      (pss_cons (ps_if (pt_cmpR (Sm.op_neU hr) (Sm.pe_fn G_weighted_sum hr (pa_cons (pe_callTy call_tuple_of rfl T.f_tuple (by decide +kernel) (pa_cons (pv 3) pa_nil)) pa_nil)) (pv 4) (nomark _)) (pss_one (ps_ret pe_bl)) pss_nil)
      (pss_cons (ps_par (i := 6) (j := 7) rfl sc__law_right.nd rfl rfl (by decide) rfl rfl (pa_cons (pe_op op_sub (Sm.pe_fn G__law_roll hr (pa_cons (pv 0) (pa_cons pe_int pa_nil))) pe_int) (pa_cons (pe_op Sm.op_mulU (Sm.pe_fn G__law_one_of hr (pa_cons (pv 0) (pa_cons (pe_lst (pa_cons (pe_un un_neg pe_int) (pa_cons pe_int pa_nil))) pa_nil))) (pe_op Sm.op_addU pe_int (Sm.pe_fn G__law_roll hr (pa_cons (pv 0) (pa_cons pe_int pa_nil))))) pa_nil)) (by rfl))
      (pss_cons (ps_if (PW.pt (pw_or (pt_cmpR (Sm.op_neU hr) (Sm.pe_fn G_worth hr (pa_cons (pv 6) (pa_cons (pv 7) pa_nil))) (Sm.pe_fn G__law_lowest hr (pa_cons (pv 6) (pa_cons (pv 7) pa_nil))) (nomark _)) (pw_or1 (pt_cmpR (Sm.op_neU hr) (Sm.pe_fnD G_worth_1 hr (pa_cons (pv 6) pa_nil)) (pe_tup (pa_cons (pv 6) (pa_cons pe_int pa_nil))) (nomark _))))) (pss_one (ps_ret pe_bl)) pss_nil)
      (pss_cons (ps_for (passes_of rfl) rfl (pi_range1 rfl T.f_range (pa_cons pe_int pa_nil)) (pg_name (i := 5) sc__law_right.nd rfl (Or.inl rfl)) (pss_one (ps_if (pt_not (pt_truth (Sm.pe_fn G__law_judged hr (pa_cons (pv 0) pa_nil)) (by intro _; rfl))) (pss_one (ps_ret pe_bl)) pss_nil)))
      (pss_one (ps_ret (Sm.pe_fnG G__law_refused_right gd hr (pa_cons (pv 0) (pa_cons (pv 1) (pa_cons (pv 2) pa_nil))))))))))))))), ?_⟩
  rw [st__law_right]
  repeat' wtm_at "st"
  rename_i vx d G1 hs1 hd1 hv1 hf1 vy e G2 hs2 hd2 hv2 hf2
  have S12 : Same (Sm.dl G1 p) (Sm.dl G2 p) := Sm.dl_both hs2
  have hx2 := Sm.dp_at hv1 S12
  have hT2 := tabs_dice (tabs_dice hT hd hs1) hd1 hs2
  have x2 : LamX.ExtN (Sm.dl H p) (Sm.dl G2 p) := LamX.ExtN.of ((Sm.dl_both hs1).trans S12)
  refine c_reckoned (Sm.dp_at hx2 Sm.dl_sub) (Sm.dp_at hv2 Sm.dl_sub) hf1 hf2 hT2 (fun G3 e3 hT3 => ?_)
  have x3 := LamX.ExtN.trans x2 (exN_dlb e3)
  have hx3 := Sm.exN_dp (exN_dlb e3) hx2
  have hy3 := Sm.exN_dp (exN_dlb e3) hv2
  have hd3 := exN_dice hd2 e3
  repeat' wtm_at "st"
  refine c_reckoned (Sm.dp_at hy3 Sm.dl_sub) (Sm.dp_at hx3 Sm.dl_sub) hf2 hf1 hT3 (fun G4 e4 hT4 => ?_)
  have x4 := LamX.ExtN.trans x3 (exN_dlb e4)
  have hx4 := Sm.exN_dp (exN_dlb e4) hx3
  have hy4 := Sm.exN_dp (exN_dlb e4) hy3
  have hd4 := exN_dice hd3 e4
  clear hs1 hs2 hd1 hd2 hv1 hv2 S12 hx2 hT2 x2 e3 e4 x3 hx3 hy3 hd3 hT3
  repeat' wtm_at "st"
  rename_i pz G5 hn5 he5 hp5
  refine c_reckoned (Sm.dp_at hx4 (Sm.dl_sub.trans he5)) (dp_pair hp5) hf1 fr_01 (hT4.ext he5) (fun G6 e6 hT6 => ?_)
  have x6 := LamX.ExtN.trans x4 (exN_dlb (Sm.same_exN he5 e6))
  have hx6 := Sm.exN_dp (exN_dlb (Sm.same_exN he5 e6)) hx4
  have hy6 := Sm.exN_dp (exN_dlb (Sm.same_exN he5 e6)) hy4
  have hd6 := exN_dice hd4 (Sm.same_exN he5 e6)
  clear he5 e6 x4 hx4 hy4 hd4 hT4 hp5 hn5
  repeat' wtm_at "st"
  rename_i va G7 aa ba hs7 hd7 hva hfa vb G8 ab bb hs8 hd8 hvb hfb G9 hs9 l G10 hnl hel hl
  have hd9 := dice_mv hd8 hs9
  have hpl := dice_ne hd9 hnl
  have S69 : Same (Sm.dl G6 p) (Sm.dl G9 p) := ((Sm.dl_both hs7).trans (Sm.dl_both hs8)).trans (same_dlb hs9)
  have SB := S69.trans (same_fresh (p := p) hnl hel)
  have hd10 := dice_mv hd9 hel
  have hT10 : LamX.Tabs (TT K) G10 := (tabs_dice (tabs_dice hT6 hd6 hs7) hd7 hs8).ext (hs9.trans hel)
  have hxB := Sm.dp_at hx6 SB
  have hyB := Sm.dp_at hy6 SB
  have xB := LamX.ExtN.trans x6 (LamX.ExtN.of SB)
  clear hs7 hs8 hs9 hd7 hd8 hva hvb hfa hfb S69 SB hx6 hy6 x6 hT6 hd6 hd9
  refine Sm.g_rng1 ?_
  repeat' wtm_at "st"
  rename_i r L0 r0 r1 hsr hdr
  have hl0 : L0 l = some (.lst []) := same_at hsr hpl hl
  have SB0 : Same (Sm.dl (Sm.dl G10 p) l) (Sm.dl (Sm.dl L0 p) l) := d2_of fun b o h1 _ h => same_at hsr h1 h
  have hT0 := tabs_dice hT10 hd10 hsr
  refine Sm.g_rng1i (by omega) (by omega) ?_
  refine Sm.g_forW (walk_range (lo := 0) (n := r.toNat)) (fun i σ H' => (∃ (vs : List V) (ps : List (PyData × PyData)) (vd : V) (u : Option V), σ = [some (.ref p), some vx, some vy, some (.ref l), some vd, u, none, none] ∧ H' l = some (.lst vs) ∧ DpAll K (Sm.dl (Sm.dl H' p) l) vs (ps.map prD) ∧ ps.length = i ∧ PsOk ps ∧ Dp K (Sm.dl (Sm.dl H' p) l) vd (wsum ps)) ∧ Dice H' p ∧ Same (Sm.dl (Sm.dl G10 p) l) (Sm.dl (Sm.dl H' p) l) ∧ LamX.Tabs (TT K) H')
    ⟨⟨[], [], _, _, rfl, hl0, .nil, rfl, fun _ h => absurd h List.not_mem_nil, .non⟩, hdr, SB0, hT0⟩ (fun _ _ _ _ _ => trivial) ?_ ?_
  · rintro i x σ H1 H2 hi ⟨⟨vs, ps, vd, u, rfl, hl1, hvs, hlen, hps, hvd⟩, hdi, hB, hTi⟩ ⟨rfl, rfl⟩
    have hi5 : i < 5 := by omega
    have hvl : vs.length = i := by rw [dpAll_len hvs, List.length_map, hlen]
    repeat' wtm_at "st"
    refine ⟨.ref l, rfl, Sm.g_tyL hl1 ?_⟩
    repeat' wtm_at "st"
    rename_i wa K1 a1 b1 hsa hda hwa hfa1 wb e1 K2 hsb hdb hwb hfb1 pt K3 hnp hep hpt
    have hl11 := same_at hsa hpl hl1
    have hl12 := same_at hsb hpl hl11
    have hl13 := hep _ _ hl12
    have hptl : pt ≠ l := fun z => by rw [z, hl12] at hnp; cases hnp
    have hptp := dice_ne hdb hnp
    refine Sm.g_app hl13 (by rw [hvl]; exact Nat.lt_of_lt_of_le hi5 (by decide)) (fun K4 hs4 hl4 => ?_)
    have hpt4 := same_at hs4 hptl hpt
    have hdi4 := dice_at2 (dice_mv hdb hep) (Ne.symm hpl) hs4
    have M24 : ∀ b o, b ≠ p → b ≠ l → K2 b = some o → K4 b = some o := fun b o _ h2 h => same_at hs4 h2 (hep _ _ h)
    have M14 : ∀ b o, b ≠ p → b ≠ l → K1 b = some o → K4 b = some o := fun b o h1 h2 h => M24 b o h1 h2 (same_at hsb h1 h)
    have M04 : ∀ b o, b ≠ p → b ≠ l → H2 b = some o → K4 b = some o := fun b o h1 h2 h => M14 b o h1 h2 (same_at hsa h1 h)
    have f1 : FrD 1010 (wD (a1, b1)) := .inr ⟨_, _, rfl, hfa1⟩
    have hwa4 := Sm.dp_at (frd_dl (by rw [Sm.dl_ne hpl]; exact hl11) f1 hwa) (d2_of M14)
    have hwb4 := Sm.dp_at (frd_dl (by rw [Sm.dl_ne hpl]; exact hl12) hfb1 hwb) (d2_of M24)
    have hvd4 := Sm.dp_at (Sm.dp_at hvd (d2_of M04)) dl2_sub
    have hwa5 := Sm.dp_at hwa4 dl2_sub
    have hwb5 := Sm.dp_at hwb4 dl2_sub
    have hvs4 := Sm.Same.dps (d2_of M04) hvs
    have hT4 : LamX.Tabs (TT K) K4 := (tabs_dl ((tabs_dice (tabs_dice hTi hdi hsa) hda hsb).ext hep) hl13).ext hs4
    have hB4 := hB.trans (d2_of M04)
    have hat := atI_last vs (.ref pt)
    have hsum := wsum_fr hps
    have fprod := prod_fr f1 hfb1
    clear hsa hsb hep hs4 hda hdb hwa hwb M04 M14 M24 hvd hvs hl11 hl12 hl13 hpt hnp hTi hB hl1 hdi
    repeat' wtm_at "st"
    rename_i v6 K5 hs5 hv6 v7 K6 hs6 hv7
    have s56 := hs5.trans hs6
    have hlF := s56 _ _ hl4
    have hdF := dice_mv hdi4 s56
    have d46 : Same (Sm.dl (Sm.dl K4 p) l) (Sm.dl (Sm.dl K6 p) l) := d2_of fun b o _ _ h => s56 _ _ h
    have hptF : Sm.dl (Sm.dl K6 p) l pt = some (.tup [wa, wb]) := by
      rw [Sm.dl_ne hptl, Sm.dl_ne hptp]
      exact s56 _ _ hpt4
    refine ⟨⟨vs ++ [.ref pt], ps ++ [(wD (a1, b1), e1)], v7, _, rfl, hlF, ?_, by rw [List.length_append, hlen]; rfl, psOk_snoc hps hfa1 hfb1, ?_⟩, hdF, hB4.trans d46, hT4.ext s56⟩
    · rw [List.map_append]
      exact dpAll_snoc (Sm.Same.dps d46 hvs4) (.tup (.inl (.inl hptF)) (dpAll_2 (Sm.dp_at hwa4 d46) (Sm.dp_at hwb4 d46)))
    · rw [wsum_snoc]
      obtain ⟨z1, z2, z3, hpp⟩ := hdF
      exact frd_dl (by rw [Sm.dl_ne hpl]; exact hlF) (sum_fr hsum fprod) (frd_dl hpp (sum_fr hsum fprod) hv7)
  · rintro σ H1 ⟨⟨vs, ps, vd, u, rfl, hl1, hvs, hlen, hps, hvd⟩, hdi, hB, hTi⟩
    have hp5 : Pairs ps := ⟨by omega, hps⟩
    have hvd1 := Sm.dp_at hvd dl2_sub
    have hvs1 := Sm.Same.dps dl2_sub hvs
    repeat' wtm_at "st"
    refine ⟨l, vs, rfl, .inl ⟨.inl (.inl hl1), fun t hnt => ?_⟩⟩
    have hst : Same H1 (upd H1 t (.tup vs)) := Sm.Same.new hnt
    have ht : upd H1 t (.tup vs) t = some (.tup vs) := upd_same
    generalize upd H1 t (.tup vs) = K1 at *
    repeat' wtm_at "st"
    obtain ⟨w1, w2⟩ := fr_sh2 (wsum_fr hps)
    refine c_wsum (.tup (.inl (.inl ht)) (Sm.Same.dps hst hvs1)) hp5 (fun v K2 hs2 hv2 => ?_)
    have s02 := hst.trans hs2
    have hd2 := dice_mv hdi s02
    have hT2 := hTi.ext s02
    have hB2 : Same (Sm.dl (Sm.dl G10 p) l) (Sm.dl (Sm.dl K2 p) l) := hB.trans (d2_of (p := p) (l := l) fun b o _ _ h => s02 _ _ h)
    have hxE := Sm.dp_at hxB hB2
    have hyE := Sm.dp_at hyB hB2
    have xE := LamX.ExtN.trans xB (LamX.ExtN.of hB2)
    have hvd2 := Sm.dp_at hvd1 s02
    clear hvs hvd hvs1 hvd1 hst hs2 s02 hB2 hB hTi hdi ht hxB hyB xB
    repeat' wtm_at "st"
    rename_i ra K3 ra0 ra1 hs3 hd3 lq K4 hnq heq hlq
    refine c_one_of (dice_mv hd3 heq) (dice_lst hd3 hnq hlq) (by simp) (by simp) (fun j sv K5 hx hs5 hd5 => ?_)
    obtain ⟨s, rfl, hs⟩ : ∃ s : Int, sv = .int s ∧ (s = -1 ∨ s = 1) := by
      rcases j with _ | _ | j <;> cases hx
      · exact ⟨_, rfl, .inl rfl⟩
      · exact ⟨_, rfl, .inr rfl⟩
    clear hx
    have T3 := tabs_dice (tabs_dice hT2 hd2 hs3 |>.ext heq) (dice_mv hd3 heq) hs5
    have M5 : ∀ b o, b ≠ p → b ≠ l → K2 b = some o → K5 b = some o := fun b o h1 _ h => same_at hs5 h1 (heq _ _ (same_at hs3 h1 h))
    repeat' wtm_at "st"
    rename_i rb K6 rb0 rb1 hs6 hd6
    have T6 := tabs_dice T3 hd5 hs6
    have M6 : ∀ b o, b ≠ p → b ≠ l → K2 b = some o → K6 b = some o := fun b o h1 h2 h => same_at hs6 h1 (M5 b o h1 h2 h)
    obtain ⟨bt, hbt⟩ : ∃ bt : Int, bt = s * (1 + rb) := ⟨_, rfl⟩
    obtain ⟨tp, htp⟩ : ∃ tp : Int, tp = ra - 200 := ⟨_, rfl⟩
    have hb0 : bt ≠ 0 := by rcases hs with rfl | rfl <;> omega
    have hbn : bt.natAbs < 2 ^ 20 := by rcases hs with rfl | rfl <;> omega
    have htn : tp.natAbs < 2 ^ 20 := by omega
    have s3 : tp.natAbs < 2 ^ 13000 ∧ bt.natAbs < 2 ^ 13000 := ⟨pow_up htn (by decide), pow_up hbn (by decide)⟩
    have q1 : PyData.eqv (wD (low tp bt)) (wD (low tp bt)) = true := eqv_w _ _
    have q2 : PyData.eqv (wD (low tp 1)) (.tuple [.int tp, .int 1]) = true := by
      rw [low_self (a := tp) (b := 1) (by decide) (Int.gcd_one_right ..)]
      exact eqv_w _ _
    clear hs3 hs5 hs6 heq hlq hnq hd2 hd3 hd5 hT2 T3 M5
    rw [← hbt, ← htp]
    repeat' wtm_at "st"
    rename_i v7 K7 hs7 hv7 v8 K8 hs8 hv8 v9 K9 hs9 hv9 pk K10 hnk hek hpk
    have s610 := ((hs7.trans hs8).trans hs9).trans hek
    have hd10' := dice_mv hd6 s610
    have T10 := T6.ext s610
    have M10 : Same (Sm.dl (Sm.dl K2 p) l) (Sm.dl (Sm.dl K10 p) l) := d2_of fun b o h1 h2 h => s610 _ _ (M6 b o h1 h2 h)
    clear hs7 hs8 hs9 hek hpk hv7 hv8 hv9 hnk
    refine Sm.g_rng1 ?_
    repeat' wtm_at "st"
    refine Sm.g_rng1i (by decide) (by decide) ?_
    refine Sm.g_forW (walk_range (lo := 0) (n := (6 : Int).toNat)) (fun i σ H' => (∃ u, σ = [some (.ref p), some vx, some vy, some (.ref l), some vd, u, some (.int tp), some (.int bt)]) ∧ Dice H' p ∧ Same (Sm.dl K10 p) H') ⟨⟨_, rfl⟩, hd10', Sm.dl_sub⟩ (fun _ _ _ _ _ => trivial) ?_ ?_
    · rintro i x σ N1 N2 hi ⟨⟨u, rfl⟩, hdN, hsN⟩ ⟨rfl, rfl⟩
      repeat' wtm_at "st"
      exact ⟨⟨_, rfl⟩, by wtm_at "dc", by wtm_at "sm"⟩
    · rintro σ N1 ⟨⟨u, rfl⟩, hdN, hsN⟩
      have TN := tabs_dice T10 hd10' hsN
      have MN : Same (Sm.dl (Sm.dl K2 p) l) (Sm.dl (Sm.dl N1 p) l) := M10.trans (d2_of fun b o h1 _ h => same_at hsN h1 h)
      have hxN := Sm.dp_at (Sm.dp_at hxE MN) Sm.dl_sub
      have hyN := Sm.dp_at (Sm.dp_at hyE MN) Sm.dl_sub
      have xN := LamX.ExtN.trans (LamX.ExtN.trans xE (LamX.ExtN.of MN)) (LamX.ExtN.of Sm.dl_sub)
      repeat' wtm_at "st"
      exact ⟨p, _, _, _, _, rfl, hdN, hxN, hyN, hf1, hf2, TN, fun Z hz htZ => hq Z (LamX.ExtN.trans xN hz) htZ⟩
end
section
variable {P : Program} {w : World} {K : PySem.W.Frag} {mg : Str → Option Value} {base : Heap} {f : Addr} {fd : FuncData}
theorem ok_law (T : Txt P K mg) (F : FD K "law" s_law (He.fAd K ("law", none)) fd) (G__law_right : Sm.FnH P w K mg base 10 "_law_right" P__law_right (sp__law_right K)) (G__law_dice : Sm.Fn P w K mg base 1 "_law_dice" P__law_dice (sp__law_dice K))  : Sm.FnG P w K mg base 11 (He.fAd K ("law", none)) fd P_law (sp_law K) := by
  refine Sm.FnG.mk1 F sc_law (fun vs H Q E h => ?_) (fun A outer s H vs Q E gd hr h => ?_)
  · obtain ⟨p, ns, rfl, _⟩ := h
    rfl
  obtain ⟨p, ns, rfl, hp, hn, hT, hq⟩ := h
  refine ⟨_, (pss_cons (ps_for (passes_of rfl) rfl (pi_range1 rfl T.f_range (pa_cons (pe_callB (Sm.call_maxU rfl) rfl T.f_max (by decide +kernel) (pa_cons pe_int (pa_cons (pe_callB (Sm.call_minU rfl) rfl T.f_min (by decide +kernel) (pa_cons pe_int (pa_cons (pe_callB Sm.call_lenU rfl T.f_len (by decide +kernel) (pa_cons (pv 0) pa_nil)) pa_nil))) pa_nil))) pa_nil)) (pg_name (i := 1) sc_law.nd rfl (Or.inl rfl)) (pss_one (ps_if (pt_not (pt_truth (Sm.pe_fnG G__law_right gd hr (pa_cons (Sm.pe_fn G__law_dice hr (pa_cons (pv 0) (pa_cons (pv 1) pa_nil))) pa_nil)) (by intro _; rfl))) (pss_one (ps_ret pe_bl)) pss_nil)))
      (pss_one (ps_ret pe_bl))), ?_⟩
  rw [st_law]
  have hl : (ns.map V.int).length ≤ 63 := by rw [List.length_map]; exact hn
  refine Sm.Stq.h ?_
  refine Sm.g_rng1 ?_
  repeat' wtm_at "st"
  refine Sm.g_rng1i (by split <;> split <;> omega) (by split <;> split <;> omega) ?_
  refine Sm.g_forW (walk_range (lo := 0)) (fun i σ H' => (∃ u, σ = [some (.ref p), u]) ∧ LamX.ExtN H H' ∧ LamX.Tabs (TT K) H') ⟨⟨_, rfl⟩, LamX.ExtN.refl _, hT⟩ (fun _ _ _ _ _ => trivial) ?_ ?_
  · rintro i x σ H1 H2 hi ⟨⟨u, rfl⟩, hs, hT2⟩ ⟨rfl, rfl⟩
    have hsp : SqL K H2 p (ns.map V.int) := Sm.exN_seqL hs hp
    wtm_at "st"
    refine ⟨p, ns, i, by simp, hsp, fun q H3 hn3 hs3 hd3 => ?_⟩
    repeat' wtm_at "st"
    refine ⟨q, rfl, hd3, hT2.ext hs3, fun H4 hs4 hT4 => ?_⟩
    repeat' wtm_at "st"
    refine ⟨⟨_, rfl⟩, LamX.ExtN.trans hs (Sm.same_exN (fun b o hb => ?_) hs4), hT4⟩
    rw [Sm.dl_ne (fun z => by rw [z, hn3] at hb; cases hb)]
    exact hs3 _ _ hb
  · rintro σ H1 ⟨⟨u, rfl⟩, hs, _⟩
    repeat' wtm_at "st"
    exact hq _
end
end K00
/-! SmHead: a Hook that tells own exceptions, too. -/
namespace Sm
open PySem PySem.Spec PyProof.Rows L2
open PySem.W
def asS (g : Addr → Option Obj) : Nat → List Addr
  | 0 => [mainGlobals, cStatics]
  | n + 1 => He.growD g (asS g n)
/-- an own exception whose __init__ says super().__init__(f); self.f = f -/
structure ExD where
  x : Str
  f : Str
  qual : Str
  p1 : Pos
  p2 : Pos
  a1 : Pos
  a2 : Pos
  a3 : Pos
  a4 : Pos
  a5 : Pos
  a6 : Pos
  b1 : Pos
  b2 : Pos
  b3 : Pos
  b4 : Pos
  B : String
  newId : String
  initId : String
  bmB : List Value
/-- an own exception without an __init__ -/
structure PlD where
  x : Str
  B : String
  newId : String
  initId : String
  bmB : List Value
abbrev IniW : Type := Option (Str × Str × Arguments × FuncBody × Scope × Addr × List Str × Addr × Value)
def iniW (K : Frag) (x : Str) : IniW := match K.lookup (He.ma K (He.ga K x) "__init__") with
  | some ⟨_, _, .func fd, _⟩ => some (fd.name, fd.qualname, fd.params, fd.body, fd.scope, fd.globals, fd.closure.map (·.1), fd.builtins, fd.defaults)
  | _ => none
def ExD.val (d : ExD) : IniW := some ("__init__", d.qual, iArgs d.f d.p1 d.p2, .stmts (iBody d.f d.a1 d.a2 d.a3 d.a4 d.a5 d.a6 d.b1 d.b2 d.b3 d.b4), iScope d.f, mainGlobals, ["__class__"], builtinsNs, .none)
def baseB (K : Frag) (x : Str) : Bool := He.eqO (nsIn K mainGlobals x) (some (some (.ref (He.ga K x)))) && (keepIn K (.ref (He.ga K x)) && (decide (subIn K (.ref (He.ga K x)) (.type "BaseException") = some true) && decide (typeIn K (.ref (He.ga K x)) = some (.type "type"))))
def cellB (K : Frag) (file q : Str) (C fI : Addr) : Bool := match K.lookup fI with
  | some ⟨_, _, .func fd, _⟩ => (match fd.code with
    | .ref cda => (match fd.closure with
      | [(_, cc)] => codeIn K (.ref cda) q && ((match K.lookup cda with
          | some ⟨_, _, .fields vs, _⟩ => (match (vs[2]? : Option Value) with
            | some (.str fl _) => (file == fl)
            | _ => false)
          | _ => false) && (match K.lookup cc with
          | some ⟨_, _, .cell (some (.ref a)), _⟩ => decide (a = C)
          | _ => false))
      | _ => false)
    | _ => false)
  | _ => false
def ExD.ok (file : Str) (K : Frag) (d : ExD) : Bool :=
  baseB K d.x && (excInitIn K (He.ga K d.x) d.bmB d.newId && (excOver K (He.ga K d.x) d.bmB && (decide (subIn K (.ref (He.ga K d.x)) (.type d.B) = some true) && (He.eqO (findIn K (.ref (He.ga K d.x)) "__setattr__") (some (some (.builtin "object.__setattr__"))) &&
  (He.eqO (findIn K (.ref (He.ga K d.x)) "__getattribute__") (some (some (.builtin "BaseException.__getattribute__"))) && (He.eqO (findIn K (.ref (He.ga K d.x)) "__getattr__") (some none) && (He.eqO (findIn K (.ref (He.ga K d.x)) d.f) (some none) &&
  (He.eqO (findIn K (.ref (He.ga K d.x)) "__init__") (some (some (.ref (He.ma K (He.ga K d.x) "__init__")))) && (decide (typeIn K (.ref (He.ma K (He.ga K d.x) "__init__")) = some (.type "function")) && (hasDictIn K (He.ga K d.x) && (He.eqO (nsIn K cStatics "thirdparty.any") (some none) &&
  (He.eqO (ks_superIn K (He.ga K d.x) (He.ga K d.x) "__init__") (some (some (.builtin d.initId))) && (decide (mroIn K (He.ga K d.x) (.ref (He.ga K d.x)) = some true) && (He.eqO (nsIn K mainGlobals "super") (some none) && cellB K file d.qual (He.ga K d.x) (He.ma K (He.ga K d.x) "__init__")))))))))))))))
def PlD.ok (K : Frag) (d : PlD) : Bool := baseB K d.x && excIn K (He.ga K d.x) d.bmB d.newId
section
variable {K : Frag} {h : Heap} {mg : Str → Option Value}
theorem base_ok (X : K.In h) (G : h.Ns mainGlobals mg) {x : Str} {B newId initId : String} {bmB : List Value} (F : ExcBaseFacts B newId initId bmB) (c : baseB K x = true) : XBase K mg x (He.ga K x) B newId initId bmB := by
  obtain ⟨c1, c⟩ := He.ba c
  obtain ⟨c2, c⟩ := He.ba c
  obtain ⟨c3, c4⟩ := He.ba c
  exact ⟨PySem.W.mg_of X G (He.eqO_ok c1), F, c2, of_decide_eq_true c3, of_decide_eq_true c4⟩
theorem pl_ok (X : K.In h) (G : h.Ns mainGlobals mg) {d : PlD} (F : ExcBaseFacts d.B d.newId d.initId d.bmB) (c : d.ok K = true) : XPl K mg d.x (He.ga K d.x) d.B d.newId d.initId d.bmB := by
  obtain ⟨c1, c2⟩ := He.ba c
  exact ⟨base_ok X G F c1, c2⟩
theorem xs_ok {P : Program} (X : K.In h) (G : h.Ns mainGlobals mg) {d : ExD} (F : ExcBaseFacts d.B d.newId d.initId d.bmB) (Kx : KxsFacts d.B d.initId) (S : StoreFacts d.B d.bmB "object.__setattr__" "object")
    (hl : (d.a3.endLine == d.a5.line) = true) (hb : ∀ (kV doc pm : Value) (an : Option Addr) (cdv ct : Value) (cc : Addr) (x : Addr) (v : Value), bindArgs (ksFn "__init__" d.qual (iArgs d.f d.p1 d.p2) (iBody d.f d.a1 d.a2 d.a3 d.a4 d.a5 d.a6 d.b1 d.b2 d.b3 d.b4) (iScope d.f) .none kV doc pm an cdv ct cc) ⟨[.ref x, v], []⟩ = pure [(("self" : Str), Value.ref x), (d.f, v)])
    (ht : (P.main.scope.names.lookup ("super" : Str)).isSome = false) (hf : (d.f == ("self" : Str)) = false ∧ (d.f == ("__debug__" : Str)) = false ∧ (d.f == ("super" : Str)) = false ∧ (d.f == ("__class__" : Str)) = false)
    (e : iniW K d.x = d.val) (c : d.ok P.main.file K = true) : XS P K mg d.x d.f (He.ga K d.x) d.B d.newId d.initId d.bmB := by
  unfold ExD.ok at c
  obtain ⟨c1, c⟩ := He.ba c
  obtain ⟨c2, c⟩ := He.ba c
  obtain ⟨c3, c⟩ := He.ba c
  obtain ⟨c4, c⟩ := He.ba c
  obtain ⟨c5, c⟩ := He.ba c
  obtain ⟨c6, c⟩ := He.ba c
  obtain ⟨c7, c⟩ := He.ba c
  obtain ⟨c8, c⟩ := He.ba c
  obtain ⟨c9, c⟩ := He.ba c
  obtain ⟨c10, c⟩ := He.ba c
  obtain ⟨c11, c⟩ := He.ba c
  obtain ⟨c12, c⟩ := He.ba c
  obtain ⟨c13, c⟩ := He.ba c
  obtain ⟨c14, c⟩ := He.ba c
  obtain ⟨c15, c⟩ := He.ba c
  unfold cellB at c
  unfold iniW at e
  cases q : K.lookup (He.ma K (He.ga K d.x) "__init__") with
  | none =>
    rw [q] at c
    cases c
  | some o =>
    obtain ⟨oc, od, dt, osl⟩ := o
    rw [q] at c e
    cases dt with
    | func fd =>
      obtain ⟨n1, n2, n3, n4, n5, n6, n7, n8, n9, n10, n11, n12, n13, n14, n15⟩ := fd
      have e2 : (some (n1, n2, n3, n4, n5, n6, n7.map (·.1), n15, n8) : IniW) = d.val := e
      unfold ExD.val at e2
      simp only [Option.some.injEq, Prod.mk.injEq] at e2
      obtain ⟨h1, h2, h3, h4, h5, h6, h7, h8, h9⟩ := e2
      subst h1 h2 h3 h4 h5 h6 h8 h9
      cases n13 with
      | ref cda =>
        cases n7 with
        | nil => exact absurd (congrArg List.length h7) (by simp)
        | cons u r =>
          cases r with
          | cons u2 r2 => exact absurd (congrArg List.length h7) (by simp)
          | nil =>
            obtain ⟨u, cc⟩ := u
            have hu : u = ("__class__" : Str) := by
              have e9 : [u] = [("__class__" : Str)] := h7
              injection e9
            subst hu
            have c' : (codeIn K (.ref cda) d.qual && ((match K.lookup cda with
              | some ⟨_, _, .fields vs, _⟩ => (match (vs[2]? : Option Value) with
                | some (.str fl _) => (P.main.file == fl)
                | _ => false)
              | _ => false) && (match K.lookup cc with
              | some ⟨_, _, .cell (some (.ref a)), _⟩ => decide (a = He.ga K d.x)
              | _ => false))) = true := c
            obtain ⟨k1, k⟩ := He.ba c'
            obtain ⟨k2, k3⟩ := He.ba k
            refine ⟨He.ma K (He.ga K d.x) "__init__", cda, cc, { toXBase := base_ok X G F c1, init := c2, over := c3, kxs := Kx, store := S, subB := of_decide_eq_true c4, sa := He.eqO_ok c5, ga := He.eqO_ok c6, gg := He.eqO_ok c7, noN := He.eqO_ok c8, iC := He.eqO_ok c9, tI := of_decide_eq_true c10, hdC := c11, op := He.eqO_ok c12, sup := He.eqO_ok c13, subC := of_decide_eq_true c14, nsuper := He.eqO_ok c15, fn := ?_, code := ?_, cell := ?_, top := ht, fne := hf }⟩
            · exact ⟨oc, od, _, n9, n10, n11, n12, n14, osl, d.p1, d.p2, d.a1, d.a2, d.a3, d.a4, d.a5, d.a6, d.b1, d.b2, d.b3, d.b4, d.qual, q, k1, hl, fun x v => hb n9 n10 n11 n12 _ n14 cc x v⟩
            · cases q2 : K.lookup cda with
              | none =>
                rw [q2] at k2
                cases k2
              | some o =>
                obtain ⟨ccl, cdd, dt, ccs⟩ := o
                rw [q2] at k2
                cases dt with
                | fields vs =>
                  have k2' : (match (vs[2]? : Option Value) with
                    | some (.str fl _) => (P.main.file == fl)
                    | _ => false) = true := k2
                  cases q3 : vs[2]? with
                  | none =>
                    rw [q3] at k2'
                    cases k2'
                  | some w =>
                    rw [q3] at k2'
                    cases w with
                    | str fl t => exact ⟨ccl, cdd, vs, ccs, fl, t, rfl, q3, k2'⟩
                    | _ => cases k2'
                | _ => cases k2
            · cases q2 : K.lookup cc with
              | none =>
                rw [q2] at k3
                cases k3
              | some o =>
                obtain ⟨ccl, cdd, dt, ccs⟩ := o
                rw [q2] at k3
                cases dt with
                | cell v =>
                  cases v with
                  | none => cases k3
                  | some v =>
                    cases v with
                    | ref a =>
                      have : a = He.ga K d.x := of_decide_eq_true k3
                      subst this
                      exact ⟨ccl, cdd, ccs, rfl⟩
                    | _ => cases k3
                | _ => cases k3
      | _ => cases c
    | _ => cases c
end
/-! ### the Hook -/
abbrev AlS : Type := He.AlD × (Bool × List IniW)
def obsS (n : Nat) (fa : List He.Fa) (fn : List He.DefD) (xs : List ExD) (ps : List PlD) (file : Str) (g : Addr → Option Obj) : AlS :=
  (He.obsD fa fn (He.frG g (asS g n)), (xs.all (fun d => d.ok file (He.frG g (asS g n))) && ps.all (fun d => d.ok (He.frG g (asS g n))), xs.map fun d => iniW (He.frG g (asS g n)) d.x))
def valS (fn : List He.DefD) (xs : List ExD) : AlS := (He.valD fn, (true, xs.map ExD.val))
structure SaysS (fa : List He.Fa) (fn : List He.DefD) (xs : List ExD) (ps : List PlD) (file : Str) (K : Frag) : Prop where
  d : He.SaysD fa fn K
  x : ∀ e ∈ xs, e.ok file K = true ∧ iniW K e.x = e.val
  p : ∀ e ∈ ps, e.ok K = true
theorem map_all {α β : Type} {f g : α → β} : ∀ {l : List α}, l.map f = l.map g → ∀ a ∈ l, f a = g a
  | [], _, a, h => nomatch h
  | b :: r, e, a, h => by
    rw [List.map_cons, List.map_cons] at e
    injection e with e1 e2
    rcases List.mem_cons.mp h with rfl | h
    · exact e1
    · exact map_all e2 a h
theorem says_of {n : Nat} {fa : List He.Fa} {fn : List He.DefD} {xs : List ExD} {ps : List PlD} {file : Str} {g : Addr → Option Obj} (e : obsS n fa fn xs ps file g = valS fn xs) : SaysS fa fn xs ps file (He.frG g (asS g n)) := by
  have e1 : He.obsD fa fn (He.frG g (asS g n)) = He.valD fn := congrArg (fun z : AlS => z.1) e
  have e2 : (xs.all (fun d => d.ok file (He.frG g (asS g n))) && ps.all (fun d => d.ok (He.frG g (asS g n)))) = true := congrArg (fun z : AlS => z.2.1) e
  have e3 : (xs.map fun d => iniW (He.frG g (asS g n)) d.x) = xs.map ExD.val := congrArg (fun z : AlS => z.2.2) e
  obtain ⟨k1, k2⟩ := He.ba e2
  exact ⟨e1, fun d hd => ⟨List.all_eq_true.mp k1 d hd, map_all e3 d hd⟩, fun d hd => List.all_eq_true.mp k2 d hd⟩
def hookS (n : Nat) (fa : List He.Fa) (fn : List He.DefD) (xs : List ExD) (ps : List PlD) (file : Str) : PySem.W.Hook where
  α := AlS
  obs := fun s => obsS n fa fn xs ps file s.heap.get?
  val := fun _ => valS fn xs
  says := fun _ h => ∃ K : PySem.W.Frag, K.In h ∧ SaysS fa fn xs ps file K
  of := fun _ _ e => ⟨_, He.frG_in, says_of e⟩
  keeps := fun _ _ _ ⟨K, hK, c⟩ k => ⟨K, PySem.W.Frag.In.keeps hK k, c⟩
theorem obsS_eq {n : Nat} {fa : List He.Fa} {fn : List He.DefD} {xs : List ExD} {ps : List PlD} {file : Str} {g : Addr → Option Obj} {s : Shared} (h : ∀ a, g a = s.heap.get? a) : obsS n fa fn xs ps file g = (hookS n fa fn xs ps file).obs s := by
  have e : g = s.heap.get? := funext h
  rw [e] <;> rfl
end Sm
/-! SmEnd: the law's def called where no repr is under way. -/
namespace Sm
open PySem PySem.Spec PyProof.Rows L2 LamX
section
variable {P : Program} {w : World} {K : PySem.W.Frag} {mg mb : Str → Option Value} {k : Nat} {fa a : Addr} {cs : List (Addr × Addr)} {fd : FuncData} {x : Str} {sp : Sp} {s : Shared} {vs : List Value} {ns : List Int}
def lstO (vs : List Value) : Obj := { cls := .type "list", data := .seq vs.toArray }
def tabO : Obj := { cls := .none, data := .fields #[] }
/-- what is tracked at the start: the tables, and the script unless K has it -/
theorem start_heap (hT : ∀ p ∈ cs, s.heap.get? p.2 = some tabO) (ha : s.heap.get? a = some (lstO vs)) (KX : K.In s.heap) (hi : IntsAre vs ns) (hl : ns.length ≤ sizeLine) :
    ∃ H : Hp, (∀ p ∈ cs, H p.2 = some (.tbl #[])) ∧ SqL K H a (ns.map V.int) ∧ HOk P w H s.heap ∧ ∀ b u, H b = some u → (b ∈ cs.map (·.2) ∧ u = .tbl #[]) ∨ (b = a ∧ u = .frz (lstO vs) (.lst (ns.map V.int)) ∧ K.lookup a = none) := by
  have r := vals_ints hi
  have len := hi.length
  have tab : ∀ b ∈ cs.map (·.2), s.heap.get? b = some tabO := fun b m => by
    obtain ⟨p, mp, rfl⟩ := List.mem_map.mp m
    exact hT p mp
  have out : a ∉ cs.map (·.2) := fun m => by
    have z := (tab a m).symm.trans ha
    injection z with z
    injection z with z
    cases z
  have mem : ∀ p ∈ cs, p.2 ∈ cs.map (·.2) := fun p mp => List.mem_map.mpr ⟨p, mp, rfl⟩
  cases q : K.lookup a with
  | some o =>
    have z := (KX a o q).symm.trans ha
    injection z with z
    subst z
    refine ⟨fun b => if b ∈ cs.map (·.2) then some (.tbl #[]) else none, fun p mp => if_pos (mem p mp), .inr ⟨_, vs.toArray, _, q, rfl, rfl, rfl, by rw [List.size_toArray, len]; exact hl, by simpa using r⟩, fun b u e => ?_, fun b u e => ?_⟩
    · dsimp only at e
      split at e
      · cases e
        exact tab b (by assumption)
      · cases e
    · dsimp only at e
      split at e
      · cases e
        exact .inl ⟨by assumption, rfl⟩
      · cases e
  | none =>
    refine ⟨fun b => if b = a then some (.frz (lstO vs) (.lst (ns.map V.int))) else if b ∈ cs.map (·.2) then some (.tbl #[]) else none, fun p mp => ?_, .inl (.inr ⟨lstO vs, if_pos rfl⟩), fun b u e => ?_, fun b u e => ?_⟩
    · have ne : p.2 ≠ a := fun z => out (z ▸ mem p mp)
      exact (if_neg ne).trans (if_pos (mem p mp))
    · dsimp only at e
      split at e
      · rename_i eb
        cases e
        subst eb
        exact ⟨ha, by rw [List.length_map]; exact hl, vs, _, r, ha⟩
      · split at e
        · cases e
          exact tab b (by assumption)
        · cases e
    · dsimp only at e
      split at e
      · rename_i eb
        cases e
        exact .inr ⟨eb, rfl, rfl⟩
      · split at e
        · cases e
          exact .inl ⟨by assumption, rfl⟩
        · cases e
theorem law_goG (KX : K.In s.heap) (hns : s.heap.Ns mainGlobals mg) (hb : s.heap.Ns builtinsNs mb) (hbb : ∀ x : Str, x ≠ "__name__" → mb x = bootBuiltins x) (hlim : s.heap.NoLimit) (hg : s.gens = #[])
    (hT : ∀ p ∈ cs, s.heap.get? p.2 = some tabO) (nT : ∀ p ∈ cs, K.lookup p.2 = none) (C : ∀ p ∈ cs, PySem.W.CodeHd s.heap p.1 p.2)
    (hbm : ∃ (bm : Addr) (ob : Obj), mg "__builtins__" = some (.ref bm) ∧ bm ≠ builtinsNs ∧ s.heap.get? bm = some ob ∧ ob.cls = .type "module" ∧ ob.dict = some builtinsNs ∧ ob.data = .plain)
    (ha : s.heap.get? a = some (lstO vs)) (hi : IntsAre vs ns) (hl : ns.length ≤ sizeLine) (hr : Room k callerA)
    (F : ∀ base : Heap, K.In base → base.Ns mainGlobals mg → (∀ p ∈ cs, TabB base mg p.1 p.2) → FnG P w K mg base k fa fd [x] sp) (hbind : ∀ (s : Shared) (u : Value), BindsTo s fd ⟨[u], []⟩ [(x, u)])
    (hsp : ∀ H : Hp, (∀ p ∈ cs, H p.2 = some (.tbl #[])) → SqL K H a (ns.map V.int) → sp [.ref a] H (fun v _ => v = .bl true) fun _ _ _ => False) :
    codeAny (model P w) callerA (.call (.ref fa) ⟨[.ref a], []⟩) (fun r s' => r = .ok (.ret (.bool true)) ∧ OldK s.heap s'.heap ∧ s'.os = s.os ∧ AllBare s'.gens) s := by
  obtain ⟨H, hH, hS, hok, own⟩ := start_heap (P := P) (w := w) (cs := cs) hT ha KX hi hl
  have tab : ∀ b ∈ cs.map (·.2), s.heap.get? b = some tabO := fun b m => by
    obtain ⟨p, mp, rfl⟩ := List.mem_map.mp m
    exact hT p mp
  have free : ∀ {b : Addr} {o : Obj}, s.heap.get? b = some o → (∀ v n, o.data ≠ .seq v n) → o.data ≠ .fields #[] → H b = none := fun {b o} e n1 n2 => by
    cases q : H b with
    | none => rfl
    | some u =>
      rcases own b u q with ⟨m, _⟩ | ⟨rfl, _⟩
      · have z := e.symm.trans (tab b m)
        injection z with z
        subst z
        exact absurd rfl n2
      · have z := e.symm.trans ha
        injection z with z
        subst z
        exact absurd rfl (n1 _ _)
  have seen : ∀ {b : Addr} {o : Obj}, s.heap.get? b = some o → (∀ v n, o.data ≠ .seq v n) → o.data ≠ .fields #[] → (hidT s.heap H).get? b = some o := fun e n1 n2 => hidT_get e (free e n1 n2)
  have nsB : ∀ {b : Addr} {m : Str → Option Value}, s.heap.Ns b m → (hidT s.heap H).Ns b m := fun {b m} h => by
    obtain ⟨o, es, ep, e, d, rest⟩ := h
    refine ⟨o, es, ep, seen e (fun v n z => ?_) (fun z => ?_), d, rest⟩ <;> (rw [d] at z; cases z)
  have kB : K.In (hidT s.heap H) := fun b o e => by
    refine hidT_get (KX b o e) ?_
    cases q : H b with
    | none => rfl
    | some u =>
      rcases own b u q with ⟨m, _⟩ | ⟨rfl, _, z⟩
      · obtain ⟨p, mp, rfl⟩ := List.mem_map.mp m
        rw [nT p mp] at e
        cases e
      · rw [z] at e
        cases e
  have tB : ∀ p ∈ cs, TabB (hidT s.heap H) mg p.1 p.2 := fun p mp => by
    refine ⟨?_, ?_, fun z => ?_⟩
    · obtain ⟨o, us, file, tf, flags, tg, inF, text, tt, e1, r1, r2, r3, more⟩ := C p mp
      refine ⟨o, us, file, tf, flags, tg, inF, text, tt, seen e1 (fun v n z => ?_) (fun z => ?_), r1, r2, r3, more⟩
      · rw [r2] at z
        cases z
      · rw [r2] at z
        cases z
        cases r3
    · obtain ⟨bm, ob, b1, b2, b3, b4, b5, b6⟩ := hbm
      refine ⟨bm, ob, b1, b2, fun z => ?_, fun z => ?_, seen b3 (fun v n z => ?_) (fun z => ?_), b4, b5, b6⟩
      · obtain ⟨o, es, ep, e, d, _⟩ := hns
        rw [z, e] at b3
        injection b3 with b3
        subst b3
        rw [d] at b6
        cases b6
      · have e := hT p mp
        rw [← z, b3] at e
        injection e with e
        subst e
        cases b6
      · rw [b6] at z
        cases z
      · rw [b6] at z
        cases z
    · obtain ⟨o, es, ep, e, d, _⟩ := hns
      have e2 := hT p mp
      rw [← z, e] at e2
      injection e2 with e2
      subst e2
      cases d
  have env : Env0 P w K mg (hidT s.heap H) callerA [] s H :=
    { frames := rfl
      mod := ⟨kB, nsB hns, ⟨mb, nsB hb, hbb⟩, by obtain ⟨mc, h1, h2⟩ := hlim; exact ⟨mc, nsB h1, h2⟩⟩
      bs := fun b o e => of_hidT e
      bsz := Nat.le_of_eq (hidT_size _ _)
      funs := trivial
      frf := fun b m => absurd (show b ∈ ([] : List Addr) from m) List.not_mem_nil
      hok := hok
      bare := .of_eq hg }
  refine codeAny_mono ((F _ kB (nsB hns) tB).go callerA [] s H ⟨[.ref a], []⟩ [.ref a] [.ref a] _ _ rfl hr env (hbind s (.ref a)) (.cons rfl .nil) (hsp H hH hS)) fun r s' h => ?_
  cases r with
  | error e =>
    obtain ⟨_, _, _, _, _, _, _, _, _, _, _, _, z⟩ := (show L2.CX P w [] H s (fun _ _ _ => False) e s' from h)
    exact z.elim
  | ok fl =>
    cases fl with
    | ret u =>
      obtain ⟨v, H', os, bare, un, hok', rv, q⟩ := h
      obtain rfl : v = .bl true := q
      obtain rfl : u = Value.bool true := rv
      have keep : ∀ b o, b ∉ cs.map (·.2) → s.heap.get? b = some o → s'.heap.get? b = some o := fun b o nb e => by
        cases q : H b with
        | none => exact un.keep b o e q (fun m => absurd (show b ∈ ([] : List Addr) from m) List.not_mem_nil) List.not_mem_nil
        | some u =>
          rcases own b u q with ⟨m, _⟩ | ⟨rfl, rfl, _⟩
          · exact absurd m nb
          · have z := (hok' b _ (un.frzs b _ _ q)).1
            rw [ha] at e
            rw [← e]
            exact z
      have grown : ∀ p ∈ cs, ∃ more : Array Value, s'.heap.get? p.2 = some { cls := .none, data := .fields more } := fun p mp => by
        obtain ⟨more, z⟩ := un.tbls p.2 #[] (hH p mp)
        exact ⟨_, hok' p.2 _ z⟩
      refine ⟨rfl, ⟨fun b o e => ?_, fun b o e => ?_⟩, os, bare⟩
      · by_cases m : b ∈ cs.map (·.2)
        · obtain ⟨p, mp, rfl⟩ := List.mem_map.mp m
          obtain ⟨more, z⟩ := grown p mp
          have e2 := hT p mp
          rw [e] at e2
          injection e2 with e2
          subst e2
          exact .inr (.inl ⟨((C p mp).tab (hT p mp)).isCodeTable, rfl, #[], more, rfl, by rw [Array.empty_append]; exact z⟩)
        · exact .inl (keep b o m e)
      · by_cases m : b ∈ cs.map (·.2)
        · obtain ⟨p, mp, rfl⟩ := List.mem_map.mp m
          obtain ⟨more, z⟩ := grown p mp
          exact ⟨_, z⟩
        · exact ⟨o, keep b o m e⟩
    | _ => exact False.elim h
end
/-- what the end asks of the law's def -/
def LawG (l : PySem.W.OpenLaw) (w : World) (K : PySem.W.Frag) (k n : Nat) (x : Str) (mg : Str → Option Value) (fa : Addr) (h : Heap) : Prop :=
  ∃ (fd : FuncData) (cs : List (Addr × Addr)) (sp : Sp), (∀ p ∈ cs, h.get? p.2 = some tabO) ∧ (∀ p ∈ cs, K.lookup p.2 = none) ∧ (∀ p ∈ cs, PySem.W.CodeHd h p.1 p.2) ∧ (∀ (s : Shared) (u : Value), BindsTo s fd ⟨[u], []⟩ [(x, u)]) ∧
    (∀ (H : Hp) (a : Addr) (ns : List Int), ns.length ≤ n → (∀ p ∈ cs, H p.2 = some (.tbl #[])) → SqL K H a (ns.map V.int) → sp [.ref a] H (fun v _ => v = .bl true) fun _ _ _ => False) ∧
    ∀ base : Heap, K.In base → base.Ns mainGlobals mg → (∀ p ∈ cs, TabB base mg p.1 p.2) → FnG l.prog w K mg base k fa fd [x] sp
theorem walk_G {l : PySem.W.OpenLaw} {n k : Nat} {q : Program} {loose : List Str} {XP : (Str → Option Value) → Heap → Prop} {YP : World → Heap → Prop} {d : DefRec} {x : Str} (hn : l.most = some n) (hn2 : n ≤ sizeLine) (hdf : d.params.defaults = []) (hr : Room k callerA)
    (F : ∀ (w : World) (mg : Str → Option Value) (fa : Addr) (h : Heap), YP w h → h.Ns mainGlobals mg → mg d.name = some (.ref fa) → ∃ K : PySem.W.Frag, K.In h ∧ LawG l w K k n x mg fa h) :
    PySem.W.WalkO q loose XP YP l.row.toRowW d [] (fun f vs => PySem.call f vs) := by
  refine Att.attach_callB hn hdf fun w s0 s1 mg mb fa o pm cd doc a vs ns G Y ho hd hcd hmg hobj hints hlen hbits hg => ?_
  obtain ⟨K, KX, fd, cs, sp, h1, h2, h3, h4, h5, h6⟩ := F w mg fa _ Y G.T.g hmg
  exact law_goG KX G.T.g G.T.b G.T.builtins G.T.nolimit hg h1 h2 h3 G.T.bmain hobj hints (Nat.le_trans hlen hn2) hr h6 h4 fun H hH hS => h5 H a ns hlen hH hS
/-! ### a Hook with tables and tuples -/
def tupB (K : PySem.W.Frag) (q : Str × List V) : Bool := match K.lookup (He.ga K q.1) with
  | some ⟨.type c, _, .seq its _, _⟩ => decide (c = "tuple") && (decide (its.size ≤ sizeLine) && He.relAll q.2 its.toList)
  | _ => false
theorem tup_ok {K : PySem.W.Frag} {q : Str × List V} (h : tupB K q = true) : ∀ H : Hp, SqT K H (He.ga K q.1) q.2 := fun H => by
  unfold tupB at h
  cases e : K.lookup (He.ga K q.1) with
  | none =>
    rw [e] at h
    cases h
  | some o =>
    obtain ⟨oc, od, dt, osl⟩ := o
    rw [e] at h
    cases oc with
    | type c =>
      cases dt with
      | seq its n =>
        obtain ⟨h1, h2⟩ := He.ba h
        obtain ⟨h3, h4⟩ := He.ba h2
        exact .inr ⟨_, its, n, e, congrArg Value.type (of_decide_eq_true h1), rfl, of_decide_eq_true h3, He.relAll_ok h4⟩
      | _ => cases h
    | _ => cases h
structure SaysY (fa : List He.Fa) (fn : List He.DefD) (xs : List ExD) (ps : List PlD) (tf : List He.Defn) (tu : List (Str × List V)) (file : Str) (h : Heap) (K : PySem.W.Frag) : Prop where
  s : SaysS fa fn xs ps file K
  hd : ∀ p ∈ tf, PySem.W.codeHdIn K (He.cT K p).1 (He.cT K p).2 = true
  out : ∀ p ∈ tf, K.lookup (He.cT K p).2 = none
  empty : ∀ p ∈ tf, h.get? (He.cT K p).2 = some tabO
  nod : (tf.map fun p => (He.cT K p).2).Nodup
  tup : ∀ q ∈ tu, tupB K q = true
def obsY (n : Nat) (fa : List He.Fa) (fn : List He.DefD) (xs : List ExD) (ps : List PlD) (tf : List He.Defn) (tu : List (Str × List V)) (file : Str) (g : Addr → Option Obj) : AlS :=
  let K := He.frT g (asS g n)
  (He.obsD fa fn K, ((xs.all (fun d => d.ok file K) && ps.all (fun d => d.ok K)) && (He.tabsB g tf K && (decide (tf.map fun p => (He.cT K p).2).Nodup && tu.all fun q => tupB K q)), xs.map fun d => iniW K d.x))
theorem saysY_of {n : Nat} {fa : List He.Fa} {fn : List He.DefD} {xs : List ExD} {ps : List PlD} {tf : List He.Defn} {tu : List (Str × List V)} {file : Str} {h : Heap} (e : obsY n fa fn xs ps tf tu file h.get? = valS fn xs) : SaysY fa fn xs ps tf tu file h (He.frT h.get? (asS h.get? n)) := by
  have e1 : He.obsD fa fn (He.frT h.get? (asS h.get? n)) = He.valD fn := congrArg (fun z : AlS => z.1) e
  have e2 := congrArg (fun z : AlS => z.2.1) e
  have e3 : (xs.map fun d => iniW (He.frT h.get? (asS h.get? n)) d.x) = xs.map ExD.val := congrArg (fun z : AlS => z.2.2) e
  obtain ⟨k, k0⟩ := He.ba (show (_ && _) = true from e2)
  obtain ⟨k1, k2⟩ := He.ba k
  obtain ⟨k3, k4⟩ := He.ba k0
  obtain ⟨k5, k6⟩ := He.ba k4
  have key : ∀ p ∈ tf, PySem.W.codeHdIn (He.frT h.get? (asS h.get? n)) (He.cT (He.frT h.get? (asS h.get? n)) p).1 (He.cT (He.frT h.get? (asS h.get? n)) p).2 = true ∧ ∃ o, h.get? (He.cT (He.frT h.get? (asS h.get? n)) p).2 = some o ∧ He.emptyTab o = true := fun p mp => by
    obtain ⟨z1, z2⟩ := He.ba (List.all_eq_true.mp k3 p mp)
    refine ⟨z1, ?_⟩
    split at z2
    · exact ⟨_, by assumption, z2⟩
    · cases z2
  refine ⟨⟨e1, fun d hd => ⟨List.all_eq_true.mp k1 d hd, map_all e3 d hd⟩, fun d hd => List.all_eq_true.mp k2 d hd⟩, fun p mp => (key p mp).1, fun p mp => ?_, fun p mp => ?_, of_decide_eq_true k5, fun q mq => List.all_eq_true.mp k6 q mq⟩
  · obtain ⟨_, o, z1, z2⟩ := key p mp
    exact He.frT_none z1 z2
  · obtain ⟨_, o, z1, z2⟩ := key p mp
    rw [z1, He.emptyTab_eq z2]
    rfl
def hookY (n : Nat) (fa : List He.Fa) (fn : List He.DefD) (xs : List ExD) (ps : List PlD) (tf : List He.Defn) (tu : List (Str × List V)) (file : Str) : PySem.W.Hook where
  α := AlS
  obs := fun s => obsY n fa fn xs ps tf tu file s.heap.get?
  val := fun _ => valS fn xs
  says := fun _ h => ∃ K : PySem.W.Frag, K.In h ∧ SaysY fa fn xs ps tf tu file h K
  of := fun _ _ e => ⟨_, He.frT_in, saysY_of e⟩
  keeps := fun _ _ _ ⟨K, hK, c⟩ k => ⟨K, PySem.W.Frag.In.keeps hK k, ⟨c.s, c.hd, c.out, fun p hp => k _ _ (c.empty p hp), c.nod, c.tup⟩⟩
theorem obsY_eq {n : Nat} {fa : List He.Fa} {fn : List He.DefD} {xs : List ExD} {ps : List PlD} {tf : List He.Defn} {tu : List (Str × List V)} {file : Str} {g : Addr → Option Obj} {s : Shared} (h : ∀ a, g a = s.heap.get? a) : obsY n fa fn xs ps tf tu file g = (hookY n fa fn xs ps tf tu file).obs s := by
  have e : g = s.heap.get? := funext h
  rw [e] <;> rfl
end Sm
set_option maxHeartbeats 0
namespace K00
open PySem PySem.Spec PyProof.Rows L2
def t_is_whole : He.DefD := ⟨("is_whole", none), "is_whole", "is_whole", defArgs s_is_whole, defBody s_is_whole, defScope s_is_whole, [], []⟩
def t_is_name : He.DefD := ⟨("is_name", none), "is_name", "is_name", defArgs s_is_name, defBody s_is_name, defScope s_is_name, [], []⟩
def t_greatest_divisor : He.DefD := ⟨("greatest_divisor", none), "greatest_divisor", "greatest_divisor", defArgs s_greatest_divisor, defBody s_greatest_divisor, defScope s_greatest_divisor, [], []⟩
def t_lowest : He.DefD := ⟨("lowest", none), "lowest", "lowest", defArgs s_lowest, defBody s_lowest, defScope s_lowest, [], []⟩
def t_is_worth : He.DefD := ⟨("is_worth", none), "is_worth", "is_worth", defArgs s_is_worth, defBody s_is_worth, defScope s_is_worth, [], []⟩
def t_is_cell_worth : He.DefD := ⟨("is_cell_worth", none), "is_cell_worth", "is_cell_worth", defArgs s_is_cell_worth, defBody s_is_cell_worth, defScope s_is_cell_worth, [], []⟩
def t_is_weight : He.DefD := ⟨("is_weight", none), "is_weight", "is_weight", defArgs s_is_weight, defBody s_is_weight, defScope s_is_weight, [], []⟩
def t_is_long_worth : He.DefD := ⟨("is_long_worth", none), "is_long_worth", "is_long_worth", defArgs s_is_long_worth, defBody s_is_long_worth, defScope s_is_long_worth, [], []⟩
def t_require_worth : He.DefD := ⟨("require_worth", none), "require_worth", "require_worth", defArgs s_require_worth, defBody s_require_worth, defScope s_require_worth, [], []⟩
def t_require_operand : He.DefD := ⟨("require_operand", none), "require_operand", "require_operand", defArgs s_require_operand, defBody s_require_operand, defScope s_require_operand, [], []⟩
def t_worth : He.DefD := ⟨("worth", none), "worth", "worth", defArgs s_worth, defBody s_worth, defScope s_worth, [.int 1], []⟩
def t_sum_in : He.DefD := ⟨("sum_in", none), "sum_in", "sum_in", defArgs s_sum_in, defBody s_sum_in, defScope s_sum_in, [], []⟩
def t_difference_in : He.DefD := ⟨("difference_in", none), "difference_in", "difference_in", defArgs s_difference_in, defBody s_difference_in, defScope s_difference_in, [], []⟩
def t_product_in : He.DefD := ⟨("product_in", none), "product_in", "product_in", defArgs s_product_in, defBody s_product_in, defScope s_product_in, [], []⟩
def t_quotient_in : He.DefD := ⟨("quotient_in", none), "quotient_in", "quotient_in", defArgs s_quotient_in, defBody s_quotient_in, defScope s_quotient_in, [], []⟩
def t_weighted_in : He.DefD := ⟨("weighted_in", none), "weighted_in", "weighted_in", defArgs s_weighted_in, defBody s_weighted_in, defScope s_weighted_in, [], []⟩
def t_is_below_in : He.DefD := ⟨("is_below_in", none), "is_below_in", "is_below_in", defArgs s_is_below_in, defBody s_is_below_in, defScope s_is_below_in, [], []⟩
def t_is_great_in : He.DefD := ⟨("is_great_in", none), "is_great_in", "is_great_in", defArgs s_is_great_in, defBody s_is_great_in, defScope s_is_great_in, [], []⟩
def t_plus : He.DefD := ⟨("plus", none), "plus", "plus", defArgs s_plus, defBody s_plus, defScope s_plus, [], []⟩
def t_minus : He.DefD := ⟨("minus", none), "minus", "minus", defArgs s_minus, defBody s_minus, defScope s_minus, [], []⟩
def t_times : He.DefD := ⟨("times", none), "times", "times", defArgs s_times, defBody s_times, defScope s_times, [], []⟩
def t_over : He.DefD := ⟨("over", none), "over", "over", defArgs s_over, defBody s_over, defScope s_over, [], []⟩
def t_is_weighted_pair : He.DefD := ⟨("is_weighted_pair", none), "is_weighted_pair", "is_weighted_pair", defArgs s_is_weighted_pair, defBody s_is_weighted_pair, defScope s_is_weighted_pair, [], []⟩
def t_weighted_sum : He.DefD := ⟨("weighted_sum", none), "weighted_sum", "weighted_sum", defArgs s_weighted_sum, defBody s_weighted_sum, defScope s_weighted_sum, [], []⟩
def t_is_below : He.DefD := ⟨("is_below", none), "is_below", "is_below", defArgs s_is_below, defBody s_is_below, defScope s_is_below, [], []⟩
def t_is_great : He.DefD := ⟨("is_great", none), "is_great", "is_great", defArgs s_is_great, defBody s_is_great, defScope s_is_great, [], []⟩
def t__law_dice : He.DefD := ⟨("_law_dice", none), "_law_dice", "_law_dice", defArgs s__law_dice, defBody s__law_dice, defScope s__law_dice, [], []⟩
def t__law_roll : He.DefD := ⟨("_law_roll", none), "_law_roll", "_law_roll", defArgs s__law_roll, defBody s__law_roll, defScope s__law_roll, [], []⟩
def t__law_one_of : He.DefD := ⟨("_law_one_of", none), "_law_one_of", "_law_one_of", defArgs s__law_one_of, defBody s__law_one_of, defScope s__law_one_of, [], []⟩
def t__law_lowest : He.DefD := ⟨("_law_lowest", none), "_law_lowest", "_law_lowest", defArgs s__law_lowest, defBody s__law_lowest, defScope s__law_lowest, [], []⟩
def t__law_long : He.DefD := ⟨("_law_long", none), "_law_long", "_law_long", defArgs s__law_long, defBody s__law_long, defScope s__law_long, [], []⟩
def t__law_fraction : He.DefD := ⟨("_law_fraction", none), "_law_fraction", "_law_fraction", defArgs s__law_fraction, defBody s__law_fraction, defScope s__law_fraction, [], []⟩
def t__law_operand : He.DefD := ⟨("_law_operand", none), "_law_operand", "_law_operand", defArgs s__law_operand, defBody s__law_operand, defScope s__law_operand, [], []⟩
def t__law_added : He.DefD := ⟨("_law_added", none), "_law_added", "_law_added", defArgs s__law_added, defBody s__law_added, defScope s__law_added, [], []⟩
def t__law_multiplied : He.DefD := ⟨("_law_multiplied", none), "_law_multiplied", "_law_multiplied", defArgs s__law_multiplied, defBody s__law_multiplied, defScope s__law_multiplied, [], []⟩
def t__law_met : He.DefD := ⟨("_law_met", none), "_law_met", "_law_met", defArgs s__law_met, defBody s__law_met, defScope s__law_met, [], []⟩
def t__law_reckoned : He.DefD := ⟨("_law_reckoned", none), "_law_reckoned", "_law_reckoned", defArgs s__law_reckoned, defBody s__law_reckoned, defScope s__law_reckoned, [], []⟩
def t__law_back : He.DefD := ⟨("_law_back", none), "_law_back", "_law_back", defArgs s__law_back, defBody s__law_back, defScope s__law_back, [], []⟩
def t__law_compared : He.DefD := ⟨("_law_compared", none), "_law_compared", "_law_compared", defArgs s__law_compared, defBody s__law_compared, defScope s__law_compared, [], []⟩
def t__law_judged : He.DefD := ⟨("_law_judged", none), "_law_judged", "_law_judged", defArgs s__law_judged, defBody s__law_judged, defScope s__law_judged, [], []⟩
def t__law_refused_right : He.DefD := ⟨("_law_refused_right", none), "_law_refused_right", "_law_refused_right", defArgs s__law_refused_right, defBody s__law_refused_right, defScope s__law_refused_right, [], []⟩
def t__law_right : He.DefD := ⟨("_law_right", none), "_law_right", "_law_right", defArgs s__law_right, defBody s__law_right, defScope s__law_right, [], []⟩
def t_law : He.DefD := ⟨("law", none), "law", "law", defArgs s_law, defBody s_law, defScope s_law, [], []⟩
def e_InvalidNumber : Sm.ExD := ⟨"InvalidNumber", "given", "InvalidNumber.__init__", ⟨10, 17, 10, 21⟩, ⟨10, 23, 10, 28⟩, ⟨11, 8, 11, 13⟩, ⟨11, 8, 11, 15⟩, ⟨11, 8, 11, 24⟩, ⟨11, 25, 11, 30⟩, ⟨11, 8, 11, 31⟩, ⟨11, 8, 11, 31⟩, ⟨12, 8, 12, 12⟩, ⟨12, 8, 12, 18⟩, ⟨12, 21, 12, 26⟩, ⟨12, 8, 12, 26⟩, "IndexError", "IndexError.__new__", "IndexError.__init__", [.type "IndexError", .type "LookupError", .type "Exception", .type "BaseException", .type "object"]⟩
def e_InvalidOperation : Sm.PlD := ⟨"InvalidOperation", "ValueError", "ValueError.__new__", "ValueError.__init__", [.type "ValueError", .type "Exception", .type "BaseException", .type "object"]⟩
def e_InvalidWorth : Sm.PlD := ⟨"InvalidWorth", "ValueError", "ValueError.__new__", "ValueError.__init__", [.type "ValueError", .type "Exception", .type "BaseException", .type "object"]⟩
def e_Refused : Sm.ExD := ⟨"Refused", "reason", "Refused.__init__", ⟨15, 17, 15, 21⟩, ⟨15, 23, 15, 29⟩, ⟨16, 8, 16, 13⟩, ⟨16, 8, 16, 15⟩, ⟨16, 8, 16, 24⟩, ⟨16, 25, 16, 31⟩, ⟨16, 8, 16, 32⟩, ⟨16, 8, 16, 32⟩, ⟨17, 8, 17, 12⟩, ⟨17, 8, 17, 19⟩, ⟨17, 22, 17, 28⟩, ⟨17, 8, 17, 28⟩, "ArithmeticError", "ArithmeticError.__new__", "ArithmeticError.__init__", [.type "ArithmeticError", .type "Exception", .type "BaseException", .type "object"]⟩
def fn : List He.DefD := [t_is_whole, t_is_name, t_greatest_divisor, t_lowest, t_is_worth, t_is_cell_worth, t_is_weight, t_is_long_worth, t_require_worth, t_require_operand, t_worth, t_sum_in, t_difference_in, t_product_in, t_quotient_in, t_weighted_in, t_is_below_in, t_is_great_in, t_plus, t_minus, t_times, t_over, t_is_weighted_pair, t_weighted_sum, t_is_below, t_is_great, t__law_dice, t__law_roll, t__law_one_of, t__law_lowest, t__law_long, t__law_fraction, t__law_operand, t__law_added, t__law_multiplied, t__law_met, t__law_reckoned, t__law_back, t__law_compared, t__law_judged, t__law_refused_right, t__law_right, t_law]
def fa : List He.Fa := [.free "abs", .free "all", .free "bool", .free "int", .free "isinstance", .free "len", .free "max", .free "min", .free "range", .free "repr", .free "str", .free "tuple", .int "BEYOND_CELLS" (BC), .int "BEYOND_WORTHS" (BW), .str "DIGITS" "0123456789", .int "GREAT" (GR), .str "LETTERS" "abcdefghijklmnopqrstuvwxyz", .int "MOST_CELL_BOTTOM" (1000), .int "MOST_DIGITS" (1000), .int "MOST_NAME" (8), .int "MOST_WEIGHT_BOTTOM" (10), .int "MOST_WEIGHT_TOP" (99), .glo "ONE", .glo "ZERO", .glo "minus", .glo "over", .glo "plus", .glo "times", .exm "InvalidWorth" "InvalidWorth" true, .exm "InvalidOperation" "InvalidWorth" false, .exm "InvalidOperation" "InvalidOperation" true, .exm "InvalidNumber" "InvalidWorth" false, .exm "InvalidNumber" "InvalidOperation" false, .exm "InvalidNumber" "InvalidNumber" true, .exm "Refused" "InvalidWorth" false, .exm "Refused" "InvalidOperation" false, .exm "Refused" "InvalidNumber" false, .exm "Refused" "Refused" true, .glo "is_whole", .glo "is_name", .glo "greatest_divisor", .glo "lowest", .glo "is_worth", .glo "is_cell_worth", .glo "is_weight", .glo "is_long_worth", .glo "require_worth", .glo "require_operand", .glo "worth", .glo "sum_in", .glo "difference_in", .glo "product_in", .glo "quotient_in", .glo "weighted_in", .glo "is_below_in", .glo "is_great_in", .glo "is_weighted_pair", .glo "weighted_sum", .glo "is_below", .glo "is_great", .glo "_law_dice", .glo "_law_roll", .glo "_law_one_of", .glo "_law_lowest", .glo "_law_long", .glo "_law_fraction", .glo "_law_operand", .glo "_law_added", .glo "_law_multiplied", .glo "_law_met", .glo "_law_reckoned", .glo "_law_back", .glo "_law_compared", .glo "_law_judged", .glo "_law_refused_right", .glo "_law_right", .glo "law"]
def xs : List Sm.ExD := [e_InvalidNumber, e_Refused]
def ps : List Sm.PlD := [e_InvalidOperation, e_InvalidWorth]
def tf : List He.Defn := [("_law_reckoned", none), ("_law_refused_right", none)]
def tu : List (Str × List V) := [("ONE", [.int 1, .int 1]), ("ZERO", [.int 0, .int 1])]
abbrev R : PySem.W.OpenRow := PySem.W.OpenLaw.row PySem.Challenge.rw_sumstead_k00_whole_worths_reckoned
abbrev prog : Program := PySem.Challenge.pw_sumstead_k00_whole_worths_reckoned
abbrev hk : PySem.W.Hook := Sm.hookY 6 fa fn xs ps tf tu prog.main.file
def ob (s : PySem.W.SharedT) : Sm.AlS := Sm.obsY 6 fa fn xs ps tf tu prog.main.file (HandSHeadRun.getT s)
theorem ob_eq (s : PySem.W.SharedT) : ob s = hk.obs s.abs := Sm.obsY_eq (HandSHeadRun.getT_eq s)
def loose : List Str := (["__name__", "CubeError", "InvalidWorth", "InvalidOperation", "InvalidNumber", "Refused", "ZERO", "ONE", "MOST_DIGITS", "GREAT", "BEYOND_WORTHS", "BEYOND_CELLS", "MOST_CELL_BOTTOM", "MOST_WEIGHT_TOP", "MOST_WEIGHT_BOTTOM", "MOST_NAME", "DIGITS", "LETTERS", "is_whole", "is_name", "greatest_divisor", "lowest", "is_worth", "is_cell_worth", "is_weight", "is_long_worth", "require_worth", "require_operand", "worth", "sum_in"] : List Str) ++ (["difference_in", "product_in", "quotient_in", "weighted_in", "is_below_in", "is_great_in", "plus", "minus", "times", "over", "is_weighted_pair", "weighted_sum", "is_below", "is_great", "_law_dice", "_law_roll", "_law_one_of", "_law_lowest", "_law_long", "_law_fraction", "_law_operand", "_law_added", "_law_multiplied", "_law_met", "_law_reckoned", "_law_back", "_law_compared", "_law_judged", "_law_refused_right", "_law_right"] : List Str)
theorem glue {α β γ δ : Type} {o : Option α} {f : α → β} {g : α → γ} {h : α → δ} {x : β} {y : γ} {z : δ} (a : o.map f = some x) (b : o.map g = some y) (c : o.map h = some z) : o.map (fun s => (f s, g s, h s)) = some (x, y, z) := by
  cases o with
  | none => cases a
  | some s =>
    have a' : f s = x := Option.some.inj a
    have b' : g s = y := Option.some.inj b
    have c' : h s = z := Option.some.inj c
    rw [← a', ← b', ← c']
    rfl
open PySem.W in
theorem runA (w : World) (os : OsState) : (HandSHeadRun.endF (HandSHeadRun.stepQ (HandSHeadRun.denQ HandSHeadRun.tabQ) R.prog w) 4000 R.prog w os).map (fun s => HandSHeadRun.looksF R.prog (boot_heap w.params) s.abs) = some true := by kernel_rfl
open PySem.W in
theorem runB (w : World) (os : OsState) : (HandSHeadRun.endF (HandSHeadRun.stepQ (HandSHeadRun.denQ HandSHeadRun.tabQ) R.prog w) 4000 R.prog w os).map (fun s => HandSHeadRun.seenQ (PySem.W.view R.prog [62]) loose (importedModules R.prog.main.body) (fun s => xlAt (PySem.W.view R.prog [62]) [] s && recOk R.toRowW.records s) s.abs) = some (openGood (PySem.W.view R.prog [62]) loose) := by kernel_rfl
theorem runC (w : World) (os : OsState) : (HandSHeadRun.endF (HandSHeadRun.stepQ (HandSHeadRun.denQ HandSHeadRun.tabQ) R.prog w) 4000 R.prog w os).map ob = some (Sm.valS fn xs) := by kernel_rfl
theorem run (w : World) : HandSHeadRun.RunEq R (PySem.W.view R.prog [62]) hk ob 4000 loose w := fun os => glue (runA w os) (runB w os) (runC w os)
section
variable {K : PySem.W.Frag} {h : Heap} {mg : Str → Option Value}
theorem txt_ok (X : K.In h) (G : h.Ns mainGlobals mg) (c : Sm.SaysY fa fn xs ps tf tu prog.main.file h K) : Txt prog K mg where
  f_abs := He.free_ok X G (c.s.d.fact 0 (f := .free "abs") rfl)
  f_all := He.free_ok X G (c.s.d.fact 1 (f := .free "all") rfl)
  f_bool := He.free_ok X G (c.s.d.fact 2 (f := .free "bool") rfl)
  f_int := He.free_ok X G (c.s.d.fact 3 (f := .free "int") rfl)
  f_isinstance := He.free_ok X G (c.s.d.fact 4 (f := .free "isinstance") rfl)
  f_len := He.free_ok X G (c.s.d.fact 5 (f := .free "len") rfl)
  f_max := He.free_ok X G (c.s.d.fact 6 (f := .free "max") rfl)
  f_min := He.free_ok X G (c.s.d.fact 7 (f := .free "min") rfl)
  f_range := He.free_ok X G (c.s.d.fact 8 (f := .free "range") rfl)
  f_repr := He.free_ok X G (c.s.d.fact 9 (f := .free "repr") rfl)
  f_str := He.free_ok X G (c.s.d.fact 10 (f := .free "str") rfl)
  f_tuple := He.free_ok X G (c.s.d.fact 11 (f := .free "tuple") rfl)
  c_BEYOND_CELLS := He.int_ok X G (c.s.d.fact 12 (f := .int "BEYOND_CELLS" (BC)) rfl)
  c_BEYOND_WORTHS := He.int_ok X G (c.s.d.fact 13 (f := .int "BEYOND_WORTHS" (BW)) rfl)
  c_DIGITS := He.str_ok X G (c.s.d.fact 14 (f := .str "DIGITS" "0123456789") rfl)
  c_GREAT := He.int_ok X G (c.s.d.fact 15 (f := .int "GREAT" (GR)) rfl)
  c_LETTERS := He.str_ok X G (c.s.d.fact 16 (f := .str "LETTERS" "abcdefghijklmnopqrstuvwxyz") rfl)
  c_MOST_CELL_BOTTOM := He.int_ok X G (c.s.d.fact 17 (f := .int "MOST_CELL_BOTTOM" (1000)) rfl)
  c_MOST_DIGITS := He.int_ok X G (c.s.d.fact 18 (f := .int "MOST_DIGITS" (1000)) rfl)
  c_MOST_NAME := He.int_ok X G (c.s.d.fact 19 (f := .int "MOST_NAME" (8)) rfl)
  c_MOST_WEIGHT_BOTTOM := He.int_ok X G (c.s.d.fact 20 (f := .int "MOST_WEIGHT_BOTTOM" (10)) rfl)
  c_MOST_WEIGHT_TOP := He.int_ok X G (c.s.d.fact 21 (f := .int "MOST_WEIGHT_TOP" (99)) rfl)
  g_ONE := He.glo_ok X G (c.s.d.fact 22 (f := .glo "ONE") rfl)
  t_ONE := Sm.tup_ok (q := ("ONE", [.int 1, .int 1])) (c.tup _ (List.mem_of_getElem? (i := 0) rfl))
  g_ZERO := He.glo_ok X G (c.s.d.fact 23 (f := .glo "ZERO") rfl)
  t_ZERO := Sm.tup_ok (q := ("ZERO", [.int 0, .int 1])) (c.tup _ (List.mem_of_getElem? (i := 1) rfl))
  g_minus := He.glo_ok X G (c.s.d.fact 24 (f := .glo "minus") rfl)
  g_over := He.glo_ok X G (c.s.d.fact 25 (f := .glo "over") rfl)
  g_plus := He.glo_ok X G (c.s.d.fact 26 (f := .glo "plus") rfl)
  g_times := He.glo_ok X G (c.s.d.fact 27 (f := .glo "times") rfl)
  x_InvalidNumber := Sm.xs_ok (d := e_InvalidNumber) X G PySem.F.excBase_IndexError PySem.W.kxs_IndexError PySem.F.store_IndexError rfl (fun _ _ _ _ _ _ _ _ _ => rfl) (by kernel_rfl) ⟨by decide, by decide, by decide, by decide⟩ (c.s.x _ (List.mem_of_getElem? (i := 0) rfl)).2 (c.s.x _ (List.mem_of_getElem? (i := 0) rfl)).1
  x_InvalidOperation := Sm.pl_ok (d := e_InvalidOperation) X G PySem.F.excBase_ValueError (c.s.p _ (List.mem_of_getElem? (i := 0) rfl))
  x_InvalidWorth := Sm.pl_ok (d := e_InvalidWorth) X G PySem.F.excBase_ValueError (c.s.p _ (List.mem_of_getElem? (i := 1) rfl))
  x_Refused := Sm.xs_ok (d := e_Refused) X G PySem.F.excBase_ArithmeticError PySem.W.kxs_ArithmeticError PySem.F.store_ArithmeticError rfl (fun _ _ _ _ _ _ _ _ _ => rfl) (by kernel_rfl) ⟨by decide, by decide, by decide, by decide⟩ (c.s.x _ (List.mem_of_getElem? (i := 1) rfl)).2 (c.s.x _ (List.mem_of_getElem? (i := 1) rfl)).1
  m_WW := He.exm_ok (c.s.d.fact 28 (f := .exm "InvalidWorth" "InvalidWorth" true) rfl)
  m_OW := He.exm_ok (c.s.d.fact 29 (f := .exm "InvalidOperation" "InvalidWorth" false) rfl)
  m_OO := He.exm_ok (c.s.d.fact 30 (f := .exm "InvalidOperation" "InvalidOperation" true) rfl)
  m_NW := He.exm_ok (c.s.d.fact 31 (f := .exm "InvalidNumber" "InvalidWorth" false) rfl)
  m_NO := He.exm_ok (c.s.d.fact 32 (f := .exm "InvalidNumber" "InvalidOperation" false) rfl)
  m_NN := He.exm_ok (c.s.d.fact 33 (f := .exm "InvalidNumber" "InvalidNumber" true) rfl)
  m_RW := He.exm_ok (c.s.d.fact 34 (f := .exm "Refused" "InvalidWorth" false) rfl)
  m_RO := He.exm_ok (c.s.d.fact 35 (f := .exm "Refused" "InvalidOperation" false) rfl)
  m_RN := He.exm_ok (c.s.d.fact 36 (f := .exm "Refused" "InvalidNumber" false) rfl)
  m_RR := He.exm_ok (c.s.d.fact 37 (f := .exm "Refused" "Refused" true) rfl)
theorem law_ok {w : World} (X : K.In h) (G : h.Ns mainGlobals mg) (c : Sm.SaysY fa fn xs ps tf tu prog.main.file h K) : ∃ fd, FD K "law" s_law (He.ga K "law") fd ∧ ∀ base, (∀ p ∈ tf, LamX.TabB base mg (He.cT K p).1 (He.cT K p).2) → Sm.FnG prog w K mg base 11 (He.ga K "law") fd P_law (sp_law K) := by
  have T := txt_ok X G c
  obtain ⟨fd_is_whole, F_is_whole⟩ := c.s.d.def_ 0 (d := t_is_whole) rfl
  obtain ⟨fd_is_name, F_is_name⟩ := c.s.d.def_ 1 (d := t_is_name) rfl
  obtain ⟨fd_greatest_divisor, F_greatest_divisor⟩ := c.s.d.def_ 2 (d := t_greatest_divisor) rfl
  obtain ⟨fd_lowest, F_lowest⟩ := c.s.d.def_ 3 (d := t_lowest) rfl
  obtain ⟨fd_is_worth, F_is_worth⟩ := c.s.d.def_ 4 (d := t_is_worth) rfl
  obtain ⟨fd_is_cell_worth, F_is_cell_worth⟩ := c.s.d.def_ 5 (d := t_is_cell_worth) rfl
  obtain ⟨fd_is_weight, F_is_weight⟩ := c.s.d.def_ 6 (d := t_is_weight) rfl
  obtain ⟨fd_is_long_worth, F_is_long_worth⟩ := c.s.d.def_ 7 (d := t_is_long_worth) rfl
  obtain ⟨fd_require_worth, F_require_worth⟩ := c.s.d.def_ 8 (d := t_require_worth) rfl
  obtain ⟨fd_require_operand, F_require_operand⟩ := c.s.d.def_ 9 (d := t_require_operand) rfl
  obtain ⟨fd_worth, F_worth⟩ := c.s.d.def_ 10 (d := t_worth) rfl
  obtain ⟨fd_sum_in, F_sum_in⟩ := c.s.d.def_ 11 (d := t_sum_in) rfl
  obtain ⟨fd_difference_in, F_difference_in⟩ := c.s.d.def_ 12 (d := t_difference_in) rfl
  obtain ⟨fd_product_in, F_product_in⟩ := c.s.d.def_ 13 (d := t_product_in) rfl
  obtain ⟨fd_quotient_in, F_quotient_in⟩ := c.s.d.def_ 14 (d := t_quotient_in) rfl
  obtain ⟨fd_weighted_in, F_weighted_in⟩ := c.s.d.def_ 15 (d := t_weighted_in) rfl
  obtain ⟨fd_is_below_in, F_is_below_in⟩ := c.s.d.def_ 16 (d := t_is_below_in) rfl
  obtain ⟨fd_is_great_in, F_is_great_in⟩ := c.s.d.def_ 17 (d := t_is_great_in) rfl
  obtain ⟨fd_plus, F_plus⟩ := c.s.d.def_ 18 (d := t_plus) rfl
  obtain ⟨fd_minus, F_minus⟩ := c.s.d.def_ 19 (d := t_minus) rfl
  obtain ⟨fd_times, F_times⟩ := c.s.d.def_ 20 (d := t_times) rfl
  obtain ⟨fd_over, F_over⟩ := c.s.d.def_ 21 (d := t_over) rfl
  obtain ⟨fd_is_weighted_pair, F_is_weighted_pair⟩ := c.s.d.def_ 22 (d := t_is_weighted_pair) rfl
  obtain ⟨fd_weighted_sum, F_weighted_sum⟩ := c.s.d.def_ 23 (d := t_weighted_sum) rfl
  obtain ⟨fd_is_below, F_is_below⟩ := c.s.d.def_ 24 (d := t_is_below) rfl
  obtain ⟨fd_is_great, F_is_great⟩ := c.s.d.def_ 25 (d := t_is_great) rfl
  obtain ⟨fd__law_dice, F__law_dice⟩ := c.s.d.def_ 26 (d := t__law_dice) rfl
  obtain ⟨fd__law_roll, F__law_roll⟩ := c.s.d.def_ 27 (d := t__law_roll) rfl
  obtain ⟨fd__law_one_of, F__law_one_of⟩ := c.s.d.def_ 28 (d := t__law_one_of) rfl
  obtain ⟨fd__law_lowest, F__law_lowest⟩ := c.s.d.def_ 29 (d := t__law_lowest) rfl
  obtain ⟨fd__law_long, F__law_long⟩ := c.s.d.def_ 30 (d := t__law_long) rfl
  obtain ⟨fd__law_fraction, F__law_fraction⟩ := c.s.d.def_ 31 (d := t__law_fraction) rfl
  obtain ⟨fd__law_operand, F__law_operand⟩ := c.s.d.def_ 32 (d := t__law_operand) rfl
  obtain ⟨fd__law_added, F__law_added⟩ := c.s.d.def_ 33 (d := t__law_added) rfl
  obtain ⟨fd__law_multiplied, F__law_multiplied⟩ := c.s.d.def_ 34 (d := t__law_multiplied) rfl
  obtain ⟨fd__law_met, F__law_met⟩ := c.s.d.def_ 35 (d := t__law_met) rfl
  obtain ⟨fd__law_reckoned, F__law_reckoned⟩ := c.s.d.def_ 36 (d := t__law_reckoned) rfl
  obtain ⟨fd__law_back, F__law_back⟩ := c.s.d.def_ 37 (d := t__law_back) rfl
  obtain ⟨fd__law_compared, F__law_compared⟩ := c.s.d.def_ 38 (d := t__law_compared) rfl
  obtain ⟨fd__law_judged, F__law_judged⟩ := c.s.d.def_ 39 (d := t__law_judged) rfl
  obtain ⟨fd__law_refused_right, F__law_refused_right⟩ := c.s.d.def_ 40 (d := t__law_refused_right) rfl
  obtain ⟨fd__law_right, F__law_right⟩ := c.s.d.def_ 41 (d := t__law_right) rfl
  obtain ⟨fd_law, F_law⟩ := c.s.d.def_ 42 (d := t_law) rfl
  have B_worth : Binds K fd_worth P_worth [] := by
    obtain ⟨ds, hv, hb⟩ := FunD.binds1 F_worth (ps := P_worth) 2 1 (by simp [He.DefD.dvs, t_worth]) rfl (fun T kV doc pm an cdv ct us its h1 h2 => match us, h1, its, h2 with | [_, _], _, [_], _ => ⟨_, rfl, rfl⟩)
    cases hv
    exact hb
  have G_is_whole : ∀ base, Sm.Fn prog w K mg base 1 "is_whole" P_is_whole (sp_is_whole K) := fun base => ⟨_, fd_is_whole, ok_is_whole T F_is_whole , He.glo_ok X G (c.s.d.fact 38 (f := .glo "is_whole") rfl), F_is_whole.kp, FunD.bindsN F_is_whole fun _ _ _ _ _ _ us hl => match us, hl with | [_], _ => rfl⟩
  have G_is_name : ∀ base, Sm.Fn prog w K mg base 1 "is_name" P_is_name (sp_is_name K) := fun base => ⟨_, fd_is_name, ok_is_name T F_is_name , He.glo_ok X G (c.s.d.fact 39 (f := .glo "is_name") rfl), F_is_name.kp, FunD.bindsN F_is_name fun _ _ _ _ _ _ us hl => match us, hl with | [_], _ => rfl⟩
  have G_greatest_divisor : ∀ base, Sm.Fn prog w K mg base 1 "greatest_divisor" P_greatest_divisor (sp_greatest_divisor K) := fun base => ⟨_, fd_greatest_divisor, ok_greatest_divisor T F_greatest_divisor , He.glo_ok X G (c.s.d.fact 40 (f := .glo "greatest_divisor") rfl), F_greatest_divisor.kp, FunD.bindsN F_greatest_divisor fun _ _ _ _ _ _ us hl => match us, hl with | [_, _], _ => rfl⟩
  have G_is_below_in : ∀ base, Sm.Fn prog w K mg base 1 "is_below_in" P_is_below_in (sp_is_below_in K) := fun base => ⟨_, fd_is_below_in, ok_is_below_in T F_is_below_in , He.glo_ok X G (c.s.d.fact 54 (f := .glo "is_below_in") rfl), F_is_below_in.kp, FunD.bindsN F_is_below_in fun _ _ _ _ _ _ us hl => match us, hl with | [_, _], _ => rfl⟩
  have G_is_great_in : ∀ base, Sm.Fn prog w K mg base 1 "is_great_in" P_is_great_in (sp_is_great_in K) := fun base => ⟨_, fd_is_great_in, ok_is_great_in T F_is_great_in , He.glo_ok X G (c.s.d.fact 55 (f := .glo "is_great_in") rfl), F_is_great_in.kp, FunD.bindsN F_is_great_in fun _ _ _ _ _ _ us hl => match us, hl with | [_], _ => rfl⟩
  have G__law_dice : ∀ base, Sm.Fn prog w K mg base 1 "_law_dice" P__law_dice (sp__law_dice K) := fun base => ⟨_, fd__law_dice, ok__law_dice T F__law_dice , He.glo_ok X G (c.s.d.fact 60 (f := .glo "_law_dice") rfl), F__law_dice.kp, FunD.bindsN F__law_dice fun _ _ _ _ _ _ us hl => match us, hl with | [_, _], _ => rfl⟩
  have G__law_roll : ∀ base, Sm.Fn prog w K mg base 1 "_law_roll" P__law_roll (sp__law_roll K) := fun base => ⟨_, fd__law_roll, ok__law_roll T F__law_roll , He.glo_ok X G (c.s.d.fact 61 (f := .glo "_law_roll") rfl), F__law_roll.kp, FunD.bindsN F__law_roll fun _ _ _ _ _ _ us hl => match us, hl with | [_, _], _ => rfl⟩
  have G__law_lowest : ∀ base, Sm.Fn prog w K mg base 1 "_law_lowest" P__law_lowest (sp__law_lowest K) := fun base => ⟨_, fd__law_lowest, ok__law_lowest T F__law_lowest , He.glo_ok X G (c.s.d.fact 63 (f := .glo "_law_lowest") rfl), F__law_lowest.kp, FunD.bindsN F__law_lowest fun _ _ _ _ _ _ us hl => match us, hl with | [_, _], _ => rfl⟩
  have G__law_back : ∀ base, Sm.Fn prog w K mg base 1 "_law_back" P__law_back (sp__law_back K) := fun base => ⟨_, fd__law_back, ok__law_back T F__law_back , He.glo_ok X G (c.s.d.fact 71 (f := .glo "_law_back") rfl), F__law_back.kp, FunD.bindsN F__law_back fun _ _ _ _ _ _ us hl => match us, hl with | [_, _], _ => rfl⟩
  have G_lowest : ∀ base, Sm.Fn prog w K mg base 2 "lowest" P_lowest (sp_lowest K) := fun base => ⟨_, fd_lowest, ok_lowest T F_lowest (G_greatest_divisor base), He.glo_ok X G (c.s.d.fact 41 (f := .glo "lowest") rfl), F_lowest.kp, FunD.bindsN F_lowest fun _ _ _ _ _ _ us hl => match us, hl with | [_, _], _ => rfl⟩
  have G_is_worth : ∀ base, Sm.Fn prog w K mg base 2 "is_worth" P_is_worth (sp_is_worth K) := fun base => ⟨_, fd_is_worth, ok_is_worth T F_is_worth (G_is_whole base) (G_greatest_divisor base), He.glo_ok X G (c.s.d.fact 42 (f := .glo "is_worth") rfl), F_is_worth.kp, FunD.bindsN F_is_worth fun _ _ _ _ _ _ us hl => match us, hl with | [_], _ => rfl⟩
  have G__law_one_of : ∀ base, Sm.Fn prog w K mg base 2 "_law_one_of" P__law_one_of (sp__law_one_of K) := fun base => ⟨_, fd__law_one_of, ok__law_one_of T F__law_one_of (G__law_roll base), He.glo_ok X G (c.s.d.fact 62 (f := .glo "_law_one_of") rfl), F__law_one_of.kp, FunD.bindsN F__law_one_of fun _ _ _ _ _ _ us hl => match us, hl with | [_, _], _ => rfl⟩
  have G__law_long : ∀ base, Sm.Fn prog w K mg base 2 "_law_long" P__law_long (sp__law_long K) := fun base => ⟨_, fd__law_long, ok__law_long T F__law_long (G__law_roll base), He.glo_ok X G (c.s.d.fact 64 (f := .glo "_law_long") rfl), F__law_long.kp, FunD.bindsN F__law_long fun _ _ _ _ _ _ us hl => match us, hl with | [_], _ => rfl⟩
  have G__law_added : ∀ base, Sm.Fn prog w K mg base 2 "_law_added" P__law_added (sp__law_added K) := fun base => ⟨_, fd__law_added, ok__law_added T F__law_added (G__law_lowest base), He.glo_ok X G (c.s.d.fact 67 (f := .glo "_law_added") rfl), F__law_added.kp, FunD.bindsN F__law_added fun _ _ _ _ _ _ us hl => match us, hl with | [_, _], _ => rfl⟩
  have G__law_multiplied : ∀ base, Sm.Fn prog w K mg base 2 "_law_multiplied" P__law_multiplied (sp__law_multiplied K) := fun base => ⟨_, fd__law_multiplied, ok__law_multiplied T F__law_multiplied (G__law_lowest base), He.glo_ok X G (c.s.d.fact 68 (f := .glo "_law_multiplied") rfl), F__law_multiplied.kp, FunD.bindsN F__law_multiplied fun _ _ _ _ _ _ us hl => match us, hl with | [_, _], _ => rfl⟩
  have G_is_cell_worth : ∀ base, Sm.Fn prog w K mg base 3 "is_cell_worth" P_is_cell_worth (sp_is_cell_worth K) := fun base => ⟨_, fd_is_cell_worth, ok_is_cell_worth T F_is_cell_worth (G_is_worth base), He.glo_ok X G (c.s.d.fact 43 (f := .glo "is_cell_worth") rfl), F_is_cell_worth.kp, FunD.bindsN F_is_cell_worth fun _ _ _ _ _ _ us hl => match us, hl with | [_], _ => rfl⟩
  have G_is_weight : ∀ base, Sm.Fn prog w K mg base 3 "is_weight" P_is_weight (sp_is_weight K) := fun base => ⟨_, fd_is_weight, ok_is_weight T F_is_weight (G_is_worth base), He.glo_ok X G (c.s.d.fact 44 (f := .glo "is_weight") rfl), F_is_weight.kp, FunD.bindsN F_is_weight fun _ _ _ _ _ _ us hl => match us, hl with | [_], _ => rfl⟩
  have G_is_long_worth : ∀ base, Sm.Fn prog w K mg base 3 "is_long_worth" P_is_long_worth (sp_is_long_worth K) := fun base => ⟨_, fd_is_long_worth, ok_is_long_worth T F_is_long_worth (G_is_worth base), He.glo_ok X G (c.s.d.fact 45 (f := .glo "is_long_worth") rfl), F_is_long_worth.kp, FunD.bindsN F_is_long_worth fun _ _ _ _ _ _ us hl => match us, hl with | [_], _ => rfl⟩
  have G_worth : ∀ base, Sm.Fn prog w K mg base 3 "worth" P_worth (sp_worth K) := fun base => ⟨_, fd_worth, ok_worth T F_worth (G_lowest base) (G_is_whole base), He.glo_ok X G (c.s.d.fact 48 (f := .glo "worth") rfl), F_worth.kp, B_worth⟩
  have G_worth_1 : ∀ base, Sm.FnD prog w K mg base 3 "worth" P_worth (sp_worth K) [.int (1)] := fun base => by
    obtain ⟨ds, hv, hb⟩ := FunD.binds1 F_worth (ps := P_worth) 1 0 (by simp [He.DefD.dvs, t_worth]) rfl (fun T kV doc pm an cdv ct us its h1 h2 => match us, h1, its, h2 with | [_], _, [_], _ => ⟨_, rfl, rfl⟩)
    exact ⟨_, fd_worth, ds, ok_worth T F_worth (G_lowest base) (G_is_whole base), He.glo_ok X G (c.s.d.fact 48 (f := .glo "worth") rfl), F_worth.kp, hv, hb⟩
  have G_sum_in : ∀ base, Sm.Fn prog w K mg base 3 "sum_in" P_sum_in (sp_sum_in K) := fun base => ⟨_, fd_sum_in, ok_sum_in T F_sum_in (G_lowest base), He.glo_ok X G (c.s.d.fact 49 (f := .glo "sum_in") rfl), F_sum_in.kp, FunD.bindsN F_sum_in fun _ _ _ _ _ _ us hl => match us, hl with | [_, _], _ => rfl⟩
  have G_product_in : ∀ base, Sm.Fn prog w K mg base 3 "product_in" P_product_in (sp_product_in K) := fun base => ⟨_, fd_product_in, ok_product_in T F_product_in (G_lowest base), He.glo_ok X G (c.s.d.fact 51 (f := .glo "product_in") rfl), F_product_in.kp, FunD.bindsN F_product_in fun _ _ _ _ _ _ us hl => match us, hl with | [_, _], _ => rfl⟩
  have G_quotient_in : ∀ base, Sm.Fn prog w K mg base 3 "quotient_in" P_quotient_in (sp_quotient_in K) := fun base => ⟨_, fd_quotient_in, ok_quotient_in T F_quotient_in (G_lowest base), He.glo_ok X G (c.s.d.fact 52 (f := .glo "quotient_in") rfl), F_quotient_in.kp, FunD.bindsN F_quotient_in fun _ _ _ _ _ _ us hl => match us, hl with | [_, _], _ => rfl⟩
  have G__law_fraction : ∀ base, Sm.Fn prog w K mg base 3 "_law_fraction" P__law_fraction (sp__law_fraction K) := fun base => ⟨_, fd__law_fraction, ok__law_fraction T F__law_fraction (G__law_roll base) (G__law_lowest base) (G__law_one_of base) (G__law_long base), He.glo_ok X G (c.s.d.fact 65 (f := .glo "_law_fraction") rfl), F__law_fraction.kp, FunD.bindsN F__law_fraction fun _ _ _ _ _ _ us hl => match us, hl with | [_], _ => rfl⟩
  have G_require_worth : ∀ base, Sm.Fn prog w K mg base 4 "require_worth" P_require_worth (sp_require_worth K) := fun base => ⟨_, fd_require_worth, ok_require_worth T F_require_worth (G_is_long_worth base), He.glo_ok X G (c.s.d.fact 46 (f := .glo "require_worth") rfl), F_require_worth.kp, FunD.bindsN F_require_worth fun _ _ _ _ _ _ us hl => match us, hl with | [_], _ => rfl⟩
  have G_difference_in : ∀ base, Sm.Fn prog w K mg base 4 "difference_in" P_difference_in (sp_difference_in K) := fun base => ⟨_, fd_difference_in, ok_difference_in T F_difference_in (G_sum_in base), He.glo_ok X G (c.s.d.fact 50 (f := .glo "difference_in") rfl), F_difference_in.kp, FunD.bindsN F_difference_in fun _ _ _ _ _ _ us hl => match us, hl with | [_, _], _ => rfl⟩
  have G_weighted_in : ∀ base, Sm.Fn prog w K mg base 4 "weighted_in" P_weighted_in (sp_weighted_in K) := fun base => ⟨_, fd_weighted_in, ok_weighted_in T F_weighted_in (G_sum_in base) (G_product_in base), He.glo_ok X G (c.s.d.fact 53 (f := .glo "weighted_in") rfl), F_weighted_in.kp, FunD.bindsN F_weighted_in fun _ _ _ _ _ _ us hl => match us, hl with | [_], _ => rfl⟩
  have G_is_weighted_pair : ∀ base, Sm.Fn prog w K mg base 4 "is_weighted_pair" P_is_weighted_pair (sp_is_weighted_pair K) := fun base => ⟨_, fd_is_weighted_pair, ok_is_weighted_pair T F_is_weighted_pair (G_is_long_worth base), He.glo_ok X G (c.s.d.fact 56 (f := .glo "is_weighted_pair") rfl), F_is_weighted_pair.kp, FunD.bindsN F_is_weighted_pair fun _ _ _ _ _ _ us hl => match us, hl with | [_], _ => rfl⟩
  have G__law_operand : ∀ base, Sm.Fn prog w K mg base 4 "_law_operand" P__law_operand (sp__law_operand K) := fun base => ⟨_, fd__law_operand, ok__law_operand T F__law_operand (G__law_fraction base) (G__law_roll base), He.glo_ok X G (c.s.d.fact 66 (f := .glo "_law_operand") rfl), F__law_operand.kp, FunD.bindsN F__law_operand fun _ _ _ _ _ _ us hl => match us, hl with | [_], _ => rfl⟩
  have G__law_judged : ∀ base, Sm.Fn prog w K mg base 4 "_law_judged" P__law_judged (sp__law_judged K) := fun base => ⟨_, fd__law_judged, ok__law_judged T F__law_judged (G__law_one_of base) (G_is_worth base) (G_is_cell_worth base) (G_is_weight base) (G_is_name base) (G__law_lowest base), He.glo_ok X G (c.s.d.fact 73 (f := .glo "_law_judged") rfl), F__law_judged.kp, FunD.bindsN F__law_judged fun _ _ _ _ _ _ us hl => match us, hl with | [_], _ => rfl⟩
  have G_require_operand : ∀ base, Sm.Fn prog w K mg base 5 "require_operand" P_require_operand (sp_require_operand K) := fun base => ⟨_, fd_require_operand, ok_require_operand T F_require_operand (G_require_worth base), He.glo_ok X G (c.s.d.fact 47 (f := .glo "require_operand") rfl), F_require_operand.kp, FunD.bindsN F_require_operand fun _ _ _ _ _ _ us hl => match us, hl with | [_], _ => rfl⟩
  have G_weighted_sum : ∀ base, Sm.Fn prog w K mg base 5 "weighted_sum" P_weighted_sum (sp_weighted_sum K) := fun base => ⟨_, fd_weighted_sum, ok_weighted_sum T F_weighted_sum (G_weighted_in base) (G_is_weighted_pair base), He.glo_ok X G (c.s.d.fact 57 (f := .glo "weighted_sum") rfl), F_weighted_sum.kp, FunD.bindsN F_weighted_sum fun _ _ _ _ _ _ us hl => match us, hl with | [_], _ => rfl⟩
  have G_is_below : ∀ base, Sm.Fn prog w K mg base 5 "is_below" P_is_below (sp_is_below K) := fun base => ⟨_, fd_is_below, ok_is_below T F_is_below (G_require_worth base) (G_is_below_in base), He.glo_ok X G (c.s.d.fact 58 (f := .glo "is_below") rfl), F_is_below.kp, FunD.bindsN F_is_below fun _ _ _ _ _ _ us hl => match us, hl with | [_, _], _ => rfl⟩
  have G_is_great : ∀ base, Sm.Fn prog w K mg base 5 "is_great" P_is_great (sp_is_great K) := fun base => ⟨_, fd_is_great, ok_is_great T F_is_great (G_require_worth base) (G_is_great_in base), He.glo_ok X G (c.s.d.fact 59 (f := .glo "is_great") rfl), F_is_great.kp, FunD.bindsN F_is_great fun _ _ _ _ _ _ us hl => match us, hl with | [_], _ => rfl⟩
  have G_plus : ∀ base, Sm.Fn prog w K mg base 6 "plus" P_plus (sp_plus K) := fun base => ⟨_, fd_plus, ok_plus T F_plus (G_require_operand base) (G_sum_in base), He.glo_ok X G (c.s.d.fact 26 (f := .glo "plus") rfl), F_plus.kp, FunD.bindsN F_plus fun _ _ _ _ _ _ us hl => match us, hl with | [_, _], _ => rfl⟩
  have G_minus : ∀ base, Sm.Fn prog w K mg base 6 "minus" P_minus (sp_minus K) := fun base => ⟨_, fd_minus, ok_minus T F_minus (G_require_operand base) (G_difference_in base), He.glo_ok X G (c.s.d.fact 24 (f := .glo "minus") rfl), F_minus.kp, FunD.bindsN F_minus fun _ _ _ _ _ _ us hl => match us, hl with | [_, _], _ => rfl⟩
  have G_times : ∀ base, Sm.Fn prog w K mg base 6 "times" P_times (sp_times K) := fun base => ⟨_, fd_times, ok_times T F_times (G_require_operand base) (G_product_in base), He.glo_ok X G (c.s.d.fact 27 (f := .glo "times") rfl), F_times.kp, FunD.bindsN F_times fun _ _ _ _ _ _ us hl => match us, hl with | [_, _], _ => rfl⟩
  have G_over : ∀ base, Sm.Fn prog w K mg base 6 "over" P_over (sp_over K) := fun base => ⟨_, fd_over, ok_over T F_over (G_require_operand base) (G_quotient_in base), He.glo_ok X G (c.s.d.fact 25 (f := .glo "over") rfl), F_over.kp, FunD.bindsN F_over fun _ _ _ _ _ _ us hl => match us, hl with | [_, _], _ => rfl⟩
  have G__law_compared : ∀ base, Sm.Fn prog w K mg base 7 "_law_compared" P__law_compared (sp__law_compared K) := fun base => ⟨_, fd__law_compared, ok__law_compared T F__law_compared (G_is_below base) (G__law_multiplied base) (G_plus base) (G_times base) (G_is_great base), He.glo_ok X G (c.s.d.fact 72 (f := .glo "_law_compared") rfl), F__law_compared.kp, FunD.bindsN F__law_compared fun _ _ _ _ _ _ us hl => match us, hl with | [_, _], _ => rfl⟩
  have G__law_reckoned : ∀ base, (∀ p ∈ tf, LamX.TabB base mg (He.cT K p).1 (He.cT K p).2) → Sm.FnH prog w K mg base 9 "_law_reckoned" P__law_reckoned (sp__law_reckoned K) := fun base hTB => ⟨_, fd__law_reckoned, ok__law_reckoned T F__law_reckoned (G__law_added base) (G__law_multiplied base) (G__law_back base) (G__law_lowest base) (G_over base) (G_plus base) (G_times base) (G_minus base) (hTB _ (List.mem_of_getElem? (i := 0) rfl)) c.nod (catch_ok T (He.glo_ok X G (c.s.d.fact 69 (f := .glo "_law_met") rfl)) F__law_met (FunD.bindsN F__law_met fun _ _ _ _ _ _ us hl => match us, hl with | [_], _ => rfl)), He.glo_ok X G (c.s.d.fact 70 (f := .glo "_law_reckoned") rfl), F__law_reckoned.kp, FunD.bindsN F__law_reckoned fun _ _ _ _ _ _ us hl => match us, hl with | [_, _], _ => rfl⟩
  have G__law_refused_right : ∀ base, (∀ p ∈ tf, LamX.TabB base mg (He.cT K p).1 (He.cT K p).2) → Sm.FnH prog w K mg base 9 "_law_refused_right" P__law_refused_right (sp__law_refused_right K) := fun base hTB => ⟨_, fd__law_refused_right, ok__law_refused_right T F__law_refused_right (G__law_one_of base) (G_is_below base) (G_is_great base) (G_weighted_sum base) (G_worth base) (G_over base) (hTB _ (List.mem_of_getElem? (i := 1) rfl)) c.nod (catch_ok T (He.glo_ok X G (c.s.d.fact 69 (f := .glo "_law_met") rfl)) F__law_met (FunD.bindsN F__law_met fun _ _ _ _ _ _ us hl => match us, hl with | [_], _ => rfl)) (fun f hf => by rcases hf with rfl | rfl | rfl | rfl; exact ⟨fd_plus, bad_of_plus (ok_plus T F_plus (G_require_operand base) (G_sum_in base)), F_plus.kp, FunD.bindsN F_plus fun _ _ _ _ _ _ us hl => match us, hl with | [_, _], _ => rfl⟩; exact ⟨fd_minus, bad_of_minus (ok_minus T F_minus (G_require_operand base) (G_difference_in base)), F_minus.kp, FunD.bindsN F_minus fun _ _ _ _ _ _ us hl => match us, hl with | [_, _], _ => rfl⟩; exact ⟨fd_times, bad_of_times (ok_times T F_times (G_require_operand base) (G_product_in base)), F_times.kp, FunD.bindsN F_times fun _ _ _ _ _ _ us hl => match us, hl with | [_, _], _ => rfl⟩; exact ⟨fd_over, bad_of_over (ok_over T F_over (G_require_operand base) (G_quotient_in base)), F_over.kp, FunD.bindsN F_over fun _ _ _ _ _ _ us hl => match us, hl with | [_, _], _ => rfl⟩), He.glo_ok X G (c.s.d.fact 74 (f := .glo "_law_refused_right") rfl), F__law_refused_right.kp, FunD.bindsN F__law_refused_right fun _ _ _ _ _ _ us hl => match us, hl with | [_, _, _], _ => rfl⟩
  have G__law_right : ∀ base, (∀ p ∈ tf, LamX.TabB base mg (He.cT K p).1 (He.cT K p).2) → Sm.FnH prog w K mg base 10 "_law_right" P__law_right (sp__law_right K) := fun base hTB => ⟨_, fd__law_right, ok__law_right T F__law_right (G__law_refused_right base hTB) (G__law_operand base) (G__law_compared base) (G__law_roll base) (G__law_added base) (G_weighted_sum base) (G__law_reckoned base hTB) (G__law_fraction base) (G__law_multiplied base) (G__law_one_of base) (G_worth base) (G__law_lowest base) (G__law_judged base) (G_worth_1 base), He.glo_ok X G (c.s.d.fact 75 (f := .glo "_law_right") rfl), F__law_right.kp, FunD.bindsN F__law_right fun _ _ _ _ _ _ us hl => match us, hl with | [_], _ => rfl⟩
  exact ⟨fd_law, F_law, fun base hTB => ok_law T F_law (G__law_right base hTB) (G__law_dice base)⟩
end
theorem tabs_in {K : PySem.W.Frag} {H : L2.Hp} (h : ∀ p ∈ tf.map (He.cT K), H p.2 = some (.tbl #[])) : LamX.Tabs (TT K) H := by
  intro p hp
  rcases List.mem_cons.mp hp with rfl | hp
  · exact LamX.TabS.nil (h _ (List.mem_map.mpr ⟨("_law_reckoned", none), List.mem_of_getElem? (i := 0) rfl, rfl⟩))
  rcases List.mem_cons.mp hp with rfl | hp
  · exact LamX.TabS.nil (h _ (List.mem_map.mpr ⟨("_law_refused_right", none), List.mem_of_getElem? (i := 1) rfl, rfl⟩))
  cases hp
end K00
open PySem PySem.W PySem.Calls PyProof.Rows
theorem PySem.Challenge.cw_sumstead_k00_whole_worths_reckoned_holds : PySem.Challenge.rw_sumstead_k00_whole_worths_reckoned.Holds := by
  w_on; o_law
  refine HandSHeadRun.head_any (r := OpenLaw.row PySem.Challenge.rw_sumstead_k00_whole_worths_reckoned) (q := view (OpenLaw.row PySem.Challenge.rw_sumstead_k00_whole_worths_reckoned).prog [62]) (H := K00.hk) (ob := K00.ob) (M := 4000) (loose := K00.loose) (d := HandSHeadRun.topDef (OpenLaw.row PySem.Challenge.rw_sumstead_k00_whole_worths_reckoned).prog 62) (kwd := []) K00.ob_eq
    (by kernel_rfl) (fun s => by kernel_rfl) K00.run (by kernel_rfl) (by kernel_rfl) (by kernel_rfl) (by rfl) (by first | assumption | decide +kernel) (by decide +kernel) ⟨rfl, rfl, rfl, rfl, rfl, by decide +kernel⟩ ?hw ?hc
  case hw => w_witness2
  case hc =>
    refine Sm.walk_G (l := PySem.Challenge.rw_sumstead_k00_whole_worths_reckoned) (n := 63) (k := 11) (x := "_law_script") rfl (by decide) (by kernel_rfl) ⟨rfl, by decide, by decide⟩ ?F
    intro w mg fa h Y G hmg0
    obtain ⟨K, X, c⟩ := Y
    have hmg : mg ("law" : PySem.Str) = some (.ref fa) := by
      have e : (HandSHeadRun.topDef (OpenLaw.row PySem.Challenge.rw_sumstead_k00_whole_worths_reckoned).prog 62).name = ("law" : PySem.Str) := by kernel_rfl
      rw [← e]
      exact hmg0
    obtain ⟨fd, F, hF⟩ := K00.law_ok (w := w) X G c
    have e := hmg.symm.trans (He.glo_ok X G (c.s.d.fact 76 (f := .glo "law") rfl))
    cases e
    have b := L2.FunD.bindsA (ps := ["_law_script"]) F fun _ _ _ _ _ _ us hl => match us, hl with | [_], _ => rfl
    refine ⟨K, X, fd, K00.tf.map (He.cT K), K00.sp_law K, fun p hp => ?_, fun p hp => ?_, fun p hp => ?_, fun s v => b s [v] rfl, fun H a ns hl hT hS => ⟨a, ns, rfl, hS, hl, K00.tabs_in hT, fun _ => rfl⟩, fun base _ _ hTB => hF base fun q hq => hTB _ (List.mem_map.mpr ⟨q, hq, rfl⟩)⟩
    · obtain ⟨q, hq, rfl⟩ := List.mem_map.mp hp
      exact c.empty q hq
    · obtain ⟨q, hq, rfl⟩ := List.mem_map.mp hp
      exact c.out q hq
    · obtain ⟨q, hq, rfl⟩ := List.mem_map.mp hp
      exact PySem.W.codeHd_of_K X (c.hd q hq)
